import PyProof.Rows.All
import Wide.All
import OpenK.AllK
import Wide.FinOn
import HandS.ForMost
import HandS.Lambda
import HandS.Slots
import KE.KeyNested
import HandS.Exc
import HandS.TupAny
import HandS.TupMul
import HandS.Wide
import HandS.WideBits
import HandS.IsInst
import HandS.Gcd
import HandS.SortInts
import HandS.Deep
import HandS.Style
import HandS.More
import HandS.SlotsOwn
import KE.KStar
import HandS.Zip
import HandS.ExcOwn
import HandS.CallSlots
import HandS.Defaults
import HandS.Strs
import HandS.SetFor
import HandS.DictComp
import HandS.Dict
import HandS.List
import HandS.Comp
import HandS.HeadHook1
import HandS.HeadHook2
import HandS.HeadHook4
import KE.KSortTup
import HandS.Sort
import HandS.SortOrd
import HandS.NamedTupSort
import HandS.TupSets
import HandS.TryMany
import HandS.ExcField
import HandS.CallLocal
import KE.KExcSuper
import HandS.EndBits
import HandS.EndTab
import HandS.RaiseMore
import HandS.TupLen
import HandS.DictTup
import HandS.Iter
import HandS.Conv
import KE.KDictSum
import KE.GoesMore
import PyProof.Draws
import PyProof.EnumMake
import HandS.Star
import PyProof.Rows.TupDisplay
import KE.IntBitsLaws
import HandS.Text
import PyProof.TupleOfSeq
import PyProof.TupleOfGen
import KE.KDictWalk
import KE.KDictList
import HandS.SortKw
import PyProof.WalkInts
import KE.KMinKey
import HandS.SetBool
import PyProof.DictTable
import KE.KDictCopyH
import PyProof.SumAny
import PyProof.WalksS
import HandS.FStr
import PyProof.DictMoreH
import HandS.ExcValue
import KE.KNest
import HandS.Property
import PyProof.SliceList
import PyProof.FactsAll.tuple_2
import PyProof.EqAt
import PyProof.NeKinds
import OpenK.KOps
import OpenK.KMeth
import KE.DataEq
import KE.KEqDict
import PyProof.DictFindH
import HandS.GenList
import HandS.IterVal
import PyProof.CodeObjX
import KE.KDictIter
import PyProof.Rows.SortShellAny
import KE.DataMinMax
import PyProof.P3Eq
import PyProof.FactsAll.list_3
import PyProof.ListMulRoad
import KE.SortData
import KE.DataCmp
import KE.KDictOf
import KE.KDictPairs
import KE.KDictZip
import HandS.Keys
import KE.SortCalls
import PySem.Challenge.RW_crestjoin_k05_whole_degrees
import KE.KStateDown
import HandS.Ends
import HandS.HeadEnd
import HandS.Head0
import HandS.Head1
import HandS.Head2
import HandS.Head3
set_option Elab.async false
set_option linter.all false
set_option maxRecDepth 100000
namespace Mv
open PySem PySem.Spec PyProof.Rows L2
inductive BTy where
  | none | bool | int | str | tuple | list | dict | set
def BTy.name : BTy → String
  | .none => "NoneType"
  | .bool => "bool"
  | .int => "int"
  | .str => "str"
  | .tuple => "tuple"
  | .list => "list"
  | .dict => "dict"
  | .set => "set"
inductive VV where
  | non | bl (b : Bool) | int (i : Int) | str (x : Str) | ty (n : BTy)
  | tup (xs : List VV) | lst (xs : List VV) | rol (xs : List VV) | dct (ks vs : List VV) | ins (c : Nat) (fs : List VV)
  | ref (n : Nat) | adr (n : Nat) | dtt (ks vs : List VV) | ktu (xs : List VV)
structure Gx where
  adr : Nat → Addr
  fld : Nat → Str
  wo : World
inductive VO where
  | lst (xs : List VV) | dead | tbl (n : Nat) (q : Str) | dtt (ks vs : List VV) | dct (ks vs : List VV)
  
  | ins (c m : Nat) (vs : List (Option VV))
  
  | sub (b : Bool)
  
  | dtr (ks vs : List VV)
  
  | lck (i : Nat)
abbrev VH := List VO
structure Exn where
  c : Nat
  pay : Option VV
inductive Out (α : Type) where
  | ok (a : α) (h : VH) | exc (x : Exn) (h : VH) | bad
def Out.bind {α β : Type} (r : Out α) (f : α → VH → Out β) : Out β := match r with
  | .ok a h => f a h
  | .exc x h => .exc x h
  | .bad => .bad
structure Wd where
  phi : List (Option Addr)
  P : Addr → Prop
  O : List (Option Addr)
  
  Q : Nat → HO
def Wd.mut (w : Wd) (a : Addr) : Prop := some a ∈ w.phi ∨ w.P a ∨ some a ∈ w.O
def vvK : Key → VV
  | .inl i => .int i
  | .inr x => .str x
mutual
def nkey : VV → Option NestedKey
  | .non => some .none
  | .bl b => some (.num (if b then 1 else 0))
  | .int i => some (.num i)
  | .str x => some (.text x)
  | .tup xs => (nkeys xs).map .tup
  | .ktu xs => (nkeys xs).map .tup
  | _ => none
def nkeys : List VV → Option (List NestedKey)
  | [] => some []
  | x :: r => (nkey x).bind fun k => (nkeys r).map fun ks => k :: ks
end
def DtO (a : Addr) (ob : Obj) : HO := .ext fun h => h.get? a = some ob
def DtAt (wo : World) (ob : Obj) (xs : List (NestedKey × Addr × Value)) : Prop := ob.ExactDict ∧ ∃ es ep, ob.data = .dict es ep ∧ es.toList = xs.map (fun x => ⟨x.1.hash wo, .ref x.2.1, x.2.2⟩) ∧ (xs.map (·.1)).Nodup
def keysT (kvs : List (List Key × V)) : List VV := kvs.map fun p => .tup (p.1.map vvK)
section
variable (K : PySem.W.Frag) (G : Gx)
def KLst (a : Addr) (xs : List V) : Prop := ∃ (o : Obj) (its : Array Value) (n : Nat), K.lookup a = some o ∧ o.cls = .type "list" ∧ o.dict = none ∧ o.data = .seq its n ∧ its.size ≤ sizeLine ∧ Vals xs its.toList
def KTup (a : Addr) (xs : List V) : Prop := ∃ (o : Obj) (its : Array Value) (n : Nat), K.lookup a = some o ∧ o.cls = .type "tuple" ∧ o.data = .seq its n ∧ its.size ≤ sizeLine ∧ Vals xs its.toList ∧ o.dict = none
def BdP (ob : Obj) (vs : List V) : Prop := ob.ExactDict ∧ ∃ es ep, ob.data = .dict es ep ∧ es.size = vs.length ∧ ∀ (i : Nat) (v : V), vs[i]? = some v → ∃ en, es[i]? = some en ∧ RelV v en.key
def lamsOf : Stmt → List Expr
  | .For _ (.Tuple es _ _) _ _ _ => es
  | .Expr (.Call _ es _ _) _ => es
  | _ => []
def lamE : Expr → Option (Arguments × Expr × Scope)
  | .Lambda a b s _ => some (a, b, s)
  | _ => none
abbrev LamT := Arguments × Expr × Scope × Str
def lamAt (b : List Stmt) (q : Str) (i j : Nat) : Option LamT := (b[i]?.bind fun st => (lamsOf st)[j]?.bind lamE).map fun t => (t.1, t.2.1, t.2.2, q ++ ".<locals>." ++ "<lambda>")
def lamK (a : Addr) (i j : Nat) : Option LamT := match K.lookup a with
  | some ⟨_, _, .func fd, _⟩ => (match fd.body with
    | .stmts b => lamAt b fd.qualname i j
    | _ => none)
  | _ => none
def LamP (w : Wd) (H : Hp) (a : Addr) (ob : Obj) (vs : List V) : Prop := ∃ (i j : Nat) (t : LamT) (pm : Value) (c2 : Addr) (ct : Value), vs = [.int i, .int j] ∧ lamK K a i j = some t ∧ ob = PySem.W.kla_obj "<lambda>" t.2.2.2 t.1 t.2.1 t.2.2.1 [] pm c2 ct ∧ H c2 = some (LamX.CodeO c2 t.2.2.2) ∧ ¬ w.mut c2
def InsP (w : Wd) (H : Hp) (a : Addr) (ob : Obj) (vs : List V) : Nat → Prop
  | 0 => (a == sysModules) = false ∧ BdP ob vs
  | n + 1 => LamP K w H (G.adr n) ob vs
mutual
def RV (w : Wd) (H : Hp) : VV → V → Prop
  | .non, y => y = .non
  | .bl b, y => y = .bl b
  | .int i, y => y = .int i
  | .str x, y => y = .str x
  | .ty n, y => y = .ty n.name
  | .tup xs, y => ∃ a ys, y = .ref a ∧ (H a = some (.tup ys) ∧ ¬ w.mut a) ∧ RVs w H xs ys
  | .ktu xs, y => ∃ a ys, y = .ref a ∧ (KTup K a ys ∨ ∃ o, H a = some (.frz o (.tup ys)) ∧ o.dict = none ∧ ¬ w.mut a) ∧ RVs w H xs ys
  | .lst xs, y => ∃ a ys, y = .ref a ∧ (H a = some (.lst ys) ∧ ¬ w.mut a) ∧ RVs w H xs ys
  | .rol xs, y => ∃ a ys, y = .ref a ∧ ((∃ o, H a = some (.frz o (.lst ys)) ∧ ¬ w.mut a) ∨ KLst K a ys) ∧ RVs w H xs ys
  | .dct ks vs, y => ∃ a kvs, y = .ref a ∧ (∃ o, H a = some (.frz o (.dK kvs)) ∧ ¬ w.mut a) ∧ RVs w H ks (kvs.map fun p => kV p.1) ∧ RVs w H vs (kvs.map fun p => p.2)
  | .ins c fs, y => ∃ a vs, y = .ref a ∧ (∃ ob, H a = some (.frz ob (.ext fun _ => True)) ∧ InsP K G w H a ob vs c ∧ ¬ w.mut a) ∧ RVs w H fs vs
  | .ref n, y => ∃ a, y = .ref a ∧ n < w.phi.length ∧ ∀ b, w.phi[n]? = some (some b) → b = a
  | .adr n, y => y = .ref (G.adr n)
  | .dtt ks vs, y => ∃ a kvs, y = .ref a ∧ (∃ o, H a = some (.frz o (.dT kvs)) ∧ ¬ w.mut a) ∧ ks = keysT kvs ∧ RVs w H vs (kvs.map fun p => p.2)
def RVs (w : Wd) (H : Hp) : List VV → List V → Prop
  | [], ys => ys = []
  | x :: xs, ys => ∃ y r, ys = y :: r ∧ RV w H x y ∧ RVs w H xs r
end
def TabW (w : Wd) (H : Hp) (a : Addr) (q : Str) : Prop := ∃ ps : Array Value, H a = some (.tbl ps) ∧ TriplesOk ps.toList ∧ ∀ (pos : Pos) (cv : Value), codeAmong pos ps.toList = some cv → ∃ c, cv = .ref c ∧ H c = some (LamX.CodeO c q) ∧ ¬ w.mut c
def RVo (w : Wd) (H : Hp) : List (Option VV) → List (Option V) → Prop
  | [], ys => ys = []
  | none :: r, ys => ∃ y l, ys = y :: l ∧ RVo w H r l
  | some x :: r, ys => ∃ y l, ys = some y :: l ∧ RV K G w H x y ∧ RVo w H r l
def RDt (w : Wd) (H : Hp) : List VV → List VV → List (NestedKey × Addr × Value) → Prop
  | [], [], xs => xs = []
  | k :: ks, v :: vs, xs => ∃ nk b u y r, xs = (nk, b, u) :: r ∧ nkey k = some nk ∧ nk.depth ≤ 8 ∧ RV K G w H k (.ref b) ∧ RelV y u ∧ RV K G w H v y ∧ RDt w H ks vs r
  | _, _, _ => False
def RO (w : Wd) (H : Hp) : VO → Addr → Prop
  | .lst xs, a => ∃ ys, H a = some (.lst ys) ∧ RVs K G w H xs ys
  | .dead, _ => False
  | .lck i, a => H a = some (w.Q i)
  | .tbl n q, a => a = G.adr n ∧ TabW w H a q
  | .dtt ks vs, a => ∃ kvs, H a = some (.dT kvs) ∧ ks = keysT kvs ∧ RVs K G w H vs (kvs.map fun p => p.2)
  | .dct ks vs, a => ∃ kvs, H a = some (.dK kvs) ∧ RVs K G w H ks (kvs.map fun p => kV p.1) ∧ RVs K G w H vs (kvs.map fun p => p.2)
  | .ins c m vs, a => ∃ dx, (m < w.phi.length ∧ ∀ b, w.phi[m]? = some (some b) → b = dx) ∧ ((vs = [] ∧ H a = some (.ins (G.adr c) dx [])) ∨ (vs ≠ [] ∧ ∃ ys, H a = some (SlX.SlO a (G.adr c) dx ys) ∧ RVo K G w H vs ys))
  | .sub true, a => H a = some (.xd [])
  | .sub false, a => ∃ b, H a = some (.own b)
  | .dtr ks vs, a => ∃ ob xs, H a = some (DtO a ob) ∧ (a == sysModules) = false ∧ DtAt G.wo ob xs ∧ RDt K G w H ks vs xs
def dat : HO → Bool
  | .tbl _ => false
  | .ext _ => false
  | .tup _ => false
  | _ => true
def Spc (w : Wd) (a : Addr) : HO → Prop
  | .tbl _ => some a ∈ w.phi
  | .ext φ => (∃ q, HO.ext φ = LamX.CodeO a q) → ¬ w.mut a
  | .tup _ => ¬ w.mut a
  | _ => True
theorem Spc.of {w : Wd} {a : Addr} {o : HO} (h : dat o = true) : Spc w a o := by
  cases o with
  | tbl _ => cases h
  | ext _ => cases h
  | tup _ => cases h
  | _ => trivial
theorem Spc.imp {w w' : Wd} {a : Addr} {o : HO} (h1 : some a ∈ w.phi → some a ∈ w'.phi) (h2 : w'.mut a → w.mut a) (h : Spc w a o) : Spc w' a o := by
  cases o with
  | tbl _ => exact h1 h
  | ext _ => exact fun q z => h q (h2 z)
  | tup _ => exact fun z => h (h2 z)
  | _ => trivial
def Spcs (w : Wd) (H : Hp) : Prop := ∀ (a : Addr) (o : HO), H a = some o → Spc w a o
theorem Spcs.imp {w w' : Wd} {H : Hp} (k : Spcs w H) (h : ∀ a, (some a ∈ w.phi → some a ∈ w'.phi) ∧ (w'.mut a → w.mut a)) : Spcs w' H := fun a o e => (k a o e).imp (h a).1 (h a).2
theorem Spcs.upd {w w' : Wd} {H : Hp} {p : Addr} {o : HO} (k : Spcs w H) (hd : ∀ z, Spc z p o) (h : ∀ a, a ≠ p → (some a ∈ w.phi → some a ∈ w'.phi) ∧ (w'.mut a → w.mut a)) : Spcs w' (upd H p o) := fun a u e => by
  by_cases c : a = p
  · subst c
    rw [upd_same] at e
    cases e
    exact hd _
  · rw [upd_ne c] at e
    exact (k a u e).imp (h a c).1 (h a c).2
def nt : HO → Bool
  | .tbl _ => false
  | _ => true
theorem Spcs.new {w : Wd} {H : Hp} {p : Addr} {o : HO} (k : Spcs w H) (hd : nt o = true) (hp : ¬ w.mut p) : Spcs w (L2.upd H p o) := fun a u e => by
  by_cases c : a = p
  · subst c
    rw [upd_same] at e
    cases e
    cases o with
    | tbl _ => cases hd
    | ext _ => exact fun _ => hp
    | tup _ => exact hp
    | _ => trivial
  · rw [upd_ne c] at e
    exact k a u e
theorem Spcs.put {w : Wd} {H : Hp} {p : Addr} {o : HO} (k : Spcs w H) (hd : ∀ z, Spc z p o) : Spcs w (L2.upd H p o) := k.upd hd fun _ _ => ⟨id, id⟩
structure Hk (w : Wd) (h : VH) (H : Hp) : Prop where
  len : w.phi.length = h.length
  inj : ∀ (n m : Nat) (a : Addr), w.phi[n]? = some (some a) → w.phi[m]? = some (some a) → n = m
  obj : ∀ (n : Nat) (a : Addr), w.phi[n]? = some (some a) → ∃ o, h[n]? = some o ∧ RO K G w H o a
  has : ∀ (n : Nat) (o : VO), h[n]? = some o → o ≠ .dead → ∃ a, w.phi[n]? = some (some a)
  prot : ∀ a, w.P a ∨ some a ∈ w.O → H a ≠ none ∧ some a ∉ w.phi
  own : ∀ a, w.P a → some a ∉ w.O
  ownI : ∀ (n m : Nat) (a : Addr), w.O[n]? = some (some a) → w.O[m]? = some (some a) → n = m
  spc : Spcs w H
end
structure Ext (w : Wd) (H : Hp) (w' : Wd) (H' : Hp) : Prop where
  keep : ∀ a o, H a = some o → ¬ w.mut a → H' a = some o ∧ ¬ w'.mut a
  refs : ∀ (n : Nat) (b : Addr), n < w.phi.length → w'.phi[n]? = some (some b) → w.phi[n]? = some (some b)
  len : w.phi.length ≤ w'.phi.length
  P : w'.P = w.P
  Q : w'.Q = w.Q
  O : w'.O = w.O
  prot : ∀ a, w.P a ∨ some a ∈ w.O → H' a = H a
theorem Ext.refl (w : Wd) (H : Hp) : Ext w H w H := ⟨fun _ _ h m => ⟨h, m⟩, fun _ _ _ h => h, Nat.le_refl _, rfl, rfl, rfl, fun _ _ => rfl⟩
theorem Ext.trans {w w1 w2 : Wd} {H H1 H2 : Hp} (a : Ext w H w1 H1) (b : Ext w1 H1 w2 H2) : Ext w H w2 H2 where
  keep := fun c o h m => let ⟨h1, m1⟩ := a.keep c o h m; b.keep c o h1 m1
  refs := fun n c hn h => a.refs n c hn (b.refs n c (Nat.lt_of_lt_of_le hn a.len) h)
  len := Nat.le_trans a.len b.len
  P := b.P.trans a.P
  Q := b.Q.trans a.Q
  O := b.O.trans a.O
  prot := fun c hc => (b.prot c (by rw [a.P, a.O]; exact hc)).trans (a.prot c hc)
section
variable {K : PySem.W.Frag} {G : Gx} {w w' : Wd} {H H' : Hp}
structure Sees (w : Wd) (H : Hp) (w' : Wd) (H' : Hp) : Prop where
  keep : ∀ a o, H a = some o → ¬ w.mut a → H' a = some o ∧ ¬ w'.mut a
  refs : ∀ (n : Nat) (b : Addr), n < w.phi.length → w'.phi[n]? = some (some b) → w.phi[n]? = some (some b)
  len : w.phi.length ≤ w'.phi.length
  Q : w'.Q = w.Q
theorem Ext.sees (e : Ext w H w' H') : Sees w H w' H' := ⟨e.keep, e.refs, e.len, e.Q⟩
theorem LamP.imp {a : Addr} {ob : Obj} {vs : List V} (e : ∀ c o, H c = some o → ¬ w.mut c → (∃ q, o = LamX.CodeO c q) → H' c = some o ∧ ¬ w'.mut c) (h : LamP K w H a ob vs) : LamP K w' H' a ob vs := by
  obtain ⟨i, j, t, pm, c2, ct, h1, h2, h3, h4, h5⟩ := h
  obtain ⟨h6, h7⟩ := e c2 _ h4 h5 ⟨_, rfl⟩
  exact ⟨i, j, t, pm, c2, ct, h1, h2, h3, h6, h7⟩
theorem InsP.imp {a : Addr} {ob : Obj} {vs : List V} (e : ∀ c o, H c = some o → ¬ w.mut c → (∃ q, o = LamX.CodeO c q) → H' c = some o ∧ ¬ w'.mut c) : ∀ {c : Nat}, InsP K G w H a ob vs c → InsP K G w' H' a ob vs c
  | 0, h => h
  | _ + 1, h => LamP.imp e h
theorem InsP.mono {a : Addr} {ob : Obj} {vs : List V} {c : Nat} (e : Sees w H w' H') (h : InsP K G w H a ob vs c) : InsP K G w' H' a ob vs c := h.imp fun c o h m _ => e.keep c o h m
mutual
theorem RV.mono (e : Sees w H w' H') : ∀ (v : VV) (y : V), RV K G w H v y → RV K G w' H' v y
  | .non, _, h => by simp only [RV] at h ⊢; exact h
  | .bl _, _, h => by simp only [RV] at h ⊢; exact h
  | .int _, _, h => by simp only [RV] at h ⊢; exact h
  | .str _, _, h => by simp only [RV] at h ⊢; exact h
  | .ty _, _, h => by simp only [RV] at h ⊢; exact h
  | .tup xs, _, h => by
    simp only [RV] at h ⊢
    obtain ⟨a, ys, e1, h1, h2⟩ := h
    exact ⟨a, ys, e1, e.keep a _ h1.1 h1.2, RVs.mono e xs ys h2⟩
  | .ktu xs, _, h => by
    simp only [RV] at h ⊢
    obtain ⟨a, ys, e1, h1, h2⟩ := h
    exact ⟨a, ys, e1, h1.imp id (fun ⟨o, q1, q2, q3⟩ => ⟨o, (e.keep a _ q1 q3).1, q2, (e.keep a _ q1 q3).2⟩), RVs.mono e xs ys h2⟩
  | .lst xs, _, h => by
    simp only [RV] at h ⊢
    obtain ⟨a, ys, e1, h1, h2⟩ := h
    exact ⟨a, ys, e1, e.keep a _ h1.1 h1.2, RVs.mono e xs ys h2⟩
  | .rol xs, _, h => by
    simp only [RV] at h ⊢
    obtain ⟨a, ys, e1, h1, h2⟩ := h
    exact ⟨a, ys, e1, h1.imp (fun ⟨o, q1, q2⟩ => ⟨o, e.keep a _ q1 q2⟩) id, RVs.mono e xs ys h2⟩
  | .dct ks vs, _, h => by
    simp only [RV] at h ⊢
    obtain ⟨a, kvs, e1, ⟨o, h1, h1'⟩, h2, h3⟩ := h
    exact ⟨a, kvs, e1, ⟨o, e.keep a _ h1 h1'⟩, RVs.mono e ks _ h2, RVs.mono e vs _ h3⟩
  | .ins _ fs, _, h => by
    simp only [RV] at h ⊢
    obtain ⟨a, vs, e1, ⟨ob, h1, h2, h3⟩, h4⟩ := h
    exact ⟨a, vs, e1, ⟨ob, (e.keep a _ h1 h3).1, h2.mono e, (e.keep a _ h1 h3).2⟩, RVs.mono e fs vs h4⟩
  | .ref n, _, h => by
    simp only [RV] at h ⊢
    obtain ⟨a, e1, h1, h2⟩ := h
    exact ⟨a, e1, Nat.lt_of_lt_of_le h1 e.len, fun b hb => h2 b (e.refs n b h1 hb)⟩
  | .adr _, _, h => by simp only [RV] at h ⊢; exact h
  | .dtt ks vs, _, h => by
    simp only [RV] at h ⊢
    obtain ⟨a, kvs, e1, ⟨o, h1, h1'⟩, h2, h3⟩ := h
    exact ⟨a, kvs, e1, ⟨o, e.keep a _ h1 h1'⟩, h2, RVs.mono e vs _ h3⟩
theorem RVs.mono (e : Sees w H w' H') : ∀ (v : List VV) (y : List V), RVs K G w H v y → RVs K G w' H' v y
  | [], _, h => by simp only [RVs] at h ⊢; exact h
  | x :: xs, _, h => by
    simp only [RVs] at h ⊢
    obtain ⟨y, r, e1, h1, h2⟩ := h
    exact ⟨y, r, e1, RV.mono e x y h1, RVs.mono e xs r h2⟩
end
theorem RVo.mono (e : Sees w H w' H') : ∀ (v : List (Option VV)) (y : List (Option V)), RVo K G w H v y → RVo K G w' H' v y
  | [], _, h => by simp only [RVo] at h ⊢; exact h
  | none :: r, _, h => by
    simp only [RVo] at h ⊢
    obtain ⟨y, l, e1, h1⟩ := h
    exact ⟨y, l, e1, RVo.mono e r l h1⟩
  | some x :: r, _, h => by
    simp only [RVo] at h ⊢
    obtain ⟨y, l, e1, h1, h2⟩ := h
    exact ⟨y, l, e1, RV.mono e x y h1, RVo.mono e r l h2⟩
theorem RVs.length : ∀ {v : List VV} {y : List V}, RVs K G w H v y → v.length = y.length
  | [], _, h => by simp only [RVs] at h; subst h; rfl
  | x :: xs, _, h => by
    simp only [RVs] at h
    obtain ⟨y, r, rfl, _, h2⟩ := h
    simp [RVs.length h2]
theorem RVs.get : ∀ {v : List VV} {y : List V}, RVs K G w H v y → ∀ (i : Nat) (x : VV), v[i]? = some x → ∃ z, y[i]? = some z ∧ RV K G w H x z
  | [], _, _, i, x, hx => by simp at hx
  | x :: xs, _, h, i, z, hx => by
    simp only [RVs] at h
    obtain ⟨y, r, rfl, h1, h2⟩ := h
    cases i with
    | zero => simp at hx; subst hx; exact ⟨y, rfl, h1⟩
    | succ i => simpa using RVs.get h2 i z (by simpa using hx)
theorem RVs.app : ∀ {v v' : List VV} {y y' : List V}, RVs K G w H v y → RVs K G w H v' y' → RVs K G w H (v ++ v') (y ++ y')
  | [], _, _, _, h, h' => by simp only [RVs] at h; subst h; exact h'
  | x :: xs, _, _, _, h, h' => by
    simp only [RVs] at h
    obtain ⟨y, r, rfl, h1, h2⟩ := h
    simp only [List.cons_append, RVs]
    exact ⟨y, _, rfl, h1, RVs.app h2 h'⟩
theorem RVs.take : ∀ {v : List VV} {y : List V} (n : Nat), RVs K G w H v y → RVs K G w H (v.take n) (y.take n)
  | _, _, 0, _ => by simp [RVs]
  | [], _, n + 1, h => by simp only [RVs] at h; subst h; simp [RVs]
  | x :: xs, _, n + 1, h => by
    simp only [RVs] at h
    obtain ⟨y, r, rfl, h1, h2⟩ := h
    simp only [List.take_succ_cons, RVs]
    exact ⟨y, _, rfl, h1, RVs.take n h2⟩
theorem RVs.drop : ∀ {v : List VV} {y : List V} (n : Nat), RVs K G w H v y → RVs K G w H (v.drop n) (y.drop n)
  | _, _, 0, h => by simpa using h
  | [], _, n + 1, h => by simp only [RVs] at h; subst h; simp [RVs]
  | x :: xs, _, n + 1, h => by
    simp only [RVs] at h
    obtain ⟨y, r, rfl, h1, h2⟩ := h
    simpa using RVs.drop n h2
theorem RVs.set : ∀ {v : List VV} {y : List V} (n : Nat) {x : VV} {z : V}, RVs K G w H v y → RV K G w H x z → RVs K G w H (v.set n x) (y.set n z)
  | [], _, n, _, _, h, _ => by simp only [RVs] at h; subst h; simp [RVs]
  | a :: xs, _, 0, _, _, h, h' => by
    simp only [RVs] at h
    obtain ⟨y, r, rfl, h1, h2⟩ := h
    simp only [List.set_cons_zero, RVs]
    exact ⟨_, _, rfl, h', h2⟩
  | a :: xs, _, n + 1, _, _, h, h' => by
    simp only [RVs] at h
    obtain ⟨y, r, rfl, h1, h2⟩ := h
    simp only [List.set_cons_succ, RVs]
    exact ⟨y, _, rfl, h1, RVs.set n h2 h'⟩
theorem RVs.ints : ∀ {ns : List Int} {y : List V}, RVs K G w H (ns.map VV.int) y → y = ns.map V.int
  | [], _, h => by simpa only [List.map_nil, RVs] using h
  | n :: ns, _, h => by
    simp only [List.map_cons, RVs, RV] at h
    obtain ⟨y, r, rfl, rfl, h2⟩ := h
    simp [RVs.ints h2]
theorem RVs.of_ints : ∀ (ns : List Int), RVs K G w H (ns.map VV.int) (ns.map V.int)
  | [] => by simp [RVs]
  | n :: ns => by simp only [List.map_cons, RVs, RV]; exact ⟨_, _, rfl, rfl, RVs.of_ints ns⟩
theorem RVs.bls : ∀ {ns : List Bool} {y : List V}, RVs K G w H (ns.map VV.bl) y → y = ns.map V.bl
  | [], _, h => by simpa only [List.map_nil, RVs] using h
  | n :: ns, _, h => by
    simp only [List.map_cons, RVs, RV] at h
    obtain ⟨y, r, rfl, rfl, h2⟩ := h
    simp [RVs.bls h2]
theorem Hk.live {h : VH} (k : Hk K G w h H) {a : Addr} (m : w.mut a) : H a ≠ none := by
  rcases m with m | m | m
  · obtain ⟨n, hn⟩ := List.getElem?_of_mem m
    obtain ⟨o, _, r⟩ := k.obj n a hn
    cases o with
    | lst xs =>
      obtain ⟨ys, e, _⟩ := r
      rw [e]
      simp
    | dead => exact r.elim
    | tbl m q =>
      obtain ⟨_, ps, e, _⟩ := r
      rw [e]
      simp
    | dtt ks vs =>
      obtain ⟨kvs, e, _⟩ := r
      rw [e]
      simp
    | dct ks vs =>
      obtain ⟨kvs, e, _⟩ := r
      rw [e]
      simp
    | ins c m vs =>
      obtain ⟨dx, _, ⟨_, e⟩ | ⟨_, ys, e, _⟩⟩ := r
      · rw [e]; simp
      · rw [e]; simp
    | sub b =>
      cases b with
      | true => rw [show H a = some (.xd []) from r]; simp
      | false =>
        obtain ⟨b, e⟩ := r
        rw [e]; simp
    | dtr ks vs =>
      obtain ⟨ob, xs, e, _⟩ := r
      rw [e]; simp
    | lck i =>
      rw [show H a = some (w.Q i) from r]; simp
  · exact (k.prot a (.inl m)).1
  · exact (k.prot a (.inr m)).1
theorem Hk.fresh {h : VH} (k : Hk K G w h H) {p : Addr} (hp : H p = none) : ¬ w.mut p := fun m => k.live m hp
theorem Ext.grow {h : VH} (k : Hk K G w h H) {o : HO} {p : Addr} (hp : H p = none) : Ext w H w (upd H p o) where
  keep := fun a u q m => ⟨by rw [upd_ne (ne_of_none q hp)]; exact q, m⟩
  refs := fun _ _ _ q => q
  len := Nat.le_refl _
  P := rfl
  Q := rfl
  O := rfl
  prot := fun a ha => upd_ne fun e => k.live (.inr ha) (e ▸ hp)
theorem RDt.mono (e : Sees w H w' H') : ∀ {ks vs : List VV} {xs : List (NestedKey × Addr × Value)}, RDt K G w H ks vs xs → RDt K G w' H' ks vs xs
  | [], [], _, h => h
  | k :: ks, v :: vs, _, ⟨nk, b, u, y, r, e1, e2, e3, e4, e5, e6, e7⟩ => ⟨nk, b, u, y, r, e1, e2, e3, RV.mono e _ _ e4, e5, RV.mono e _ _ e6, RDt.mono e e7⟩
  | [], _ :: _, _, h => h.elim
  | _ :: _, [], _, h => h.elim
theorem RO.mono (e : Sees w H w' H') : ∀ (o : VO) (a : Addr), (∀ u, H a = some u → H' a = some u) → RO K G w H o a → RO K G w' H' o a
  | .lst xs, a, k, ⟨ys, h1, h2⟩ => ⟨ys, k _ h1, RVs.mono e xs ys h2⟩
  | .dead, _, _, r => r.elim
  | .tbl _ _, a, k, ⟨h0, ps, h1, h2, h3⟩ => ⟨h0, ps, k _ h1, h2, fun pos cv q => by
    obtain ⟨c, e1, e2, e3⟩ := h3 pos cv q
    obtain ⟨e4, e5⟩ := e.keep c _ e2 e3
    exact ⟨c, e1, e4, e5⟩⟩
  | .dtt ks vs, a, k, ⟨kvs, h1, h2, h3⟩ => ⟨kvs, k _ h1, h2, RVs.mono e vs _ h3⟩
  | .dct ks vs, a, k, ⟨kvs, h1, h2, h3⟩ => ⟨kvs, k _ h1, RVs.mono e ks _ h2, RVs.mono e vs _ h3⟩
  | .ins c m vs, a, k, ⟨dx, ⟨h1, h2⟩, h3⟩ => ⟨dx, ⟨Nat.lt_of_lt_of_le h1 e.len, fun b hb => h2 b (e.refs m b h1 hb)⟩, h3.imp (fun ⟨p, q⟩ => ⟨p, k _ q⟩) fun ⟨p, ys, q, r⟩ => ⟨p, ys, k _ q, RVo.mono e vs ys r⟩⟩
  | .sub true, a, k, h => k _ h
  | .sub false, a, k, ⟨b, h⟩ => ⟨b, k _ h⟩
  | .dtr ks vs, a, k, ⟨ob, xs, h1, h2, h3, h4⟩ => ⟨ob, xs, k _ h1, h2, h3, RDt.mono e h4⟩
  | .lck i, a, k, h => by
    have h : H a = some (w.Q i) := h
    show H' a = some (w'.Q i)
    rw [e.Q]
    exact k _ h
theorem Hk.grow {h : VH} (k : Hk K G w h H) {o : HO} {p : Addr} (hp : H p = none) (hd : nt o = true := by rfl) : Hk K G w h (upd H p o) where
  len := k.len
  inj := k.inj
  obj := fun n a hn => by
    obtain ⟨u, h1, h2⟩ := k.obj n a hn
    exact ⟨u, h1, RO.mono (Ext.grow k hp).sees u a (fun z q => by rw [upd_ne (ne_of_none q hp)]; exact q) h2⟩
  has := k.has
  prot := fun a ha => by
    obtain ⟨h1, h2⟩ := k.prot a ha
    refine ⟨?_, h2⟩
    rw [upd_ne (show a ≠ p from fun e => h1 (by rw [e]; exact hp))]
    exact h1
  own := k.own
  ownI := k.ownI
  spc := k.spc.new hd (k.fresh hp)
end
end Mv
set_option Elab.async false
set_option linter.all false
set_option maxRecDepth 100000
namespace Mv
open PySem PySem.Spec PyProof.Rows L2
abbrev Sv := List (Option VV)
abbrev ME := Sv → VH → Out VV
abbrev MT := Sv → VH → Out Bool
abbrev MA := Sv → VH → Out (List VV)
section
variable (K : PySem.W.Frag) (g : Gx)
abbrev Rel (α β : Type) := Wd → Hp → α → β → Prop
def relV : Rel VV V := fun w H v y => RV K g w H v y
def relVs : Rel (List VV) (List V) := fun w H v y => RVs K g w H v y
def relB : Rel Bool Bool := fun _ _ b c => b = c
def RX (w : Wd) (H : Hp) (x : Exn) (cls : Value) (d : Option Addr) : Prop := cls = .ref (g.adr x.c) ∧ match x.pay with
  | none => True
  | some v => ∃ dd y, d = some dd ∧ H dd = some (.xd [(g.fld x.c, y)]) ∧ ¬ w.mut dd ∧ RV K g w H v y
structure RSl (w : Wd) (H : Hp) (sv : Sv) (σ : L2.St) : Prop where
  len : sv.length = σ.length
  get : ∀ (i : Nat) (v : VV), sv[i]? = some (some v) → ∃ y, σ[i]? = some (some y) ∧ RV K g w H v y
theorem RSl.mono {w w' : Wd} {H H' : Hp} {sv : Sv} {σ : L2.St} (h : RSl K g w H sv σ) (e : Sees w H w' H') : RSl K g w' H' sv σ := ⟨h.len, fun i v q =>
  let ⟨y, h1, h2⟩ := h.get i v q
  ⟨y, h1, RV.mono e v y h2⟩⟩
def Post {α β : Type} (R : Rel α β) (w : Wd) (H : Hp) (σ : L2.St) (Q : β → Hp → Prop) (W : WX) : Out α → Prop
  | .ok v h => ∀ w' H' y, Ext w H w' H' → Hk K g w' h H' → R w' H' v y → Q y H'
  | .exc x h => ∀ w' H' cls d, Ext w H w' H' → Hk K g w' h H' → RX K g w' H' x cls d → W cls d σ H'
  | .bad => False
def tG {α β : Type} (R : Rel α β) (m : Sv → VH → Out α) (W : WX) : L2.St → Hp → (β → Hp → Prop) → Prop := fun σ H Q =>
  ∃ w sv h, RSl K g w H sv σ ∧ Hk K g w h H ∧ Post K g R w H σ Q W (m sv h)
end
section
variable {K : PySem.W.Frag} {g : Gx} {α β γ δ : Type} {R : Rel α β} {R' : Rel γ δ} {w w' : Wd} {H H' : Hp} {σ : L2.St} {W : WX} {h : VH} {sv : Sv}
theorem Post.mono {Q : β → Hp → Prop} (e : Ext w H w' H') : ∀ {r : Out α}, Post K g R w H σ Q W r → Post K g R w' H' σ Q W r
  | .ok v h, p => fun w2 H2 y e2 k r => p w2 H2 y (e.trans e2) k r
  | .exc x h, p => fun w2 H2 cls d e2 k r => p w2 H2 cls d (e.trans e2) k r
  | .bad, p => p
theorem Post.imp {Q Q' : β → Hp → Prop} (i : ∀ y H', Q y H' → Q' y H') : ∀ {r : Out α}, Post K g R w H σ Q W r → Post K g R w H σ Q' W r
  | .ok v h, p => fun w2 H2 y e2 k r => i y H2 (p w2 H2 y e2 k r)
  | .exc x h, p => p
  | .bad, p => p
theorem Post.here {Q : β → Hp → Prop} {v : α} {y : β} (p : Post K g R w H σ Q W (.ok v h)) (k : Hk K g w h H) (r : R w H v y) : Q y H := p w H y (Ext.refl w H) k r
theorem tG.mono {Q Q' : β → Hp → Prop} {m : Sv → VH → Out α} (t : tG K g R m W σ H Q) (i : ∀ y H', Q y H' → Q' y H') : tG K g R m W σ H Q' :=
  let ⟨w, sv, h, a, b, c⟩ := t
  ⟨w, sv, h, a, b, c.imp i⟩
theorem seqG {Q : δ → Hp → Prop} {m : Sv → VH → Out α} {k : α → VH → Out γ} (rs : RSl K g w H sv σ) (hk : Hk K g w h H) (p : Post K g R' w H σ Q W ((m sv h).bind k)) :
    tG K g R m W σ H (fun y H1 => ∃ w1 h1 v, Ext w H w1 H1 ∧ RSl K g w1 H1 sv σ ∧ Hk K g w1 h1 H1 ∧ R w1 H1 v y ∧ Post K g R' w1 H1 σ Q W (k v h1)) := by
  refine ⟨w, sv, h, rs, hk, ?_⟩
  cases e : m sv h with
  | ok v h1 =>
    rw [e] at p
    exact fun w1 H1 y e1 k1 r => ⟨w1, h1, v, e1, rs.mono _ _ e1.sees, k1, r, Post.mono e1 p⟩
  | exc x h1 =>
    rw [e] at p
    exact p
  | bad =>
    rw [e] at p
    exact p
theorem seqG' {Q : δ → Hp → Prop} {T : β → Hp → Prop} {m : Sv → VH → Out α} {k : α → VH → Out γ} (rs : RSl K g w H sv σ) (hk : Hk K g w h H) (p : Post K g R' w H σ Q W ((m sv h).bind k))
    (i : ∀ w1 H1 h1 v y, Ext w H w1 H1 → RSl K g w1 H1 sv σ → Hk K g w1 h1 H1 → R w1 H1 v y → Post K g R' w1 H1 σ Q W (k v h1) → T y H1) : tG K g R m W σ H T :=
  (seqG (k := k) rs hk p).mono fun y H1 ⟨w1, h1, v, a, b, c, d, e⟩ => i w1 H1 h1 v y a b c d e
end
abbrev RE (X : Cx) (g : Gx) (W : WX) (e : Expr) (m : ME) : Prop := PE X e (tG X.K g (relV X.K g) m W)
abbrev RT (X : Cx) (g : Gx) (W : WX) (e : Expr) (m : MT) : Prop := PT X e (tG X.K g relB m W)
abbrev RW (X : Cx) (g : Gx) (W : WX) (e : Expr) (m : MT) : Prop := PW X e (tG X.K g relB m W)
abbrev RA (X : Cx) (g : Gx) (W : WX) (es : List Expr) (m : MA) : Prop := PA X es (tG X.K g (relVs X.K g) m W)
theorem pe_imp {X : Cx} {e : Expr} {t t' : TE} (h : PE X e t) (i : ∀ σ H Q, t' σ H Q → t σ H Q) : PE X e t' := ⟨fun pins s σ H Q I q => h.run pins s σ H Q I (i σ H Q q)⟩
theorem pt_imp {X : Cx} {e : Expr} {t t' : TT} (h : PT X e t) (i : ∀ σ H Q, t' σ H Q → t σ H Q) : PT X e t' := ⟨fun pins s σ H Q I q => h.run pins s σ H Q I (i σ H Q q)⟩
theorem pw_imp {X : Cx} {e : Expr} {t t' : TT} (h : PW X e t) (i : ∀ σ H Q, t' σ H Q → t σ H Q) : PW X e t' := ⟨fun wh pins s σ H Q I q => h.run wh pins s σ H Q I (i σ H Q q)⟩
theorem pa_imp {X : Cx} {es : List Expr} {t t' : TA} (h : PA X es t) (i : ∀ σ H Q, t' σ H Q → t σ H Q) : PA X es t' := ⟨fun pos pins s σ H Q I q => h.run pos pins s σ H Q I (i σ H Q q)⟩
theorem ps_imp {X : Cx} {st : Stmt} {t t' : TS} (h : PS X st t) (i : ∀ D σ H, t' D σ H → t D σ H) : PS X st t' := ⟨fun pins s σ H D I q => h.run pins s σ H D I (i D σ H q)⟩
theorem pss_imp {X : Cx} {st : List Stmt} {t t' : TS} (h : PSs X st t) (i : ∀ D σ H, t' D σ H → t D σ H) : PSs X st t' := ⟨fun pins s σ H D I q => h.run pins s σ H D I (i D σ H q)⟩
def varM (i : Nat) : ME := fun sv h => match sv[i]? with
  | some (some v) => .ok v h
  | _ => .bad
def cM (v : VV) : ME := fun _ h => .ok v h
section
variable {X : Cx} {g : Gx} {W : WX} {pos : Pos}
theorem re_var (i : Nat) {x : Str} (hN : X.N[i]? = some x := by rfl) (hv : Vis X.env.scope x := by first | exact Or.inl rfl | exact Or.inr (Or.inl rfl) | exact Or.inr (Or.inr rfl)) (hd : (x == ("__debug__" : Str)) = false := by decide)
    (hcd : (x == ("__classdict__" : Str)) = false := by decide) : RE X g W (.Name x pos) (varM i) :=
  pe_imp (pe_var hN hv hd hcd) fun σ H Q ⟨w, sv, h, rs, hk, p⟩ => by
    unfold varM at p
    split at p
    · rename_i v e
      obtain ⟨y, e1, r⟩ := rs.get i v e
      exact ⟨y, e1, p.here hk r⟩
    · exact p.elim
theorem const_imp {v : VV} {y : V} {σ : L2.St} {H : Hp} {Q : VK} (r : ∀ w, RV X.K g w H v y) (t : tG X.K g (relV X.K g) (cM v) W σ H Q) : Q y H := by
  obtain ⟨w, sv, h, rs, hk, p⟩ := t
  exact Post.here p hk (r w)
theorem re_int {i : Int} {j} : RE X g W (.Constant (.int i) j pos) (cM (.int i)) := pe_imp pe_int fun σ H Q t => const_imp (fun _ => by simp only [RV]) t
theorem re_bl {b : Bool} {j} : RE X g W (.Constant (.bool b) j pos) (cM (.bl b)) := pe_imp pe_bl fun σ H Q t => const_imp (fun _ => by simp only [RV]) t
theorem re_str {x : Str} {j} : RE X g W (.Constant (.str x) j pos) (cM (.str x)) := pe_imp pe_str fun σ H Q t => const_imp (fun _ => by simp only [RV]) t
theorem re_gint {x : Str} {i : Int} (hg : Gl X x) (hm : ∃ t, X.mg x = some (.int i t)) (hd : (x == ("__debug__" : Str)) = false := by decide) : RE X g W (.Name x pos) (cM (.int i)) := by
  obtain ⟨t, hm⟩ := hm
  exact pe_imp (pe_glob (v := .int i) hg hm ⟨t, rfl⟩ hd) fun σ H Q t => const_imp (fun _ => by simp only [RV]) t
theorem re_adr {x : Str} {n : Nat} (hg : Gl X x) (hm : X.mg x = some (.ref (g.adr n))) (hd : (x == ("__debug__" : Str)) = false := by decide) : RE X g W (.Name x pos) (cM (.adr n)) :=
  pe_imp (pe_glob (v := .ref (g.adr n)) hg hm rfl hd) fun σ H Q t => const_imp (fun _ => by simp only [RV]) t
end
abbrev V2 := VV → VV → VH → Out VV
def opM (f : V2) (a b : ME) : ME := fun sv h => (a sv h).bind fun x h1 => (b sv h1).bind fun y h2 => f x y h2
def OpS (K : PySem.W.Frag) (g : Gx) (r : R2) (f : V2) : Prop := ∀ (w : Wd) (h : VH) (H : Hp) (σ : L2.St) (W : WX) (Q : VK) (x y : VV) (vx vy : V), Hk K g w h H → RV K g w H x vx → RV K g w H y vy →
  Post K g (relV K g) w H σ Q W (f x y h) → r vx vy H Q
section
variable {X : Cx} {g : Gx} {W : WX} {a b c : Expr} {ma mb mc : ME} {pos : Pos}
theorem op_imp {r : R2} {f : V2} (hf : OpS X.K g r f) {σ : L2.St} {H : Hp} {Q : VK} (t : tG X.K g (relV X.K g) (opM f ma mb) W σ H Q) :
    tOp r (tG X.K g (relV X.K g) ma W) (tG X.K g (relV X.K g) mb W) σ H Q := by
  obtain ⟨w, sv, h, rs, hk, p⟩ := t
  refine seqG' rs hk p fun w1 H1 h1 v y e1 rs1 k1 r1 p1 => ?_
  refine seqG' rs1 k1 p1 fun w2 H2 h2 v2 y2 e2 rs2 k2 r2 p2 => ?_
  exact hf w2 h2 H2 σ W Q v v2 y y2 k2 (RV.mono e2.sees _ _ r1) r2 p2
theorem re_op {op : Operator} {r : R2} {f : V2} (ho : OpR X (binaryOp op) r) (hf : OpS X.K g r f) (ha : RE X g W a ma) (hb : RE X g W b mb) : RE X g W (.BinOp a op b pos) (opM f ma mb) :=
  pe_imp (pe_op ho ha hb) fun σ H Q t => op_imp hf t
theorem re_cmp {op : CmpOp} {r : R2} {f : V2} (ho : OpR X (compareOp op) r) (hf : OpS X.K g r f) (ha : RE X g W a ma) (hb : RE X g W b mb) (hm : behindInMarks op b = false := by first | exact nomark _ | rfl) : RE X g W (.Compare a [op] [b] pos) (opM f ma mb) :=
  pe_imp (pe_cmpR ho ha hb hm) fun σ H Q t => op_imp hf t
def blM (m : ME) : MT := fun sv h => (m sv h).bind fun x h1 => match x with
  | .bl b => .ok b h1
  | _ => .bad
theorem bl_imp {σ : L2.St} {H : Hp} {Q : Bool → Hp → Prop} (t : tG X.K g relB (blM ma) W σ H Q) : tG X.K g (relV X.K g) ma W σ H fun x H1 => ∃ k, x = .bl k ∧ Q k H1 := by
  obtain ⟨w, sv, h, rs, hk, p⟩ := t
  refine seqG' rs hk p fun w1 H1 h1 v y e1 rs1 k1 r1 p1 => ?_
  cases v with
  | bl b =>
    have e : y = .bl b := by simpa only [relV, RV] using r1
    exact ⟨b, e, Post.here p1 k1 rfl⟩
  | _ => exact p1.elim
theorem rt_cmp {op : CmpOp} {r : R2} {f : V2} (ho : OpR X (compareOp op) r) (hf : OpS X.K g r f) (ha : RE X g W a ma) (hb : RE X g W b mb) (hm : behindInMarks op b = false := by first | exact nomark _ | rfl) : RT X g W (.Compare a [op] [b] pos) (blM (opM f ma mb)) :=
  pt_imp (pt_cmpR ho ha hb hm) fun σ H Q t => op_imp hf (bl_imp t)
def chainM (f f' : V2) (ma mb mc : ME) : ME := fun sv h => (ma sv h).bind fun x h1 => (mb sv h1).bind fun y h2 => (f x y h2).bind fun z h3 => match z with
  | .bl true => (mc sv h3).bind fun u h4 => f' y u h4
  | .bl false => .ok (.bl false) h3
  | _ => .bad
theorem OpS.then {K : PySem.W.Frag} {r : R2} {f : V2} (hf : OpS K g r f) {w : Wd} {h : VH} {H : Hp} {σ : L2.St} {α β : Type} {R : Rel α β} {Q : β → Hp → Prop} {x y : VV} {vx vy : V} {k : VV → VH → Out α} (hk : Hk K g w h H) (rx : RV K g w H x vx) (ry : RV K g w H y vy)
    (p : Post K g R w H σ Q W ((f x y h).bind k)) : r vx vy H (fun z H1 => ∃ w1 h1 v, Ext w H w1 H1 ∧ Hk K g w1 h1 H1 ∧ RV K g w1 H1 v z ∧ Post K g R w1 H1 σ Q W (k v h1)) := by
  refine hf w h H σ W _ x y vx vy hk rx ry ?_
  cases e : f x y h with
  | ok v h1 =>
    rw [e] at p
    exact fun w1 H1 y e1 k1 r => ⟨w1, h1, v, e1, k1, r, Post.mono e1 p⟩
  | exc x h1 => rw [e] at p; exact p
  | bad => rw [e] at p; exact p
theorem chain_imp {r r' : R2} {f f' : V2} (hf : OpS X.K g r f) (hf' : OpS X.K g r' f') (mono : ∀ x y H Q Q', (∀ z H', Q z H' → Q' z H') → r x y H Q → r x y H Q') {σ : L2.St} {H : Hp} {Q : VK} (t : tG X.K g (relV X.K g) (chainM f f' ma mb mc) W σ H Q) :
    tChain r r' (tG X.K g (relV X.K g) ma W) (tG X.K g (relV X.K g) mb W) (tG X.K g (relV X.K g) mc W) σ H Q := by
  obtain ⟨w, sv, h, rs, hk, p⟩ := t
  refine seqG' rs hk p fun w1 H1 h1 v y e1 rs1 k1 r1 p1 => ?_
  refine seqG' rs1 k1 p1 fun w2 H2 h2 v2 y2 e2 rs2 k2 r2 p2 => ?_
  refine mono _ _ _ _ _ ?_ (hf.then k2 (RV.mono e2.sees _ _ r1) r2 p2)
  rintro z H3 ⟨w3, h3, v3, e3, k3, r3, p3⟩
  split at p3
  · have e : z = .bl true := by simpa only [RV] using r3
    refine ⟨true, e, iteT ?_⟩
    refine seqG' (rs2.mono _ _ e3.sees) k3 p3 fun w4 H4 h4 v4 y4 e4 rs4 k4 r4 p4 => ?_
    exact hf' w4 h4 H4 σ W Q v2 v4 y2 y4 k4 (RV.mono (e3.trans e4).sees _ _ r2) r4 p4
  · have e : z = .bl false := by simpa only [RV] using r3
    exact ⟨false, e, iteF (Post.here p3 k3 (by simp only [relV, RV]))⟩
  · exact p3.elim
theorem re_chain {op op' : CmpOp} {r r' : R2} {f f' : V2} (ho : OpR X (compareOp op) r) (hf : OpS X.K g r f) (ho' : OpR X (compareOp op') r') (hf' : OpS X.K g r' f') (mono : ∀ x y H Q Q', (∀ z H', Q z H' → Q' z H') → r x y H Q → r x y H Q')
    (ha : RE X g W a ma) (hb : RE X g W b mb) (hc : RE X g W c mc) (hm : lastMarks [op, op'] [b, c] = false := by with_unfolding_all rfl) : RE X g W (.Compare a [op, op'] [b, c] pos) (chainM f f' ma mb mc) :=
  pe_imp (pe_chain ho ho' ha hb hc hm) fun σ H Q t => chain_imp hf hf' mono t
theorem rt_val {e : Expr} {m : ME} (h : RE X g W e m) (he : ∀ whole, isTrue e X.env whole = (do let v ← whole; standAt e.pos; holding [v] (truthy v)) := by intro _; rfl) : RT X g W e (blM m) :=
  pt_imp (pt_val h he) fun σ H Q t => bl_imp t
def andT (a b : MT) : MT := fun sv h => (a sv h).bind fun c h1 => if c then b sv h1 else .ok false h1
def orT (a b : MT) : MT := fun sv h => (a sv h).bind fun c h1 => if c then .ok true h1 else b sv h1
def notT (a : MT) : MT := fun sv h => (a sv h).bind fun c h1 => .ok (!c) h1
variable {ta tb : MT} {rest : List Expr}
theorem rw_and1 (ha : RT X g W a ta) : RW X g W (.BoolOp .And [a] pos) ta := pw_and1 ha
theorem rw_or1 (ha : RT X g W a ta) : RW X g W (.BoolOp .Or [a] pos) ta := pw_or1 ha
theorem rw_and (ha : RT X g W a ta) (hb : RW X g W (.BoolOp .And (b :: rest) pos) tb) : RW X g W (.BoolOp .And (a :: b :: rest) pos) (andT ta tb) :=
  pw_imp (pw_and ha hb) fun σ H Q t => by
    obtain ⟨w, sv, h, rs, hk, p⟩ := t
    refine seqG' rs hk p fun w1 H1 h1 v y e1 rs1 k1 r1 p1 => ?_
    have e : v = y := r1
    subst e
    cases v with
    | true => exact iteT ⟨w1, sv, h1, rs1, k1, p1⟩
    | false => exact iteF (Post.here p1 k1 rfl)
theorem rw_or (ha : RT X g W a ta) (hb : RW X g W (.BoolOp .Or (b :: rest) pos) tb) : RW X g W (.BoolOp .Or (a :: b :: rest) pos) (orT ta tb) :=
  pw_imp (pw_or ha hb) fun σ H Q t => by
    obtain ⟨w, sv, h, rs, hk, p⟩ := t
    refine seqG' rs hk p fun w1 H1 h1 v y e1 rs1 k1 r1 p1 => ?_
    have e : v = y := r1
    subst e
    cases v with
    | true => exact iteT (Post.here p1 k1 rfl)
    | false => exact iteF ⟨w1, sv, h1, rs1, k1, p1⟩
theorem rt_w {e : Expr} (h : RW X g W e ta) : RT X g W e ta := h.pt
theorem rt_not (ha : RT X g W a ta) : RT X g W (.UnaryOp .Not a pos) (notT ta) :=
  pt_imp (pt_not ha) fun σ H Q t => by
    obtain ⟨w, sv, h, rs, hk, p⟩ := t
    refine seqG' rs hk p fun w1 H1 h1 v y e1 rs1 k1 r1 p1 => ?_
    have e : v = y := r1
    subst e
    exact Post.here p1 k1 rfl
def andV (a b : ME) : ME := fun sv h => (a sv h).bind fun x h1 => match x with
  | .bl true => b sv h1
  | .bl false => .ok (.bl false) h1
  | _ => .bad
def notV (a : ME) : ME := fun sv h => (a sv h).bind fun x h1 => match x with
  | .bl c => .ok (.bl (!c)) h1
  | _ => .bad
theorem re_one {op} {m : ME} (h : RE X g W a m) : RE X g W (.BoolOp op [a] pos) m := pe_one h
theorem re_and (ha : RE X g W a ma) (hb : RE X g W (.BoolOp .And (b :: rest) pos) mb) : RE X g W (.BoolOp .And (a :: b :: rest) pos) (andV ma mb) :=
  pe_imp (pe_and ha hb) fun σ H Q t => by
    obtain ⟨w, sv, h, rs, hk, p⟩ := t
    refine seqG' rs hk p fun w1 H1 h1 v y e1 rs1 k1 r1 p1 => ?_
    split at p1
    · have e : y = .bl true := by simpa only [relV, RV] using r1
      exact ⟨true, e, iteT ⟨w1, sv, h1, rs1, k1, p1⟩⟩
    · have e : y = .bl false := by simpa only [relV, RV] using r1
      exact ⟨false, e, iteF (Post.here p1 k1 (by simp only [relV, RV]))⟩
    · exact p1.elim
theorem re_not (ha : RE X g W a ma) : RE X g W (.UnaryOp .Not a pos) (notV ma) :=
  pe_imp (pe_not ha) fun σ H Q t => by
    obtain ⟨w, sv, h, rs, hk, p⟩ := t
    refine seqG' rs hk p fun w1 H1 h1 v y e1 rs1 k1 r1 p1 => ?_
    split at p1
    · rename_i c
      have e : y = .bl c := by simpa only [relV, RV] using r1
      exact ⟨c, e, Post.here p1 k1 (by simp only [relV, RV])⟩
    · exact p1.elim
def ifM (c : MT) (a b : ME) : ME := fun sv h => (c sv h).bind fun k h1 => if k then a sv h1 else b sv h1
theorem re_if {mt : MT} (hc : RT X g W c mt) (ha : RE X g W a ma) (hb : RE X g W b mb) : RE X g W (.IfExp c a b pos) (ifM mt ma mb) :=
  pe_imp (pe_ifExp hc ha hb) fun σ H Q t => by
    obtain ⟨w, sv, h, rs, hk, p⟩ := t
    refine seqG' rs hk p fun w1 H1 h1 v y e1 rs1 k1 r1 p1 => ?_
    have e : v = y := r1
    subst e
    cases v with
    | true => exact iteT ⟨w1, sv, h1, rs1, k1, p1⟩
    | false => exact iteF ⟨w1, sv, h1, rs1, k1, p1⟩
end
end Mv
set_option Elab.async false
set_option linter.all false
set_option maxRecDepth 100000
namespace Mv
open PySem PySem.Spec PyProof.Rows L2
def fits (n : Nat) : Bool := Nat.ble n 16777216
theorem fits_le {n : Nat} (h : fits n = true) : n ≤ sizeLine := by
  rw [sizeLine_eq]
  exact Nat.le_of_ble_eq_true h
section
variable {K : PySem.W.Frag} {g : Gx} {w : Wd} {H : Hp} {σ : L2.St} {W : WX} {h : VH} {Q : VK}
theorem RV.tup_of {G : Gx} {a : Addr} {xs : List VV} {ys : List V} (h1 : H a = some (.tup ys)) (h2 : ¬ w.mut a) (h3 : RVs K G w H xs ys) : RV K G w H (.tup xs) (.ref a) := by
  simp only [RV]
  exact ⟨a, ys, rfl, ⟨h1, h2⟩, h3⟩
theorem RV.lst_of {G : Gx} {a : Addr} {xs : List VV} {ys : List V} (h1 : H a = some (.lst ys)) (h2 : ¬ w.mut a) (h3 : RVs K G w H xs ys) : RV K G w H (.lst xs) (.ref a) := by
  simp only [RV]
  exact ⟨a, ys, rfl, ⟨h1, h2⟩, h3⟩
theorem RV.tup_get {G : Gx} {xs : List VV} {y : V} (r : RV K G w H (.tup xs) y) : ∃ a ys, y = .ref a ∧ SqT K H a ys ∧ RVs K G w H xs ys := by
  simp only [RV] at r
  obtain ⟨a, ys, e, h, r⟩ := r
  exact ⟨a, ys, e, .inl (.inl h.1), r⟩
theorem KTup.sq {a : Addr} {ys : List V} (h : KTup K a ys) : SqT K H a ys := let ⟨o, its, n, h1, h2, h3, h4, h5, _⟩ := h; .inr ⟨o, its, n, h1, h2, h3, h4, h5⟩
theorem RV.ktu_get {G : Gx} {xs : List VV} {y : V} (r : RV K G w H (.ktu xs) y) : ∃ a ys, y = .ref a ∧ SqT K H a ys ∧ RVs K G w H xs ys := by
  simp only [RV] at r
  obtain ⟨a, ys, e, h, r⟩ := r
  exact ⟨a, ys, e, h.elim KTup.sq (fun ⟨o, q, _⟩ => .inl (.inr ⟨o, q⟩)), r⟩
theorem RV.lst_get {G : Gx} {xs : List VV} {y : V} (r : RV K G w H (.lst xs) y) : ∃ a ys, y = .ref a ∧ H a = some (.lst ys) ∧ RVs K G w H xs ys := by
  simp only [RV] at r
  obtain ⟨a, ys, e, h, r⟩ := r
  exact ⟨a, ys, e, h.1, r⟩
theorem RV.rol_get {G : Gx} {xs : List VV} {y : V} (r : RV K G w H (.rol xs) y) : ∃ a ys, y = .ref a ∧ SqL K H a ys ∧ RVs K G w H xs ys := by
  simp only [RV] at r
  obtain ⟨a, ys, e, h, r⟩ := r
  exact ⟨a, ys, e, h.elim (fun ⟨o, q, _⟩ => .inl (.inr ⟨o, q⟩)) .inr, r⟩
theorem post_newl {xs : List VV} {ys : List V} {p : Addr} (po : Post K g (relV K g) w H σ Q W (.ok (.lst xs) h)) (k : Hk K g w h H) (r : RVs K g w H xs ys) (hp : H p = none) : Q (.ref p) (upd H p (.lst ys)) :=
  po w _ _ (Ext.grow k hp) (Hk.grow k hp) (RV.lst_of upd_same (k.fresh hp) (RVs.mono (Ext.grow k hp).sees _ _ r))
theorem post_newt {xs : List VV} {ys : List V} {p : Addr} (po : Post K g (relV K g) w H σ Q W (.ok (.tup xs) h)) (k : Hk K g w h H) (r : RVs K g w H xs ys) (hp : H p = none) : Q (.ref p) (upd H p (.tup ys)) :=
  po w _ _ (Ext.grow k hp) (Hk.grow k hp) (RV.tup_of upd_same (k.fresh hp) (RVs.mono (Ext.grow k hp).sees _ _ r))
theorem post_int {i : Int} (po : Post K g (relV K g) w H σ Q W (.ok (.int i) h)) (k : Hk K g w h H) : Q (.int i) H := Post.here po k (by simp only [relV, RV])
theorem post_bl {i : Bool} (po : Post K g (relV K g) w H σ Q W (.ok (.bl i) h)) (k : Hk K g w h H) : Q (.bl i) H := Post.here po k (by simp only [relV, RV])
theorem post_str {i : Str} (po : Post K g (relV K g) w H σ Q W (.ok (.str i) h)) (k : Hk K g w h H) : Q (.str i) H := Post.here po k (by simp only [relV, RV])
theorem RVs.nil_of {G : Gx} {xs : List VV} {ys : List V} (r : RVs K G w H xs ys) (e : ys = []) : xs = [] := List.length_eq_zero_iff.mp (by rw [r.length, e]; rfl)
theorem RV.int_eq {G : Gx} {i : Int} {y : V} (r : RV K G w H (.int i) y) : y = .int i := by simpa only [RV] using r
theorem RV.bl_eq {G : Gx} {i : Bool} {y : V} (r : RV K G w H (.bl i) y) : y = .bl i := by simpa only [RV] using r
theorem RV.str_eq {G : Gx} {i : Str} {y : V} (r : RV K G w H (.str i) y) : y = .str i := by simpa only [RV] using r
end
def addV : V2 := fun x y h => match x with
  | .int i => (match y with | .int j => .ok (.int (i + j)) h | .bl k => .ok (.int (i + b2i k)) h | _ => .bad)
  | .lst xs => (match y with | .lst ys => if fits (xs.length + ys.length) then .ok (.lst (xs ++ ys)) h else .bad | _ => .bad)
  | .tup xs => (match y with | .tup ys => if fits (xs.length + ys.length) then .ok (.tup (xs ++ ys)) h else .bad | _ => .bad)
  | .str a => (match y with | .str b => if fits (a.length + b.length) then .ok (.str (a ++ b)) h else .bad | _ => .bad)
  | _ => .bad
abbrev rAddS : R2 := fun x y H Q => ∃ i j, x = .str i ∧ y = .str j ∧ i.length + j.length ≤ sizeLine ∧ Q (.str (i ++ j)) H
abbrev rAddB : R2 := fun x y H Q => ∃ i k, x = .int i ∧ y = .bl k ∧ Q (.int (i + b2i k)) H
abbrev rAddA (K : PySem.W.Frag) : R2 := fun x y H Q => rI0 (fun i j => .int (i + j)) x y H Q ∨ (rAddB x y H Q ∨ (rCat x y H Q ∨ (rCatA K x y H Q ∨ rAddS x y H Q)))
theorem op_addA {X : Cx} : OpR X (binaryOp .Add) (rAddA X.K) := op_add.or (op_add_ib.or (op_cat.or (op_catA.or op_add_str)))
theorem addS {K : PySem.W.Frag} {g : Gx} : OpS K g (rAddA K) addV := by
  intro w h H σ W Q x y vx vy hk rx ry p
  unfold addV at p
  split at p
  · split at p
    · exact .inl ⟨_, _, rx.int_eq, ry.int_eq, post_int p hk⟩
    · exact .inr (.inl ⟨_, _, rx.int_eq, ry.bl_eq, post_int p hk⟩)
    · exact p.elim
  · split at p
    · split at p
      · rename_i hf
        obtain ⟨a, xs', rfl, ha, r1⟩ := rx.lst_get
        obtain ⟨b, ys', rfl, hb, r2⟩ := ry.lst_get
        exact .inr (.inr (.inl ⟨a, b, xs', ys', rfl, rfl, ha, hb, by rw [← r1.length, ← r2.length]; exact fits_le hf, fun q hq => post_newl p hk (r1.app r2) hq⟩))
      · exact p.elim
    · exact p.elim
  · split at p
    · split at p
      · rename_i hf
        obtain ⟨a, xs', rfl, ha, r1⟩ := rx.tup_get
        obtain ⟨b, ys', rfl, hb, r2⟩ := ry.tup_get
        refine .inr (.inr (.inr (.inl ⟨a, b, xs', ys', rfl, rfl, ha, hb, by rw [← r1.length, ← r2.length]; exact fits_le hf, fun e => ?_, fun e1 e2 => ?_, fun _ _ q hq => post_newt p hk (r1.app r2) hq⟩)))
        · rw [RVs.nil_of r1 e, List.nil_append] at p
          exact Post.here p hk ry
        · rw [RVs.nil_of r2 e2, List.append_nil] at p
          exact Post.here p hk rx
      · exact p.elim
    · exact p.elim
  · split at p
    · split at p
      · rename_i hf
        exact .inr (.inr (.inr (.inr ⟨_, _, rx.str_eq, ry.str_eq, fits_le hf, post_str p hk⟩)))
      · exact p.elim
    · exact p.elim
  · exact p.elim
def intV (c : Int → Int → Bool) (f : Int → Int → Int) : V2 := fun x y h => match x with
  | .int i => (match y with | .int j => if c i j then .ok (.int (f i j)) h else .bad | _ => .bad)
  | _ => .bad
theorem intS {K : PySem.W.Frag} {g : Gx} {C : Int → Int → Prop} {c : Int → Int → Bool} {f : Int → Int → Int} (hc : ∀ i j, c i j = true → C i j) : OpS K g (rI C fun i j => .int (f i j)) (intV c f) := by
  intro w h H σ W Q x y vx vy hk rx ry p
  unfold intV at p
  split at p
  · split at p
    · split at p
      · rename_i hf
        exact ⟨_, _, rx.int_eq, ry.int_eq, hc _ _ hf, post_int p hk⟩
      · exact p.elim
    · exact p.elim
  · exact p.elim
def subV : V2 := intV (fun _ _ => true) fun i j => i - j
theorem op_subA {X : Cx} : OpR X (binaryOp .Sub) (rI (fun _ _ => True) fun i j => .int (i - j)) := opI fun _ _ _ _ _ _ _ _ q => sub_int q
theorem subS {K : PySem.W.Frag} {g : Gx} : OpS K g (rI (fun _ _ => True) fun i j => .int (i - j)) subV := intS fun _ _ _ => trivial
def bitsN (i : Int) : Nat := match i with
  | .ofNat 0 => 0
  | .ofNat (n + 1) => Nat.log2 (n + 1) + 1
  | .negSucc n => Nat.log2 (n + 1) + 1
theorem bitsN_eq (i : Int) : bitsN i = Builtin.Int.intBits i := by
  unfold bitsN Builtin.Int.intBits
  split
  · rfl
  · rename_i n
    rw [if_neg (by first | (simp; done) | (simp; omega))]
    rfl
  · rename_i n
    rw [if_neg (by first | (simp; done) | (simp; omega))]
    rfl
def mulC (i j : Int) : Bool := Nat.ble (bitsN i + bitsN j) 134217728
theorem mulC_ok {i j : Int} (h : mulC i j = true) : CMulX i j := by
  have := Nat.le_of_ble_eq_true h
  rw [bitsN_eq, bitsN_eq] at this
  unfold CMulX
  omega
def repL (xs : List VV) (k : Int) : Option (List VV) := match k with
  | .ofNat n => if Nat.ble (xs.length * n) 16777216 && Nat.ble n 16777216 then some (List.replicate n xs).flatten else none
  | .negSucc _ => none
def mulV : V2 := fun x y h => match x with
  | .int i => (match y with | .int j => if mulC i j then .ok (.int (i * j)) h else .bad | _ => .bad)
  | .lst xs => (match y with | .int k => (match repL xs k with | some zs => .ok (.lst zs) h | none => .bad) | _ => .bad)
  | .tup xs => (match y with | .int k => (match (if !xs.isEmpty && decide (2 ≤ k) && decide (k ≤ 1000) && Nat.ble xs.length 1000 then repL xs k else none) with | some zs => .ok (.tup zs) h | none => .bad) | _ => .bad)
  | _ => .bad
theorem RVs.rep {K : PySem.W.Frag} {G : Gx} {w : Wd} {H : Hp} {xs : List VV} {ys : List V} (r : RVs K G w H xs ys) : ∀ n : Nat, RVs K G w H (List.replicate n xs).flatten (List.replicate n ys).flatten
  | 0 => by simp [RVs]
  | n + 1 => by
    rw [List.replicate_succ, List.replicate_succ, List.flatten_cons, List.flatten_cons]
    exact RVs.app r (RVs.rep r n)
abbrev rMulA (K : PySem.W.Frag) : R2 := fun x y H Q => rI CMulX (fun i j => .int (i * j)) x y H Q ∨ (rRep x y H Q ∨ rRepT K x y H Q)
theorem op_mulA {X : Cx} : OpR X (binaryOp .Mult) (rMulA X.K) := op_mulX.or (op_rep.or op_repT)
theorem repL_ok {xs zs : List VV} {k : Int} (h : repL xs k = some zs) : 0 ≤ k ∧ k ≤ 16777216 ∧ xs.length * k.toNat ≤ 16777216 ∧ zs = (List.replicate k.toNat xs).flatten := by
  unfold repL at h
  split at h
  · rename_i n
    split at h
    · rename_i hc
      obtain ⟨h1, h2⟩ := Bool.and_eq_true_iff.mp hc
      have h1 := Nat.le_of_ble_eq_true h1
      have h2 := Nat.le_of_ble_eq_true h2
      refine ⟨Int.natCast_nonneg _, by show ((n : Nat) : Int) ≤ 16777216; omega, h1, (Option.some.inj h).symm⟩
    · cases h
  · cases h
theorem mulS {K : PySem.W.Frag} {g : Gx} : OpS K g (rMulA K) mulV := by
  intro w h H σ W Q x y vx vy hk rx ry p
  unfold mulV at p
  split at p
  · split at p
    · split at p
      · rename_i hf
        exact .inl ⟨_, _, rx.int_eq, ry.int_eq, mulC_ok hf, post_int p hk⟩
      · exact p.elim
    · exact p.elim
  · split at p
    · rename_i xs _ k
      split at p
      · rename_i zs e
        obtain ⟨h0, h1, h2, rfl⟩ := repL_ok e
        obtain ⟨a, xs', rfl, ha, r1⟩ := rx.lst_get
        refine .inr (.inl ⟨a, k, xs', rfl, ry.int_eq, ha, by omega, by omega, by rw [← r1.length, sizeLine_eq]; exact h2, fun q hq => post_newl p hk (r1.rep _) hq⟩)
      · exact p.elim
    · exact p.elim
  · split at p
    · rename_i xs _ k
      split at p
      · rename_i zs e
        split at e
        · rename_i hc
          simp only [Bool.and_eq_true, Bool.not_eq_true', decide_eq_true_eq] at hc
          obtain ⟨⟨⟨hc1, hc2⟩, hc3⟩, hc4⟩ := hc
          have hc4 := Nat.le_of_ble_eq_true hc4
          obtain ⟨h0, h1, h2, rfl⟩ := repL_ok e
          obtain ⟨a, xs', rfl, ha, r1⟩ := rx.tup_get
          refine .inr (.inr ⟨a, k, xs', rfl, ry.int_eq, ha, ?_, hc2, hc3, by rw [← r1.length]; exact hc4, fun q hq => post_newt p hk (r1.rep _) hq⟩)
          rintro rfl
          have := r1.length
          rw [List.length_nil, List.length_eq_zero_iff] at this
          rw [this] at hc1
          cases hc1
        · cases e
      · exact p.elim
    · exact p.elim
  · exact p.elim
def pylongN (i j : Int) : Bool := Builtin.divisionGoesByPylong i j
def fdivV : V2 := intV (fun i j => decide (0 < j) && !pylongN i j) fun i j => i / j
theorem op_fdivA {X : Cx} : OpR X (binaryOp .FloorDiv) (rI CDivP fun i j => .int (i / j)) := opI fun i j _ _ _ _ _ hc q => by
  have h1 : (0 : Int) < j := hc.1
  exact floordiv_int (by omega) (by rw [Int.fdiv_eq_ediv_of_nonneg i (by omega)]; exact q) (.inl hc.2)
theorem fdivS {K : PySem.W.Frag} {g : Gx} : OpS K g (rI CDivP fun i j => .int (i / j)) fdivV := intS fun i j hc => by
  simp only [Bool.and_eq_true, decide_eq_true_eq, Bool.not_eq_true'] at hc
  exact ⟨hc.1, hc.2⟩
def modV : V2 := intV (fun i j => decide (0 < j)) fun i j => i % j
theorem modS {K : PySem.W.Frag} {g : Gx} : OpS K g (rI (fun _ j => 0 < j) fun i j => .int (i % j)) modV := intS fun i j hc => of_decide_eq_true hc
def CPowX (i j : Int) : Prop := 0 ≤ j ∧ (Builtin.Int.intBits i : Int) * j ≤ 2 ^ 27
def powV : V2 := intV (fun i j => decide (0 ≤ j) && Nat.ble (bitsN i * j.toNat) 134217728) fun i j => i ^ j.toNat
theorem op_powA {X : Cx} : OpR X (binaryOp .Pow) (rI CPowX fun i j => .int (i ^ j.toNat)) := opI fun _ _ _ _ _ _ _ hc q => pow_int hc.1 hc.2 q
theorem powS {K : PySem.W.Frag} {g : Gx} : OpS K g (rI CPowX fun i j => .int (i ^ j.toNat)) powV := intS fun i j hc => by
  simp only [Bool.and_eq_true, decide_eq_true_eq] at hc
  obtain ⟨h1, h2⟩ := hc
  have h2 := Nat.le_of_ble_eq_true h2
  rw [bitsN_eq] at h2
  refine ⟨h1, ?_⟩
  have e : (j.toNat : Int) = j := Int.toNat_of_nonneg h1
  rw [← e, ← Int.natCast_mul]
  omega
def cmpV (f : Int → Int → Bool) : V2 := fun x y h => match x with
  | .int i => (match y with | .int j => .ok (.bl (f i j)) h | _ => .bad)
  | _ => .bad
theorem cmpS {K : PySem.W.Frag} {g : Gx} {f : Int → Int → Bool} : OpS K g (rI0 fun i j => .bl (f i j)) (cmpV f) := by
  intro w h H σ W Q x y vx vy hk rx ry p
  unfold cmpV at p
  split at p
  · split at p
    · exact ⟨_, _, rx.int_eq, ry.int_eq, post_bl p hk⟩
    · exact p.elim
  · exact p.elim
def ltV : V2 := cmpV fun i j => decide (i < j)
def leV : V2 := cmpV fun i j => decide (i ≤ j)
def gtV : V2 := cmpV fun i j => decide (j < i)
theorem rI0_mono {f : Int → Int → V} : ∀ x y H Q Q', (∀ z H', Q z H' → Q' z H') → rI0 f x y H Q → rI0 f x y H Q' := fun _ _ _ _ _ i ⟨a, b, e1, e2, q⟩ => ⟨a, b, e1, e2, i _ _ q⟩
mutual
def toPy : VV → Option PyData
  | .non => some .none
  | .bl b => some (.bool b)
  | .int i => some (.int i)
  | .str x => some (.str x)
  | .tup xs => (toPys xs).map .tuple
  | .ktu xs => (toPys xs).map .tuple
  | .lst xs => (toPys xs).map .list
  | .rol xs => (toPys xs).map .list
  | _ => none
def toPys : List VV → Option (List PyData)
  | [] => some []
  | x :: xs => (toPy x).bind fun d => (toPys xs).map fun ds => d :: ds
end
section
variable {K : PySem.W.Frag} {G : Gx} {w : Wd} {H : Hp}
mutual
theorem toPy_ok : ∀ (x : VV) (d : PyData) (y : V), toPy x = some d → RV K G w H x y → Dp K H y d
  | .non, _, _, e, r => by
    simp only [toPy, Option.some.injEq] at e
    simp only [RV] at r
    subst e r
    exact .non
  | .bl b, _, _, e, r => by
    simp only [toPy, Option.some.injEq] at e
    simp only [RV] at r
    subst e r
    exact .bl b
  | .int b, _, _, e, r => by
    simp only [toPy, Option.some.injEq] at e
    simp only [RV] at r
    subst e r
    exact .int b
  | .str b, _, _, e, r => by
    simp only [toPy, Option.some.injEq] at e
    simp only [RV] at r
    subst e r
    exact .str b
  | .tup xs, _, _, e, r => by
    simp only [toPy, Option.map_eq_some_iff] at e
    obtain ⟨ds, e1, rfl⟩ := e
    obtain ⟨a, ys, rfl, ha, r2⟩ := r.tup_get
    exact .tup ha (toPys_ok xs ds ys e1 r2)
  | .ktu xs, _, _, e, r => by
    simp only [toPy, Option.map_eq_some_iff] at e
    obtain ⟨ds, e1, rfl⟩ := e
    obtain ⟨a, ys, rfl, ha, r2⟩ := r.ktu_get
    exact .tup ha (toPys_ok xs ds ys e1 r2)
  | .lst xs, _, _, e, r => by
    simp only [toPy, Option.map_eq_some_iff] at e
    obtain ⟨ds, e1, rfl⟩ := e
    obtain ⟨a, ys, rfl, ha, r2⟩ := r.lst_get
    exact .lst (SqL.of ha) (toPys_ok xs ds ys e1 r2)
  | .rol xs, _, _, e, r => by
    simp only [toPy, Option.map_eq_some_iff] at e
    obtain ⟨ds, e1, rfl⟩ := e
    obtain ⟨a, ys, rfl, ha, r2⟩ := r.rol_get
    exact .lst ha (toPys_ok xs ds ys e1 r2)
  | .ty _, _, _, e, _ => by simp only [toPy] at e; cases e
  | .dct _ _, _, _, e, _ => by simp only [toPy] at e; cases e
  | .dtt _ _, _, _, e, _ => by simp only [toPy] at e; cases e
  | .ins _ _, _, _, e, _ => by simp only [toPy] at e; cases e
  | .ref _, _, _, e, _ => by simp only [toPy] at e; cases e
  | .adr _, _, _, e, _ => by simp only [toPy] at e; cases e
theorem toPys_ok : ∀ (xs : List VV) (ds : List PyData) (ys : List V), toPys xs = some ds → RVs K G w H xs ys → DpAll K H ys ds
  | [], _, _, e, r => by
    simp only [toPys, Option.some.injEq] at e
    simp only [RVs] at r
    subst e r
    exact .nil
  | x :: xs, _, _, e, r => by
    simp only [toPys, Option.bind_eq_some_iff, Option.map_eq_some_iff] at e
    obtain ⟨d, e1, ds, e2, rfl⟩ := e
    simp only [RVs] at r
    obtain ⟨y, ys, rfl, r1, r2⟩ := r
    exact .cons (toPy_ok x d y e1 r1) (toPys_ok xs ds ys e2 r2)
end
end
def eqO (x y : VV) : Option Bool := (toPy x).bind fun d => (toPy y).bind fun e => if SeqAt.shaped d && SeqAt.shaped e then some (PyData.eqv d e) else none
def eqV (neg : Bool) : V2 := fun x y h => match eqO x y with
  | some b => .ok (.bl (if neg then !b else b)) h
  | none => .bad
theorem eqO_ok {x y : VV} {b : Bool} (h : eqO x y = some b) : ∃ d e, toPy x = some d ∧ toPy y = some e ∧ SeqAt.shaped d = true ∧ SeqAt.shaped e = true ∧ PyData.eqv d e = b := by
  unfold eqO at h
  obtain ⟨d, h1, h⟩ := Option.bind_eq_some_iff.mp h
  obtain ⟨e, h2, h⟩ := Option.bind_eq_some_iff.mp h
  split at h
  · rename_i hs
    obtain ⟨s1, s2⟩ := Bool.and_eq_true_iff.mp hs
    exact ⟨d, e, h1, h2, s1, s2, Option.some.inj h⟩
  · cases h
theorem eqS {K : PySem.W.Frag} {g : Gx} : OpS K g (rEqD K) (eqV false) := by
  intro w h H σ W Q x y vx vy hk rx ry p
  unfold eqV at p
  split at p
  · rename_i b e
    obtain ⟨d1, d2, h1, h2, s1, s2, e3⟩ := eqO_ok e
    subst e3
    exact ⟨d1, d2, toPy_ok _ _ _ h1 rx, toPy_ok _ _ _ h2 ry, s1, s2, post_bl p hk⟩
  · exact p.elim
theorem neS {K : PySem.W.Frag} {g : Gx} : OpS K g (rNeD K) (eqV true) := by
  intro w h H σ W Q x y vx vy hk rx ry p
  unfold eqV at p
  split at p
  · rename_i b e
    obtain ⟨d1, d2, h1, h2, s1, s2, e3⟩ := eqO_ok e
    subst e3
    exact ⟨d1, d2, toPy_ok _ _ _ h1 rx, toPy_ok _ _ _ h2 ry, s1, s2, post_bl p hk⟩
  · exact p.elim
end Mv
set_option Elab.async false
set_option linter.all false
set_option maxRecDepth 100000
namespace Mv
open PySem PySem.Spec PyProof.Rows L2
def nilA : MA := fun _ h => .ok [] h
def consA (m : ME) (r : MA) : MA := fun sv h => (m sv h).bind fun x h1 => (r sv h1).bind fun xs h2 => .ok (x :: xs) h2
section
variable {X : Cx} {g : Gx} {W : WX} {e : Expr} {es : List Expr} {m : ME} {ma : MA} {pos : Pos}
theorem ra_nil : RA X g W [] nilA := pa_imp pa_nil fun σ H Q ⟨w, sv, h, rs, hk, p⟩ => Post.here p hk (by simp only [relVs, RVs])
theorem ra_cons (ha : RE X g W e m) (hr : RA X g W es ma) (hs : starEach (e :: es) X.env = (false, eval e X.env) :: starEach es X.env := by rfl) : RA X g W (e :: es) (consA m ma) :=
  pa_imp (pa_cons ha hr hs) fun σ H Q ⟨w, sv, h, rs, hk, p⟩ => by
    refine seqG' rs hk p fun w1 H1 h1 v y e1 rs1 k1 r1 p1 => ?_
    refine seqG' rs1 k1 p1 fun w2 H2 h2 v2 y2 e2 rs2 k2 r2 p2 => ?_
    refine Post.here p2 k2 ?_
    simp only [relVs, RVs]
    exact ⟨y, y2, rfl, RV.mono e2.sees _ _ r1, r2⟩
def tupM (a : MA) : ME := fun sv h => (a sv h).bind fun xs h1 => if fits xs.length then .ok (.tup xs) h1 else .bad
def lstM (a : MA) : ME := fun sv h => (a sv h).bind fun xs h1 => if fits xs.length then .ok (.lst xs) h1 else .bad
theorem re_tup {x1} (ha : RA X g W es ma) : RE X g W (.Tuple es x1 pos) (tupM ma) :=
  pe_imp (pe_tup ha) fun σ H Q ⟨w, sv, h, rs, hk, p⟩ => by
    refine seqG' rs hk p fun w1 H1 h1 v y e1 rs1 k1 r1 p1 => ?_
    split at p1
    · rename_i hf
      exact ⟨by rw [← RVs.length r1]; exact fits_le hf, fun q hq => post_newt p1 k1 r1 hq⟩
    · exact p1.elim
theorem re_lst (ha : RA X g W es ma) : RE X g W (.List es pos) (lstM ma) :=
  pe_imp (pe_lst ha) fun σ H Q ⟨w, sv, h, rs, hk, p⟩ => by
    refine seqG' rs hk p fun w1 H1 h1 v y e1 rs1 k1 r1 p1 => ?_
    split at p1
    · rename_i hf
      exact ⟨by rw [← RVs.length r1]; exact fits_le hf, fun q hq => post_newl p1 k1 r1 hq⟩
    · exact p1.elim
def newM (a : MA) : ME := fun sv h => (a sv h).bind fun xs h1 => if fits xs.length then .ok (.ref h1.length) (h1 ++ [.lst xs]) else .bad
section
variable {K : PySem.W.Frag} {g : Gx} {w : Wd} {H : Hp} {σ : L2.St} {W : WX} {h : VH} {Q : VK}
def Wd.push (w : Wd) (p : Addr) : Wd := { w with phi := w.phi ++ [some p] }
theorem mut_push {p a : Addr} : (w.push p).mut a → w.mut a ∨ a = p := by
  intro h
  rcases h with h | h | h
  · rcases List.mem_append.mp h with h | h
    · exact .inl (.inl h)
    · simp at h
      exact .inr h
  · exact .inl (.inr (.inl h))
  · exact .inl (.inr (.inr h))
theorem Ext.push (k : Hk K g w h H) {o : HO} {p : Addr} (hp : H p = none) : Ext w H (w.push p) (upd H p o) where
  keep := fun a u q m => by
    have ne := ne_of_none q hp
    exact ⟨by rw [upd_ne ne]; exact q, fun z => (mut_push z).elim m ne⟩
  refs := fun n b hn q => by
    unfold Wd.push at q
    rw [List.getElem?_append_left hn] at q
    exact q
  len := by unfold Wd.push; simp
  P := rfl
  Q := rfl
  O := rfl
  prot := fun a ha => upd_ne fun e => k.live (.inr ha) (e ▸ hp)
theorem Hk.push (k : Hk K g w h H) {o : HO} {vo : VO} {p : Addr} (hp : H p = none) (r : RO K g (w.push p) (upd H p o) vo p) (hd : ∀ z, Spc z p o := by exact fun _ => Spc.of rfl) : Hk K g (w.push p) (h ++ [vo]) (upd H p o) where
  len := by unfold Wd.push; simp [k.len]
  inj := fun n m a hn hm => by
    unfold Wd.push at hn hm
    have key : ∀ (i : Nat), (w.phi ++ [some p])[i]? = some (some a) → (i < w.phi.length ∧ w.phi[i]? = some (some a)) ∨ (i = w.phi.length ∧ a = p) := fun i hi => by
      by_cases c : i < w.phi.length
      · rw [List.getElem?_append_left c] at hi
        exact .inl ⟨c, hi⟩
      · rw [List.getElem?_append_right (Nat.le_of_not_lt c)] at hi
        have : i - w.phi.length = 0 := by
          cases z : i - w.phi.length with
          | zero => rfl
          | succ j => rw [z] at hi; simp at hi
        rw [this] at hi
        simp at hi
        exact .inr ⟨by omega, hi.symm⟩
    have no : ∀ (i : Nat), w.phi[i]? = some (some p) → False := fun i hi => k.live (.inl (List.mem_of_getElem? hi)) hp
    rcases key n hn with ⟨c1, e1⟩ | ⟨c1, e1⟩ <;> rcases key m hm with ⟨c2, e2⟩ | ⟨c2, e2⟩
    · exact k.inj n m a e1 e2
    · subst e2; exact (no _ e1).elim
    · subst e1; exact (no _ e2).elim
    · omega
  obj := fun n a hn => by
    unfold Wd.push at hn
    by_cases c : n < w.phi.length
    · rw [List.getElem?_append_left c] at hn
      obtain ⟨u, h1, h2⟩ := k.obj n a hn
      refine ⟨u, by rw [List.getElem?_append_left (by rw [← k.len]; exact c)]; exact h1, RO.mono (Ext.push k hp).sees u a (fun z q => by rw [upd_ne (ne_of_none q hp)]; exact q) h2⟩
    · rw [List.getElem?_append_right (Nat.le_of_not_lt c)] at hn
      have : n - w.phi.length = 0 := by
        cases z : n - w.phi.length with
        | zero => rfl
        | succ j => rw [z] at hn; simp at hn
      rw [this] at hn
      simp at hn
      subst hn
      have en : n = h.length := by rw [← k.len]; omega
      exact ⟨vo, by rw [en]; simp, r⟩
  has := fun n u hn hd => by
    unfold Wd.push
    by_cases c : n < h.length
    · rw [List.getElem?_append_left c] at hn
      obtain ⟨a, ha⟩ := k.has n u hn hd
      exact ⟨a, by rw [List.getElem?_append_left (by rw [k.len]; exact c)]; exact ha⟩
    · have c2 := (List.getElem?_eq_some_iff.mp hn).1
      rw [List.length_append, List.length_singleton] at c2
      have en : n = w.phi.length := by rw [k.len]; omega
      exact ⟨p, by rw [en]; simp⟩
  prot := fun a ha => by
    obtain ⟨h1, h2⟩ := k.prot a ha
    have ne : a ≠ p := fun e => h1 (by rw [e]; exact hp)
    refine ⟨by rw [upd_ne ne]; exact h1, ?_⟩
    unfold Wd.push
    intro z
    rcases List.mem_append.mp z with z | z
    · exact h2 z
    · simp at z; exact ne z
  own := k.own
  ownI := k.ownI
  spc := k.spc.upd hd fun a ne => ⟨fun z => List.mem_append_left _ z, fun z => (mut_push z).elim id fun e => (ne e).elim⟩
end
theorem re_new (ha : RA X g W es ma) : RE X g W (.List es pos) (newM ma) :=
  pe_imp (pe_lst ha) fun σ H Q ⟨w, sv, h, rs, hk, p⟩ => by
    refine seqG' rs hk p fun w1 H1 h1 v y e1 rs1 k1 r1 p1 => ?_
    split at p1
    · rename_i hf
      refine ⟨by rw [← RVs.length r1]; exact fits_le hf, fun q hq => ?_⟩
      have ex := Ext.push (o := .lst y) k1 hq
      refine p1 _ _ _ ex (Hk.push k1 hq ⟨y, upd_same, RVs.mono ex.sees _ _ r1⟩) ?_
      simp only [relV, RV]
      refine ⟨q, rfl, by unfold Wd.push; simp [k1.len], fun b hb => ?_⟩
      unfold Wd.push at hb
      rw [← k1.len] at hb
      simp at hb
      exact hb.symm
    · exact p1.elim
theorem RVs.atI {K : PySem.W.Frag} {G : Gx} {w : Wd} {H : Hp} {xs : List VV} {ys : List V} (r : RVs K G w H xs ys) {i : Int} {v : VV} (h : atI xs i = some v) : ∃ y, L2.atI ys i = some y ∧ RV K G w H v y := by
  unfold L2.atI at h ⊢
  rw [← r.length]
  cases e : ixN xs.length i with
  | none => rw [e] at h; cases h
  | some j =>
    rw [e] at h
    exact r.get j v h
def ixV : V2 := fun x y h => match y with
  | .int i => (match x with
    | .tup xs => (match atI xs i with | some v => .ok v h | none => .bad)
    | .lst xs => (match atI xs i with | some v => .ok v h | none => .bad)
    | .rol xs => (match atI xs i with | some v => .ok v h | none => .bad)
    | .ktu xs => (match atI xs i with | some v => .ok v h | none => .bad)
    | .str z => if fits z.length then (match atI z.cps.toList i with | some c => .ok (.str ⟨#[c]⟩) h | none => .bad) else .bad
    | .ref n => (match h[n]? with | some (.lst xs) => (match atI xs i with | some v => .ok v h | none => .bad) | _ => .bad)
    | _ => .bad)
  | _ => .bad
theorem ref_obj {K : PySem.W.Frag} {g : Gx} {w : Wd} {H : Hp} {h : VH} {n : Nat} {y : V} {o : VO} (hk : Hk K g w h H) (r : RV K g w H (.ref n) y) (e : h[n]? = some o) (hd : o ≠ .dead) : ∃ a, y = .ref a ∧ w.phi[n]? = some (some a) ∧ RO K g w H o a := by
  simp only [RV] at r
  obtain ⟨a, rfl, h1, h2⟩ := r
  obtain ⟨b, hb⟩ := hk.has n _ e hd
  have eb := h2 b hb
  subst eb
  obtain ⟨o', h3, h4⟩ := hk.obj n b hb
  rw [e] at h3
  cases h3
  exact ⟨b, rfl, hb, h4⟩
def tFz (t : TE) : TE := fun σ H Q => t σ H fun v H1 => ∃ d u, v = .ref d ∧ H1 d = some u ∧ Mut (some u) ∧ ∀ od, Q v (upd H1 d (.frz od u))
theorem pe_lock {X : Cx} {e : Expr} {t : TE} (h : PE X e t) : PE X e (tFz t) := ⟨fun pins s σ H Q I q => thn (h.run pins s σ H _ I q) fun v s1 ⟨x, H1, I1, rx, d, u, ex, hd, mu, q1⟩ => by
  obtain ⟨od, I2⟩ := I1.lock hd mu
  exact ⟨x, _, I2, rx, q1 od⟩⟩
theorem ref_get {K : PySem.W.Frag} {g : Gx} {w : Wd} {H : Hp} {h : VH} {n : Nat} {y : V} {xs : List VV} (hk : Hk K g w h H) (r : RV K g w H (.ref n) y) (e : h[n]? = some (.lst xs)) : ∃ a ys, y = .ref a ∧ w.phi[n]? = some (some a) ∧ H a = some (.lst ys) ∧ RVs K g w H xs ys := by
  simp only [RV] at r
  obtain ⟨a, rfl, h1, h2⟩ := r
  obtain ⟨b, hb⟩ := hk.has n _ e (by intro z; cases z)
  have eb := h2 b hb
  subst eb
  obtain ⟨o, h3, h4⟩ := hk.obj n b hb
  rw [e] at h3
  cases h3
  obtain ⟨ys, h5, h6⟩ := h4
  exact ⟨b, ys, rfl, hb, h5, h6⟩
theorem ixS {K : PySem.W.Frag} {g : Gx} : OpS K g (rIx K) ixV := by
  intro w h H σ W Q x y vx vy hk rx ry p
  unfold ixV at p
  split at p
  · split at p
    · split at p
      · rename_i v e
        obtain ⟨a, ys, rfl, ha, r1⟩ := rx.tup_get
        obtain ⟨z, e1, r2⟩ := r1.atI e
        exact .inr (.inl ⟨a, ys, _, z, rfl, ry.int_eq, ha, e1, Post.here p hk r2⟩)
      · exact p.elim
    · split at p
      · rename_i v e
        obtain ⟨a, ys, rfl, ha, r1⟩ := rx.lst_get
        obtain ⟨z, e1, r2⟩ := r1.atI e
        exact .inl ⟨a, ys, _, z, rfl, ry.int_eq, SqL.of ha, e1, Post.here p hk r2⟩
      · exact p.elim
    · split at p
      · rename_i v e
        obtain ⟨a, ys, rfl, ha, r1⟩ := rx.rol_get
        obtain ⟨z, e1, r2⟩ := r1.atI e
        exact .inl ⟨a, ys, _, z, rfl, ry.int_eq, ha, e1, Post.here p hk r2⟩
      · exact p.elim
    · split at p
      · rename_i v e
        obtain ⟨a, ys, rfl, ha, r1⟩ := rx.ktu_get
        obtain ⟨z, e1, r2⟩ := r1.atI e
        exact .inr (.inl ⟨a, ys, _, z, rfl, ry.int_eq, ha, e1, Post.here p hk r2⟩)
      · exact p.elim
    · split at p
      · split at p
        · rename_i hf _ c e
          exact .inr (.inr ⟨_, _, c, rx.str_eq, ry.int_eq, fits_le hf, e, post_str p hk⟩)
        · exact p.elim
      · exact p.elim
    · split at p
      · rename_i xs e0
        split at p
        · rename_i v e
          obtain ⟨a, ys, rfl, _, ha, r1⟩ := ref_get hk rx e0
          obtain ⟨z, e1, r2⟩ := r1.atI e
          exact .inl ⟨a, ys, _, z, rfl, ry.int_eq, SqL.of ha, e1, Post.here p hk r2⟩
        · exact p.elim
      · exact p.elim
    · exact p.elim
  · exact p.elim
abbrev MO := Sv → VH → Out (Option Int)
def relO : Rel (Option Int) (Option Int) := fun _ _ a b => a = b
abbrev RO' (X : Cx) (g : Gx) (W : WX) (e : Option Expr) (m : MO) : Prop := PO X e (tG X.K g relO m W)
theorem po_imp {e : Option Expr} {t t' : TO} (h : PO X e t) (i : ∀ σ H Q, t' σ H Q → t σ H Q) : PO X e t' := ⟨fun pins s σ H Q I q => h.run pins s σ H Q I (i σ H Q q)⟩
def noneO : MO := fun _ h => .ok none h
def someO (m : ME) : MO := fun sv h => (m sv h).bind fun x h1 => match x with
  | .int i => .ok (some i) h1
  | _ => .bad
theorem ro_none : RO' X g W none noneO := po_imp po_none fun σ H Q ⟨w, sv, h, rs, hk, p⟩ => Post.here p hk rfl
theorem ro_some (ha : RE X g W e m) : RO' X g W (some e) (someO m) := po_imp (po_some ha) fun σ H Q ⟨w, sv, h, rs, hk, p⟩ => by
  refine seqG' rs hk p fun w1 H1 h1 v y e1 rs1 k1 r1 p1 => ?_
  split at p1
  · exact ⟨_, RV.int_eq r1, Post.here p1 k1 rfl⟩
  · exact p1.elim
def cutG {α : Type} (xs : List α) (lo hi : Option Int) : List α := (xs.drop (HT.sIx xs.length 0 lo)).take (HT.sIx xs.length xs.length hi - HT.sIx xs.length 0 lo)
theorem RVs.cut {K : PySem.W.Frag} {G : Gx} {w : Wd} {H : Hp} {xs : List VV} {ys : List V} (r : RVs K G w H xs ys) (lo hi : Option Int) : RVs K G w H (cutG xs lo hi) (cutV ys lo hi) := by
  unfold cutG cutV
  rw [← r.length]
  exact (r.drop _).take _
def sliceV (x : VV) (lo hi : Option Int) (h : VH) : Out VV := match x with
  | .tup xs => .ok (.tup (cutG xs lo hi)) h
  | .lst xs => .ok (.lst (cutG xs lo hi)) h
  | .rol xs => .ok (.lst (cutG xs lo hi)) h
  | .ktu xs => if HT.sIx xs.length 0 lo = 0 ∧ HT.sIx xs.length xs.length hi = xs.length then .ok (.ktu xs) h else .ok (.tup (cutG xs lo hi)) h
  | _ => .bad
def sliceM (a : ME) (lo hi : MO) : ME := fun sv h => (a sv h).bind fun x h1 => (lo sv h1).bind fun l h2 => (hi sv h2).bind fun u h3 => sliceV x l u h3
theorem re_slice {lo hi : Option Expr} {ml mh : MO} {p2 : Pos} (he : RE X g W e m) (hl : RO' X g W lo ml) (hu : RO' X g W hi mh) : RE X g W (.Subscript e (.Slice lo hi none p2) pos) (sliceM m ml mh) :=
  pe_imp (pe_slice (sl_list.or sl_tupA) he hl hu) fun σ H Q ⟨w, sv, h, rs, hk, p⟩ => by
    refine seqG' rs hk p fun w1 H1 h1 v y e1 rs1 k1 r1 p1 => ?_
    refine seqG' rs1 k1 p1 fun w2 H2 h2 l l' e2 rs2 k2 r2 p2 => ?_
    refine seqG' rs2 k2 p2 fun w3 H3 h3 u u' e3 rs3 k3 r3 p3 => ?_
    have el : l = l' := r2
    have eu : u = u' := r3
    subst el eu
    have rv := RV.mono (e2.trans e3).sees _ _ r1
    unfold sliceV at p3
    split at p3
    · rename_i xs
      have rv0 := rv
      obtain ⟨a, ys, rfl, ha, r4⟩ := rv.tup_get
      refine .inr ⟨a, ys, rfl, ha, fun c => ?_, fun _ q hq => post_newt p3 k3 (r4.cut l u) hq⟩
      have hc : cutG xs l u = xs := by
        unfold cutG
        rw [r4.length, c.1, c.2, List.drop_zero, Nat.sub_zero, ← r4.length, List.take_length]
      rw [hc] at p3
      exact Post.here p3 k3 rv0
    · obtain ⟨a, ys, rfl, ha, r4⟩ := rv.lst_get
      exact .inl ⟨a, ys, rfl, SqL.of ha, fun q hq => post_newl p3 k3 (r4.cut l u) hq⟩
    · obtain ⟨a, ys, rfl, ha, r4⟩ := rv.rol_get
      exact .inl ⟨a, ys, rfl, ha, fun q hq => post_newl p3 k3 (r4.cut l u) hq⟩
    · rename_i xs
      have rv0 := rv
      obtain ⟨a, ys, rfl, ha, r4⟩ := rv.ktu_get
      rw [r4.length] at p3
      refine .inr ⟨a, ys, rfl, ha, fun c => ?_, fun c q hq => ?_⟩
      · rw [if_pos c] at p3
        exact Post.here p3 k3 rv0
      · rw [if_neg c] at p3
        exact post_newt p3 k3 (r4.cut l u) hq
    · exact p3.elim
abbrev VF := List VV → VH → Out VV
def callM (f : VF) (a : MA) : ME := fun sv h => (a sv h).bind f
def CallS (K : PySem.W.Frag) (g : Gx) (r : List V → Hp → VK → Prop) (f : VF) : Prop := ∀ (w : Wd) (h : VH) (H : Hp) (σ : L2.St) (W : WX) (Q : VK) (xs : List VV) (vs : List V), Hk K g w h H → RVs K g w H xs vs → Post K g (relV K g) w H σ Q W (f xs h) → r vs H Q
theorem call_imp {r : List V → Hp → VK → Prop} {f : VF} (hf : CallS X.K g r f) {σ : L2.St} {H : Hp} {Q : VK} (t : tG X.K g (relV X.K g) (callM f ma) W σ H Q) : tCB r (tG X.K g (relVs X.K g) ma W) σ H Q := by
  obtain ⟨w, sv, h, rs, hk, p⟩ := t
  refine seqG' rs hk p fun w1 H1 h1 v y e1 rs1 k1 r1 p1 => ?_
  exact hf w1 h1 H1 σ W Q v y k1 r1 p1
theorem re_callB {x : Str} {p : Pos} {id : String} {r : List V → Hp → VK → Prop} {f : VF} (hc : CallR X (.builtin id) r) (hf : CallS X.K g r f) (hg : Gl X x) (hm : X.mg x = none) (hv : bootBuiltins x = some (.builtin id)) (ha : RA X g W (e :: es) ma) (hn : x ≠ "__name__" := by decide)
    (hdb : (x == ("__debug__" : Str)) = false := by decide) (he : starEach (e :: es) X.env = (false, eval e X.env) :: starEach es X.env := by rfl) (hpl : (backTo pos (starEach es X.env)).any (·.1) = false := by rfl) : RE X g W (.Call (.Name x p) (e :: es) [] pos) (callM f ma) :=
  pe_imp (pe_callB hc hg hm hv ha hn hdb he hpl) fun σ H Q t => call_imp hf t
theorem re_callTy {x : Str} {p : Pos} {T : String} {r : List V → Hp → VK → Prop} {f : VF} (hc : CallR X (.type T) r) (hf : CallS X.K g r f) (hg : Gl X x) (hm : X.mg x = none) (hv : bootBuiltins x = some (.type T)) (ha : RA X g W (e :: es) ma) (hn : x ≠ "__name__" := by decide)
    (hdb : (x == ("__debug__" : Str)) = false := by decide) (he : starEach (e :: es) X.env = (false, eval e X.env) :: starEach es X.env := by rfl) (hpl : (backTo pos (starEach es X.env)).any (·.1) = false := by rfl) : RE X g W (.Call (.Name x p) (e :: es) [] pos) (callM f ma) :=
  pe_imp (pe_callTy hc hg hm hv ha hn hdb he hpl) fun σ H Q t => call_imp hf t
end
section
variable {K : PySem.W.Frag} {g : Gx} {w : Wd} {H : Hp} {h : VH}
theorem RVs.one {G : Gx} {x : VV} {vs : List V} (r : RVs K G w H [x] vs) : ∃ y, vs = [y] ∧ RV K G w H x y := by
  simp only [RVs] at r
  obtain ⟨y, t, rfl, r1, rfl⟩ := r
  exact ⟨y, rfl, r1⟩
theorem RVs.two {G : Gx} {x x' : VV} {vs : List V} (r : RVs K G w H [x, x'] vs) : ∃ y y', vs = [y, y'] ∧ RV K G w H x y ∧ RV K G w H x' y' := by
  simp only [RVs] at r
  obtain ⟨y, t, rfl, r1, y', t', rfl, r2, rfl⟩ := r
  exact ⟨y, y', rfl, r1, r2⟩
def lenF : VF := fun xs h => match xs with
  | [.tup ys] => .ok (.int ys.length) h
  | [.lst ys] => .ok (.int ys.length) h
  | [.rol ys] => .ok (.int ys.length) h
  | [.ktu ys] => .ok (.int ys.length) h
  | [.str z] => if fits z.length then .ok (.int z.length) h else .bad
  | [.ref n] => (match h[n]? with | some (.lst ys) => .ok (.int ys.length) h | _ => .bad)
  | _ => .bad
theorem lenS : CallS K g (fun xs H Q => ∃ x n, xs = [x] ∧ LenV K x H n ∧ Q (.int n) H) lenF := by
  intro w h H σ W Q xs vs hk r p
  unfold lenF at p
  split at p
  · obtain ⟨y, rfl, r1⟩ := r.one
    obtain ⟨a, ys', rfl, ha, r2⟩ := r1.tup_get
    exact ⟨_, _, rfl, .inr ⟨ys', ha, rfl⟩, by rw [← r2.length]; exact post_int p hk⟩
  · obtain ⟨y, rfl, r1⟩ := r.one
    obtain ⟨a, ys', rfl, ha, r2⟩ := r1.lst_get
    exact ⟨_, _, rfl, .inl ⟨ys', SqL.of ha, rfl⟩, by rw [← r2.length]; exact post_int p hk⟩
  · obtain ⟨y, rfl, r1⟩ := r.one
    obtain ⟨a, ys', rfl, ha, r2⟩ := r1.rol_get
    exact ⟨_, _, rfl, .inl ⟨ys', ha, rfl⟩, by rw [← r2.length]; exact post_int p hk⟩
  · obtain ⟨y, rfl, r1⟩ := r.one
    obtain ⟨a, ys', rfl, ha, r2⟩ := r1.ktu_get
    exact ⟨_, _, rfl, .inr ⟨ys', ha, rfl⟩, by rw [← r2.length]; exact post_int p hk⟩
  · split at p
    · rename_i hf
      obtain ⟨y, rfl, r1⟩ := r.one
      rw [r1.str_eq]
      exact ⟨_, _, rfl, ⟨fits_le hf, rfl⟩, post_int p hk⟩
    · exact p.elim
  · split at p
    · rename_i ys e
      obtain ⟨y, rfl, r1⟩ := r.one
      obtain ⟨a, ys', rfl, _, ha, r2⟩ := ref_get hk r1 e
      exact ⟨_, _, rfl, .inl ⟨ys', SqL.of ha, rfl⟩, by rw [← r2.length]; exact post_int p hk⟩
    · exact p.elim
  · exact p.elim
def intF : VF := fun xs h => match xs with
  | [.int i] => .ok (.int i) h
  | [.bl k] => .ok (.int (if k then 1 else 0)) h
  | _ => .bad
theorem intFS : CallS K g (fun xs H Q => (∃ i, xs = [.int i] ∧ Q (.int i) H) ∨ ∃ k, xs = [.bl k] ∧ Q (.int (if k then 1 else 0)) H) intF := by
  intro w h H σ W Q xs vs hk r p
  unfold intF at p
  split at p
  · obtain ⟨y, rfl, r1⟩ := r.one
    rw [r1.int_eq]
    exact .inl ⟨_, rfl, post_int p hk⟩
  · obtain ⟨y, rfl, r1⟩ := r.one
    rw [r1.bl_eq]
    exact .inr ⟨_, rfl, post_int p hk⟩
  · exact p.elim
def absF : VF := fun xs h => match xs with
  | [.int i] => .ok (.int (if i < 0 then -i else i)) h
  | _ => .bad
theorem absS : CallS K g (fun xs H Q => ∃ i, xs = [.int i] ∧ Q (.int (if i < 0 then -i else i)) H) absF := by
  intro w h H σ W Q xs vs hk r p
  unfold absF at p
  split at p
  · obtain ⟨y, rfl, r1⟩ := r.one
    rw [r1.int_eq]
    exact ⟨_, rfl, post_int p hk⟩
  · exact p.elim
def int2F (f : Int → Int → Int) : VF := fun xs h => match xs with
  | [.int i, .int j] => .ok (.int (f i j)) h
  | _ => .bad
theorem int2S {f : Int → Int → Int} : CallS K g (fun xs H Q => ∃ i j, xs = [.int i, .int j] ∧ Q (.int (f i j)) H) (int2F f) := by
  intro w h H σ W Q xs vs hk r p
  unfold int2F at p
  split at p
  · obtain ⟨y, y', rfl, r1, r2⟩ := r.two
    rw [r1.int_eq, r2.int_eq]
    exact ⟨_, _, rfl, post_int p hk⟩
  · exact p.elim
def maxF : VF := int2F fun i j => if j > i then j else i
def minF : VF := int2F fun i j => if j < i then j else i
def allBl : List VV → Option (List Bool)
  | [] => some []
  | .bl b :: r => (allBl r).map fun bs => b :: bs
  | _ => none
theorem allBl_ok : ∀ {xs : List VV} {bs : List Bool}, allBl xs = some bs → xs = bs.map VV.bl
  | [], bs, h => by simp only [allBl, Option.some.injEq] at h; subst h; rfl
  | .bl b :: r, bs, h => by
    simp only [allBl, Option.map_eq_some_iff] at h
    obtain ⟨cs, h1, rfl⟩ := h
    rw [allBl_ok h1]
    rfl
  | .non :: _, _, h => by simp only [allBl] at h; cases h
  | .int _ :: _, _, h => by simp only [allBl] at h; cases h
  | .str _ :: _, _, h => by simp only [allBl] at h; cases h
  | .ty _ :: _, _, h => by simp only [allBl] at h; cases h
  | .tup _ :: _, _, h => by simp only [allBl] at h; cases h
  | .lst _ :: _, _, h => by simp only [allBl] at h; cases h
  | .rol _ :: _, _, h => by simp only [allBl] at h; cases h
  | .dct _ _ :: _, _, h => by simp only [allBl] at h; cases h
  | .dtt _ _ :: _, _, h => by simp only [allBl] at h; cases h
  | .ktu _ :: _, _, h => by simp only [allBl] at h; cases h
  | .ins _ _ :: _, _, h => by simp only [allBl] at h; cases h
  | .ref _ :: _, _, h => by simp only [allBl] at h; cases h
  | .adr _ :: _, _, h => by simp only [allBl] at h; cases h
def allIt : List VV → Option (List Int)
  | [] => some []
  | .int b :: r => (allIt r).map fun bs => b :: bs
  | _ => none
theorem allIt_ok : ∀ {xs : List VV} {bs : List Int}, allIt xs = some bs → xs = bs.map VV.int
  | [], bs, h => by simp only [allIt, Option.some.injEq] at h; subst h; rfl
  | .int b :: r, bs, h => by
    simp only [allIt, Option.map_eq_some_iff] at h
    obtain ⟨cs, h1, rfl⟩ := h
    rw [allIt_ok h1]
    rfl
  | .non :: _, _, h => by simp only [allIt] at h; cases h
  | .bl _ :: _, _, h => by simp only [allIt] at h; cases h
  | .str _ :: _, _, h => by simp only [allIt] at h; cases h
  | .ty _ :: _, _, h => by simp only [allIt] at h; cases h
  | .tup _ :: _, _, h => by simp only [allIt] at h; cases h
  | .lst _ :: _, _, h => by simp only [allIt] at h; cases h
  | .rol _ :: _, _, h => by simp only [allIt] at h; cases h
  | .dct _ _ :: _, _, h => by simp only [allIt] at h; cases h
  | .dtt _ _ :: _, _, h => by simp only [allIt] at h; cases h
  | .ktu _ :: _, _, h => by simp only [allIt] at h; cases h
  | .ins _ _ :: _, _, h => by simp only [allIt] at h; cases h
  | .ref _ :: _, _, h => by simp only [allIt] at h; cases h
  | .adr _ :: _, _, h => by simp only [allIt] at h; cases h
def allF : VF := fun xs h => match xs with
  | [.lst ys] => (match allBl ys with | some bs => .ok (.bl (bs.all id)) h | none => .bad)
  | _ => .bad
theorem allS : CallS K g (rAll K) allF := by
  intro w h H σ W Q xs vs hk r p
  unfold allF at p
  split at p
  · split at p
    · rename_i bs e
      obtain ⟨y, rfl, r1⟩ := r.one
      obtain ⟨a, ys', rfl, ha, r2⟩ := r1.lst_get
      rw [allBl_ok e] at r2
      rw [r2.bls] at ha
      exact ⟨a, bs, rfl, SqL.of ha, post_bl p hk⟩
    · exact p.elim
  · exact p.elim
def listF : VF := fun xs h => match xs with
  | [.tup ys] => .ok (.lst ys) h
  | [.lst ys] => .ok (.lst ys) h
  | [.rol ys] => .ok (.lst ys) h
  | [.ktu ys] => .ok (.lst ys) h
  | _ => .bad
theorem listS : CallS K g (fun xs H Q => ∃ p ys, xs = [.ref p] ∧ (SqL K H p ys ∨ SqT K H p ys) ∧ ∀ l, H l = none → Q (.ref l) (upd H l (.lst ys))) listF := by
  intro w h H σ W Q xs vs hk r p
  unfold listF at p
  split at p
  · obtain ⟨y, rfl, r1⟩ := r.one
    obtain ⟨a, ys', rfl, ha, r2⟩ := r1.tup_get
    exact ⟨a, ys', rfl, .inr ha, fun q hq => post_newl p hk r2 hq⟩
  · obtain ⟨y, rfl, r1⟩ := r.one
    obtain ⟨a, ys', rfl, ha, r2⟩ := r1.lst_get
    exact ⟨a, ys', rfl, .inl (SqL.of ha), fun q hq => post_newl p hk r2 hq⟩
  · obtain ⟨y, rfl, r1⟩ := r.one
    obtain ⟨a, ys', rfl, ha, r2⟩ := r1.rol_get
    exact ⟨a, ys', rfl, .inl ha, fun q hq => post_newl p hk r2 hq⟩
  · obtain ⟨y, rfl, r1⟩ := r.one
    obtain ⟨a, ys', rfl, ha, r2⟩ := r1.ktu_get
    exact ⟨a, ys', rfl, .inr ha, fun q hq => post_newl p hk r2 hq⟩
  · exact p.elim
def tupleF : VF := fun xs h => match xs with
  | [.tup ys] => .ok (.tup ys) h
  | [.lst ys] => .ok (.tup ys) h
  | [.rol ys] => .ok (.tup ys) h
  | [.ktu ys] => .ok (.ktu ys) h
  | _ => .bad
theorem tupleS : CallS K g (fun xs H Q => ∃ p ys, xs = [.ref p] ∧ ((SqL K H p ys ∧ ∀ l, H l = none → Q (.ref l) (upd H l (.tup ys))) ∨ (SqT K H p ys ∧ Q (.ref p) H))) tupleF := by
  intro w h H σ W Q xs vs hk r p
  unfold tupleF at p
  split at p
  · obtain ⟨y, rfl, r1⟩ := r.one
    have r0 := r1
    obtain ⟨a, ys', rfl, ha, r2⟩ := r1.tup_get
    exact ⟨a, ys', rfl, .inr ⟨ha, Post.here p hk r0⟩⟩
  · obtain ⟨y, rfl, r1⟩ := r.one
    obtain ⟨a, ys', rfl, ha, r2⟩ := r1.lst_get
    exact ⟨a, ys', rfl, .inl ⟨SqL.of ha, fun q hq => post_newt p hk r2 hq⟩⟩
  · obtain ⟨y, rfl, r1⟩ := r.one
    obtain ⟨a, ys', rfl, ha, r2⟩ := r1.rol_get
    exact ⟨a, ys', rfl, .inl ⟨ha, fun q hq => post_newt p hk r2 hq⟩⟩
  · obtain ⟨y, rfl, r1⟩ := r.one
    have r0 := r1
    obtain ⟨a, ys', rfl, ha, r2⟩ := r1.ktu_get
    exact ⟨a, ys', rfl, .inr ⟨ha, Post.here p hk r0⟩⟩
  · exact p.elim
inductive TyY (K : PySem.W.Frag) (H : Hp) : V → Value → Prop where
  | base {x : V} {t : Value} (h : TyX K H x t) : TyY K H x t
  | fDictT {a : Addr} {o : Obj} {kvs : List (List Key × V)} (e : H a = some (.frz o (.dT kvs))) : TyY K H (.ref a) (.type "dict")
  | bd {a : Addr} {ob : Obj} {vs : List V} (e : H a = some (.frz ob (.ext fun _ => True))) (b : BdP ob vs) : TyY K H (.ref a) (.type "dict")
  | sl {a C dx : Addr} {vs : List (Option V)} (h : SlX.Slt H a C dx vs) (c : SlX.SCls K C) (i : SlX.SIsi K C) : TyY K H (.ref a) (.ref C)
def rIsiY (K : PySem.W.Frag) : List V → Hp → VK → Prop := fun xs H Q => ∃ (x c : V) (t u : Value) (b : Bool), xs = [x, c] ∧ ClsV c u ∧ TyY K H x t ∧ PySem.W.kitOne K t u = some b ∧ Q (.bl b) H
theorem kit_ofY {X : Cx} {pins : List (Addr × Obj)} {σ : L2.St} {H : Hp} {s : Shared} {x : V} {u t : Value} (I : Inv X pins σ H s) (rx : RelV x u) (ty : TyY X.K H x t) : ∃ P : Heap → Prop, PySem.W.KitX X.K u t P ∧ P s.heap ∧ u ≠ .builtin "__main__.__loader__#opaque" := by
  cases ty with
  | base b => exact kit_of I rx b
  | @fDictT a ob kvs ea =>
    cases (show u = Value.ref a from rx)
    obtain ⟨_, _, _, vs, _, o, es, ep, h1, h2, _⟩ := (show ObjOk X.prog X.w H s.heap a (.frz ob (.dT kvs)) from I.hok a _ ea)
    exact ⟨_, PySem.W.kitx_dict, ⟨o, h1, h2.1⟩, fun z => nomatch z⟩
  | @bd a ob vs ea hb =>
    cases (show u = Value.ref a from rx)
    obtain ⟨h1, _⟩ := (show ObjOk X.prog X.w H s.heap a (.frz ob (.ext fun _ => True)) from I.hok a _ ea)
    exact ⟨_, PySem.W.kitx_dict, ⟨ob, h1, hb.1.1⟩, fun z => nomatch z⟩
  | @sl a C dx vs hsl hc hi =>
    cases (show u = Value.ref a from rx)
    obtain ⟨sl, od, _, J, _⟩ := SlX.slt_inst I hsl
    exact ⟨_, OwX.kitx_slt hc.ic (hc.get _) hi.ca hi.cn hi.ct hi.cm, J, fun z => nomatch z⟩
theorem call_isiY {X : Cx} : CallR X (.builtin "isinstance") (rIsiY X.K) := by
  intro pins s σ H xs us Q I r h
  obtain ⟨x, c, t, u, b, rfl, k, ty, e, q⟩ := h
  obtain ⟨u1, u2, rfl, r1, r2⟩ := r.two
  have e2 := k.eq r2
  subst e2
  obtain ⟨P, Z, p, hx⟩ := kit_ofY I r1 ty
  exact PySem.W.kia_one Z I.kIn p e hx fun tk => ⟨.bl b, H, I.tok tk, rfl, q⟩
def tyOf (h : VH) : VV → Option BTy
  | .non => some .none
  | .bl _ => some .bool
  | .int _ => some .int
  | .str _ => some .str
  | .tup _ => some .tuple
  | .lst _ => some .list
  | .dct _ _ => some .dict
  | .dtt _ _ => some .dict
  | .ktu _ => some .tuple
  | .ins 0 _ => some .dict
  | .ref n => (match h[n]? with | some (.lst _) => some .list | some (.dtt _ _) => some .dict | some (.dct _ _) => some .dict | _ => none)
  | _ => none
def subTy : BTy → BTy → Bool
  | .bool, .bool => true | .bool, .int => true | .int, .int => true | .str, .str => true | .tuple, .tuple => true | .list, .list => true | .dict, .dict => true | .set, .set => true | .none, .none => true
  | _, _ => false
theorem kit_sub {K : PySem.W.Frag} (a b : BTy) : PySem.W.kitOne K (.type a.name) (.type b.name) = some (subTy a b) := by
  cases a <;> cases b <;> exact kit_ty (by decide +kernel)
theorem tyOf_ok {x : VV} {t : BTy} {y : V} (hk : Hk K g w h H) (r : RV K g w H x y) (e : tyOf h x = some t) : TyY K H y (.type t.name) := by
  cases x with
  | non => simp only [tyOf, Option.some.injEq] at e; simp only [RV] at r; subst e r; exact .base (.base .non)
  | bl b => simp only [tyOf, Option.some.injEq] at e; simp only [RV] at r; subst e r; exact .base (.base (.bl b))
  | int b => simp only [tyOf, Option.some.injEq] at e; simp only [RV] at r; subst e r; exact .base (.base (.int b))
  | str b => simp only [tyOf, Option.some.injEq] at e; simp only [RV] at r; subst e r; exact .base (.base (.str b))
  | tup xs =>
    simp only [tyOf, Option.some.injEq] at e
    simp only [RV] at r
    obtain ⟨a, ys, rfl, h1, _⟩ := r
    subst e
    exact .base (.base (.tup h1.1))
  | lst xs =>
    simp only [tyOf, Option.some.injEq] at e
    obtain ⟨a, ys, rfl, h1, _⟩ := r.lst_get
    subst e
    exact .base (.base (.lst h1))
  | dct ks vs =>
    simp only [tyOf, Option.some.injEq] at e
    simp only [RV] at r
    obtain ⟨a, kvs, rfl, ⟨o, h1, _⟩, _⟩ := r
    subst e
    exact .base (.fDict h1)
  | dtt ks vs =>
    simp only [tyOf, Option.some.injEq] at e
    simp only [RV] at r
    obtain ⟨a, kvs, rfl, ⟨o, h1, _⟩, _⟩ := r
    subst e
    exact .fDictT h1
  | ktu xs =>
    simp only [tyOf, Option.some.injEq] at e
    simp only [RV] at r
    obtain ⟨a, ys, rfl, ⟨o, its, n, h1, h2, _⟩ | ⟨o, h1, _⟩, _⟩ := r
    · subst e
      exact .base (.kTuple h1 h2)
    · subst e
      exact .base (.fTuple h1)
  | ins c fs =>
    cases c with
    | zero =>
      simp only [tyOf, Option.some.injEq] at e
      simp only [RV] at r
      obtain ⟨a, vs, rfl, ⟨ob, h1, h2, _⟩, _⟩ := r
      subst e
      exact .bd h1 h2.2
    | succ n => simp only [tyOf] at e; cases e
  | ref n =>
    simp only [tyOf] at e
    split at e
    · rename_i xs e1
      simp only [Option.some.injEq] at e
      subst e
      obtain ⟨a, ys, rfl, _, h2, _⟩ := ref_get hk r e1
      exact .base (.base (.lst h2))
    · rename_i ks vs e1
      simp only [Option.some.injEq] at e
      subst e
      obtain ⟨a, rfl, _, kvs, h2, _⟩ := ref_obj hk r e1 (fun z => nomatch z)
      exact .base (.base (.dT h2))
    · rename_i ks vs e1
      simp only [Option.some.injEq] at e
      subst e
      obtain ⟨a, rfl, _, kvs, h2, _⟩ := ref_obj hk r e1 (fun z => nomatch z)
      exact .base (.base (.dK h2))
    · cases e
  | _ => simp only [tyOf] at e; cases e
def insI (x : Int) : List Int → List Int
  | [] => [x]
  | y :: r => if x ≤ y then x :: y :: r else y :: insI x r
def sortI : List Int → List Int
  | [] => []
  | x :: r => insI x (sortI r)
theorem insI_perm (x : Int) : ∀ l : List Int, (insI x l).Perm (x :: l)
  | [] => List.Perm.refl _
  | y :: r => by
    unfold insI
    split
    · exact List.Perm.refl _
    · exact ((insI_perm x r).cons y).trans (List.Perm.swap x y r)
theorem sortI_perm : ∀ l : List Int, (sortI l).Perm l
  | [] => List.Perm.refl _
  | x :: r => (insI_perm x _).trans ((sortI_perm r).cons x)
theorem insI_sorted (x : Int) : ∀ l : List Int, l.Pairwise (· ≤ ·) → (insI x l).Pairwise (· ≤ ·)
  | [], _ => List.pairwise_singleton _ _
  | y :: r, h => by
    unfold insI
    obtain ⟨h1, h2⟩ := List.pairwise_cons.mp h
    split
    · rename_i c
      refine List.pairwise_cons.mpr ⟨fun z hz => ?_, h⟩
      rcases List.mem_cons.mp hz with e | hz
      · rw [e]; exact c
      · exact Int.le_trans c (h1 z hz)
    · rename_i c
      refine List.pairwise_cons.mpr ⟨fun z hz => ?_, insI_sorted x r h2⟩
      rcases List.mem_cons.mp ((insI_perm x r).mem_iff.mp hz) with e | hz
      · rw [e]; omega
      · exact h1 z hz
theorem sortI_sorted : ∀ l : List Int, (sortI l).Pairwise (· ≤ ·)
  | [] => List.Pairwise.nil
  | x :: r => insI_sorted x _ (sortI_sorted r)
theorem sorted_unique : ∀ {l m : List Int}, l.Perm m → l.Pairwise (· ≤ ·) → m.Pairwise (· ≤ ·) → l = m
  | [], m, p, _, _ => by
    have := p.length_eq
    exact (List.length_eq_zero_iff.mp this.symm).symm
  | x :: l, m, p, h1, h2 => by
    cases m with
    | nil =>
      have := p.length_eq
      simp at this
    | cons y m =>
      obtain ⟨a1, a2⟩ := List.pairwise_cons.mp h1
      obtain ⟨b1, b2⟩ := List.pairwise_cons.mp h2
      have e : x = y := by
        have hx : x ∈ y :: m := p.mem_iff.mp List.mem_cons_self
        have hy : y ∈ x :: l := p.mem_iff.mpr List.mem_cons_self
        have c1 : y ≤ x := by
          rcases List.mem_cons.mp hx with e | hx
          · omega
          · exact b1 x hx
        have c2 : x ≤ y := by
          rcases List.mem_cons.mp hy with e | hy
          · omega
          · exact a1 y hy
        omega
      subst e
      rw [sorted_unique (List.perm_cons x |>.mp p) a2 b2]
def sortedF : VF := fun xs h => match xs with
  | [.lst ys] => (match allIt ys with | some ns => .ok (.lst ((sortI ns).map VV.int)) h | none => .bad)
  | _ => .bad
theorem sortedS : CallS K g (rSortedI K) sortedF := by
  intro w h H σ W Q xs vs hk r p
  unfold sortedF at p
  split at p
  · split at p
    · rename_i ns e
      obtain ⟨y, rfl, r1⟩ := r.one
      obtain ⟨a, ys', rfl, ha, r2⟩ := r1.lst_get
      rw [allIt_ok e] at r2
      rw [r2.ints] at ha
      refine ⟨a, ns, rfl, SqL.of ha, fun ns' q hp hs hq => ?_⟩
      have e2 : ns' = sortI ns := sorted_unique (hp.trans (sortI_perm ns).symm) hs (sortI_sorted ns)
      rw [e2]
      exact post_newl p hk (RVs.of_ints _) hq
    · exact p.elim
  · exact p.elim
end
end Mv
set_option Elab.async false
set_option linter.all false
set_option maxRecDepth 100000
namespace Mv
open PySem PySem.Spec PyProof.Rows L2
structure ItOk (K : PySem.W.Frag) (g : Gx) (w : Wd) (H : Hp) (items : List VV) (J : It) : Prop where
  step : ∀ (w1 : Wd) (h1 : VH) (H1 : Hp) (i : Nat) (v : VV), Sees w H w1 H1 → Hk K g w1 h1 H1 → items[i]? = some v → J.go i H1 ∧ ∀ x H2, J.yld i H1 x H2 → Ext w1 H1 w1 H2 ∧ Hk K g w1 h1 H2 ∧ RV K g w1 H2 v x
  stop : ∀ (w1 : Wd) (H1 : Hp), Sees w H w1 H1 → J.stop items.length H1
def relI (K : PySem.W.Frag) (g : Gx) : Rel (List VV) It := fun w H items J => ItOk K g w H items J
abbrev MI := Sv → VH → Out (List VV)
abbrev RI (X : Cx) (g : Gx) (W : WX) (tg iter : Expr) (m : MI) : Prop := PI X tg iter (tG X.K g (relI X.K g) m W)
theorem pi_imp {X : Cx} {tg iter : Expr} {t t' : TI} (h : PI X tg iter t) (i : ∀ σ H R, t' σ H R → t σ H R) : PI X tg iter t' := ⟨fun pins s σ H R I q => h.run pins s σ H R I (i σ H R q)⟩
theorem Sees.refl (w : Wd) (H : Hp) : Sees w H w H := ⟨fun _ _ h m => ⟨h, m⟩, fun _ _ _ h => h, Nat.le_refl _, rfl⟩
theorem Sees.trans {w w1 w2 : Wd} {H H1 H2 : Hp} (a : Sees w H w1 H1) (b : Sees w1 H1 w2 H2) : Sees w H w2 H2 where
  Q := b.Q.trans a.Q
  keep := fun c o h m => let ⟨h1, m1⟩ := a.keep c o h m; b.keep c o h1 m1
  refs := fun n c hn h => a.refs n c hn (b.refs n c (Nat.lt_of_lt_of_le hn a.len) h)
  len := Nat.le_trans a.len b.len
theorem ItOk.mono {K : PySem.W.Frag} {g : Gx} {w w' : Wd} {H H' : Hp} {items : List VV} {J : It} (h : ItOk K g w H items J) (e : Sees w H w' H') : ItOk K g w' H' items J :=
  ⟨fun w1 h1 H1 i v s k q => h.step w1 h1 H1 i v (e.trans s) k q, fun w1 H1 s => h.stop w1 H1 (e.trans s)⟩
theorem itl_ok {K : PySem.W.Frag} {g : Gx} {w : Wd} {H : Hp} {xs : List VV} {a : Addr} {ys : List V} (st : ∀ w1 H1, Sees w H w1 H1 → SqL K H1 a ys) (r : RVs K g w H xs ys) : ItOk K g w H xs (Itl K a) where
  step := fun w1 h1 H1 i v s k q => by
    obtain ⟨z, e1, r1⟩ := r.get i v q
    refine ⟨⟨ys, z, st w1 H1 s, e1⟩, fun x H2 hy => ?_⟩
    obtain ⟨e2, hx⟩ := hy
    subst e2
    have := hx ys (st w1 _ s)
    rw [e1] at this
    cases this
    exact ⟨Ext.refl _ _, k, RV.mono s _ _ r1⟩
  stop := fun w1 H1 s => ⟨ys, st w1 H1 s, by rw [r.length]; exact Nat.le_refl _⟩
theorem itt_ok {K : PySem.W.Frag} {g : Gx} {w : Wd} {H : Hp} {xs : List VV} {a : Addr} {ys : List V} (st : ∀ w1 H1, Sees w H w1 H1 → SqT K H1 a ys) (r : RVs K g w H xs ys) : ItOk K g w H xs (Itt K a) where
  step := fun w1 h1 H1 i v s k q => by
    obtain ⟨z, e1, r1⟩ := r.get i v q
    refine ⟨⟨ys, z, st w1 H1 s, e1⟩, fun x H2 hy => ?_⟩
    obtain ⟨e2, hx⟩ := hy
    subst e2
    have := hx ys (st w1 _ s)
    rw [e1] at this
    cases this
    exact ⟨Ext.refl _ _, k, RV.mono s _ _ r1⟩
  stop := fun w1 H1 s => ⟨ys, st w1 H1 s, by rw [r.length]; exact Nat.le_refl _⟩
theorem RV.tup_st {K : PySem.W.Frag} {G : Gx} {w : Wd} {H : Hp} {xs : List VV} {y : V} (r : RV K G w H (.tup xs) y) : ∃ a ys, y = .ref a ∧ RVs K G w H xs ys ∧ ∀ w1 H1, Sees w H w1 H1 → SqT K H1 a ys := by
  simp only [RV] at r
  obtain ⟨a, ys, e, h, r⟩ := r
  exact ⟨a, ys, e, r, fun w1 H1 s => .inl (.inl (s.keep a _ h.1 h.2).1)⟩
theorem RV.ktu_st {K : PySem.W.Frag} {G : Gx} {w : Wd} {H : Hp} {xs : List VV} {y : V} (r : RV K G w H (.ktu xs) y) : ∃ a ys, y = .ref a ∧ RVs K G w H xs ys ∧ ∀ w1 H1, Sees w H w1 H1 → SqT K H1 a ys := by
  simp only [RV] at r
  obtain ⟨a, ys, e, h, r⟩ := r
  exact ⟨a, ys, e, r, fun w1 H1 s => h.elim KTup.sq (fun ⟨o, q, _, m⟩ => .inl (.inr ⟨o, (s.keep a _ q m).1⟩))⟩
theorem RV.lst_st {K : PySem.W.Frag} {G : Gx} {w : Wd} {H : Hp} {xs : List VV} {y : V} (r : RV K G w H (.lst xs) y) : ∃ a ys, y = .ref a ∧ RVs K G w H xs ys ∧ ∀ w1 H1, Sees w H w1 H1 → SqL K H1 a ys := by
  simp only [RV] at r
  obtain ⟨a, ys, e, h, r⟩ := r
  exact ⟨a, ys, e, r, fun w1 H1 s => .inl (.inl (s.keep a _ h.1 h.2).1)⟩
theorem RV.rol_st {K : PySem.W.Frag} {G : Gx} {w : Wd} {H : Hp} {xs : List VV} {y : V} (r : RV K G w H (.rol xs) y) : ∃ a ys, y = .ref a ∧ RVs K G w H xs ys ∧ ∀ w1 H1, Sees w H w1 H1 → SqL K H1 a ys := by
  simp only [RV] at r
  obtain ⟨a, ys, e, h, r⟩ := r
  refine ⟨a, ys, e, r, fun w1 H1 s => ?_⟩
  rcases h with ⟨o, h⟩ | h
  · exact .inl (.inr ⟨o, (s.keep a _ h.1 h.2).1⟩)
  · exact .inr h
section
variable {X : Cx} {tg : Expr}
theorem pi_seq {l : Expr} {tl : TE} (hl : PE X l tl) : PI X tg l (fun σ H R => tl σ H fun x H1 => ∃ a, x = .ref a ∧ (((∃ xs, SqL X.K H1 a xs) ∧ R (Itl X.K a) H1) ∨ ((∃ xs, SqT X.K H1 a xs) ∧ R (Itt X.K a) H1))) := by
  refine ⟨fun pins s σ H R I h => ?_⟩
  refine thn (hl.run pins s σ H _ I h) fun v s1 ⟨x, H1, I1, r1, a, e, q1⟩ => ?_
  subst e
  cases r1
  rcases q1 with ⟨⟨xs, hq⟩, q⟩ | ⟨⟨xs, hq⟩, q⟩
  · obtain ⟨its, rv, p, hz⟩ := I1.list hq
    refine wpAny_pyIter_list p.isList ?_
    refine ⟨s1.heap.objs.size, [s1.heap.objs.size], _, _, H1, rfl, I1.kept (t' := s1.toks) fun b o e => Heap.get?_push_of_some _ e, turn_list a _, ⟨_, Heap.get?_push_size _ rfl, rfl, rfl⟩, fun b hb => ?_, q⟩
    have e : b = s1.heap.objs.size := by simpa using hb
    subst e
    exact I1.fpOk (Nat.le_refl _) (I1.hok.fresh (Nat.le_refl _))
  · obtain ⟨its, rv, p, hz⟩ := I1.tuple hq
    refine wpAny_pyIter_tuple (show s1.heap.IsTuple a its.toArray from p) ?_
    refine ⟨s1.heap.objs.size, [s1.heap.objs.size], _, _, H1, rfl, I1.kept (t' := s1.toks) fun b o e => Heap.get?_push_of_some _ e, turn_tuple a _, ⟨_, Heap.get?_push_size _ rfl, rfl, rfl⟩, fun b hb => ?_, q⟩
    have e : b = s1.heap.objs.size := by simpa using hb
    subst e
    exact I1.fpOk (Nat.le_refl _) (I1.hok.fresh (Nat.le_refl _))
variable {g : Gx} {W : WX} {e e2 : Expr} {m : ME} {ma : MA} {pos p : Pos}
def iota (lo : Int) : Nat → List VV
  | 0 => []
  | n + 1 => .int lo :: iota (lo + 1) n
theorem iota_length (lo : Int) : ∀ n, (iota lo n).length = n
  | 0 => rfl
  | n + 1 => by simp [iota, iota_length]
theorem iota_get : ∀ (n i : Nat) (lo : Int) (v : VV), (iota lo n)[i]? = some v → i < n ∧ v = .int (lo + i)
  | 0, i, lo, v, h => by simp [iota] at h
  | n + 1, 0, lo, v, h => by simp [iota] at h; subst h; simp
  | n + 1, i + 1, lo, v, h => by
    obtain ⟨h1, h2⟩ := iota_get n i (lo + 1) v (by simpa [iota] using h)
    refine ⟨by omega, ?_⟩
    rw [h2]
    congr 1
    omega
theorem itr_ok {K : PySem.W.Frag} {w : Wd} {H : Hp} (lo : Int) (n : Nat) : ItOk K g w H (iota lo n) (Itr lo n) where
  step := fun w1 h1 H1 i v s k q => by
    obtain ⟨h2, e⟩ := iota_get n i lo v q
    refine ⟨h2, fun x H2 hy => ?_⟩
    obtain ⟨e2, hx⟩ := hy
    subst e2 e hx
    exact ⟨Ext.refl _ _, k, by simp only [RV]⟩
  stop := fun w1 H1 s => by rw [iota_length]; exact Nat.le_refl n
def rangeI (a : MA) : MI := fun sv h => (a sv h).bind fun xs h1 => match xs with
  | [.int j] => if decide (j < 4611686018427387904) && decide (-4611686018427387904 ≤ j) then .ok (iota 0 j.toNat) h1 else .bad
  | _ => .bad
theorem ri_range (hg : Gl X "range") (hm : X.mg "range" = none) (ha : RA X g W [e] ma) (hs : starEach [e] X.env = [(false, eval e X.env)] := by rfl) : RI X g W tg (.Call (.Name "range" p) [e] [] pos) (rangeI ma) :=
  pi_imp (pi_range1 hg hm ha hs) fun σ H R ⟨w, sv, h, rs, hk, p⟩ => by
    refine seqG' rs hk p fun w1 H1 h1 v y e1 rs1 k1 r1 p1 => ?_
    split at p1
    · split at p1
      · rename_i j hc
        simp only [Bool.and_eq_true, decide_eq_true_eq] at hc
        obtain ⟨z, rfl, r2⟩ := RVs.one r1
        exact ⟨j, by rw [r2.int_eq], by omega, by omega, Post.here p1 k1 (itr_ok 0 _)⟩
      · exact p1.elim
    · exact p1.elim
def zipV : List VV → List VV → List VV
  | x :: xs, y :: ys => .tup [x, y] :: zipV xs ys
  | _, _ => []
theorem zipV_get : ∀ (xs ys : List VV) (i : Nat) (v : VV), (zipV xs ys)[i]? = some v → ∃ x y, xs[i]? = some x ∧ ys[i]? = some y ∧ v = .tup [x, y]
  | [], ys, i, v, h => by simp [zipV] at h
  | x :: xs, [], i, v, h => by simp [zipV] at h
  | x :: xs, y :: ys, 0, v, h => by simp [zipV] at h; exact ⟨x, y, rfl, rfl, h.symm⟩
  | x :: xs, y :: ys, i + 1, v, h => by simpa using zipV_get xs ys i v (by simpa [zipV] using h)
theorem zipV_length : ∀ (xs ys : List VV), (zipV xs ys).length = min xs.length ys.length
  | [], ys => by simp [zipV]
  | x :: xs, [] => by simp [zipV]
  | x :: xs, y :: ys => by
    rw [zipV, List.length_cons, zipV_length xs ys, List.length_cons, List.length_cons]
    omega
theorem zip_step {K : PySem.W.Frag} {w1 : Wd} {h1 : VH} {H1 H2 : Hp} {x y : VV} {a b : V} {T : Addr} (k : Hk K g w1 h1 H1) (hT : H1 T = none) (e : H2 = upd H1 T (.tup [a, b])) (r1 : RV K g w1 H1 x a) (r2 : RV K g w1 H1 y b) :
    Ext w1 H1 w1 H2 ∧ Hk K g w1 h1 H2 ∧ RV K g w1 H2 (.tup [x, y]) (.ref T) := by
  subst e
  refine ⟨Ext.grow k hT, Hk.grow k hT, RV.tup_of upd_same (k.fresh hT) ?_⟩
  simp only [RVs]
  exact ⟨a, [b], rfl, RV.mono (Ext.grow k hT).sees _ _ r1, b, [], rfl, RV.mono (Ext.grow k hT).sees _ _ r2, rfl⟩
theorem itz_ok {K : PySem.W.Frag} {w : Wd} {H : Hp} {xs xs' : List VV} {a b : Addr} {ys ys' : List V} (st : ∀ w1 H1, Sees w H w1 H1 → SqL K H1 a ys) (r : RVs K g w H xs ys) (st' : ∀ w1 H1, Sees w H w1 H1 → SqL K H1 b ys') (r' : RVs K g w H xs' ys') :
    ItOk K g w H (zipV xs xs') (Itz K a b) where
  step := fun w1 h1 H1 i v s k q => by
    obtain ⟨x, x', q1, q2, rfl⟩ := zipV_get _ _ _ _ q
    obtain ⟨z, e1, r1⟩ := r.get i x q1
    obtain ⟨z', e2, r2⟩ := r'.get i x' q2
    refine ⟨⟨ys, ys', z, z', st w1 H1 s, st' w1 H1 s, e1, e2⟩, fun v H2 hy => ?_⟩
    obtain ⟨T, u, u', ev, hT, eH, h3, h4⟩ := hy
    have f1 := h3 ys (st w1 H1 s)
    have f2 := h4 ys' (st' w1 H1 s)
    rw [e1] at f1
    rw [e2] at f2
    cases f1
    cases f2
    rw [ev]
    exact zip_step k hT eH (RV.mono s _ _ r1) (RV.mono s _ _ r2)
  stop := fun w1 H1 s => ⟨ys, ys', st w1 H1 s, st' w1 H1 s, by rw [zipV_length, r.length, r'.length]; omega⟩
theorem itzT_ok {K : PySem.W.Frag} {w : Wd} {H : Hp} {xs xs' : List VV} {a b : Addr} {ys ys' : List V} (st : ∀ w1 H1, Sees w H w1 H1 → SqT K H1 a ys) (r : RVs K g w H xs ys) (st' : ∀ w1 H1, Sees w H w1 H1 → SqT K H1 b ys') (r' : RVs K g w H xs' ys') :
    ItOk K g w H (zipV xs xs') (RZ.ItzT K a b) where
  step := fun w1 h1 H1 i v s k q => by
    obtain ⟨x, x', q1, q2, rfl⟩ := zipV_get _ _ _ _ q
    obtain ⟨z, e1, r1⟩ := r.get i x q1
    obtain ⟨z', e2, r2⟩ := r'.get i x' q2
    refine ⟨⟨ys, ys', z, z', st w1 H1 s, st' w1 H1 s, e1, e2⟩, fun v H2 hy => ?_⟩
    obtain ⟨T, u, u', ev, hT, eH, h3, h4⟩ := hy
    have f1 := h3 ys (st w1 H1 s)
    have f2 := h4 ys' (st' w1 H1 s)
    rw [e1] at f1
    rw [e2] at f2
    cases f1
    cases f2
    rw [ev]
    exact zip_step k hT eH (RV.mono s _ _ r1) (RV.mono s _ _ r2)
  stop := fun w1 H1 s => ⟨ys, ys', st w1 H1 s, st' w1 H1 s, by rw [zipV_length, r.length, r'.length]; omega⟩
def zipI (a : MA) : MI := fun sv h => (a sv h).bind fun xs h1 => match xs with
  | [.tup xs, .tup ys] => .ok (zipV xs ys) h1
  | [.lst xs, .lst ys] => .ok (zipV xs ys) h1
  | [.ktu xs, .ktu ys] => .ok (zipV xs ys) h1
  | [.ktu xs, .tup ys] => .ok (zipV xs ys) h1
  | [.tup xs, .ktu ys] => .ok (zipV xs ys) h1
  | _ => .bad
theorem ri_zip {elts : List Expr} {kk : Nat} {tpos : Pos} (hg : Gl X "zip") (hm : X.mg "zip" = none) (ha : RA X g W [e, e2] ma) (hs : starEach [e, e2] X.env = (false, eval e X.env) :: starEach [e2] X.env := by rfl) (hpl : (backTo pos (starEach [e2] X.env)).any (·.1) = false := by rfl) :
    RI X g W (.Tuple elts kk tpos) (.Call (.Name "zip" p) [e, e2] [] pos) (zipI ma) :=
  pi_imp (RZ.pi_zipA hg hm ha hs hpl) fun σ H R ⟨w, sv, h, rs, hk, p⟩ => by
    refine seqG' rs hk p fun w1 H1 h1 v y e1 rs1 k1 r1 p1 => ?_
    split at p1
    · obtain ⟨z, z', rfl, r2, r3⟩ := RVs.two r1
      obtain ⟨a, ys, rfl, q2, st⟩ := RV.tup_st r2
      obtain ⟨b, ys', rfl, q3, st'⟩ := RV.tup_st r3
      exact ⟨a, b, ys, ys', rfl, .inr ⟨st w1 H1 (Sees.refl _ _), st' w1 H1 (Sees.refl _ _), Post.here p1 k1 (itzT_ok st q2 st' q3)⟩⟩
    · obtain ⟨z, z', rfl, r2, r3⟩ := RVs.two r1
      obtain ⟨a, ys, rfl, q2, st⟩ := RV.lst_st r2
      obtain ⟨b, ys', rfl, q3, st'⟩ := RV.lst_st r3
      exact ⟨a, b, ys, ys', rfl, .inl ⟨st w1 H1 (Sees.refl _ _), st' w1 H1 (Sees.refl _ _), Post.here p1 k1 (itz_ok st q2 st' q3)⟩⟩
    · obtain ⟨z, z', rfl, r2, r3⟩ := RVs.two r1
      obtain ⟨a, ys, rfl, q2, st⟩ := RV.ktu_st r2
      obtain ⟨b, ys', rfl, q3, st'⟩ := RV.ktu_st r3
      exact ⟨a, b, ys, ys', rfl, .inr ⟨st w1 H1 (Sees.refl _ _), st' w1 H1 (Sees.refl _ _), Post.here p1 k1 (itzT_ok st q2 st' q3)⟩⟩
    · obtain ⟨z, z', rfl, r2, r3⟩ := RVs.two r1
      obtain ⟨a, ys, rfl, q2, st⟩ := RV.ktu_st r2
      obtain ⟨b, ys', rfl, q3, st'⟩ := RV.tup_st r3
      exact ⟨a, b, ys, ys', rfl, .inr ⟨st w1 H1 (Sees.refl _ _), st' w1 H1 (Sees.refl _ _), Post.here p1 k1 (itzT_ok st q2 st' q3)⟩⟩
    · obtain ⟨z, z', rfl, r2, r3⟩ := RVs.two r1
      obtain ⟨a, ys, rfl, q2, st⟩ := RV.tup_st r2
      obtain ⟨b, ys', rfl, q3, st'⟩ := RV.ktu_st r3
      exact ⟨a, b, ys, ys', rfl, .inr ⟨st w1 H1 (Sees.refl _ _), st' w1 H1 (Sees.refl _ _), Post.here p1 k1 (itzT_ok st q2 st' q3)⟩⟩
    · exact p1.elim
end
abbrev Asg := List (Nat × VV)
abbrev MG := VV → Option Asg
def nameG (i : Nat) : MG := fun v => some [(i, v)]
abbrev MGs := List VV → Option Asg
def nilG : MGs := fun vs => match vs with | [] => some [] | _ => none
def consG (a : MG) (r : MGs) : MGs := fun vs => match vs with | v :: vs => (a v).bind fun p => (r vs).map fun q => p ++ q | [] => none
def tupG (r : MGs) : MG := fun v => match v with | .tup xs => r xs | _ => none
def setsV : Asg → Sv → Sv
  | [], sv => sv
  | (i, v) :: r, sv => setsV r (sv.set i (some v))
def setsR : List (Nat × V) → L2.St → L2.St
  | [], σ => σ
  | (i, v) :: r, σ => setsR r (σ.set i (some v))
def RAsg (K : PySem.W.Frag) (g : Gx) (w : Wd) (H : Hp) : Asg → List (Nat × V) → Prop
  | [], ya => ya = []
  | (i, v) :: r, ya => ∃ y ys, ya = (i, y) :: ys ∧ RV K g w H v y ∧ RAsg K g w H r ys
theorem RAsg.app {K : PySem.W.Frag} {g : Gx} {w : Wd} {H : Hp} : ∀ {a b : Asg} {ya yb : List (Nat × V)}, RAsg K g w H a ya → RAsg K g w H b yb → RAsg K g w H (a ++ b) (ya ++ yb)
  | [], _, _, _, h, h' => by unfold RAsg at h; subst h; exact h'
  | (i, v) :: r, _, _, _, h, h' => by
    unfold RAsg at h
    obtain ⟨y, ys, rfl, h1, h2⟩ := h
    show RAsg K g w H ((i, v) :: (r ++ _)) ((i, y) :: (ys ++ _))
    unfold RAsg
    exact ⟨y, _, rfl, h1, RAsg.app h2 h'⟩
theorem setsR_app : ∀ (a b : List (Nat × V)) (σ : L2.St), setsR (a ++ b) σ = setsR b (setsR a σ)
  | [], b, σ => rfl
  | (i, v) :: r, b, σ => setsR_app r b _
theorem setsR_length : ∀ (a : List (Nat × V)) (σ : L2.St), (setsR a σ).length = σ.length
  | [], σ => rfl
  | (i, v) :: r, σ => by unfold setsR; rw [setsR_length, List.length_set]
def tGt (K : PySem.W.Frag) (g : Gx) (mg : MG) : TG := fun y σ H Q => ∃ w h v asg, Hk K g w h H ∧ RV K g w H v y ∧ mg v = some asg ∧ ∀ ya, RAsg K g w H asg ya → Q (setsR ya σ) H
def tGts (K : PySem.W.Frag) (g : Gx) (mg : MGs) : TGs := fun ys σ H Q => ∃ w h vs asg, Hk K g w h H ∧ RVs K g w H vs ys ∧ mg vs = some asg ∧ ∀ ya, RAsg K g w H asg ya → Q (setsR ya σ) H
abbrev RG (X : Cx) (g : Gx) (tg : Expr) (mg : MG) : Prop := PG X tg (tGt X.K g mg)
abbrev RGs (X : Cx) (g : Gx) (ts : List Expr) (mg : MGs) : Prop := PGs X ts (tGts X.K g mg)
theorem pg_imp {X : Cx} {tg : Expr} {t t' : TG} (h : PG X tg t) (i : ∀ y σ H Q, t' y σ H Q → t y σ H Q) : PG X tg t' := ⟨fun pins s σ H v u Q I r q => h.run pins s σ H v u Q I r (i v σ H Q q)⟩
theorem pgs_imp {X : Cx} {tg : List Expr} {t t' : TGs} (h : PGs X tg t) (i : ∀ y σ H Q, t' y σ H Q → t y σ H Q) : PGs X tg t' := ⟨fun pins s σ H v u Q I r q => h.run pins s σ H v u Q I r (i v σ H Q q)⟩
theorem RSl.set {K : PySem.W.Frag} {g : Gx} {w : Wd} {H : Hp} {sv : Sv} {σ : L2.St} {i : Nat} {v : VV} {y : V} (rs : RSl K g w H sv σ) (r : RV K g w H v y) : RSl K g w H (sv.set i (some v)) (σ.set i (some y)) where
  len := by rw [List.length_set, List.length_set]; exact rs.len
  get := fun j u h => by
    by_cases c : i = j
    · subst c
      by_cases hi : i < sv.length
      · rw [List.getElem?_set_self hi] at h
        cases h
        exact ⟨y, by rw [List.getElem?_set_self (by rw [← rs.len]; exact hi)], r⟩
      · rw [List.getElem?_eq_none (by simpa using hi)] at h
        cases h
    · rw [List.getElem?_set_ne c] at h ⊢
      exact rs.get j u h
theorem RSl.sets {K : PySem.W.Frag} {g : Gx} {w : Wd} {H : Hp} : ∀ {asg : Asg} {ya : List (Nat × V)} {sv : Sv} {σ : L2.St}, RSl K g w H sv σ → RAsg K g w H asg ya → RSl K g w H (setsV asg sv) (setsR ya σ)
  | [], _, _, _, rs, r => by unfold RAsg at r; subst r; exact rs
  | (i, v) :: r, _, _, _, rs, h => by
    unfold RAsg at h
    obtain ⟨y, ys, rfl, h1, h2⟩ := h
    unfold setsV setsR
    exact RSl.sets (rs.set h1) h2
def InIs (mg : MG) (is : List Nat) : Prop := ∀ v asg, mg v = some asg → ∀ p ∈ asg, p.1 ∈ is
def InIss (mg : MGs) (is : List Nat) : Prop := ∀ v asg, mg v = some asg → ∀ p ∈ asg, p.1 ∈ is
theorem inis_name (i : Nat) : InIs (nameG i) [i] := fun v asg h p hp => by
  unfold nameG at h
  cases h
  simpa using congrArg Prod.fst (List.mem_singleton.mp hp)
theorem iniss_nil : InIss nilG [] := fun v asg h p hp => by
  unfold nilG at h
  split at h
  · cases h; cases hp
  · cases h
theorem iniss_cons {a : MG} {r : MGs} {is js : List Nat} (h1 : InIs a is) (h2 : InIss r js) : InIss (consG a r) (is ++ js) := fun v asg h p hp => by
  unfold consG at h
  split at h
  · obtain ⟨x, e1, h⟩ := Option.bind_eq_some_iff.mp h
    obtain ⟨y, e2, rfl⟩ := Option.map_eq_some_iff.mp h
    rcases List.mem_append.mp hp with hp | hp
    · exact List.mem_append_left _ (h1 _ _ e1 p hp)
    · exact List.mem_append_right _ (h2 _ _ e2 p hp)
  · cases h
theorem inis_tup {r : MGs} {is : List Nat} (h1 : InIss r is) : InIs (tupG r) is := fun v asg h p hp => by
  unfold tupG at h
  split at h
  · exact h1 _ _ h p hp
  · cases h
theorem setsR_ne : ∀ {ya : List (Nat × V)} {σ : L2.St} {j : Nat}, (∀ p ∈ ya, p.1 ≠ j) → (setsR ya σ)[j]? = σ[j]?
  | [], _, _, _ => rfl
  | (i, v) :: r, σ, j, h => by
    unfold setsR
    rw [setsR_ne fun p hp => h p (List.mem_cons_of_mem _ hp), List.getElem?_set_ne (h (i, v) List.mem_cons_self)]
theorem RAsg.ix {K : PySem.W.Frag} {g : Gx} {w : Wd} {H : Hp} : ∀ {asg : Asg} {ya : List (Nat × V)}, RAsg K g w H asg ya → ∀ p ∈ ya, ∃ q ∈ asg, q.1 = p.1
  | [], _, h, p, hp => by unfold RAsg at h; subst h; cases hp
  | (i, v) :: r, _, h, p, hp => by
    unfold RAsg at h
    obtain ⟨y, ys, rfl, h1, h2⟩ := h
    rcases List.mem_cons.mp hp with e | hp
    · exact ⟨(i, v), List.mem_cons_self, by rw [e]⟩
    · obtain ⟨q, hq, e⟩ := RAsg.ix h2 p hp
      exact ⟨q, List.mem_cons_of_mem _ hq, e⟩
section
variable {X : Cx} {g : Gx} {pos : Pos}
theorem rg_name (i : Nat) {x : Str} (hN : X.N.Nodup) (hi : X.N[i]? = some x := by rfl) (hx : Loc X.env.scope x := by first | exact Or.inl rfl | exact Or.inr rfl) (hf : X.fn x = true ∨ X.env.scope.names.lookup x = some .local := by first | exact .inl rfl | exact .inr rfl) : RG X g (.Name x pos) (nameG i) :=
  pg_imp (pg_name hN hi hx hf) fun y σ H Q ⟨w, h, v, asg, hk, r, e, q⟩ => by
    unfold nameG at e
    cases e
    exact q [(i, y)] (by unfold RAsg; exact ⟨y, [], rfl, r, by unfold RAsg; rfl⟩)
theorem rgs_nil : RGs X g [] nilG := pgs_imp pgs_nil fun ys σ H Q ⟨w, h, vs, asg, hk, r, e, q⟩ => by
  unfold nilG at e
  split at e
  · cases e
    exact ⟨by simpa only [RVs] using r, q [] (by unfold RAsg; rfl)⟩
  · cases e
theorem rgs_cons {e : Expr} {es : List Expr} {mg : MG} {ms : MGs} (h1 : RG X g e mg) (h2 : RGs X g es ms) (hs : (assignEach (e :: es) X.env).map (·.2) = assign e X.env :: (assignEach es X.env).map (·.2) := by rfl) : RGs X g (e :: es) (consG mg ms) :=
  pgs_imp (pgs_cons h1 h2 hs) fun ys σ H Q ⟨w, h, vs, asg, hk, r, e, q⟩ => by
    unfold consG at e
    split at e
    · rename_i v vs
      simp only [RVs] at r
      obtain ⟨y, yr, rfl, r1, r2⟩ := r
      obtain ⟨p1, e1, e⟩ := Option.bind_eq_some_iff.mp e
      obtain ⟨p2, e2, rfl⟩ := Option.map_eq_some_iff.mp e
      refine ⟨y, yr, rfl, w, h, v, p1, hk, r1, e1, fun ya ra => ?_⟩
      refine ⟨w, h, vs, p2, hk, r2, e2, fun yb rb => ?_⟩
      rw [← setsR_app]
      exact q _ (ra.app rb)
    · cases e
theorem rg_tup {es : List Expr} {k : Nat} {ms : MGs} {n : Nat} (hc : X.calm = true) (h : RGs X g es ms) (hl : ∀ vs asg, ms vs = some asg → vs.length = n) (hn : (assignEach es X.env).length = n := by rfl) (hst : (assignEach es X.env).findIdx? (·.1) = none := by rfl) : RG X g (.Tuple es k pos) (tupG ms) :=
  pg_imp (pg_tup hc h hn hst) fun y σ H Q ⟨w, h, v, asg, hk, r, e, q⟩ => by
    unfold tupG at e
    split at e
    · obtain ⟨a, ys, rfl, ha, r1⟩ := RV.tup_get r
      exact ⟨a, ys, rfl, ha, by rw [← r1.length]; exact hl _ _ e, w, h, _, asg, hk, r1, e, q⟩
    · cases e
theorem nilG_len : ∀ vs asg, nilG vs = some asg → vs.length = 0 := fun vs asg h => by
  unfold nilG at h
  split at h
  · rfl
  · cases h
theorem consG_len {a : MG} {r : MGs} {n : Nat} (hl : ∀ vs asg, r vs = some asg → vs.length = n) : ∀ vs asg, consG a r vs = some asg → vs.length = n + 1 := fun vs asg h => by
  unfold consG at h
  split at h
  · obtain ⟨p1, e1, e⟩ := Option.bind_eq_some_iff.mp h
    obtain ⟨p2, e2, rfl⟩ := Option.map_eq_some_iff.mp e
    rw [List.length_cons, hl _ _ e2]
  · cases h
end
def Wd.guard (w : Wd) (D : Addr) : Wd := { w with P := fun a => w.P a ∨ a = D }
def Wd.bare (w : Wd) (P : Addr → Prop) : Wd := { w with P := P }
section
variable {K : PySem.W.Frag} {g : Gx} {w w2 : Wd} {H H2 : Hp} {h h2 : VH} {D : Addr} {o : HO}
theorem mut_guard {a : Addr} : (w.guard D).mut a ↔ w.mut a ∨ a = D := by
  unfold Wd.guard Wd.mut
  constructor
  · rintro (h | (h | h) | h)
    · exact .inl (.inl h)
    · exact .inl (.inr (.inl h))
    · exact .inr h
    · exact .inl (.inr (.inr h))
  · rintro ((h | h | h) | h)
    · exact .inl h
    · exact .inr (.inl (.inl h))
    · exact .inr (.inr h)
    · exact .inr (.inl (.inr h))
theorem guard_sees (k : Hk K g w h H) (hD : H D = none) : Sees w H (w.guard D) (upd H D o) where
  Q := rfl
  keep := fun a u q m => by
    have ne := ne_of_none q hD
    exact ⟨by rw [upd_ne ne]; exact q, fun z => (mut_guard.mp z).elim m ne⟩
  refs := fun _ _ _ q => q
  len := Nat.le_refl _
theorem guard_hk (k : Hk K g w h H) (hD : H D = none) (hd : ∀ z, Spc z D o := by exact fun _ => Spc.of rfl) : Hk K g (w.guard D) h (upd H D o) where
  len := k.len
  inj := k.inj
  obj := fun n a hn => by
    obtain ⟨u, h1, h2⟩ := k.obj n a hn
    exact ⟨u, h1, RO.mono (guard_sees k hD) u a (fun z q => by rw [upd_ne (ne_of_none q hD)]; exact q) h2⟩
  has := k.has
  prot := fun a ha => by
    by_cases e : a = D
    · subst e
      refine ⟨by rw [upd_same]; simp, fun z => ?_⟩
      exact k.live (.inl z) hD
    · have ha' : w.P a ∨ some a ∈ w.O := by
        rcases ha with (z | z) | z
        · exact .inl z
        · exact (e z).elim
        · exact .inr z
      obtain ⟨h1, h2⟩ := k.prot a ha'
      exact ⟨by rw [upd_ne e]; exact h1, h2⟩
  own := fun a ha => by
    rcases ha with z | z
    · exact k.own a z
    · subst z
      intro q
      exact k.live (.inr (.inr q)) hD
  ownI := k.ownI
  spc := k.spc.upd hd fun a ne => ⟨id, fun z => (mut_guard.mp z).elim id fun e => (ne e).elim⟩
theorem guard_set_sees (hP : w2.P = (w.guard D).P) : Sees w2 H2 w2 (upd H2 D o) where
  Q := rfl
  keep := fun a u q m => by
    have ne : a ≠ D := fun e => m (.inr (.inl (by rw [hP]; exact .inr e)))
    exact ⟨by rw [upd_ne ne]; exact q, m⟩
  refs := fun _ _ _ q => q
  len := Nat.le_refl _
theorem guard_set_hk (hP : w2.P = (w.guard D).P) (k : Hk K g w2 h2 H2) (hd : ∀ z, Spc z D o := by exact fun _ => Spc.of rfl) : Hk K g w2 h2 (upd H2 D o) where
  len := k.len
  inj := k.inj
  obj := fun n a hn => by
    obtain ⟨u, h1, h3⟩ := k.obj n a hn
    have ne : a ≠ D := fun e => (k.prot D (.inl (by rw [hP]; exact .inr rfl))).2 (by rw [← e]; exact List.mem_of_getElem? hn)
    exact ⟨u, h1, RO.mono (guard_set_sees hP) u a (fun z q => by rw [upd_ne ne]; exact q) h3⟩
  has := k.has
  prot := fun a ha => by
    obtain ⟨h1, h3⟩ := k.prot a ha
    by_cases e : a = D
    · subst e
      exact ⟨by rw [upd_same]; simp, h3⟩
    · exact ⟨by rw [upd_ne e]; exact h1, h3⟩
  own := k.own
  ownI := k.ownI
  spc := k.spc.put hd
theorem unguard_sees (hP : w2.P = (w.guard D).P) : Sees w2 H2 (w2.bare w.P) H2 where
  Q := rfl
  keep := fun a u q m => ⟨q, fun z => m (by
    rcases z with z | z | z
    · exact .inl z
    · exact .inr (.inl (by rw [hP]; exact .inl z))
    · exact .inr (.inr z))⟩
  refs := fun _ _ _ q => q
  len := Nat.le_refl _
theorem unguard_hk (hP : w2.P = (w.guard D).P) (k : Hk K g w2 h2 H2) : Hk K g (w2.bare w.P) h2 H2 where
  len := k.len
  inj := k.inj
  obj := fun n a hn => by
    obtain ⟨u, h1, h3⟩ := k.obj n a hn
    exact ⟨u, h1, RO.mono (unguard_sees hP) u a (fun z q => q) h3⟩
  has := k.has
  prot := fun a ha => k.prot a (by
    rcases ha with z | z
    · exact .inl (by rw [hP]; exact .inl z)
    · exact .inr z)
  own := fun a ha => k.own a (by rw [hP]; exact .inl ha)
  ownI := k.ownI
  spc := k.spc.imp fun a => ⟨id, fun z => by
    rcases z with z | z | z
    · exact .inl z
    · exact .inr (.inl (by rw [hP]; exact .inl z))
    · exact .inr (.inr z)⟩
end
structure Gd (w : Wd) (H : Hp) (D : Addr) (w2 : Wd) (H2 : Hp) : Prop where
  keep : ∀ a o, H a = some o → ¬ w.mut a → H2 a = some o ∧ ¬ w2.mut a
  refs : ∀ (n : Nat) (b : Addr), n < w.phi.length → w2.phi[n]? = some (some b) → w.phi[n]? = some (some b)
  len : w.phi.length ≤ w2.phi.length
  P : w2.P = (w.guard D).P
  Q : w2.Q = w.Q
  O : w2.O = w.O
  prot : ∀ a, w.P a ∨ some a ∈ w.O → H2 a = H a
section
variable {K : PySem.W.Frag} {g : Gx} {w w2 w3 : Wd} {H H2 H3 : Hp} {h : VH} {D : Addr} {o : HO}
theorem Gd.start (k : Hk K g w h H) (hD : H D = none) : Gd w H D (w.guard D) (upd H D o) where
  keep := (guard_sees k hD).keep
  refs := fun _ _ _ q => q
  len := Nat.le_refl _
  P := rfl
  Q := rfl
  O := rfl
  prot := fun a ha => upd_ne fun e => k.live (.inr ha) (e ▸ hD)
theorem Gd.sees (d : Gd w H D w2 H2) : Sees w H w2 H2 := ⟨d.keep, d.refs, d.len, d.Q⟩
theorem Gd.ext (d : Gd w H D w2 H2) (e : Ext w2 H2 w3 H3) : Gd w H D w3 H3 where
  keep := (d.sees.trans e.sees).keep
  refs := (d.sees.trans e.sees).refs
  len := (d.sees.trans e.sees).len
  P := e.P.trans d.P
  Q := e.Q.trans d.Q
  O := e.O.trans d.O
  prot := fun a ha => (e.prot a (by
    rcases ha with z | z
    · exact .inl (by rw [d.P]; exact .inl z)
    · exact .inr (by rw [d.O]; exact z))).trans (d.prot a ha)
theorem Gd.set (k : Hk K g w h H) (hD : H D = none) (d : Gd w H D w2 H2) : Gd w H D w2 (upd H2 D o) where
  keep := fun a u q m => by
    obtain ⟨h1, h2⟩ := d.keep a u q m
    exact ⟨by rw [upd_ne (ne_of_none q hD)]; exact h1, h2⟩
  refs := d.refs
  len := d.len
  P := d.P
  Q := d.Q
  O := d.O
  prot := fun a ha => by
    rw [upd_ne (show a ≠ D from fun e => k.live (.inr ha) (by rw [e]; exact hD))]
    exact d.prot a ha
theorem Gd.done (d : Gd w H D w2 H2) : Ext w H (w2.bare w.P) H2 where
  keep := fun a u q m => by
    obtain ⟨h1, h2⟩ := d.keep a u q m
    exact ⟨h1, fun z => h2 (by
      rcases z with z | z | z
      · exact .inl z
      · exact .inr (.inl (by rw [d.P]; exact .inl z))
      · exact .inr (.inr z))⟩
  refs := d.refs
  len := d.len
  P := rfl
  Q := d.Q
  O := d.O
  prot := d.prot
theorem Gd.free (k : Hk K g w h H) (hD : H D = none) {h2 : VH} (k2 : Hk K g w2 h2 H2) (d : Gd w H D w2 H2) : ¬ (w2.bare w.P).mut D := fun z => by
  have hP : w2.P D := by rw [d.P]; exact .inr rfl
  rcases z with z | z | z
  · exact (k2.prot D (.inl hP)).2 z
  · exact k.live (.inr (.inl z)) hD
  · exact k2.own D hP z
end
section
variable {X : Cx} {g : Gx} {W : WX} {w w2 : Wd} {H H2 : Hp} {h h2 : VH} {D : Addr} {σ : L2.St} {Q : VK}
theorem fz_dtt {ks vs : List VV} {kvs : List (List Key × V)} (k1 : Hk X.K g w h H) (hD : H D = none) (gd : Gd w H D w2 H2) (k2 : Hk X.K g w2 h2 H2) (hD2 : H2 D = some (.dT kvs)) (rk : ks = keysT kvs) (rv : RVs X.K g w2 H2 vs (kvs.map fun p => p.2))
    (p2 : Post X.K g (relV X.K g) w H σ Q W (.ok (.dtt ks vs) h2)) : ∃ d u, V.ref D = .ref d ∧ H2 d = some u ∧ Mut (some u) ∧ ∀ od, Q (.ref D) (upd H2 d (.frz od u)) := by
  refine ⟨D, _, rfl, hD2, True.intro, fun od => ?_⟩
  have sg : Sees w2 H2 w2 (upd H2 D (.frz od (.dT kvs))) := guard_set_sees gd.P
  have gd2 : Gd w H D w2 (upd H2 D (.frz od (.dT kvs))) := gd.set k1 hD
  have k3 := guard_set_hk (o := .frz od (.dT kvs)) gd.P k2
  refine p2 (w2.bare w.P) _ (.ref D) gd2.done (unguard_hk gd2.P k3) ?_
  simp only [relV, RV]
  exact ⟨D, kvs, rfl, ⟨od, upd_same, gd2.free k1 hD k3⟩, rk, RVs.mono (sg.trans (unguard_sees gd2.P)) _ _ rv⟩
end
def wipeS (sv : Sv) : List Nat → Sv
  | [] => sv
  | v :: vs => (wipeS sv vs).set v none
theorem RSl.wipe {K : PySem.W.Frag} {g : Gx} {w : Wd} {H : Hp} {sv : Sv} {σ : L2.St} (rs : RSl K g w H sv σ) : ∀ vs, RSl K g w H (wipeS sv vs) (wipe σ vs)
  | [] => rs
  | v :: vs => by
    have ih := RSl.wipe rs vs
    unfold wipeS L2.wipe
    refine ⟨by rw [List.length_set, List.length_set]; exact ih.len, fun j u h => ?_⟩
    by_cases c : v = j
    · subst c
      by_cases hi : v < (wipeS sv vs).length
      · rw [List.getElem?_set_self hi] at h
        cases h
      · rw [List.getElem?_eq_none (by simpa using hi)] at h
        cases h
    · rw [List.getElem?_set_ne c] at h ⊢
      exact ih.get j u h
theorem wipe_get (σ : L2.St) : ∀ (vs : List Nat) (j : Nat), (wipe σ vs)[j]? = if j ∈ vs then (if j < σ.length then some none else none) else σ[j]?
  | [], j => by simp [wipe]
  | v :: vs, j => by
    unfold wipe
    by_cases c : v = j
    · subst c
      rw [if_pos List.mem_cons_self]
      by_cases hi : v < σ.length
      · rw [List.getElem?_set_self (by rw [wipe_length]; exact hi), if_pos hi]
      · rw [List.getElem?_eq_none (by rw [List.length_set, wipe_length]; omega), if_neg hi]
    · rw [List.getElem?_set_ne c, wipe_get σ vs j]
      have : (j ∈ v :: vs) ↔ j ∈ vs := by simp [Ne.symm c]
      simp only [this]
theorem wipe_eq {σ σ' : L2.St} {is vs : List Nat} (hl : σ'.length = (wipe σ vs).length) (hs : ∀ j ∈ is, j ∈ vs) (hn : ∀ j, j ∉ is → σ'[j]? = (wipe σ vs)[j]?) : wipe σ' vs = wipe σ vs := by
  rw [wipe_length] at hl
  apply List.ext_getElem?
  intro j
  rw [wipe_get, wipe_get, hl]
  by_cases c : j ∈ vs
  · rw [if_pos c, if_pos c]
  · rw [if_neg c, if_neg c, hn j fun z => c (hs j z), wipe_get, if_neg c]
def yesT : MT := fun _ h => .ok true h
def Out.nox {α : Type} : Out α → Out α
  | .exc _ _ => .bad
  | r => r
def lcGo (sv : Sv) (mg : MG) (t : MT) (e : ME) : List VV → VH → Out (List VV)
  | [], h => .ok [] h
  | v :: r, h => match mg v with
    | none => .bad
    | some asg => (t (setsV asg sv) h).nox.bind fun b h1 => if b then (e (setsV asg sv) h1).nox.bind fun y h2 => (lcGo sv mg t e r h2).bind fun ys h3 => .ok (y :: ys) h3 else lcGo sv mg t e r h1
def lcM (it : MI) (mg : MG) (vs : List Nat) (t : MT) (e : ME) : ME := fun sv h => (it sv h).bind fun items h1 => if fits items.length then (lcGo (wipeS sv vs) mg t e items h1).bind fun out h2 => .ok (.lst out) h2 else .bad
abbrev W0 : WX := fun _ _ _ _ => False
theorem Out.bind_assoc {α β γ : Type} (r : Out α) (f : α → VH → Out β) (k : β → VH → Out γ) : (r.bind f).bind k = r.bind fun a h => (f a h).bind k := by cases r <;> rfl
section
variable {X : Cx} {g : Gx} {W : WX} {tg iter elt : Expr} {ifs : List Expr} {scope : Scope} {pos : Pos} {mi : MI} {mg : MG} {is : List Nat} {mt : MT} {me : ME}
abbrev RTs (X : Cx) (g : Gx) (W : WX) (ifs : List Expr) (m : MT) : Prop := PTs X ifs (tG X.K g relB m W)
theorem pts_imp {ifs : List Expr} {t t' : TT} (h : PTs X ifs t) (i : ∀ σ H Q, t' σ H Q → t σ H Q) : PTs X ifs t' := ⟨fun pins s σ H Q I q => h.run pins s σ H Q I (i σ H Q q)⟩
theorem rts_nil : RTs X g W [] yesT := pts_imp pts_nil fun σ H Q ⟨w, sv, h, rs, hk, p⟩ => Post.here p hk rfl
theorem rts_one {c : Expr} {m : MT} (h : RT X g W c m) : RTs X g W [c] m := pts_one h
theorem lc_imp {vs : List Nat} (hIn : InIs mg is) (hs : ∀ j ∈ is, j ∈ vs) {σ : L2.St} {H : Hp} {Q : VK} (t : tG X.K g (relV X.K g) (lcM mi mg vs mt me) W σ H Q) :
    tLc (tG X.K g (relI X.K g) mi W) (tGt X.K g mg) (tG X.K g relB mt W0) (tG X.K g (relV X.K g) me W0) vs σ H Q := by
  obtain ⟨w, sv, h, rs, hk, p⟩ := t
  refine seqG' rs hk p fun w1 H1 h1 items J e1 rs1 k1 r1 p1 => ?_
  intro D hD
  -- p1 : the post of the turns from h1 on
  by_cases hf : fits items.length = true
  case neg => rw [if_neg hf] at p1; exact p1.elim
  rw [if_pos hf] at p1
  have hz := fits_le hf
  refine ⟨fun i m H2 => m = items.length - i ∧ i ≤ items.length ∧ ∃ w2 h2 acc accV, Gd w1 H1 D w2 H2 ∧ Hk X.K g w2 h2 H2 ∧ H2 D = some (.lst accV) ∧ RVs X.K g w2 H2 acc accV ∧ accV.length ≤ i ∧
      RSl X.K g w2 H2 (wipeS sv vs) (wipe σ vs) ∧ Post X.K g (relV X.K g) w1 H1 σ Q W ((lcGo (wipeS sv vs) mg mt me (items.drop i) h2).bind fun ys h3 => .ok (.lst (acc ++ ys)) h3),
    ⟨items.length, by simp, Nat.zero_le _, w1.guard D, h1, [], [], Gd.start k1 hD, guard_hk k1 hD, upd_same, by simp [RVs], Nat.le_refl _, (rs1.wipe vs).mono _ _ (guard_sees k1 hD), by simpa using p1⟩, ?_⟩
  rintro i m H2 ⟨rfl, hi, w2, h2, acc, accV, gd, k2, hD2, ra, hl, rs2, p2⟩
  by_cases hlt : i < items.length
  · -- a turn
    right
    have hv : items[i]? = some items[i] := List.getElem?_eq_getElem hlt
    generalize items[i] = v at hv
    have hdrop : items.drop i = v :: items.drop (i + 1) := by
      rw [List.drop_eq_getElem_cons hlt]
      congr 1
      rw [List.getElem?_eq_getElem hlt] at hv
      exact Option.some.inj hv
    rw [hdrop] at p2
    simp only [lcGo] at p2
    obtain ⟨go, yl⟩ := r1.step w2 h2 H2 i v gd.sees k2 hv
    refine ⟨go, fun H' => ∃ w3 h3 acc accV, Gd w1 H1 D w3 H' ∧ Hk X.K g w3 h3 H' ∧ H' D = some (.lst accV) ∧ RVs X.K g w3 H' acc accV ∧ accV.length ≤ i + 1 ∧
      RSl X.K g w3 H' (wipeS sv vs) (wipe σ vs) ∧ Post X.K g (relV X.K g) w1 H1 σ Q W ((lcGo (wipeS sv vs) mg mt me (items.drop (i + 1)) h3).bind fun ys h3 => .ok (.lst (acc ++ ys)) h3),
      fun H' q => ⟨items.length - (i + 1), by omega, rfl, hlt, q⟩, fun x H3 hy => ?_⟩
    obtain ⟨ex, k3, rx⟩ := yl x H3 hy
    cases em : mg v with
    | none => rw [em] at p2; exact p2.elim
    | some asg =>
      rw [em] at p2
      dsimp only at p2
      refine ⟨w2, h2, v, asg, k3, rx, em, fun ya rya => ?_⟩
      have rs3 := (rs2.mono _ _ ex.sees).sets rya
      refine ⟨wipe_eq (is := is) (setsR_length _ _) hs fun j hj => setsR_ne fun p hp z => ?_, ?_⟩
      · obtain ⟨q, hq, e⟩ := rya.ix p hp
        exact hj (by rw [← z, ← e]; exact hIn v asg em q hq)
      generalize setsV asg (wipeS sv vs) = sv2 at rs3 p2
      generalize setsR ya (wipe σ vs) = σ2 at rs3
      rw [Out.bind_assoc] at p2
      -- the test
      have gd3 := gd.ext ex
      have hD3 : H3 D = some (.lst accV) := by
        rw [ex.prot D (.inl (by rw [gd.P]; exact .inr rfl))]
        exact hD2
      have ra3 := RVs.mono ex.sees _ _ ra
      refine ⟨w2, sv2, h2, rs3, k3, ?_⟩
      cases et : mt sv2 h2 with
      | bad => rw [et] at p2; exact p2.elim
      | exc x h4 => rw [et] at p2; exact p2.elim
      | ok b h4 =>
        rw [et] at p2
        simp only [Out.nox, Out.bind] at p2
        intro w4 H4 b' e4 k4 eb
        have eb : b = b' := eb
        subst eb
        have gd4 := gd3.ext e4
        have hD4 : H4 D = some (.lst accV) := by
          rw [e4.prot D (.inl (by rw [gd3.P]; exact .inr rfl))]
          exact hD3
        have ra4 := RVs.mono e4.sees _ _ ra3
        have rs4 := (rs2.mono _ _ ex.sees).mono _ _ e4.sees
        cases b with
        | false =>
          rw [if_neg Bool.false_ne_true] at p2 ⊢
          exact ⟨w4, h4, acc, accV, gd4, k4, hD4, ra4, Nat.le_succ_of_le hl, rs4, p2⟩
        | true =>
          rw [if_pos rfl] at p2 ⊢
          refine ⟨w4, sv2, h4, rs3.mono _ _ e4.sees, k4, ?_⟩
          cases ee : me sv2 h4 with
          | bad => rw [ee] at p2; exact p2.elim
          | exc x h5 => rw [ee] at p2; exact p2.elim
          | ok yv h5 =>
            rw [ee] at p2
            simp only [Out.nox, Out.bind] at p2
            intro w5 H5 y e5 k5 ry
            have gd5 := gd4.ext e5
            have hD5 : H5 D = some (.lst accV) := by
              rw [e5.prot D (.inl (by rw [gd4.P]; exact .inr rfl))]
              exact hD4
            refine ⟨accV, hD5, Nat.lt_of_lt_of_le (Nat.lt_of_le_of_lt hl hlt) hz, w5, h5, acc ++ [yv], accV ++ [y], gd5.set k1 hD, guard_set_hk gd5.P k5, upd_same, ?_, by simp; omega, (rs4.mono _ _ e5.sees).mono _ _ (guard_set_sees gd5.P), ?_⟩
            · refine RVs.app (RVs.mono (guard_set_sees gd5.P) _ _ (RVs.mono e5.sees _ _ ra4)) ?_
              simp only [RVs]
              exact ⟨y, [], rfl, RV.mono (guard_set_sees gd5.P) _ _ ry, rfl⟩
            · cases eg : lcGo (wipeS sv vs) mg mt me (items.drop (i + 1)) h5 with
              | bad => rw [eg] at p2; exact p2.elim
              | exc x h6 => rw [eg] at p2; exact p2
              | ok ys h6 =>
                rw [eg] at p2
                simpa [Out.bind] using p2
  · left
    have e : i = items.length := by omega
    subst e
    refine ⟨r1.stop w2 H2 gd.sees, ?_⟩
    rw [List.drop_length] at p2
    refine p2 (w2.bare w1.P) H2 (.ref D) gd.done (unguard_hk gd.P k2) ?_
    refine RV.lst_of hD2 (gd.free k1 hD k2) ?_
    rw [List.append_nil]
    exact RVs.mono (unguard_sees gd.P) _ _ ra
theorem re_lc {own : List (Str × Nat)} (hc : X.calm = true) (hN : X.N.Nodup) (hi : RI X g W tg iter mi) (ok : BlkOk X.N X.env.scope scope own) (his : InIs mg is) (hs : ∀ j ∈ is, j ∈ own.map (·.2))
    (hg : ∀ (s : Shared) (H : Hp) (C : Addr) (cl : List (Str × Addr)) (fp : List Addr), RG (X.blk s H scope (compEnvC scope cl C X.env) fp) g tg mg) (ht : ∀ (s : Shared) (H : Hp) (C : Addr) (cl : List (Str × Addr)) (fp : List Addr), RTs (X.blk s H scope (compEnvC scope cl C X.env) fp) g W0 ifs mt)
    (he : ∀ (s : Shared) (H : Hp) (C : Addr) (cl : List (Str × Addr)) (fp : List Addr), RE (X.blk s H scope (compEnvC scope cl C X.env) fp) g W0 elt me) (hf : ∀ x, foldedSetIterable iter X.env x = pure x := by intro _; rfl) :
    RE X g W (.ListComp elt [⟨tg, iter, ifs, 0⟩] scope pos) (lcM mi mg (own.map (·.2)) mt me) :=
  pe_imp (pe_lc hc hN hi ok hg ht he hf) fun σ H Q t => lc_imp his hs t
end
end Mv
set_option Elab.async false
set_option linter.all false
set_option maxRecDepth 100000
namespace Mv
open PySem PySem.Spec PyProof.Rows L2
inductive Slot where
  | no | val (v : VV) | own (xs : List VV)
abbrev Sl := List Slot
def Slot.view : Slot → Option VV
  | .val v => some v
  | _ => none
def Slot.viewF : Slot → Option VV
  | .val v => some v
  | .own xs => some (.lst xs)
  | .no => none
def view (sl : Sl) : Sv := sl.map Slot.view
def viewF (sl : Sl) : Sv := sl.map Slot.viewF
inductive SOut where
  | nx (sl : Sl) (h : VH) | rt (v : VV) (h : VH) | bk (sl : Sl) (h : VH) | ct (sl : Sl) (h : VH) | exc (x : Exn) (sl : Sl) (h : VH) | bad
abbrev MS := Sl → VH → SOut
def Out.toS {α : Type} (r : Out α) (sl : Sl) (k : α → VH → SOut) : SOut := match r with
  | .ok a h => k a h
  | .exc x h => .exc x sl h
  | .bad => .bad
section
variable (K : PySem.W.Frag) (g : Gx)
structure RF (w : Wd) (H : Hp) (sl : Sl) (σ : L2.St) : Prop where
  len : sl.length = σ.length
  lenO : w.O.length = sl.length
  val : ∀ (i : Nat) (v : VV), sl[i]? = some (.val v) → w.O[i]? = some none ∧ ∃ y, σ[i]? = some (some y) ∧ RV K g w H v y
  own : ∀ (i : Nat) (xs : List VV), sl[i]? = some (.own xs) → ∃ p ys, w.O[i]? = some (some p) ∧ σ[i]? = some (some (.ref p)) ∧ H p = some (.lst ys) ∧ RVs K g w H xs ys
  no : ∀ (i : Nat), sl[i]? = some .no → w.O[i]? = some none
end
structure ExtS (w : Wd) (H : Hp) (w' : Wd) (H' : Hp) : Prop where
  keep : ∀ a o, H a = some o → ¬ w.mut a → H' a = some o ∧ ¬ w'.mut a
  refs : ∀ (n : Nat) (b : Addr), n < w.phi.length → w'.phi[n]? = some (some b) → w.phi[n]? = some (some b)
  len : w.phi.length ≤ w'.phi.length
  P : w'.P = w.P
  Q : w'.Q = w.Q
  prot : ∀ a, w.P a → H' a = H a
theorem Ext.toS {w w' : Wd} {H H' : Hp} (e : Ext w H w' H') : ExtS w H w' H' := ⟨e.keep, e.refs, e.len, e.P, e.Q, fun a h => e.prot a (.inl h)⟩
theorem ExtS.refl (w : Wd) (H : Hp) : ExtS w H w H := (Ext.refl w H).toS
theorem ExtS.sees {w w' : Wd} {H H' : Hp} (e : ExtS w H w' H') : Sees w H w' H' := ⟨e.keep, e.refs, e.len, e.Q⟩
theorem ExtS.trans {w w1 w2 : Wd} {H H1 H2 : Hp} (a : ExtS w H w1 H1) (b : ExtS w1 H1 w2 H2) : ExtS w H w2 H2 where
  keep := (a.sees.trans b.sees).keep
  refs := (a.sees.trans b.sees).refs
  len := (a.sees.trans b.sees).len
  P := b.P.trans a.P
  Q := b.Q.trans a.Q
  prot := fun c h => (b.prot c (by rw [a.P]; exact h)).trans (a.prot c h)
section
variable {K : PySem.W.Frag} {g : Gx} {w w' w1 : Wd} {H H' H1 : Hp} {h h1 : VH} {sl : Sl} {σ : L2.St}
theorem view_get {i : Nat} {v : VV} (e : (view sl)[i]? = some (some v)) : sl[i]? = some (.val v) := by
  unfold view at e
  rw [List.getElem?_map] at e
  cases q : sl[i]? with
  | none => rw [q] at e; cases e
  | some s =>
    rw [q] at e
    cases s with
    | val u => simp only [Option.map_some, Slot.view, Option.some.injEq] at e; rw [e]
    | no => simp [Slot.view] at e
    | own xs => simp [Slot.view] at e
theorem RF.rsl (f : RF K g w H sl σ) : RSl K g w H (view sl) σ := ⟨by unfold view; rw [List.length_map]; exact f.len, fun i v e => (f.val i v (view_get e)).2⟩
theorem RF.mono (f : RF K g w H sl σ) (e : Ext w H w' H') : RF K g w' H' sl σ where
  len := f.len
  lenO := by rw [e.O]; exact f.lenO
  val := fun i v q => by
    obtain ⟨h1, y, h2, h3⟩ := f.val i v q
    exact ⟨by rw [e.O]; exact h1, y, h2, RV.mono e.sees _ _ h3⟩
  own := fun i xs q => by
    obtain ⟨p, ys, h1, h2, h3, h4⟩ := f.own i xs q
    exact ⟨p, ys, by rw [e.O]; exact h1, h2, by rw [e.prot p (.inr (List.mem_of_getElem? h1))]; exact h3, RVs.mono e.sees _ _ h4⟩
  no := fun i q => by rw [e.O]; exact f.no i q
def Wd.ice (w : Wd) : Wd := { w with O := List.replicate w.O.length none }
theorem mut_ice {a : Addr} : w.ice.mut a ↔ (some a ∈ w.phi ∨ w.P a) := by
  unfold Wd.ice Wd.mut
  constructor
  · rintro (h | h | h)
    · exact .inl h
    · exact .inr h
    · exact absurd (List.eq_of_mem_replicate h) (by simp)
  · rintro (h | h)
    · exact .inl h
    · exact .inr (.inl h)
theorem ice_sees : Sees w H w.ice H := ⟨fun a o q m => ⟨q, fun z => m ((mut_ice.mp z).elim .inl fun z => .inr (.inl z))⟩, fun _ _ _ q => q, Nat.le_refl _, rfl⟩
theorem Hk.ice (k : Hk K g w h H) : Hk K g w.ice h H where
  len := k.len
  inj := k.inj
  obj := fun n a hn => by
    obtain ⟨u, h1, h3⟩ := k.obj n a hn
    exact ⟨u, h1, RO.mono ice_sees u a (fun z q => q) h3⟩
  has := k.has
  prot := fun a ha => by
    rcases ha with z | z
    · exact k.prot a (.inl z)
    · exact absurd (List.eq_of_mem_replicate z) (by simp)
  own := fun a _ z => absurd (List.eq_of_mem_replicate z) (by simp)
  ownI := fun n m a hn _ => absurd (List.eq_of_mem_replicate (List.mem_of_getElem? hn)) (by simp)
  spc := k.spc.imp fun a => ⟨id, fun z => (mut_ice.mp z).elim .inl fun z => .inr (.inl z)⟩
theorem viewF_get {i : Nat} {v : VV} (e : (viewF sl)[i]? = some (some v)) : sl[i]? = some (.val v) ∨ ∃ xs, sl[i]? = some (.own xs) ∧ v = .lst xs := by
  unfold viewF at e
  rw [List.getElem?_map] at e
  cases q : sl[i]? with
  | none => rw [q] at e; cases e
  | some s =>
    rw [q] at e
    cases s with
    | val u => simp only [Option.map_some, Slot.viewF, Option.some.injEq] at e; rw [e]; exact .inl rfl
    | no => simp [Slot.viewF] at e
    | own xs => simp only [Option.map_some, Slot.viewF, Option.some.injEq] at e; exact .inr ⟨xs, rfl, e.symm⟩
theorem own_ice (k : Hk K g w h H) {i : Nat} {p : Addr} (e : w.O[i]? = some (some p)) : ¬ w.ice.mut p := fun z => by
  rcases mut_ice.mp z with z | z
  · exact (k.prot p (.inr (List.mem_of_getElem? e))).2 z
  · exact k.own p z (List.mem_of_getElem? e)
theorem RF.rslF (k : Hk K g w h H) (f : RF K g w H sl σ) : RSl K g w.ice H (viewF sl) σ := ⟨by unfold viewF; rw [List.length_map]; exact f.len, fun i v e => by
  rcases viewF_get e with q | ⟨xs, q, rfl⟩
  · obtain ⟨_, y, h2, h3⟩ := f.val i v q
    exact ⟨y, h2, RV.mono ice_sees _ _ h3⟩
  · obtain ⟨p, ys, h1, h2, h3, h4⟩ := f.own i xs q
    exact ⟨_, h2, RV.lst_of h3 (own_ice k h1) (RVs.mono ice_sees _ _ h4)⟩⟩
def Wd.thaw (w1 w : Wd) : Wd := { w1 with O := w.O }
end
mutual
def flat : VV → Bool
  | .lst _ => false
  | .rol xs => flats xs
  | .dct ks vs => flats ks && flats vs
  | .dtt _ vs => flats vs
  | .ktu xs => flats xs
  | .ins _ fs => flats fs
  | .tup xs => flats xs
  | _ => true
def flats : List VV → Bool
  | [] => true
  | x :: xs => flat x && flats xs
end
section
variable {K : PySem.W.Frag} {g : Gx} {w w1 : Wd} {H H1 : Hp} {h h1 : VH} {G : Gx}
abbrev NoTh (w w1 : Wd) (H1 : Hp) : Prop := ∀ a u, H1 a = some u → (∀ ys, u ≠ .lst ys) → ¬ w1.mut a → ¬ (w1.thaw w).mut a
mutual
theorem flat_thaw (no : NoTh w w1 H1) : ∀ (v : VV) (y : V), flat v = true → RV K G w1 H1 v y → RV K G (w1.thaw w) H1 v y
  | .non, _, _, r => by simp only [RV] at r ⊢; exact r
  | .bl _, _, _, r => by simp only [RV] at r ⊢; exact r
  | .int _, _, _, r => by simp only [RV] at r ⊢; exact r
  | .str _, _, _, r => by simp only [RV] at r ⊢; exact r
  | .ty _, _, _, r => by simp only [RV] at r ⊢; exact r
  | .adr _, _, _, r => by simp only [RV] at r ⊢; exact r
  | .ref _, _, _, r => by simp only [RV] at r ⊢; exact r
  | .tup xs, _, f, r => by
    simp only [flat] at f
    simp only [RV] at r ⊢
    obtain ⟨a, ys, e, q, r⟩ := r
    exact ⟨a, ys, e, ⟨q.1, no a _ q.1 (fun _ z => nomatch z) q.2⟩, flats_thaw no xs ys f r⟩
  | .lst _, _, f, _ => by simp only [flat] at f; cases f
  | .rol xs, _, f, r => by
    simp only [flat] at f
    simp only [RV] at r ⊢
    obtain ⟨a, ys, e, q, r⟩ := r
    exact ⟨a, ys, e, q.imp (fun ⟨o, q1, q2⟩ => ⟨o, q1, no a _ q1 (fun _ z => nomatch z) q2⟩) id, flats_thaw no xs ys f r⟩
  | .dct ks vs, _, f, r => by
    simp only [flat, Bool.and_eq_true] at f
    simp only [RV] at r ⊢
    obtain ⟨a, kvs, e, ⟨o, q1, q2⟩, r1, r2⟩ := r
    exact ⟨a, kvs, e, ⟨o, q1, no a _ q1 (fun _ z => nomatch z) q2⟩, flats_thaw no ks _ f.1 r1, flats_thaw no vs _ f.2 r2⟩
  | .dtt ks vs, _, f, r => by
    simp only [flat] at f
    simp only [RV] at r ⊢
    obtain ⟨a, kvs, e, ⟨o, q1, q2⟩, r1, r2⟩ := r
    exact ⟨a, kvs, e, ⟨o, q1, no a _ q1 (fun _ z => nomatch z) q2⟩, r1, flats_thaw no vs _ f r2⟩
  | .ktu xs, _, f, r => by
    simp only [flat] at f
    simp only [RV] at r ⊢
    obtain ⟨a, ys, e, q, r⟩ := r
    exact ⟨a, ys, e, q.imp id (fun ⟨o, q1, q2, q3⟩ => ⟨o, q1, q2, no a _ q1 (fun _ z => nomatch z) q3⟩), flats_thaw no xs ys f r⟩
  | .ins _ fs, _, f, r => by
    simp only [flat] at f
    simp only [RV] at r ⊢
    obtain ⟨a, vs, e1, ⟨ob, h1, h2, h3⟩, h4⟩ := r
    exact ⟨a, vs, e1, ⟨ob, h1, h2.imp fun c o q m ⟨q2, e⟩ => ⟨q, no c o q (fun _ z => by rw [e] at z; cases z) m⟩, no a _ h1 (fun _ z => nomatch z) h3⟩, flats_thaw no fs vs f h4⟩
theorem flats_thaw (no : NoTh w w1 H1) : ∀ (v : List VV) (y : List V), flats v = true → RVs K G w1 H1 v y → RVs K G (w1.thaw w) H1 v y
  | [], _, _, r => by simp only [RVs] at r ⊢; exact r
  | x :: xs, _, f, r => by
    simp only [flats, Bool.and_eq_true] at f
    simp only [RVs] at r ⊢
    obtain ⟨y, ys, e, r1, r2⟩ := r
    exact ⟨y, ys, e, flat_thaw no x y f.1 r1, flats_thaw no xs ys f.2 r2⟩
end
end
section
variable (K : PySem.W.Frag) (g : Gx)
def PostS (w : Wd) (H : Hp) (D : Ends) (W : WX) : SOut → Prop
  | .nx sl h => ∀ w' H' σ', ExtS w H w' H' → Hk K g w' h H' → RF K g w' H' sl σ' → D.nx σ' H'
  | .bk sl h => ∀ w' H' σ', ExtS w H w' H' → Hk K g w' h H' → RF K g w' H' sl σ' → D.bk σ' H'
  | .ct sl h => ∀ w' H' σ', ExtS w H w' H' → Hk K g w' h H' → RF K g w' H' sl σ' → D.ct σ' H'
  | .rt v h => ∀ w' H' y, ExtS w H w' H' → Hk K g w' h H' → RV K g w' H' v y → D.rt y H'
  | .exc x sl h => ∀ w' H' σ' cls d, ExtS w H w' H' → Hk K g w' h H' → RF K g w' H' sl σ' → RX K g w' H' x cls d → W cls d σ' H'
  | .bad => False
def tS (m : MS) (W : WX) : TS := fun D σ H => ∃ w sl h, RF K g w H sl σ ∧ Hk K g w h H ∧ PostS K g w H D W (m sl h)
end
abbrev RS (X : Cx) (g : Gx) (W : WX) (st : Stmt) (m : MS) : Prop := PS X st (tS X.K g m W)
abbrev RSs (X : Cx) (g : Gx) (W : WX) (sts : List Stmt) (m : MS) : Prop := PSs X sts (tS X.K g m W)
section
variable {K : PySem.W.Frag} {g : Gx} {w w' w1 : Wd} {H H' H1 : Hp} {h h1 : VH} {sl : Sl} {σ : L2.St} {W : WX} {D D' : Ends}
theorem PostS.mono (e : ExtS w H w' H') : ∀ {r : SOut}, PostS K g w H D W r → PostS K g w' H' D W r
  | .nx sl h, p => fun w2 H2 σ' e2 k r => p w2 H2 σ' (e.trans e2) k r
  | .bk sl h, p => fun w2 H2 σ' e2 k r => p w2 H2 σ' (e.trans e2) k r
  | .ct sl h, p => fun w2 H2 σ' e2 k r => p w2 H2 σ' (e.trans e2) k r
  | .rt v h, p => fun w2 H2 y e2 k r => p w2 H2 y (e.trans e2) k r
  | .exc x sl h, p => fun w2 H2 σ' cls d e2 k f r => p w2 H2 σ' cls d (e.trans e2) k f r
  | .bad, p => p
theorem seqS {α β : Type} {R : Rel α β} {T : β → Hp → Prop} {m : Sv → VH → Out α} {k : α → VH → SOut} (f : RF K g w H sl σ) (hk : Hk K g w h H) (p : PostS K g w H D W ((m (view sl) h).toS sl k))
    (i : ∀ w1 H1 h1 v y, ExtS w H w1 H1 → RF K g w1 H1 sl σ → Hk K g w1 h1 H1 → R w1 H1 v y → PostS K g w1 H1 D W (k v h1) → T y H1) : tG K g R m W σ H T := by
  refine ⟨w, view sl, h, f.rsl, hk, ?_⟩
  cases e : m (view sl) h with
  | ok v h1 =>
    rw [e] at p
    exact fun w1 H1 y e1 k1 r => i w1 H1 h1 v y e1.toS (f.mono e1) k1 r (PostS.mono e1.toS p)
  | exc x h1 =>
    rw [e] at p
    exact fun w1 H1 cls d e1 k1 r => p w1 H1 σ cls d e1.toS k1 (f.mono e1) r
  | bad =>
    rw [e] at p
    exact p
end
section
variable {X : Cx} {g : Gx} {W : WX} {st : Stmt} {rest : List Stmt} {m m2 : MS} {e : Expr} {me : ME} {pos : Pos}
def skipM : MS := fun sl h => .nx sl h
def seqM (a b : MS) : MS := fun sl h => match a sl h with
  | .nx sl1 h1 => b sl1 h1
  | r => r
theorem rss_nil : RSs X g W [] skipM := pss_imp pss_nil fun D σ H ⟨w, sl, h, f, k, p⟩ => p w H σ (ExtS.refl _ _) k f
theorem rss_cons (h1 : RS X g W st m) (h2 : RSs X g W rest m2) : RSs X g W (st :: rest) (seqM m m2) :=
  pss_imp (pss_cons h1 h2) fun D σ H ⟨w, sl, h, f, k, p⟩ => by
    refine ⟨w, sl, h, f, k, ?_⟩
    unfold seqM at p
    cases e : m sl h with
    | nx sl1 h1 =>
      rw [e] at p
      exact fun w1 H1 σ1 e1 k1 f1 => ⟨w1, sl1, h1, f1, k1, PostS.mono e1 p⟩
    | rt v h1 => rw [e] at p; exact p
    | bk sl1 h1 => rw [e] at p; exact p
    | ct sl1 h1 => rw [e] at p; exact p
    | exc x sl1 h1 => rw [e] at p; exact p
    | bad => rw [e] at p; exact p
theorem rss_one (h1 : RS X g W st m) : RSs X g W [st] m := pss_one h1
def dropM (a : ME) : MS := fun sl h => (a (view sl) h).toS sl fun _ h1 => .nx sl h1
theorem rs_expr (he : RE X g W e me) (hs : swapsWith e none pos.line X.env = pure false := by rfl) : RS X g W (.Expr e pos) (dropM me) :=
  ps_imp (ps_expr he hs) fun D σ H ⟨w, sl, h, f, k, p⟩ => seqS f k p fun w1 H1 h1 v y e1 f1 k1 r1 p1 => p1 w1 H1 σ (ExtS.refl _ _) k1 f1
theorem ice_toS {K : PySem.W.Frag} {w w1 : Wd} {H H1 : Hp} (e : Ext w.ice H w1 H1) : ExtS w H w1 H1 where
  keep := fun a o q m => e.keep a o q fun z => m ((mut_ice.mp z).elim .inl fun z => .inr (.inl z))
  refs := e.refs
  len := e.len
  P := e.P
  Q := e.Q
  prot := fun a ha => e.prot a (.inl ha)
def retV (a : ME) : MS := fun sl h => (a (view sl) h).toS sl fun v h1 => .rt v h1
theorem rs_retV (he : RE X g W e me) : RS X g W (.Return (some e) pos) (retV me) :=
  ps_imp (ps_ret he) fun D σ H ⟨w, sl, h, f, k, p⟩ => seqS f k p fun w1 H1 h1 v y e1 f1 k1 r1 p1 => p1 w1 H1 y (ExtS.refl _ _) k1 r1
def retF (a : ME) : MS := fun sl h => (a (viewF sl) h).nox.toS sl fun v h1 => .rt v h1
theorem rs_retF (he : RE X g W e me) : RS X g W (.Return (some e) pos) (retF me) :=
  ps_imp (ps_ret he) fun D σ H ⟨w, sl, h, f, k, p⟩ => by
    refine ⟨w.ice, viewF sl, h, f.rslF k, k.ice, ?_⟩
    unfold retF at p
    cases q : me (viewF sl) h with
    | ok v h1 =>
      rw [q] at p
      exact fun w1 H1 y e1 k1 r => p w1 H1 y (ice_toS (K := X.K) e1) k1 r
    | exc x h1 =>
      rw [q] at p
      exact p.elim
    | bad =>
      rw [q] at p
      exact p
def ifS (c : MT) (a b : MS) : MS := fun sl h => (c (view sl) h).toS sl fun k h1 => if k then a sl h1 else b sl h1
theorem rs_if {c : Expr} {mc : MT} {as bs : List Stmt} (hc : RT X g W c mc) (ha : RSs X g W as m) (hb : RSs X g W bs m2) : RS X g W (.If c as bs pos) (ifS mc m m2) :=
  ps_imp (ps_if hc ha hb) fun D σ H ⟨w, sl, h, f, k, p⟩ => seqS f k p fun w1 H1 h1 v y e1 f1 k1 r1 p1 => by
    have e : v = y := r1
    subst e
    cases v with
    | true => exact iteT ⟨w1, sl, h1, f1, k1, p1⟩
    | false => exact iteF ⟨w1, sl, h1, f1, k1, p1⟩
end
end Mv
set_option Elab.async false
set_option linter.all false
set_option maxRecDepth 100000
namespace Mv
open PySem PySem.Spec PyProof.Rows L2
section
variable {K : PySem.W.Frag} {g : Gx} {w w' w1 : Wd} {H H' H1 : Hp} {h h1 : VH} {sl : Sl} {σ : L2.St} {i : Nat}
def Wd.drop (w : Wd) (i : Nat) : Wd := { w with O := w.O.set i none }
theorem mut_drop {a : Addr} : (w.drop i).mut a → w.mut a := by
  rintro (z | z | z)
  · exact .inl z
  · exact .inr (.inl z)
  · rcases List.mem_or_eq_of_mem_set z with z | z
    · exact .inr (.inr z)
    · cases z
theorem drop_sees : Sees w H (w.drop i) H := ⟨fun a o q m => ⟨q, fun z => m (mut_drop z)⟩, fun _ _ _ q => q, Nat.le_refl _, rfl⟩
theorem drop_ext : ExtS w H (w.drop i) H := ⟨(drop_sees (w := w) (H := H) (i := i)).keep, (drop_sees (w := w) (H := H) (i := i)).refs, (drop_sees (w := w) (H := H) (i := i)).len, rfl, rfl, fun _ _ => rfl⟩
theorem drop_O {n : Nat} {a : Addr} (e : (w.drop i).O[n]? = some (some a)) : w.O[n]? = some (some a) := by
  unfold Wd.drop at e
  rw [List.getElem?_set] at e
  split at e
  · split at e
    · cases e
    · cases e
  · exact e
theorem Hk.drop (k : Hk K g w h H) : Hk K g (w.drop i) h H where
  len := k.len
  inj := k.inj
  obj := fun n a hn => by
    obtain ⟨u, h1, h3⟩ := k.obj n a hn
    exact ⟨u, h1, RO.mono drop_sees u a (fun z q => q) h3⟩
  has := k.has
  prot := fun a ha => by
    rcases ha with z | z
    · exact k.prot a (.inl z)
    · rcases List.mem_or_eq_of_mem_set z with z | z
      · exact k.prot a (.inr z)
      · cases z
  own := fun a ha z => by
    rcases List.mem_or_eq_of_mem_set z with z | z
    · exact k.own a ha z
    · cases z
  ownI := fun n m a hn hm => k.ownI n m a (drop_O hn) (drop_O hm)
  spc := k.spc.imp fun a => ⟨id, mut_drop⟩
theorem RF.setv (f : RF K g w H sl σ) {v : VV} {y : V} (r : RV K g w H v y) : RF K g (w.drop i) H (sl.set i (.val v)) (σ.set i (some y)) where
  len := by rw [List.length_set, List.length_set]; exact f.len
  lenO := by unfold Wd.drop; rw [List.length_set, List.length_set]; exact f.lenO
  val := fun j u q => by
    have hl := f.len
    have hO := f.lenO
    rw [List.getElem?_set] at q
    by_cases e : i = j
    · subst e
      rw [if_pos rfl] at q
      by_cases hi : i < sl.length
      · rw [if_pos hi] at q
        cases q
        refine ⟨?_, y, ?_, RV.mono drop_sees _ _ r⟩
        · unfold Wd.drop
          rw [List.getElem?_set, if_pos rfl, if_pos (by omega)]
        · rw [List.getElem?_set, if_pos rfl, if_pos (by omega)]
      · rw [if_neg hi] at q
        cases q
    · rw [if_neg e] at q
      obtain ⟨h1, z, h2, h3⟩ := f.val j u q
      refine ⟨?_, z, ?_, RV.mono drop_sees _ _ h3⟩
      · unfold Wd.drop
        rw [List.getElem?_set, if_neg e]
        exact h1
      · rw [List.getElem?_set, if_neg e]
        exact h2
  own := fun j xs q => by
    rw [List.getElem?_set] at q
    by_cases e : i = j
    · subst e
      rw [if_pos rfl] at q
      split at q
      · cases q
      · cases q
    · rw [if_neg e] at q
      obtain ⟨p, ys, h1, h2, h3, h4⟩ := f.own j xs q
      refine ⟨p, ys, ?_, ?_, h3, RVs.mono drop_sees _ _ h4⟩
      · unfold Wd.drop
        rw [List.getElem?_set, if_neg e]
        exact h1
      · rw [List.getElem?_set, if_neg e]
        exact h2
  no := fun j q => by
    rw [List.getElem?_set] at q
    by_cases e : i = j
    · subst e
      rw [if_pos rfl] at q
      split at q
      · cases q
      · cases q
    · rw [if_neg e] at q
      unfold Wd.drop
      rw [List.getElem?_set, if_neg e]
      exact f.no j q
theorem RAsg.mono {K : PySem.W.Frag} {g : Gx} {w w' : Wd} {H H' : Hp} (e : Sees w H w' H') : ∀ {asg : Asg} {ya : List (Nat × V)}, RAsg K g w H asg ya → RAsg K g w' H' asg ya
  | [], _, r => by unfold RAsg at r ⊢; exact r
  | (i, v) :: r, _, h => by
    unfold RAsg at h ⊢
    obtain ⟨y, ys, e1, h1, h2⟩ := h
    exact ⟨y, ys, e1, RV.mono e _ _ h1, RAsg.mono e h2⟩
def setsS : Asg → Sl → Sl
  | [], sl => sl
  | (i, v) :: r, sl => setsS r (sl.set i (.val v))
theorem RF.sets : ∀ {asg : Asg} {ya : List (Nat × V)} {w : Wd} {sl : Sl} {σ : L2.St}, RF K g w H sl σ → Hk K g w h H → RAsg K g w H asg ya → ∃ w1, ExtS w H w1 H ∧ Hk K g w1 h H ∧ RF K g w1 H (setsS asg sl) (setsR ya σ)
  | [], [], w, sl, σ, f, k, r => ⟨w, ExtS.refl _ _, k, f⟩
  | [], _ :: _, w, sl, σ, f, k, r => by simp [RAsg] at r
  | (i, v) :: asg, ya, w, sl, σ, f, k, r => by
    simp only [RAsg] at r
    obtain ⟨y, q, e, r1, r2⟩ := r
    subst e
    have r3 : RAsg K g (w.drop i) H asg q := RAsg.mono drop_sees r2
    obtain ⟨w1, e1, k1, f1⟩ := RF.sets (f.setv (i := i) r1) k.drop r3
    exact ⟨w1, drop_ext.trans e1, k1, f1⟩
end
section
variable {K : PySem.W.Frag} {g : Gx} {w w' w1 : Wd} {H H' H1 : Hp} {h h1 : VH} {sl : Sl} {σ : L2.St} {i : Nat} {p : Addr} {o : HO}
def Wd.own (w : Wd) (i : Nat) (p : Addr) : Wd := { w with O := w.O.set i (some p) }
theorem mut_own {a : Addr} : (w.own i p).mut a → w.mut a ∨ a = p := by
  rintro (z | z | z)
  · exact .inl (.inl z)
  · exact .inl (.inr (.inl z))
  · rcases List.mem_or_eq_of_mem_set z with z | z
    · exact .inl (.inr (.inr z))
    · cases z
      exact .inr rfl
theorem own_sees (hp : H p = none) : Sees w H (w.own i p) (upd H p o) where
  Q := rfl
  keep := fun a u q m => ⟨by rw [upd_ne (ne_of_none q hp)]; exact q, fun z => by
    rcases mut_own z with z | z
    · exact m z
    · subst z
      rw [hp] at q
      cases q⟩
  refs := fun _ _ _ q => q
  len := Nat.le_refl _
theorem own_ext (k : Hk K g w h H) (hp : H p = none) : ExtS w H (w.own i p) (upd H p o) where
  keep := (own_sees hp).keep
  refs := fun _ _ _ q => q
  len := Nat.le_refl _
  P := rfl
  Q := rfl
  prot := fun a ha => upd_ne fun e => k.live (.inr (.inl ha)) (e ▸ hp)
theorem own_O {n : Nat} {a : Addr} (e : (w.own i p).O[n]? = some (some a)) : (n = i ∧ a = p) ∨ (n ≠ i ∧ w.O[n]? = some (some a)) := by
  unfold Wd.own at e
  rw [List.getElem?_set] at e
  split at e
  · rename_i q
    split at e
    · cases e
      exact .inl ⟨q.symm, rfl⟩
    · cases e
  · rename_i q
    exact .inr ⟨fun z => q z.symm, e⟩
theorem Hk.mkOwn (k : Hk K g w h H) (hp : H p = none) (hd : ∀ z, Spc z p o := by exact fun _ => Spc.of rfl) : Hk K g (w.own i p) h (upd H p o) where
  len := k.len
  inj := k.inj
  obj := fun n a hn => by
    obtain ⟨u, h1, h3⟩ := k.obj n a hn
    exact ⟨u, h1, RO.mono (own_sees hp) u a (fun z q => by rw [upd_ne (ne_of_none q hp)]; exact q) h3⟩
  has := k.has
  prot := fun a ha => by
    have old : w.P a ∨ some a ∈ w.O → (upd H p o) a ≠ none ∧ some a ∉ (w.own i p).phi := fun z => by
      obtain ⟨h1, h2⟩ := k.prot a z
      refine ⟨?_, h2⟩
      rw [upd_ne (show a ≠ p from fun e => h1 (by rw [e]; exact hp))]
      exact h1
    rcases ha with z | z
    · exact old (.inl z)
    · rcases List.mem_or_eq_of_mem_set z with z | z
      · exact old (.inr z)
      · cases z
        exact ⟨by rw [upd_same]; simp, fun z => k.live (.inl z) hp⟩
  own := fun a ha z => by
    rcases List.mem_or_eq_of_mem_set z with z | z
    · exact k.own a ha z
    · cases z
      exact k.live (.inr (.inl ha)) hp
  ownI := fun n m a hn hm => by
    rcases own_O hn with ⟨e1, e2⟩ | ⟨e1, e2⟩
    · rcases own_O hm with ⟨e3, e4⟩ | ⟨e3, e4⟩
      · rw [e1, e3]
      · exact absurd hp (e2 ▸ k.live (.inr (.inr (List.mem_of_getElem? e4))))
    · rcases own_O hm with ⟨e3, e4⟩ | ⟨e3, e4⟩
      · exact absurd hp (e4 ▸ k.live (.inr (.inr (List.mem_of_getElem? e2))))
      · exact k.ownI n m a e2 e4
  spc := k.spc.upd hd fun a ne => ⟨id, fun z => (mut_own z).elim id fun e => (ne e).elim⟩
theorem RF.mkOwn (f : RF K g w H sl σ) {xs : List VV} {ys : List V} (hp : H p = none) (r : RVs K g w H xs ys) : RF K g (w.own i p) (upd H p (.lst ys)) (sl.set i (.own xs)) (σ.set i (some (.ref p))) where
  len := by rw [List.length_set, List.length_set]; exact f.len
  lenO := by unfold Wd.own; rw [List.length_set, List.length_set]; exact f.lenO
  val := fun j u q => by
    rw [List.getElem?_set] at q
    by_cases e : i = j
    · subst e
      rw [if_pos rfl] at q
      split at q
      · cases q
      · cases q
    · rw [if_neg e] at q
      obtain ⟨h1, z, h2, h3⟩ := f.val j u q
      refine ⟨?_, z, ?_, RV.mono (own_sees hp) _ _ h3⟩
      · unfold Wd.own
        rw [List.getElem?_set, if_neg e]
        exact h1
      · rw [List.getElem?_set, if_neg e]
        exact h2
  own := fun j zs q => by
    have hl := f.len
    have hO := f.lenO
    rw [List.getElem?_set] at q
    by_cases e : i = j
    · subst e
      rw [if_pos rfl] at q
      by_cases hi : i < sl.length
      · rw [if_pos hi] at q
        cases q
        refine ⟨p, ys, ?_, ?_, upd_same, RVs.mono (own_sees hp) _ _ r⟩
        · unfold Wd.own
          rw [List.getElem?_set, if_pos rfl, if_pos (by omega)]
        · rw [List.getElem?_set, if_pos rfl, if_pos (by omega)]
      · rw [if_neg hi] at q
        cases q
    · rw [if_neg e] at q
      obtain ⟨a, bs, h1, h2, h3, h4⟩ := f.own j zs q
      refine ⟨a, bs, ?_, ?_, ?_, RVs.mono (own_sees hp) _ _ h4⟩
      · unfold Wd.own
        rw [List.getElem?_set, if_neg e]
        exact h1
      · rw [List.getElem?_set, if_neg e]
        exact h2
      · rw [upd_ne (ne_of_none h3 hp)]
        exact h3
  no := fun j q => by
    rw [List.getElem?_set] at q
    by_cases e : i = j
    · subst e
      rw [if_pos rfl] at q
      split at q
      · cases q
      · cases q
    · rw [if_neg e] at q
      unfold Wd.own
      rw [List.getElem?_set, if_neg e]
      exact f.no j q
theorem ownset_sees (m : w.mut p) : Sees w H w (upd H p o) where
  Q := rfl
  keep := fun a u q n => ⟨by rw [upd_ne (show a ≠ p from fun e => n (by rw [e]; exact m))]; exact q, n⟩
  refs := fun _ _ _ q => q
  len := Nat.le_refl _
theorem ownset_ext (k : Hk K g w h H) (ho : w.O[i]? = some (some p)) : ExtS w H w (upd H p o) where
  keep := (ownset_sees (.inr (.inr (List.mem_of_getElem? ho)))).keep
  refs := fun _ _ _ q => q
  len := Nat.le_refl _
  P := rfl
  Q := rfl
  prot := fun a ha => upd_ne fun e => k.own a ha (e ▸ List.mem_of_getElem? ho)
theorem Hk.ownset (k : Hk K g w h H) (ho : w.O[i]? = some (some p)) (hd : ∀ z, Spc z p o := by exact fun _ => Spc.of rfl) : Hk K g w h (upd H p o) where
  len := k.len
  inj := k.inj
  obj := fun n a hn => by
    obtain ⟨u, h1, h3⟩ := k.obj n a hn
    have ne : a ≠ p := fun e => (k.prot p (.inr (List.mem_of_getElem? ho))).2 (e ▸ List.mem_of_getElem? hn)
    exact ⟨u, h1, RO.mono (ownset_sees (.inr (.inr (List.mem_of_getElem? ho)))) u a (fun z q => by rw [upd_ne ne]; exact q) h3⟩
  has := k.has
  prot := fun a ha => by
    obtain ⟨h1, h2⟩ := k.prot a ha
    refine ⟨?_, h2⟩
    by_cases e : a = p
    · rw [e, upd_same]
      simp
    · rw [upd_ne e]
      exact h1
  own := k.own
  ownI := k.ownI
  spc := k.spc.put hd
theorem RF.ownset (f : RF K g w H sl σ) (k : Hk K g w h H) {xs : List VV} {ys : List V} (ho : w.O[i]? = some (some p)) (hs : σ[i]? = some (some (.ref p))) (r : RVs K g w H xs ys) : RF K g w (upd H p (.lst ys)) (sl.set i (.own xs)) σ where
  len := by rw [List.length_set]; exact f.len
  lenO := by rw [List.length_set]; exact f.lenO
  val := fun j u q => by
    rw [List.getElem?_set] at q
    by_cases e : i = j
    · subst e
      rw [if_pos rfl] at q
      split at q
      · cases q
      · cases q
    · rw [if_neg e] at q
      obtain ⟨h1, z, h2, h3⟩ := f.val j u q
      exact ⟨h1, z, h2, RV.mono (ownset_sees (.inr (.inr (List.mem_of_getElem? ho)))) _ _ h3⟩
  own := fun j zs q => by
    have se : Sees w H w (upd H p (.lst ys)) := ownset_sees (.inr (.inr (List.mem_of_getElem? ho)))
    rw [List.getElem?_set] at q
    by_cases e : i = j
    · subst e
      rw [if_pos rfl] at q
      split at q
      · cases q
        exact ⟨p, ys, ho, hs, upd_same, RVs.mono se _ _ r⟩
      · cases q
    · rw [if_neg e] at q
      obtain ⟨a, bs, h1, h2, h3, h4⟩ := f.own j zs q
      exact ⟨a, bs, h1, h2, by rw [upd_ne (show a ≠ p from fun z => e (k.ownI i j p ho (by rw [← z]; exact h1)))]; exact h3, RVs.mono se _ _ h4⟩
  no := fun j q => by
    rw [List.getElem?_set] at q
    by_cases e : i = j
    · subst e
      rw [if_pos rfl] at q
      split at q
      · cases q
      · cases q
    · rw [if_neg e] at q
      exact f.no j q
end
section
variable {X : Cx} {g : Gx} {W : WX} {st : Stmt} {rest body : List Stmt} {m m2 : MS} {e : Expr} {me : ME} {es : List Expr} {ma : MA} {pos pos' : Pos} {x y z : Str} {i j l : Nat}
def setM (i : Nat) (a : ME) : MS := fun sl h => (a (view sl) h).toS sl fun v h1 => .nx (sl.set i (.val v)) h1
theorem setM_imp {D : Ends} {σ : L2.St} {H : Hp} (t : tS X.K g (setM i me) W D σ H) : tAsg (tG X.K g (relV X.K g) me W) (gName i) D σ H := by
  obtain ⟨w, sl, h, f, k, p⟩ := t
  exact seqS f k p fun w1 H1 h1 v y e1 f1 k1 r1 p1 => p1 (w1.drop i) H1 (σ.set i (some y)) drop_ext k1.drop (f1.setv r1)
theorem rs_set (i : Nat) (hN : X.N.Nodup) (he : RE X g W e me) (hi : X.N[i]? = some x := by rfl) (hx : Loc X.env.scope x := by first | exact Or.inl rfl | exact Or.inr rfl) (hs : swapsWith e (some (.Name x pos')) pos.line X.env = pure false := by rfl)
    (hf : X.fn x = true ∨ X.env.scope.names.lookup x = some .local := by first | exact .inl rfl | exact .inr rfl) : RS X g W (.Assign [.Name x pos'] e pos) (setM i me) :=
  ps_imp (ps_set hN hi hx he hs hf) fun D σ H t => setM_imp t
end
end Mv
set_option Elab.async false
set_option linter.all false
set_option maxRecDepth 100000
namespace Mv
open PySem PySem.Spec PyProof.Rows L2
section
variable {K : PySem.W.Frag} {g : Gx} {w : Wd} {H : Hp} {h : VH} {sl : Sl} {σ : L2.St} {n : Nat} {a : Addr} {o : HO}
theorem refset_ext (k : Hk K g w h H) (hn : w.phi[n]? = some (some a)) : ExtS w H w (upd H a o) where
  keep := (ownset_sees (.inl (List.mem_of_getElem? hn))).keep
  refs := fun _ _ _ q => q
  len := Nat.le_refl _
  P := rfl
  Q := rfl
  prot := fun b hb => upd_ne fun e => (k.prot b (.inl hb)).2 (by rw [e]; exact List.mem_of_getElem? hn)
theorem Hk.refset (k : Hk K g w h H) (hn : w.phi[n]? = some (some a)) {xs : List VV} {ys : List V} (r : RVs K g w H xs ys) : Hk K g w (h.set n (.lst xs)) (upd H a (.lst ys)) where
  len := by rw [List.length_set]; exact k.len
  inj := k.inj
  obj := fun m b hm => by
    have se : Sees w H w (upd H a (.lst ys)) := ownset_sees (.inl (List.mem_of_getElem? hn))
    obtain ⟨u, h1, h3⟩ := k.obj m b hm
    by_cases e : m = n
    · subst e
      rw [hn] at hm
      cases hm
      refine ⟨.lst xs, ?_, ys, upd_same, RVs.mono se _ _ r⟩
      rw [List.getElem?_set_self (List.getElem?_eq_some_iff.mp h1).1]
    · refine ⟨u, by rw [List.getElem?_set_ne (Ne.symm e)]; exact h1, RO.mono se u b (fun z q => ?_) h3⟩
      rw [upd_ne (show b ≠ a from fun z => e (k.inj m n a (by rw [← z]; exact hm) hn))]
      exact q
  has := fun m u hm hu => by
    by_cases e : m = n
    · subst e
      exact ⟨a, hn⟩
    · rw [List.getElem?_set_ne (Ne.symm e)] at hm
      exact k.has m u hm hu
  prot := fun b hb => by
    obtain ⟨h1, h2⟩ := k.prot b hb
    refine ⟨?_, h2⟩
    by_cases e : b = a
    · rw [e, upd_same]
      simp
    · rw [upd_ne e]
      exact h1
  own := k.own
  ownI := k.ownI
  spc := k.spc.put fun _ => Spc.of rfl
theorem RF.sees (f : RF K g w H sl σ) (e : Sees w H w (upd H a o)) (hO : ∀ p, some p ∈ w.O → p ≠ a) : RF K g w (upd H a o) sl σ where
  len := f.len
  lenO := f.lenO
  val := fun j u q => by
    obtain ⟨h1, z, h2, h3⟩ := f.val j u q
    exact ⟨h1, z, h2, RV.mono e _ _ h3⟩
  own := fun j zs q => by
    obtain ⟨p, bs, h1, h2, h3, h4⟩ := f.own j zs q
    exact ⟨p, bs, h1, h2, by rw [upd_ne (hO p (List.mem_of_getElem? h1))]; exact h3, RVs.mono e _ _ h4⟩
  no := f.no
theorem RF.refset (f : RF K g w H sl σ) (k : Hk K g w h H) (hn : w.phi[n]? = some (some a)) : RF K g w (upd H a o) sl σ :=
  f.sees (ownset_sees (.inl (List.mem_of_getElem? hn))) fun p hp e => (k.prot p (.inr hp)).2 (by rw [e]; exact List.mem_of_getElem? hn)
end
section
variable {X : Cx} {g : Gx} {W : WX} {st : Stmt} {rest body : List Stmt} {m mb m2 : MS} {e o e2 : Expr} {me mo mi : ME} {es : List Expr} {ma : MA} {pos pos' : Pos} {x y z : Str} {i j l : Nat}
def appM (i : Nat) (a : MA) : MS := fun sl h => match sl[i]? with
  | some (.own xs) => (a (view sl) h).toS sl fun vs h1 => match vs with
    | [v] => if fits (xs.length + 1) then .nx (sl.set i (.own (xs ++ [v]))) h1 else .bad
    | _ => .bad
  | _ => .bad
theorem rs_app (i : Nat) {apos cpos : Pos} {px : Pos} (ha : RA X g W [e] ma) (hi : X.N[i]? = some x := by rfl) (hv : Vis X.env.scope x := by first | exact Or.inl rfl | exact Or.inr (Or.inl rfl) | exact Or.inr (Or.inr rfl)) (hd : (x == ("__debug__" : Str)) = false := by decide)
    (hcd : (x == ("__classdict__" : Str)) = false := by decide) (hbase : attributeBase (.Name x px) "append" X.env (eval (.Name x px) X.env) = eval (.Name x px) X.env := by rfl)
    (hfew : ((backTo cpos (starEach [e] X.env)).all (fun x => !x.1) && (backToKw cpos (keywordEach [] X.env)).all (fun x => x.1.isSome) && decide (([e] : List Expr).length + ([] : List Keyword).length + (if ([] : List Keyword).isEmpty then 0 else 1) < 30)) = true := by rfl)
    (hline : (apos.endLine == cpos.line) = true := by rfl) (hst : starEach [e] X.env = (false, eval e X.env) :: starEach [] X.env := by rfl) (hplain : (backTo cpos (starEach [] X.env)).any (·.1) = false := by rfl)
    (hs : swapsWith (.Call (.Attribute (.Name x px) "append" apos) [e] [] cpos) none pos.line X.env = pure false := by rfl) :
    RS X g W (.Expr (.Call (.Attribute (.Name x px) "append" apos) [e] [] cpos) pos) (appM i ma) :=
  ps_imp (ps_expr (pe_bm PySem.F.plainAttrs_list PySem.F.slot_list_append PySem.F.type_list_append (fun pins s σ H x xs v us Q => mt_append pins s σ H x xs v us Q) (pe_var hi hv hd hcd) ha hbase hfew hline hst hplain) hs) fun D σ H ⟨w, sl, h, f, k, p⟩ => by
    unfold appM at p
    split at p
    · rename_i xs q
      obtain ⟨a, ys, h1, h2, h3, h4⟩ := f.own i xs q
      refine ⟨_, h2, .inl ⟨rfl, ys, SqL.of h3⟩, ?_⟩
      refine seqS f k p fun w1 H1 h1 vs us e1 f1 k1 r1 p1 => ?_
      split at p1
      · rename_i v
        split at p1
        · rename_i hf
          simp only [relVs, RVs] at r1
          obtain ⟨u, _, e2, r1, rfl⟩ := r1
          obtain ⟨b, bs, h5, h6, h7, h8⟩ := f1.own i xs q
          rw [h2] at h6
          cases h6
          refine ⟨a, bs, u, rfl, e2, h7, ?_, ?_⟩
          · have := fits_le hf
            rw [← h8.length]
            omega
          · refine p1 w1 _ σ (ownset_ext k1 h5) (k1.ownset h5) (f1.ownset k1 h5 h2 (h8.app ?_))
            simp only [RVs]
            exact ⟨_, _, rfl, r1, rfl⟩
        · exact p1.elim
      · exact p1.elim
    · exact p.elim
end
section
variable {X : Cx} {g : Gx} {W : WX} {st : Stmt} {rest body : List Stmt} {m mb m2 : MS} {e o e2 : Expr} {me mo mi : ME} {es : List Expr} {ma : MA} {pos pos' : Pos} {x y z : Str} {i j l : Nat}
def parM (i j : Nat) (a : MA) : MS := fun sl h => (a (view sl) h).toS sl fun vs h1 => match vs with
  | [v, u] => .nx ((sl.set i (.val v)).set j (.val u)) h1
  | _ => .bad
theorem rs_par (i j : Nat) {a b : Expr} {px py pt : Pos} {kt k2 pt2} (hc : X.calm = true) (hN : X.N.Nodup) (ha : RA X g W [a, b] ma) (hi : X.N[i]? = some x := by rfl) (hj : X.N[j]? = some y := by rfl) (hij : i ≠ j := by decide)
    (hx : X.env.scope.names.lookup x = some .local := by rfl) (hy : X.env.scope.names.lookup y = some .local := by rfl)
    (hw : swappedStores [.Tuple [.Name x px, .Name y py] kt pt] (.Tuple [a, b] k2 pt2) X.env = pure (some [x, y]) := by rfl)
    (hs : swapsWithSole [.Tuple [.Name x px, .Name y py] kt pt] (.Tuple [a, b] k2 pt2) pos.line X.env = pure false := by rfl) :
    RS X g W (.Assign [.Tuple [.Name x px, .Name y py] kt pt] (.Tuple [a, b] k2 pt2) pos) (parM i j ma) :=
  ps_imp (ps_par hc hN hi hj hij hx hy ha hw hs) fun D σ H ⟨w, sl, h, f, k, p⟩ => by
    refine seqS f k p fun w1 H1 h1 vs us e1 f1 k1 r1 p1 => ?_
    split at p1
    · rename_i v u
      simp only [relVs, RVs] at r1
      obtain ⟨y1, _, rfl, r1, y2, _, rfl, r2, rfl⟩ := r1
      exact ⟨y1, y2, rfl, p1 ((w1.drop i).drop j) H1 _ (drop_ext.trans drop_ext) k1.drop.drop ((f1.setv r1).setv (RV.mono drop_sees _ _ r2))⟩
    · exact p1.elim
def asgM (mg : MG) (a : ME) : MS := fun sl h => (a (view sl) h).toS sl fun v h1 => match mg v with
  | some asg => .nx (setsS asg sl) h1
  | none => .bad
theorem rs_asg {tg : Expr} {mg : MG} (he : RE X g W e me) (hg : RG X g tg mg) (hs : swapsWithSole [tg] e pos.line X.env = pure false := by rfl) (hw : swappedStores [tg] e X.env = pure none := by rfl)
    (h1 : (assignEach [tg] X.env).map (·.2) = [assign tg X.env] := by rfl) : RS X g W (.Assign [tg] e pos) (asgM mg me) :=
  ps_imp (ps_asg he hg hs hw h1) fun D σ H ⟨w, sl, h, f, k, p⟩ => by
    refine seqS f k p fun w1 H1 h1 v y e1 f1 k1 r1 p1 => ?_
    split at p1
    · rename_i asg q
      refine ⟨w1, h1, v, asg, k1, r1, q, fun ya ra => ?_⟩
      obtain ⟨w2, e2, k2, f2⟩ := RF.sets f1 k1 ra
      exact p1 w2 H1 _ e2 k2 f2
    · exact p1.elim
def forGo (mg : MG) (body : MS) : List VV → MS
  | [], sl, h => .nx sl h
  | v :: vs, sl, h => match mg v with
    | none => .bad
    | some asg => match body (setsS asg sl) h with
      | .nx sl1 h1 => forGo mg body vs sl1 h1
      | .ct sl1 h1 => forGo mg body vs sl1 h1
      | .bk sl1 h1 => .nx sl1 h1
      | .rt v h1 => .rt v h1
      | .exc x sl1 h1 => .exc x sl1 h1
      | .bad => .bad
def forM (mi : MI) (mg : MG) (body : MS) : MS := fun sl h => (mi (view sl) h).toS sl fun items h1 => forGo mg body items sl h1
theorem rs_for {tg iter : Expr} {mi : MI} {mg : MG} (hp : PassesOwn (model X.prog X.w) X.A X.env X.xe) (hc : X.calm = true) (hi : RI X g W tg iter mi) (hg : RG X g tg mg) (hb : RSs X g W body mb)
    (hs : ∀ x, foldedSetIterable iter X.env x = pure x := by intro _; rfl) : RS X g W (.For tg iter body [] pos) (forM mi mg mb) :=
  ps_imp (ps_for hp hc hi hg hb hs) fun D σ H ⟨w, sl, h, f, k, p⟩ => by
    refine seqS f k p fun w1 H1 h1 items J e1 f1 k1 r1 p1 => ?_
    refine ⟨fun i m σ H => ∃ w sl h, ItOk X.K g w H items J ∧ RF X.K g w H sl σ ∧ Hk X.K g w h H ∧ items.length = i + m ∧ PostS X.K g w H D W (forGo mg mb (items.drop i) sl h), ⟨items.length, w1, sl, h1, r1, f1, k1, by simp, p1⟩, ?_⟩
    rintro i m σ2 H2 ⟨w2, sl2, h2, it, f2, k2, hl, p2⟩
    cases m with
    | zero =>
      refine .inl ⟨by have := it.stop w2 H2 (Sees.refl _ _); rw [hl] at this; exact this, ?_⟩
      rw [List.drop_eq_nil_of_le (by omega)] at p2
      exact p2 w2 H2 σ2 (ExtS.refl _ _) k2 f2
    | succ m =>
      have hi : i < items.length := by omega
      have hd := List.drop_eq_getElem_cons hi
      obtain ⟨go, st⟩ := it.step w2 h2 H2 i items[i] (Sees.refl _ _) k2 (List.getElem?_eq_getElem hi)
      refine .inr ⟨go, fun σ' H' => ∃ m', m' < m + 1 ∧ ∃ w sl h, ItOk X.K g w H' items J ∧ RF X.K g w H' sl σ' ∧ Hk X.K g w h H' ∧ items.length = i + 1 + m' ∧ PostS X.K g w H' D W (forGo mg mb (items.drop (i + 1)) sl h), fun σ' H' q => q, fun x H3 hy => ?_⟩
      obtain ⟨e3, k3, r3⟩ := st x H3 hy
      rw [hd] at p2
      unfold forGo at p2
      split at p2
      · exact p2.elim
      · rename_i asg q
        refine ⟨w2, h2, items[i], asg, k3, r3, q, fun ya ra => ?_⟩
        obtain ⟨w4, e4, k4, f4⟩ := RF.sets (f2.mono e3) k3 ra
        have e24 := e3.toS.trans e4
        refine ⟨w4, _, h2, f4, k4, ?_⟩
        have nxt : ∀ sl1 hh, PostS X.K g w2 H2 D W (forGo mg mb (items.drop (i + 1)) sl1 hh) → ∀ w' H' σ', ExtS w4 H3 w' H' → Hk X.K g w' hh H' → RF X.K g w' H' sl1 σ' →
            ∃ m', m' < m + 1 ∧ ∃ w sl h, ItOk X.K g w H' items J ∧ RF X.K g w H' sl σ' ∧ Hk X.K g w h H' ∧ items.length = i + 1 + m' ∧ PostS X.K g w H' D W (forGo mg mb (items.drop (i + 1)) sl h) := fun sl1 hh pp w' H' σ' e5 k5 f5 =>
          ⟨m, by omega, w', sl1, hh, it.mono (e24.trans e5).sees, f5, k5, by omega, PostS.mono (e24.trans e5) pp⟩
        split at p2
        · rename_i sl1 hh eb
          rw [eb]
          exact nxt sl1 hh p2
        · rename_i sl1 hh eb
          rw [eb]
          exact nxt sl1 hh p2
        · rename_i sl1 hh eb
          rw [eb]
          exact PostS.mono e24 p2
        · rename_i v hh eb
          rw [eb]
          exact PostS.mono e24 p2
        · rename_i x sl1 hh eb
          rw [eb]
          exact PostS.mono e24 p2
        · exact p2.elim
end
end Mv
set_option Elab.async false
set_option linter.all false
set_option maxRecDepth 100000
namespace Mv
open PySem PySem.Spec PyProof.Rows L2
abbrev MF := List VV → VH → Out VV
def startS (n np : Nat) (vs : List VV) : Sl := vs.map .val ++ List.replicate (n - np) .no
def fnM (n np : Nat) (body : MS) : MF := fun vs h => if vs.length = np then (match body (startS n np vs) h with
  | .nx _ h1 => .ok .non h1
  | .rt v h1 => .ok v h1
  | .exc x _ h1 => .exc x h1
  | _ => .bad) else .bad
abbrev WK (E : XK) : WX := fun cls d _ H => E cls d H
def spM (K : PySem.W.Frag) (g : Gx) (mf : MF) : Sp := fun vs H Q E => ∃ w h xs, Hk K g w h H ∧ RVs K g w H xs vs ∧ Post K g (relV K g) w H [] Q (WK E) (mf xs h)
section
variable {K : PySem.W.Frag} {g : Gx} {w w' : Wd} {H H' : Hp} {h h1 : VH} {a : Addr} {m : Nat}
def Wd.in (w : Wd) (m : Nat) : Wd := { w with P := fun a => w.P a ∨ some a ∈ w.O, O := List.replicate m none }
theorem no_rep {m : Nat} (z : some a ∈ List.replicate m (none : Option Addr)) : False := by
  have := List.eq_of_mem_replicate z
  cases this
theorem mut_in : (w.in m).mut a ↔ w.mut a := by
  constructor
  · rintro (z | (z | z) | z)
    · exact .inl z
    · exact .inr (.inl z)
    · exact .inr (.inr z)
    · exact (no_rep z).elim
  · rintro (z | z | z)
    · exact .inl z
    · exact .inr (.inl (.inl z))
    · exact .inr (.inl (.inr z))
theorem in_sees : Sees w H (w.in m) H := ⟨fun a o q n => ⟨q, fun z => n (mut_in.mp z)⟩, fun _ _ _ q => q, Nat.le_refl _, rfl⟩
theorem Hk.in (k : Hk K g w h H) : Hk K g (w.in m) h H where
  len := k.len
  inj := k.inj
  obj := fun n a hn => by
    obtain ⟨u, h1, h3⟩ := k.obj n a hn
    exact ⟨u, h1, RO.mono in_sees u a (fun z q => q) h3⟩
  has := k.has
  prot := fun a ha => by
    rcases ha with (z | z) | z
    · exact k.prot a (.inl z)
    · exact k.prot a (.inr z)
    · exact (no_rep z).elim
  own := fun a _ z => no_rep z
  ownI := fun n m a hn _ => (no_rep (List.mem_of_getElem? hn)).elim
  spc := k.spc.imp fun a => ⟨id, mut_in.mp⟩
def Wd.back (w' w : Wd) : Wd := { w' with P := w.P, O := w.O }
theorem mut_back (hP : w'.P = (w.in m).P) (z : (w'.back w).mut a) : w'.mut a := by
  rcases z with z | z | z
  · exact .inl z
  · exact .inr (.inl (by rw [hP]; exact .inl z))
  · exact .inr (.inl (by rw [hP]; exact .inr z))
theorem back_sees (hP : w'.P = (w.in m).P) : Sees w' H (w'.back w) H := ⟨fun a o q n => ⟨q, fun z => n (mut_back hP z)⟩, fun _ _ _ q => q, Nat.le_refl _, rfl⟩
theorem back_ext (e : ExtS (w.in m) H w' H') : Ext w H (w'.back w) H' where
  keep := fun a o q n => by
    obtain ⟨h1, h2⟩ := e.keep a o q fun z => n (mut_in.mp z)
    exact ⟨h1, fun z => h2 (mut_back e.P z)⟩
  refs := e.refs
  len := e.len
  P := rfl
  Q := e.Q
  O := rfl
  prot := fun a ha => e.prot a ha
theorem Hk.back (k : Hk K g w h H) (e : ExtS (w.in m) H w' H') (k' : Hk K g w' h1 H') : Hk K g (w'.back w) h1 H' where
  len := k'.len
  inj := k'.inj
  obj := fun n a hn => by
    obtain ⟨u, h1, h3⟩ := k'.obj n a hn
    exact ⟨u, h1, RO.mono (back_sees e.P) u a (fun z q => q) h3⟩
  has := k'.has
  prot := fun a ha => k'.prot a (.inl (by rw [e.P]; exact ha))
  own := k.own
  ownI := k.ownI
  spc := k'.spc.imp fun a => ⟨id, mut_back e.P⟩
theorem RX.back (hP : w'.P = (w.in m).P) {x : Exn} {cls : Value} {d : Option Addr} (r : RX K g w' H x cls d) : RX K g (w'.back w) H x cls d := by
  obtain ⟨e, r⟩ := r
  refine ⟨e, ?_⟩
  cases q : x.pay with
  | none => trivial
  | some v =>
    rw [q] at r
    obtain ⟨dd, y, h1, h2, h3, h4⟩ := r
    exact ⟨dd, y, h1, h2, fun z => h3 (mut_back hP z), RV.mono (back_sees hP) _ _ h4⟩
theorem RF.start {n np : Nat} {xs : List VV} {N : List Str} {vs : List V} (hn : N.length = n) (hl : xs.length = np) (hle : np ≤ n) (r : RVs K g w H xs vs) : RF K g (w.in n) H (startS n np xs) (L2.start N vs) where
  len := by
    unfold startS L2.start
    have := r.length
    simp
    omega
  lenO := by
    unfold startS Wd.in
    simp
    omega
  val := fun i v e => by
    unfold startS at e
    have hi : i < xs.length := by
      apply Classical.byContradiction
      intro c
      rw [List.getElem?_append_right (by simpa using c)] at e
      rw [List.getElem?_replicate] at e
      split at e
      · cases e
      · cases e
    rw [List.getElem?_append_left (by simpa using hi), List.getElem?_map] at e
    cases q : xs[i]? with
    | none => rw [q] at e; cases e
    | some u =>
      rw [q] at e
      cases e
      obtain ⟨y, h1, h2⟩ := r.get i v q
      refine ⟨?_, y, ?_, RV.mono in_sees _ _ h2⟩
      · unfold Wd.in
        rw [List.getElem?_replicate, if_pos (by omega)]
      · unfold L2.start
        rw [List.getElem?_append_left (by rw [List.length_map, ← r.length]; exact hi), List.getElem?_map, h1]
        rfl
  own := fun i zs e => by
    unfold startS at e
    have := List.mem_of_getElem? e
    rcases List.mem_append.mp this with z | z
    · obtain ⟨u, _, e⟩ := List.mem_map.mp z
      cases e
    · have := List.eq_of_mem_replicate z
      cases this
  no := fun i e => by
    have hi := (List.getElem?_eq_some_iff.mp e).1
    unfold startS at hi
    simp at hi
    unfold Wd.in
    rw [List.getElem?_replicate, if_pos (by omega)]
end
theorem fn_ok {P : Program} {w : World} {K : PySem.W.Frag} {mg : Str → Option Value} {base : Heap} {g : Gx} {x qual : Str} {params : Arguments} {body : List Stmt} {scope : Scope} {dvs : List V} {kws : List (Str × V)} {f : Addr} {fd : FuncData} {N ps : List Str} {k n np : Nat} {m : MS}
    (F : FunD K x qual params body scope dvs kws f fd) (S : FnScope N ps scope) (hn : N.length = n) (hp : ps.length = np)
    (hb : ∀ (cdv : Value) (A : Around) (outer : List Env) (s : Shared) (H : Hp) (E : XK), Room k (A.deeper (envOfC qual scope s.heap.objs.size f cdv)) → RSs (cxOf (L2.CX P w) P w K mg base N qual scope f cdv A outer s H E) g (WK E) body m) :
    FnOk P w K mg base (L2.CX P w) (k + 1) f fd ps (spM K g (fnM n np m)) := by
  have hle : np ≤ n := by
    have := S.pre
    rw [← hn, ← hp, ← this, List.length_take]
    omega
  have lenx : ∀ {w H Q} {W : WX} {xs : List VV} {h : VH}, Post K g (relV K g) w H [] Q W (fnM n np m xs h) → xs.length = np := fun {w H Q W xs h} p => by
    unfold fnM at p
    split at p
    · assumption
    · exact p.elim
  refine F.ok S (fun vs H Q E ⟨w1, h, xs, k1, r, p⟩ => by rw [← r.length, hp]; exact lenx p) fun cdv A outer s H vs Q E hr ⟨w1, h, xs, k1, r, p⟩ => ⟨_, hb cdv A outer s H E hr, ?_⟩
  have hl := lenx p
  refine ⟨w1.in n, startS n np xs, h, RF.start hn hl hle r, k1.in, ?_⟩
  unfold fnM at p
  rw [if_pos hl] at p
  split at p
  · rename_i sl1 h1 e
    rw [e]
    exact fun w' H' σ' e1 k2 f1 => p (w'.back w1) H' .non (back_ext e1) (k1.back e1 k2) (by simp only [relV, RV])
  · rename_i v h1 e
    rw [e]
    exact fun w' H' y e1 k2 r1 => p (w'.back w1) H' y (back_ext e1) (k1.back e1 k2) (RV.mono (back_sees e1.P) _ _ r1)
  · rename_i ex sl1 h1 e
    rw [e]
    exact fun w' H' σ' cls d e1 k2 f1 r1 => p (w'.back w1) H' cls d (back_ext e1) (k1.back e1 k2) (r1.back e1.P)
  · exact p.elim
def callF (mf : MF) (a : MA) : ME := fun sv h => (a sv h).bind fun vs h1 => mf vs h1
section
variable {X : Cx} {g : Gx} {W : WX} {e : Expr} {es : List Expr} {ma : MA} {p pos : Pos} {x : Str} {k : Nat} {f : Addr} {fd : FuncData} {ps : List Str} {mf : MF}
theorem re_call (F : FnOk X.prog X.w X.K X.mg X.base (L2.CX X.prog X.w) k f fd ps (spM X.K g mf)) (hr : Room k X.A) (hm : X.mg x = some (.ref f)) (hk : PySem.W.keepIn X.K (.ref f) = true) (hb : Binds X.K fd ps []) (tk : Takes X W) (ha : RA X g W (e :: es) ma) (hg : Gl X x := by rfl)
    (hdb : (x == ("__debug__" : Str)) = false := by decide) (he : starEach (e :: es) X.env = (false, eval e X.env) :: starEach es X.env := by rfl) (hpl : (backTo pos (starEach es X.env)).any (·.1) = false := by rfl) :
    RE X g W (.Call (.Name x p) (e :: es) [] pos) (callF mf ma) :=
  pe_imp (pe_callSD (E := WE W) F hr hg hm hk hb .nil (fun σ => passAt tk σ) ha hdb he hpl) fun σ H Q ⟨w, sv, h, rs, hk, pp⟩ => by
    refine seqG' rs hk pp fun w1 H1 h1 vs y e1 rs1 k1 r1 p1 => ?_
    refine ⟨w1, h1, vs, k1, by rw [List.append_nil]; exact r1, ?_⟩
    cases q : mf vs h1 with
    | ok v h2 => rw [q] at p1; exact p1
    | exc x h2 => rw [q] at p1; exact p1
    | bad => rw [q] at p1; exact p1
end
end Mv
set_option Elab.async false
set_option linter.all false
set_option maxRecDepth 100000
namespace Mv
open PySem PySem.Spec PyProof.Rows L2
def scV : VV → Option V
  | .non => some .non
  | .bl b => some (.bl b)
  | .int i => some (.int i)
  | .str x => some (.str x)
  | _ => none
def scVs : List VV → Option (List V)
  | [] => some []
  | x :: xs => (scV x).bind fun y => (scVs xs).map fun ys => y :: ys
def seqOf (h : VH) : VV → Option (List VV)
  | .tup xs => some xs
  | .lst xs => some xs
  | .rol xs => some xs
  | .ktu xs => some xs
  | .ref n => (match h[n]? with
    | some (.lst xs) => some xs
    | _ => none)
  | _ => none
section
variable {K : PySem.W.Frag} {g : Gx} {w : Wd} {H : Hp} {h : VH} {G : Gx}
theorem scV_ok {x : VV} {v y : V} (e : scV x = some v) (r : RV K G w H x y) : y = v ∧ flatV v = true := by
  cases x with
  | non => simp only [scV, Option.some.injEq] at e; simp only [RV] at r; subst e r; exact ⟨rfl, rfl⟩
  | bl b => simp only [scV, Option.some.injEq] at e; simp only [RV] at r; subst e r; exact ⟨rfl, rfl⟩
  | int b => simp only [scV, Option.some.injEq] at e; simp only [RV] at r; subst e r; exact ⟨rfl, rfl⟩
  | str b => simp only [scV, Option.some.injEq] at e; simp only [RV] at r; subst e r; exact ⟨rfl, rfl⟩
  | _ => simp only [scV] at e; cases e
theorem scVs_ok : ∀ {xs : List VV} {vs ys : List V}, scVs xs = some vs → RVs K G w H xs ys → ys = vs ∧ vs.all flatV = true
  | [], _, _, e, r => by
    simp only [scVs, Option.some.injEq] at e
    simp only [RVs] at r
    subst e r
    exact ⟨rfl, rfl⟩
  | x :: xs, _, _, e, r => by
    simp only [scVs, Option.bind_eq_some_iff, Option.map_eq_some_iff] at e
    obtain ⟨v, e1, vs, e2, rfl⟩ := e
    simp only [RVs] at r
    obtain ⟨y, ys, rfl, r1, r2⟩ := r
    obtain ⟨rfl, f1⟩ := scV_ok e1 r1
    obtain ⟨rfl, f2⟩ := scVs_ok e2 r2
    exact ⟨rfl, by rw [List.all_cons, f1, f2]; rfl⟩
theorem seqOf_ok {x : VV} {xs : List VV} {y : V} (hk : Hk K g w h H) (e : seqOf h x = some xs) (r : RV K g w H x y) : ∃ p ys, y = .ref p ∧ (SqL K H p ys ∨ SqT K H p ys) ∧ RVs K g w H xs ys := by
  cases x with
  | tup zs => simp only [seqOf, Option.some.injEq] at e; subst e; obtain ⟨p, ys, e, q, r⟩ := r.tup_get; exact ⟨p, ys, e, .inr q, r⟩
  | lst zs => simp only [seqOf, Option.some.injEq] at e; subst e; obtain ⟨p, ys, e, q, r⟩ := r.lst_get; exact ⟨p, ys, e, .inl (SqL.of q), r⟩
  | rol zs => simp only [seqOf, Option.some.injEq] at e; subst e; obtain ⟨p, ys, e, q, r⟩ := r.rol_get; exact ⟨p, ys, e, .inl q, r⟩
  | ktu zs => simp only [seqOf, Option.some.injEq] at e; subst e; obtain ⟨p, ys, e, q, r⟩ := r.ktu_get; exact ⟨p, ys, e, .inr q, r⟩
  | ref n =>
    simp only [seqOf] at e
    split at e
    · rename_i zs q
      simp only [Option.some.injEq] at e
      subst e
      obtain ⟨a, ys, rfl, _, h2, r2⟩ := ref_get hk r q
      exact ⟨a, ys, rfl, .inl (SqL.of h2), r2⟩
    · cases e
  | _ => simp only [seqOf] at e; cases e
end
def inF (neg : Bool) : V2 := fun x y h => match scV x with
  | some a => (match (seqOf h y).bind scVs with
    | some bs => .ok (.bl (if neg then !L2.inV a bs else L2.inV a bs)) h
    | none => .bad)
  | none => .bad
theorem inS {K : PySem.W.Frag} {g : Gx} {neg : Bool} : OpS K g (rIn K neg) (inF neg) := by
  intro w h H σ W Q x y vx vy hk rx ry p
  unfold inF at p
  split at p
  · rename_i a ea
    split at p
    · rename_i bs eb
      obtain ⟨ys, e1, e2⟩ := Option.bind_eq_some_iff.mp eb
      obtain ⟨rfl, fa⟩ := scV_ok ea rx
      obtain ⟨q, zs, rfl, hq, rz⟩ := seqOf_ok hk e1 ry
      obtain ⟨rfl, fb⟩ := scVs_ok e2 rz
      exact ⟨q, zs, rfl, hq, fa, fb, post_bl p hk⟩
    · exact p.elim
  · exact p.elim
section
variable {X : Cx} {g : Gx} {W : WX} {o e : Expr} {mo : ME} {ma : MA} {pos apos p p2 p3 : Pos}
def insU (x : Int) : List Int → List Int
  | [] => [x]
  | y :: ys => if x < y then x :: y :: ys else if x = y then y :: ys else y :: insU x ys
def sortU : List Int → List Int
  | [] => []
  | x :: xs => insU x (sortU xs)
theorem mem_insU (x z : Int) : ∀ l : List Int, z ∈ insU x l ↔ z = x ∨ z ∈ l
  | [] => by simp [insU]
  | y :: ys => by
    unfold insU
    split
    · simp
    · split
      · rename_i e
        subst e
        simp
      · rw [List.mem_cons, mem_insU x z ys, List.mem_cons]
        constructor
        · rintro (h | h | h)
          · exact .inr (.inl h)
          · exact .inl h
          · exact .inr (.inr h)
        · rintro (h | h | h)
          · exact .inr (.inl h)
          · exact .inl h
          · exact .inr (.inr h)
theorem mem_sortU (z : Int) : ∀ l : List Int, z ∈ sortU l ↔ z ∈ l
  | [] => by simp [sortU]
  | x :: xs => by unfold sortU; rw [mem_insU, mem_sortU z xs, List.mem_cons]
theorem insU_sorted (x : Int) : ∀ l : List Int, l.Pairwise (· < ·) → (insU x l).Pairwise (· < ·)
  | [], _ => by simp [insU]
  | y :: ys, h => by
    rw [List.pairwise_cons] at h
    unfold insU
    split
    · rename_i c
      rw [List.pairwise_cons]
      refine ⟨fun z hz => ?_, by rw [List.pairwise_cons]; exact h⟩
      rcases List.mem_cons.mp hz with e | hz
      · rw [e]; exact c
      · exact Int.lt_trans c (h.1 z hz)
    · split
      · rw [List.pairwise_cons]; exact h
      · rename_i c1 c2
        rw [List.pairwise_cons]
        refine ⟨fun z hz => ?_, insU_sorted x ys h.2⟩
        rcases (mem_insU x z ys).mp hz with e | hz
        · rw [e]; omega
        · exact h.1 z hz
theorem sortU_sorted : ∀ l : List Int, (sortU l).Pairwise (· < ·)
  | [] => by simp [sortU]
  | x :: xs => insU_sorted x _ (sortU_sorted xs)
theorem strict_unique : ∀ {l m : List Int}, l.Pairwise (· < ·) → m.Pairwise (· < ·) → (∀ z, z ∈ l ↔ z ∈ m) → l = m
  | [], [], _, _, _ => rfl
  | [], y :: m, _, _, h => absurd ((h y).mpr List.mem_cons_self) (by simp)
  | x :: l, [], _, _, h => absurd ((h x).mp List.mem_cons_self) (by simp)
  | x :: l, y :: m, hl, hm, h => by
    rw [List.pairwise_cons] at hl hm
    have e : x = y := by
      rcases List.mem_cons.mp ((h x).mp List.mem_cons_self) with e | hx
      · exact e
      · rcases List.mem_cons.mp ((h y).mpr List.mem_cons_self) with e | hy
        · exact e.symm
        · have h1 := hm.1 x hx
          have h2 := hl.1 y hy
          omega
    subst e
    rw [strict_unique hl.2 hm.2 fun z => ?_]
    constructor
    · intro hz
      rcases List.mem_cons.mp ((h z).mp (List.mem_cons_of_mem _ hz)) with e | hz'
      · have := hl.1 z hz
        omega
      · exact hz'
    · intro hz
      rcases List.mem_cons.mp ((h z).mpr (List.mem_cons_of_mem _ hz)) with e | hz'
      · have := hm.1 z hz
        omega
      · exact hz'
def rSetI (K : PySem.W.Frag) (w : World) : List V → Hp → VK → Prop := fun xs H Q => ∃ (a : Addr) (ns : List Int), xs = [.ref a] ∧ SqT K H a (ns.map V.int) ∧ ns.length < 63 ∧ ∀ p c, H p = none → c ≤ ns.length → Q (.ref p) (upd H p (SetO w p (fun j => decide (j ∈ ns)) c))
theorem cr_setI (hc : X.calm = true) : CallR X (.type "set") (rSetI X.K X.w) := by
  intro pins s σ H xs us Q I r h
  obtain ⟨a, ns, rfl, ha, hz, q⟩ := h
  obtain ⟨its, rv, ht, hz2⟩ := I.tuple ha
  rw [Vals.ref1 r]
  refine call_set_tupI ns (I.ok.hd hc) (show s.heap.IsTuple a its.toArray from ht) (by simpa using intsAre_of rv) (by unfold scanBound; omega) fun h' tk c R hcl k => ?_
  refine ⟨.ref s.heap.objs.size, _, I.laid (t' := tk) k (Nat.le_refl _) (setO_new R), rfl, q _ c (I.hok.fresh (Nat.le_refl _)) hcl⟩
def sortedSetF : VF := fun xs h => match xs with
  | [.tup ys] => (match allIt ys with | some ns => if ns.length < 63 then .ok (.lst ((sortU ns).map VV.int)) h else .bad | none => .bad)
  | _ => .bad
end
end Mv
set_option Elab.async false
set_option linter.all false
set_option maxRecDepth 100000
namespace Mv
open PySem PySem.Spec PyProof.Rows L2
def keyOf : VV → Option Key
  | .int i => some (.inl i)
  | .str x => some (.inr x)
  | _ => none
def sameK (a b : VV) : Bool := match keyOf a, keyOf b with
  | some x, some y => decide (x = y)
  | _, _ => false
def putL (ks vs : List VV) (k v : VV) : List VV × List VV := if ks.any (fun x => sameK x k) then (ks, List.zipWith (fun x y => if sameK x k then v else y) ks vs) else (ks ++ [k], vs ++ [v])
theorem keyOf_vvK (k : Key) : keyOf (vvK k) = some k := by cases k <;> rfl
theorem of_keyOf {x : VV} {k : Key} (e : keyOf x = some k) : x = vvK k := by
  cases x with
  | int i => simp only [keyOf, Option.some.injEq] at e; subst e; rfl
  | str i => simp only [keyOf, Option.some.injEq] at e; subst e; rfl
  | _ => simp only [keyOf] at e; cases e
theorem sameK_vvK (a b : Key) : sameK (vvK a) (vvK b) = decide (a = b) := by unfold sameK; rw [keyOf_vvK, keyOf_vvK]
section
variable {K : PySem.W.Frag} {G : Gx} {w : Wd} {H : Hp}
theorem RV.of_kV {x : VV} {k : Key} (r : RV K G w H x (kV k)) : x = vvK k := by
  cases k with
  | inl i =>
    cases x with
    | int j => simp only [RV, kV, V.int.injEq] at r; subst r; rfl
    | tup xs => simp only [RV, kV] at r; obtain ⟨_, _, e, _⟩ := r; cases e
    | ktu xs => simp only [RV, kV] at r; obtain ⟨_, _, e, _⟩ := r; cases e
    | ins c xs => simp only [RV, kV] at r; obtain ⟨_, _, e, _⟩ := r; cases e
    | dtt xs ys => simp only [RV, kV] at r; obtain ⟨_, _, e, _⟩ := r; cases e
    | lst xs => simp only [RV, kV] at r; obtain ⟨_, _, e, _⟩ := r; cases e
    | rol xs => simp only [RV, kV] at r; obtain ⟨_, _, e, _⟩ := r; cases e
    | dct xs ys => simp only [RV, kV] at r; obtain ⟨_, _, e, _⟩ := r; cases e
    | ref n => simp only [RV, kV] at r; obtain ⟨_, e, _⟩ := r; cases e
    | _ => simp [RV, kV] at r
  | inr i =>
    cases x with
    | str j => simp only [RV, kV, V.str.injEq] at r; subst r; rfl
    | tup xs => simp only [RV, kV] at r; obtain ⟨_, _, e, _⟩ := r; cases e
    | ktu xs => simp only [RV, kV] at r; obtain ⟨_, _, e, _⟩ := r; cases e
    | ins c xs => simp only [RV, kV] at r; obtain ⟨_, _, e, _⟩ := r; cases e
    | dtt xs ys => simp only [RV, kV] at r; obtain ⟨_, _, e, _⟩ := r; cases e
    | lst xs => simp only [RV, kV] at r; obtain ⟨_, _, e, _⟩ := r; cases e
    | rol xs => simp only [RV, kV] at r; obtain ⟨_, _, e, _⟩ := r; cases e
    | dct xs ys => simp only [RV, kV] at r; obtain ⟨_, _, e, _⟩ := r; cases e
    | ref n => simp only [RV, kV] at r; obtain ⟨_, e, _⟩ := r; cases e
    | _ => simp [RV, kV] at r
theorem RV.to_kV (k : Key) : RV K G w H (vvK k) (kV k) := by cases k <;> simp only [vvK, kV, RV]
theorem RV.key {x : VV} {y : V} {k : Key} (r : RV K G w H x y) (e : keyOf x = some k) : y = kV k := by
  have e2 := of_keyOf e
  subst e2
  cases k <;> simpa only [vvK, kV, RV] using r
theorem RVs.keys : ∀ {ks : List VV} {kvs : List (Key × V)}, RVs K G w H ks (kvs.map fun p => kV p.1) → ks = kvs.map fun p => vvK p.1
  | [], [], _ => rfl
  | [], _ :: _, r => by simp [RVs] at r
  | x :: xs, [], r => by simp [RVs] at r
  | x :: xs, p :: kvs, r => by
    simp only [List.map_cons, RVs] at r
    obtain ⟨y, r2, e, h1, h2⟩ := r
    injection e with e1 e2
    subst e1 e2
    rw [List.map_cons, ← RVs.keys h2, ← RV.of_kV h1]
theorem any_keys (k : Key) : ∀ kvs : List (Key × V), ((kvs.map fun p => vvK p.1).any fun x => sameK x (vvK k)) = kvs.any fun kv => decide (kv.1 = k)
  | [] => rfl
  | p :: kvs => by rw [List.map_cons, List.any_cons, List.any_cons, any_keys k kvs, sameK_vvK]
theorem put_vals {v : VV} {z : V} (k : Key) (rv : RV K G w H v z) : ∀ {vs : List VV} {kvs : List (Key × V)}, RVs K G w H vs (kvs.map fun p => p.2) →
    RVs K G w H (List.zipWith (fun x y => if sameK x (vvK k) then v else y) (kvs.map fun p => vvK p.1) vs) ((kvs.map fun kv => if kv.1 = k then (kv.1, z) else kv).map fun p => p.2)
  | [], [], _ => by simp [RVs]
  | [], _ :: _, r => by simp [RVs] at r
  | x :: xs, [], r => by simp [RVs] at r
  | x :: xs, p :: kvs, r => by
    simp only [List.map_cons, RVs] at r
    obtain ⟨y, r2, e, h1, h2⟩ := r
    injection e with e1 e2
    subst e1 e2
    simp only [List.map_cons, List.zipWith_cons_cons, RVs]
    refine ⟨_, _, rfl, ?_, put_vals k rv h2⟩
    rw [sameK_vvK]
    by_cases c : p.1 = k
    · rw [if_pos c, if_pos (by simpa using c)]
      exact rv
    · rw [if_neg c, if_neg (by simpa using c)]
      exact h1
theorem put_ok {ks vs : List VV} {kvs : List (Key × V)} {x v : VV} {z : V} {k : Key} (rk : RVs K G w H ks (kvs.map fun p => kV p.1)) (rs : RVs K G w H vs (kvs.map fun p => p.2)) (e : keyOf x = some k) (rv : RV K G w H v z) :
    RVs K G w H (putL ks vs x v).1 ((putK kvs k z).map fun p => kV p.1) ∧ RVs K G w H (putL ks vs x v).2 ((putK kvs k z).map fun p => p.2) := by
  have e1 := of_keyOf e
  have e2 := rk.keys
  subst e1 e2
  unfold putL putK
  rw [any_keys]
  by_cases c : (kvs.any fun kv => decide (kv.1 = k)) = true
  · rw [if_pos c, if_pos c]
    refine ⟨?_, put_vals k rv rs⟩
    have e3 : (kvs.map fun kv => if kv.1 = k then (kv.1, z) else kv).map (fun p => kV p.1) = kvs.map fun p => kV p.1 := by
      rw [List.map_map]
      refine List.map_congr_left fun p _ => ?_
      show kV (if p.1 = k then (p.1, z) else p).1 = kV p.1
      split <;> rfl
    rw [e3]
    exact rk
  · rw [if_neg c, if_neg c]
    refine ⟨?_, ?_⟩
    · rw [List.map_append]
      refine rk.app ?_
      simp only [List.map_cons, List.map_nil, RVs]
      exact ⟨_, _, rfl, RV.to_kV k, rfl⟩
    · rw [List.map_append]
      refine rs.app ?_
      simp only [List.map_cons, List.map_nil, RVs]
      exact ⟨_, _, rfl, rv, rfl⟩
end
abbrev KVs := List VV × List VV
section
variable {X : Cx} {g : Gx} {W : WX} {tg iter kx vx : Expr} {ifs : List Expr} {scope : Scope} {pos : Pos} {mi : MI} {mg : MG} {is : List Nat} {mt : MT} {mk mv : ME}
abbrev rSortedDI : List V → Hp → VK → Prop := fun xs H Q => ∃ (a : Addr) (kvs : List (Key × V)) (ks : List Int), xs = [.ref a] ∧ Rd H a (.dK kvs) ∧ kvs.map (·.1) = ks.map Sum.inl ∧ ks.length < 64 ∧
    ∀ (ys : List Int) (p : Addr), ys.Perm ks → ys.Pairwise (· ≤ ·) → H p = none → Q (.ref p) (upd H p (.lst (ys.map V.int)))
theorem keys_inl : ∀ {ns : List Int} {kvs : List (Key × V)}, ns.map VV.int = (kvs.map fun p => vvK p.1) → kvs.map (·.1) = ns.map Sum.inl
  | [], [], _ => rfl
  | [], _ :: _, e => by simp at e
  | _ :: _, [], e => by simp at e
  | n :: ns, p :: kvs, e => by
    simp only [List.map_cons, List.cons.injEq] at e ⊢
    refine ⟨?_, keys_inl e.2⟩
    obtain ⟨k, v⟩ := p
    cases k with
    | inl i =>
      have := e.1
      simp only [vvK, VV.int.injEq] at this
      rw [this]
    | inr s => simp [vvK] at e
end
end Mv
set_option Elab.async false
set_option linter.all false
set_option maxRecDepth 100000
namespace Mv
open PySem PySem.Spec PyProof.Rows L2
section
variable {X : Cx} {g : Gx} {W : WX} {a b : Expr} {ma mb : ME} {pos : Pos} {x : Str}
theorem re_ty (n : BTy) (hg : Gl X x) (hm : X.mg x = none) (hv : bootBuiltins x = some (.type n.name)) (hn : x ≠ "__name__" := by decide) (hd : (x == ("__debug__" : Str)) = false := by decide) : RE X g W (.Name x pos) (cM (.ty n)) :=
  pe_imp (pe_bltn (v := .ty n.name) hg hm hv rfl hn hd) fun σ H Q t => const_imp (fun _ => by simp only [RV]) t
def negM (a : ME) : ME := fun sv h => (a sv h).bind fun x h1 => match x with
  | .int i => .ok (.int (-i)) h1
  | _ => .bad
theorem re_neg (ha : RE X g W a ma) : RE X g W (.UnaryOp .USub a pos) (negM ma) :=
  pe_imp (pe_un un_neg ha) fun σ H Q ⟨w, sv, h, rs, hk, pp⟩ => seqG' rs hk pp fun w1 H1 h1 v y e1 rs1 k1 r1 p1 => by
    split at p1
    · rename_i i
      exact ⟨i, r1.int_eq, post_int p1 k1⟩
    · exact p1.elim
theorem rs_setLc (i : Nat) {y : Str} {py spos : Pos} {tg iter elt : Expr} {ifs : List Expr} {scope : Scope} {mi : MI} {mg : MG} {is : List Nat} {mt : MT} {me : ME} {own : List (Str × Nat)} (hc : X.calm = true) (hN : X.N.Nodup) (hi : RI X g W tg iter mi) (ok : BlkOk X.N X.env.scope scope own) (his : InIs mg is) (hs : ∀ j ∈ is, j ∈ own.map (·.2))
    (hg : ∀ (s : Shared) (H : Hp) (C : Addr) (cl : List (Str × Addr)) (fp : List Addr), RG (X.blk s H scope (compEnvC scope cl C X.env) fp) g tg mg) (ht : ∀ (s : Shared) (H : Hp) (C : Addr) (cl : List (Str × Addr)) (fp : List Addr), RTs (X.blk s H scope (compEnvC scope cl C X.env) fp) g W0 ifs mt)
    (he : ∀ (s : Shared) (H : Hp) (C : Addr) (cl : List (Str × Addr)) (fp : List Addr), RE (X.blk s H scope (compEnvC scope cl C X.env) fp) g W0 elt me) (hy : X.N[i]? = some y := by rfl) (hyl : X.env.scope.names.lookup y = some .local := by rfl) 
    (hsw : swapsWith (.ListComp elt [⟨tg, iter, ifs, 0⟩] scope pos) (some (.Name y py)) spos.line X.env = pure true := by first | exact sw_true rfl rfl rfl rfl | rfl) (hf : ∀ x, foldedSetIterable iter X.env x = pure x := by intro _; rfl) :
    RS X g W (.Assign [.Name y py] (.ListComp elt [⟨tg, iter, ifs, 0⟩] scope pos) spos) (setM i (lcM mi mg (own.map (·.2)) mt me)) :=
  ps_imp (ps_setLc (te := tG X.K g (relV X.K g) me W0) (tt := tG X.K g relB mt W0) (g := tGt X.K g mg) hc hN hy hyl hsw hi ok hg ht he hf) fun D σ H t => by
    obtain ⟨w, sl, h, f, k, p⟩ := t
    refine lc_imp his hs (Q := fun x H1 => gName i x σ H1 D.nx) ?_
    exact seqS f k p fun w1 H1 h1 v y e1 f1 k1 r1 p1 => p1 (w1.drop i) H1 (σ.set i (some y)) drop_ext k1.drop (f1.setv r1)
end
end Mv
set_option Elab.async false
set_option linter.all false
set_option maxRecDepth 100000
namespace Mv
open PySem PySem.Spec PyProof.Rows L2
theorem takes0 {X : Cx} : Takes X W0 := fun u s' ⟨_, _, _, _, _, _, _, _, _, _, _, _, _, _, _, _, w⟩ => w.elim
theorem Room.u64 {k : Nat} {A : Around} (r : Room k A) : A.units + 64 < cLine := by
  have := r.un
  have e : cLine = 1000 ∨ True := .inr trivial
  omega
def OkF (P : Program) (w : World) (K : PySem.W.Frag) (mg : Str → Option Value) (g : Gx) (k : Nat) (f : Addr) (ps : List Str) (mf : MF) : Prop :=
  ∃ fd, (∀ base : Heap, FnOk P w K mg base (L2.CX P w) k f fd ps (spM K g mf)) ∧ Binds K fd ps [] ∧ PySem.W.keepIn K (.ref f) = true ∧ ∀ (s : Shared) (us : List Value), us.length = ps.length → BindsTo s fd ⟨us, []⟩ (ps.zip us)
section
variable {X : Cx} {g : Gx} {W : WX} {e : Expr} {es : List Expr} {ma : MA} {p pos : Pos} {x : Str} {j k : Nat} {f : Addr} {ps : List Str} {mf : MF}
theorem re_callO (F : OkF X.prog X.w X.K X.mg g j f ps mf) (hr : Room k X.A) (hm : X.mg x = some (.ref f)) (tk : Takes X W) (ha : RA X g W (e :: es) ma) (hj : j ≤ k := by omega) (hg : Gl X x := by rfl)
    (hdb : (x == ("__debug__" : Str)) = false := by decide) (he : starEach (e :: es) X.env = (false, eval e X.env) :: starEach es X.env := by rfl) (hpl : (backTo pos (starEach es X.env)).any (·.1) = false := by rfl) :
    RE X g W (.Call (.Name x p) (e :: es) [] pos) (callF mf ma) := by
  obtain ⟨fd, F, B, kp, _⟩ := F
  exact re_call ((F X.base).mono hj) hr hm kp B tk ha hg hdb he hpl
end
theorem walk_mv {l : PySem.W.OpenLaw} {n k : Nat} {q : Program} {loose : List Str} {XP : (Str → Option Value) → Heap → Prop} {YP : World → Heap → Prop} {d : DefRec} {x : Str} {mf : MF} (h1 : l.most = some n) (h2 : n ≤ sizeLine) (h3 : d.params.defaults = []) (h4 : Room k callerA)
    (F : ∀ (w : World) (mg : Str → Option Value) (fa : Addr) (h : Heap), YP w h → h.Ns mainGlobals mg → mg d.name = some (.ref fa) → ∃ (K : PySem.W.Frag) (g : Gx), K.In h ∧ OkF l.prog w K mg g k fa [x] mf)
    (hm : ∀ ns : List Int, ns.length ≤ n → ∃ h, mf [.rol (ns.map VV.int)] [] = .ok (.bl true) h) : PySem.W.WalkO q loose XP YP l.row.toRowW d [] (fun f vs => PySem.call f vs) := by
  refine Att.attach_call h1 h3 fun w s0 s1 mg mb fa o pm cd doc a vs ns G Y e1 e2 e3 e4 e5 e6 e7 e8 => ?_
  obtain ⟨K, g, KX, fd, ok, _, _, hb⟩ := F w mg fa _ Y G.T.g e4
  refine law_call KX G.T.g G.T.b G.T.builtins G.T.nolimit e8 e5 e6 (Nat.le_trans e7 h2) h4 (fun base _ _ => ok base) (fun s u => hb s [u] rfl) (fun H hO hS => ?_) fun H e s' c => ?_
  · obtain ⟨hh, em⟩ := hm ns e7
    have wd : Wd := ⟨[], fun _ => False, [], fun _ => .tup []⟩
    refine ⟨⟨[], fun _ => False, [], fun _ => .tup []⟩, [], [.rol (ns.map VV.int)], ⟨rfl, fun _ _ _ z => by simp at z, fun _ _ z => by simp at z, fun _ _ z => by simp at z, fun _ z => by simp at z, fun _ z => z.elim, fun _ _ _ z => by simp at z, fun b o e => by
      rcases hO b with z | ⟨_, _, z⟩
      · rw [z] at e; cases e
      · rw [z] at e; cases e; trivial⟩, ?_, ?_⟩
    · have nm : ∀ b, ¬ (⟨[], fun _ => False, [], fun _ => .tup []⟩ : Wd).mut b := fun b z => by
        rcases z with z | z | z
        · cases z
        · exact z
        · cases z
      simp only [RVs, RV]
      refine ⟨_, [], rfl, ⟨a, ns.map V.int, rfl, ?_, RVs.of_ints ns⟩, rfl⟩
      rcases hS with hS | hS
      · left
        rcases hS with hS | ⟨o, hS⟩
        · rcases hO a with z | ⟨o, xs, z⟩
          · rw [z] at hS; cases hS
          · rw [z] at hS; cases hS
        · exact ⟨o, hS, nm a⟩
      · exact .inr hS
    · rw [em]
      intro w' H' y ex k' r
      simpa only [relV, RV] using r
  · obtain ⟨_, _, _, _, _, _, _, _, _, _, _, _, z⟩ := c
    exact z
structure Hy (fa : List He.Fa) (fn : List He.DefD) (ex : PySem.W.Frag → Bool) (K : PySem.W.Frag) (mg : Str → Option Value) : Prop where
  c : He.SaysD fa fn K
  x : ex K = true
  h : ∃ h : Heap, K.In h ∧ h.Ns mainGlobals mg
section
variable {fa : List He.Fa} {fn : List He.DefD} {ex : PySem.W.Frag → Bool} {K : PySem.W.Frag} {mg : Str → Option Value} {x : Str}
theorem Hy.glo (y : Hy fa fn ex K mg) (i : Nat) (e : fa[i]? = some (.glo x) := by rfl) : mg x = some (.ref (He.ga K x)) := by
  obtain ⟨h, a, b⟩ := y.h
  exact He.glo_ok a b (y.c.fact i e)
theorem Hy.free (y : Hy fa fn ex K mg) (i : Nat) (e : fa[i]? = some (.free x) := by rfl) : mg x = none := by
  obtain ⟨h, a, b⟩ := y.h
  exact He.free_ok a b (y.c.fact i e)
theorem Hy.int (y : Hy fa fn ex K mg) (i : Nat) {n : Int} (e : fa[i]? = some (.int x n) := by rfl) : ∃ t, mg x = some (.int n t) := by
  obtain ⟨h, a, b⟩ := y.h
  exact He.int_ok a b (y.c.fact i e)
def exL (l : List (PySem.W.Frag → Bool)) (K : PySem.W.Frag) : Bool := l.all fun f => f K
theorem exL_at {l : List (PySem.W.Frag → Bool)} {K : PySem.W.Frag} (h : exL l K = true) (i : Nat) {f : PySem.W.Frag → Bool} (e : l[i]? = some f) : f K = true := List.all_eq_true.mp h f (List.mem_of_getElem? e)
def bltB (K : PySem.W.Frag) (x : Str) (id : String) : Bool := decide (PySem.W.nsIn K mainGlobals x = some (some (.builtin id)))
theorem Hy.blt (y : Hy fa fn ex K mg) {id : String} (e : bltB K x id = true) : mg x = some (.builtin id) := by
  obtain ⟨h, a, b⟩ := y.h
  exact PySem.W.mg_of a b (of_decide_eq_true e)
end
end Mv
set_option Elab.async false
set_option linter.all false
set_option maxRecDepth 100000
namespace Mv
open PySem PySem.Spec PyProof.Rows L2
section
variable {prog : Program} {w : World} {A : Around} {R : Result → Shared → Prop} {s : Shared} {kx vx t0 i0 t1 i1 : Expr} {scope : Scope} {pos : Pos} {it acc : Value} {D : Addr} {env : Env}
end
section
variable {X : Cx}
end
end Mv
set_option Elab.async false
set_option linter.all false
set_option maxRecDepth 100000
namespace Mv
open PySem PySem.Spec PyProof.Rows L2
section
variable {X : Cx} {g : Gx} {W : WX} {mg mg1 : MG} {is is1 : List Nat} {mi mi1 : MI} {mk mv : ME}
structure DAt (K : PySem.W.Frag) (g : Gx) (w1 : Wd) (H1 : Hp) (D : Addr) (w : Wd) (H : Hp) (h : VH) (d : KVs) (n : Nat) : Prop where
  gd : Gd w1 H1 D w H
  hk : Hk K g w h H
  at_ : ∃ kvs : List (Key × V), H D = some (.dK kvs) ∧ RVs K g w H d.1 (kvs.map fun p => kV p.1) ∧ RVs K g w H d.2 (kvs.map fun p => p.2) ∧ kvs.length ≤ n
theorem DAt.ext {K : PySem.W.Frag} {w1 w w' : Wd} {H1 H H' : Hp} {D : Addr} {h h' : VH} {d : KVs} {n : Nat} (a : DAt K g w1 H1 D w H h d n) (e : Ext w H w' H') (k : Hk K g w' h' H') : DAt K g w1 H1 D w' H' h' d n := by
  obtain ⟨kvs, h1, h2, h3, h4⟩ := a.at_
  exact ⟨a.gd.ext e, k, kvs, (e.prot D (.inl (by rw [a.gd.P]; exact .inr rfl))).trans h1, RVs.mono e.sees _ _ h2, RVs.mono e.sees _ _ h3, h4⟩
end
end Mv
set_option Elab.async false
set_option linter.all false
set_option maxRecDepth 100000
namespace Mv
open PySem PySem.Spec PyProof.Rows L2
def insK (x : List Int) : List (List Int) → List (List Int)
  | [] => [x]
  | y :: ys => if HT.lexLt y x then y :: insK x ys else x :: y :: ys
def sortK : List (List Int) → List (List Int)
  | [] => []
  | x :: xs => insK x (sortK xs)
theorem insK_perm (x : List Int) : ∀ l : List (List Int), (insK x l).Perm (x :: l)
  | [] => List.Perm.refl _
  | y :: ys => by
    unfold insK
    split
    · exact ((insK_perm x ys).cons y).trans (List.Perm.swap x y ys)
    · exact List.Perm.refl _
theorem sortK_perm : ∀ l : List (List Int), (sortK l).Perm l
  | [] => List.Perm.refl _
  | x :: xs => (insK_perm x (sortK xs)).trans ((sortK_perm xs).cons x)
abbrev SrtK (l : List (List Int)) : Prop := l.Pairwise fun a b => HT.lexLt b a = false
theorem insK_sorted (x : List Int) : ∀ l : List (List Int), SrtK l → SrtK (insK x l)
  | [], _ => List.pairwise_singleton _ _
  | y :: ys, h => by
    have h2 := List.pairwise_cons.mp h
    unfold insK
    split
    · rename_i c
      refine List.pairwise_cons.mpr ⟨fun z hz => ?_, insK_sorted x ys h2.2⟩
      rcases List.mem_cons.mp ((insK_perm x ys).mem_iff.mp hz) with e | hz
      · rw [e]
        exact NtL.lex_asym _ _ c
      · exact h2.1 z hz
    · rename_i c
      have c' : HT.lexLt y x = false := by simpa using c
      refine List.pairwise_cons.mpr ⟨fun z hz => ?_, h⟩
      rcases List.mem_cons.mp hz with e | hz
      · rw [e]
        exact c'
      · exact NtL.lex_tr _ _ _ c' (h2.1 z hz)
theorem sortK_sorted : ∀ l : List (List Int), SrtK (sortK l)
  | [] => List.Pairwise.nil
  | x :: xs => insK_sorted x _ (sortK_sorted xs)
theorem lex_anti : ∀ {a b : List Int}, HT.lexLt a b = false → HT.lexLt b a = false → a = b
  | [], [], _, _ => rfl
  | [], y :: ys, h, _ => by rw [HT.lexLt_nil_cons] at h; cases h
  | x :: xs, [], _, h => by rw [HT.lexLt_nil_cons] at h; cases h
  | x :: xs, y :: ys, h1, h2 => by
    rw [HT.lexLt_cons] at h1 h2
    by_cases e : x = y
    · rw [if_pos e] at h1
      rw [if_pos e.symm] at h2
      rw [e, lex_anti h1 h2]
    · rw [if_neg e] at h1
      rw [if_neg (Ne.symm e)] at h2
      have a := of_decide_eq_false h1
      have b := of_decide_eq_false h2
      omega
theorem srtK_unique : ∀ {l m : List (List Int)}, l.Perm m → SrtK l → SrtK m → l = m
  | [], m, h, _, _ => (List.Perm.eq_nil h.symm).symm
  | x :: l, [], h, _, _ => absurd h.length_eq (by simp)
  | x :: l, y :: m, h, hl, hm => by
    have hl2 := List.pairwise_cons.mp hl
    have hm2 := List.pairwise_cons.mp hm
    have e : x = y := by
      have h1 : x = y ∨ HT.lexLt x y = false := (List.mem_cons.mp (h.mem_iff.mp List.mem_cons_self)).imp id fun z => hm2.1 x z
      have h2 : y = x ∨ HT.lexLt y x = false := (List.mem_cons.mp (h.mem_iff.mpr List.mem_cons_self)).imp id fun z => hl2.1 y z
      rcases h1 with h1 | h1
      · exact h1
      · rcases h2 with h2 | h2
        · exact h2.symm
        · exact lex_anti h1 h2
    subst e
    rw [srtK_unique h.cons_inv hl2.2 hm2.2]
section
variable {prog : Program} {w : World} {A : Around} {E : Value → Shared → Prop} {s : Shared}
theorem lt_one {v u : Value} {ns ms : List Int} {Q : Bool → Shared → Prop} (hu : A.units < cLine) (hv : TS.TupInts s.heap v ns) (hw : TS.TupInts s.heap u ms) (h : Q (HT.lexLt ns ms) s) : wpAny (model prog w) A (keyLt' oneType' v u) Q E s := by
  obtain ⟨a, xs, rfl, ⟨⟨cl, dd, dt, sl⟩, ho, hc, n, hd⟩, hi⟩ := hv
  obtain ⟨b, ys, rfl, ⟨⟨cl2, dd2, dt2, sl2⟩, ho2, hc2, n2, hd2⟩, hj⟩ := hw
  dsimp only at hc hd hc2 hd2
  subst hc hd hc2 hd2
  rw [keyLt'_oneType, oneLt'_eq]
  simp only [if_true]
  refine wpAny_bind (wpAny_cRoomFor hu ?_)
  refine wpAny_bind (wpAny_callSpecialIfBound?_slot (T := "tuple") ⟨_, ho, rfl⟩ PySem.F.slot_tuple_lt (call_meets PySem.F.slot_tuple_lt ⟨_, ho, rfl⟩ PySem.F.entry_tuple_lt (PySem.F.args_tuple_lt_2 _ _) (HT.tuple_lt_ints a b xs ys n n2 dd dd2 sl sl2 ns ms hi hj) ⟨ho, ho2, ?_⟩))
  exact wpAny_truthy_bool h
theorem lex_walk {Q : Bool → Shared → Prop} {k m : Nat} : ∀ {us ws : List Value} {ns ms : List Int} (i : Nat), IntsAre us ns → IntsAre ws ms → k + ms.length = m + ns.length → Q (HT.lexLt ns ms) s → PySem.W.KatLex prog w A true (decide (k < m)) Q (us.zip ws) i s
  | _, _, _, _, i, .nil, .nil, e, h => by
    refine PySem.W.kat_nil ?_
    rw [HT.lexLt_nil_nil] at h
    have : decide (k < m) = false := decide_eq_false (by simp at e; omega)
    rw [this]
    exact h
  | _, _, _, _, i, .nil, .cons c u hw, e, h => by
    refine PySem.W.kat_nil ?_
    rw [HT.lexLt_nil_cons] at h
    have : decide (k < m) = true := decide_eq_true (by simp at e; omega)
    rw [this]
    exact h
  | _, _, _, _, i, .cons a t hv, .nil, e, h => by
    rw [List.zip_nil_right]
    refine PySem.W.kat_nil ?_
    rw [HT.lexLt_cons_nil] at h
    have : decide (k < m) = false := decide_eq_false (by simp at e; omega)
    rw [this]
    exact h
  | _, _, _, _, i, .cons a t hv, .cons c u hw, e, h => by
    rw [List.zip_cons_cons]
    rw [HT.lexLt_cons] at h
    refine PySem.W.kat_cons (SeqAt.EqAt.int_int a t c u prog w _ _ ?_)
    refine PySem.W.kat_go (fun e1 => ?_) (fun e1 => ?_)
    · have ex : a = c := by simpa using e1
      rw [if_pos ex] at h
      exact PySem.W.kat_yes (lex_walk (i + 1) hv hw (by simp at e; omega) h)
    · have ex : ¬ a = c := by simpa using e1
      rw [if_neg ex] at h
      refine PySem.W.kat_no ?_
      cases i with
      | zero => exact oneLt_int h
      | succ i => exact PySem.W.kat_one _ _ (PyProof.Rows.lt_int h)
theorem lt_tups {v u : Value} {ns ms : List Int} {Q : Bool → Shared → Prop} (hv : TS.TupInts s.heap v ns) (hw : TS.TupInts s.heap u ms) (h : Q (HT.lexLt ns ms) s) : wpAny (model prog w) A (keyLt' (tuples' true) v u) Q E s := by
  obtain ⟨a, xs, rfl, ⟨o, ho, hc, n, hd⟩, hi⟩ := hv
  obtain ⟨b, ys, rfl, ⟨o2, ho2, hc2, n2, hd2⟩, hj⟩ := hw
  refine PySem.W.kat_lt ho hd ho2 hd2 (lex_walk 0 hi hj ?_ h)
  have h1 := hi.length
  have h2 := hj.length
  rw [Array.length_toList] at h1 h2
  omega
end
section
variable {M : Model} {prog : Program} {w : World} {A : Around} {E : Value → Shared → Prop} {s : Shared}
theorem mapM_looks {β : Type} {f : Value → Sem β} {r : Value → β} : ∀ (vs : List Value) {Q : List β → Shared → Prop}, (∀ v ∈ vs, ∀ Q : β → Shared → Prop, Q (r v) s → wpAny M A (f v) Q E s) → Q (vs.map r) s → wpAny M A (vs.mapM f) Q E s
  | [], Q, _, h => by
    rw [List.mapM_nil]
    exact wpAny_pure h
  | v :: vs, Q, hf, h => by
    rw [List.mapM_cons]
    refine wpAny_bind (hf v List.mem_cons_self _ ?_)
    exact wpAny_bind (mapM_looks vs (fun u hu => hf u (List.mem_cons_of_mem _ hu)) (wpAny_pure h))
def fstOf (h : Heap) (v : Value) : Option Value := match v with
  | .ref a => (match h.get? a with
    | some o => (match o.data with
      | .seq xs _ => xs[0]?
      | _ => none)
    | none => none)
  | _ => none
theorem first_tup {v : Value} {ns : List Int} {Q : Option Value → Shared → Prop} (hv : TS.TupInts s.heap v ns) (h : Q (fstOf s.heap v) s) : wpAny M A (firstOfTuple' v) Q E s := by
  obtain ⟨a, xs, rfl, ⟨o, ho, hc, n, hd⟩, hi⟩ := hv
  have e : fstOf s.heap (.ref a) = xs[0]? := by
    unfold fstOf
    simp only [ho, hd]
  rw [e] at h
  rw [PySem.W.kas_first_eq]
  refine wpAny_bind (PySem.W.Looks.here (show PySem.W.Looks M s.heap (typeOf (.ref a)) o.cls from (PySem.W.Looks.ld ho).andThen .now) ?_)
  rw [hc, if_neg (by first | decide | simp)]
  exact wpAny_bind (listItems_at ho hd (wpAny_pure h))
theorem fst_none {v : Value} (hv : TS.TupInts s.heap v []) : fstOf s.heap v = none := by
  obtain ⟨a, xs, rfl, ⟨o, ho, hc, n, hd⟩, hi⟩ := hv
  have hl := hi.length
  unfold fstOf
  simp only [ho, hd]
  have : xs = #[] := by
    apply Array.toList_inj.mp
    exact List.length_eq_zero_iff.mp hl
  subst this
  rfl
theorem kind_empty {v0 : Value} {rest : List Value} {k : Value → List Int} {Q : SortKind → Shared → Prop} (hv : ∀ v ∈ v0 :: rest, TS.TupInts s.heap v (k v)) (h0 : k v0 = []) (h : Q oneType' s) : wpAny M A (keyKind' (v0 :: rest).toArray) Q E s := by
  rw [kat_kind_eq, List.mapM_toArray, map_eq_pure_bind]
  have z : fstOf s.heap v0 = none := by
    have t := hv v0 List.mem_cons_self
    rw [h0] at t
    exact fst_none t
  refine wpAny_bind (wpAny_bind (mapM_looks (r := fstOf s.heap) _ (fun v hm Q' q => first_tup (hv v hm) q) (wpAny_pure ?_)))
  have e1 : ((List.map (fstOf s.heap) (v0 :: rest)).toArray.all fun x => x.isSome) = false := by simp [z]
  rw [if_neg (by rw [e1]; decide)]
  have e2 : (List.map (fstOf s.heap) (v0 :: rest)).toArray[0]? = some none := by simp [z]
  rw [e2, if_neg (by decide)]
  rw [oneTypeOnly'_eq, List.mapM_toArray, map_eq_pure_bind]
  refine wpAny_bind (wpAny_bind (wpAny_bind (mapM_looks (r := fun _ => Value.type "tuple") _ (fun v hm Q' q => ?_) (wpAny_pure ?_))))
  · obtain ⟨a, xs, rfl, ⟨o, ho, hc, n, hd⟩, hi⟩ := hv v hm
    refine PySem.W.Looks.here (show PySem.W.Looks M s.heap (typeOf (.ref a)) (.type "tuple") from ?_) q
    rw [← hc]
    exact (PySem.W.Looks.ld ho).andThen .now
  have e3 : (List.map (fun _ => Value.type "tuple") (v0 :: rest)).toArray[0]? = some (Value.type "tuple") := by simp
  rw [e3]
  have e4 : ((List.map (fun _ => Value.type "tuple") (v0 :: rest)).toArray.all fun x => x == Value.type "tuple") = true := by simp
  simp only [e4, if_true]
  exact wpAny_pure (wpAny_pure h)
theorem kat_of : ∀ {vs : List Value} {k : Value → List Int}, (∀ v ∈ vs, TS.TupInts s.heap v (k v)) → (∀ v ∈ vs, k v ≠ []) → ∃ fs, PySem.W.KatTups s.heap vs fs ∧ fs.length = vs.length ∧ ∀ f ∈ fs, ∃ i t, f = Value.int i t
  | [], k, _, _ => ⟨[], trivial, rfl, fun f hf => by cases hf⟩
  | v :: vs, k, hv, hk => by
    obtain ⟨fs, h1, h2, h3⟩ := kat_of (vs := vs) (fun u hu => hv u (List.mem_cons_of_mem _ hu)) fun u hu => hk u (List.mem_cons_of_mem _ hu)
    obtain ⟨a, xs, rfl, ⟨o, ho, hc, n, hd⟩, hi⟩ := hv v List.mem_cons_self
    have hne := hk _ List.mem_cons_self
    obtain ⟨xl⟩ := xs
    change IntsAre xl _ at hi
    generalize en : k (.ref a) = nn at hi
    rw [en] at hne
    cases hi with
    | nil => exact absurd rfl hne
    | cons x t r =>
      exact ⟨.int x t :: _, PySem.W.KatTups.cons ho hc hd (by simp) h1, by simp [h2], fun f hf => by
        rcases List.mem_cons.mp hf with e | hf
        · exact ⟨x, t, e⟩
        · exact h3 f hf⟩
theorem tups_sortable {a : Addr} {vs : List Value} {k : Value → List Int} (h0 : 0 < vs.length) (hu : A.units < cLine) (hv : ∀ v ∈ vs, TS.TupInts s.heap v (k v)) (hk : (∃ v0 rest, vs = v0 :: rest ∧ k v0 = []) ∨ ∀ v ∈ vs, k v ≠ []) (ha : ∀ o, s.heap.get? a = some o → o.cls ≠ .type "tuple") :
    SrtO.SortableO prog w A s a vs fun v u => HT.lexLt (k v) (k u) := by
  intro h' keep
  have hv' : ∀ v ∈ vs, TS.TupInts h' v (k v) := fun v hm => (hv v hm).keeps fun b o e c => keep b o (fun z => by subst z; exact ha o e c) e
  rcases hk with ⟨v0, rest, rfl, hk⟩ | hk
  · refine ⟨oneType', fun Q E hq => kind_empty (s := { s with heap := h' }) hv' hk hq, fun p q hp hq => ?_⟩
    exact lt_one (s := { s with heap := h' }) (Q := fun r s' => s' = _ ∧ r = HT.lexLt (k p.1) (k q.1)) (E := fun _ _ => False) hu (hv' p.1 hp) (hv' q.1 hq) ⟨rfl, rfl⟩
  · obtain ⟨fs, h1, h2, h3⟩ := kat_of (s := { s with heap := h' }) hv' hk
    refine ⟨tuples' true, fun Q E hq => ?_, fun p q hp hq => ?_⟩
    · refine PySem.W.kat_kind (s := { s with heap := h' }) (T := .type "int") h1 (by omega) (fun f hm => ?_) (by rfl) ?_
      · obtain ⟨x, t, rfl⟩ := h3 f hm
        exact PySem.W.Looks.now
      · have e : (Value.type "int" != Value.type "tuple") = true := by first | decide +kernel | rfl | decide
        rw [e]
        exact hq
    · exact lt_tups (s := { s with heap := h' }) (Q := fun r s' => s' = _ ∧ r = HT.lexLt (k p.1) (k q.1)) (E := fun _ _ => False) (hv' p.1 hp) (hv' q.1 hq) ⟨rfl, rfl⟩
end
end Mv
set_option Elab.async false
set_option linter.all false
set_option maxRecDepth 100000
namespace Mv
open PySem PySem.Spec PyProof.Rows L2
def TupK (K : PySem.W.Frag) (H : Hp) : List V → List (List Int) → Prop
  | [], [] => True
  | x :: xs, n :: ns => (∃ t, x = .ref t ∧ SqT K H t (n.map V.int)) ∧ TupK K H xs ns
  | _, _ => False
def rSortedTL (K : PySem.W.Frag) : List V → Hp → VK → Prop := fun vs H Q => ∃ (a : Addr) (xs : List V) (ks : List (List Int)), vs = [.ref a] ∧ SqL K H a xs ∧ TupK K H xs ks ∧ ((∃ r, ks = [] :: r) ∨ ∀ n ∈ ks, n ≠ []) ∧
  ∀ (ys : List V) (kys : List (List Int)) (p : Addr), ys.length = kys.length → (∀ z ∈ ys.zip kys, z ∈ xs.zip ks) → kys.Perm ks → SrtK kys → H p = none → Q (.ref p) (upd H p (.lst ys))
section
variable {X : Cx}
theorem tupK_vals {pins : List (Addr × Obj)} {σ : L2.St} {H : Hp} {s : Shared} (I : Inv X pins σ H s) : ∀ {xs : List V} {ks : List (List Int)} {its : List Value}, Vals xs its → TupK X.K H xs ks →
    (∀ v ∈ its, TS.TupInts s.heap v (TS.intsOf s.heap v)) ∧ its.map (TS.intsOf s.heap) = ks ∧ xs = its.map backV ∧ ∀ v ∈ its, ∃ t, v = Value.ref t
  | [], [], _, .nil, _ => ⟨fun v hv => (by cases hv), rfl, rfl, fun v hv => (by cases hv)⟩
  | [], _ :: _, _, _, t => t.elim
  | _ :: _, [], _, _, t => t.elim
  | x :: xs, n :: ns, _, .cons ru rv, t => by
    obtain ⟨⟨t, rfl, hq⟩, tk⟩ := t
    cases ru
    obtain ⟨h1, h2, h3, h4⟩ := tupK_vals I rv tk
    obtain ⟨its, ri, ht, hz⟩ := I.tuple hq
    have ti : TS.TupInts s.heap (.ref t) n := ⟨t, its.toArray, rfl, ht, by simpa using intsAre_of ri⟩
    refine ⟨fun v hv => ?_, ?_, ?_, fun v hv => ?_⟩
    · rcases List.mem_cons.mp hv with e | hv
      · subst e
        rw [ti.ints]
        exact ti
      · exact h1 v hv
    · rw [List.map_cons, ti.ints, h2]
    · rw [List.map_cons, ← h3]
      rfl
    · rcases List.mem_cons.mp hv with e | hv
      · exact ⟨t, e⟩
      · exact h4 v hv
theorem cr_sortedTL (hu : X.A.units + 64 < cLine) : CallR X (.builtin "sorted") (rSortedTL X.K) := by
  intro pins s σ H vs us Q I r h
  obtain ⟨a, xs, ks, rfl, hs, tk, hk, q⟩ := h
  obtain ⟨its, rv, hl, hz⟩ := I.list hs
  rw [Vals.ref1 r]
  obtain ⟨h1, h2, h3, h4⟩ := tupK_vals I rv tk
  have hlen : its.length ≤ sizeLine := by rw [← rv.length]; exact hz
  refine SrtO.sorted_ord (NtL.swo_lexL (TS.intsOf s.heap)) hl.isList hlen (fun l2 g b hb kk => ?_) fun out hs hb => ?_
  · refine tups_sortable (A := X.A.in1.in1) (s := { s with heap := g }) (by omega) (show X.A.units + 1 + 1 < cLine by omega) (fun v hv => (h1 v hv).keeps fun c o e _ => (kk c o e).2) ?_ fun o e => ?_
    · rcases hk with ⟨rest, hk⟩ | hk
      · left
        cases its with
        | nil => simp at l2
        | cons v0 rest2 =>
          rw [hk, List.map_cons] at h2
          exact ⟨v0, rest2, rfl, (List.cons.inj h2).1⟩
      · right
        intro v hv
        exact hk _ (by rw [← h2]; exact List.mem_map.mpr ⟨v, hv, rfl⟩)
    · rw [hb] at e
      cases e
      intro c
      exact absurd (Value.type.inj c) (by decide)
  · have hm : ∀ v ∈ out, v ∈ its := fun v hv => hb.perm.mem_iff.mp hv
    have h5 : ∀ v ∈ out, ∃ t, v = Value.ref t := fun v hv => h4 v (hm v hv)
    obtain ⟨n, hn⟩ := sortedAll_at s.heap its out.toArray
    have hd : s.heap.objs.size ≤ s.heap.objs.size + 1 := Nat.le_succ _
    refine ⟨.ref (s.heap.objs.size + 1), upd H (s.heap.objs.size + 1) (.lst (out.map backV)), I.laid (t' := s.toks) (fun b o e => sortedAll_old e) hd ⟨?_, out, n, vals_back h5, hn⟩, rfl, q (out.map backV) (out.map (TS.intsOf s.heap)) _ (by simp) ?_ ?_ ?_ (I.hok.fresh hd)⟩
    · rw [List.length_map, hb.perm.length_eq]
      exact hlen
    · intro z hz
      rw [List.zip_map'] at hz
      obtain ⟨v, hv, e⟩ := List.mem_map.mp hz
      rw [h3, ← h2, List.zip_map']
      exact List.mem_map.mpr ⟨v, hm v hv, e⟩
    · rw [← h2]
      exact hb.perm.map _
    · exact List.pairwise_map.mpr hs
end
def tupV (ns : List Int) : VV := .tup (ns.map VV.int)
def tupKs : List VV → Option (List (List Int))
  | [] => some []
  | .tup xs :: r => (allIt xs).bind fun n => (tupKs r).map fun ns => n :: ns
  | _ :: _ => none
def okK : List (List Int) → Bool
  | [] :: _ => true
  | l => l.all fun n => !n.isEmpty
def sortedLF : VF := fun xs h => match xs with
  | [.lst ys] => (match allIt ys with
    | some ns => .ok (.lst ((sortI ns).map VV.int)) h
    | none => (match tupKs ys with
      | some ks => if okK ks then .ok (.lst ((sortK ks).map tupV)) h else .bad
      | none => .bad))
  | _ => .bad
abbrev rSortedL (K : PySem.W.Frag) : List V → Hp → VK → Prop := fun vs H Q => rSortedI K vs H Q ∨ rSortedTL K vs H Q
theorem cr_sortedL {X : Cx} (hu : X.A.units + 64 < cLine) : CallR X (.builtin "sorted") (rSortedL X.K) := cr_sortedI.or (cr_sortedTL hu)
section
variable {K : PySem.W.Frag} {g : Gx} {w : Wd} {H : Hp} {h : VH} {G : Gx}
theorem tupKs_rel : ∀ {ys : List VV} {ks : List (List Int)} {xs : List V}, tupKs ys = some ks → RVs K G w H ys xs → TupK K H xs ks ∧ ∀ z ∈ xs.zip ks, RV K G w H (tupV z.2) z.1
  | [], _, _, e, r => by
    simp only [tupKs, Option.some.injEq] at e
    simp only [RVs] at r
    subst e r
    exact ⟨trivial, fun z hz => by simp at hz⟩
  | y :: ys, ks, xs, e, r => by
    cases y with
    | tup zs =>
      simp only [tupKs, Option.bind_eq_some_iff, Option.map_eq_some_iff] at e
      obtain ⟨n, e1, ns, e2, rfl⟩ := e
      simp only [RVs] at r
      obtain ⟨x, xs, rfl, r1, r2⟩ := r
      obtain ⟨t1, t2⟩ := tupKs_rel e2 r2
      have e3 := allIt_ok e1
      subst e3
      obtain ⟨a, us, rfl, hq, hr⟩ := RV.tup_get r1
      rw [hr.ints] at hq
      refine ⟨⟨⟨a, rfl, hq⟩, t1⟩, fun z hz => ?_⟩
      rw [List.zip_cons_cons] at hz
      rcases List.mem_cons.mp hz with e | hz
      · rw [e]
        exact r1
      · exact t2 z hz
    | _ => simp [tupKs] at e
theorem okK_ok {ks : List (List Int)} (h : okK ks = true) : (∃ r, ks = [] :: r) ∨ ∀ n ∈ ks, n ≠ [] := by
  unfold okK at h
  split at h
  · exact .inl ⟨_, rfl⟩
  · right
    intro n hn
    have := List.all_eq_true.mp h n hn
    intro z
    subst z
    simp at this
theorem rvs_keys : ∀ {ys : List V} {kys : List (List Int)}, ys.length = kys.length → (∀ z ∈ ys.zip kys, RV K G w H (tupV z.2) z.1) → RVs K G w H (kys.map tupV) ys
  | [], [], _, _ => by simp [RVs]
  | [], _ :: _, e, _ => by simp at e
  | _ :: _, [], e, _ => by simp at e
  | y :: ys, k :: kys, e, h => by
    simp only [List.map_cons, RVs]
    exact ⟨y, ys, rfl, h (y, k) (by simp), rvs_keys (by simpa using e) fun z hz => h z (by rw [List.zip_cons_cons]; exact List.mem_cons_of_mem _ hz)⟩
theorem sortedLS : CallS K g (rSortedL K) sortedLF := by
  intro w h H σ W Q xs vs hk r p
  unfold sortedLF at p
  split at p
  · rename_i ys
    split at p
    · rename_i ns e
      refine .inl (sortedS w h H σ W Q _ vs hk r ?_)
      unfold sortedF
      simp only [e]
      exact p
    · split at p
      · rename_i ks e
        split at p
        · rename_i ok
          obtain ⟨y, rfl, r1⟩ := RVs.one r
          obtain ⟨a, us, rfl, ha, r2⟩ := RV.lst_get r1
          obtain ⟨t1, t2⟩ := tupKs_rel e r2
          refine .inr ⟨a, us, ks, rfl, SqL.of ha, t1, okK_ok ok, fun zs kzs q hl hz hp hs hq => ?_⟩
          have e2 : kzs = sortK ks := srtK_unique (hp.trans (sortK_perm ks).symm) hs (sortK_sorted ks)
          subst e2
          exact post_newl p hk (rvs_keys hl fun z hzz => t2 z (hz z hzz)) hq
        · exact p.elim
      · exact p.elim
  · exact p.elim
end
end Mv
set_option Elab.async false
set_option linter.all false
set_option maxRecDepth 100000
namespace Mv
open PySem PySem.Spec PyProof.Rows L2
section
variable {prog : Program} {w : World} {A : Around} {E : Value → Shared → Prop} {s : Shared}
end
section
variable {X : Cx}
end
section
variable {X : Cx} {g : Gx} {W : WX} {e : Expr} {me : ME}
def pairsGo : List (ME × ME) → Sv → VH → Out (List (VV × VV))
  | [], _, h => .ok [] h
  | (a, b) :: r, sv, h => (a sv h).nox.bind fun x h1 => (b sv h1).nox.bind fun y h2 => (pairsGo r sv h2).bind fun ps h3 => .ok ((x, y) :: ps) h3
def relPs (K : PySem.W.Frag) (g : Gx) (w : Wd) (H : Hp) : List (VV × VV) → List (V × V) → Prop
  | [], ys => ys = []
  | x :: xs, ys => ∃ y r, ys = y :: r ∧ RV K g w H x.1 y.1 ∧ RV K g w H x.2 y.2 ∧ relPs K g w H xs r
abbrev trsOf (X : Cx) (g : Gx) (W : WX) (l : List (ME × ME)) : List (TE × TE) := l.map fun q => (tG X.K g (relV X.K g) q.1 W, tG X.K g (relV X.K g) q.2 W)
theorem pairs_imp {w0 : Wd} {H0 : Hp} {σ0 : L2.St} {Q : VK} : ∀ (l : List (ME × ME)) {w : Wd} {H : Hp} {sv : Sv} {h : VH} {σ : L2.St} {k : List (VV × VV) → VH → Out VV} {T : List (V × V) → Hp → Prop}, RSl X.K g w H sv σ → Hk X.K g w h H →
    Post X.K g (relV X.K g) w0 H0 σ0 Q W ((pairsGo l sv h).bind k) → (∀ w1 H1 h1 ps psV, Ext w H w1 H1 → Hk X.K g w1 h1 H1 → relPs X.K g w1 H1 ps psV → Post X.K g (relV X.K g) w0 H0 σ0 Q W (k ps h1) → T psV H1) → tPairs (trsOf X g W l) σ H T
  | [], w, H, sv, h, σ, k, T, rs, hk, p, i => i w H h [] [] (Ext.refl _ _) hk rfl p
  | (a, b) :: r, w, H, sv, h, σ, k, T, rs, hk, p, i => by
    simp only [pairsGo] at p
    rw [Out.bind_assoc] at p
    refine ⟨w, sv, h, rs, hk, ?_⟩
    show Post _ _ _ _ _ _ _ _ (a sv h)
    cases ea : a sv h with
    | bad => rw [ea] at p; exact p.elim
    | exc x h1 => rw [ea] at p; exact p.elim
    | ok x h1 =>
      rw [ea] at p
      simp only [Out.nox, Out.bind] at p
      intro w1 H1 vx e1 k1 rx
      refine ⟨w1, sv, h1, rs.mono _ _ e1.sees, k1, ?_⟩
      show Post _ _ _ _ _ _ _ _ (b sv h1)
      cases eb : b sv h1 with
      | bad => rw [eb] at p; exact p.elim
      | exc y h2 => rw [eb] at p; exact p.elim
      | ok y h2 =>
        rw [eb] at p
        simp only [Out.nox, Out.bind] at p
        intro w2 H2 vy e2 k2 ry
        refine pairs_imp (w0 := w0) (H0 := H0) (σ0 := σ0) (Q := Q) r (k := fun ps h3 => k ((x, y) :: ps) h3) ((rs.mono _ _ e1.sees).mono _ _ e2.sees) k2 ?_ fun w3 H3 h3 ps psV e3 k3 r3 p3 => ?_
        · cases er : pairsGo r sv h2 with
          | bad => rw [er] at p; exact p
          | exc z h3 => rw [er] at p; exact p
          | ok z h3 => rw [er] at p; exact p
        · refine i w3 H3 h3 ((x, y) :: ps) ((vx, vy) :: psV) ((e1.trans e2).trans e3) k3 ?_ p3
          exact ⟨_, _, rfl, RV.mono (e2.sees.trans e3.sees) _ _ rx, RV.mono e3.sees _ _ ry, r3⟩
theorem relPs_len {K : PySem.W.Frag} {w : Wd} {H : Hp} : ∀ {ps : List (VV × VV)} {psV : List (V × V)}, relPs K g w H ps psV → ps.length = psV.length
  | [], _, r => by simp only [relPs] at r; rw [r]; rfl
  | x :: xs, _, r => by
    simp only [relPs] at r
    obtain ⟨_, _, rfl, _, _, r⟩ := r
    simp [relPs_len r]
abbrev RPs (X : Cx) (g : Gx) (W : WX) (pos : Pos) (ks : List (Option Expr)) (vs : List Expr) (l : List (ME × ME)) : Prop := PPs X pos ks vs (trsOf X g W l)
theorem rp_nil {pos : Pos} : RPs X g W pos [] [] [] := pps_nil
theorem rp_cons {pos : Pos} {k v : Expr} {ks : List (Option Expr)} {vs : List Expr} {mk mv : ME} {l : List (ME × ME)} (hk : RE X g W k mk) (hv : RE X g W v mv) (hr : RPs X g W pos ks vs l) : RPs X g W pos (some k :: ks) (v :: vs) ((mk, mv) :: l) := pps_cons hk hv hr
end
end Mv
set_option Elab.async false
set_option linter.all false
set_option maxRecDepth 100000
namespace Mv
open PySem PySem.Spec PyProof.Rows L2
section
variable {X : Cx} {g : Gx} {W : WX}
def raiseM (c : Nat) : MS := fun sl h => .exc ⟨c, none⟩ sl h
structure ErrC (K : PySem.W.Frag) (C : Addr) : Prop where
  ex : PySem.W.excIn K C He.veBase "ValueError.__new__" = true
  kp : PySem.W.keepIn K (.ref C) = true
  sb : PySem.W.subIn K (.ref C) (.type "BaseException") = some true
  ty : PySem.W.typeIn K (.ref C) = some (.type "type")
theorem rs_raise {c j : Nat} {x m : Str} {p p2 pos pos2 : Pos} (hc : X.calm = true) (tk : Takes X W) (E : ErrC X.K (g.adr c)) (gC : X.mg x = some (.ref (g.adr c))) (hg : Gl X x := by rfl)
    (hdb : (x == ("__debug__" : Str)) = false := by decide) : RS X g W (.Raise (some (.Call (.Name x p) [.Constant (.str m) j p2] [] pos)) none pos2) (raiseM c) :=
  ps_imp (ps_raise hc tk (pmk_own PySem.F.excBase_ValueError E.ex gC E.kp (raises_own E.sb E.ty) hg hdb)) fun D σ H ⟨w, sl, h, f, k, pp⟩ => pp w H σ _ none (ExtS.refl _ _) k f ⟨rfl, trivial⟩
end
def endsN (i : Nat) (D : Ends) : Ends := { nx := fun u G => D.nx (u.set i none) G, rt := D.rt, bk := fun u G => D.bk (u.set i none) G, ct := fun u G => D.ct (u.set i none) G }
abbrev Cls : Type := Value × (Addr → Value → Option Addr → TS)
inductive HdM (X : Cx) : List ExceptHandler → List Cls → Prop
  | nil : HdM X [] []
  | plain {x : Str} {c : Value} {t : Addr → Value → Option Addr → TS} {b : Stmt} {bs : List Stmt} {p1 p2 : Pos} {r : List ExceptHandler} {l : List Cls} (n : Names X x c)
      (su : ∀ (a : Addr) (oe : Obj) (cls : Value) (d : Option Addr) (pn : List (Addr × Obj)), Zc cls d oe → (∃ fs, oe.data = .fields fs) → PSs (X.suite a ((a, oe) :: pn)) (b :: bs) (t a cls d)) (more : HdM X r l) :
      HdM X (.ExceptHandler (some (.Name x p1)) none (b :: bs) p2 :: r) ((c, t) :: l)
  | named {x y : Str} {i : Nat} {c : Value} {t : Addr → Value → Option Addr → TS} {b : Stmt} {bs : List Stmt} {p1 p2 : Pos} {r : List ExceptHandler} {l : List Cls} (n : Names X x c) (hi : X.N[i]? = some y) (hl : X.env.kindOf y = some .local)
      (su : ∀ (a : Addr) (oe : Obj) (cls : Value) (d : Option Addr) (pn : List (Addr × Obj)), Zc cls d oe → (∃ fs, oe.data = .fields fs) → PSs (X.suite a ((a, oe) :: pn)) (b :: bs) (t a cls d)) (more : HdM X r l) :
      HdM X (.ExceptHandler (some (.Name x p1)) (some y) (b :: bs) p2 :: r) ((c, fun a cls d D σ H => t a cls d (endsN i D) (σ.set i (some (.ref a))) H) :: l)
section
variable {X : Cx} {body : List Stmt} {h0 : ExceptHandler} {hs : List ExceptHandler} {l : List Cls} {pos : Pos} {tb : WX → TS} {Wo : WX}
end
end Mv
set_option Elab.async false
set_option linter.all false
set_option maxRecDepth 100000
namespace Mv
open PySem PySem.Spec PyProof.Rows L2
abbrev HR := Value → Option Addr → Hp → VK → Prop
def hw (K : PySem.W.Frag) : List (Value × HR) → VK → XK
  | [], _ => fun _ _ _ => False
  | (c, r) :: l, Q => fun cls d H => ∃ b, PySem.W.exmOne K cls c = some b ∧ (b = true → r cls d H Q) ∧ (b = false → hw K l Q cls d H)
inductive HdR (X : Cx) : List ExceptHandler → List (Value × HR) → Prop
  | nil : HdR X [] []
  | plain {x : Str} {c : Value} {r : HR} {e : Expr} {p1 p2 p3 : Pos} {hs : List ExceptHandler} {l : List (Value × HR)} (n : Names X x c)
      (su : ∀ (a : Addr) (oe : Obj) (cls : Value) (d : Option Addr) (pn : List (Addr × Obj)), Zc cls d oe → (∃ fs, oe.data = .fields fs) → PE (X.suite a ((a, oe) :: pn)) e (fun _ H Q => r cls d H Q)) (more : HdR X hs l) :
      HdR X (.ExceptHandler (some (.Name x p1)) none [.Return (some e) p3] p2 :: hs) ((c, r) :: l)
  | named {x y : Str} {i : Nat} {c : Value} {r : HR} {e : Expr} {p1 p2 p3 : Pos} {hs : List ExceptHandler} {l : List (Value × HR)} (n : Names X x c) (hi : X.N[i]? = some y) (hl : X.env.kindOf y = some .local)
      (su : ∀ (a : Addr) (oe : Obj) (cls : Value) (d : Option Addr) (pn : List (Addr × Obj)), Zc cls d oe → (∃ fs, oe.data = .fields fs) → PE (X.suite a ((a, oe) :: pn)) e (fun σ H Q => σ[i]? = some (some (.ref a)) ∧ r cls d H Q)) (more : HdR X hs l) :
      HdR X (.ExceptHandler (some (.Name x p1)) (some y) [.Return (some e) p3] p2 :: hs) ((c, r) :: l)
section
variable {K : PySem.W.Frag} {g : Gx} {w : Wd} {H H1 : Hp} {h : VH} {ts : List (Nat × Str)}
def LamN (P : Addr) (H H1 : Hp) : Prop := ∀ a, a ≠ P → H1 a = H a ∨ (H a = none ∧ ∃ q, H1 a = some (LamX.CodeO a q))
theorem LamN.refl (P : Addr) (H : Hp) : LamN P H H := fun _ _ => .inl rfl
end
section
variable {X : Cx} {pins : List (Addr × Obj)} {σ : L2.St} {H : Hp} {s : Shared}
end
end Mv
set_option Elab.async false
set_option linter.all false
set_option maxRecDepth 100000
namespace Mv
open PySem PySem.Spec PyProof.Rows L2
def rRepr (K : PySem.W.Frag) : List V → Hp → VK → Prop := fun xs H Q => ∃ v d, xs = [v] ∧ Dp K H v d ∧ d.showable = true ∧ d.hasDict = false ∧ d.depth ≤ 40 ∧ d.shown.length ≤ sizeLine ∧ Q (.str d.shown) H
section
variable {X : Cx} {g : Gx} {W : WX} {e : Expr} {es : List Expr} {ma : MA} {p pos : Pos}
end
end Mv
set_option Elab.async false
set_option linter.all false
set_option maxRecDepth 100000
namespace Mv
open PySem PySem.Spec PyProof.Rows L2
inductive HK where
  | txt (s : Str) | rep (pre : Str) | nil | pair (m s : Str) | pairRep (m pre : Str)
def HK.val : HK → Option VV
  | .txt s => some (.str s)
  | .nil => some .non
  | .pair m s => some (.tup [.str m, .str s])
  | _ => none
def HK.fd : HK → Hp → VK → Prop
  | .txt s => fun G Q => Q (.str s) G
  | .nil => fun G Q => Q .non G
  | .pair m s => fun G Q => ∀ a, G a = none → Q (.ref a) (upd G a (.tup [.str m, .str s]))
  | _ => fun _ _ => False
def HK.rd (K : PySem.W.Frag) (C : Addr) (f : Str) : HK → HR
  | .txt s => fun _ _ H Q => Q (.str s) H
  | .rep pre => fun cls d H Q => cls = .ref C ∧ ∃ (dd : Addr) (fs : List (Str × V)) (v : V), d = some dd ∧ H dd = some (.xd fs) ∧ fs.lookup f = some v ∧ rRepr K [v] H fun y H1 => ∃ t, y = .str t ∧ pre.length + t.length ≤ sizeLine ∧ Q (.str (pre ++ t)) H1
  | .nil => fun _ _ H Q => Q .non H
  | .pair m s => fun _ _ H Q => ∀ a, H a = none → Q (.ref a) (upd H a (.tup [.str m, .str s]))
  | .pairRep m pre => fun cls d H Q => cls = .ref C ∧ ∃ (dd : Addr) (fs : List (Str × V)) (v : V), d = some dd ∧ H dd = some (.xd fs) ∧ fs.lookup f = some v ∧ rRepr K [v] H fun y H1 => ∃ t, y = .str t ∧ pre.length + t.length ≤ sizeLine ∧ ∀ a, H1 a = none → Q (.ref a) (upd H1 a (.tup [.str m, .str (pre ++ t)]))
section
variable {Y : Cx} {K : PySem.W.Frag} {C a : Addr} {oe : Obj} {cls : Value} {d : Option Addr} {pn : List (Addr × Obj)} {f s pre y : Str} {i j : Nat} {p p1 p2 p3 p4 p5 p6 : Pos}
end
section
variable {X : Cx} {s m : Str} {j j2 k : Nat} {p p1 p2 : Pos}
end
section
variable {X : Cx} {g : Gx} {W : WX}
end
end Mv
set_option Elab.async false
set_option linter.all false
set_option maxRecDepth 100000
namespace Mv
open PySem PySem.Spec PyProof.Rows L2
structure FnG (P : Program) (w : World) (K : PySem.W.Frag) (mg : Str → Option Value) (base : Heap) (k : Nat) (f : Addr) (fd : FuncData) (ps : List Str) (sp : Sp) : Prop where
  len : ∀ vs H Q E, sp vs H Q E → vs.length = ps.length
  run : ∀ (A : Around) (outer : List Env) (s : Shared) (H : Hp) (args : Args) (us : List Value) (vs : List V) (Q : VK) (E : XK), A.guards = some [] → Room k A → Env0 P w K mg base A outer s H → BindsTo s fd args (ps.zip us) → Vals vs us → sp vs H Q E →
    codeAny (model P w) A (.call (.ref f) args) (CR (L2.CX P w) outer P w H s Q E) s
theorem FnG.mono {P : Program} {w : World} {K : PySem.W.Frag} {mg : Str → Option Value} {base : Heap} {j k : Nat} {f : Addr} {fd : FuncData} {ps : List Str} {sp : Sp} (F : FnG P w K mg base j f fd ps sp) (h : j ≤ k) : FnG P w K mg base k f fd ps sp :=
  ⟨F.len, fun A outer s H args us vs Q E hg hr => F.run A outer s H args us vs Q E hg (hr.mono h)⟩
section
variable {X : Cx} {g : Gx} {W : WX} {e : Expr} {es : List Expr} {t : TA} {ma : MA} {p pos : Pos} {x : Str} {i j k : Nat} {f : Addr} {fd : FuncData} {ps : List Str} {sp : Sp} {mf : MF} {TB : Heap → Prop}
end
end Mv
set_option Elab.async false
set_option linter.all false
set_option maxRecDepth 100000
namespace Mv
open PySem PySem.W PySem.Calls PySem.Spec PyProof.Rows
def iArg (f : Str) (p1 p2 : Pos) : Arguments := { posonlyargs := [], args := [{ arg := "self", annotation := none, pos := p1 }, { arg := f, annotation := none, pos := p2 }], vararg := none, kwonlyargs := [], kw_defaults := [], kwarg := none, defaults := [] }
def iBody (f : Str) (q : Nat → Pos) : List Stmt := [.Expr (.Call (.Attribute (.Call (.Name "super" (q 0)) [] [] (q 1)) "__init__" (q 2)) [.Name f (q 3)] [] (q 4)) (q 5), .Assign [.Attribute (.Name "self" (q 6)) f (q 7)] (.Name f (q 8)) (q 9)]
def iSc (f : Str) : Scope := { kind := .function, names := [("self", .local), (f, .local), ("__class__", .free), ("super", .globalImplicit)], isGenerator := false, isCoroutine := false, more := [] }
structure FldOk (f : Str) : Prop where
  ne : f ≠ "self"
  own : (iSc f).names.lookup f = some .local
  sup : (iSc f).names.lookup ("super" : Str) = some .globalImplicit
  cls : (iSc f).names.lookup ("__class__" : Str) = some .free
  dbg : (f == ("__debug__" : Str)) = false
structure NumX (prog : Program) (K : Frag) (C : Addr) (f : Str) (q : Nat → Pos) : Prop where
  fI : ∃ fA cc cda : Addr, ∃ (oc : Value) (od : Option Addr) (doc pm : Value) (an : Option Addr) (ct : Value) (osl : Array (Option Value)) (qual : Str) (p1 p2 : Pos),
    K.lookup fA = some ⟨oc, od, .func (ksFn "__init__" qual (iArg f p1 p2) (iBody f q) (iSc f) .none .none doc pm an (.ref cda) ct cc), osl⟩ ∧ codeIn K (.ref cda) qual = true ∧ findIn K (.ref C) "__init__" = some (some (.ref fA)) ∧ typeIn K (.ref fA) = some (.type "function") ∧
    (∃ ol odl oll, K.lookup cc = some ⟨ol, odl, .cell (some (.ref C)), oll⟩) ∧ ∃ (vs : Array Value) (file : Str) (tf : Tok) (ccl : Value) (cdd : Option Addr) (ccs : Array (Option Value)), K.lookup cda = some ⟨ccl, cdd, .fields vs, ccs⟩ ∧ vs[2]? = some (.str file tf) ∧ ((prog.main.file : Str) == file) = true
  xi : excInitIn K C PySem.HandSPX.veTail "ValueError.__new__" = true
  cd : ∃ cd, clsIn K C = some cd ∧ PySem.HandSPX.refsVE cd.mro = true ∧ cd.hasDict = true
  sa : findIn K (.ref C) "__setattr__" = some (some (.builtin "object.__setattr__"))
  no : findIn K (.ref C) f = some none
  sp : ks_superIn K C C "__init__" = some (some (.builtin "ValueError.__init__"))
  sv : subIn K (.ref C) (.type "ValueError") = some true
  sc : mroIn K C (.ref C) = some true
  tp : nsIn K cStatics "thirdparty.any" = some none
  kp : keepIn K (.ref C) = true
  sb : subIn K (.ref C) (.type "BaseException") = some true
  ty : typeIn K (.ref C) = some (.type "type")
structure NumMade (h h' : Heap) (e C d : Addr) (f : Str) (v : Value) : Prop where
  keep : ∀ b o, h.get? b = some o → h'.get? b = some o
  new : h.objs.size ≤ e
  obj : ∃ oe vs, h'.get? e = some oe ∧ oe.cls = .ref C ∧ oe.dict = some d ∧ oe.data = .fields vs ∧ vs[1]? = some .none
  dbig : h.objs.size ≤ d
  dne : d ≠ e
  ns : h'.Ns1 d (fun y => if y = f then some v else none)
section
variable {prog : Program} {w : World} {A : Around} {R : Result → Shared → Prop} {s : Shared} {K : Frag} {mg mb : Str → Option Value} {C : Addr} {f : Str}
end
end Mv
set_option Elab.async false
set_option linter.all false
set_option maxRecDepth 100000
namespace Mv
open PySem PySem.W PySem.Calls PySem.Spec PyProof.Rows
section
variable {prog : Program} {w : World} {A : Around} {R : Result → Shared → Prop} {s : Shared} {K : Frag} {mg mb : Str → Option Value} {C : Addr} {f : Str} {q : Nat → Pos} {pl : Sem Bool}
end
end Mv
namespace Mv
open PySem PySem.Spec PyProof.Rows L2
section
variable {X : Cx} {C : Addr} {f : Str} {q : Nat → Pos} {pl : Sem Bool}
end
section
variable {X : Cx} {g : Gx} {W : WX} {q : Nat → Pos}
end
end Mv
set_option Elab.async false
set_option linter.all false
set_option maxRecDepth 100000
namespace Mv
open PySem PySem.W PySem.Spec PyProof.Rows L2
structure PgOk (P : Program) (file : Str) : Prop where
  file : ((P.main.file : Str) == file) = true
  sup : (P.main.scope.names.lookup ("super" : Str)).isSome = false
theorem errC_ok {K : Frag} {x : Str} (c : (He.Fa.exc x).ok K = true) : ErrC K (He.ga K x) := by
  obtain ⟨a, b, d, e⟩ := He.exc_ok c
  exact ⟨a, b, d, e⟩
section
variable {fa : List He.Fa} {fn : List He.DefD} {ex : Frag → Bool} {K : Frag} {mg : Str → Option Value}
theorem Hy.err (y : Hy fa fn ex K mg) (i : Nat) {x : Str} (e : fa[i]? = some (.exc x) := by rfl) : ErrC K (He.ga K x) := errC_ok (y.c.fact i e)
end
end Mv
set_option Elab.async false
set_option linter.all false
set_option maxRecDepth 100000
namespace Mv
open PySem PySem.Spec PyProof.Rows L2
abbrev tabO : Obj := { cls := .none, data := .fields #[] }
def H0 (ts : List Addr) (a : Addr) (o : Option HO) : Hp := fun b => if b ∈ ts then some (.tbl #[]) else if b = a then o else none
section
variable {P : Program} {w : World} {K : PySem.W.Frag} {mg mb : Str → Option Value} {k : Nat} {fa a : Addr} {cs : List (Addr × Addr)} {fd : FuncData} {x : Str} {sp : Sp} {s : Shared} {us : List Value} {ns : List Int}
end
end Mv
set_option Elab.async false
set_option linter.all false
set_option maxRecDepth 100000
namespace Mv
open PySem PySem.Spec PyProof.Rows L2
def hT (ts : List (Nat × Str)) : VH := ts.map fun t => .tbl t.1 t.2
end Mv
set_option Elab.async false
set_option linter.all false
set_option maxRecDepth 100000
namespace Mv
open PySem PySem.Spec PyProof.Rows L2
section
variable {X : Cx} {g : Gx} {W : WX} {e : Expr} {me : ME} {i j l : Nat} {x y z : Str} {px py pz p1 p2 pt pt2 pos : Pos} {kt k2 : Nat}
end
section
variable {X : Cx} {g : Gx} {W : WX} {e : Expr} {me : ME} {i j l : Nat} {x y z : Str} {px py pz p1 p2 pt pt2 pos : Pos} {kt k2 : Nat}
end
end Mv
set_option Elab.async false
set_option linter.all false
set_option maxRecDepth 100000
namespace Mv
open PySem PySem.W PySem.Spec PyProof.Rows L2
end Mv
set_option Elab.async false
set_option linter.all false
set_option maxRecDepth 100000
namespace Mv
open PySem PySem.Spec PyProof.Rows L2
section
variable {X : Cx} {g : Gx} {W : WX} {pos : Pos}
end
def nilB (K : PySem.W.Frag) (x : Str) : Bool := match PySem.W.nsIn K mainGlobals x with
  | some (some (.ref a)) => (match K.lookup a with
    | some ⟨.type c, none, .seq its _, _⟩ => decide (c = "tuple") && its.isEmpty
    | _ => false)
  | _ => false
section
variable {fa : List He.Fa} {fn : List He.DefD} {ex : PySem.W.Frag → Bool} {K : PySem.W.Frag} {mg : Str → Option Value} {x : Str}
theorem Hy.str (y : Hy fa fn ex K mg) (i : Nat) {z : Str} (e : fa[i]? = some (.str x z) := by rfl) : ∃ t, mg x = some (.str z t) := by
  obtain ⟨h, a, b⟩ := y.h
  exact He.str_ok a b (y.c.fact i e)
theorem Hy.nil (y : Hy fa fn ex K mg) (e : nilB K x = true) : ∃ a, mg x = some (.ref a) ∧ KTup K a [] := by
  obtain ⟨h, c1, c2⟩ := y.h
  unfold nilB at e
  split at e
  · rename_i a ea
    split at e
    · rename_i c its n sl el
      obtain ⟨h1, h2⟩ := Bool.and_eq_true_iff.mp e
      have h3 := of_decide_eq_true h1
      subst h3
      have h4 := Array.isEmpty_iff.mp h2
      subst h4
      exact ⟨a, PySem.W.mg_of c1 c2 ea, _, _, _, el, rfl, rfl, by simp, .nil, rfl⟩
    · cases e
  · cases e
end
end Mv
set_option Elab.async false
set_option linter.all false
set_option maxRecDepth 100000
namespace Mv
open PySem PySem.Spec PyProof.Rows L2
theorem t_dictSet {X : Cx} {pins : List (Addr × Obj)} {σ : L2.St} {H : Hp} {s : Shared} {E : Value → Shared → Prop} {D b : Addr} {kvs : List (List Key × V)} {k : List Key} {v : V} {r : Value} {Q : Unit → Shared → Prop} (hu : X.A.units + 1 < cLine) (I : Inv X pins σ H s) (hD : H D = some (.dT kvs)) (hz : kvs.length < sizeLine)
    (eb : H b = some (.tup (k.map kV))) (rv : RelV v r) (h : ∀ s', Inv X pins σ (upd H D (.dT (putK kvs k v))) s' → Q () s') : wpAny (model X.prog X.w) X.A (dictSet D (.ref b) r) Q E s := by
  obtain ⟨z, hd, xs, rel, dd⟩ := dt_of I.hok hD
  have zx : xs.length ≤ sizeLine := by rw [← Paired.length rel]; exact z
  have lp : (putK kvs k v).length ≤ sizeLine := by have := length_putK kvs k v; omega
  refine wpAny_dictSet_heap (hsz := zx) (show X.A.units < cLine by omega) (key_of I.hok eb) dd fun g dg sb => h _ ?_
  obtain ⟨o, es, ep, e1, e2, e3, e4, _, e5⟩ := dg
  refine d_write I (by rw [hD]; exact True.intro) sb ⟨o, e1⟩ ⟨lp, hd, _, (rel.put k eb rv).keeps fun c ys ec => ?_, o, es, ep, e1, e2, e3, e4, e5⟩
  rw [upd_ne (ne_of ec hD (fun q => nomatch q))]
  exact ec
section
variable {X : Cx}
def tDcT (wi : TI) (g : TG) (tt : TT) (tk tv : TE) (vs : List Nat) : TE := fun σ H Q => wi σ H fun J H1 => ∀ D, H1 D = none → ∃ W : Nat → Nat → Hp → Prop, (∃ m, W 0 m (upd H1 D (.dT []))) ∧ ∀ i m H, W i m H →
  (J.stop i H ∧ Q (.ref D) H) ∨ (J.go i H ∧ ∃ Nx : Hp → Prop, (∀ H', Nx H' → ∃ m', m' < m ∧ W (i + 1) m' H') ∧ ∀ x H', J.yld i H x H' → g x (wipe σ vs) H' fun σ2 H2 => wipe σ2 vs = wipe σ vs ∧ tt σ2 H2 fun b H3 =>
    if b = true then tk σ2 H3 fun y H4 => tv σ2 H4 fun z H5 => ∃ kvs k q, y = .ref q ∧ H5 q = some (.tup (k.map kV)) ∧ H5 D = some (.dT kvs) ∧ kvs.length < sizeLine ∧ Nx (upd H5 D (.dT (putK kvs k z))) else Nx H3)
theorem dcT_core {pins : List (Addr × Obj)} {s : Shared} {σ : L2.St} {H : Hp} {Q : VK} {kx vx tg iter : Expr} {ifs : List Expr} {scope : Scope} {own : List (Str × Nat)} {pos pos' : Pos} {wi : TI} {g : TG} {tt : TT} {tk tv : TE} {use : Option (Value → Sem Unit)} {Qf : Value → Shared → Prop}
    (hu : X.A.units + 1 < cLine) (calm : X.calm = true) (nd : X.N.Nodup) (J0 : Inv X pins σ H s) (hi : PI X tg iter wi) (ok : BlkOk X.N X.env.scope scope own)
    (hg : ∀ (s : Shared) (H : Hp) (C : Addr) (cl : List (Str × Addr)) (fp : List Addr), PG (X.blk s H scope (compEnvC scope cl C X.env) fp) tg g) (ht : ∀ (s : Shared) (H : Hp) (C : Addr) (cl : List (Str × Addr)) (fp : List Addr), PTs (X.blk s H scope (compEnvC scope cl C X.env) fp) ifs tt)
    (hk : ∀ (s : Shared) (H : Hp) (C : Addr) (cl : List (Str × Addr)) (fp : List Addr), PE (X.blk s H scope (compEnvC scope cl C X.env) fp) kx tk)
    (he : ∀ (s : Shared) (H : Hp) (C : Addr) (cl : List (Str × Addr)) (fp : List Addr), PE (X.blk s H scope (compEnvC scope cl C X.env) fp) vx tv) (hs : ∀ x, foldedSetIterable iter X.env x = pure x)
    (h : tDcT wi g tt tk tv (own.map (·.2)) σ H Q)
    (back : ∀ D C s' m H', Inv X pins σ H' s' → Q (.ref D) H' → s'.heap.Ns C m → FpOk X pins H' C → compPost (model X.prog X.w) X.A X.xe use Qf (.ref D) C (.ok .next) s') :
    wpAny (model X.prog X.w) X.A (comprehension (.DictComp kx vx [⟨tg, iter, ifs, 0⟩] scope pos) scope X.env pos' newDict false (eval iter X.env) use) Qf X.xe s := by
  have free : ∀ y ∈ scope.names, y.2 = .free → ∃ c, X.env.cells.lookup y.1 = some c := fun y hy e => (ok.free y hy e).elim (fun k => J0.ok.has _ (.inl k)) fun k => J0.ok.has _ (.inr k)
  refine wpAny_comprehension_free (use := use) rfl hs (closure_ok free) ok.kind (fun y hy e => by rw [ok.uniq y hy, e]) (thn (hi.run pins s σ H _ J0 h) fun xv u1 hx => thn hx fun itv u2 h2 => ?_)
  obtain ⟨it, fp, tn, J, G2, rfl, J2, T, st2, f2, q⟩ := h2
  refine wpAny_newObj_type (newEnv_comp ?_)
  generalize eD : u2.heap.objs.size = D
  have nD : G2 D = none := J2.hok.fresh (Nat.le_of_eq eD)
  obtain ⟨W, ⟨m0, w0⟩, turn⟩ := q D nD
  generalize e3 : ({ u2 with heap := u2.heap.push { cls := .type "dict", data := .dict #[] } } : Shared) = u3
  have hp3 : u3.heap = u2.heap.push { cls := .type "dict", data := .dict #[] } := by rw [← e3]
  have J3 : Inv X pins σ (upd G2 D (.dT [])) u3 := by
    rw [← e3]
    refine J2.laid (t' := u2.toks) (fun b o e => Heap.get?_push_of_some _ e) (Nat.le_of_eq eD) ?_
    rw [← eD]
    exact dt_empty u2.heap J2.big
  have low : ∀ b ∈ fp, b < u2.heap.objs.size := fun b hb => by
    obtain ⟨o, e, _⟩ := T.obj _ _ st2 b hb
    exact Heap.lt_size e
  have f3 : ∀ b ∈ fp, FpOk X pins (upd G2 D (.dT [])) b ∧ b < u3.heap.objs.size := fun b hb => by
    refine ⟨⟨?_, (f2 b hb).2⟩, by rw [hp3, Heap.size_push]; exact Nat.lt_succ_of_lt (low b hb)⟩
    rw [upd_ne (by rw [← eD]; exact Nat.ne_of_lt (low b hb))]
    exact (f2 b hb).1
  have st3 : tn 0 u3.heap := T.keep _ _ _ st2 fun b _ o e => by rw [hp3]; exact Heap.get?_push_of_some _ e
  have J4 := block_start J3 ok nd f3
  have pg := hg u3 (upd G2 D (.dT [])) u3.heap.objs.size (cellsFrom (u3.heap.objs.size + 1) scope.names (cloFrom X.env.cells scope.names [])) fp
  have pt := ht u3 (upd G2 D (.dT [])) u3.heap.objs.size (cellsFrom (u3.heap.objs.size + 1) scope.names (cloFrom X.env.cells scope.names [])) fp
  have pk := hk u3 (upd G2 D (.dT [])) u3.heap.objs.size (cellsFrom (u3.heap.objs.size + 1) scope.names (cloFrom X.env.cells scope.names [])) fp
  have pv := he u3 (upd G2 D (.dT [])) u3.heap.objs.size (cellsFrom (u3.heap.objs.size + 1) scope.names (cloFrom X.env.cells scope.names [])) fp
  show codeAny _ _ (.compStart (.DictComp kx vx [⟨tg, iter, ifs, 0⟩] scope pos) 0 (.ref it) (.ref D) (compEnvC scope (cellsFrom (u3.heap.objs.size + 1) scope.names (cloFrom X.env.cells scope.names [])) u3.heap.objs.size X.env)) (compPost (model X.prog X.w) X.A X.xe use Qf (.ref D) u3.heap.objs.size) { u3 with heap := pushCells (u3.heap.push { cls := .type "dict", data := .dict #[] }) scope.names }
  have n3 : ∀ b ∈ fp, (upd G2 D (.dT [])) b = none := fun b hb => (f3 b hb).1.1
  generalize ece : compEnvC scope (cellsFrom (u3.heap.objs.size + 1) scope.names (cloFrom X.env.cells scope.names [])) u3.heap.objs.size X.env = ce at J4 pg pt pk pv ⊢
  have eL : ce.locals = u3.heap.objs.size := by subst ece; rfl
  generalize eG : upd G2 D (.dT []) = G3 at J3 J4 pg pt pk pv w0 n3 f3
  generalize e4 : ({ u3 with heap := pushCells (u3.heap.push { cls := .type "dict", data := .dict #[] }) scope.names } : Shared) = u4 at J4 ⊢
  have st4 : tn 0 u4.heap := T.keep _ _ _ st3 fun b _ o e => by rw [← e4]; exact pushCells_keeps _ _ _ _ (Heap.get?_push_of_some _ e)
  have fps : ∀ {σ' : L2.St} {G : Hp} {u : Shared}, Inv (X.blk u3 G3 scope ce fp) [] σ' G u → (∀ b ∈ fp, G b = none) → ∀ b ∈ fp, FpOk (X.blk u3 G3 scope ce fp) [] G b := fun {σ' G u} I' hn b hb =>
    ⟨hn b hb, (I'.ok.exf b hb).1, I'.ok.exfs b hb, .inl hb, fun x c e => (I'.ok.exf b hb).2 x c e, fun p hp => absurd (show p ∈ ([] : List (Addr × Obj)) ++ [] from hp) (by simp)⟩
  refine codeAny_compStart_dict ?_ (T.self X.A 0 _ _ _ st4 ?_)
  all_goals
    refine compLoop_anyD (fun n u => ∃ i G, Inv (X.blk u3 G3 scope ce fp) [] (wipe σ (own.map (·.2))) G u ∧ tn i u.heap ∧ (∀ b ∈ fp, G b = none) ∧ W i n G) ?_ m0 ⟨0, G3, J4, st4, n3, w0⟩
    rintro n u5 ⟨i, G5, J5, st5, n5, w5⟩
    rcases turn i n G5 w5 with ⟨stop, fin⟩ | ⟨go, Nx, dec, step⟩
    · refine thnF (T.done (X.blk u3 G3 scope ce fp) rfl rfl rfl calm i [] u5 _ G5 (fun _ _ => False) J5 (fps J5 n5) st5 stop) fun r u6 ⟨er, J6⟩ => ?_
      subst er
      have J7 : Inv X pins σ G5 u6 := J3.call' (ch := fp) J6.os J6.base J6.hok J6.bare fun b hb => ⟨(f3 b hb).1.2.2.2.1, (f3 b hb).1.2.1, (f3 b hb).1.2.2.2.2.1, (f3 b hb).1.2.2.2.2.2⟩
      have nC : G5 u3.heap.objs.size = none := by
        have z : G5 ce.locals = none := J6.free
        rw [eL] at z
        exact z
      obtain ⟨m, hn, _⟩ := J6.loc
      have hn : u6.heap.Ns ce.locals m := hn
      rw [eL] at hn
      exact back D u3.heap.objs.size u6 m G5 J7 fin hn (J3.fpOk (Nat.le_refl _) nC)
    · refine thnF (T.item (X.blk u3 G3 scope ce fp) rfl rfl rfl calm i [] u5 _ G5 (fun _ _ => False) J5 (fps J5 n5) st5 go) fun r u6 ⟨v, er, h6⟩ => ?_
      subst er
      refine thnF h6 fun _ u7 ⟨x, G7, J7, r7, y7, st7, n7⟩ => ?_
      have J7' := J7.pinned (fps J7 n7) (T.obj _ _ st7)
      refine thnF (pg.run _ u7 _ G7 x v _ J7' r7 (step x G7 y7)) fun _ u8 ⟨σ8, G8, J8, hw8, q8⟩ => ?_
      refine thnF (pt.run _ u8 σ8 G8 _ J8 q8) fun b u9 ⟨G9, J9, q9⟩ => ?_
      have next : ∀ {u : Shared} {G : Hp}, Inv (X.blk u3 G3 scope ce fp) ([] ++ pinsAt fp u7.heap) σ8 G u → Nx G → ∃ m, m < n ∧ ∃ i G, Inv (X.blk u3 G3 scope ce fp) [] (wipe σ (own.map (·.2))) G u ∧ tn i u.heap ∧ (∀ b ∈ fp, G b = none) ∧ W i m G := fun {u G} I' nx => by
        obtain ⟨m', hm, w'⟩ := dec G nx
        have pin : ∀ b ∈ fp, ∀ o, u7.heap.get? b = some o → u.heap.get? b = some o ∧ G b = none := fun b hb o e => by
          obtain ⟨z1, z2, _⟩ := I'.pin (b, o) (List.mem_append_right _ (List.mem_append_right _ (mem_pinsAt hb e)))
          exact ⟨z1, z2⟩
        refine ⟨m', hm, i + 1, G, (I'.unpinned (pins := [])).weak (by rw [← hw8, wipe_length]) (fun j v e => ?_), T.keep _ _ _ st7 fun b hb o e => (pin b hb o e).1, fun b hb => ?_, w'⟩
        · rw [← hw8] at e
          exact (wipe_some e).1
        · obtain ⟨o, e, _⟩ := T.obj _ _ st7 b hb
          exact (pin b hb o e).2
      cases b with
      | false =>
        simp only [Bool.false_eq_true, if_false] at q9 ⊢
        exact next J9 q9
      | true =>
        simp only [if_true] at q9 ⊢
        refine thnF (pk.run _ u9 σ8 G9 _ J9 q9) fun z u10 ⟨yk, G10, J10, r10, q10⟩ => ?_
        refine thnF (pv.run _ u10 σ8 G10 _ J10 q10) fun z2 u11 ⟨yv, G11, J11, r11, kvs, k, qa, ek, ea, hD11, hz11, nx⟩ => ?_
        subst ek
        obtain rfl : z = Value.ref qa := r10
        exact t_dictSet (X := X.blk u3 G3 scope ce fp) hu J11 hD11 hz11 ea r11 fun u12 J12 => next J12 nx
theorem pe_dcT {kx vx tg iter : Expr} {ifs : List Expr} {scope : Scope} {own : List (Str × Nat)} {pos : Pos} {wi : TI} {g : TG} {tt : TT} {tk tv : TE} (hu : X.A.units + 1 < cLine) (calm : X.calm = true) (nd : X.N.Nodup) (hi : PI X tg iter wi) (ok : BlkOk X.N X.env.scope scope own)
    (hg : ∀ (s : Shared) (H : Hp) (C : Addr) (cl : List (Str × Addr)) (fp : List Addr), PG (X.blk s H scope (compEnvC scope cl C X.env) fp) tg g) (ht : ∀ (s : Shared) (H : Hp) (C : Addr) (cl : List (Str × Addr)) (fp : List Addr), PTs (X.blk s H scope (compEnvC scope cl C X.env) fp) ifs tt)
    (hk : ∀ (s : Shared) (H : Hp) (C : Addr) (cl : List (Str × Addr)) (fp : List Addr), PE (X.blk s H scope (compEnvC scope cl C X.env) fp) kx tk)
    (he : ∀ (s : Shared) (H : Hp) (C : Addr) (cl : List (Str × Addr)) (fp : List Addr), PE (X.blk s H scope (compEnvC scope cl C X.env) fp) vx tv) (hs : ∀ x, foldedSetIterable iter X.env x = pure x := by intro _; rfl) :
    PE X (.DictComp kx vx [⟨tg, iter, ifs, 0⟩] scope pos) (tDcT wi g tt tk tv (own.map (·.2))) := by
  refine ⟨fun pins s σ H Q I h => ?_⟩
  rw [arm_eval_DictComp]
  refine dcT_core hu calm nd I hi ok hg ht hk he hs h fun D C s' m G I' q hn f => ⟨m, hn, fun h'' sb => ?_⟩
  obtain ⟨f0, f1, f2, f3, f4, f5⟩ := f
  exact ⟨.ref D, G, I'.turned (t' := s'.toks) (fun b o hb e => (sb.2 b hb).trans e) f0 f1 f3 f4 f5, rfl, q⟩
end
end Mv
set_option Elab.async false
set_option linter.all false
set_option maxRecDepth 100000
namespace Mv
open PySem PySem.Spec PyProof.Rows L2
def eqKy : VV → VV → Bool
  | .int i, .int j => decide (i = j)
  | .str i, .str j => decide (i = j)
  | _, _ => false
def eqKys : List VV → List VV → Bool
  | [], [] => true
  | x :: xs, y :: ys => eqKy x y && eqKys xs ys
  | _, _ => false
def keysOf : List VV → Option (List Key)
  | [] => some []
  | x :: xs => (keyOf x).bind fun k => (keysOf xs).map fun ks => k :: ks
def keyT : VV → Option (List Key)
  | .tup xs => keysOf xs
  | _ => none
def codeKy : VV → Nat
  | .int (.ofNat n) => n
  | _ => 0
def codeKs : List VV → Nat
  | [] => 1
  | x :: xs => codeKs xs * 65536 + codeKy x
theorem eqKys_code : ∀ {xs ys : List VV}, eqKys xs ys = true → codeKs xs = codeKs ys
  | [], [], _ => rfl
  | [], _ :: _, e => by simp [eqKys] at e
  | _ :: _, [], e => by simp [eqKys] at e
  | x :: xs, y :: ys, e => by
    simp only [eqKys, Bool.and_eq_true] at e
    have h1 : codeKy x = codeKy y := by
      have e1 := e.1
      unfold eqKy at e1
      split at e1
      · rw [of_decide_eq_true e1]
      · rfl
      · cases e1
    show codeKs xs * 65536 + codeKy x = codeKs ys * 65536 + codeKy y
    rw [eqKys_code e.2, h1]
def sameT : VV → VV → Bool
  | .tup xs, .tup ys => Nat.beq (codeKs xs) (codeKs ys) && eqKys xs ys
  | _, _ => false
theorem sameT_eq (xs ys : List VV) : sameT (.tup xs) (.tup ys) = eqKys xs ys := by
  show (Nat.beq (codeKs xs) (codeKs ys) && eqKys xs ys) = eqKys xs ys
  cases e : eqKys xs ys with
  | false => rw [Bool.and_false]
  | true => rw [eqKys_code e, Bool.and_true]; exact Nat.beq_refl _
def putT (ks vs : List VV) (k v : VV) : List VV × List VV := if ks.any (fun x => sameT x k) then (ks, List.zipWith (fun x y => if sameT x k then v else y) ks vs) else (ks ++ [k], vs ++ [v])
theorem eqKy_vvK (a b : Key) : eqKy (vvK a) (vvK b) = decide (a = b) := by
  cases a with
  | inl i => cases b with
    | inl j => simp [vvK, eqKy]
    | inr j => simp [vvK, eqKy]
  | inr i => cases b with
    | inl j => simp [vvK, eqKy]
    | inr j => simp [vvK, eqKy]
theorem eqKys_vvK : ∀ a b : List Key, eqKys (a.map vvK) (b.map vvK) = decide (a = b)
  | [], [] => by simp [eqKys]
  | [], _ :: _ => by simp [eqKys]
  | _ :: _, [] => by simp [eqKys]
  | x :: a, y :: b => by
    simp only [List.map_cons, eqKys, eqKy_vvK, eqKys_vvK a b, List.cons.injEq, Bool.decide_and]
theorem of_keysOf : ∀ {xs : List VV} {ks : List Key}, keysOf xs = some ks → xs = ks.map vvK
  | [], _, e => by simp only [keysOf, Option.some.injEq] at e; subst e; rfl
  | x :: xs, _, e => by
    simp only [keysOf, Option.bind_eq_some_iff, Option.map_eq_some_iff] at e
    obtain ⟨k, e1, ks, e2, rfl⟩ := e
    rw [List.map_cons, ← of_keysOf e2, ← of_keyOf e1]
theorem of_keyT {x : VV} {k : List Key} (e : keyT x = some k) : x = .tup (k.map vvK) := by
  cases x with
  | tup xs => simp only [keyT] at e; rw [of_keysOf e]
  | _ => simp only [keyT] at e; cases e
theorem sameT_vvK (a b : List Key) : sameT (.tup (a.map vvK)) (.tup (b.map vvK)) = decide (a = b) := by rw [sameT_eq]; exact eqKys_vvK a b
section
variable {K : PySem.W.Frag} {G : Gx} {w : Wd} {H : Hp}
theorem RVs.kVs : ∀ {ks : List Key} {ys : List V}, RVs K G w H (ks.map vvK) ys → ys = ks.map kV
  | [], _, r => by simpa only [List.map_nil, RVs] using r
  | k :: ks, _, r => by
    simp only [List.map_cons, RVs] at r
    obtain ⟨y, l, rfl, h1, h2⟩ := r
    rw [List.map_cons, ← RVs.kVs h2]
    congr 1
    exact h1.key (keyOf_vvK k)
theorem RVs.of_kVs : ∀ ks : List Key, RVs K G w H (ks.map vvK) (ks.map kV)
  | [] => by simp [RVs]
  | k :: ks => by
    simp only [List.map_cons, RVs]
    exact ⟨_, _, rfl, RV.to_kV k, RVs.of_kVs ks⟩
theorem RV.keyT {x : VV} {y : V} {k : List Key} (r : RV K G w H x y) (e : keyT x = some k) : ∃ b, y = .ref b ∧ H b = some (.tup (k.map kV)) ∧ ¬ w.mut b := by
  have e2 := of_keyT e
  subst e2
  simp only [RV] at r
  obtain ⟨a, ys, rfl, ⟨h1, h2⟩, r⟩ := r
  rw [RVs.kVs r] at h1
  exact ⟨a, rfl, h1, h2⟩
theorem any_keysT (k : List Key) : ∀ kvs : List (List Key × V), ((keysT kvs).any fun x => sameT x (.tup (k.map vvK))) = kvs.any fun kv => decide (kv.1 = k)
  | [] => rfl
  | p :: kvs => by
    have ih := any_keysT k kvs
    unfold keysT at ih ⊢
    rw [List.map_cons, List.any_cons, List.any_cons, ih, sameT_vvK]
theorem putT_vals {v : VV} {z : V} (k : List Key) (rv : RV K G w H v z) : ∀ {vs : List VV} {kvs : List (List Key × V)}, RVs K G w H vs (kvs.map fun p => p.2) →
    RVs K G w H (List.zipWith (fun x y => if sameT x (.tup (k.map vvK)) then v else y) (keysT kvs) vs) ((kvs.map fun kv => if kv.1 = k then (kv.1, z) else kv).map fun p => p.2)
  | [], [], _ => by simp [RVs, keysT]
  | [], _ :: _, r => by simp [RVs] at r
  | x :: xs, [], r => by simp [RVs] at r
  | x :: xs, p :: kvs, r => by
    simp only [List.map_cons, RVs] at r
    obtain ⟨y, r2, e, h1, h2⟩ := r
    injection e with e1 e2
    subst e1 e2
    have ih := putT_vals k rv h2
    unfold keysT at ih ⊢
    simp only [List.map_cons, List.zipWith_cons_cons, RVs]
    refine ⟨_, _, rfl, ?_, ih⟩
    rw [sameT_vvK]
    by_cases c : p.1 = k
    · rw [if_pos c, if_pos (by simpa using c)]
      exact rv
    · rw [if_neg c, if_neg (by simpa using c)]
      exact h1
theorem putT_ok {ks vs : List VV} {kvs : List (List Key × V)} {x v : VV} {z : V} {k : List Key} (rk : ks = keysT kvs) (rs : RVs K G w H vs (kvs.map fun p => p.2)) (e : keyT x = some k) (rv : RV K G w H v z) :
    (putT ks vs x v).1 = keysT (putK kvs k z) ∧ RVs K G w H (putT ks vs x v).2 ((putK kvs k z).map fun p => p.2) := by
  have e1 := of_keyT e
  subst e1 rk
  unfold putT putK
  rw [any_keysT]
  by_cases c : (kvs.any fun kv => decide (kv.1 = k)) = true
  · rw [if_pos c, if_pos c]
    refine ⟨?_, putT_vals k rv rs⟩
    unfold keysT
    rw [List.map_map]
    refine (List.map_congr_left fun p _ => ?_).symm
    show VV.tup ((if p.1 = k then (p.1, z) else p).1.map vvK) = _
    split <;> rfl
  · rw [if_neg c, if_neg c]
    refine ⟨?_, ?_⟩
    · unfold keysT
      rw [List.map_append]
      rfl
    · rw [List.map_append]
      refine rs.app ?_
      simp only [List.map_cons, List.map_nil, RVs]
      exact ⟨_, _, rfl, rv, rfl⟩
end
theorem Room.u1 {k : Nat} {A : Around} (r : Room k A) : A.units + 1 < cLine := by have := r.un; omega
def dcTGo (sv : Sv) (mg : MG) (t : MT) (ek ev : ME) : List VV → KVs → VH → Out KVs
  | [], d, h => .ok d h
  | v :: r, d, h => match mg v with
    | none => .bad
    | some asg => (t (setsV asg sv) h).nox.bind fun b h1 => if b then (ek (setsV asg sv) h1).nox.bind fun x h2 => (ev (setsV asg sv) h2).nox.bind fun y h3 => (match keyT x with
        | some _ => dcTGo sv mg t ek ev r (putT d.1 d.2 x y) h3
        | none => .bad) else dcTGo sv mg t ek ev r d h1
def dcTM (it : MI) (mg : MG) (vs : List Nat) (t : MT) (ek ev : ME) : ME := fun sv h => (it sv h).bind fun items h1 => if fits items.length then (dcTGo (wipeS sv vs) mg t ek ev items ([], []) h1).bind fun d h2 => .ok (.dtt d.1 d.2) h2 else .bad
section
variable {X : Cx} {g : Gx} {W : WX} {tg iter kx vx : Expr} {ifs : List Expr} {scope : Scope} {pos : Pos} {mi : MI} {mg : MG} {is : List Nat} {mt : MT} {mk mv : ME}
theorem dcT_imp {vs : List Nat} (hIn : InIs mg is) (hs : ∀ j ∈ is, j ∈ vs) {σ : L2.St} {H : Hp} {Q : VK} (t : tG X.K g (relV X.K g) (dcTM mi mg vs mt mk mv) W σ H Q) :
    tFz (tDcT (tG X.K g (relI X.K g) mi W) (tGt X.K g mg) (tG X.K g relB mt W0) (tG X.K g (relV X.K g) mk W0) (tG X.K g (relV X.K g) mv W0) vs) σ H Q := by
  obtain ⟨w, sv, h, rs, hk, p⟩ := t
  refine seqG' rs hk p fun w1 H1 h1 items J e1 rs1 k1 r1 p1 => ?_
  intro D hD
  by_cases hf : fits items.length = true
  case neg => rw [if_neg hf] at p1; exact p1.elim
  rw [if_pos hf] at p1
  have hz := fits_le hf
  refine ⟨fun i m H2 => m = items.length - i ∧ i ≤ items.length ∧ ∃ w2 h2 d kvs, Gd w1 H1 D w2 H2 ∧ Hk X.K g w2 h2 H2 ∧ H2 D = some (.dT kvs) ∧ d.1 = keysT kvs ∧ RVs X.K g w2 H2 d.2 (kvs.map fun p => p.2) ∧ kvs.length ≤ i ∧
      RSl X.K g w2 H2 (wipeS sv vs) (wipe σ vs) ∧ Post X.K g (relV X.K g) w1 H1 σ Q W ((dcTGo (wipeS sv vs) mg mt mk mv (items.drop i) d h2).bind fun d h3 => .ok (.dtt d.1 d.2) h3),
    ⟨items.length, by simp, Nat.zero_le _, w1.guard D, h1, ([], []), [], Gd.start k1 hD, guard_hk k1 hD, upd_same, rfl, by simp [RVs], Nat.le_refl _, (rs1.wipe vs).mono _ _ (guard_sees k1 hD), by simpa using p1⟩, ?_⟩
  rintro i m H2 ⟨rfl, hi, w2, h2, d, kvs, gd, k2, hD2, rk, rv, hl, rs2, p2⟩
  by_cases hlt : i < items.length
  · right
    have hv : items[i]? = some items[i] := List.getElem?_eq_getElem hlt
    generalize items[i] = v at hv
    have hdrop : items.drop i = v :: items.drop (i + 1) := by
      rw [List.drop_eq_getElem_cons hlt]
      congr 1
      rw [List.getElem?_eq_getElem hlt] at hv
      exact Option.some.inj hv
    rw [hdrop] at p2
    simp only [dcTGo] at p2
    obtain ⟨go, yl⟩ := r1.step w2 h2 H2 i v gd.sees k2 hv
    refine ⟨go, fun H' => ∃ w3 h3 d kvs, Gd w1 H1 D w3 H' ∧ Hk X.K g w3 h3 H' ∧ H' D = some (.dT kvs) ∧ d.1 = keysT kvs ∧ RVs X.K g w3 H' d.2 (kvs.map fun p => p.2) ∧ kvs.length ≤ i + 1 ∧
      RSl X.K g w3 H' (wipeS sv vs) (wipe σ vs) ∧ Post X.K g (relV X.K g) w1 H1 σ Q W ((dcTGo (wipeS sv vs) mg mt mk mv (items.drop (i + 1)) d h3).bind fun d h3 => .ok (.dtt d.1 d.2) h3),
      fun H' q => ⟨items.length - (i + 1), by omega, rfl, hlt, q⟩, fun x H3 hy => ?_⟩
    obtain ⟨ex, k3, rx⟩ := yl x H3 hy
    cases em : mg v with
    | none => rw [em] at p2; exact p2.elim
    | some asg =>
      rw [em] at p2
      dsimp only at p2
      refine ⟨w2, h2, v, asg, k3, rx, em, fun ya rya => ?_⟩
      have rs3 := (rs2.mono _ _ ex.sees).sets rya
      refine ⟨wipe_eq (is := is) (setsR_length _ _) hs fun j hj => setsR_ne fun p hp z => ?_, ?_⟩
      · obtain ⟨q, hq, e⟩ := rya.ix p hp
        exact hj (by rw [← z, ← e]; exact hIn v asg em q hq)
      generalize setsV asg (wipeS sv vs) = sv2 at rs3 p2
      generalize setsR ya (wipe σ vs) = σ2 at rs3
      rw [Out.bind_assoc] at p2
      have gd3 := gd.ext ex
      have prD : ∀ {wa : Wd} {Ha : Hp} {wb : Wd} {Hb : Hp}, Gd w1 H1 D wa Ha → Ext wa Ha wb Hb → Hb D = Ha D := fun ga e => e.prot D (.inl (by rw [ga.P]; exact .inr rfl))
      have hD3 : H3 D = some (.dT kvs) := (prD gd ex).trans hD2
      refine ⟨w2, sv2, h2, rs3, k3, ?_⟩
      cases et : mt sv2 h2 with
      | bad => rw [et] at p2; exact p2.elim
      | exc x h4 => rw [et] at p2; exact p2.elim
      | ok b h4 =>
        rw [et] at p2
        simp only [Out.nox, Out.bind] at p2
        intro w4 H4 b' e4 k4 eb
        have eb : b = b' := eb
        subst eb
        have gd4 := gd3.ext e4
        have hD4 := (prD gd3 e4).trans hD3
        have se4 := ex.sees.trans e4.sees
        have rs4 := rs2.mono _ _ se4
        cases b with
        | false =>
          rw [if_neg Bool.false_ne_true] at p2 ⊢
          exact ⟨w4, h4, d, kvs, gd4, k4, hD4, rk, RVs.mono se4 _ _ rv, Nat.le_succ_of_le hl, rs4, p2⟩
        | true =>
          rw [if_pos rfl] at p2 ⊢
          refine ⟨w4, sv2, h4, rs3.mono _ _ e4.sees, k4, ?_⟩
          cases ee : mk sv2 h4 with
          | bad => rw [ee] at p2; exact p2.elim
          | exc x h5 => rw [ee] at p2; exact p2.elim
          | ok xk h5 =>
            rw [ee] at p2
            simp only [Out.nox, Out.bind] at p2
            intro w5 H5 y e5 k5 ry
            have gd5 := gd4.ext e5
            have hD5 := (prD gd4 e5).trans hD4
            have se5 := se4.trans e5.sees
            refine ⟨w5, sv2, h5, (rs3.mono _ _ e4.sees).mono _ _ e5.sees, k5, ?_⟩
            cases ev : mv sv2 h5 with
            | bad => rw [ev] at p2; exact p2.elim
            | exc x h6 => rw [ev] at p2; exact p2.elim
            | ok xv h6 =>
              rw [ev] at p2
              simp only [Out.nox, Out.bind] at p2
              intro w6 H6 z e6 k6 rz
              have gd6 := gd5.ext e6
              have hD6 := (prD gd5 e6).trans hD5
              have se6 := se5.trans e6.sees
              cases ek : keyT xk with
              | none => rw [ek] at p2; exact p2.elim
              | some kk =>
                rw [ek] at p2
                dsimp only at p2
                have sg : Sees w6 H6 w6 (upd H6 D (.dT (putK kvs kk z))) := guard_set_sees gd6.P
                obtain ⟨a1, a2⟩ := putT_ok rk (RVs.mono se6 _ _ rv) ek rz
                obtain ⟨qk, eqk, hqk, _⟩ := RV.keyT (RV.mono e6.sees _ _ ry) ek
                refine ⟨kvs, kk, qk, eqk, hqk, hD6, Nat.lt_of_lt_of_le (Nat.lt_of_le_of_lt hl hlt) hz, w6, h6, putT d.1 d.2 xk xv, putK kvs kk z, gd6.set k1 hD, guard_set_hk gd6.P k6, upd_same, a1, RVs.mono sg _ _ a2, ?_, (rs2.mono _ _ se6).mono _ _ sg, p2⟩
                have := length_putK kvs kk z
                omega
  · left
    have e : i = items.length := by omega
    subst e
    refine ⟨r1.stop w2 H2 gd.sees, ?_⟩
    rw [List.drop_length] at p2
    exact fz_dtt k1 hD gd k2 hD2 rk rv p2
theorem re_dcT {own : List (Str × Nat)} {k : Nat} (hr : Room k X.A) (hc : X.calm = true) (hN : X.N.Nodup) (hi : RI X g W tg iter mi) (ok : BlkOk X.N X.env.scope scope own) (his : InIs mg is) (hs : ∀ j ∈ is, j ∈ own.map (·.2))
    (hg : ∀ (s : Shared) (H : Hp) (C : Addr) (cl : List (Str × Addr)) (fp : List Addr), RG (X.blk s H scope (compEnvC scope cl C X.env) fp) g tg mg) (ht : ∀ (s : Shared) (H : Hp) (C : Addr) (cl : List (Str × Addr)) (fp : List Addr), RTs (X.blk s H scope (compEnvC scope cl C X.env) fp) g W0 ifs mt)
    (hk : ∀ (s : Shared) (H : Hp) (C : Addr) (cl : List (Str × Addr)) (fp : List Addr), RE (X.blk s H scope (compEnvC scope cl C X.env) fp) g W0 kx mk)
    (he : ∀ (s : Shared) (H : Hp) (C : Addr) (cl : List (Str × Addr)) (fp : List Addr), RE (X.blk s H scope (compEnvC scope cl C X.env) fp) g W0 vx mv) (hf : ∀ x, foldedSetIterable iter X.env x = pure x := by intro _; rfl) :
    RE X g W (.DictComp kx vx [⟨tg, iter, ifs, 0⟩] scope pos) (dcTM mi mg (own.map (·.2)) mt mk mv) :=
  pe_imp (pe_lock (pe_dcT (Room.u1 hr) hc hN hi ok hg ht hk he hf)) fun σ H Q t => dcT_imp his hs t
end
end Mv
set_option Elab.async false
set_option linter.all false
set_option maxRecDepth 100000
namespace Mv
open PySem PySem.Spec PyProof.Rows L2
def KeyAt (K : PySem.W.Frag) (H : Hp) (y : V) (k : List Key) : Prop := ∃ b, y = .ref b ∧ (H b = some (.tup (k.map kV)) ∨ KTup K b (k.map kV) ∨ ∃ o, H b = some (.frz o (.tup (k.map kV))))
def DGetK (K : PySem.W.Frag) (H : Hp) (a : Addr) (y : V) (r : Option V) : Prop :=
  (∃ kvs k, Rd H a (.dK kvs) ∧ y = kV k ∧ r = valV kvs k) ∨ ∃ kvs k, Rd H a (.dT kvs) ∧ KeyAt K H y k ∧ r = valV kvs k
section
variable {X : Cx} {pins : List (Addr × Obj)} {σ : L2.St} {H : Hp} {s : Shared} {a : Addr} {y v d : V} {u r : Value} {o : Option V} {A : Around} {E : Value → Shared → Prop}
theorem keyAt_is {k : List Key} (I : Inv X pins σ H s) (ka : KeyAt X.K H y k) (ry : RelV y u) : ∃ b, u = .ref b ∧ (tupleKind (mixKind X.prog X.w)).is s.heap k b := by
  obtain ⟨b, rfl, h⟩ := ka
  cases (show u = Value.ref b from ry)
  refine ⟨b, rfl, ?_⟩
  rcases h with h | ⟨o, its, n, h1, h2, h3, _, h4, _⟩ | ⟨o, h⟩
  · exact key_of I.hok h
  · exact ⟨o, its, n, I.kIn _ _ h1, h2, h3, items_are h4⟩
  · obtain ⟨_, _, its, r, ⟨o2, g1, g2, n2, g3⟩⟩ := (show ObjOk X.prog X.w H s.heap b (.frz o (.tup (k.map kV))) from I.hok b _ h)
    exact ⟨o2, _, n2, g1, g2, g3, items_are (by simpa using r)⟩
theorem dk_getItem {Q : Value → Shared → Prop} (hu : A.units + 1 < cLine) (I : Inv X pins σ H s) (g : DGetK X.K H a y (some v)) (ry : RelV y u) (h : ∀ w' s', Inv X pins σ H s' → RelV v w' → Q w' s') :
    wpAny (model X.prog X.w) A (getItem (.ref a) u) Q E s := by
  rcases g with ⟨kvs, k, e, ey, l⟩ | ⟨kvs, k, e, ka, l⟩
  · exact d_getItem hu I (.inl ⟨kvs, k, e, ey, l⟩) ry h
  · obtain ⟨b, rfl, kk⟩ := keyAt_is I ka ry
    obtain ⟨z, hd, xs, rel, dd⟩ := dt_rd I.hok e
    obtain ⟨w', hw, rw'⟩ := RelO.some_of (v := v) (o := (atKey xs k).map (·.2)) (by rw [l]; exact rel.val k)
    obtain ⟨p, hp, hp2⟩ := Option.map_eq_some_iff.mp hw
    refine wpAny_getItem_heap (tupleKind_room_in1 hu) kk dd hp ?_
    rw [hp2]
    exact h w' _ (I.tok _) rw'
theorem dk_in {Q : Value → Shared → Prop} (hu : A.units + 1 < cLine) (I : Inv X pins σ H s) (g : DGetK X.K H a y o) (ry : RelV y u) (h : ∀ s', Inv X pins σ H s' → Q (.bool o.isSome) s') :
    wpAny (model X.prog X.w) A (compareOp .In u (.ref a)) Q E s := by
  rcases g with ⟨kvs, k, e, ey, l⟩ | ⟨kvs, k, e, ka, l⟩
  · exact d_in hu I (.inl ⟨kvs, k, e, ey, l⟩) ry h
  · obtain ⟨b, rfl, kk⟩ := keyAt_is I ka ry
    obtain ⟨z, hd, xs, rel, dd⟩ := dt_rd I.hok e
    refine wpAny_in_heap (tupleKind_room_in1 hu) kk hd dd ?_
    have q := (rel.val k).isSome_eq
    rw [Option.isSome_map] at q
    rw [← q, ← l]
    exact h _ (I.tok _)
theorem dk_notIn {Q : Value → Shared → Prop} (hu : A.units + 1 < cLine) (I : Inv X pins σ H s) (g : DGetK X.K H a y o) (ry : RelV y u) (h : ∀ s', Inv X pins σ H s' → Q (.bool (!o.isSome)) s') :
    wpAny (model X.prog X.w) A (compareOp .NotIn u (.ref a)) Q E s := by
  rcases g with ⟨kvs, k, e, ey, l⟩ | ⟨kvs, k, e, ka, l⟩
  · exact d_notIn hu I (.inl ⟨kvs, k, e, ey, l⟩) ry h
  · obtain ⟨b, rfl, kk⟩ := keyAt_is I ka ry
    obtain ⟨z, hd, xs, rel, dd⟩ := dt_rd I.hok e
    refine wpAny_notIn_heap (tupleKind_room_in1 hu) kk hd dd ?_
    have q := (rel.val k).isSome_eq
    rw [Option.isSome_map] at q
    rw [← q, ← l]
    exact h _ (I.tok _)
theorem dk_get2 {Q : Value → Shared → Prop} (hu : A.units + 1 < cLine) (I : Inv X pins σ H s) (g : DGetK X.K H a y o) (ry : RelV y u) (rd : RelV d r) (h : ∀ w' s', Inv X pins σ H s' → RelV (o.getD d) w' → Q w' s') :
    wpAny (model X.prog X.w) A (call (.builtin "dict.get") [.ref a, u, r]) Q E s := by
  rcases g with ⟨kvs, k, e, ey, l⟩ | ⟨kvs, k, e, ka, l⟩
  · exact d_get2 hu I (.inl ⟨kvs, k, e, ey, l⟩) ry rd h
  · obtain ⟨b, rfl, kk⟩ := keyAt_is I ka ry
    obtain ⟨z, hd, xs, rel, dd⟩ := dt_rd I.hok e
    refine call_meetsIn PySem.F.slot_dict_get dd.typeIs PySem.F.entry_dict_get (PySem.F.args_dict_get_3 _ _ _) (meetsH_dict_get_default (tupleKind (mixKind X.prog X.w)) a b hd r) ⟨tupleKind_room_in1 hu, k, xs, kk, dd, h _ _ (I.tok _) ?_⟩
    rw [l]
    exact (rel.val k).getD rd
theorem dk_typeIs (I : Inv X pins σ H s) (g : DGetK X.K H a y o) : s.TypeIs (.ref a) "dict" := by
  rcases g with ⟨kvs, k, e, _, _⟩ | ⟨kvs, k, e, _, _⟩
  · exact (isD_at I (.inl ⟨kvs, e⟩)).1
  · exact (isD_at I (.inr ⟨kvs, e⟩)).1
end
section
variable {X : Cx}
def rIxDK (K : PySem.W.Frag) : R2 := fun x y H Q => ∃ a v, x = .ref a ∧ DGetK K H a y (some v) ∧ Q v H
theorem ix_dk (hu : X.A.units + 1 < cLine) : IxR X (rIxDK X.K) := by
  intro value slice pins s σ H x y v u Q I rx ry h hs
  obtain ⟨a, z, rfl, g, q⟩ := h
  cases (show v = Value.ref a from rx)
  exact tail_any (dk_typeIs I g) PySem.F.slot_dict_getitem.lookup (dk_getItem hu I g ry fun w' s3 I3 rw' => ⟨z, H, I3, rw', q⟩) hs
def rInDK (K : PySem.W.Frag) (neg : Bool) : R2 := fun y x H Q => ∃ a o, x = .ref a ∧ DGetK K H a y o ∧ Q (.bl (if neg then !o.isSome else o.isSome)) H
theorem op_inDK (hu : X.A.units + 1 < cLine) : OpR X (compareOp .In) (rInDK X.K false) := by
  intro pins s σ H y x u v Q I ry rx h
  obtain ⟨a, o, rfl, g, q⟩ := h
  cases (show v = Value.ref a from rx)
  exact dk_in hu I g ry fun s3 I3 => ⟨.bl o.isSome, H, I3, rfl, q⟩
theorem op_notInDK (hu : X.A.units + 1 < cLine) : OpR X (compareOp .NotIn) (rInDK X.K true) := by
  intro pins s σ H y x u v Q I ry rx h
  obtain ⟨a, o, rfl, g, q⟩ := h
  cases (show v = Value.ref a from rx)
  exact dk_notIn hu I g ry fun s3 I3 => ⟨.bl (!o.isSome), H, I3, rfl, q⟩
theorem OpR.or {f : Value → Value → Sem Value} {r r' : R2} (h : OpR X f r) (h' : OpR X f r') : OpR X f (fun x y H Q => r x y H Q ∨ r' x y H Q) := by
  intro pins s σ H x y v u Q I rx ry q
  rcases q with q | q
  · exact h pins s σ H x y v u Q I rx ry q
  · exact h' pins s σ H x y v u Q I rx ry q
def tDGet2K (K : PySem.W.Frag) (td ty tx : TE) : TE := fun σ H Q => td σ H fun x H1 => ∃ a, x = .ref a ∧ IsD H1 a ∧ ty σ H1 fun y H2 => tx σ H2 fun z H3 => ∃ o, DGetK K H3 a y o ∧ Q (o.getD z) H3
theorem pe_dget2K {o e f : Expr} {apos cpos : Pos} {td ty tx : TE} (hu : X.A.units + 1 < cLine) (ho : PE X o td) (he : PE X e ty) (hf : PE X f tx) (m : M2 X o "get" apos e f cpos) : PE X (.Call (.Attribute o "get" apos) [e, f] [] cpos) (tDGet2K X.K td ty tx) := by
  refine ⟨fun pins s σ H Q I h => ?_⟩
  refine wpAny_Call_method m.base m.few m.line PySem.F.plainAttrs_dict PySem.F.slot_dict_get PySem.F.type_dict_get (thn (ho.run pins s σ H _ I h) fun u s1 ⟨x, H1, I1, rx, a, ex, d, q1⟩ => ?_)
  subst ex
  obtain rfl : u = Value.ref a := rx
  obtain ⟨t1, t2, _⟩ := isD_at I1 d
  refine ⟨t1, t2, ?_⟩
  rw [m.trees]
  refine Calls.callWith_builtin rfl (Calls.evalArgs_plain (Calls.spliced_cons (thn (he.run pins s1 σ H1 _ I1 q1) fun iv s2 ⟨y, H2, I2, ry, q2⟩ =>
    Calls.spliced_cons (thn (hf.run pins s2 σ H2 _ I2 q2) fun fv s3 ⟨z, H3, I3, rz, ov, g, q3⟩ => Calls.spliced_nil ?_))))
  exact dk_get2 hu I3 g ry rz fun w' s4 I4 rw' => ⟨_, H3, I4, rw', q3⟩
end
def dictK (h : VH) : VV → Option (List VV × List VV)
  | .dct ks vs => some (ks, vs)
  | .ref n => (match h[n]? with | some (.dct ks vs) => some (ks, vs) | _ => none)
  | _ => none
def dictT (h : VH) : VV → Option (List VV × List VV)
  | .dtt ks vs => some (ks, vs)
  | .ref n => (match h[n]? with | some (.dtt ks vs) => some (ks, vs) | _ => none)
  | _ => none
def findK : List VV → List VV → VV → Option VV
  | k :: ks, v :: vs, y => if sameK k y then some v else findK ks vs y
  | _, _, _ => none
def findT : List VV → List VV → VV → Option VV
  | k :: ks, v :: vs, y => if sameT k y then some v else findT ks vs y
  | _, _, _ => none
def keyU : VV → Option VV
  | .tup xs => (keysOf xs).map fun _ => .tup xs
  | .ktu xs => (keysOf xs).map fun _ => .tup xs
  | _ => none
def dgetO (h : VH) (x y : VV) : Option (Option VV) := match dictT h x with
  | some (ks, vs) => (keyU y).map fun k => findT ks vs k
  | none => (match dictK h x with
    | some (ks, vs) => (keyOf y).map fun _ => findK ks vs y
    | none => none)
section
variable {K : PySem.W.Frag} {g : Gx} {w : Wd} {H : Hp} {h : VH} {G : Gx}
theorem dictT_ok {x : VV} {vx : V} {ks vs : List VV} (hk : Hk K g w h H) (e : dictT h x = some (ks, vs)) (r : RV K g w H x vx) : ∃ a kvs, vx = .ref a ∧ Rd H a (.dT kvs) ∧ ks = keysT kvs ∧ RVs K g w H vs (kvs.map fun p => p.2) := by
  cases x with
  | dtt k2 v2 =>
    simp only [dictT, Option.some.injEq, Prod.mk.injEq] at e
    obtain ⟨rfl, rfl⟩ := e
    simp only [RV] at r
    obtain ⟨a, kvs, rfl, ⟨o, h1, _⟩, h2, h3⟩ := r
    exact ⟨a, kvs, rfl, .inr ⟨o, h1⟩, h2, h3⟩
  | ref n =>
    simp only [dictT] at e
    split at e
    · rename_i k2 v2 e2
      simp only [Option.some.injEq, Prod.mk.injEq] at e
      obtain ⟨rfl, rfl⟩ := e
      obtain ⟨a, rfl, _, kvs, h1, h2, h3⟩ := ref_obj hk r e2 (fun z => nomatch z)
      exact ⟨a, kvs, rfl, .inl h1, h2, h3⟩
    · cases e
  | _ => simp only [dictT] at e; cases e
theorem dictK_ok {x : VV} {vx : V} {ks vs : List VV} (hk : Hk K g w h H) (e : dictK h x = some (ks, vs)) (r : RV K g w H x vx) : ∃ a kvs, vx = .ref a ∧ Rd H a (.dK kvs) ∧ RVs K g w H ks (kvs.map fun p => kV p.1) ∧ RVs K g w H vs (kvs.map fun p => p.2) := by
  cases x with
  | dct k2 v2 =>
    simp only [dictK, Option.some.injEq, Prod.mk.injEq] at e
    obtain ⟨rfl, rfl⟩ := e
    simp only [RV] at r
    obtain ⟨a, kvs, rfl, ⟨o, h1, _⟩, h2, h3⟩ := r
    exact ⟨a, kvs, rfl, .inr ⟨o, h1⟩, h2, h3⟩
  | ref n =>
    simp only [dictK] at e
    split at e
    · rename_i k2 v2 e2
      simp only [Option.some.injEq, Prod.mk.injEq] at e
      obtain ⟨rfl, rfl⟩ := e
      obtain ⟨a, rfl, _, kvs, h1, h2, h3⟩ := ref_obj hk r e2 (fun z => nomatch z)
      exact ⟨a, kvs, rfl, .inl h1, h2, h3⟩
    · cases e
  | _ => simp only [dictK] at e; cases e
theorem keyU_ok {y k : VV} {vy : V} (e : keyU y = some k) (r : RV K G w H y vy) : ∃ kk : List Key, k = .tup (kk.map vvK) ∧ KeyAt K H vy kk := by
  cases y with
  | tup xs =>
    simp only [keyU, Option.map_eq_some_iff] at e
    obtain ⟨kk, e1, rfl⟩ := e
    have e2 := of_keysOf e1
    subst e2
    simp only [RV] at r
    obtain ⟨a, ys, rfl, ⟨h1, _⟩, r1⟩ := r
    rw [RVs.kVs r1] at h1
    exact ⟨kk, rfl, a, rfl, .inl h1⟩
  | ktu xs =>
    simp only [keyU, Option.map_eq_some_iff] at e
    obtain ⟨kk, e1, rfl⟩ := e
    have e2 := of_keysOf e1
    subst e2
    simp only [RV] at r
    obtain ⟨a, ys, rfl, h1, r1⟩ := r
    rw [RVs.kVs r1] at h1
    exact ⟨kk, rfl, a, rfl, .inr (h1.imp id fun ⟨o, q, _⟩ => ⟨o, q⟩)⟩
  | _ => simp only [keyU] at e; cases e
def relF (K : PySem.W.Frag) (G : Gx) (w : Wd) (H : Hp) : Option VV → Option V → Prop
  | some v, some z => RV K G w H v z
  | none, none => True
  | _, _ => False
theorem findT_ok (k : List Key) : ∀ {kvs : List (List Key × V)} {vs : List VV}, RVs K G w H vs (kvs.map fun p => p.2) → relF K G w H (findT (keysT kvs) vs (.tup (k.map vvK))) (valV kvs k)
  | [], [], _ => True.intro
  | [], _ :: _, _ => True.intro
  | p :: kvs, [], r => by simp [RVs] at r
  | p :: kvs, x :: xs, r => by
    simp only [List.map_cons, RVs] at r
    obtain ⟨y, r2, e, h1, h2⟩ := r
    injection e with e1 e2
    subst e1 e2
    have ih := findT_ok k h2
    unfold keysT at ih ⊢
    rw [List.map_cons]
    unfold findT
    rw [sameT_vvK]
    by_cases c : p.1 = k
    · rw [valV_pos c, if_pos (by simpa using c)]
      exact h1
    · rw [valV_neg c, if_neg (by simpa using c)]
      exact ih
theorem findK_ok (k : Key) : ∀ {kvs : List (Key × V)} {vs : List VV}, RVs K G w H vs (kvs.map fun p => p.2) → relF K G w H (findK (kvs.map fun p => vvK p.1) vs (vvK k)) (valV kvs k)
  | [], [], _ => True.intro
  | [], _ :: _, _ => True.intro
  | p :: kvs, [], r => by simp [RVs] at r
  | p :: kvs, x :: xs, r => by
    simp only [List.map_cons, RVs] at r
    obtain ⟨y, r2, e, h1, h2⟩ := r
    injection e with e1 e2
    subst e1 e2
    have ih := findK_ok k h2
    rw [List.map_cons]
    unfold findK
    rw [sameK_vvK]
    by_cases c : p.1 = k
    · rw [valV_pos c, if_pos (by simpa using c)]
      exact h1
    · rw [valV_neg c, if_neg (by simpa using c)]
      exact ih
theorem dgetO_ok {x y : VV} {vx vy : V} {r : Option VV} (hk : Hk K g w h H) (e : dgetO h x y = some r) (rx : RV K g w H x vx) (ry : RV K g w H y vy) : ∃ a o, vx = .ref a ∧ DGetK K H a vy o ∧ relF K g w H r o := by
  unfold dgetO at e
  split at e
  · rename_i ks vs e1
    obtain ⟨k, e2, rfl⟩ := Option.map_eq_some_iff.mp e
    obtain ⟨a, kvs, rfl, h1, rfl, h3⟩ := dictT_ok hk e1 rx
    obtain ⟨kk, rfl, ka⟩ := keyU_ok e2 ry
    exact ⟨a, _, rfl, .inr ⟨kvs, kk, h1, ka, rfl⟩, findT_ok kk h3⟩
  · split at e
    · rename_i ks vs e1
      obtain ⟨k, e2, rfl⟩ := Option.map_eq_some_iff.mp e
      obtain ⟨a, kvs, rfl, h1, h2, h3⟩ := dictK_ok hk e1 rx
      have e3 := h2.keys
      have e4 := of_keyOf e2
      subst e3 e4
      exact ⟨a, _, rfl, .inl ⟨kvs, k, h1, ry.key e2, rfl⟩, findK_ok k h3⟩
    · cases e
end
def ixA : V2 := fun x y h => match dgetO h x y with
  | some (some v) => .ok v h
  | some none => .bad
  | none => ixV x y h
def rIxA (K : PySem.W.Frag) : R2 := fun x y H Q => rIx K x y H Q ∨ rIxDK K x y H Q
theorem ixAS {K : PySem.W.Frag} {g : Gx} : OpS K g (rIxA K) ixA := by
  intro w h H σ W Q x y vx vy hk rx ry p
  unfold ixA at p
  split at p
  · rename_i v e
    obtain ⟨a, o, rfl, d, rf⟩ := dgetO_ok hk e rx ry
    cases o with
    | none => exact rf.elim
    | some z => exact .inr ⟨a, z, rfl, d, Post.here p hk rf⟩
  · exact p.elim
  · exact .inl (ixS w h H σ W Q x y vx vy hk rx ry p)
section
variable {X : Cx} {g : Gx} {W : WX} {a b : Expr} {ma mb : ME} {pos : Pos}
theorem re_ixA {k : Nat} (hr : Room k X.A) (ha : RE X g W a ma) (hb : RE X g W b mb) (hs : PlainIx b := by intro _ _; rfl) : RE X g W (.Subscript a b pos) (opM ixA ma mb) :=
  pe_imp (pe_ix (ix_seq.or (ix_dk (Room.u1 hr))) ha hb hs) fun σ H Q t => op_imp ixAS t
end
def inA (neg : Bool) : V2 := fun x y h => match dgetO h y x with
  | some o => .ok (.bl (if neg then !o.isSome else o.isSome)) h
  | none => inF neg x y h
def rInA (K : PySem.W.Frag) (neg : Bool) : R2 := fun x y H Q => rIn K neg x y H Q ∨ rInDK K neg x y H Q
theorem inAS {K : PySem.W.Frag} {g : Gx} {neg : Bool} : OpS K g (rInA K neg) (inA neg) := by
  intro w h H σ W Q x y vx vy hk rx ry p
  unfold inA at p
  split at p
  · rename_i o e
    obtain ⟨a, o2, rfl, d, rf⟩ := dgetO_ok hk e ry rx
    have es : o.isSome = o2.isSome := by
      cases o <;> cases o2 <;> first | rfl | exact rf.elim
    rw [es] at p
    exact .inr ⟨a, o2, rfl, d, post_bl p hk⟩
  · exact .inl (inS w h H σ W Q x y vx vy hk rx ry p)
theorem op_inA {X : Cx} {k : Nat} (hr : Room k X.A) : OpR X (compareOp .In) (rInA X.K false) := OpR.or op_in_seq (op_inDK (Room.u1 hr))
theorem op_notInA {X : Cx} {k : Nat} (hr : Room k X.A) : OpR X (compareOp .NotIn) (rInA X.K true) := OpR.or op_notIn_seq (op_notInDK (Room.u1 hr))
def getM (md mk mx : ME) : ME := fun sv h => (md sv h).bind fun d h1 => match (dictT h1 d).isSome || (dictK h1 d).isSome with
  | true => (mk sv h1).bind fun k h2 => (mx sv h2).bind fun x h3 => (match dgetO h3 d k with
    | some (some v) => .ok v h3
    | some none => .ok x h3
    | none => .bad)
  | false => .bad
section
variable {X : Cx} {g : Gx} {W : WX} {o e f : Expr} {md mk mx : ME} {apos cpos : Pos}
theorem re_get {k : Nat} (hr : Room k X.A) (ho : RE X g W o md) (he : RE X g W e mk) (hf : RE X g W f mx) (m : M2 X o "get" apos e f cpos) : RE X g W (.Call (.Attribute o "get" apos) [e, f] [] cpos) (getM md mk mx) :=
  pe_imp (pe_dget2K (Room.u1 hr) ho he hf m) fun σ H Q ⟨w, sv, h, rs, hk, p⟩ => by
    refine seqG' rs hk p fun w1 H1 h1 d vd e1 rs1 k1 r1 p1 => ?_
    split at p1
    · rename_i c
      have hd : ∃ a, vd = .ref a ∧ IsD H1 a := by
        rcases Bool.or_eq_true_iff.mp c with c | c
        · obtain ⟨⟨ks, vs⟩, e2⟩ := Option.isSome_iff_exists.mp c
          obtain ⟨a, kvs, rfl, q, _⟩ := dictT_ok k1 e2 r1
          exact ⟨a, rfl, .inr ⟨kvs, q⟩⟩
        · obtain ⟨⟨ks, vs⟩, e2⟩ := Option.isSome_iff_exists.mp c
          obtain ⟨a, kvs, rfl, q, _⟩ := dictK_ok k1 e2 r1
          exact ⟨a, rfl, .inl ⟨kvs, q⟩⟩
      obtain ⟨a, rfl, isd⟩ := hd
      refine ⟨a, rfl, isd, ?_⟩
      refine seqG' rs1 k1 p1 fun w2 H2 h2 y vy e2 rs2 k2 r2 p2 => ?_
      refine seqG' rs2 k2 p2 fun w3 H3 h3 x vx e3 rs3 k3 r3 p3 => ?_
      split at p3
      · rename_i v e4
        obtain ⟨b, o2, eb, d2, rf⟩ := dgetO_ok k3 e4 (RV.mono (e2.sees.trans e3.sees) _ _ r1) (RV.mono e3.sees _ _ r2)
        cases eb
        cases o2 with
        | none => exact rf.elim
        | some z => exact ⟨some z, d2, Post.here p3 k3 rf⟩
      · rename_i e4
        obtain ⟨b, o2, eb, d2, rf⟩ := dgetO_ok k3 e4 (RV.mono (e2.sees.trans e3.sees) _ _ r1) (RV.mono e3.sees _ _ r2)
        cases eb
        cases o2 with
        | none => exact ⟨none, d2, Post.here p3 k3 r3⟩
        | some z => exact rf.elim
      · exact p3.elim
    · exact p1.elim
end
def lenAF : VF := fun xs h => match xs with
  | [x] => (match dictT h x with
    | some (ks, vs) => .ok (.int vs.length) h
    | none => (match dictK h x with
      | some (ks, vs) => .ok (.int vs.length) h
      | none => lenF [x] h))
  | _ => .bad
def rLenA (K : PySem.W.Frag) : List V → Hp → VK → Prop := fun xs H Q => (∃ x n, xs = [x] ∧ LenV K x H n ∧ Q (.int n) H) ∨ (∃ a kvs, xs = [.ref a] ∧ Rd H a (.dT kvs) ∧ Q (.int kvs.length) H) ∨ ∃ a kvs, xs = [.ref a] ∧ Rd H a (.dK kvs) ∧ Q (.int kvs.length) H
theorem call_lenA {X : Cx} : CallR X (.builtin "len") (rLenA X.K) := by
  refine CallR.or call_len (CallR.or ?_ ?_)
  · intro pins s σ H xs us Q I r h
    obtain ⟨p, kvs, rfl, hp, q⟩ := h
    obtain ⟨u, rfl, rx⟩ := r.one
    obtain rfl : u = .ref p := rx
    obtain ⟨z, hd, ys, rel, dd⟩ := dt_rd I.hok hp
    have hl : kvs.length = ys.length := Paired.length rel
    refine call_len_dictH hd dd (by rw [← hl]; rw [sizeLine_eq] at z; omega) ?_
    rw [← hl]
    exact ⟨.int ((kvs.length : Nat) : Int), H, I.tok _, ⟨_, rfl⟩, q⟩
  · intro pins s σ H xs us Q I r h
    obtain ⟨p, kvs, rfl, hp, q⟩ := h
    obtain ⟨u, rfl, rx⟩ := r.one
    obtain rfl : u = .ref p := rx
    exact d_len I hp fun t s' I' => ⟨.int kvs.length, H, I', ⟨_, rfl⟩, q⟩
theorem lenAS {K : PySem.W.Frag} {g : Gx} : CallS K g (rLenA K) lenAF := by
  intro w h H σ W Q xs vs hk r p
  unfold lenAF at p
  split at p
  · split at p
    · rename_i ks vs2 e
      obtain ⟨y, rfl, r1⟩ := r.one
      obtain ⟨a, kvs, rfl, h1, h2, h3⟩ := dictT_ok hk e r1
      refine .inr (.inl ⟨a, kvs, rfl, h1, ?_⟩)
      have el := h3.length
      rw [List.length_map] at el
      rw [← el]
      exact post_int p hk
    · split at p
      · rename_i ks vs2 e
        obtain ⟨y, rfl, r1⟩ := r.one
        obtain ⟨a, kvs, rfl, h1, h2, h3⟩ := dictK_ok hk e r1
        refine .inr (.inr ⟨a, kvs, rfl, h1, ?_⟩)
        have el := h3.length
        rw [List.length_map] at el
        rw [← el]
        exact post_int p hk
      · exact .inl (lenS w h H σ W Q _ vs hk r p)
  · exact p.elim
end Mv
set_option Elab.async false
set_option linter.all false
set_option maxRecDepth 100000
namespace Mv
open PySem PySem.Spec PyProof.Rows L2
section
variable {K : PySem.W.Frag} {g : Gx} {w : Wd} {H : Hp} {h : VH} {sl : Sl} {σ : L2.St} {n : Nat} {a : Addr} {o : HO} {vo : VO}
theorem refset_sees (hn : w.phi[n]? = some (some a)) : Sees w H w (upd H a o) := ownset_sees (.inl (List.mem_of_getElem? hn))
theorem Hk.refsetO (k : Hk K g w h H) (hn : w.phi[n]? = some (some a)) (r : RO K g w (upd H a o) vo a) (hd : ∀ z, Spc z a o := by exact fun _ => Spc.of rfl) : Hk K g w (h.set n vo) (upd H a o) where
  len := by rw [List.length_set]; exact k.len
  inj := k.inj
  obj := fun m b hm => by
    have se : Sees w H w (upd H a o) := refset_sees hn
    obtain ⟨u, h1, h3⟩ := k.obj m b hm
    by_cases e : m = n
    · subst e
      rw [hn] at hm
      cases hm
      refine ⟨vo, ?_, r⟩
      rw [List.getElem?_set_self (List.getElem?_eq_some_iff.mp h1).1]
    · refine ⟨u, by rw [List.getElem?_set_ne (Ne.symm e)]; exact h1, RO.mono se u b (fun z q => ?_) h3⟩
      rw [upd_ne (show b ≠ a from fun z => e (k.inj m n a (by rw [← z]; exact hm) hn))]
      exact q
  has := fun m u hm hu => by
    by_cases e : m = n
    · subst e
      exact ⟨a, hn⟩
    · rw [List.getElem?_set_ne (Ne.symm e)] at hm
      exact k.has m u hm hu
  prot := fun b hb => by
    obtain ⟨h1, h2⟩ := k.prot b hb
    refine ⟨?_, h2⟩
    by_cases e : b = a
    · rw [e, upd_same]
      simp
    · rw [upd_ne e]
      exact h1
  own := k.own
  ownI := k.ownI
  spc := k.spc.put hd
end
def rSetD : V → V → V → Hp → (Hp → Prop) → Prop := fun o i v H Q => ∃ a H', o = .ref a ∧ DPut H a i v H' ∧ Q H'
def rSetA : V → V → V → Hp → (Hp → Prop) → Prop := fun o i v H Q => rSetL o i v H Q ∨ rSetD o i v H Q
theorem set_A {X : Cx} (hu : X.A.units + 1 < cLine) : PSet X rSetA := by
  intro pins s σ H o i v ov iv u Q I ro ri rv h
  rcases h with h | ⟨a, H', rfl, d, q⟩
  · exact set_list pins s σ H o i v ov iv u Q I ro ri rv h
  · cases (show ov = Value.ref a from ro)
    exact d_setItem hu I d ri rv fun s4 I4 => ⟨H', I4, q⟩
def setAM (mo mi me : ME) : MS := fun sl h => (me (view sl) h).toS sl fun v h1 => (mo (view sl) h1).toS sl fun o h2 => (mi (view sl) h2).toS sl fun i h3 => match o with
  | .ref n => (match h3[n]? with
    | some (.lst xs) => (match i with
      | .int k => (match ixN xs.length k with
        | some j => .nx sl (h3.set n (.lst (xs.set j v)))
        | none => .bad)
      | _ => .bad)
    | some (.dtt ks vs) => (match keyT i with
      | some _ => if fits (vs.length + 1) then .nx sl (h3.set n (.dtt (putT ks vs i v).1 (putT ks vs i v).2)) else .bad
      | none => .bad)
    | some (.dct ks vs) => (match keyOf i with
      | some _ => if fits (vs.length + 1) then .nx sl (h3.set n (.dct (putL ks vs i v).1 (putL ks vs i v).2)) else .bad
      | none => .bad)
    | _ => .bad)
  | _ => .bad
section
variable {X : Cx} {g : Gx} {W : WX} {e o e2 : Expr} {me mo mi : ME} {pos : Pos}
theorem rs_setA {k : Nat} {ip : Pos} (hr : Room k X.A) (he : RE X g W e me) (ho : RE X g W o mo) (hi : RE X g W e2 mi)
    (ha : ∀ v, assign (.Subscript o e2 ip) X.env v = (do
      let ov ← holding [v] (eval o X.env)
      let iv ← holding [v, ov] (eval e2 X.env)
      standAt ip
      holding [v, ov, iv] (setItem ov iv v)
      release [v, ov, iv] []) := by intro _; rfl)
    (hs : swapsWithSole [.Subscript o e2 ip] e pos.line X.env = pure false := by rfl) (hw : swappedStores [.Subscript o e2 ip] e X.env = pure none := by rfl)
    (h1 : (assignEach [.Subscript o e2 ip] X.env).map (·.2) = [assign (.Subscript o e2 ip) X.env] := by rfl) : RS X g W (.Assign [.Subscript o e2 ip] e pos) (setAM mo mi me) :=
  ps_imp (ps_asg he (pg_sub ho hi (set_A (Room.u1 hr)) ha) hs hw h1) fun D σ H ⟨w, sl, h, f, k, p⟩ => by
    refine seqS f k p fun w1 H1 h1 v y e1 f1 k1 r1 p1 => ?_
    refine seqS f1 k1 p1 fun w2 H2 h2 v2 y2 e2 f2 k2 r2 p2 => ?_
    refine seqS f2 k2 p2 fun w3 H3 h3 v3 y3 e3 f3 k3 r3 p3 => ?_
    have r1' := RV.mono (e2.trans e3).sees _ _ r1
    have r2' := RV.mono e3.sees _ _ r2
    split at p3
    · rename_i n
      split at p3
      · rename_i xs eh
        split at p3
        · rename_i kk
          split at p3
          · rename_i jj ej
            obtain ⟨a, ys, rfl, hn, ha, rx⟩ := ref_get k3 r2' eh
            have e4 : y3 = .int kk := by simpa only [relV, RV] using r3
            refine .inl ⟨a, ys, kk, jj, rfl, e4, ha, by rw [← rx.length]; exact ej, ?_⟩
            exact p3 w3 _ σ (refset_ext k3 hn) (k3.refset hn (RVs.set jj rx r1')) (f3.refset k3 hn)
          · exact p3.elim
        · exact p3.elim
      · rename_i ks vs eh
        split at p3
        · rename_i kk ek
          split at p3
          · rename_i hf
            obtain ⟨a, rfl, hn, kvs, ha, hks, rx⟩ := ref_obj k3 r2' eh (fun z => nomatch z)
            obtain ⟨b, rfl, hb, _⟩ := RV.keyT r3 ek
            have hl := rx.length
            rw [List.length_map] at hl
            have hz := fits_le hf
            refine .inr ⟨a, _, rfl, DPut.t ha hb (by omega), ?_⟩
            have sg : Sees w3 H3 w3 (upd H3 a (.dT (putK kvs kk y))) := refset_sees hn
            obtain ⟨q1, q2⟩ := putT_ok hks rx ek r1'
            exact p3 w3 _ σ (refset_ext k3 hn) (k3.refsetO hn ⟨_, upd_same, q1, RVs.mono sg _ _ q2⟩) (f3.refset k3 hn)
          · exact p3.elim
        · exact p3.elim
      · rename_i ks vs eh
        split at p3
        · rename_i kk ek
          split at p3
          · rename_i hf
            obtain ⟨a, rfl, hn, kvs, ha, hks, rx⟩ := ref_obj k3 r2' eh (fun z => nomatch z)
            have ey := r3.key ek
            subst ey
            have hl := rx.length
            rw [List.length_map] at hl
            have hz := fits_le hf
            refine .inr ⟨a, _, rfl, DPut.k ha (by omega), ?_⟩
            have sg : Sees w3 H3 w3 (upd H3 a (.dK (putK kvs kk y))) := refset_sees hn
            obtain ⟨q1, q2⟩ := put_ok hks rx ek r1'
            exact p3 w3 _ σ (refset_ext k3 hn) (k3.refsetO hn ⟨_, upd_same, RVs.mono sg _ _ q1, RVs.mono sg _ _ q2⟩) (f3.refset k3 hn)
          · exact p3.elim
        · exact p3.elim
      · exact p3.elim
    · exact p3.elim
def newDT : ME := fun _ h => .ok (.ref h.length) (h ++ [.dtt [] []])
theorem ref_new {K : PySem.W.Frag} {w : Wd} {H H' : Hp} {h : VH} {q : Addr} (k1 : Hk K g w h H) : RV K g (w.push q) H' (.ref h.length) (.ref q) := by
  simp only [RV]
  refine ⟨q, rfl, by unfold Wd.push; simp [k1.len], fun b hb => ?_⟩
  unfold Wd.push at hb
  rw [← k1.len] at hb
  simp at hb
  exact hb.symm
theorem re_newDT : RE X g W (.Dict [] [] pos) newDT := pe_imp pe_dnewT fun σ H Q ⟨w, sv, h, rs, hk, p⟩ q hq => by
  have ex := Ext.push (o := .dT []) hk hq
  exact p _ _ _ ex (Hk.push hk hq ⟨[], upd_same, rfl, by simp [RVs]⟩) (ref_new hk)
end
section
variable {K : PySem.W.Frag} {g : Gx} {w : Wd} {H : Hp}
theorem itk_ok {a : Addr} {o : Obj} {kvs : List (Key × V)} {ks : List VV} (st : ∀ w1 H1, Sees w H w1 H1 → H1 a = some (.frz o (.dK kvs))) (e : ks = kvs.map fun p => vvK p.1) : ItOk K g w H ks (Itk a o kvs) where
  step := fun w1 h1 H1 i v s k q => by
    subst e
    rw [List.getElem?_map] at q
    cases eq : kvs[i]? with
    | none => rw [eq] at q; cases q
    | some p =>
      rw [eq] at q
      have hv := Option.some.inj q
      subst hv
      refine ⟨⟨st w1 H1 s, (List.getElem?_eq_some_iff.mp eq).1⟩, fun x H2 hy => ?_⟩
      obtain ⟨e2, k2, v2, e3, e4⟩ := hy
      subst e2 e4
      rw [eq] at e3
      cases e3
      exact ⟨Ext.refl _ _, k, RV.to_kV _⟩
  stop := fun w1 H1 s => ⟨st w1 H1 s, by rw [e, List.length_map]; exact Nat.le_refl _⟩
theorem itkt_ok {a : Addr} {o : Obj} {kvs : List (List Key × V)} {ks : List VV} (st : ∀ w1 H1, Sees w H w1 H1 → H1 a = some (.frz o (.dT kvs))) (e : ks = keysT kvs) : ItOk K g w H ks (Itkt a o kvs) where
  step := fun w1 h1 H1 i v s k q => by
    subst e
    unfold keysT at q
    rw [List.getElem?_map] at q
    cases eq : kvs[i]? with
    | none => rw [eq] at q; cases q
    | some p =>
      rw [eq] at q
      have hv := Option.some.inj q
      subst hv
      refine ⟨⟨st w1 H1 s, (List.getElem?_eq_some_iff.mp eq).1⟩, fun x H2 hy => ?_⟩
      obtain ⟨e2, k2, v2, b, e3, e4, e5⟩ := hy
      subst e2 e4
      rw [eq] at e3
      cases e3
      refine ⟨Ext.refl _ _, k, ?_⟩
      simp only [RV]
      exact ⟨b, _, rfl, ⟨e5, k.spc b _ e5⟩, RVs.of_kVs _⟩
  stop := fun w1 H1 s => ⟨st w1 H1 s, by rw [e]; unfold keysT; rw [List.length_map]; exact Nat.le_refl _⟩
end
section
variable {X : Cx} {tg : Expr}
theorem pi_any {l : Expr} {tl : TE} (hl : PE X l tl) : PI X tg l (fun σ H R => tl σ H fun x H1 => ∃ a, x = .ref a ∧ (((∃ xs, SqL X.K H1 a xs) ∧ R (Itl X.K a) H1) ∨ ((∃ xs, SqT X.K H1 a xs) ∧ R (Itt X.K a) H1) ∨
    (∃ o kvs, H1 a = some (.frz o (.dK kvs)) ∧ R (Itk a o kvs) H1) ∨ ∃ o kvs, H1 a = some (.frz o (.dT kvs)) ∧ R (Itkt a o kvs) H1)) := by
  refine ⟨fun pins s σ H R I h => ?_⟩
  refine thn (hl.run pins s σ H _ I h) fun v s1 ⟨x, H1, I1, r1, a, e, q1⟩ => ?_
  subst e
  cases r1
  rcases q1 with ⟨⟨xs, hq⟩, q⟩ | ⟨⟨xs, hq⟩, q⟩ | ⟨o, kvs, hd, q⟩ | ⟨o, kvs, hd, q⟩
  · obtain ⟨its, rv, p, hz⟩ := I1.list hq
    refine wpAny_pyIter_list p.isList ?_
    refine ⟨s1.heap.objs.size, [s1.heap.objs.size], _, _, H1, rfl, I1.kept (t' := s1.toks) fun b o e => Heap.get?_push_of_some _ e, turn_list a _, ⟨_, Heap.get?_push_size _ rfl, rfl, rfl⟩, fun b hb => ?_, q⟩
    have e : b = s1.heap.objs.size := by simpa using hb
    subst e
    exact I1.fpOk (Nat.le_refl _) (I1.hok.fresh (Nat.le_refl _))
  · obtain ⟨its, rv, p, hz⟩ := I1.tuple hq
    refine wpAny_pyIter_tuple (show s1.heap.IsTuple a its.toArray from p) ?_
    refine ⟨s1.heap.objs.size, [s1.heap.objs.size], _, _, H1, rfl, I1.kept (t' := s1.toks) fun b o e => Heap.get?_push_of_some _ e, turn_tuple a _, ⟨_, Heap.get?_push_size _ rfl, rfl, rfl⟩, fun b hb => ?_, q⟩
    have e : b = s1.heap.objs.size := by simpa using hb
    subst e
    exact I1.fpOk (Nat.le_refl _) (I1.hok.fresh (Nat.le_refl _))
  · obtain ⟨hs, hgd, hx, es, ep, vs, hdt, hsz, kv, hm⟩ := I1.frzK hd
    refine iter_keys hs hgd hx hdt (pi_one (tk := s1.toks) I1 _ (turn_keys _ hdt) ⟨_, Heap.get?_push_size _ rfl, rfl, ?_⟩ q)
    rw [hsz] <;> rfl
  · obtain ⟨hs, hgd, hx, es, ep, hdt, hsz, ent⟩ := I1.frzT hd
    refine iter_keys hs hgd hx hdt (pi_one (tk := s1.toks) I1 _ (turn_keysT _ hdt) ⟨_, Heap.get?_push_size _ rfl, rfl, ?_⟩ q)
    rw [hsz] <;> rfl
variable {g : Gx} {W : WX} {e : Expr} {m : ME}
def seqA (a : ME) : MI := fun sv h => (a sv h).bind fun x h1 => match x with
  | .tup ys => .ok ys h1
  | .lst ys => .ok ys h1
  | .rol ys => .ok ys h1
  | .ktu ys => .ok ys h1
  | .dct ks _ => .ok ks h1
  | .dtt ks _ => .ok ks h1
  | _ => .bad
theorem ri_any (ha : RE X g W e m) : RI X g W tg e (seqA m) := pi_imp (pi_any ha) fun σ H R ⟨w, sv, h, rs, hk, p⟩ => by
  refine seqG' rs hk p fun w1 H1 h1 v y e1 rs1 k1 r1 p1 => ?_
  split at p1
  · obtain ⟨a, ys, rfl, r2, st⟩ := RV.tup_st r1
    exact ⟨a, rfl, .inr (.inl ⟨⟨ys, st w1 H1 (Sees.refl _ _)⟩, Post.here p1 k1 (itt_ok st r2)⟩)⟩
  · obtain ⟨a, ys, rfl, r2, st⟩ := RV.lst_st r1
    exact ⟨a, rfl, .inl ⟨⟨ys, st w1 H1 (Sees.refl _ _)⟩, Post.here p1 k1 (itl_ok st r2)⟩⟩
  · obtain ⟨a, ys, rfl, r2, st⟩ := RV.rol_st r1
    exact ⟨a, rfl, .inl ⟨⟨ys, st w1 H1 (Sees.refl _ _)⟩, Post.here p1 k1 (itl_ok st r2)⟩⟩
  · obtain ⟨a, ys, rfl, r2, st⟩ := RV.ktu_st r1
    exact ⟨a, rfl, .inr (.inl ⟨⟨ys, st w1 H1 (Sees.refl _ _)⟩, Post.here p1 k1 (itt_ok st r2)⟩)⟩
  · simp only [relV, RV] at r1
    obtain ⟨a, kvs, rfl, ⟨o, q1, q2⟩, rk, _⟩ := r1
    exact ⟨a, rfl, .inr (.inr (.inl ⟨o, kvs, q1, Post.here p1 k1 (itk_ok (fun w2 H2 s => (s.keep a _ q1 q2).1) rk.keys)⟩))⟩
  · simp only [relV, RV] at r1
    obtain ⟨a, kvs, rfl, ⟨o, q1, q2⟩, rk, _⟩ := r1
    exact ⟨a, rfl, .inr (.inr (.inr ⟨o, kvs, q1, Post.here p1 k1 (itkt_ok (fun w2 H2 s => (s.keep a _ q1 q2).1) rk)⟩))⟩
  · exact p1.elim
end
end Mv
set_option Elab.async false
set_option linter.all false
set_option maxRecDepth 100000
namespace Mv
open PySem PySem.Spec PyProof.Rows L2
section
variable {X : Cx} {tg e : Expr} {td : TE} {apos cpos : Pos}
end
section
variable {K : PySem.W.Frag} {g : Gx} {w : Wd} {H : Hp}
end
section
variable {X : Cx} {g : Gx} {W : WX} {e : Expr} {m : ME} {apos cpos : Pos}
end
end Mv
set_option Elab.async false
set_option linter.all false
set_option maxRecDepth 100000
namespace Mv
open PySem PySem.Spec PyProof.Rows L2
section
variable {X : Cx}
theorem sorted_col {pins : List (Addr × Obj)} {σ : L2.St} {H : Hp} {s : Shared} {u : Value} {its : List Value} {xs : List V} {ks : List (List Int)} {Q : VK} (hu : X.A.units + 64 < cLine) (I : Inv X pins σ H s) (rv : Vals xs its) (tk : TupK X.K H xs ks) (hz : its.length ≤ sizeLine)
    (hk : (∃ r, ks = [] :: r) ∨ ∀ n ∈ ks, n ≠ [])
    (hcol : ∀ R : List Value → Shared → Prop, (∀ (h' : Heap) (tk : Nat), (∀ b o, s.heap.get? b = some o → h'.get? b = some o) → R its { s with heap := h', toks := tk }) → wpAny (model X.prog X.w) X.A.in1 (collect u) R X.xe s)
    (q : ∀ (ys : List V) (kys : List (List Int)) (p : Addr), ys.length = kys.length → (∀ z ∈ ys.zip kys, z ∈ xs.zip ks) → kys.Perm ks → SrtK kys → H p = none → Q (.ref p) (upd H p (.lst ys))) :
    wpAny (model X.prog X.w) X.A (call (.builtin "sorted") [u]) (EP X pins σ Q) X.xe s := by
  refine Calls.call_function_entry PyProof.Rows.kind_sorted PyProof.Rows.plain_sorted PyProof.Rows.entry_sorted (PyProof.Rows.args_sorted1 _) ?_
  unfold Builtin.«sorted»
  refine wpAny_bind (m := checkCount "sorted" 1 1 _) (wpAny_pure ?_)
  refine wpAny_bind (hcol _ fun h' tk' kp => ?_)
  have I1 : Inv X pins σ H { s with heap := h', toks := tk' } := I.kept kp
  obtain ⟨h1, h2, h3, h4⟩ := tupK_vals I1 rv tk
  refine wpAny_bind (wpAny_newList ?_ hz)
  have hoL : (h'.push (seqObj "list" its.toArray 0)).get? h'.objs.size = some (seqObj "list" its.toArray 0) := Heap.get?_push_size _ rfl
  have keep : ∀ b o, h'.get? b = some o → b ≠ h'.objs.size ∧ (h'.push (seqObj "list" its.toArray 0)).get? b = some o := fun b o e => ⟨Nat.ne_of_lt (Heap.lt_size e), Heap.get?_push_of_some _ e⟩
  show wpAny _ _ _ _ _ { s with heap := h'.push (seqObj "list" its.toArray 0), toks := tk' }
  refine wpAny_bind (wpAny_holding (wpAny_call_entry PyProof.Rows.slot_list_sort ⟨_, hoL, rfl⟩ PyProof.Rows.entry_list_sort
    (SrtO.list_sort_ord (s := { s with heap := h'.push (seqObj "list" its.toArray 0), toks := tk' }) (NtL.swo_lexL (TS.intsOf h')) hoL hz (fun l2 => ?_) fun out hs hb => ⟨_, rfl, ?_⟩) (PyProof.Rows.args_list_sort _)))
  · refine tups_sortable (A := X.A.in1.in1) (s := { s with heap := h'.push (seqObj "list" its.toArray 0), toks := tk' }) (by omega) (show X.A.units + 1 + 1 < cLine by omega) (fun v hv => (h1 v hv).keeps fun c o e _ => (keep c o e).2) ?_ fun o e => ?_
    · rcases hk with ⟨rest, hk⟩ | hk
      · left
        cases its with
        | nil => simp at l2
        | cons v0 rest2 =>
          rw [hk, List.map_cons] at h2
          exact ⟨v0, rest2, rfl, (List.cons.inj h2).1⟩
      · right
        intro v hv
        exact hk _ (by rw [← h2]; exact List.mem_map.mpr ⟨v, hv, rfl⟩)
    · rw [hoL] at e
      cases e
      intro c
      exact absurd (Value.type.inj c) (by decide)
  · have hm : ∀ v ∈ out, v ∈ its := fun v hv => hb.perm.mem_iff.mp hv
    have h5 : ∀ v ∈ out, ∃ t, v = Value.ref t := fun v hv => h4 v (hm v hv)
    obtain ⟨n, hn⟩ := PyProof.Rows.sortedHeap_at (vs := its) (out := out.toArray) hoL
    refine wpAny_pure ⟨_, rfl, .ref h'.objs.size, upd H h'.objs.size (.lst (out.map backV)), I1.laid (t' := tk') (fun b o e => ?_) (Nat.le_refl _) ⟨?_, out, n, vals_back h5, hn⟩, rfl, q (out.map backV) (out.map (TS.intsOf h')) _ (by simp) ?_ ?_ ?_ (I1.hok.fresh (Nat.le_refl _))⟩
    · have hb : b < h'.objs.size := Heap.lt_size e
      rw [PyProof.Rows.sortedHeap_old (Nat.ne_of_lt hb) (by rw [size_push']; exact Nat.lt_succ_of_lt hb)]
      exact Heap.get?_push_of_some _ e
    · rw [List.length_map, hb.perm.length_eq]
      exact hz
    · intro z hz
      rw [List.zip_map'] at hz
      obtain ⟨v, hv, e⟩ := List.mem_map.mp hz
      rw [h3, ← h2, List.zip_map']
      exact List.mem_map.mpr ⟨v, hm v hv, e⟩
    · rw [← h2]
      exact hb.perm.map _
    · exact List.pairwise_map.mpr hs
def rSortedTT (K : PySem.W.Frag) : List V → Hp → VK → Prop := fun vs H Q => ∃ (a : Addr) (xs : List V) (ks : List (List Int)), vs = [.ref a] ∧ SqT K H a xs ∧ TupK K H xs ks ∧ ((∃ r, ks = [] :: r) ∨ ∀ n ∈ ks, n ≠ []) ∧
  ∀ (ys : List V) (kys : List (List Int)) (p : Addr), ys.length = kys.length → (∀ z ∈ ys.zip kys, z ∈ xs.zip ks) → kys.Perm ks → SrtK kys → H p = none → Q (.ref p) (upd H p (.lst ys))
theorem cr_sortedTT (hu : X.A.units + 64 < cLine) : CallR X (.builtin "sorted") (rSortedTT X.K) := by
  intro pins s σ H vs us Q I r h
  obtain ⟨a, xs, ks, rfl, hs, tk, hk, q⟩ := h
  obtain ⟨its, rv, ht, hz⟩ := I.tuple hs
  rw [Vals.ref1 r]
  refine sorted_col hu I rv tk (by rw [← rv.length]; exact hz) hk (fun R hR => ?_) q
  obtain ⟨o, ho, hc, n, hd⟩ := id ht
  refine wpAny_collect_seq a (.inr rfl) ho hc hd (fun h' hk => ?_) (by rw [List.size_toArray, ← rv.length]; exact hz)
  have e : its.toArray.toList = its := by simp
  rw [e]
  exact hR h' s.toks hk
def rSortedDT (K : PySem.W.Frag) : List V → Hp → VK → Prop := fun vs H Q => ∃ (a : Addr) (kvs : List (List Key × V)) (ks : List (List Int)), vs = [.ref a] ∧ Rd H a (.dT kvs) ∧ (kvs.map fun p => p.1) = (ks.map fun n => n.map Sum.inl) ∧ ((∃ r, ks = [] :: r) ∨ ∀ n ∈ ks, n ≠ []) ∧
  ∀ (ys : List V) (kys : List (List Int)) (p : Addr), ys.length = kys.length → (∀ z ∈ ys.zip kys, ∃ t, z.1 = .ref t ∧ H t = some (.tup (z.2.map V.int))) → kys.Perm ks → SrtK kys → H p = none → Q (.ref p) (upd H p (.lst ys))
theorem kt_tups {K : PySem.W.Frag} {H : Hp} : ∀ {kvs : List (List Key × V)} {xs : List (List Key × Addr × Value)} {ks : List (List Int)}, KT H kvs xs → (kvs.map fun p => p.1) = (ks.map fun n => n.map Sum.inl) →
    TupK K H ((xs.map fun x => x.2.1).map V.ref) ks ∧ ∀ z ∈ ((xs.map fun x => x.2.1).map V.ref).zip ks, ∃ t, z.1 = .ref t ∧ H t = some (.tup (z.2.map V.int))
  | [], _, ks, .nil, e => by
    cases ks with
    | nil => exact ⟨trivial, fun z hz => by simp at hz⟩
    | cons _ _ => simp at e
  | p :: kvs, _, ks, .cons (b := x) r t, e => by
    cases ks with
    | nil => simp at e
    | cons n ns =>
      rw [List.map_cons, List.map_cons, List.cons.injEq] at e
      obtain ⟨h1, h2⟩ := kt_tups (K := K) t e.2
      obtain ⟨r1, r2, _⟩ := r
      have e3 : p.1.map kV = n.map V.int := by
        rw [e.1, List.map_map]
        rfl
      rw [e3] at r2
      refine ⟨⟨⟨_, rfl, .inl (.inl r2)⟩, h1⟩, fun z hz => ?_⟩
      rw [List.map_cons, List.map_cons, List.zip_cons_cons] at hz
      rcases List.mem_cons.mp hz with e4 | hz
      · rw [e4]
        exact ⟨_, rfl, r2⟩
      · exact h2 z hz
theorem cr_sortedDT (hc : X.calm = true) (hu : X.A.units + 64 < cLine) : CallR X (.builtin "sorted") (rSortedDT X.K) := by
  intro pins s σ H vs us Q I r h
  obtain ⟨a, kvs, ks, rfl, hd, hks, hk, q⟩ := h
  rw [Vals.ref1 r]
  obtain ⟨z, hs, xs, pr, o, es, ep, ho, hx, hdt, he, hn⟩ := (show ObjOk X.prog X.w H s.heap a (.dT kvs) from hd.ok I.hok)
  have l1 : es.size = xs.length := size_of_entries he
  have l2 : kvs.length = xs.length := Paired.length pr
  obtain ⟨t1, t2⟩ := kt_tups (K := X.K) pr hks
  refine sorted_col (its := (xs.map fun x => x.2.1).map Value.ref) hu I (vals_refs _) t1 (by rw [List.length_map, List.length_map]; omega) hk (fun R hR => ?_) fun ys kys p hl hz hp hs2 hq => q ys kys p hl (fun z hzz => t2 z (hz z hzz)) hp hs2 hq
  refine PySem.W.kdu_collect (A := X.A.in1) (kdl_raw hs hx hdt) (I.ok.hd hc) ho (by omega) fun h' tk acc kp it => ?_
  have ea : acc.toList = (xs.map fun x => x.2.1).map Value.ref := by
    rw [List.map_map]
    have hl : acc.toList.length = xs.length := by rw [Array.length_toList, it.1]; exact l1
    apply List.ext_getElem?
    intro j
    rw [List.getElem?_map]
    cases hj : acc.toList[j]? with
    | none =>
      have h1 := List.getElem?_eq_none_iff.mp hj
      rw [List.getElem?_eq_none (by omega)]
      all_goals rfl
    | some v =>
      obtain ⟨en, hen, hv⟩ := it.2 j v (by rw [← Array.getElem?_toList]; exact hj)
      have qe := entry_at he j
      rw [hen] at qe
      cases hb : xs[j]? with
      | none =>
        rw [hb] at qe
        exact nomatch (show some en = none from qe)
      | some b =>
        rw [hb] at qe
        have e2 : en = entryOfKey (tupleKind (mixKind X.prog X.w)) b := Option.some.inj qe
        rw [hv, e2]
        all_goals rfl
  rw [ea]
  exact hR h' tk kp
end
def sortedAF : VF := fun xs h => match xs with
  | [.tup ys] => (match tupKs ys with
    | some ks => if okK ks then .ok (.lst ((sortK ks).map tupV)) h else .bad
    | none => .bad)
  | [.ktu ys] => (match tupKs ys with
    | some ks => if okK ks then .ok (.lst ((sortK ks).map tupV)) h else .bad
    | none => .bad)
  | [x] => (match dictT h x with
    | some (dk, _) => (match tupKs dk with
      | some ks => if okK ks then .ok (.lst ((sortK ks).map tupV)) h else .bad
      | none => .bad)
    | none => (match dictK h x with
      | some (dk, _) => (match allIt dk with | some ns => if ns.length < 64 then .ok (.lst ((sortI ns).map VV.int)) h else .bad | none => .bad)
      | none => sortedLF [x] h))
  | _ => .bad
def rSortedA (K : PySem.W.Frag) : List V → Hp → VK → Prop := fun xs H Q => rSortedL K xs H Q ∨ rSortedTT K xs H Q ∨ rSortedDT K xs H Q ∨ rSortedDI xs H Q
theorem cr_sortedA {X : Cx} (hc : X.calm = true) (hu : X.A.units + 64 < cLine) : CallR X (.builtin "sorted") (rSortedA X.K) := CallR.or (cr_sortedL hu) (CallR.or (cr_sortedTT hu) (CallR.or (cr_sortedDT hc hu) (call_sortedDI hc)))
section
variable {K : PySem.W.Frag} {g : Gx} {w : Wd} {H : Hp} {h : VH} {G : Gx}
theorem keysT_ints : ∀ {kvs : List (List Key × V)} {ks : List (List Int)}, tupKs (keysT kvs) = some ks → (kvs.map fun p => p.1) = (ks.map fun n => n.map Sum.inl)
  | [], ks, e => by
    simp only [keysT, List.map_nil, tupKs, Option.some.injEq] at e
    subst e
    rfl
  | p :: kvs, ks, e => by
    have e0 : keysT (p :: kvs) = .tup (p.1.map vvK) :: keysT kvs := rfl
    rw [e0] at e
    simp only [tupKs, Option.bind_eq_some_iff, Option.map_eq_some_iff] at e
    obtain ⟨n, e1, ns, e2, rfl⟩ := e
    have ih := keysT_ints e2
    rw [List.map_cons, List.map_cons, ih]
    congr 1
    have e3 := allIt_ok e1
    have key : ∀ (l : List Key) (m : List Int), l.map vvK = m.map VV.int → l = m.map Sum.inl := fun l => by
      induction l with
      | nil => intro m z; cases m with
        | nil => rfl
        | cons _ _ => simp at z
      | cons k l ih => intro m z; cases m with
        | nil => simp at z
        | cons i m =>
          simp only [List.map_cons, List.cons.injEq] at z ⊢
          refine ⟨?_, ih m z.2⟩
          cases k with
          | inl j => have := z.1; simp only [vvK, VV.int.injEq] at this; rw [this]
          | inr j => simp [vvK] at z
    exact key _ _ e3
theorem rvs_keysN (k : Hk K g w h H) : ∀ {ys : List V} {kys : List (List Int)}, ys.length = kys.length → (∀ z ∈ ys.zip kys, ∃ t, z.1 = .ref t ∧ H t = some (.tup (z.2.map V.int))) → RVs K g w H (kys.map tupV) ys
  | [], [], _, _ => by simp [RVs]
  | [], _ :: _, e, _ => by simp at e
  | _ :: _, [], e, _ => by simp at e
  | y :: ys, n :: kys, e, q => by
    simp only [List.map_cons, RVs]
    refine ⟨y, ys, rfl, ?_, rvs_keysN k (by simpa using e) fun z hz => q z (by rw [List.zip_cons_cons]; exact List.mem_cons_of_mem _ hz)⟩
    obtain ⟨t, e1, e2⟩ := q (y, n) (by simp)
    dsimp only at e1 e2
    subst e1
    unfold tupV
    simp only [RV]
    exact ⟨t, _, rfl, ⟨e2, k.spc t _ e2⟩, RVs.of_ints n⟩
theorem sortedAS : CallS K g (rSortedA K) sortedAF := by
  intro w h H σ W Q xs vs hk r p
  unfold sortedAF at p
  split at p
  · rename_i ys
    split at p
    · rename_i ks e
      split at p
      · rename_i ok
        obtain ⟨y, rfl, r1⟩ := RVs.one r
        obtain ⟨a, us, rfl, ha, r2⟩ := RV.tup_get r1
        obtain ⟨t1, t2⟩ := tupKs_rel e r2
        refine .inr (.inl ⟨a, us, ks, rfl, ha, t1, okK_ok ok, fun zs kzs q hl hz hp hs hq => ?_⟩)
        have e2 : kzs = sortK ks := srtK_unique (hp.trans (sortK_perm ks).symm) hs (sortK_sorted ks)
        subst e2
        exact post_newl p hk (rvs_keys hl fun z hzz => t2 z (hz z hzz)) hq
      · exact p.elim
    · exact p.elim
  · rename_i ys
    split at p
    · rename_i ks e
      split at p
      · rename_i ok
        obtain ⟨y, rfl, r1⟩ := RVs.one r
        obtain ⟨a, us, rfl, ha, r2⟩ := RV.ktu_get r1
        obtain ⟨t1, t2⟩ := tupKs_rel e r2
        refine .inr (.inl ⟨a, us, ks, rfl, ha, t1, okK_ok ok, fun zs kzs q hl hz hp hs hq => ?_⟩)
        have e2 : kzs = sortK ks := srtK_unique (hp.trans (sortK_perm ks).symm) hs (sortK_sorted ks)
        subst e2
        exact post_newl p hk (rvs_keys hl fun z hzz => t2 z (hz z hzz)) hq
      · exact p.elim
    · exact p.elim
  · split at p
    · rename_i dk dv e0
      split at p
      · rename_i ks e
        split at p
        · rename_i ok
          obtain ⟨y, rfl, r1⟩ := RVs.one r
          obtain ⟨a, kvs, rfl, h1, rfl, h3⟩ := dictT_ok hk e0 r1
          refine .inr (.inr (.inl ⟨a, kvs, ks, rfl, h1, keysT_ints e, okK_ok ok, fun zs kzs q hl hz hp hs hq => ?_⟩))
          have e2 : kzs = sortK ks := srtK_unique (hp.trans (sortK_perm ks).symm) hs (sortK_sorted ks)
          subst e2
          exact post_newl p hk (rvs_keysN hk hl hz) hq
        · exact p.elim
      · exact p.elim
    · split at p
      · rename_i dk dv e0
        split at p
        · rename_i ns e
          split at p
          · rename_i hz
            obtain ⟨y, rfl, r1⟩ := RVs.one r
            obtain ⟨a, kvs, rfl, h1, rk, h3⟩ := dictK_ok hk e0 r1
            have e2 := rk.keys
            rw [allIt_ok e] at e2
            refine .inr (.inr (.inr ⟨a, kvs, ns, rfl, h1, keys_inl e2, hz, fun ys q hp hs hq => ?_⟩))
            have e3 : ys = sortI ns := sorted_unique (hp.trans (sortI_perm ns).symm) hs (sortI_sorted ns)
            rw [e3]
            exact post_newl p hk (RVs.of_ints _) hq
          · exact p.elim
        · exact p.elim
      · exact .inl (sortedLS w h H σ W Q _ vs hk r p)
  · exact p.elim
end
end Mv
set_option Elab.async false
set_option linter.all false
set_option maxRecDepth 100000
namespace Mv
open PySem PySem.Spec PyProof.Rows L2
section
variable {X : Cx} {g : Gx} {W : WX} {mg mg1 : MG} {is is1 : List Nat} {mi mi1 : MI} {mt mt1 : MT} {me : ME}
structure LAt (K : PySem.W.Frag) (g : Gx) (w1 : Wd) (H1 : Hp) (D : Addr) (w : Wd) (H : Hp) (h : VH) (acc : List VV) (n : Nat) : Prop where
  gd : Gd w1 H1 D w H
  hk : Hk K g w h H
  at_ : ∃ ys : List V, H D = some (.lst ys) ∧ RVs K g w H acc ys ∧ ys.length ≤ n
theorem LAt.ext {K : PySem.W.Frag} {w1 w w' : Wd} {H1 H H' : Hp} {D : Addr} {h h' : VH} {d : List VV} {n : Nat} (a : LAt K g w1 H1 D w H h d n) (e : Ext w H w' H') (k : Hk K g w' h' H') : LAt K g w1 H1 D w' H' h' d n := by
  obtain ⟨ys, h1, h2, h4⟩ := a.at_
  exact ⟨a.gd.ext e, k, ys, (e.prot D (.inl (by rw [a.gd.P]; exact .inr rfl))).trans h1, RVs.mono e.sees _ _ h2, h4⟩
end
end Mv
set_option Elab.async false
set_option linter.all false
set_option maxRecDepth 100000
namespace PySem
open Sem (wp)
open AutoSeq1 (wpAny_loadPart')
end PySem
namespace Mv
open PySem PySem.Spec PyProof.Rows L2
section
variable {X : Cx} {g : Gx} {W : WX} {e : Expr} {ma : MA} {p pos : Pos}
end
end Mv
set_option Elab.async false
set_option linter.all false
set_option maxRecDepth 100000
namespace Mv
open PySem PySem.Spec PyProof.Rows L2
section
variable {X : Cx} {CX : CXT} {k : Nat} {f : Addr} {fd : FuncData} {ps : List Str} {sp : Sp} {dvs : List V} {ds : List Value} {E : L2.St → XK} {x : Str} {p sp_ pos : Pos} {e : Expr} {te : TE}
end
section
variable {X : Cx} {g : Gx} {W : WX} {e : Expr} {me : ME} {p sp_ pos : Pos} {x : Str} {j k : Nat} {f : Addr} {ps : List Str} {mf : MF}
end
theorem t_dictSetA {X : Cx} {pins : List (Addr × Obj)} {σ : L2.St} {H : Hp} {s : Shared} {A : Around} {E : Value → Shared → Prop} {D b : Addr} {kvs : List (List Key × V)} {k : List Key} {v : V} {r : Value} {Q : Unit → Shared → Prop} (hu : A.units + 1 < cLine) (I : Inv X pins σ H s) (hD : H D = some (.dT kvs)) (hz : kvs.length < sizeLine)
    (eb : H b = some (.tup (k.map kV))) (rv : RelV v r) (h : ∀ s', Inv X pins σ (upd H D (.dT (putK kvs k v))) s' → Heap.SameBut D s.heap s'.heap → Q () s') : wpAny (model X.prog X.w) A (dictSet D (.ref b) r) Q E s := by
  obtain ⟨z, hd, xs, rel, dd⟩ := dt_of I.hok hD
  have zx : xs.length ≤ sizeLine := by rw [← Paired.length rel]; exact z
  have lp : (putK kvs k v).length ≤ sizeLine := by have := length_putK kvs k v; omega
  refine wpAny_dictSet_heap (hsz := zx) (show A.units < cLine by omega) (key_of I.hok eb) dd fun g dg sb => h _ ?_ sb
  obtain ⟨o, es, ep, e1, e2, e3, e4, _, e5⟩ := dg
  refine d_write I (by rw [hD]; exact True.intro) sb ⟨o, e1⟩ ⟨lp, hd, _, (rel.put k eb rv).keeps fun c ys ec => ?_, o, es, ep, e1, e2, e3, e4, e5⟩
  rw [upd_ne (ne_of ec hD (fun q => nomatch q))]
  exact ec
def mergeT (kvs more : List (List Key × V)) : List (List Key × V) := more.foldl (fun acc kv => putK acc kv.1 kv.2) kvs
def PairT (H : Hp) : List (V × V) → List (List Key × V) → Prop := Paired fun p kv => (∃ b, p.1 = .ref b ∧ H b = some (.tup (kv.1.map kV))) ∧ p.2 = kv.2
theorem storeAll_T {X : Cx} {pins : List (Addr × Obj)} {σ : L2.St} {A : Around} {E : Value → Shared → Prop} {D : Addr} (hu : A.units + 1 < cLine) : ∀ {ps : List (V × V)} {more : List (List Key × V)} {vs : List (Value × Value)} {H : Hp} {s : Shared} {kvs : List (List Key × V)} {Q : Unit → Shared → Prop},
    Inv X pins σ H s → H D = some (.dT kvs) → kvs.length + more.length ≤ sizeLine → PairT H ps more → L2.VV ps vs → (∀ s', Inv X pins σ (upd H D (.dT (mergeT kvs more))) s' → Q () s') → wpAny (model X.prog X.w) A (storeAll D vs) Q E s
  | [], _, _, H, s, kvs, Q, I, hD, hz, pt, rel, h => by
    cases pt
    cases rel
    refine wpAny_pure (h s ?_)
    have e : upd H D (.dT (mergeT kvs [])) = H := by
      funext b
      by_cases c : b = D
      · rw [c, upd_same, hD]
        rfl
      · rw [upd_ne c]
    rw [e]
    exact I
  | p :: ps, _, _, H, s, kvs, Q, I, hD, hz, pt, rel, h => by
    cases pt with
    | @cons _ kv _ more hk t =>
      cases rel with
      | @cons _ q _ vs hq tq =>
        obtain ⟨⟨b, e1, e2⟩, e3⟩ := hk
        obtain ⟨q1, q2⟩ := q
        obtain ⟨h1, h2⟩ := hq
        dsimp only at h1 h2
        rw [e1] at h1
        cases (show q1 = Value.ref b from h1)
        rw [e3] at h2
        rw [List.length_cons] at hz
        unfold storeAll
        rw [List.forIn_cons]
        refine wpAny_bind (wpAny_bind (t_dictSetA hu I hD (by omega) e2 h2 fun s' I' _ => wpAny_pure ?_))
        have hp := length_putK kvs kv.1 kv.2
        have ih := storeAll_T (Q := Q) (E := E) (s := s') (ps := ps) (more := more) (vs := vs) hu I' upd_same (by omega) (Paired.mapP t fun a c z => ?_) tq fun s2 I2 => ?_
        · exact ih
        · obtain ⟨⟨b', z1, z2⟩, z3⟩ := z
          refine ⟨⟨b', z1, ?_⟩, z3⟩
          rw [upd_ne (ne_of z2 hD (fun q => nomatch q))]
          exact z2
        · rw [upd_upd] at I2
          exact h s2 I2
def tDispT (trs : List (TE × TE)) : TE := fun σ H Q => ∀ p, H p = none → tPairs trs σ (upd H p (.dT [])) fun ps H2 => H2 p = some (.dT []) ∧ ∃ kvs : List (List Key × V), PairT H2 ps kvs ∧ kvs.length ≤ 15 ∧ Q (.ref p) (upd H2 p (.dT (mergeT [] kvs)))
theorem pe_dispT {X : Cx} {pos : Pos} {keys : List (Option Expr)} {values : List Expr} {trs : List (TE × TE)} (hu : X.A.units + 1 < cLine) (h : PPs X pos keys values trs) (hall : keys.all (·.isSome) = true) (hl : keys.length = values.length) (h0 : keys ≠ [])
    (h15 : keys.length ≤ 15) : PE X (.Dict keys values pos) (tDispT trs) := by
  refine ⟨fun pins s σ H Q I q => ?_⟩
  have hn := I.hok.fresh (Nat.le_refl s.heap.objs.size)
  have I1 := I.laid (a := s.heap.objs.size) (o := .dT []) (h' := s.heap.push { cls := .type "dict", data := .dict #[] }) (t' := s.toks) (fun _ _ q => Heap.get?_push_of_some _ q) (Nat.le_refl _) (dt_empty s.heap I.big)
  refine wpAny_Dict_any hall hl h0 h15 (thn (h.run pins _ σ _ _ I1 (q _ hn)) fun ws s2 ⟨ps, H2, I2, rel, e, kvs, pt, lk, q2⟩ => ?_)
  exact storeAll_T hu I2 e (by rw [List.length_nil, sizeLine_eq]; omega) pt rel fun s' I' => ⟨.ref s.heap.objs.size, _, I', rfl, q2⟩
def putAllT : List (VV × VV) → KVs → Option KVs
  | [], d => some d
  | (x, y) :: r, d => match keyT x with
    | some _ => putAllT r (putT d.1 d.2 x y)
    | none => none
def dlitTM (l : List (ME × ME)) : ME := fun sv h => (pairsGo l sv h).bind fun ps h1 => if Nat.ble ps.length 15 then (match putAllT ps ([], []) with
  | some d => .ok (.dtt d.1 d.2) h1
  | none => .bad) else .bad
theorem putAllT_ok {K : PySem.W.Frag} {g : Gx} {w : Wd} {H : Hp} : ∀ {ps : List (VV × VV)} {psV : List (V × V)} {d d2 : KVs} {kvs : List (List Key × V)}, relPs K g w H ps psV → putAllT ps d = some d2 → d.1 = keysT kvs → RVs K g w H d.2 (kvs.map fun p => p.2) →
    ∃ more : List (List Key × V), PairT H psV more ∧ d2.1 = keysT (mergeT kvs more) ∧ RVs K g w H d2.2 ((mergeT kvs more).map fun p => p.2)
  | [], psV, d, d2, kvs, r, e, a, b => by
    simp only [putAllT, Option.some.injEq] at e
    simp only [relPs] at r
    subst e r
    exact ⟨[], .nil, a, b⟩
  | (x, y) :: ps, psV, d, d2, kvs, r, e, a, b => by
    simp only [putAllT] at e
    simp only [relPs] at r
    obtain ⟨z, rest, rfl, r1, r2, r3⟩ := r
    split at e
    · rename_i k ek
      obtain ⟨a2, b2⟩ := putT_ok a b ek r2
      obtain ⟨more, e1, e2, e3⟩ := putAllT_ok r3 e a2 b2
      obtain ⟨q, h1, h2, _⟩ := RV.keyT r1 ek
      exact ⟨(k, z.2) :: more, .cons ⟨⟨q, h1, h2⟩, rfl⟩ e1, e2, e3⟩
    · cases e
section
variable {X : Cx} {g : Gx} {W : WX}
theorem re_dlitT {pos : Pos} {keys : List (Option Expr)} {values : List Expr} {l : List (ME × ME)} {k : Nat} (hr : Room k X.A) (h : RPs X g W pos keys values l) (hall : keys.all (·.isSome) = true := by rfl) (hl : keys.length = values.length := by rfl) (h0 : keys ≠ [] := by simp) (h15 : keys.length ≤ 15 := by decide) : RE X g W (.Dict keys values pos) (dlitTM l) :=
  pe_imp (pe_lock (pe_dispT (Room.u1 hr) h hall hl h0 h15)) fun σ H Q ⟨w, sv, hh, rs, hk, p⟩ => by
    intro D hD
    refine pairs_imp (w0 := w) (H0 := H) (σ0 := σ) (Q := Q) l (k := fun ps h1 => if Nat.ble ps.length 15 then (match putAllT ps ([], []) with | some d => .ok (.dtt d.1 d.2) h1 | none => .bad) else .bad) (rs.mono _ _ (guard_sees hk hD)) (guard_hk hk hD) p fun w1 H1 h1 ps psV e1 k1 r1 p1 => ?_
    have gd : Gd w H D w1 H1 := (Gd.start hk hD).ext e1
    have hD1 : H1 D = some (.dT []) := (e1.prot D (.inl (.inr rfl))).trans upd_same
    by_cases c : Nat.ble ps.length 15 = true
    · rw [if_pos c] at p1
      split at p1
      · rename_i d ed
        obtain ⟨more, e2, e3, e4⟩ := putAllT_ok (kvs := []) r1 ed rfl (by simp [RVs])
        have hlen : more.length ≤ 15 := by
          have h1 := relPs_len r1
          have h2 := Paired.length e2
          have c2 := Nat.le_of_ble_eq_true c
          omega
        refine ⟨hD1, more, e2, hlen, ?_⟩
        have sg : Sees w1 H1 w1 (upd H1 D (.dT (mergeT [] more))) := guard_set_sees gd.P
        have gd2 := gd.set (o := .dT (mergeT [] more)) hk hD
        have k2 := guard_set_hk (o := .dT (mergeT [] more)) gd.P k1
        exact fz_dtt hk hD gd2 k2 upd_same e3 (RVs.mono sg _ _ e4) p1
      · exact p1.elim
    · rw [if_neg c] at p1
      exact p1.elim
end
end Mv
set_option Elab.async false
set_option linter.all false
set_option maxRecDepth 100000
namespace Mv
open PySem PySem.Spec PyProof.Rows L2
abbrev PairQ := Addr × Addr × List Key × V
abbrev PairQ.kv (q : PairQ) : List Key × V := (q.2.2.1, q.2.2.2)
section
variable {X : Cx} {pins : List (Addr × Obj)} {σ : L2.St} {A : Around}
end
section
variable {X : Cx}
end
section
variable {K : PySem.W.Frag} {g : Gx} {w : Wd} {H : Hp} {h : VH}
end
section
variable {X : Cx} {g : Gx} {W : WX} {e : Expr} {es : List Expr} {ma : MA} {p pos : Pos}
end
end Mv
set_option Elab.async false
set_option linter.all false
set_option maxRecDepth 100000
namespace Mv
open PySem PySem.Spec PyProof.Rows L2
end Mv
set_option Elab.async false
set_option linter.all false
set_option maxRecDepth 100000
namespace Mv
open PySem PySem.Spec PyProof.Rows L2
mutual
def belowV (L : Nat) : VV → Bool
  | .ref n => Nat.blt n L
  | .tup xs => belowVs L xs
  | .ktu xs => belowVs L xs
  | .lst xs => belowVs L xs
  | .rol xs => belowVs L xs
  | .dct ks vs => belowVs L ks && belowVs L vs
  | .dtt _ vs => belowVs L vs
  | .ins _ fs => belowVs L fs
  | _ => true
def belowVs (L : Nat) : List VV → Bool
  | [] => true
  | x :: xs => belowV L x && belowVs L xs
end
def belowSs (L : Nat) : List (Option VV) → Bool
  | [] => true
  | none :: r => belowSs L r
  | some x :: r => belowV L x && belowSs L r
def belowO (L : Nat) : VO → Bool
  | .lst xs => belowVs L xs
  | .dtt _ vs => belowVs L vs
  | .dct ks vs => belowVs L ks && belowVs L vs
  | .ins _ m vs => Nat.blt m L && belowSs L vs
  | .dtr ks vs => belowVs L ks && belowVs L vs
  | _ => true
def Wd.cut (w : Wd) (L : Nat) : Wd := { w with phi := w.phi.take L }
section
variable {K : PySem.W.Frag} {g : Gx} {w w1 : Wd} {H H1 : Hp} {h h1 : VH} {L : Nat} {G : Gx}
theorem cut_phi {n : Nat} {a : Option Addr} (e : (w.cut L).phi[n]? = some a) : n < L ∧ w.phi[n]? = some a := by
  unfold Wd.cut at e
  rw [List.getElem?_take] at e
  split at e
  · rename_i q
    exact ⟨q, e⟩
  · cases e
theorem mut_cut {a : Addr} : (w.cut L).mut a → w.mut a := by
  rintro (z | z | z)
  · exact .inl (List.mem_of_mem_take z)
  · exact .inr (.inl z)
  · exact .inr (.inr z)
theorem blt_lt {n m : Nat} (e : Nat.blt n m = true) : n < m := Nat.le_of_ble_eq_true e
mutual
theorem RV.shorn (hl : L ≤ w.phi.length) : ∀ (v : VV) (y : V), belowV L v = true → RV K G w H v y → RV K G (w.cut L) H v y
  | .non, _, _, r => by simp only [RV] at r ⊢; exact r
  | .bl _, _, _, r => by simp only [RV] at r ⊢; exact r
  | .int _, _, _, r => by simp only [RV] at r ⊢; exact r
  | .str _, _, _, r => by simp only [RV] at r ⊢; exact r
  | .ty _, _, _, r => by simp only [RV] at r ⊢; exact r
  | .adr _, _, _, r => by simp only [RV] at r ⊢; exact r
  | .ref n, _, b, r => by
    simp only [belowV] at b
    have b := blt_lt b
    simp only [RV] at r ⊢
    obtain ⟨a, e, h1, h2⟩ := r
    refine ⟨a, e, ?_, fun c hc => h2 c (cut_phi hc).2⟩
    unfold Wd.cut
    rw [List.length_take]
    omega
  | .tup xs, _, b, r => by
    simp only [belowV] at b
    simp only [RV] at r ⊢
    obtain ⟨a, ys, e, h1, h2⟩ := r
    exact ⟨a, ys, e, ⟨h1.1, fun z => h1.2 (mut_cut z)⟩, RVs.shorn hl xs ys b h2⟩
  | .ktu xs, _, b, r => by
    simp only [belowV] at b
    simp only [RV] at r ⊢
    obtain ⟨a, ys, e, h1, h2⟩ := r
    exact ⟨a, ys, e, h1.imp id (fun ⟨o, q1, q2, q3⟩ => ⟨o, q1, q2, fun z => q3 (mut_cut z)⟩), RVs.shorn hl xs ys b h2⟩
  | .lst xs, _, b, r => by
    simp only [belowV] at b
    simp only [RV] at r ⊢
    obtain ⟨a, ys, e, h1, h2⟩ := r
    exact ⟨a, ys, e, ⟨h1.1, fun z => h1.2 (mut_cut z)⟩, RVs.shorn hl xs ys b h2⟩
  | .rol xs, _, b, r => by
    simp only [belowV] at b
    simp only [RV] at r ⊢
    obtain ⟨a, ys, e, h1, h2⟩ := r
    exact ⟨a, ys, e, h1.imp (fun ⟨o, q1, q2⟩ => ⟨o, q1, fun z => q2 (mut_cut z)⟩) id, RVs.shorn hl xs ys b h2⟩
  | .dct ks vs, _, b, r => by
    simp only [belowV, Bool.and_eq_true] at b
    simp only [RV] at r ⊢
    obtain ⟨a, kvs, e, ⟨o, h1, h2⟩, h3, h4⟩ := r
    exact ⟨a, kvs, e, ⟨o, h1, fun z => h2 (mut_cut z)⟩, RVs.shorn hl ks _ b.1 h3, RVs.shorn hl vs _ b.2 h4⟩
  | .dtt ks vs, _, b, r => by
    simp only [belowV] at b
    simp only [RV] at r ⊢
    obtain ⟨a, kvs, e, ⟨o, h1, h2⟩, h3, h4⟩ := r
    exact ⟨a, kvs, e, ⟨o, h1, fun z => h2 (mut_cut z)⟩, h3, RVs.shorn hl vs _ b h4⟩
  | .ins _ fs, _, b, r => by
    simp only [belowV] at b
    simp only [RV] at r ⊢
    obtain ⟨a, vs, e1, ⟨ob, h1, h2, h3⟩, h4⟩ := r
    exact ⟨a, vs, e1, ⟨ob, h1, h2.imp fun _ _ q m _ => ⟨q, fun z => m (mut_cut z)⟩, fun z => h3 (mut_cut z)⟩, RVs.shorn hl fs vs b h4⟩
theorem RVs.shorn (hl : L ≤ w.phi.length) : ∀ (v : List VV) (y : List V), belowVs L v = true → RVs K G w H v y → RVs K G (w.cut L) H v y
  | [], _, _, r => by simp only [RVs] at r ⊢; exact r
  | x :: xs, _, b, r => by
    simp only [belowVs, Bool.and_eq_true] at b
    simp only [RVs] at r ⊢
    obtain ⟨y, ys, e, h1, h2⟩ := r
    exact ⟨y, ys, e, RV.shorn hl x y b.1 h1, RVs.shorn hl xs ys b.2 h2⟩
end
theorem RVo.shorn (hl : L ≤ w.phi.length) : ∀ (v : List (Option VV)) (y : List (Option V)), belowSs L v = true → RVo K G w H v y → RVo K G (w.cut L) H v y
  | [], _, _, r => by simp only [RVo] at r ⊢; exact r
  | none :: xs, _, b, r => by
    simp only [belowSs] at b
    simp only [RVo] at r ⊢
    obtain ⟨y, ys, e, h2⟩ := r
    exact ⟨y, ys, e, RVo.shorn hl xs ys b h2⟩
  | some x :: xs, _, b, r => by
    simp only [belowSs, Bool.and_eq_true] at b
    simp only [RVo] at r ⊢
    obtain ⟨y, ys, e, h1, h2⟩ := r
    exact ⟨y, ys, e, RV.shorn hl x y b.1 h1, RVo.shorn hl xs ys b.2 h2⟩
theorem RDt.shorn (hl : L ≤ w.phi.length) : ∀ {ks vs : List VV} {xs : List (NestedKey × Addr × Value)}, belowVs L ks = true → belowVs L vs = true → RDt K G w H ks vs xs → RDt K G (w.cut L) H ks vs xs
  | [], [], _, _, _, h => h
  | k :: ks, v :: vs, _, f, f', ⟨nk, b, u, y, r, e1, e2, e3, e4, e5, e6, e7⟩ => by
    simp only [belowVs, Bool.and_eq_true] at f f'
    exact ⟨nk, b, u, y, r, e1, e2, e3, RV.shorn hl _ _ f.1 e4, e5, RV.shorn hl _ _ f'.1 e6, RDt.shorn hl f.2 f'.2 e7⟩
  | [], _ :: _, _, _, _, h => h.elim
  | _ :: _, [], _, _, _, h => h.elim
theorem RO.shorn (hl : L ≤ w.phi.length) {a : Addr} : ∀ (o : VO), belowO L o = true → RO K G w H o a → RO K G (w.cut L) H o a
  | .lst xs, b, ⟨ys, h1, h2⟩ => ⟨ys, h1, RVs.shorn hl _ _ b h2⟩
  | .dead, _, r => r.elim
  | .tbl _ _, _, ⟨h0, ps, h1, h2, h3⟩ => ⟨h0, ps, h1, h2, fun pos cv q => by
    obtain ⟨c, e1, e2, e3⟩ := h3 pos cv q
    exact ⟨c, e1, e2, fun z => e3 (mut_cut z)⟩⟩
  | .dtt ks vs, b, ⟨kvs, h1, h2, h3⟩ => ⟨kvs, h1, h2, RVs.shorn hl _ _ b h3⟩
  | .dct ks vs, b, ⟨kvs, h1, h2, h3⟩ => by
    simp only [belowO, Bool.and_eq_true] at b
    exact ⟨kvs, h1, RVs.shorn hl _ _ b.1 h2, RVs.shorn hl _ _ b.2 h3⟩
  | .ins c m vs, b, ⟨dx, ⟨h1, h2⟩, h3⟩ => by
    simp only [belowO, Bool.and_eq_true] at b
    have bm := blt_lt b.1
    refine ⟨dx, ⟨?_, fun z hz => h2 z (cut_phi hz).2⟩, h3.imp id fun ⟨e, ys, h4, h5⟩ => ⟨e, ys, h4, RVo.shorn hl _ _ b.2 h5⟩⟩
    unfold Wd.cut
    rw [List.length_take]
    omega
  | .sub true, _, r => r
  | .sub false, _, r => r
  | .dtr ks vs, b, ⟨ob, xs, h1, h2, h3, h4⟩ => by
    simp only [belowO, Bool.and_eq_true] at b
    exact ⟨ob, xs, h1, h2, h3, RDt.shorn hl b.1 b.2 h4⟩
  | .lck _, _, r => r
end
end Mv
set_option Elab.async false
set_option linter.all false
set_option maxRecDepth 100000
namespace Mv
open PySem PySem.Spec PyProof.Rows L2
theorem mulC_small {i j : Int} (hi : i.natAbs < 2 ^ 4000) (hj : j.natAbs < 2 ^ 4000) : mulC i j = true := by
  have a := PySem.intBits_le_iff.mpr hi
  have b := PySem.intBits_le_iff.mpr hj
  unfold mulC
  rw [bitsN_eq, bitsN_eq]
  exact Nat.ble_eq_true_of_le (by omega)
theorem pylong_small {i j : Int} (hi : i.natAbs < 2 ^ 4000) (hj : 0 < j) : pylongN i j = false := by
  have a := PySem.intBits_le_iff.mpr hi
  exact (divp_ok hj (by omega)).2
section
variable {a b : ME} {sv : Sv} {h : VH} {l u l1 u1 l2 u2 : Int}
def Sm (u : Int) : Prop := u.natAbs < 2 ^ 4000
theorem Sm.of {i u : Int} (s : Sm u) (h0 : 0 ≤ i) (h1 : i ≤ u) : i.natAbs < 2 ^ 4000 := by
  unfold Sm at s
  exact Nat.lt_of_le_of_lt (by omega) s
theorem seqM_nx {a b : MS} {sl sl1 : Sl} {h h1 : VH} (e : a sl h = .nx sl1 h1) : seqM a b sl h = b sl1 h1 := by simp [seqM, e]
theorem seqM_rt {a b : MS} {sl : Sl} {v : VV} {h h1 : VH} (e : a sl h = .rt v h1) : seqM a b sl h = .rt v h1 := by simp [seqM, e]
end
theorem fn_rt {n np : Nat} {b : MS} {vs : List VV} {h h1 : VH} {v : VV} {sl : Sl} (l : vs.length = np) (e : startS n np vs = sl) (r : b sl h = .rt v h1) : fnM n np b vs h = .ok v h1 := by
  simp only [fnM, l, e, r, if_true]
theorem of_map {α β : Type} {f : α → β} {v : β} : ∀ {l : List α} {n : Nat}, l.map f = List.replicate n v → ∀ x ∈ l, f x = v
  | [], _, _, x, hx => by cases hx
  | a :: l, 0, e, x, hx => by cases e
  | a :: l, n + 1, e, x, hx => by
    rw [List.map_cons, List.replicate_succ] at e
    injection e with e1 e2
    rcases List.mem_cons.mp hx with z | z
    · rw [z]; exact e1
    · exact of_map e2 x z
theorem parts_ok {f : Int → Out VV} {v : Out VV} {c : Nat} (hc : 0 < c) {ps : List Nat} (e : ∀ k ∈ ps, (List.range c).map (fun i => f ((k * c + i : Nat) : Int)) = List.replicate c v) {n : Nat} (hn : n / c ∈ ps) : f (n : Int) = v := by
  have := of_map (e (n / c) hn) (n % c) (List.mem_range.mpr (Nat.mod_lt _ hc))
  rw [show n / c * c + n % c = n by rw [Nat.mul_comm]; exact Nat.div_add_mod n c] at this
  exact this
def isTrue (o : SOut) : Bool := match o with
  | .rt (.bl true) _ => true
  | _ => false
end Mv
set_option Elab.async false
set_option linter.all false
set_option maxRecDepth 100000
namespace Mv
open PySem PySem.Spec PyProof.Rows L2
mutual
def eqVV : VV → VV → Bool
  | .non, .non => true
  | .bl a, .bl b => a == b
  | .int i, .int j => decide (i = j)
  | .str x, .str y => decide (x = y)
  | .tup xs, .tup ys => eqVVs xs ys
  | .lst xs, .lst ys => eqVVs xs ys
  | .rol xs, .rol ys => eqVVs xs ys
  | .ktu xs, .ktu ys => eqVVs xs ys
  | .dct a b, .dct c d => eqVVs a c && eqVVs b d
  | .dtt a b, .dtt c d => eqVVs a c && eqVVs b d
  | .ins n xs, .ins m ys => Nat.beq n m && eqVVs xs ys
  | .ref n, .ref m => Nat.beq n m
  | .adr n, .adr m => Nat.beq n m
  | _, _ => false
def eqVVs : List VV → List VV → Bool
  | [], [] => true
  | x :: xs, y :: ys => eqVV x y && eqVVs xs ys
  | _, _ => false
end
mutual
theorem eqVV_ok : ∀ (a b : VV), eqVV a b = true → a = b := fun a b h => by
  cases a <;> cases b <;> first
    | rfl
    | (simp only [eqVV] at h; cases h; done)
    | (simp only [eqVV, beq_iff_eq] at h; subst h; rfl)
    | (simp only [eqVV, decide_eq_true_eq] at h; subst h; rfl)
    | (simp only [eqVV] at h; rw [Nat.eq_of_beq_eq_true h])
    | (simp only [eqVV] at h; rw [eqVVs_ok _ _ h])
    | (simp only [eqVV, Bool.and_eq_true] at h; rw [eqVVs_ok _ _ h.1, eqVVs_ok _ _ h.2])
    | (simp only [eqVV, Bool.and_eq_true] at h; rw [Nat.eq_of_beq_eq_true h.1, eqVVs_ok _ _ h.2])
theorem eqVVs_ok : ∀ (a b : List VV), eqVVs a b = true → a = b := fun a b h => by
  cases a with
  | nil =>
    cases b with
    | nil => rfl
    | cons _ _ => simp only [eqVVs] at h; cases h
  | cons x xs =>
    cases b with
    | nil => simp only [eqVVs] at h; cases h
    | cons y ys =>
      simp only [eqVVs, Bool.and_eq_true] at h
      rw [eqVV_ok x y h.1, eqVVs_ok xs ys h.2]
end
end Mv
set_option Elab.async false
set_option linter.all false
set_option maxRecDepth 100000
namespace Mv
open PySem PySem.Spec PyProof.Rows L2 SlX
def tyNames : List String := ["NoneType", "bool", "int", "str", "tuple", "list", "dict", "set"]
def clsSB (K : PySem.W.Frag) (C : Addr) : Bool := PySem.W.plainGet K C Str.empty && PySem.W.isClsIn K C && PySem.W.plainOver K C && decide (PySem.W.findIn K (.ref C) "__setattr__" = some (some (.builtin "object.__setattr__"))) &&
  decide (PySem.W.findIn K (.ref C) "__class__" = some (some (.builtin "object.__class__"))) && decide (PySem.W.specialIn K (.builtin "object.__class__") "__get__" = some (some (.builtin "getset_descriptor.__get__"))) &&
  decide (PySem.W.takesIn K (.builtin "object.__class__") = some true) && decide (PySem.W.mroIn K C (.type "object") = some true) && tyNames.all fun T => decide (PySem.W.kitOne K (.type T) (.ref C) = some false)
structure ClsS (K : PySem.W.Frag) (C : Addr) : Prop where
  c : SCls K C
  i : SIsi K C
  k : ∀ T : BTy, PySem.W.kitOne K (.type T.name) (.ref C) = some false
theorem clsSB_ok {K : PySem.W.Frag} {C : Addr} (h : clsSB K C = true) : ClsS K C := by
  unfold clsSB at h
  simp only [Bool.and_eq_true, decide_eq_true_eq] at h
  obtain ⟨⟨⟨⟨⟨⟨⟨⟨h1, h2⟩, h3⟩, h4⟩, h5⟩, h6⟩, h7⟩, h8⟩, h9⟩ := h
  refine ⟨⟨h1, h2, h3, h4⟩, ⟨h5, h6, h7, h8⟩, fun T => ?_⟩
  have := List.all_eq_true.mp h9
  cases T <;> exact of_decide_eq_true (this _ (by decide))
def slotB (K : PySem.W.Frag) (C : Addr) (f : Str) (i : Nat) : Bool := match PySem.W.findIn K (.ref C) f with
  | some (some (.ref p)) => decide (PySem.W.specialIn K (.ref p) "__get__" = some (some (.builtin "member_descriptor.__get__"))) && decide (PySem.W.takesIn K (.ref p) = some true) && decide (PySem.W.typeIn K (.ref p) = some (.type "member_descriptor")) &&
    decide (PySem.W.slotIn K p C = some i) && decide (i < 1000)
  | _ => false
theorem slotB_ok {K : PySem.W.Frag} {C : Addr} {f : Str} {i : Nat} (h : slotB K C f i = true) : ∃ p, Slot1 K C f p i := by
  unfold slotB at h
  split at h
  · rename_i p e
    simp only [Bool.and_eq_true, decide_eq_true_eq] at h
    obtain ⟨⟨⟨⟨h1, h2⟩, h3⟩, h4⟩, h5⟩ := h
    exact ⟨p, e, h1, h2, h3, h4, h5⟩
  · cases h
def mkB (K : PySem.W.Frag) (C f : Addr) : Bool := PySem.W.makesIn K C && decide (PySem.W.findIn K (.ref C) "__init__" = some (some (.ref f))) && PySem.W.isFn K (.ref f) && PySem.W.keepIn K (.ref C)
theorem mkB_ok {K : PySem.W.Frag} {C f : Addr} (h : mkB K C f = true) : Mk K C f := by
  unfold mkB at h
  simp only [Bool.and_eq_true, decide_eq_true_eq] at h
  obtain ⟨⟨⟨h1, h2⟩, h3⟩, h4⟩ := h
  exact ⟨h1, h2, h3, h4⟩
def methB (K : PySem.W.Frag) (C : Addr) (m : Str) (f : Addr) : Bool := decide (PySem.W.findIn K (.ref C) m = some (some (.ref f))) && PySem.W.isFn K (.ref f) && PySem.W.keepIn K (.ref f)
theorem methB_ok {K : PySem.W.Frag} {C f : Addr} {m : Str} (h : methB K C m f = true) : Meth K C m f := by
  unfold methB at h
  simp only [Bool.and_eq_true, decide_eq_true_eq] at h
  exact ⟨h.1.1, h.1.2, h.2⟩
def kitsB (K : PySem.W.Frag) (adr : Nat → Addr) (kt : List (Nat × Nat × Bool)) : Bool := kt.all fun p => decide (PySem.W.kitOne K (.ref (adr p.1)) (.ref (adr p.2.1)) = some p.2.2)
def ClT (K : PySem.W.Frag) (g : Gx) (cs : List Nat) : Prop := ∀ c, cs.contains c = true → ClsS K (g.adr c)
theorem clT_ok {K : PySem.W.Frag} {g : Gx} {cs : List Nat} (h : (cs.all fun c => clsSB K (g.adr c)) = true) : ClT K g cs := fun c hc => clsSB_ok (List.all_eq_true.mp h c (by simpa using hc))
def SlT (K : PySem.W.Frag) (g : Gx) (f : Str) (st : List (Nat × Nat)) : Prop := ∀ c i, st.lookup c = some i → SCls K (g.adr c) ∧ ∃ p, Slot1 K (g.adr c) f p i
theorem slT_ok {K : PySem.W.Frag} {g : Gx} {f : Str} {st : List (Nat × Nat)} (h : (st.all fun p => clsSB K (g.adr p.1) && slotB K (g.adr p.1) f p.2) = true) : SlT K g f st := fun c i e => by
  have hm : (c, i) ∈ st := by
    clear h
    induction st with
    | nil => cases e
    | cons p r ih =>
      obtain ⟨a, b⟩ := p
      rw [List.lookup_cons] at e
      split at e
      · rename_i q
        cases e
        have : c = a := by simpa using q
        subst this
        exact List.mem_cons_self
      · exact List.mem_cons_of_mem _ (ih e)
  have := List.all_eq_true.mp h _ hm
  rw [Bool.and_eq_true] at this
  exact ⟨(clsSB_ok this.1).c, slotB_ok this.2⟩
def canV : V → Value
  | .non => .none
  | .bl b => .bool b
  | .int i => .int i default
  | .str x => .str x default
  | .byt b => .bytes b default
  | .flt b => .float b default
  | .ref a => .ref a
  | .ty n => .type n
theorem can_ok (v : V) : RelV v (canV v) := by
  cases v <;> first | rfl | exact ⟨_, rfl⟩
theorem slO_not_code {a C dx : Addr} {ys : List (Option V)} {q : Str} : SlO a C dx ys ≠ LamX.CodeO a q := fun e => by
  unfold SlO LamX.CodeO at e
  injection e with e
  let sl : Array (Option Value) := (ys.map fun o => o.map canV).toArray
  let ob : Obj := { PySem.W.instObj C dx with slots := sl }
  let hp : Heap := { objs := Array.replicate (a + 1) ob }
  have hg : hp.get? a = some ob := by
    show (match (Array.replicate (a + 1) ob)[a]? with
      | some ⟨_, _, .freed, _⟩ => none
      | o => o) = some ob
    rw [Array.getElem?_replicate, if_pos (Nat.lt_succ_self a)]
  have h1 : ∃ sl : Array (Option Value), hp.get? a = some { PySem.W.instObj C dx with slots := sl } ∧ SlR ys sl := ⟨sl, hg, fun i v hv => ⟨canV v, by
    show (ys.map fun o => o.map canV).toArray[i]? = _
    rw [List.getElem?_toArray, List.getElem?_map, hv]
    rfl, can_ok v⟩⟩
  have h2 := congrFun e hp
  simp only at h2
  obtain ⟨oc, vs, t, g1, d1, _⟩ := h2.mp h1
  rw [hg] at g1
  cases g1
  cases d1
def putSO (i : Nat) (v : VV) (vs : List (Option VV)) : List (Option VV) := (vs ++ List.replicate (i + 1 - vs.length) none).set i (some v)
section
variable {K : PySem.W.Frag} {g : Gx} {w w1 : Wd} {H H1 : Hp} {h h1 : VH} {G : Gx} {n m c : Nat}
theorem RVo.length : ∀ {vs : List (Option VV)} {ys : List (Option V)}, RVo K G w H vs ys → vs.length = ys.length
  | [], _, r => by simp only [RVo] at r; subst r; rfl
  | none :: vs, _, r => by
    simp only [RVo] at r
    obtain ⟨y, l, rfl, r2⟩ := r
    simp [RVo.length r2]
  | some x :: vs, _, r => by
    simp only [RVo] at r
    obtain ⟨y, l, rfl, _, r2⟩ := r
    simp [RVo.length r2]
theorem RVo.get : ∀ {vs : List (Option VV)} {ys : List (Option V)} {i : Nat} {v : VV}, RVo K G w H vs ys → vs[i]? = some (some v) → ∃ y, ys[i]? = some (some y) ∧ RV K G w H v y
  | [], _, _, _, _, e => by simp at e
  | none :: vs, _, 0, _, _, e => by simp at e
  | none :: vs, _, i + 1, v, r, e => by
    simp only [RVo] at r
    obtain ⟨y, l, rfl, r2⟩ := r
    simpa using RVo.get r2 (by simpa using e)
  | some x :: vs, _, 0, v, r, e => by
    simp only [RVo] at r
    obtain ⟨y, l, rfl, r1, r2⟩ := r
    simp at e
    subst e
    exact ⟨y, rfl, r1⟩
  | some x :: vs, _, i + 1, v, r, e => by
    simp only [RVo] at r
    obtain ⟨y, l, rfl, r1, r2⟩ := r
    simpa using RVo.get r2 (by simpa using e)
theorem RVo.nones : ∀ n : Nat, RVo K G w H (List.replicate n none) (List.replicate n none)
  | 0 => by simp [RVo]
  | n + 1 => by
    simp only [List.replicate_succ, RVo]
    exact ⟨none, _, rfl, RVo.nones n⟩
theorem RVo.app : ∀ {vs vs' : List (Option VV)} {ys ys' : List (Option V)}, RVo K G w H vs ys → RVo K G w H vs' ys' → RVo K G w H (vs ++ vs') (ys ++ ys')
  | [], _, _, _, r, r' => by simp only [RVo] at r; subst r; exact r'
  | none :: vs, _, _, _, r, r' => by
    simp only [RVo] at r
    obtain ⟨y, l, rfl, r2⟩ := r
    simp only [List.cons_append, RVo]
    exact ⟨y, _, rfl, RVo.app r2 r'⟩
  | some x :: vs, _, _, _, r, r' => by
    simp only [RVo] at r
    obtain ⟨y, l, rfl, r1, r2⟩ := r
    simp only [List.cons_append, RVo]
    exact ⟨y, _, rfl, r1, RVo.app r2 r'⟩
theorem RVo.set : ∀ {vs : List (Option VV)} {ys : List (Option V)} (i : Nat) {v : VV} {y : V}, RVo K G w H vs ys → RV K G w H v y → RVo K G w H (vs.set i (some v)) (ys.set i (some y))
  | [], _, _, _, _, r, _ => by simp only [RVo] at r; subst r; simp [RVo]
  | none :: vs, _, 0, v, y, r, r' => by
    simp only [RVo] at r
    obtain ⟨z, l, rfl, r2⟩ := r
    simp only [List.set_cons_zero, RVo]
    exact ⟨y, l, rfl, r', r2⟩
  | some x :: vs, _, 0, v, y, r, r' => by
    simp only [RVo] at r
    obtain ⟨z, l, rfl, _, r2⟩ := r
    simp only [List.set_cons_zero, RVo]
    exact ⟨y, l, rfl, r', r2⟩
  | none :: vs, _, i + 1, v, y, r, r' => by
    simp only [RVo] at r
    obtain ⟨z, l, rfl, r2⟩ := r
    simp only [List.set_cons_succ, RVo]
    exact ⟨z, _, rfl, RVo.set i r2 r'⟩
  | some x :: vs, _, i + 1, v, y, r, r' => by
    simp only [RVo] at r
    obtain ⟨z, l, rfl, r1, r2⟩ := r
    simp only [List.set_cons_succ, RVo]
    exact ⟨z, _, rfl, r1, RVo.set i r2 r'⟩
theorem RVo.put {vs : List (Option VV)} {ys : List (Option V)} (i : Nat) {v : VV} {y : V} (r : RVo K G w H vs ys) (r' : RV K G w H v y) : RVo K G w H (putSO i v vs) (putS i y ys) := by
  unfold putSO putS
  rw [r.length]
  exact RVo.set i (RVo.app r (RVo.nones _)) r'
def insAt (h : VH) (n : Nat) : Option (Nat × Nat × List (Option VV)) := match h[n]? with
  | some (.ins c m vs) => (match h[m]? with
    | some (.sub b) => if b == !vs.isEmpty then some (c, m, vs) else none
    | _ => none)
  | _ => none
theorem insAt_ok {n : Nat} {y : V} {c m : Nat} {vs : List (Option VV)} (hk : Hk K g w h H) (r : RV K g w H (.ref n) y) (e : insAt h n = some (c, m, vs)) :
    ∃ a dx ys, y = .ref a ∧ Slt H a (g.adr c) dx ys ∧ RVo K g w H vs ys ∧ w.phi[n]? = some (some a) ∧ w.phi[m]? = some (some dx) ∧ h[n]? = some (.ins c m vs) ∧ (vs = [] → H a = some (.ins (g.adr c) dx [])) ∧ n ≠ m := by
  unfold insAt at e
  split at e
  · rename_i c' m' vs' e1
    split at e
    · rename_i b e2
      split at e
      · rename_i hb
        cases e
        obtain ⟨a, rfl, hn, ro⟩ := ref_obj hk r e1 (fun z => nomatch z)
        obtain ⟨dx, ⟨hm1, hm2⟩, hx⟩ := ro
        obtain ⟨d2, hd2⟩ := hk.has m _ e2 (fun z => nomatch z)
        have ed := hm2 d2 hd2
        subst ed
        obtain ⟨o2, q1, q2⟩ := hk.obj m d2 hd2
        rw [e2] at q1
        cases q1
        have nm : n ≠ m := fun z => by
          subst z
          rw [e1] at e2
          cases e2
        rcases hx with ⟨hv, hH⟩ | ⟨hv, ys, hH, hr⟩
        · subst hv
          exact ⟨a, d2, [], rfl, .inl ⟨hH, rfl⟩, by simp [RVo], hn, hd2, e1, fun _ => hH, nm⟩
        · have : b = true := by
            cases vs with
            | nil => exact absurd rfl hv
            | cons _ _ => simpa using hb
          subst this
          exact ⟨a, d2, ys, rfl, .inr ⟨hH, q2⟩, hr, hn, hd2, e1, fun z => absurd z hv, nm⟩
      · cases e
    · cases e
  · cases e
theorem Hk.refsetS {a : Addr} {o : HO} {vo : VO} (k : Hk K g w h H) (hn : w.phi[n]? = some (some a)) (r : RO K g w (upd H a o) vo a) (hs : Spc w a o) : Hk K g w (h.set n vo) (upd H a o) where
  len := by rw [List.length_set]; exact k.len
  inj := k.inj
  obj := fun m b hm => by
    have se : Sees w H w (upd H a o) := refset_sees hn
    obtain ⟨u, h1, h3⟩ := k.obj m b hm
    by_cases e : m = n
    · subst e
      rw [hn] at hm
      cases hm
      refine ⟨vo, ?_, r⟩
      rw [List.getElem?_set_self (List.getElem?_eq_some_iff.mp h1).1]
    · refine ⟨u, by rw [List.getElem?_set_ne (Ne.symm e)]; exact h1, RO.mono se u b (fun z q => ?_) h3⟩
      rw [upd_ne (show b ≠ a from fun z => e (k.inj m n a (by rw [← z]; exact hm) hn))]
      exact q
  has := fun m u hm hu => by
    by_cases e : m = n
    · subst e
      exact ⟨a, hn⟩
    · rw [List.getElem?_set_ne (Ne.symm e)] at hm
      exact k.has m u hm hu
  prot := fun b hb => by
    obtain ⟨h1, h2⟩ := k.prot b hb
    refine ⟨?_, h2⟩
    by_cases e : b = a
    · rw [e, upd_same]
      simp
    · rw [upd_ne e]
      exact h1
  own := k.own
  ownI := k.ownI
  spc := fun b u q => by
    by_cases e : b = a
    · subst e
      rw [upd_same] at q
      cases q
      exact hs
    · rw [upd_ne e] at q
      exact k.spc b u q
theorem hk_slot {a dx : Addr} {i : Nat} {v : VV} {y : V} {vs : List (Option VV)} {ys : List (Option V)} (k : Hk K g w h H) (hn : w.phi[n]? = some (some a)) (hm : w.phi[m]? = some (some dx)) (hh : h[n]? = some (.ins c m vs)) (nm : n ≠ m) (hs : Slt H a (g.adr c) dx ys)
    (rs : RVo K g w H vs ys) (r : RV K g w H v y) (e0 : vs = [] → H a = some (.ins (g.adr c) dx [])) : ExtS w H w (slH H a (g.adr c) dx (putS i y ys)) ∧ Hk K g w ((h.set m (.sub true)).set n (.ins c m (putSO i v vs))) (slH H a (g.adr c) dx (putS i y ys)) ∧ ∀ {sl : Sl} {σ : L2.St}, RF K g w H sl σ → RF K g w (slH H a (g.adr c) dx (putS i y ys)) sl σ := by
  unfold slH
  have k1 : Hk K g w (h.set m (.sub true)) (upd H dx (.xd [])) := k.refsetO hm upd_same
  have s1 : Sees w H w (upd H dx (.xd [])) := refset_sees hm
  have s2 : Sees w (upd H dx (.xd [])) w (upd (upd H dx (.xd [])) a (SlO a (g.adr c) dx (putS i y ys))) := refset_sees hn
  have len1 := (List.getElem?_eq_some_iff.mp hm).1
  refine ⟨(refset_ext k hm).trans (refset_ext k1 hn), k1.refsetS hn ⟨dx, ⟨len1, fun b hb => by rw [hm] at hb; cases hb; rfl⟩, .inr ⟨?_, _, upd_same, RVo.put i (RVo.mono (s1.trans s2) _ _ rs) (RV.mono (s1.trans s2) _ _ r)⟩⟩ (fun ⟨q, z⟩ => absurd z slO_not_code), fun f => (f.refset k hm).refset k1 hn⟩
  intro z
  have := congrArg List.length z
  unfold putSO at this
  simp only [List.length_set, List.length_append, List.length_replicate, List.length_nil] at this
  omega
end
def attrM (st : List (Nat × Nat)) (a : ME) : ME := fun sv h => (a sv h).bind fun x h1 => match x with
  | .ref n => (match insAt h1 n with
    | some (c, _, vs) => (match st.lookup c with
      | some i => (match vs[i]? with
        | some (some v) => .ok v h1
        | _ => .bad)
      | none => .bad)
    | none => .bad)
  | _ => .bad
section
variable {X : Cx} {g : Gx} {W : WX} {e o value : Expr} {es : List Expr} {m mo me : ME} {ma : MA} {pos pos' apos p : Pos} {f x : Str}
theorem re_attr {st : List (Nat × Nat)} (T : SlT X.K g f st) (he : RE X g W e m) (hb : attributeBase e f X.env (eval e X.env) = eval e X.env := by rfl) : RE X g W (.Attribute e f pos) (attrM st m) :=
  pe_imp (pe_sl he hb) fun σ H Q ⟨w, sv, h, rs, hk, pp⟩ => seqG' rs hk pp fun w1 H1 h1 v y e1 rs1 k1 r1 p1 => by
    split at p1
    · rename_i n
      split at p1
      · rename_i c mm vs ei
        split at p1
        · rename_i i el
          split at p1
          · rename_i u eu
            obtain ⟨a, dx, ys, rfl, hs, ro, _⟩ := insAt_ok k1 r1 ei
            obtain ⟨cc, pd, sd⟩ := T c i el
            obtain ⟨z, hz, rz⟩ := ro.get eu
            exact ⟨a, _, dx, pd, ys, i, z, rfl, hs, cc, sd, hz, Post.here p1 k1 rz⟩
          · exact p1.elim
        · exact p1.elim
      · exact p1.elim
    · exact p1.elim
def setSlM (st : List (Nat × Nat)) (mo me : ME) : MS := fun sl h => (me (view sl) h).toS sl fun v h1 => (mo (view sl) h1).toS sl fun x h2 => match x with
  | .ref n => (match insAt h2 n with
    | some (c, m, vs) => (match st.lookup c with
      | some i => .nx sl ((h2.set m (.sub true)).set n (.ins c m (putSO i v vs)))
      | none => .bad)
    | none => .bad)
  | _ => .bad
theorem rs_attr {st : List (Nat × Nat)} (T : SlT X.K g f st) (he : RE X g W value me) (ho : RE X g W o mo) (hs : swapsWith value (some (.Attribute o f pos')) pos.line X.env = pure false := by rfl) : RS X g W (.Assign [.Attribute o f pos'] value pos) (setSlM st mo me) :=
  ps_imp (ps_sl ho he hs) fun D σ H ⟨w, sl, h, fr, k, pp⟩ => by
    refine seqS fr k pp fun w1 H1 h1 v y e1 f1 k1 r1 p1 => ?_
    refine seqS f1 k1 p1 fun w2 H2 h2 v2 y2 e2 f2 k2 r2 p2 => ?_
    split at p2
    · rename_i n
      split at p2
      · rename_i c mm vs ei
        split at p2
        · rename_i i el
          obtain ⟨a, dx, ys, rfl, hs, ro, hn, hm, hh, h0, nm⟩ := insAt_ok k2 r2 ei
          obtain ⟨cc, pd, sd⟩ := T c i el
          obtain ⟨q1, q2, q3⟩ := hk_slot (i := i) k2 hn hm hh nm hs ro (RV.mono e2.sees _ _ r1) h0
          exact ⟨a, _, dx, pd, ys, i, rfl, hs, cc, sd, p2 w2 _ σ q1 q2 (q3 f2)⟩
        · exact p2.elim
      · exact p2.elim
    · exact p2.elim
def makeM (c : Nat) (mf : MF) (a : MA) : ME := fun sv h => (a sv h).bind fun vs h1 => (mf (.ref (h1.length + 1) :: vs) (h1 ++ [.sub false, .ins c h1.length []])).bind fun r h2 => match r with
  | .non => .ok (.ref (h1.length + 1)) h2
  | _ => .bad
theorem run_makeS {CX : CXT} {k : Nat} {f C : Addr} {fd : FuncData} {ps : List Str} {sp : Sp} {E : L2.St → XK} {pins : List (Addr × Obj)} {σ : L2.St} {H : Hp} {s : Shared} {Q : VK} {us : List Value} {vs : List V} (M : Mk X.K C f) (F : FnOk X.prog X.w X.K X.mg X.base CX k f fd ps sp) (hr : Room (k + 1) X.A) (hb : Binds X.K fd ps [])
    (hx : PassesAt CX X σ (E σ)) (I : Inv X pins σ H s) (r : Vals vs us)
    (h : ∀ x dx, H x = none → H dx = none → dx ≠ x → sp (.ref x :: vs) (upd (upd H dx (.own x)) x (.ins C dx [])) (fun v H2 => v = .non ∧ Q (.ref x) H2) (E σ)) :
    wpAny (model X.prog X.w) X.A (call (.ref C) us) (EP X pins σ Q) X.xe s := by
  have hq := h (s.heap.objs.size + 1) s.heap.objs.size (I.hok.fresh (Nat.le_succ _)) (I.hok.fresh (Nat.le_refl _)) (Nat.ne_of_lt (Nat.lt_succ_self _))
  have I2 := Inv.made (C := C) I
  have r2 : Vals (V.ref (s.heap.objs.size + 1) :: vs) (Value.ref (s.heap.objs.size + 1) :: us) := .cons rfl r
  have hl : (Value.ref (s.heap.objs.size + 1) :: us).length = ps.length := by
    have e := r2.length
    rw [F.len _ _ _ _ hq] at e
    exact e.symm
  have b := hb _ (Value.ref (s.heap.objs.size + 1) :: us) I2.kIn (by rw [List.append_nil]; exact hl)
  rw [List.append_nil] at b
  refine wpAny_call (make_map (f := f) I.kIn M.makes M.init (beq_iff_eq.mp M.fn) (codeAny_mono (F.run _ X.stack _ _ ⟨Value.ref (s.heap.objs.size + 1) :: us, []⟩ (Value.ref (s.heap.objs.size + 1) :: us) _ _ (E σ) (hr.make C us [])
    (I2.env0.make C us []) b r2 hq) fun r s' hq' => ?_))
  cases r with
  | error e => exact hx pins _ _ e s' I2 hq'
  | ok fl =>
    cases fl with
    | ret u =>
      obtain ⟨v, H', I3, rv, ev, q3⟩ := I2.after hq'
      subst ev
      exact ⟨rv, ⟨V.ref (s.heap.objs.size + 1), H', I3, rfl, q3⟩⟩
    | next => exact False.elim hq'
    | brk => exact False.elim hq'
    | cont => exact False.elim hq'
theorem pe_makeS {CX : CXT} {k : Nat} {f C : Addr} {fd : FuncData} {ps : List Str} {sp : Sp} {E : L2.St → XK} {t : TA} (M : Mk X.K C f) (F : FnOk X.prog X.w X.K X.mg X.base CX k f fd ps sp) (hr : Room (k + 1) X.A) (hg : Gl X x) (hm : X.mg x = some (.ref C)) (hb : Binds X.K fd ps [])
    (hx : ∀ σ, PassesAt CX X σ (E σ)) (ha : PA X (e :: es) t) (hdb : (x == ("__debug__" : Str)) = false := by decide) (he : starEach (e :: es) X.env = (false, eval e X.env) :: starEach es X.env := by rfl) (hpl : (backTo pos (starEach es X.env)).any (·.1) = false := by rfl) :
    PE X (.Call (.Name x p) (e :: es) [] pos) (fun σ H Q => t σ H fun vs H1 => ∀ x dx, H1 x = none → H1 dx = none → dx ≠ x → sp (.ref x :: vs) (upd (upd H1 dx (.own x)) x (.ins C dx [])) (fun v H2 => v = .non ∧ Q (.ref x) H2) (E σ)) := by
  refine ⟨fun pins s σ H Q I h => ?_⟩
  refine wpAny_Call_Name_kw (ld_glob I hg hm ?_ hdb)
  refine PySem.W.callWith_K (h₀ := X.base) I.ok.mod.kin M.kp (thn (ha.run pos pins s σ H _ I h) fun us s1 ⟨vs, H1, I1, r, q⟩ => ⟨I1.kIn, ?_⟩) he hpl
  exact run_makeS M F hr hb (hx σ) I1 r q
theorem re_make {c j k : Nat} {fi : Addr} {ps : List Str} {mf : MF} (F : OkF X.prog X.w X.K X.mg g j fi ps mf) (M : Mk X.K (g.adr c) fi) (hr : Room k X.A) (hm : X.mg x = some (.ref (g.adr c))) (tk : Takes X W) (ha : RA X g W (e :: es) ma) (hj : j + 1 ≤ k := by omega) (hg : Gl X x := by rfl)
    (hdb : (x == ("__debug__" : Str)) = false := by decide) (he : starEach (e :: es) X.env = (false, eval e X.env) :: starEach es X.env := by rfl) (hpl : (backTo pos (starEach es X.env)).any (·.1) = false := by rfl) :
    RE X g W (.Call (.Name x p) (e :: es) [] pos) (makeM c mf ma) := by
  obtain ⟨fd, F, B, kp, _⟩ := F
  refine pe_imp (pe_makeS (E := WE W) M (F X.base) (hr.mono hj) hg hm B (fun σ => passAt tk σ) ha hdb he hpl) fun σ H Q ⟨w, sv, h, rs, hk, pp⟩ => ?_
  refine seqG' rs hk pp fun w1 H1 h1 vs ys e1 rs1 k1 r1 p1 => fun x dx hx hdx ne => ?_
  have ex1 := Ext.push (o := .own x) k1 hdx
  have kk1 : Hk X.K g (w1.push dx) (h1 ++ [.sub false]) (upd H1 dx (.own x)) := Hk.push k1 hdx ⟨x, upd_same⟩
  have hx2 : (upd H1 dx (.own x)) x = none := by rw [upd_ne (Ne.symm ne)]; exact hx
  have ex2 := Ext.push (o := .ins (g.adr c) dx []) kk1 hx2
  have el : (h1 ++ [VO.sub false]).length = h1.length + 1 := by simp
  have kk2 : Hk X.K g ((w1.push dx).push x) ((h1 ++ [.sub false]) ++ [.ins c h1.length []]) (upd (upd H1 dx (.own x)) x (.ins (g.adr c) dx [])) := Hk.push kk1 hx2 ⟨dx, ⟨by
    unfold Wd.push
    simp only [List.length_append, List.length_cons, List.length_nil]
    have := k1.len
    omega, fun b hb => by
    unfold Wd.push at hb
    rw [List.append_assoc, List.getElem?_append_right (by rw [k1.len]; exact Nat.le_refl _), k1.len] at hb
    simp at hb
    exact hb.symm⟩, .inl ⟨rfl, upd_same⟩⟩
  have rx : RV X.K g ((w1.push dx).push x) (upd (upd H1 dx (.own x)) x (.ins (g.adr c) dx [])) (.ref (h1.length + 1)) (.ref x) := by
    have := ref_new (H' := upd (upd H1 dx (.own x)) x (.ins (g.adr c) dx [])) (q := x) kk1
    rw [el] at this
    exact this
  have ex := ex1.trans ex2
  rw [List.append_assoc] at kk2
  refine ⟨_, _, .ref (h1.length + 1) :: vs, kk2, ?_, ?_⟩
  · simp only [RVs]
    exact ⟨_, ys, rfl, rx, RVs.mono ex.sees _ _ r1⟩
  · simp only [List.cons_append, List.nil_append] at p1 ⊢
    cases q : mf (.ref (h1.length + 1) :: vs) (h1 ++ [.sub false, .ins c h1.length []]) with
    | ok v h2 =>
      rw [q] at p1
      simp only [Out.bind] at p1
      split at p1
      · intro w' H' y e3 k3 r3
        simp only [relV, RV] at r3
        exact ⟨r3, p1 w' H' (.ref x) (ex.trans e3) k3 (RV.mono e3.sees _ _ rx)⟩
      · exact p1.elim
    | exc xx h2 =>
      rw [q] at p1
      exact fun w' H' cls d e3 k3 r3 => p1 w' H' cls d (ex.trans e3) k3 r3
    | bad => rw [q] at p1; exact p1.elim
end
def isiCF (cs : List Nat) (kt : List (Nat × Nat × Bool)) : VF := fun xs h => match xs with
  | [x, .adr t] => if cs.contains t then (match tyOf h x with
    | some _ => .ok (.bl false) h
    | none => (match x with
      | .ref n => (match insAt h n with
        | some (c, _, _) => (match kt.find? fun p => p.1 == c && p.2.1 == t with
          | some p => if cs.contains c then .ok (.bl p.2.2) h else .bad
          | none => .bad)
        | none => .bad)
      | _ => .bad)) else .bad
  | _ => .bad
theorem isiCS {K : PySem.W.Frag} {g : Gx} {cs : List Nat} {kt : List (Nat × Nat × Bool)} (T : ClT K g cs) (k : kitsB K g.adr kt = true) : CallS K g (rIsiY K) (isiCF cs kt) := by
  intro w h H σ W Q xs vs hk r p
  unfold isiCF at p
  split at p
  · rename_i x t
    split at p
    · rename_i ht
      obtain ⟨y, y', rfl, r1, r2⟩ := r.two
      simp only [RV] at r2
      subst r2
      split at p
      · rename_i u e
        exact ⟨y, _, _, _, _, rfl, .own _, tyOf_ok hk r1 e, (T t ht).k u, post_bl p hk⟩
      · split at p
        · rename_i n
          split at p
          · rename_i c mm us ei
            split at p
            · rename_i pr ep
              split at p
              · rename_i hc
                obtain ⟨a, dx, ys, rfl, hs, _⟩ := insAt_ok hk r1 ei
                have h1 := List.find?_some ep
                have h2 := List.mem_of_find?_eq_some ep
                have h3 := of_decide_eq_true (List.all_eq_true.mp k _ h2)
                simp only [Bool.and_eq_true, beq_iff_eq] at h1
                rw [h1.1, h1.2] at h3
                exact ⟨_, _, _, _, _, rfl, .own _, .sl hs (T c hc).c (T c hc).i, h3, post_bl p hk⟩
              · exact p.elim
            · exact p.elim
          · exact p.elim
        · exact p.elim
    · exact p.elim
  · exact p.elim
end Mv
set_option Elab.async false
set_option linter.all false
set_option maxRecDepth 100000
namespace Mv
open PySem PySem.Spec PyProof.Rows L2 SlX
section
variable {X : Cx} {g : Gx} {W : WX} {l : String}
end
def setSlsGo : List (List (Nat × Nat) × ME) → List VV → MS
  | [], [] => fun sl h => .nx sl h
  | t :: ts, v :: vs => fun sl h => (t.2 (view sl) h).toS sl fun x h1 => match x with
    | .ref n => (match insAt h1 n with
      | some (c, m, us) => (match t.1.lookup c with
        | some i => setSlsGo ts vs sl ((h1.set m (.sub true)).set n (.ins c m (putSO i v us)))
        | none => .bad)
      | none => .bad)
    | _ => .bad
  | _, _ => fun _ _ => .bad
def setSlsM (ts : List (List (Nat × Nat) × ME)) (me : ME) : MS := fun sl h => (me (view sl) h).toS sl fun v h1 => match v with
  | .tup vs => if vs.length == ts.length then setSlsGo ts vs sl h1 else .bad
  | _ => .bad
section
variable {X : Cx} {g : Gx} {W : WX} {e o value : Expr} {es : List Expr} {m mo me : ME} {ma : MA} {pos pos' apos p tpos : Pos} {f x : Str} {kk : Nat}
def gAttr (K : PySem.W.Frag) (f : Str) (ta : TE) : TG := fun v σ H Q => ta σ H fun x H1 => ∃ a C dx p vs i, x = .ref a ∧ Slt H1 a C dx vs ∧ SCls K C ∧ Slot1 K C f p i ∧ Q σ (slH H1 a C dx (putS i v vs))
theorem pg_attr {ta : TE} (ho : PE X o ta) (ha : ∀ v, assign (.Attribute o f pos) X.env v = (do
      let ov ← holding [v] (eval o X.env)
      standAt pos.atName
      holding [v, ov] (setAttr ov f v)
      release [v, ov] []) := by intro _; rfl) : PG X (.Attribute o f pos) (gAttr X.K f ta) := by
  refine ⟨fun pins s σ H v u Q I r h => ?_⟩
  rw [ha]
  refine wpAny_bind (wpAny_holding (thn (ho.run pins s σ H _ I h) fun ov s1 ⟨x, H1, I1, r1, a, C, dx, p, vs, i, ex, hsl, c, t, q⟩ => ?_))
  subst ex
  obtain rfl : ov = Value.ref a := r1
  refine wpAny_bind (wpAny_standAt (wpAny_bind (wpAny_holding (setslot_ok I1 hsl c t r fun s2 I2 => ?_))))
  exact wpAny_release ⟨σ, _, I2, q⟩
def tGo (K : PySem.W.Frag) (g : Gx) (W : WX) (ts : List (List (Nat × Nat) × ME)) : TGs := fun vs σ H Q => ∃ w sl h xs, RF K g w H sl σ ∧ Hk K g w h H ∧ RVs K g w H xs vs ∧ PostS K g w H ⟨Q, fun _ _ => False, fun _ _ => False, fun _ _ => False⟩ W (setSlsGo ts xs sl h)
abbrev RTg (X : Cx) (g : Gx) (W : WX) (es : List Expr) (ts : List (List (Nat × Nat) × ME)) : Prop := PGs X es (tGo X.K g W ts)
theorem pgs_imp2 {es : List Expr} {t t' : TGs} (h : PGs X es t) (i : ∀ vs σ H Q, t' vs σ H Q → t vs σ H Q) : PGs X es t' := ⟨fun pins s σ H vs us Q I r q => h.run pins s σ H vs us Q I r (i vs σ H Q q)⟩
theorem rtg_nil : RTg X g W [] [] := pgs_imp2 pgs_nil fun vs σ H Q ⟨w, sl, h, xs, f, k, r, p⟩ => by
  cases xs with
  | nil =>
    simp only [RVs] at r
    exact ⟨r, p w H σ (ExtS.refl _ _) k f⟩
  | cons x xs => exact p.elim
theorem rtg_cons {st : List (Nat × Nat)} {ts : List (List (Nat × Nat) × ME)} (T : SlT X.K g f st) (ho : RE X g W o mo) (hr : RTg X g W es ts) (ha : ∀ v, assign (.Attribute o f pos) X.env v = (do
      let ov ← holding [v] (eval o X.env)
      standAt pos.atName
      holding [v, ov] (setAttr ov f v)
      release [v, ov] []) := by intro _; rfl) (hs : (assignEach (.Attribute o f pos :: es) X.env).map (·.2) = assign (.Attribute o f pos) X.env :: (assignEach es X.env).map (·.2) := by rfl) : RTg X g W (.Attribute o f pos :: es) ((st, mo) :: ts) :=
  pgs_imp2 (pgs_cons (pg_attr ho ha) hr hs) fun vs σ H Q ⟨w, sl, h, xs, fr, k, r, p⟩ => by
    cases xs with
    | nil => exact p.elim
    | cons v us =>
      simp only [RVs] at r
      obtain ⟨y, ys, rfl, r1, r2⟩ := r
      refine ⟨y, ys, rfl, ?_⟩
      refine seqS fr k p fun w1 H1 h1 x z e1 f1 k1 rz p1 => ?_
      split at p1
      · rename_i n
        split at p1
        · rename_i c mm vs ei
          split at p1
          · rename_i i el
            obtain ⟨a, dx, zs, rfl, hsl, ro, hn, hm, hh, h0, nm⟩ := insAt_ok k1 rz ei
            obtain ⟨cc, pd, sd⟩ := T c i el
            obtain ⟨q1, q2, q3⟩ := hk_slot (i := i) k1 hn hm hh nm hsl ro (RV.mono e1.sees _ _ r1) h0
            exact ⟨a, _, dx, pd, zs, i, rfl, hsl, cc, sd, w1, sl, _, us, q3 f1, q2, RVs.mono (e1.trans q1).sees _ _ r2, PostS.mono q1 p1⟩
          · exact p1.elim
        · exact p1.elim
      · exact p1.elim
theorem rs_attrs {ts : List (List (Nat × Nat) × ME)} {n : Nat} (hc : X.calm = true) (he : RE X g W value me) (ht : RTg X g W es ts) (hn : (assignEach es X.env).length = n := by rfl) (hl : ts.length = n := by rfl) (hst : (assignEach es X.env).findIdx? (·.1) = none := by rfl)
    (hs : swapsWithSole [.Tuple es kk tpos] value pos.line X.env = pure false := by rfl) (hw : swappedStores [.Tuple es kk tpos] value X.env = pure none := by rfl)
    (h1 : (assignEach [.Tuple es kk tpos] X.env).map (·.2) = [assign (.Tuple es kk tpos) X.env] := by rfl) : RS X g W (.Assign [.Tuple es kk tpos] value pos) (setSlsM ts me) :=
  ps_imp (ps_asg he (pg_tup hc ht hn hst) hs hw h1) fun D σ H ⟨w, sl, h, fr, k, pp⟩ => by
    refine seqS fr k pp fun w1 H1 h1 v y e1 f1 k1 r1 p1 => ?_
    split at p1
    · rename_i vs
      split at p1
      · rename_i hlen
        have hlen : vs.length = ts.length := by simpa using hlen
        obtain ⟨a, ys, rfl, r2, st⟩ := RV.tup_st r1
        refine ⟨a, ys, rfl, st w1 H1 (Sees.refl _ _), by rw [← r2.length, hlen, hl], w1, sl, h1, vs, f1, k1, r2, ?_⟩
        have key : ∀ (ts : List (List (Nat × Nat) × ME)) (vs : List VV) (sl : Sl) (h : VH), (∃ sl1 h1, setSlsGo ts vs sl h = .nx sl1 h1) ∨ (∃ x sl1 h1, setSlsGo ts vs sl h = .exc x sl1 h1) ∨ setSlsGo ts vs sl h = .bad := by
          intro ts
          induction ts with
          | nil =>
            intro vs sl h
            cases vs with
            | nil => exact .inl ⟨_, _, rfl⟩
            | cons _ _ => exact .inr (.inr rfl)
          | cons t ts ih =>
            intro vs sl h
            cases vs with
            | nil => exact .inr (.inr rfl)
            | cons v vs =>
              unfold setSlsGo
              cases t.2 (view sl) h with
              | ok x h1 =>
                simp only [Out.toS]
                split
                · split
                  · split
                    · exact ih vs sl _
                    · exact .inr (.inr rfl)
                  · exact .inr (.inr rfl)
                · exact .inr (.inr rfl)
              | exc x h1 => exact .inr (.inl ⟨_, _, _, rfl⟩)
              | bad => exact .inr (.inr rfl)
        rcases key ts vs sl h1 with ⟨s2, h2, e⟩ | ⟨x, s2, h2, e⟩ | e
        · rw [e] at p1 ⊢; exact p1
        · rw [e] at p1 ⊢; exact p1
        · rw [e] at p1; exact p1.elim
      · exact p1.elim
    · exact p1.elim
end
end Mv
set_option Elab.async false
set_option linter.all false
set_option maxRecDepth 100000
namespace Mv
open PySem PySem.Spec PyProof.Rows L2
section
variable {X : Cx} {g : Gx} {W : WX} {e o : Expr} {es : List Expr} {m mo me : ME} {ma : MA} {pos apos cpos p : Pos} {t : TA} {te to : TE}
theorem pe_ktup {x1} (h : PA X es t) : PE X (.Tuple es x1 pos) (fun σ H Q => t σ H fun xs H1 => xs.length ≤ sizeLine ∧ ∀ q ob, H1 q = none → ob.dict = none → Q (.ref q) (upd H1 q (.frz ob (.tup xs)))) := by
  refine ⟨fun pins s σ H Q I hq => ?_⟩
  refine wpAny_Tuple_spliced (thn (h.run pos pins s σ H _ I hq) fun us s1 ⟨xs, H1, I1, r, z, q⟩ => ⟨by rw [← r.length]; exact z, ?_⟩)
  have hf : H1 s1.heap.objs.size = none := I1.hok.fresh (Nat.le_refl _)
  refine ⟨.ref s1.heap.objs.size, upd H1 s1.heap.objs.size (.frz { cls := .type "tuple", data := .seq us.toArray } (.tup xs)), I1.laid (t' := s1.toks) (fun b u e => Heap.get?_push_of_some _ e) (Nat.le_refl _) ?_, rfl, q _ _ hf rfl⟩
  exact ⟨Heap.get?_push_size _ rfl, z, us, r, ⟨_, Heap.get?_push_size _ rfl, rfl, _, rfl⟩⟩
theorem post_newk {K : PySem.W.Frag} {w : Wd} {H : Hp} {σ : L2.St} {h : VH} {Q : VK} {xs : List VV} {ys : List V} {q : Addr} {ob : Obj} (po : Post K g (relV K g) w H σ Q W (.ok (.ktu xs) h)) (k : Hk K g w h H) (r : RVs K g w H xs ys) (hp : H q = none) (hd : ob.dict = none) : Q (.ref q) (upd H q (.frz ob (.tup ys))) :=
  po w _ _ (Ext.grow k hp) (Hk.grow k hp) (by
    simp only [relV, RV]
    exact ⟨q, ys, rfl, .inr ⟨ob, upd_same, hd, k.fresh hp⟩, RVs.mono (Ext.grow k hp).sees _ _ r⟩)
def ktupM (a : MA) : ME := fun sv h => (a sv h).bind fun xs h1 => if fits xs.length then .ok (.ktu xs) h1 else .bad
theorem re_ktup {x1} (ha : RA X g W es ma) : RE X g W (.Tuple es x1 pos) (ktupM ma) :=
  pe_imp (pe_ktup ha) fun σ H Q ⟨w, sv, h, rs, hk, p⟩ => by
    refine seqG' rs hk p fun w1 H1 h1 v y e1 rs1 k1 r1 p1 => ?_
    split at p1
    · rename_i hf
      exact ⟨by rw [← RVs.length r1]; exact fits_le hf, fun q ob hq hd => post_newk p1 k1 r1 hq hd⟩
    · exact p1.elim
theorem mt_tupIndexF : MtR X "tuple.index" (fun x xs H Q => ∃ (a : Addr) (ys : List V) (y : V) (j : Nat) (z : V), x = V.ref a ∧ xs = [y] ∧ SqT X.K H a ys ∧ flatV y = true ∧ ys.all flatV = true ∧ ys[j]? = some z ∧ L2.eqV z y = true ∧
  (∀ (m : Nat) (z' : V), m < j → ys[m]? = some z' → L2.eqV z' y = false) ∧ Q (.int (j : Nat)) H) := by
  intro pins s σ H x xs v us Q I rx rxs h
  obtain ⟨a, ys, y, j, z, rfl, rfl, hs, fy, fys, hz, hzj, hno, q⟩ := h
  cases rx
  cases rxs with
  | cons ry rt =>
    rename_i uy ut
    cases rt
    obtain ⟨its, rv, pl, hlen⟩ := I.tuple hs
    obtain ⟨⟨cls, dd, data, sl⟩, ho, hc, n, hd⟩ := pl
    simp only at hc hd
    subst hc hd
    obtain ⟨u, hu, ru⟩ := rv.get hz
    obtain ⟨hjl, hje⟩ := List.getElem?_eq_some_iff.mp hu
    have hvl := rv.length
    have hj : j < its.toArray.size := by simpa using hjl
    refine call_meets PySem.F.slot_tuple_index ⟨_, ho, rfl⟩ PySem.F.entry_tuple_index (PySem.F.args_tuple_index_2 _ _)
      (TI.tuple_indexAt a its.toArray n dd sl uy (eqU y) j hj ?_ ?_) ⟨ho, fun u' hu' => mem_eqAt ry fy rv fys u' (by simpa using hu'), ?_⟩
    · have e1 : its.toArray[j] = u := by simpa using hje
      rw [e1, eqU_of ru (flat_at fys hz)]
      exact hzj
    · intro m hm hmj
      have hml : m < its.length := by simpa using hm
      have hmy : m < ys.length := by omega
      have hy' : ys[m]? = some ys[m] := List.getElem?_eq_getElem hmy
      obtain ⟨u2, hu2, ru2⟩ := rv.get hy'
      obtain ⟨_, hme⟩ := List.getElem?_eq_some_iff.mp hu2
      have e1 : its.toArray[m] = u2 := by simpa using hme
      rw [e1, eqU_of ru2 (flat_at fys hy')]
      exact hno m _ hmj hy'
    · exact ⟨.int (j : Nat), H, I.tok _, ⟨_, rfl⟩, q⟩
def Pln (K : PySem.W.Frag) (H : Hp) (a : Addr) (ys : List V) : Prop := KTup K a ys ∨ ∃ o, H a = some (.frz o (.tup ys)) ∧ o.dict = none
theorem pln_is {pins : List (Addr × Obj)} {σ : L2.St} {H : Hp} {s : Shared} {a : Addr} {ys : List V} (I : Inv X pins σ H s) (h : Pln X.K H a ys) : s.TypeIs (.ref a) "tuple" ∧ ∀ b, Value.ref a = .ref b → ∃ ob, s.heap.get? b = some ob ∧ ob.dict = none := by
  rcases h with ⟨o, its, n, h1, h2, h3, _, h4, h5⟩ | ⟨o, h1, h2⟩
  · exact ⟨⟨o, I.kIn _ _ h1, h2⟩, fun b e => by cases e; exact ⟨o, I.kIn _ _ h1, h5⟩⟩
  · obtain ⟨g0, _, its, r, ⟨o2, g1, g2, n2, g3⟩⟩ := (show ObjOk X.prog X.w H s.heap a (.frz o (.tup ys)) from I.hok a _ h1)
    exact ⟨⟨o2, g1, g2⟩, fun b e => by cases e; exact ⟨o, g0, h2⟩⟩
def rIdx (K : PySem.W.Frag) (a : Addr) (ys : List V) : List V → Hp → VK → Prop := fun vs H Q => ∃ (y : V) (j : Nat) (z : V), vs = [y] ∧ SqT K H a ys ∧ flatV y = true ∧ ys.all flatV = true ∧ ys[j]? = some z ∧ L2.eqV z y = true ∧
  (∀ (m : Nat) (z' : V), m < j → ys[m]? = some z' → L2.eqV z' y = false) ∧ Q (.int (j : Nat)) H
theorem pe_tupIndex (ho : PE X o to) (ha : PA X [e] t)
    (hbase : attributeBase o "index" X.env (eval o X.env) = eval o X.env)
    (hfew : ((backTo cpos (starEach [e] X.env)).all (fun x => !x.1) && (backToKw cpos (keywordEach [] X.env)).all (fun x => x.1.isSome)
      && decide ([e].length + ([] : List Keyword).length + (if ([] : List Keyword).isEmpty then 0 else 1) < 30)) = true)
    (hline : (apos.endLine == cpos.line) = true) (hs : starEach [e] X.env = (false, eval e X.env) :: starEach [] X.env) :
    PE X (.Call (.Attribute o "index" apos) [e] [] cpos) (fun σ H Q => to σ H fun x H1 => ∃ a ys, x = .ref a ∧ Pln X.K H1 a ys ∧ t σ H1 fun vs H2 => rIdx X.K a ys vs H2 Q) := by
  refine ⟨fun pins s σ H Q I h => ?_⟩
  refine wpAny_Call_method_late hbase hfew hline rfl (thn (ho.run pins s σ H _ I h) fun v s1 ⟨x, H1, I1, r1, a, ys, ex, pl, q1⟩ => ?_)
  subst ex
  obtain rfl : v = Value.ref a := r1
  obtain ⟨h1, h2⟩ := pln_is I1 pl
  refine ⟨"tuple", "tuple.index", PySem.F.plainAttrs_tuple, PySem.F.slot_tuple_index, PySem.F.type_tuple_index, h1, h2, ?_⟩
  have hA := ha.run cpos pins s1 σ H1 _ I1 q1
  rw [hs] at hA ⊢
  refine Calls.callWith_builtin (by rfl) (Calls.evalArgs_plain ?_)
  refine thn hA fun us s2 ⟨vs, H2, I2, r2, y, j, z, ev, q2⟩ => ?_
  subst ev
  exact mt_tupIndexF pins s2 σ H2 (.ref a) [y] (.ref a) us Q I2 rfl r2 ⟨a, ys, y, j, z, rfl, rfl, q2⟩
def idxGo (y : V) : List V → Nat → Option Nat
  | [], _ => none
  | z :: r, n => if L2.eqV z y then some n else idxGo y r (n + 1)
theorem idxGo_ok {y : V} : ∀ {zs : List V} {n j : Nat}, idxGo y zs n = some j → n ≤ j ∧ (∃ z, zs[j - n]? = some z ∧ L2.eqV z y = true) ∧ ∀ (m : Nat) (z' : V), m < j - n → zs[m]? = some z' → L2.eqV z' y = false
  | [], _, _, e => by cases e
  | z :: r, n, j, e => by
    unfold idxGo at e
    split at e
    · rename_i q
      cases e
      exact ⟨Nat.le_refl _, ⟨z, by simp, q⟩, fun m z' h => by omega⟩
    · rename_i q
      obtain ⟨h1, ⟨z2, h2, h3⟩, h4⟩ := idxGo_ok e
      refine ⟨by omega, ⟨z2, ?_, h3⟩, fun m z' h h' => ?_⟩
      · rw [show j - n = (j - (n + 1)) + 1 by omega, List.getElem?_cons_succ]
        exact h2
      · cases m with
        | zero => simp at h'; subst h'; simpa using q
        | succ m => exact h4 m z' (by omega) (by simpa using h')
def indexM (mo : ME) (a : MA) : ME := fun sv h => (mo sv h).bind fun x h1 => match x with
  | .ktu xs => (a sv h1).bind fun ys h2 => (match ys with
    | [y] => (match scV y with
      | some b => (match scVs xs with
        | some zs => (match idxGo b zs 0 with
          | some j => .ok (.int (j : Nat)) h2
          | none => .bad)
        | none => .bad)
      | none => .bad)
    | _ => .bad)
  | _ => .bad
theorem re_index (ho : RE X g W o mo) (ha : RA X g W [e] ma)
    (hbase : attributeBase o "index" X.env (eval o X.env) = eval o X.env := by rfl)
    (hfew : ((backTo cpos (starEach [e] X.env)).all (fun x => !x.1) && (backToKw cpos (keywordEach [] X.env)).all (fun x => x.1.isSome)
      && decide ([e].length + ([] : List Keyword).length + (if ([] : List Keyword).isEmpty then 0 else 1) < 30)) = true := by rfl)
    (hline : (apos.endLine == cpos.line) = true := by rfl) (hs : starEach [e] X.env = (false, eval e X.env) :: starEach [] X.env := by rfl) :
    RE X g W (.Call (.Attribute o "index" apos) [e] [] cpos) (indexM mo ma) :=
  pe_imp (pe_tupIndex ho ha hbase hfew hline hs) fun σ H Q ⟨w, sv, h, rs, hk, pp⟩ => by
    refine seqG' rs hk pp fun w1 H1 h1 v y e1 rs1 k1 r1 p1 => ?_
    split at p1
    · rename_i xs
      have r0 := r1
      obtain ⟨a, ys, rfl, q2, st⟩ := RV.ktu_st r1
      simp only [relV, RV] at r0
      obtain ⟨a', ys', ea, pl, q3⟩ := r0
      cases ea
      refine ⟨a, ys', rfl, pl.imp id (fun ⟨o, z1, z2, _⟩ => ⟨o, z1, z2⟩), ?_⟩
      refine seqG' rs1 k1 p1 fun w2 H2 h2 us zs e2 rs2 k2 r2 p2 => ?_
      split at p2
      · rename_i y
        split at p2
        · rename_i b eb
          split at p2
          · rename_i zs' ez
            split at p2
            · rename_i j ej
              obtain ⟨u, rfl, ru⟩ := RVs.one r2
              obtain ⟨rfl, fb⟩ := scV_ok eb ru
              obtain ⟨rfl, fz⟩ := scVs_ok ez q3
              obtain ⟨_, ⟨z, h3, h4⟩, h5⟩ := idxGo_ok ej
              have st2 : SqT X.K H2 a ys' := pl.elim KTup.sq (fun ⟨o, q, _, m⟩ => .inl (.inr ⟨o, (e2.keep a _ q m).1⟩))
              exact ⟨_, j, z, rfl, st2, fb, fz, by simpa using h3, h4, fun m z' hm hz => h5 m z' (by simpa using hm) hz, post_int p2 k2⟩
            · exact p2.elim
          · exact p2.elim
        · exact p2.elim
      · exact p2.elim
    · exact p1.elim
end
section
variable {X : Cx} {g : Gx} {W : WX} {e o : Expr} {m mo me : ME} {ma : MA} {pos apos cpos p : Pos}
def strsOf : List VV → Option (List Str)
  | [] => some []
  | .str x :: r => (strsOf r).map fun l => x :: l
  | _ => none
theorem strsOf_ok {K : PySem.W.Frag} {G : Gx} {w : Wd} {H : Hp} : ∀ {xs : List VV} {ss : List Str} {ys : List V}, strsOf xs = some ss → RVs K G w H xs ys → ys = ss.map V.str
  | [], _, _, e, r => by
    simp only [strsOf, Option.some.injEq] at e
    simp only [RVs] at r
    subst e r
    rfl
  | .str x :: xs, _, _, e, r => by
    simp only [strsOf, Option.map_eq_some_iff] at e
    obtain ⟨l, e1, rfl⟩ := e
    simp only [RVs, RV] at r
    obtain ⟨y, ys, rfl, rfl, r2⟩ := r
    rw [strsOf_ok e1 r2]
    rfl
  | .non :: _, _, _, e, _ => by simp [strsOf] at e
  | .bl _ :: _, _, _, e, _ => by simp [strsOf] at e
  | .int _ :: _, _, _, e, _ => by simp [strsOf] at e
  | .ty _ :: _, _, _, e, _ => by simp [strsOf] at e
  | .tup _ :: _, _, _, e, _ => by simp [strsOf] at e
  | .lst _ :: _, _, _, e, _ => by simp [strsOf] at e
  | .rol _ :: _, _, _, e, _ => by simp [strsOf] at e
  | .dct _ _ :: _, _, _, e, _ => by simp [strsOf] at e
  | .ins _ _ :: _, _, _, e, _ => by simp [strsOf] at e
  | .ref _ :: _, _, _, e, _ => by simp [strsOf] at e
  | .adr _ :: _, _, _, e, _ => by simp [strsOf] at e
  | .dtt _ _ :: _, _, _, e, _ => by simp [strsOf] at e
  | .ktu _ :: _, _, _, e, _ => by simp [strsOf] at e
def joinM (mo me : ME) : ME := fun sv h => (mo sv h).bind fun x h1 => match x with
  | .str a => (me sv h1).bind fun y h2 => (match y with
    | .lst xs => (match strsOf xs with
      | some ss => if Nat.ble ((ss.map (·.length)).sum + ss.length * a.length) 10000 then .ok (.str (Txt.join a ss)) h2 else .bad
      | none => .bad)
    | _ => .bad)
  | _ => .bad
theorem re_join (ho : RE X g W o mo) (he : RE X g W e me) (hs : starEach [e] X.env = [(false, eval e X.env)] := by rfl) (hbase : attributeBase o "join" X.env (eval o X.env) = eval o X.env := by rfl) (hline : (apos.endLine == pos.line) = true := by rfl) :
    RE X g W (.Call (.Attribute o "join" apos) [e] [] pos) (joinM mo me) :=
  pe_imp (pe_join ho he hs hbase hline) fun σ H Q ⟨w, sv, h, rs, hk, pp⟩ => by
    refine seqG' rs hk pp fun w1 H1 h1 v y e1 rs1 k1 r1 p1 => ?_
    split at p1
    · rename_i a
      refine ⟨⟨a, r1.str_eq⟩, ?_⟩
      refine seqG' rs1 k1 p1 fun w2 H2 h2 v2 y2 e2 rs2 k2 r2 p2 => ?_
      split at p2
      · rename_i xs
        split at p2
        · rename_i ss es
          split at p2
          · rename_i hz
            have hz := Nat.le_of_ble_eq_true hz
            obtain ⟨q, ys, rfl, hq, r3⟩ := r2.lst_get
            rw [strsOf_ok es r3] at hq
            exact ⟨a, q, ss, r1.str_eq, rfl, .inl (SqL.of hq), by omega, post_str p2 k2⟩
          · exact p2.elim
        · exact p2.elim
      · exact p2.elim
    · exact p1.elim
def digitS (i : Int) : Option Str := if i = 0 then some "0" else if i = 1 then some "1" else if i = 2 then some "2" else if i = 3 then some "3" else if i = 4 then some "4" else if i = 5 then some "5" else none
theorem digitS_ok {i : Int} {x : Str} (e : digitS i = some x) : i.natAbs.log2 < 1920 ∧ (toString i : Str) = x := by
  unfold digitS at e
  repeat' split at e
  all_goals first
    | (cases e; subst_vars; exact ⟨by decide, by decide +kernel⟩)
    | cases e
def strF : VF := fun xs h => match xs with
  | [.int i] => (match digitS i with
    | some x => .ok (.str x) h
    | none => .bad)
  | _ => .bad
def rStr : List V → Hp → VK → Prop := fun xs H Q => ∃ i, xs = [.int i] ∧ i.natAbs.log2 < 1920 ∧ Q (.str (toString i)) H
theorem call_strA : CallR X (.type "str") rStr := call_str_int
theorem strS {K : PySem.W.Frag} : CallS K g rStr strF := by
  intro w h H σ W Q xs vs hk r p
  unfold strF at p
  split at p
  · split at p
    · rename_i x ex
      obtain ⟨y, rfl, r1⟩ := r.one
      obtain ⟨h1, h2⟩ := digitS_ok ex
      rw [r1.int_eq]
      exact ⟨_, rfl, h1, by rw [h2]; exact post_str p hk⟩
    · exact p.elim
  · exact p.elim
end
section
variable {prog : Program} {w : World} {A : Around} {E : Value → Shared → Prop} {s : Shared}
abbrev Walked (prog : Program) (w : World) (A : Around) (s : Shared) (r : Addr) (n : Nat) (ok : Array Value → Prop) : Prop := ∀ (R : List Value → Shared → Prop) (E' : Value → Shared → Prop),
  (∀ (h' : Heap) (tk : Nat) (acc : Array Value), (∀ b o, s.heap.get? b = some o → h'.get? b = some o) → acc.size = n → ok acc → R acc.toList { s with heap := h', toks := tk }) → wpAny (model prog w) A (collect (.ref r)) R E' s
theorem tuple_of_dict {r : Addr} {Q : Value → Shared → Prop} {n : Nat} {ok : Array Value → Prop} (isD : s.TypeIs (.ref r) "dict") (walk : Walked prog w A.in1.in1 s r n ok) (few : n ≤ sizeLine)
    (fin : ∀ (h' : Heap) (tk : Nat) (acc : Array Value), (∀ b o, s.heap.get? b = some o → h'.get? b = some o) → ok acc → Q (.ref h'.objs.size) { s with heap := h'.push { cls := .type "tuple", data := .seq acc }, toks := tk }) :
    wpAny (model prog w) A (call (.type "tuple") [.ref r]) Q E s := by
  have made : codeAny (model prog w) A.in1 (.call (.builtin "tuple.__new__") ⟨[.type "tuple", .ref r], []⟩) (wants (fun v s₁ => s₁.TypeIs v "tuple" ∧ Q v s₁) E) s := by
    apply codeAny_of_tree
    change wpAny _ A.in1.in1 (do checkBuiltinCall "tuple.__new__" ⟨[Value.type "tuple", .ref r], []⟩; again (.builtin "tuple.__new__" ⟨[Value.type "tuple", .ref r], []⟩)) _ _ s
    apply wpAny_bind
    apply wpAny_of_eq (F.newCall_tuple_1 _)
    apply wpAny_pure
    constructor
    · exact plainId_quiet F.plain_tuple_new _
    apply codeAny_builtin F.entry_tuple_new
    rw [Around.under_plainId F.plain_tuple_new _]
    have e1 := sub_tuple_self
    have e2 := init_tuple_lookup
    have e3 := madeHere_tuple
    have go := fun {R : List Value → Shared → Prop} {E' : Value → Shared → Prop} => walk R E'
    wp_walk using wpAny_typeOf isD, go
    intro h' tk acc kept size good
    change wpAny _ _ (Builtin.Tuple.tupleExact acc.toList.toArray >>= fun v => ret v) _ _ _
    unfold Builtin.Tuple.tupleExact
    rw [show acc.toList.toArray = acc from by simp]
    apply wpAny_bind
    refine wpAny_newObj_type (wpAny_pure ?_) (by change acc.size ≤ sizeLine; omega)
    exact ⟨⟨_, Heap.get?_push_size _ rfl, rfl⟩, fin h' tk acc kept good⟩
  apply callType_codes F.called_tuple (F.typeCall_tuple_1 _) F.entry_object_init made
  rintro v s₁ ⟨t, q⟩
  exact ⟨t, F.args_object_init_2 v _, object_init_meets F.called_tuple.init.lookup F.called_tuple.made (by decide) prog w A.in1 _ s₁ ⟨t, rfl, q⟩⟩
end
section
variable {X : Cx} {g : Gx}
def rTupD : List V → Hp → VK → Prop := fun vs H Q => ∃ (a : Addr) (kvs : List (List Key × V)), vs = [.ref a] ∧ Rd H a (.dT kvs) ∧ ∀ (ys : List V) (p : Addr), Paired (fun (kv : List Key × V) (y : V) => ∃ t, y = .ref t ∧ H t = some (.tup (kv.1.map kV))) kvs ys → H p = none → Q (.ref p) (upd H p (.tup ys))
theorem call_tupD (hc : X.calm = true) : CallR X (.type "tuple") rTupD := by
  intro pins s σ H vs us Q I r h
  obtain ⟨a, kvs, rfl, hd, q⟩ := h
  rw [Vals.ref1 r]
  obtain ⟨z, hs, xs, pr, o, es, ep, ho, hx, hdt, he, hn⟩ := (show ObjOk X.prog X.w H s.heap a (.dT kvs) from hd.ok I.hok)
  have l1 : es.size = xs.length := size_of_entries he
  have l2 : kvs.length = xs.length := Paired.length pr
  refine tuple_of_dict (n := es.size) (ok := fun acc => acc.toList = (xs.map fun x => x.2.1).map Value.ref) ⟨o, ho, hx.1⟩ (fun R E' h2 => ?_) (by omega) (fun h' tk acc kp ea => ?_)
  · refine PySem.W.kdu_collect (A := X.A.in1.in1) (kdl_raw hs hx hdt) (I.ok.hd hc) ho (by omega) fun h' tk acc kp it => h2 h' tk acc kp it.1 ?_
    rw [List.map_map]
    have hl : acc.toList.length = xs.length := by rw [Array.length_toList, it.1]; exact l1
    apply List.ext_getElem?
    intro j
    rw [List.getElem?_map]
    cases hj : acc.toList[j]? with
    | none =>
      have h1 := List.getElem?_eq_none_iff.mp hj
      rw [List.getElem?_eq_none (by omega)]
      all_goals rfl
    | some v =>
      obtain ⟨en, hen, hv⟩ := it.2 j v (by rw [← Array.getElem?_toList]; exact hj)
      have qe := entry_at he j
      rw [hen] at qe
      cases hb : xs[j]? with
      | none =>
        rw [hb] at qe
        exact nomatch (show some en = none from qe)
      | some b =>
        rw [hb] at qe
        have e2 : en = entryOfKey (tupleKind (mixKind X.prog X.w)) b := Option.some.inj qe
        rw [hv, e2]
        all_goals rfl
  · have I1 : Inv X pins σ H { s with heap := h', toks := tk } := I.kept (t' := tk) kp
    have vr : Vals ((xs.map fun x => x.2.1).map V.ref) acc.toList := by rw [ea]; exact vals_refs _
    have pk : Paired (fun (kv : List Key × V) (y : V) => ∃ t, y = .ref t ∧ H t = some (.tup (kv.1.map kV))) kvs ((xs.map fun x => x.2.1).map V.ref) := by
      clear q hd he ho hdt l1 l2 ea vr I1 kp hn z
      induction pr with
      | nil => exact .nil
      | cons r t ih => exact .cons ⟨_, rfl, r.2.1⟩ ih
    have I2 : Inv X pins σ (upd H h'.objs.size (.tup ((xs.map fun x => x.2.1).map V.ref))) { s with heap := h'.push { cls := .type "tuple", data := .seq acc }, toks := tk } :=
      I1.laid (t' := tk) (fun b o e => Heap.get?_push_of_some _ e) (Nat.le_refl _) (show ObjOk X.prog X.w _ _ _ (.tup _) from ⟨by simp only [List.length_map]; omega, acc.toList, vr, by
        have e : acc.toList.toArray = acc := by simp
        rw [e]
        exact IsTup.new _ _⟩)
    exact ⟨.ref h'.objs.size, _, I2, rfl, q _ _ pk (I1.hok.fresh (Nat.le_refl _))⟩
theorem rvs_keysP {K : PySem.W.Frag} {w : Wd} {H : Hp} {h : VH} (k : Hk K g w h H) : ∀ {kvs : List (List Key × V)} {ys : List V}, Paired (fun (kv : List Key × V) (y : V) => ∃ t, y = .ref t ∧ H t = some (.tup (kv.1.map kV))) kvs ys → RVs K g w H (keysT kvs) ys
  | [], _, .nil => by simp [keysT, RVs]
  | kv :: kvs, _, .cons (b := y) r t => by
    obtain ⟨a, rfl, ha⟩ := r
    simp only [keysT, List.map_cons, RVs]
    refine ⟨_, _, rfl, ?_, rvs_keysP k t⟩
    simp only [RV]
    exact ⟨a, _, rfl, ⟨ha, k.spc a _ ha⟩, RVs.of_kVs _⟩
def tupleAF : VF := fun xs h => match xs with
  | [x] => (match dictT h x with
    | some (ks, _) => .ok (.tup ks) h
    | none => tupleF [x] h)
  | _ => .bad
def rTupleA (K : PySem.W.Frag) : List V → Hp → VK → Prop := fun xs H Q => (∃ p ys, xs = [.ref p] ∧ ((SqL K H p ys ∧ ∀ l, H l = none → Q (.ref l) (upd H l (.tup ys))) ∨ (SqT K H p ys ∧ Q (.ref p) H))) ∨ rTupD xs H Q
theorem call_tupleA (hc : X.calm = true) : CallR X (.type "tuple") (rTupleA X.K) := CallR.or call_tuple_of (call_tupD hc)
theorem tupleAS {K : PySem.W.Frag} : CallS K g (rTupleA K) tupleAF := by
  intro w h H σ W Q xs vs hk r p
  unfold tupleAF at p
  split at p
  · split at p
    · rename_i ks vs' e
      obtain ⟨y, rfl, r1⟩ := r.one
      obtain ⟨a, kvs, rfl, h1, rfl, h3⟩ := dictT_ok hk e r1
      exact .inr ⟨a, kvs, rfl, h1, fun ys q pk hq => post_newt p hk (rvs_keysP hk pk) hq⟩
    · exact .inl (tupleS w h H σ W Q _ vs hk r p)
  · exact p.elim
end
section
variable {X : Cx} {g : Gx}
def rRepM (K : PySem.W.Frag) : R2 := fun x y H Q => ∃ l k xs, x = .ref l ∧ y = .int k ∧ SqT K H l xs ∧ xs ≠ [] ∧ 2 ≤ k ∧ k ≤ 10000 ∧ xs.length ≤ 100 ∧ ∀ p, H p = none → Q (.ref p) (upd H p (.tup (List.replicate k.toNat xs).flatten))
theorem op_repM : OpR X (binaryOp .Mult) (rRepM X.K) := fun pins s σ H x y v u Q I rx ry h => by
  obtain ⟨l, k, xs, ex, ey, sq, ne, k2, k1, few, fin⟩ := h
  subst ex ey
  cases rx
  obtain ⟨t, eu⟩ := ry
  subst eu
  obtain ⟨its, rel, ⟨⟨c, dd, dt, sl⟩, at_, hc, n, hd⟩, _⟩ := I.tuple sq
  dsimp only at hc hd
  subst hc hd
  have len := rel.length
  have size : its.toArray.size = xs.length := by rw [List.size_toArray]; exact len.symm
  have pos : 0 < xs.length := List.length_pos_iff.mpr ne
  have full : its.toArray.isEmpty = false := by
    cases its with
    | nil => exact absurd len.symm (by simp; omega)
    | cons _ _ => rfl
  have prod : ((its.toArray.size : Nat) : Int) * k ≤ 1000000 := by
    rw [size]
    exact Int.le_trans (Int.mul_le_mul_of_nonneg_right (show ((xs.length : Nat) : Int) ≤ 100 by omega) (by omega)) (by omega)
  have flat : k.toNat * xs.length ≤ 1000000 := Nat.le_trans (Nat.mul_le_mul (show k.toNat ≤ 10000 by omega) few) (by decide)
  have b0 : (decide (k < -(2 ^ 63)) || decide (k ≥ 2 ^ 63)) = false := by simp only [Bool.or_eq_false_iff, decide_eq_false_iff_not]; omega
  have b1 : (its.toArray.isEmpty || k == 1) = false := by rw [full, Bool.false_or, beq_eq_false_iff_ne]; omega
  have b2 : (decide (k ≤ 0) || its.toArray.isEmpty) = false := by rw [full, Bool.or_false, decide_eq_false_iff_not]; omega
  have b3 : Builtin.Tuple.tupleTooMany (((its.toArray.size : Nat) : Int) * k) = false := decide_eq_false (by rw [sizeLine_eq]; omega)
  have b4 : (List.foldl (fun x1 x2 => x1 ++ x2) #[] (List.replicate k.toNat its.toArray)).size ≤ sizeLine := by
    rw [size_rep, List.size_toArray, PyProof.Rows.lm_len_rep_flat, sizeLine_eq, ← len]
    omega
  have here := tuple_mulW l its.toArray n dd sl k t b0 b1 b2 (by omega) b3 b4
  refine wpAny_binaryOp_repeat_ref (U := "int") (T := "tuple") (by decide) ⟨_, at_, rfl⟩ (fun z => typeIs_int z k t) noFill_tuple_mul F.fills_int_mul F.slot_int_rmul repeat_tuple F.slot_int_index.lookup ?_
  refine call_meets F.slot_int_rmul (typeIs_int s k t) F.entry_int_rmul (F.args_int_rmul_2 _ _) (int_rmul_tuple k t l its.toArray n dd sl) ⟨at_, rfl, ⟨_, at_, rfl⟩, ?_⟩
  refine call_meets F.slot_tuple_mul ⟨_, at_, rfl⟩ F.entry_tuple_mul (F.args_tuple_mul_2 _ _) here ⟨at_, ?_⟩
  have laid := I.laid (t' := s.toks) (o := .tup (List.replicate k.toNat xs).flatten) (h' := s.heap.push { cls := .type "tuple", data := .seq (List.replicate k.toNat its).flatten.toArray }) (fun b ob q => Heap.get?_push_of_some _ q) (Nat.le_refl _)
    ⟨by rw [PyProof.Rows.lm_len_rep_flat, sizeLine_eq]; omega, _, rel.rep k.toNat, IsTup.new _ _⟩
  rw [size_rep]
  exact ⟨.ref s.heap.objs.size, _, laid, rfl, fin _ (I.hok.fresh (Nat.le_refl _))⟩
def mulAV : V2 := fun x y h => match x with
  | .tup xs => (match y with
    | .int k => if !xs.isEmpty && decide (1000 < k) && decide (k ≤ 10000) && Nat.ble xs.length 100 then (match repL xs k with | some zs => .ok (.tup zs) h | none => .bad) else mulV x y h
    | _ => .bad)
  | _ => mulV x y h
theorem mulAS {K : PySem.W.Frag} : OpS K g (fun x y H Q => rMulA K x y H Q ∨ rRepM K x y H Q) mulAV := by
  intro w h H σ W Q x y vx vy hk rx ry p
  unfold mulAV at p
  split at p
  · rename_i xs
    split at p
    · rename_i k
      split at p
      · rename_i hc
        simp only [Bool.and_eq_true, Bool.not_eq_true', decide_eq_true_eq] at hc
        obtain ⟨⟨⟨c1, c2⟩, c3⟩, c4⟩ := hc
        have c4 := Nat.le_of_ble_eq_true c4
        split at p
        · rename_i zs e
          obtain ⟨h0, h1, h2, rfl⟩ := repL_ok e
          obtain ⟨a, xs', rfl, ha, r1⟩ := rx.tup_get
          refine .inr ⟨a, k, xs', rfl, ry.int_eq, ha, ?_, by omega, c3, by rw [← r1.length]; exact c4, fun q hq => post_newt p hk (r1.rep _) hq⟩
          rintro rfl
          have := r1.length
          rw [List.length_nil, List.length_eq_zero_iff] at this
          rw [this] at c1
          cases c1
        · exact p.elim
      · exact .inl (mulS w h H σ W Q _ _ vx vy hk rx ry p)
    · exact p.elim
  · exact .inl (mulS w h H σ W Q _ _ vx vy hk rx ry p)
theorem op_mulB : OpR X (binaryOp .Mult) (fun x y H Q => rMulA X.K x y H Q ∨ rRepM X.K x y H Q) := OpR.or op_mulA op_repM
end
end Mv
set_option Elab.async false
set_option linter.all false
set_option maxRecDepth 100000
namespace Mv
open PySem PySem.Spec PyProof.Rows L2
section
variable {prog : Program} {w : World} {r d : Addr} {es : Array DictEntry} {ep : Nat}
theorem src_values : PySem.W.KdlSrc prog w "dict_values" r d es.size (fun i v => ∃ hi : i < es.size, v = es[i].val) (fun h => h.IsValuesView r d ∧ h.DictRaw d es ep) where
  type := fun s ⟨⟨o, g, c, _⟩, _⟩ => ⟨o, g, c⟩
  there := fun h ⟨⟨_, g, _⟩, ⟨_, g2, _⟩⟩ => ⟨Heap.lt_size g, Heap.lt_size g2⟩
  keep := fun h h' ⟨⟨o, g, q⟩, x⟩ k => ⟨⟨o, k r (.inl rfl) o g, q⟩, x.at fun o e => k d (.inr rfl) o e⟩
  notList := by decide
  notTuple := by decide
  hint := fun A E s Q ⟨⟨o, g, c, _⟩, _⟩ q => PySem.W.kdl_hint_values (s := s) ⟨o, g, c⟩ q
  iter := fun A s hh ⟨hv, hm⟩ => by
    have lt : d < s.heap.objs.size := let ⟨_, g, _⟩ := hm; Heap.lt_size g
    refine ⟨{ cls := .type "dict_valueiterator", data := .fields #[.ref d, .int 0 0, .int es.size 0, .int ep 0] }, _, fun E Q q => wpAny_pyIter_values_raw hv hm q, Walks.rawValues hh _ d (Nat.ne_of_lt lt) es ep, ?_, hm.at fun o e => Heap.get?_push_of_some _ e⟩
    exact ⟨_, Heap.get?_push_size _ rfl, rfl, rfl⟩
end
def VwO (p a : Addr) : HO := .ext fun h => h.get? p = some { cls := .type "dict_values", data := .fields #[.ref a] }
section
variable {X : Cx} {pins : List (Addr × Obj)} {σ : L2.St} {H : Hp} {s : Shared}
theorem ent_vals {a : Addr} {kvs : List (List Key × V)} (I : Inv X pins σ H s) (h : Rd H a (.dT kvs)) : (a == sysModules) = false ∧ ∃ es ep, s.heap.DictRaw a es ep ∧ es.size = kvs.length ∧ kvs.length ≤ sizeLine ∧ (∀ b, Value.ref a = .ref b → ∃ ob, s.heap.get? b = some ob ∧ ob.dict = none) ∧
    ∀ (i : Nat) (hi : i < es.size), ∃ v, (kvs.map (·.2))[i]? = some v ∧ RelV v es[i].val := by
  obtain ⟨z, hs, xs, pr, o, es, ep, ho, hx, hdt, he, hn⟩ := (show ObjOk X.prog X.w H s.heap a (.dT kvs) from h.ok I.hok)
  have l1 : es.size = xs.length := size_of_entries he
  have l2 : kvs.length = xs.length := Paired.length pr
  refine ⟨hs, es, ep, ⟨o, ho, hx, hdt⟩, by omega, z, fun b e => by cases e; exact ⟨o, ho, hx.2.1⟩, fun i hi => ?_⟩
  have qe := entry_at he i
  rw [Array.getElem?_eq_getElem hi] at qe
  have hxi : i < xs.length := by omega
  have hki : i < kvs.length := by omega
  rw [List.getElem?_eq_getElem hxi] at qe
  have e2 : es[i] = entryOfKey (tupleKind (mixKind X.prog X.w)) xs[i] := Option.some.inj qe
  have pi : ∀ {ks : List (List Key × V)} {ys : List (List Key × Addr × Value)} (pr : Paired (fun (p : List Key × V) (q : List Key × Addr × Value) => p.1 = q.1 ∧ H q.2.1 = some (.tup (p.1.map kV)) ∧ RelV p.2 q.2.2) ks ys) (i : Nat) (h1 : i < ks.length) (h2 : i < ys.length), RelV ks[i].2 ys[i].2.2 := by
    intro ks ys pr
    induction pr with
    | nil => intro i h1; exact absurd h1 (by simp)
    | cons r t ih =>
      intro i h1 h2
      cases i with
      | zero => exact r.2.2
      | succ i => exact ih i (by simpa using h1) (by simpa using h2)
  refine ⟨kvs[i].2, by rw [List.getElem?_map, List.getElem?_eq_getElem hki]; rfl, ?_⟩
  rw [e2]
  exact pi pr i hki hxi
end
section
variable {X : Cx} {e : Expr} {te : TE} {apos cpos : Pos}
theorem pe_valsT (he : PE X e te) (hbase : attributeBase e "values" X.env (eval e X.env) = eval e X.env) (hline : (apos.endLine == cpos.line) = true) :
    PE X (.Call (.Attribute e "values" apos) [] [] cpos) (fun σ H Q => te σ H fun x H1 => ∃ a kvs, x = .ref a ∧ Rd H1 a (.dT kvs) ∧ ∀ p, H1 p = none → Q (.ref p) (upd H1 p (VwO p a))) := by
  refine ⟨fun pins s σ H Q I h => ?_⟩
  refine wpAny_Call_method (T := "dict") (id := "dict.values") hbase rfl hline PySem.F.plainAttrs_dict PySem.F.slot_dict_values PySem.F.type_dict_values (thn (he.run pins s σ H _ I h) fun u s1 ⟨x, H1, I1, rx, a, kvs, ex, hd, q⟩ => ?_)
  subst ex
  obtain rfl : u = Value.ref a := rx
  obtain ⟨hs, es, ep, raw, _, _, nd, _⟩ := ent_vals I1 hd
  refine ⟨raw.typeIs, nd, ?_⟩
  have new : Inv X pins σ (upd H1 s1.heap.objs.size (VwO s1.heap.objs.size a)) { s1 with heap := s1.heap.push { cls := .type "dict_values", data := .fields #[.ref a] } } :=
    I1.laid (t' := s1.toks) (fun b o q => Heap.get?_push_of_some _ q) (Nat.le_refl _) ⟨Heap.get?_push_size _ rfl, ⟨_, Heap.get?_push_size _ rfl⟩, fun h1 h2 k st => st _ k⟩
  have fin := q _ (I1.hok.fresh (Nat.le_refl _))
  show wpAny _ _ (callWith cpos (.builtin "dict.values") [.ref a] [] []) _ X.xe s1
  exact method_meetsIn PySem.F.slot_dict_values PySem.F.entry_dict_values rfl (PySem.evalArgs_none ⟨rfl, raw.typeIs, PySem.F.args_dict_values_1 _, _, meets_dict_values_raw a hs, ⟨es, ep, raw⟩, ⟨V.ref s1.heap.objs.size, _, new, rfl, fin⟩⟩)
def rListVw : List V → Hp → VK → Prop := fun xs H Q => ∃ p a kvs, xs = [.ref p] ∧ H p = some (VwO p a) ∧ Rd H a (.dT kvs) ∧ ∀ l, H l = none → Q (.ref l) (upd H l (.lst (kvs.map (·.2))))
theorem call_listVw (hc : X.calm = true) : CallR X (.type "list") rListVw := by
  intro pins s σ H xs us Q I r h
  obtain ⟨p, a, kvs, rfl, hp, hd, q⟩ := h
  rw [Vals.ref1 r]
  obtain ⟨hs, es, ep, raw, l1, z, nd, at_⟩ := ent_vals I hd
  obtain ⟨g, _, _⟩ := (show ObjOk X.prog X.w H s.heap p (VwO p a) from I.hok p _ hp)
  refine PySem.W.kdl_call (src_values (es := es) (ep := ep)) (I.ok.hd hc) ⟨⟨_, g, rfl, rfl⟩, raw⟩ (by omega) fun h' tk acc c kp hS it => ?_
  refine ⟨.ref s.heap.objs.size, upd H s.heap.objs.size (.lst (kvs.map (·.2))), I.laid kp (Nat.le_refl _) (show ObjOk X.prog X.w _ _ _ (.lst (kvs.map (·.2))) from ⟨by rw [List.length_map]; exact z, acc.toList, c, ?_, by rw [Array.toArray_toList]; exact hS⟩), rfl, q _ (I.hok.fresh (Nat.le_refl _))⟩
  have el : acc.toList.length = acc.size := by simp
  refine vals_of_at (by rw [List.length_map, el, it.1, l1]) fun j x v h1 h2 => ?_
  obtain ⟨hj, ev⟩ := it.2 j v (by rw [← Array.getElem?_toList]; exact h2)
  obtain ⟨y, hy, ry⟩ := at_ j hj
  rw [hy] at h1
  cases h1
  rw [ev]
  exact ry
variable {g : Gx} {W : WX} {m : ME} {pos p : Pos}
def listValsM (a : ME) : ME := fun sv h => (a sv h).bind fun x h1 => match dictT h1 x with
  | some (_, vs) => .ok (.lst vs) h1
  | none => .bad
theorem re_listVals (hc : X.calm = true) (he : RE X g W e m) (hg : Gl X "list") (hm : X.mg "list" = none) (hbase : attributeBase e "values" X.env (eval e X.env) = eval e X.env := by rfl) (hline : (apos.endLine == cpos.line) = true := by rfl)
    (hst : starEach [.Call (.Attribute e "values" apos) [] [] cpos] X.env = (false, eval (.Call (.Attribute e "values" apos) [] [] cpos) X.env) :: starEach [] X.env := by rfl) :
    RE X g W (.Call (.Name "list" p) [.Call (.Attribute e "values" apos) [] [] cpos] [] pos) (listValsM m) :=
  pe_imp (pe_callTy (call_listVw hc) hg hm boot_list (pa_cons (pe_valsT he hbase hline) pa_nil) (by decide) (by decide) hst (by rfl)) fun σ H Q ⟨w, sv, h, rs, hk, pp⟩ => by
    refine seqG' rs hk pp fun w1 H1 h1 v y e1 rs1 k1 r1 p1 => ?_
    split at p1
    · rename_i ks vs ed
      obtain ⟨a, kvs, rfl, h2, _, h3⟩ := dictT_ok k1 ed r1
      refine ⟨a, kvs, rfl, h2, fun q hq => ?_⟩
      have ne : a ≠ q := by
        rcases h2 with z | ⟨o, z⟩
        · exact ne_of_none z hq
        · exact ne_of_none z hq
      have ex := Ext.grow (o := VwO q a) k1 hq
      have kk := Hk.grow (o := VwO q a) k1 hq
      refine ⟨q, a, kvs, rfl, upd_same, ?_, fun l hl => ?_⟩
      · rcases h2 with z | ⟨o, z⟩
        · exact .inl (by rw [upd_ne ne]; exact z)
        · exact .inr ⟨o, by rw [upd_ne ne]; exact z⟩
      · exact post_newl (Post.mono ex p1) kk (RVs.mono ex.sees _ _ h3) hl
    · exact p1.elim
end
end Mv
set_option Elab.async false
set_option linter.all false
set_option maxRecDepth 100000
namespace Mv
open PySem PySem.Spec PyProof.Rows L2
def best1 (b : Option Int) (x : Int) : Option Int := match b with
  | none => some x
  | some y => if x > y then some x else some y
def bestTo (val : Nat → Int) : Nat → Option Int
  | 0 => none
  | n + 1 => best1 (bestTo val n) (val n)
def heldV : Option Value → Array Value
  | none => #[]
  | some v => #[v, v]
def isBest (v : Option Value) (m : Option Int) : Prop := match v, m with
  | none, none => True
  | some v, some x => ∃ t, v = .int x t
  | _, _ => False
section
variable {prog : Program} {w : World} {A : Around} {E : Value → Shared → Prop}
theorem max_turns {I l S : Addr} {n : Nat} {P : Nat → Value → Prop} {St : Nat → Heap → Prop} {dv : Value} {R : Result → Shared → Prop} (W : Walks prog w A.in1 I [I, l] [I] n P St) (val : Nat → Int) (iv : ∀ i v, P i v → ∃ t, v = .int (val i) t) (SI : S ≠ I) (Sl : S ≠ l) :
    ∀ (k i : Nat) (s : Shared) (b : Option Value) (c : Nat), n - i = k → i ≤ n → St i s.heap → isBest b (bestTo val i) → s.heap.get? S = some { cls := .type "list", dict := none, data := .seq (heldV b) c, slots := #[] } →
      (∀ (v : Value) (h' : Heap) (tk : Nat), (match bestTo val n with
        | none => v = dv
        | some x => ∃ t, v = .int x t) → (∀ a o, a ≠ S → a ≠ I → s.heap.get? a = some o → h'.get? a = some o) → R (.ok (.ret v)) { s with heap := h', toks := tk }) →
      codeAny (model prog w) A (.builtin "max.loop" ⟨[.ref I, .none, .ref S], [(Str.ofString "default", dv)]⟩) R s := by
  have nm : (toString "max" ++ toString ".loop" : String) = "max.loop" := by decide
  have two : ∀ {v : Value}, (heldV (some v)).size ≤ sizeLine := fun {v} => by show 2 ≤ sizeLine; rw [sizeLine_eq]; decide
  have other : ∀ {h : Heap} {f : Obj → Obj} {a : Addr} {o : Obj}, a ≠ S → h.get? a = some o → (h.update S f).get? a = some o := fun ne e => (Heap.get?_update_other _ _ (Ne.symm ne)).trans e
  intro k
  induction k with
  | zero =>
    intro i s b c hk hi st ib hS fin
    obtain rfl : i = n := by omega
    apply codeAny_builtin F.entry_max_loop
    rw [Around.under_plainId F.plain_max_loop _]
    change wpAny _ A.in1 (seqItems? (.ref S) >>= _) _ _ s
    apply wpAny_bind
    apply wpAny_seqItems hS rfl
    change wpAny _ A.in1 (tryCatch (pyNext (.ref I)) _ >>= _) _ _ s
    apply wpAny_bind
    refine wpAny_tryCatch (W.done s _ _ st fun h' tk kp => ?_)
    have hS' := kp S _ (by simpa using SI) hS
    cases b with
    | none =>
      have no : bestTo val i = none := by
        cases e : bestTo val i with
        | none => rfl
        | some x => rw [e] at ib; exact ib.elim
      apply wpAny_bind
      apply wpAny_rule
      refine wpAny_pure (fin dv h' tk (by rw [no]) fun a o h1 h2 e => kp a o (by simpa using h2) e)
    | some vb =>
      change wpAny _ A.in1 (updateSeq S (fun _ => #[]) >>= _) _ _ _
      apply wpAny_bind
      refine wpAny_updateSeq (hz := two) hS' rfl (wpAny_bind (wpAny_letGo (wpAny_pure ?_)))
      refine fin vb _ tk ?_ fun a o h1 h2 e => other h1 (kp a o (by simpa using h2) e)
      cases e : bestTo val i with
      | none => rw [e] at ib; exact ib.elim
      | some x => rw [e] at ib; exact ib
  | succ k ih =>
    intro i s b c hk hi st ib hS fin
    have lt : i < n := by omega
    apply codeAny_builtin F.entry_max_loop
    rw [Around.under_plainId F.plain_max_loop _]
    change wpAny _ A.in1 (seqItems? (.ref S) >>= _) _ _ s
    apply wpAny_bind
    apply wpAny_seqItems hS rfl
    change wpAny _ A.in1 (tryCatch (pyNext (.ref I)) _ >>= _) _ _ s
    apply wpAny_bind
    refine wpAny_tryCatch (W.item i s _ _ lt st fun v h' tk pv st' kp => ?_)
    have hS' := kp S _ (by simpa using SI) hS
    have low : ∀ {f : Obj → Obj}, St (i + 1) (h'.update S f) := fun {f} => W.frame _ h' _ st' fun a ha o e => other (fun z => by
      rw [z] at ha
      rcases List.mem_cons.mp ha with q | q
      · exact SI q
      · exact Sl (by simpa using q)) e
    have on : ∀ (b' : Option Value) (c' : Nat) (h2 : Heap), St (i + 1) h2 → isBest b' (bestTo val (i + 1)) → h2.get? S = some { cls := .type "list", dict := none, data := .seq (heldV b') c', slots := #[] } → (∀ a o, a ≠ S → h'.get? a = some o → h2.get? a = some o) →
        codeAny (model prog w) A (.builtin "max.loop" ⟨[.ref I, .none, .ref S], [(Str.ofString "default", dv)]⟩) R { s with heap := h2, toks := tk } := fun b' c' h2 s1 s2 s3 s4 =>
      ih (i + 1) { s with heap := h2, toks := tk } b' c' (by omega) lt s1 s2 s3 fun v h3 tk3 q1 q2 => fin v h3 tk3 q1 fun a o h1 h2' e => q2 a o h1 h2' (s4 a o h1 (kp a o (by simpa using h2') e))
    cases b with
    | none =>
      have no : bestTo val i = none := by
        cases e : bestTo val i with
        | none => rfl
        | some x => rw [e] at ib; exact ib.elim
      change wpAny _ A.in1 (updateSeq S (fun _ => #[v, v]) >>= _) _ _ _
      apply wpAny_bind
      refine wpAny_updateSeq hS' rfl ?_
      rw [nm]
      refine wpAny_pure ⟨plainId_quiet F.plain_max_loop _, on (some v) _ _ low ?_ (Heap.get?_update_self _ hS' rfl) fun a o h1 e => other h1 e⟩
      show isBest (some v) (best1 (bestTo val i) (val i))
      rw [no]
      exact iv i v pv
    | some vb =>
      cases e : bestTo val i with
      | none => rw [e] at ib; exact ib.elim
      | some x =>
        rw [e] at ib
        obtain ⟨t, rfl⟩ := ib
        obtain ⟨u, rfl⟩ := iv i v pv
        have cmp : ∀ (s : Shared) (Q : Value → Shared → Prop) (E : Value → Shared → Prop), Q (.bool (decide (val i > x))) s → wpAny (model prog w) A.in1 (richCompare .Gt (.int (val i) u) (.int x t)) Q E s := fun s Q E q =>
          richCompare_gives (op := .Gt) (typeIs_int s _ u) (typeIs_int s _ t) F.slot_int_gt F.entry_int_gt (F.args_int_gt_2 _ _) (gives_int_gt _ _ u t) (fun x => nomatch x) q
        change wpAny _ A.in1 (tryCatch (holding [.int (val i) u, .int (val i) u] (richCompare .Gt (.int (val i) u) (.int x t) >>= _)) _ >>= _) _ _ _
        apply wpAny_bind
        refine wpAny_tryCatch (wpAny_holding (wpAny_bind (cmp _ _ _ ?_)))
        apply wpAny_bind
        refine wpAny_holding (wpAny_truthy_bool ?_)
        refine wpAny_bind (wpAny_letGo (wpAny_pure ?_))
        by_cases gt : val i > x
        · rw [decide_eq_true gt]
          simp only [if_true]
          apply wpAny_bind
          refine wpAny_updateSeq (hz := two) hS' rfl (wpAny_bind (wpAny_letGo ?_))
          rw [nm]
          refine wpAny_pure ⟨plainId_quiet F.plain_max_loop _, on (some (.int (val i) u)) _ _ low ?_ (Heap.get?_update_self _ hS' rfl) fun a o h1 e => other h1 e⟩
          show isBest _ (best1 (bestTo val i) (val i))
          rw [e]
          simp only [best1, if_pos gt]
          exact ⟨u, rfl⟩
        · rw [decide_eq_false gt]
          simp only [Bool.false_eq_true, if_false]
          refine wpAny_bind (wpAny_letGo ?_)
          rw [nm]
          refine wpAny_pure ⟨plainId_quiet F.plain_max_loop _, on (some (.int x t)) c h' st' ?_ hS' fun a o _ e => e⟩
          show isBest _ (best1 (bestTo val i) (val i))
          rw [e]
          simp only [best1, if_neg gt]
          exact ⟨t, rfl⟩
theorem bestTo_eq (ns : List Int) : ∀ n, n ≤ ns.length → bestTo (fun i => ns.getD i 0) n = (ns.take n).foldl best1 none
  | 0, _ => rfl
  | n + 1, h => by
    unfold bestTo
    rw [bestTo_eq ns n (by omega), List.take_succ, List.foldl_append, List.getElem?_eq_getElem (by omega)]
    simp [List.getD_eq_getElem?_getD, List.getElem?_eq_getElem (show n < ns.length by omega)]
end
section
variable {X : Cx} {g : Gx}
def rMaxD (K : PySem.W.Frag) : List V → List V → Hp → VK → Prop := fun xs zs H Q => ∃ (a : Addr) (ns : List Int) (d : V), xs = [.ref a] ∧ zs = [d] ∧ SqL K H a (ns.map V.int) ∧ Q (match ns.foldl best1 none with
  | some x => .int x
  | none => d) H
theorem call_maxD (hc : X.calm = true) : CallRK X (.builtin "max") [Str.ofString "default"] (rMaxD X.K) := by
  intro pins s σ H xs zs us ws Q I r rz h
  obtain ⟨a, ns, d, rfl, rfl, hs, q⟩ := h
  obtain ⟨its, rv, pl, hz⟩ := I.list hs
  obtain rfl := Vals.ref1 r
  obtain ⟨dv, rfl, rd⟩ := vals1 rz
  have isl := pl.isList
  have lt : a < s.heap.objs.size := let ⟨_, e, _⟩ := isl; Heap.lt_size e
  have nm : (toString "max" ++ toString ".loop" : String) = "max.loop" := by decide
  have len := rv.length
  rw [List.length_map] at len
  refine kmk_tree PySem.F.kind_max PySem.F.plain_max PySem.F.entry_max (by unfold argsOk; kernel_rfl) ?_
  change wpAny _ X.A.in1 (Builtin.Builtins.bindParams "max" ["key", "default"] 0 ⟨[], [(Str.ofString "default", dv)]⟩ >>= _) _ _ s
  apply wpAny_bind
  refine wpAny_of_eq (a := [none, some dv]) rfl ?_
  refine wpAny_bind (wpAny_pure ?_)
  refine wpAny_bind (wpAny_pyIter_list isl ?_)
  refine wpAny_bind (wpAny_newList ?_ (Nat.zero_le _))
  rw [nm]
  have W := Walks.list (prog := X.prog) (w := X.w) (A := X.A.in1) (I.ok.hd hc) s.heap.objs.size a (Nat.ne_of_lt lt) its.toArray
  have nS : (s.heap.push { cls := .type "list_iterator", data := .fields #[.ref a, .int 0 0] }).objs.size = s.heap.objs.size + 1 := size_push' ..
  refine wpAny_pure ⟨plainId_quiet PySem.F.plain_max_loop _, max_turns W (fun i => ns.getD i 0) (fun i v e => ?_) (by rw [nS]; exact Nat.succ_ne_self _) (by rw [nS]; exact Nat.ne_of_gt (Nat.lt_succ_of_lt lt)) _ 0 _ none 0 rfl (Nat.zero_le _) ⟨⟨_, Heap.get?_push_of_some _ (Heap.get?_push_size _ rfl), rfl, rfl⟩, (isl.push _).push _⟩ trivial (Heap.get?_push_size _ rfl) fun v h' tk mb kp => ?_⟩
  · have e' : its[i]? = some v := by simpa using e
    have hi : i < ns.length := by
      have := (List.getElem?_eq_some_iff.mp e').1
      omega
    obtain ⟨v2, e2, t, ev⟩ := rv.get (i := i) (x := .int ns[i]) (by simp [hi])
    rw [e'] at e2
    cases e2
    exact ⟨t, by rw [ev]; simp [List.getD_eq_getElem?_getD, List.getElem?_eq_getElem hi]⟩
  · have sz : its.toArray.size = ns.length := by rw [List.size_toArray]; exact len.symm
    rw [sz, bestTo_eq ns ns.length (Nat.le_refl _), List.take_length] at mb
    have I2 : Inv X pins σ H { s with heap := h', toks := tk } := I.kept (t' := tk) fun b o e => kp b o (Nat.ne_of_lt (by rw [nS]; exact Nat.lt_succ_of_lt (Heap.lt_size e))) (Nat.ne_of_lt (Heap.lt_size e)) (Heap.get?_push_of_some _ (Heap.get?_push_of_some _ e))
    cases em : ns.foldl best1 none with
    | none =>
      rw [em] at mb q
      exact ⟨d, H, I2, by rw [mb]; exact rd, q⟩
    | some x =>
      rw [em] at mb q
      exact ⟨.int x, H, I2, mb, q⟩
end
end Mv
set_option Elab.async false
set_option linter.all false
set_option maxRecDepth 100000
namespace Mv
open PySem PySem.Spec PyProof.Rows L2
section
variable {K : PySem.W.Frag} {g : Gx} {w : Wd} {H : Hp}
end
section
variable {X : Cx} {g : Gx} {W : WX} {e : Expr} {m : ME} {apos cpos : Pos} {tg : Expr}
end
section
variable {X : Cx} {g : Gx} {W : WX} {e d : Expr} {m md : ME} {p pos kpos : Pos}
def listOf : VV → Option (List VV)
  | .lst ys => some ys
  | .rol ys => some ys
  | _ => none
def maxDM (a b : ME) : ME := fun sv h => (a sv h).bind fun x h1 => (b sv h1).bind fun y h2 => match listOf x with
  | some ys => (match allIt ys with
    | some ns => .ok (match ns.foldl best1 none with
      | some n => .int n
      | none => y) h2
    | none => .bad)
  | none => .bad
theorem listOf_ok {w : Wd} {H : Hp} {K : PySem.W.Frag} {x : VV} {y : V} {xs : List VV} (e : listOf x = some xs) (r : RV K g w H x y) : ∃ a ys, y = .ref a ∧ RVs K g w H xs ys ∧ ∀ w1 H1, Sees w H w1 H1 → SqL K H1 a ys := by
  unfold listOf at e
  split at e
  · cases e
    exact RV.lst_st r
  · cases e
    exact RV.rol_st r
  · cases e
theorem re_maxD (hc : X.calm = true) (hg : Gl X "max") (hm : X.mg "max" = none) (ha : RE X g W e m) (hb : RE X g W d md)
    (he : backTo pos (starEach [e] X.env) = (false, eval e X.env) :: backTo pos (starEach [] X.env) := by rfl) (hpl : (backTo pos (starEach [e] X.env)).any (·.1) = false := by rfl)
    (hs : starEach [e] X.env = (false, eval e X.env) :: starEach [] X.env := by rfl)
    (hall : (backToKw pos (keywordEach [⟨some "default", d, kpos⟩] X.env)).all (·.1.isSome) = true := by rfl) (hnone : (backToKw pos (keywordEach [⟨some "default", d, kpos⟩] X.env)).any (·.1.isNone) = false := by rfl)
    (hks : (backToKw pos (keywordEach [⟨some "default", d, kpos⟩] X.env)).filterMap (·.1) = [Str.ofString "default"] := by rfl) :
    RE X g W (.Call (.Name "max" p) [e] [⟨some "default", d, kpos⟩] pos) (maxDM m md) :=
  pe_imp (pe_callBK (call_maxD hc) hg hm boot_max (pa_cons ha pa_nil hs) (pk_cons hb pk_nil) (by decide) (by decide) he hpl hall hnone hks) fun σ H Q ⟨w, sv, h, rs, hk, pp⟩ => by
    refine seqG' rs hk pp fun w1 H1 h1 v y e1 rs1 k1 r1 p1 => ?_
    refine seqG' rs1 k1 p1 fun w2 H2 h2 v2 y2 e2 rs2 k2 r2 p2 => ?_
    split at p2
    · rename_i xs ex
      split at p2
      · rename_i ns en
        obtain ⟨a, ys, rfl, rl, st⟩ := listOf_ok ex r1
        have exs := allIt_ok en
        subst exs
        have eys := RVs.ints (RVs.mono e2.sees _ _ rl)
        subst eys
        refine ⟨a, ns, y2, rfl, rfl, st _ _ e2.sees, ?_⟩
        refine Post.here p2 k2 ?_
        cases eb : ns.foldl best1 none with
        | none => exact r2
        | some x => simp only [relV, RV]
      · exact p2.elim
    · exact p2.elim
end
end Mv
set_option Elab.async false
set_option linter.all false
set_option maxRecDepth 100000
namespace Mv
open PySem PySem.Spec PyProof.Rows L2
section
variable {X : Cx} {pos p1 p2 p3 p4 : Pos} {j1 j2 j3 j4 : Nat} {g : Gx} {W : WX}
end
section
variable {prog : Program} {w : World} {A : Around} {E : Value → Shared → Prop} {s : Shared} {d : Addr} {es : Array DictEntry} {ep : Nat}
end
section
variable {P : Program} {w : World} {K : PySem.W.Frag} {tg : Expr} {d : Addr} {o : Obj} {es : Array DictEntry} {ep : Nat}
end
section
variable {K : PySem.W.Frag} {g : Gx} {w : Wd} {H : Hp}
end
section
variable {X : Cx} {tg : Expr}
variable {g : Gx} {W : WX} {e : Expr} {m : ME}
end
end Mv
set_option Elab.async false
set_option linter.all false
set_option maxRecDepth 100000
namespace Mv
open PySem PySem.Spec PyProof.Rows L2
section
variable {K : PySem.W.Frag} {g : Gx} {X : Cx}
end
section
variable {X : Cx} {g : Gx} {W : WX} {e : Expr} {m : ME} {p pos kpos cp : Pos} {j : Nat}
end
section
variable {X : Cx} {g : Gx} {W : WX} {p pos : Pos} {x : Str} {j k : Nat} {f : Addr} {ps : List Str} {mf : MF}
end
section
variable {X : Cx} {g : Gx} {W : WX}
def rListKs : List V → Hp → VK → Prop := fun xs H Q => ∃ a kvs, xs = [.ref a] ∧ Rd H a (.dT kvs) ∧ ∀ qs : List Addr, Paired (fun (p : List Key × V) (q : Addr) => H q = some (.tup (p.1.map kV))) kvs qs → ∀ l, H l = none → Q (.ref l) (upd H l (.lst (qs.map V.ref)))
theorem call_listKs (hc : X.calm = true) : CallR X (.type "list") rListKs := by
  intro pins s σ H xs us Q I r h
  obtain ⟨a, kvs, rfl, hd, q⟩ := h
  rw [Vals.ref1 r]
  obtain ⟨z, hs, ys, pr, o, es, ep, ho, hx, hdt, he, hn⟩ := (show ObjOk X.prog X.w H s.heap a (.dT kvs) from hd.ok I.hok)
  have l1 : es.size = ys.length := size_of_entries he
  have l2 : kvs.length = ys.length := Paired.length pr
  refine PySem.W.kdl_call (KdlSrc.rawDict (es := es) (ep := ep) hs) (I.ok.hd hc) ⟨o, ho, hx, hdt⟩ (by omega) fun h' tk acc c kp hS it => ?_
  have el : acc.toList.length = acc.size := by simp
  have pq : Paired (fun (p : List Key × V) (q : Addr) => H q = some (.tup (p.1.map kV))) kvs (ys.map fun y => y.2.1) := by
    clear he hn l1 l2 z q it hd
    induction pr with
    | nil => exact .nil
    | cons r t ih => exact .cons r.2.1 ih
  refine ⟨.ref s.heap.objs.size, upd H s.heap.objs.size (.lst ((ys.map fun y => y.2.1).map V.ref)), I.laid kp (Nat.le_refl _) (show ObjOk X.prog X.w _ _ _ (.lst ((ys.map fun y => y.2.1).map V.ref)) from ⟨by rw [List.length_map, List.length_map, ← l2]; exact z, acc.toList, c, ?_, by rw [Array.toArray_toList]; exact hS⟩), rfl, q _ pq _ (I.hok.fresh (Nat.le_refl _))⟩
  refine vals_of_at (by rw [List.length_map, List.length_map, el, it.1, l1]) fun j x v h1 h2 => ?_
  obtain ⟨hj, ev⟩ := it.2 j v (by rw [← Array.getElem?_toList]; exact h2)
  have qe := entry_at he j
  rw [Array.getElem?_eq_getElem hj] at qe
  have hy : j < ys.length := by omega
  rw [List.getElem?_eq_getElem hy] at qe
  have e2 : es[j] = entryOfKey (tupleKind (mixKind X.prog X.w)) ys[j] := Option.some.inj qe
  rw [List.map_map, List.getElem?_map, List.getElem?_eq_getElem hy] at h1
  have h3 := Option.some.inj h1
  subst h3
  rw [ev, e2]
  rfl
def listDF : VF := fun xs h => match xs with
  | [x] => (match dictT h x with
    | some (ks, _) => .ok (.lst ks) h
    | none => listF [x] h)
  | _ => .bad
end
end Mv
set_option Elab.async false
set_option linter.all false
set_option maxRecDepth 100000
namespace Mv
open PySem PySem.Spec PyProof.Rows L2
section
variable {K : PySem.W.Frag} {g : Gx} {w : Wd} {H : Hp} {h : VH}
theorem keys_refs (hk : Hk K g w h H) : ∀ {kvs : List (List Key × V)} {qs : List Addr}, Paired (fun (p : List Key × V) (q : Addr) => H q = some (.tup (p.1.map kV))) kvs qs → RVs K g w H (keysT kvs) (qs.map V.ref)
  | [], _, .nil => by simp [keysT, RVs]
  | p :: kvs, _, .cons (b := q) r t => by
    have ih := keys_refs hk t
    simp only [keysT, List.map_cons, RVs] at ih ⊢
    exact ⟨_, _, rfl, RV.tup_of r (hk.spc q _ r) (RVs.of_kVs _), ih⟩
theorem listDS : CallS K g (fun xs H Q => (∃ p ys, xs = [.ref p] ∧ (SqL K H p ys ∨ SqT K H p ys) ∧ ∀ l, H l = none → Q (.ref l) (upd H l (.lst ys))) ∨ rListKs xs H Q) listDF := by
  intro w h H σ W Q xs vs hk r p
  unfold listDF at p
  split at p
  · split at p
    · rename_i ks vs2 e
      obtain ⟨y, rfl, r1⟩ := r.one
      obtain ⟨a, kvs, rfl, h1, h2, _⟩ := dictT_ok hk e r1
      subst h2
      exact .inr ⟨a, kvs, rfl, h1, fun qs pq l hl => post_newl p hk (keys_refs hk pq) hl⟩
    · exact .inl (listS w h H σ W Q _ vs hk r p)
  · exact p.elim
theorem call_listDT {X : Cx} (hc : X.calm = true) : CallR X (.type "list") (fun xs H Q => (∃ p ys, xs = [.ref p] ∧ (SqL X.K H p ys ∨ SqT X.K H p ys) ∧ ∀ l, H l = none → Q (.ref l) (upd H l (.lst ys))) ∨ rListKs xs H Q) := CallR.or call_list_of (call_listKs hc)
end
section
variable {X : Cx} {g : Gx} {W : WX} {e : Expr} {m : ME} {p pos apos cpos : Pos}
end
theorem KT.mergeT {H : Hp} : ∀ {more kvs : List (List Key × V)} {xs ys : List (List Key × Addr × Value)}, KT H more ys → KT H kvs xs → KT H (mergeT kvs more) (storedAllH xs ys)
  | [], _, _, _, .nil, r => r
  | p :: more, kvs, xs, _, .cons (b := q) r t, r2 => by
    have h1 : KT H (putK kvs p.1 p.2) (storedH xs p.1 q.2.1 q.2.2) := KT.put r2 p.1 r.2.1 r.2.2
    rw [r.1] at h1
    have h2 := KT.mergeT t h1
    show KT H (Mv.mergeT (putK kvs p.1 p.2) more) _
    rw [r.1]
    exact h2
section
variable {X : Cx} {o e : Expr} {apos cpos : Pos} {td ty : TE}
end
end Mv
set_option Elab.async false
set_option linter.all false
set_option maxRecDepth 100000
namespace Mv
open PySem PySem.Spec PyProof.Rows L2
section
variable {K : PySem.W.Frag} {g : Gx} {w w2 : Wd} {H H2 : Hp} {h h2 : VH} {D : Addr} {vo : VO}
theorem adopt_mut (hP : w2.P = (w.guard D).P) {a : Addr} (z : ((w2.bare w.P).push D).mut a) : w2.mut a := by
  rcases z with z | z | z
  · unfold Wd.push at z
    rcases List.mem_append.mp z with z | z
    · exact .inl z
    · have e : a = D := by simpa using z
      exact .inr (.inl (by rw [hP, e]; exact .inr rfl))
  · exact .inr (.inl (by rw [hP]; exact .inl z))
  · exact .inr (.inr z)
theorem adopt_at {n : Nat} (hn : n < w2.phi.length) : ((w2.bare w.P).push D).phi[n]? = w2.phi[n]? := by
  unfold Wd.push
  exact List.getElem?_append_left hn
theorem adopt_sees (hP : w2.P = (w.guard D).P) : Sees w2 H2 ((w2.bare w.P).push D) H2 where
  Q := rfl
  keep := fun a u q m => ⟨q, fun z => m (adopt_mut hP z)⟩
  refs := fun n b hn q => by rw [adopt_at hn] at q; exact q
  len := by
    unfold Wd.push
    show w2.phi.length ≤ (w2.phi ++ [some D]).length
    simp
theorem adopt_ext (gd : Gd w H D w2 H2) : Ext w H ((w2.bare w.P).push D) H2 where
  keep := fun a u q m => let ⟨h1, h2⟩ := gd.keep a u q m; ⟨h1, fun z => h2 (adopt_mut gd.P z)⟩
  refs := fun n b hn q => gd.refs n b hn (by rw [adopt_at (Nat.lt_of_lt_of_le hn gd.len)] at q; exact q)
  len := Nat.le_trans gd.len (adopt_sees (H2 := H2) gd.P).len
  P := rfl
  Q := gd.Q
  O := gd.O
  prot := gd.prot
theorem adopt_hk (k0 : Hk K g w h H) (hD : H D = none) (hP : w2.P = (w.guard D).P) (k : Hk K g w2 h2 H2) (r : RO K g ((w2.bare w.P).push D) H2 vo D) : Hk K g ((w2.bare w.P).push D) (h2 ++ [vo]) H2 := by
  have pD : w2.P D := by rw [hP]; exact .inr rfl
  have nD : some D ∉ w2.phi := (k.prot D (.inl pD)).2
  have key : ∀ (i : Nat) (a : Addr), ((w2.bare w.P).push D).phi[i]? = some (some a) → (i < w2.phi.length ∧ w2.phi[i]? = some (some a)) ∨ (i = w2.phi.length ∧ a = D) := fun i a hi => by
    by_cases c : i < w2.phi.length
    · rw [adopt_at c] at hi
      exact .inl ⟨c, hi⟩
    · have hi2 : (w2.phi ++ [some D])[i]? = some (some a) := hi
      have lt := (List.getElem?_eq_some_iff.mp hi2).1
      have e : i = w2.phi.length := by
        have l1 : (w2.phi ++ [some D]).length = w2.phi.length + 1 := by simp
        omega
      subst e
      simp at hi2
      exact .inr ⟨rfl, hi2.symm⟩
  refine ⟨?_, ?_, ?_, ?_, ?_, ?_, k.ownI, ?_⟩
  · show (w2.phi ++ [some D]).length = (h2 ++ [vo]).length
    simp [k.len]
  · intro n m a hn hm
    rcases key n a hn with ⟨c1, e1⟩ | ⟨c1, e1⟩ <;> rcases key m a hm with ⟨c2, e2⟩ | ⟨c2, e2⟩
    · exact k.inj n m a e1 e2
    · subst e2; exact (nD (List.mem_of_getElem? e1)).elim
    · subst e1; exact (nD (List.mem_of_getElem? e2)).elim
    · omega
  · intro n a hn
    rcases key n a hn with ⟨c1, e1⟩ | ⟨c1, e1⟩
    · obtain ⟨u, q1, q2⟩ := k.obj n a e1
      exact ⟨u, by rw [List.getElem?_append_left (by rw [← k.len]; exact c1)]; exact q1, RO.mono (adopt_sees hP) u a (fun z q => q) q2⟩
    · subst e1
      have en : n = h2.length := by rw [← k.len]; exact c1
      exact ⟨vo, by rw [en]; simp, r⟩
  · intro n u hn hd
    by_cases c : n < h2.length
    · rw [List.getElem?_append_left c] at hn
      obtain ⟨a, ha⟩ := k.has n u hn hd
      exact ⟨a, by rw [adopt_at (by rw [k.len]; exact c)]; exact ha⟩
    · have c2 := (List.getElem?_eq_some_iff.mp hn).1
      rw [List.length_append, List.length_singleton] at c2
      have en : n = w2.phi.length := by rw [k.len]; omega
      refine ⟨D, ?_⟩
      show (w2.phi ++ [some D])[n]? = some (some D)
      rw [en]
      simp
  · intro a ha
    have ha2 : w2.P a ∨ some a ∈ w2.O := by
      rcases ha with z | z
      · exact .inl (by rw [hP]; exact .inl z)
      · exact .inr z
    obtain ⟨q1, q2⟩ := k.prot a ha2
    refine ⟨q1, fun z => ?_⟩
    rcases List.mem_append.mp (show some a ∈ w2.phi ++ [some D] from z) with z | z
    · exact q2 z
    · have e : a = D := by simpa using z
      subst e
      rcases ha with y | y
      · exact k0.live (.inr (.inl y)) hD
      · exact k.own a pD y
  · intro a ha
    exact k.own a (by rw [hP]; exact .inl ha)
  · intro a u e
    have s := k.spc a u e
    cases u with
    | tbl _ =>
      show some a ∈ w2.phi ++ [some D]
      exact List.mem_append_left _ s
    | ext _ => exact fun x z => s x (adopt_mut hP z)
    | tup _ => exact fun z => s (adopt_mut hP z)
    | _ => trivial
end
section
variable {X : Cx} {g : Gx} {W : WX}
theorem refset_extE {K : PySem.W.Frag} {w : Wd} {H : Hp} {h : VH} {n : Nat} {a : Addr} {o : HO} (k : Hk K g w h H) (hn : w.phi[n]? = some (some a)) : Ext w H w (upd H a o) where
  keep := (ownset_sees (.inl (List.mem_of_getElem? hn))).keep
  refs := fun _ _ _ q => q
  len := Nat.le_refl _
  P := rfl
  Q := rfl
  O := rfl
  prot := fun b hb => upd_ne fun e => (k.prot b hb).2 (by rw [e]; exact List.mem_of_getElem? hn)
end
end Mv
set_option Elab.async false
set_option linter.all false
set_option maxRecDepth 100000
namespace Mv
open PySem PySem.Spec PyProof.Rows L2
section
variable {P : Program} {w : World} {K : PySem.W.Frag} {tg : Expr} {d : Addr} {o : Obj} {es : Array DictEntry} {ep : Nat}
end
section
variable {K : PySem.W.Frag} {g : Gx} {w : Wd} {H : Hp}
end
section
variable {X : Cx} {tg e : Expr} {td : TE} {apos cpos : Pos}
variable {g : Gx} {W : WX} {m : ME}
end
end Mv
set_option Elab.async false
set_option linter.all false
set_option maxRecDepth 100000
namespace Mv
open PySem PySem.Spec PyProof.Rows L2
section
variable {X : Cx} {g : Gx} {W : WX} {e : Expr} {me : ME} {i j : Nat} {x y : Str} {px py p1 p2 pt pt2 pos : Pos} {kt k2 : Nat}
end
end Mv
set_option Elab.async false
set_option linter.all false
set_option maxRecDepth 100000
namespace Mv
open PySem PySem.Spec PyProof.Rows L2
section
variable {X : Cx} {g : Gx} {W : WX}
inductive RJ (X : Cx) (g : Gx) (W : WX) : List Expr → List ME → Prop where
  | nil : RJ X g W [] []
  | cons {e : Expr} {m : ME} {es : List Expr} {ms : List ME} (h : RE X g W e m) (r : RJ X g W es ms) : RJ X g W (e :: es) (m :: ms)
end
end Mv
set_option Elab.async false
set_option linter.all false
set_option maxRecDepth 100000
namespace Mv
open PySem PySem.W PySem.Spec PyProof.Rows L2
def dedupM : List Addr → Nat → List Addr × Nat
  | [], m => ([], m)
  | a :: r, m => match Nat.testBit m a with
    | true => dedupM r m
    | false => match dedupM r (m ||| (1 <<< a)) with
      | (l, m2) => (a :: l, m2)
def reachM (g : Addr → Option Obj) : Nat → List Addr → Nat → List Addr
  | 0, fr, _ => fr
  | n + 1, fr, m => match dedupM (fr.flatMap fun a => match g a with
      | some o => He.refsD o
      | none => []) m with
    | (l, m2) => fr ++ reachM g n l m2
def asF (g : Addr → Option Obj) (n : Nat) : List Addr := cStatics :: reachM g n [mainGlobals] (1 <<< mainGlobals)
def obsF (n : Nat) (fa : List He.Fa) (fn : List He.DefD) (tf : List He.Defn) (ex : Frag → Bool) (g : Addr → Option Obj) : He.AlX := (He.obsT fa fn [] (He.frT g (asF g n)), ex (He.frT g (asF g n)) && He.tabsB g tf (He.frT g (asF g n)))
theorem saysF_of {n : Nat} {fa : List He.Fa} {fn : List He.DefD} {tf : List He.Defn} {ex : Frag → Bool} {w : World} {h : Heap} (e : obsF n fa fn tf ex h.get? = He.valX fn [] w) : He.SaysX fa fn [] tf ex w h (He.frT h.get? (asF h.get? n)) := by
  have e1 : He.obsT fa fn [] (He.frT h.get? (asF h.get? n)) = He.valT fn [] w := congrArg Prod.fst e
  have e2 : (ex (He.frT h.get? (asF h.get? n)) && He.tabsB h.get? tf (He.frT h.get? (asF h.get? n))) = true := congrArg Prod.snd e
  obtain ⟨i1, i2⟩ := Bool.and_eq_true_iff.mp e2
  have each : ∀ p ∈ tf, codeHdIn (He.frT h.get? (asF h.get? n)) (He.cT (He.frT h.get? (asF h.get? n)) p).1 (He.cT (He.frT h.get? (asF h.get? n)) p).2 = true ∧ ∃ o, h.get? (He.cT (He.frT h.get? (asF h.get? n)) p).2 = some o ∧ He.emptyTab o = true := fun p hp => by
    obtain ⟨j1, j2⟩ := Bool.and_eq_true_iff.mp (List.all_eq_true.mp i2 p hp)
    refine ⟨j1, ?_⟩
    cases q : h.get? (He.cT (He.frT h.get? (asF h.get? n)) p).2 with
    | some o =>
      rw [q] at j2
      exact ⟨o, rfl, j2⟩
    | none =>
      rw [q] at j2
      cases j2
  refine ⟨e1, i1, fun p hp => (each p hp).1, fun p hp => ?_, fun p hp => ?_⟩
  · obtain ⟨_, o, q, z⟩ := each p hp
    exact He.frT_none q z
  · obtain ⟨_, o, q, z⟩ := each p hp
    rw [q, He.emptyTab_eq z]
end Mv
set_option Elab.async false
set_option linter.all false
set_option maxRecDepth 100000
namespace Mv
open PySem PySem.Spec PyProof.Rows L2
section
variable {X : Cx} {g : Gx} {W : WX} {pos : Pos} {m m2 : MS}
end
def maxL : Int → List Int → Int
  | m, [] => m
  | m, x :: r => maxL (if x > m then x else m) r
theorem maxL_ok : ∀ (l : List Int) (m : Int), (maxL m l = m ∨ maxL m l ∈ l) ∧ m ≤ maxL m l ∧ ∀ y ∈ l, y ≤ maxL m l
  | [], m => ⟨.inl rfl, Int.le_refl _, fun y hy => by cases hy⟩
  | x :: r, m => by
    obtain ⟨h1, h2, h3⟩ := maxL_ok r (if x > m then x else m)
    show (maxL (if x > m then x else m) r = m ∨ maxL (if x > m then x else m) r ∈ x :: r) ∧ m ≤ maxL (if x > m then x else m) r ∧ ∀ y ∈ x :: r, y ≤ maxL (if x > m then x else m) r
    by_cases c : x > m
    · rw [if_pos c] at h1 h2 h3 ⊢
      refine ⟨.inr ?_, by omega, fun y hy => ?_⟩
      · rcases h1 with e | e
        · rw [e]; exact List.mem_cons_self
        · exact List.mem_cons_of_mem _ e
      · rcases List.mem_cons.mp hy with e | e
        · rw [e]; exact h2
        · exact h3 y e
    · rw [if_neg c] at h1 h2 h3 ⊢
      refine ⟨?_, h2, fun y hy => ?_⟩
      · rcases h1 with e | e
        · exact .inl e
        · exact .inr (List.mem_cons_of_mem _ e)
      · rcases List.mem_cons.mp hy with e | e
        · rw [e]; omega
        · exact h3 y e
def max1F : VF := fun xs h => match xs with
  | [x] => (match listOf x with
    | some ys => (match allIt ys with
      | some (n :: ns) => .ok (.int (maxL n ns)) h
      | _ => .bad)
    | none => .bad)
  | _ => .bad
section
variable {K : PySem.W.Frag} {g : Gx}
theorem max1S : CallS K g (rMax K) max1F := by
  intro w h H σ W Q xs vs hk r p
  unfold max1F at p
  split at p
  · split at p
    · rename_i ys ey
      split at p
      · rename_i n ns en
        obtain ⟨y, rfl, r1⟩ := r.one
        obtain ⟨a, zs, rfl, rl, st⟩ := listOf_ok ey r1
        have exs := allIt_ok en
        subst exs
        have eys := RVs.ints rl
        subst eys
        obtain ⟨h1, h2, h3⟩ := maxL_ok ns n
        refine ⟨a, n :: ns, rfl, st _ _ (Sees.refl _ _), by simp, fun m hm hl => ?_⟩
        have em : m = maxL n ns := by
          have a1 : maxL n ns ≤ m := hl _ (h1.elim (fun e => by rw [e]; exact List.mem_cons_self) fun e => List.mem_cons_of_mem _ e)
          have a2 : m ≤ maxL n ns := by
            rcases List.mem_cons.mp hm with e | e
            · rw [e]; exact h2
            · exact h3 m e
          omega
        rw [em]
        exact post_int p hk
      · exact p.elim
    · exact p.elim
  · exact p.elim
end
end Mv
set_option Elab.async false
set_option linter.all false
set_option maxRecDepth 100000
namespace Mv
open PySem PySem.Spec PyProof.Rows L2
section
variable {X : Cx} {g : Gx} {W : WX} {o e : Expr} {mo : ME} {ma : MA} {apos cpos : Pos}
end
section
variable {X : Cx} {o e f : Expr} {td ty tx : TE} {apos cpos : Pos}
variable {g : Gx} {W : WX} {mo mk mx : ME}
end
end Mv
set_option Elab.async false
set_option linter.all false
set_option maxRecDepth 100000
namespace Mv
open PySem PySem.Spec PyProof.Rows L2
section
variable {X : Cx} {pins : List (Addr × Obj)} {σ : L2.St} {H : Hp} {s : Shared}
end
section
variable {X : Cx} {g : Gx} {W : WX}
end
def fnE (np : Nat) (m : ME) : MF := fun vs h => if vs.length = np then m (vs.map some) h else .bad
def LamOk (P : Program) (w : World) (K : PySem.W.Frag) (mg : Str → Option Value) (g : Gx) (k n i j : Nat) (mf : MF) : Prop :=
  ∃ (params : Arguments) (body : Expr) (scope : Scope) (q : Str) (ps : List Str) (m : ME), lamK K (g.adr n) i j = some (params, body, scope, q) ∧ FnScope ps ps scope ∧ mf = fnE ps.length m ∧
    (∀ (pm cv ct : Value) (us : List Value), us.length = ps.length → bindArgs (PySem.W.kla_fn "<lambda>" q params body scope [] pm cv ct) ⟨us, []⟩ = pure (ps.zip us)) ∧
    ∀ (base : Heap) (f : Addr) (cdv : Value) (A : Around) (outer : List Env) (s : Shared) (H : Hp) (E : XK), Room k (A.deeper (envOfC q scope s.heap.objs.size f cdv)) → RE (cxOf (L2.CX P w) P w K mg base ps q scope f cdv A outer s H E) g (WK E) body m
theorem LamOk.mono {P : Program} {w : World} {K : PySem.W.Frag} {mg : Str → Option Value} {g : Gx} {k k' n i j : Nat} {mf : MF} (h : LamOk P w K mg g k n i j mf) (l : k ≤ k') : LamOk P w K mg g k' n i j mf := by
  obtain ⟨a, b, c, q, ps, m, h1, h2, h3, h4, h5⟩ := h
  exact ⟨a, b, c, q, ps, m, h1, h2, h3, h4, fun base f cdv A outer s H E hr => h5 base f cdv A outer s H E (hr.mono l)⟩
section
variable {X : Cx} {g : Gx} {W : WX} {e : Expr} {es : List Expr} {ma : MA} {p pos : Pos} {x : Str} {j k : Nat}
end
end Mv
set_option Elab.async false
set_option linter.all false
set_option maxRecDepth 100000
namespace Mv
open PySem PySem.W PySem.Spec PyProof.Rows L2 SlX
def pgA (K : Frag) (p : Str × Str) : Addr := match findIn K (.ref (He.ga K p.1)) p.2 with
  | some (some (.ref q)) => (match recIn K q "property" with
    | some (.ref g :: _) => g
    | _ => 0)
  | _ => 0
def pgW (K : Frag) (p : Str × Str) : He.FnW := match K.lookup (pgA K p) with
  | some ⟨_, _, .func fd, _⟩ => some (fd.name, fd.qualname, fd.params, fd.body, fd.scope, fd.globals, fd.closure, fd.builtins)
  | _ => none
structure PrD where
  at_ : Str × Str
  d : He.DefD
def PrD.ok (K : Frag) (p : PrD) : Bool := keepIn K (.ref (pgA K p.at_)) && (match K.lookup (pgA K p.at_) with
  | some ⟨_, _, .func fd, _⟩ => codeIn K fd.code p.d.qual && (He.dflB K fd.defaults (p.d.dvs K) && He.kwdB K fd.kwdefaults (p.d.kws K))
  | _ => false)
theorem PrD.funD {K : Frag} {p : PrD} (e : pgW K p.at_ = p.d.val) (c : p.ok K = true) : ∃ fd, FunD K p.d.name p.d.qual p.d.params p.d.body p.d.scope (p.d.dvs K) (p.d.kws K) (pgA K p.at_) fd := by
  obtain ⟨at_, d⟩ := p
  obtain ⟨kp, c2⟩ := He.ba c
  unfold pgW at e
  dsimp only at e c2 kp ⊢
  cases q : K.lookup (pgA K at_) with
  | none =>
    rw [q] at c2
    cases c2
  | some o =>
    obtain ⟨oc, od, dt, osl⟩ := o
    rw [q] at c2 e
    cases dt with
    | func fd =>
      obtain ⟨n1, n2, n3, n4, n5, n6, n7, n8, n9, n10, n11, n12, n13, n14, n15⟩ := fd
      have e2 : (some (n1, n2, n3, n4, n5, n6, n7, n15) : He.FnW) = some (d.name, d.qual, d.params, .stmts d.body, d.scope, mainGlobals, [], builtinsNs) := e
      simp only [Option.some.injEq, Prod.mk.injEq] at e2
      obtain ⟨h1, h2, h3, h4, h5, h6, h7, h8⟩ := e2
      subst h1 h2 h3 h4 h5 h6 h7 h8
      have c3 : (codeIn K n13 d.qual && (He.dflB K n8 (d.dvs K) && He.kwdB K n9 (d.kws K))) = true := c2
      obtain ⟨k1, k2⟩ := He.ba c3
      obtain ⟨k3, k4⟩ := He.ba k2
      exact ⟨_, ⟨oc, od, n8, n9, n10, n11, n12, n13, n14, osl, rfl, q, k1, He.dflB_ok k3, He.kwdB_ok k4⟩, kp⟩
    | _ => cases c2
abbrev AlP : Type := Bool × List He.FnW
def obsPK (pn : List PrD) (K : Frag) : AlP := (pn.all fun d => d.ok K, pn.map fun d => pgW K d.at_)
def valP (pn : List PrD) : AlP := (true, pn.map fun d => d.d.val)
def PrS (pn : List PrD) (K : Frag) : Prop := obsPK pn K = valP pn
theorem PrS.def_ {pn : List PrD} {K : Frag} (c : PrS pn K) (i : Nat) {p : PrD} (h : pn[i]? = some p := by rfl) : ∃ fd, FunD K p.d.name p.d.qual p.d.params p.d.body p.d.scope (p.d.dvs K) (p.d.kws K) (pgA K p.at_) fd := by
  have c2 : (pn.all fun d => d.ok K) = true := congrArg (fun z : AlP => z.1) c
  have e : pn.map (fun d => pgW K d.at_) = pn.map fun d => d.d.val := congrArg (fun z : AlP => z.2) c
  have e2 : (pn.map fun d => pgW K d.at_)[i]? = (pn.map fun d => d.d.val)[i]? := by rw [e]
  rw [List.getElem?_map, List.getElem?_map, h] at e2
  exact PrD.funD (Option.some.inj e2) (List.all_eq_true.mp c2 p (List.mem_of_getElem? h))
def obsP (n : Nat) (fa : List He.Fa) (fn : List He.DefD) (tf : List He.Defn) (ex : Frag → Bool) (pn : List PrD) (g : Addr → Option Obj) : He.AlX × AlP := (obsF n fa fn tf ex g, obsPK pn (He.frT g (asF g n)))
def hookP (n : Nat) (fa : List He.Fa) (fn : List He.DefD) (tf : List He.Defn) (ex : Frag → Bool) (pn : List PrD) : Hook where
  α := He.AlX × AlP
  obs := fun s => obsP n fa fn tf ex pn s.heap.get?
  val := fun w => (He.valX fn [] w, valP pn)
  says := fun w h => ∃ K : Frag, K.In h ∧ He.SaysX fa fn [] tf ex w h K ∧ PrS pn K
  of := fun _ _ e => ⟨_, He.frT_in, saysF_of (congrArg (fun z : He.AlX × AlP => z.1) e), congrArg (fun z : He.AlX × AlP => z.2) e⟩
  keeps := fun _ _ _ ⟨K, i, c, p⟩ k => ⟨K, Frag.In.keeps i k, ⟨c.t, c.more, c.hd, c.out, fun p hp => k _ _ (c.empty p hp)⟩, p⟩
theorem obsP_eq {n : Nat} {fa : List He.Fa} {fn : List He.DefD} {tf : List He.Defn} {ex : Frag → Bool} {pn : List PrD} {g : Addr → Option Obj} {s : Shared} (h : ∀ a, g a = s.heap.get? a) : obsP n fa fn tf ex pn g = (hookP n fa fn tf ex pn).obs s := by
  have e : g = s.heap.get? := funext h
  rw [e]
  rfl
structure HyP (fa : List He.Fa) (fn : List He.DefD) (ex : Frag → Bool) (pn : List PrD) (K : Frag) (mg : Str → Option Value) : Prop extends Hy fa fn ex K mg where
  p : PrS pn K
def propB (K : Frag) (C : Addr) (f : Str) (g : Addr) : Bool := match findIn K (.ref C) f with
  | some (some (.ref p)) => decide (specialIn K (.ref p) "__get__" = some (some (.builtin "property.__get__"))) && decide (takesIn K (.ref p) = some true) && (match recIn K p "property" with
    | some (.ref g' :: _) => decide (g' = g)
    | _ => false)
  | _ => false
theorem propB_ok {K : Frag} {C : Addr} {f : Str} {g : Addr} (h : propB K C f g = true) : ∃ p, PropOf K C f p g := by
  unfold propB at h
  split at h
  · rename_i p e
    simp only [Bool.and_eq_true, decide_eq_true_eq] at h
    obtain ⟨⟨h1, h2⟩, h3⟩ := h
    split at h3
    · rename_i g' rest er
      have := of_decide_eq_true h3
      subst this
      exact ⟨p, e, h1, h2, rest, er⟩
    · cases h3
  · cases h
def PropT (P : Program) (w : World) (K : Frag) (mg : Str → Option Value) (g : Gx) (k : Nat) (f : Str) (tab : List (Nat × MF)) : Prop := ∀ c mf, tab.lookup c = some mf → SCls K (g.adr c) ∧ ∃ p gA ps, PropOf K (g.adr c) f p gA ∧ OkF P w K mg g k gA ps mf
section
variable {P : Program} {w : World} {K : Frag} {mg : Str → Option Value} {g : Gx} {k j : Nat} {f : Str}
theorem propT_nil : PropT P w K mg g k f [] := fun c mf e => by cases e
theorem propT_cons {c : Nat} {C gA : Addr} {mf : MF} {ps : List Str} {tab : List (Nat × MF)} (F : OkF P w K mg g j gA ps mf) (cl : clsSB K C = true) (pb : propB K C f gA = true) (r : PropT P w K mg g k f tab) (hC : C = g.adr c := by rfl) (hj : j ≤ k := by omega) : PropT P w K mg g k f ((c, mf) :: tab) := fun n2 mf2 e => by
  subst hC
  rw [List.lookup_cons] at e
  split at e
  · rename_i q
    cases e
    have : n2 = c := by simpa using q
    subst this
    obtain ⟨p, hp⟩ := propB_ok pb
    obtain ⟨fd, F, B, kp, b⟩ := F
    exact ⟨(clsSB_ok cl).c, p, gA, ps, hp, fd, fun base => (F base).mono hj, B, kp, b⟩
  · exact r n2 mf2 e
end
def propM (tab : List (Nat × MF)) (a : ME) : ME := fun sv h => (a sv h).bind fun x h1 => match x with
  | .ref n => (match insAt h1 n with
    | some (c, _, _) => (match tab.lookup c with
      | some mf => (match mf [.ref n] h1 with
        | .ok v h2 => .ok v h2
        | _ => .bad)
      | none => .bad)
    | none => .bad)
  | _ => .bad
section
variable {X : Cx} {g : Gx} {W : WX} {e : Expr} {m : ME} {pos : Pos} {f : Str} {k j : Nat}
theorem re_prop {tab : List (Nat × MF)} (T : PropT X.prog X.w X.K X.mg g j f tab) (hr : Room k X.A) (he : RE X g W e m) (hj : j + 1 ≤ k := by omega) (hb : attributeBase e f X.env (eval e X.env) = eval e X.env := by rfl) : RE X g W (.Attribute e f pos) (propM tab m) := by
  refine ⟨fun pins s σ H Q I ⟨w, sv, h, rs, hk, pp⟩ => ?_⟩
  have hq : tG X.K g (relV X.K g) m W σ H fun x H1 => ∃ a C dx vs gA p ps mf, x = .ref a ∧ Slt H1 a C dx vs ∧ SCls X.K C ∧ PropOf X.K C f p gA ∧ OkF X.prog X.w X.K X.mg g j gA ps mf ∧ spM X.K g mf [.ref a] H1 Q (fun _ _ _ => False) := by
    refine seqG' rs hk pp fun w1 H1 h1 v y e1 rs1 k1 r1 p1 => ?_
    split at p1
    · rename_i n
      split at p1
      · rename_i c mm vs ei
        split at p1
        · rename_i mf el
          obtain ⟨a, dx, ys, rfl, hs, ro, _⟩ := insAt_ok k1 r1 ei
          obtain ⟨cc, p, gA, ps, hp, F⟩ := T c mf el
          refine ⟨a, _, dx, ys, gA, p, ps, mf, rfl, hs, cc, hp, F, w1, h1, [.ref n], k1, by simp only [RVs]; exact ⟨_, _, rfl, r1, rfl⟩, ?_⟩
          split at p1
          · rename_i v h2 em
            rw [em]
            exact p1
          · exact p1.elim
        · exact p1.elim
      · exact p1.elim
    · exact p1.elim
  refine attr_of hb (thn (he.run pins s σ H _ I hq) fun u s1 ⟨x, H1, I1, rx, a, C, dx, vs, gA, p, ps, mf, ex, hs, cc, hp, F, q⟩ => ?_)
  subst ex
  obtain rfl : u = Value.ref a := rx
  obtain ⟨fd, F, B, kp, _⟩ := F
  obtain ⟨k, rfl⟩ : ∃ k', k = k' + 1 := ⟨k - 1, by omega⟩
  refine getprop_sl (CX := L2.CX X.prog X.w) (E := fun _ _ _ => False) (n := k) (sp := fun vs H Q E => spM X.K g mf (vs ++ []) H Q E) I1 hs cc hp.at_ hp.get hp.tak hp.rec_ (((F X.base).mono (by omega)).raw B .nil) hr (fun H s e s' z => ?_) q
  obtain ⟨_, _, _, _, _, _, _, _, _, _, _, _, z⟩ := z
  exact z.elim
end
end Mv
set_option Elab.async false
set_option linter.all false
set_option maxRecDepth 100000
namespace Mv
open PySem PySem.Spec PyProof.Rows L2
section
variable {K : PySem.W.Frag} {g : Gx} {w w1 w2 : Wd} {H H1 H2 : Hp} {h h1 h2 : VH} {sl : Sl} {σ : L2.St} {i : Nat} {a : Addr} {o : HO}
theorem RF.noS (f : RF K g w H sl σ) : RF K g (w.drop i) H (sl.set i .no) σ where
  len := by rw [List.length_set]; exact f.len
  lenO := by unfold Wd.drop; rw [List.length_set, List.length_set]; exact f.lenO
  val := fun j u q => by
    rw [List.getElem?_set] at q
    by_cases e : i = j
    · subst e
      rw [if_pos rfl] at q
      split at q <;> cases q
    · rw [if_neg e] at q
      obtain ⟨h1, z, h2, h3⟩ := f.val j u q
      refine ⟨?_, z, h2, RV.mono drop_sees _ _ h3⟩
      unfold Wd.drop
      rw [List.getElem?_set, if_neg e]
      exact h1
  own := fun j zs q => by
    rw [List.getElem?_set] at q
    by_cases e : i = j
    · subst e
      rw [if_pos rfl] at q
      split at q <;> cases q
    · rw [if_neg e] at q
      obtain ⟨p, ys, h1, h2, h3, h4⟩ := f.own j zs q
      refine ⟨p, ys, ?_, h2, h3, RVs.mono drop_sees _ _ h4⟩
      unfold Wd.drop
      rw [List.getElem?_set, if_neg e]
      exact h1
  no := fun j q => by
    have hO := f.lenO
    unfold Wd.drop
    rw [List.getElem?_set] at q ⊢
    by_cases e : i = j
    · subst e
      rw [if_pos rfl] at q ⊢
      split at q
      · rw [if_pos (by omega)]
      · cases q
    · rw [if_neg e] at q ⊢
      exact f.no j q
def Wd.hide (w : Wd) (a : Addr) : Wd := { w with P := fun b => w.P b ∨ b = a }
theorem mut_hide {b : Addr} : (w.hide a).mut b → w.mut b ∨ b = a := by
  rintro (z | (z | z) | z)
  · exact .inl (.inl z)
  · exact .inl (.inr (.inl z))
  · exact .inr z
  · exact .inl (.inr (.inr z))
theorem hide_sees (hp : H a = none) : Sees w H (w.hide a) (upd H a o) where
  Q := rfl
  keep := fun b u q m => ⟨by rw [upd_ne (ne_of_none q hp)]; exact q, fun z => by
    rcases mut_hide z with z | z
    · exact m z
    · subst z
      rw [hp] at q
      cases q⟩
  refs := fun _ _ _ q => q
  len := Nat.le_refl _
theorem Hk.hide (k : Hk K g w h H) (hp : H a = none) (hd : ∀ z, Spc z a o := by exact fun _ => Spc.of rfl) : Hk K g (w.hide a) h (upd H a o) where
  len := k.len
  inj := k.inj
  obj := fun n b hn => by
    obtain ⟨u, h1, h3⟩ := k.obj n b hn
    exact ⟨u, h1, RO.mono (hide_sees hp) u b (fun z q => by rw [upd_ne (ne_of_none q hp)]; exact q) h3⟩
  has := k.has
  prot := fun b hb => by
    have old : w.P b ∨ some b ∈ w.O → (upd H a o) b ≠ none ∧ some b ∉ (w.hide a).phi := fun z => by
      obtain ⟨h1, h2⟩ := k.prot b z
      refine ⟨?_, h2⟩
      rw [upd_ne (show b ≠ a from fun e => h1 (by rw [e]; exact hp))]
      exact h1
    rcases hb with (z | z) | z
    · exact old (.inl z)
    · subst z
      exact ⟨by rw [upd_same]; simp, fun z => k.live (.inl z) hp⟩
    · exact old (.inr z)
  own := fun b hb z => by
    rcases hb with q | q
    · exact k.own b q z
    · subst q
      exact k.live (.inr (.inr z)) hp
  ownI := k.ownI
  spc := k.spc.upd hd fun b ne => ⟨id, fun z => (mut_hide z).elim id fun e => (ne e).elim⟩
def Wd.seek (w2 w1 : Wd) (i : Nat) (a : Addr) : Wd := { w2 with P := w1.P, O := w1.O.set i (some a) }
theorem mut_seek (e : Ext (w1.hide a) H1 w2 H2) {b : Addr} : (w2.seek w1 i a).mut b → w2.mut b := by
  have eP := e.P
  have eO := e.O
  rintro (z | z | z)
  · exact .inl z
  · exact .inr (.inl (by rw [eP]; exact .inl z))
  · rcases List.mem_or_eq_of_mem_set z with z | z
    · exact .inr (.inr (by rw [eO]; exact z))
    · cases z
      exact .inr (.inl (by rw [eP]; exact .inr rfl))
theorem seek_sees (e : Ext (w1.hide a) H1 w2 H2) : Sees w2 H2 (w2.seek w1 i a) H2 := ⟨fun b u q m => ⟨q, fun z => m (mut_seek e z)⟩, fun _ _ _ q => q, Nat.le_refl _, rfl⟩
theorem Hk.seek (k1 : Hk K g w1 h1 H) (hp : H a = none) (e : Ext (w1.hide a) (upd H a o) w2 H2) (k2 : Hk K g w2 h2 H2) (hd : ∀ z, Spc z a o := by exact fun _ => Spc.of rfl) : Hk K g (w2.seek w1 i a) h2 H2 where
  len := k2.len
  inj := k2.inj
  obj := fun n b hn => by
    obtain ⟨u, h1, h3⟩ := k2.obj n b hn
    exact ⟨u, h1, RO.mono (seek_sees e) u b (fun z q => q) h3⟩
  has := k2.has
  prot := fun b hb => by
    refine k2.prot b ?_
    rcases hb with z | z
    · exact .inl (by rw [e.P]; exact .inl z)
    · rcases List.mem_or_eq_of_mem_set z with z | z
      · exact .inr (by rw [e.O]; exact z)
      · cases z
        exact .inl (by rw [e.P]; exact .inr rfl)
  own := (k1.mkOwn (i := i) hp hd).own
  ownI := (k1.mkOwn (i := i) hp hd).ownI
  spc := k2.spc.imp fun b => ⟨id, mut_seek e⟩
theorem seek_ext (k1 : Hk K g w1 h1 H) (hp : H a = none) (e : Ext (w1.hide a) (upd H a o) w2 H2) : ExtS w1 H (w2.seek w1 i a) H2 where
  keep := ((hide_sees (w := w1) (o := o) hp).trans (e.sees.trans (seek_sees e))).keep
  refs := ((hide_sees (w := w1) (o := o) hp).trans (e.sees.trans (seek_sees (i := i) e))).refs
  len := ((hide_sees (w := w1) (o := o) hp).trans (e.sees.trans (seek_sees (i := i) e))).len
  P := rfl
  Q := e.Q
  prot := fun b hb => by
    rw [e.prot b (.inl (.inl hb)), upd_ne]
    intro z
    subst z
    exact k1.live (.inr (.inl hb)) hp
theorem own_seek (h0 : w1.O[i]? = some none) (e : Ext (w1.hide a) (upd H a o) w2 H2) : Ext (w1.own i a) (upd H a o) (w2.seek w1 i a) H2 where
  keep := fun b u q m => by
    have m2 : ¬ (w1.hide a).mut b := fun z => by
      have mem : ∀ c, (c = a ∨ some c ∈ w1.O) → some c ∈ w1.O.set i (some a) := fun c hc => by
        rcases hc with rfl | hc
        · exact List.mem_of_getElem? (i := i) (by rw [List.getElem?_set_self (List.getElem?_eq_some_iff.mp h0).1])
        · obtain ⟨n, hn⟩ := List.getElem?_of_mem hc
          refine List.mem_of_getElem? (i := n) ?_
          rw [List.getElem?_set_ne]
          · exact hn
          · intro z
            subst z
            rw [h0] at hn
            cases hn
      rcases z with z | (z | z) | z
      · exact m (.inl z)
      · exact m (.inr (.inl z))
      · exact m (.inr (.inr (mem b (.inl z))))
      · exact m (.inr (.inr (mem b (.inr z))))
    obtain ⟨q1, q2⟩ := e.keep b u q m2
    exact ⟨q1, fun z => q2 (mut_seek e z)⟩
  refs := e.refs
  len := e.len
  P := rfl
  Q := e.Q
  O := rfl
  prot := fun b hb => by
    refine e.prot b ?_
    rcases hb with z | z
    · exact .inl (.inl z)
    · rcases List.mem_or_eq_of_mem_set z with z | z
      · exact .inr z
      · cases z
        exact .inl (.inr rfl)
end
def parVL2 (i j : Nat) (me : ME) (mb : MA) : MS := fun sl h => (me (view sl) h).toS sl fun v h1 => (mb (view sl) h1).toS sl fun xs h2 => if fits xs.length then .nx ((sl.set i (.val v)).set j (.own xs)) h2 else .bad
def parLV2 (i j : Nat) (mb : MA) (me : ME) : MS := fun sl h => match sl[i]? with
  | none => .bad
  | some _ => (mb (view (sl.set i .no)) h).toS (sl.set i .no) fun xs h1 => if fits xs.length then (match me (view (sl.set i .no)) h1 with
    | .ok v h2 => .nx (((sl.set i .no).set i (.own xs)).set j (.val v)) h2
    | _ => .bad) else .bad
section
variable {X : Cx} {g : Gx} {W : WX} {e e' : Expr} {es : List Expr} {me mf : ME} {mb : MA} {i j l : Nat} {x y z : Str} {px py pz p1 p2 pt pt2 pos : Pos} {kt k2 : Nat}
theorem rs_parVL2 (i j : Nat) (nd : X.N.Nodup) (hpe : RE X g W e me) (hb : RA X g W es mb) (hc : X.calm = true := by rfl) (hi : X.N[i]? = some x := by rfl) (hj : X.N[j]? = some y := by rfl) (hij : i ≠ j := by decide)
    (hx : X.env.scope.names.lookup x = some .local := by rfl) (hy : X.env.scope.names.lookup y = some .local := by rfl)
    (s1 : starEach (e :: [.List es p1]) X.env = (false, eval e X.env) :: starEach [.List es p1] X.env := by rfl)
    (hw : swappedStores [.Tuple [.Name x px, .Name y py] kt pt] (.Tuple [e, .List es p1] k2 pt2) X.env = pure (some [x, y]) := by rfl)
    (hs : swapsWithSole [.Tuple [.Name x px, .Name y py] kt pt] (.Tuple [e, .List es p1] k2 pt2) pos.line X.env = pure false := by rfl) :
    RS X g W (.Assign [.Tuple [.Name x px, .Name y py] kt pt] (.Tuple [e, .List es p1] k2 pt2) pos) (parVL2 i j me mb) := by
  refine ps_imp (ps_par hc nd hi hj hij hx hy (pa_cons hpe (pa_cons (pe_lst (pos := p1) hb) pa_nil) s1) hw hs) fun D σ H ⟨w, sl, h, f, k, p⟩ => ?_
  refine seqS f k p fun w1 H1 h1 v u e1 f1 k1 r1 q1 => ?_
  refine seqS f1 k1 q1 fun w2 H2 h2 vs us e2 f2 k2 r2 q2 => ?_
  split at q2
  · rename_i hf
    refine ⟨by rw [← RVs.length r2]; exact fits_le hf, fun a ha => ⟨_, _, rfl, ?_⟩⟩
    have f3 := f2.setv (i := i) (RV.mono e2.sees _ _ r1)
    exact q2 _ _ _ (drop_ext.trans (own_ext (i := j) k2.drop ha)) (k2.drop.mkOwn ha) (f3.mkOwn ha (RVs.mono drop_sees _ _ r2))
  · exact q2.elim
theorem rs_parLV2 (i j : Nat) (nd : X.N.Nodup) (hb : RA X g W es mb) (hpe : RE X g W e me) (hc : X.calm = true := by rfl) (hi : X.N[i]? = some x := by rfl) (hj : X.N[j]? = some y := by rfl) (hij : i ≠ j := by decide)
    (hx : X.env.scope.names.lookup x = some .local := by rfl) (hy : X.env.scope.names.lookup y = some .local := by rfl)
    (s2 : starEach [e] X.env = (false, eval e X.env) :: starEach [] X.env := by rfl)
    (hw : swappedStores [.Tuple [.Name x px, .Name y py] kt pt] (.Tuple [.List es p1, e] k2 pt2) X.env = pure (some [x, y]) := by rfl)
    (hs : swapsWithSole [.Tuple [.Name x px, .Name y py] kt pt] (.Tuple [.List es p1, e] k2 pt2) pos.line X.env = pure false := by rfl) :
    RS X g W (.Assign [.Tuple [.Name x px, .Name y py] kt pt] (.Tuple [.List es p1, e] k2 pt2) pos) (parLV2 i j mb me) := by
  refine ps_imp (ps_par hc nd hi hj hij hx hy (pa_cons (pe_lst (pos := p1) hb) (pa_cons hpe pa_nil s2)) hw hs) fun D σ H ⟨w, sl, h, f, k, p⟩ => ?_
  have f0 := f.noS (i := i)
  have k0 := k.drop (i := i)
  unfold parLV2 at p
  split at p
  · exact p.elim
  rename_i z0 hz0
  have hi2 : i < sl.length := (List.getElem?_eq_some_iff.mp hz0).1
  refine seqS f0 k0 (PostS.mono drop_ext p) fun w1 H1 h1 vs us e1 f1 k1 r1 q1 => ?_
  split at q1
  · rename_i hf
    refine ⟨by rw [← RVs.length r1]; exact fits_le hf, fun a ha => ?_⟩
    have kh := k1.hide (o := .lst us) ha
    have rs1 : RSl X.K g (w1.hide a) (upd H1 a (.lst us)) (view (sl.set i .no)) σ := f1.rsl.mono _ _ (hide_sees ha)
    have O0 : w1.O[i]? = some none := f1.no i (by rw [List.getElem?_set_self hi2])
    refine ⟨w1.hide a, view (sl.set i .no), h1, rs1, kh, ?_⟩
    cases em : me (view (sl.set i .no)) h1 with
    | ok v h2 =>
      rw [em] at q1
      intro w2 H2 u e2 k2 r2
      have k3 := k1.seek (i := i) ha e2 k2
      have f3 := (f1.mkOwn (i := i) ha r1).mono (own_seek O0 e2)
      have f4 := f3.setv (i := j) (RV.mono (seek_sees e2) _ _ r2)
      exact ⟨_, _, rfl, q1 _ _ _ ((seek_ext k1 ha e2).trans drop_ext) k3.drop f4⟩
    | exc x h2 => rw [em] at q1; exact q1.elim
    | bad => rw [em] at q1; exact q1.elim
  · exact q1.elim
end
end Mv
set_option Elab.async false
set_option linter.all false
set_option maxRecDepth 100000
namespace Mv
open PySem PySem.Spec PyProof.Rows L2
section
variable {K : PySem.W.Frag} {g : Gx} {w w1 : Wd} {H H1 : Hp} {h h1 : VH} {n : Nat}
end
def noTyB (K : PySem.W.Frag) (C : Addr) : Bool := tyNames.all fun T => decide (PySem.W.kitOne K (.ref C) (.type T) = some false)
def isiIF (cs : List Nat) : VF := fun xs h => match xs with
  | [x, .ty t] => (match tyOf h x with
    | some u => .ok (.bl (subTy u t)) h
    | none => (match x with
      | .ref n => (match insAt h n with
        | some (c, _, _) => if cs.contains c then .ok (.bl false) h else .bad
        | none => .bad)
      | _ => .bad))
  | _ => .bad
theorem isiIS {K : PySem.W.Frag} {g : Gx} {cs : List Nat} (T : ClT K g cs) (k : (cs.all fun c => noTyB K (g.adr c)) = true) : CallS K g (rIsiY K) (isiIF cs) := by
  intro w h H σ W Q xs vs hk r p
  unfold isiIF at p
  split at p
  · rename_i x t
    obtain ⟨y, y', rfl, r1, r2⟩ := r.two
    simp only [RV] at r2
    subst r2
    split at p
    · rename_i u e
      exact ⟨y, _, _, _, _, rfl, .ty _, tyOf_ok hk r1 e, kit_sub _ _, post_bl p hk⟩
    · split at p
      · rename_i n
        split at p
        · rename_i c mm us ei
          split at p
          · rename_i hc
            obtain ⟨a, dx, ys, rfl, hs, _⟩ := insAt_ok hk r1 ei
            have h1 := List.all_eq_true.mp k c (by simpa using hc)
            have h2 : PySem.W.kitOne K (.ref (g.adr c)) (.type t.name) = some false := by
              have h3 := List.all_eq_true.mp h1
              cases t <;> exact of_decide_eq_true (h3 _ (by decide))
            exact ⟨_, _, _, _, _, rfl, .ty _, .sl hs (T c hc).c (T c hc).i, h2, post_bl p hk⟩
          · exact p.elim
        · exact p.elim
      · exact p.elim
  · exact p.elim
end Mv
set_option Elab.async false
set_option linter.all false
set_option maxRecDepth 100000
namespace Mv
open PySem PySem.Spec PyProof.Rows L2 SlX
def methsM (tab : List (Nat × MF)) (mo : ME) (a : MA) : ME := fun sv h => (mo sv h).bind fun x h1 => match x with
  | .ref n => (match insAt h1 n with
    | some (c, _, _) => (match tab.lookup c with
      | some mf => (a sv h1).bind fun vs h2 => mf (.ref n :: vs) h2
      | none => .bad)
    | none => .bad)
  | _ => .bad
def MethT (P : Program) (w : World) (K : PySem.W.Frag) (mg : Str → Option Value) (g : Gx) (k : Nat) (nm : Str) (tab : List (Nat × MF)) : Prop := ∀ c mf, tab.lookup c = some mf → SCls K (g.adr c) ∧ ∃ fm ps, Meth K (g.adr c) nm fm ∧ OkF P w K mg g k fm ps mf
section
variable {P : Program} {w : World} {K : PySem.W.Frag} {mg : Str → Option Value} {g : Gx} {k j : Nat} {nm : Str}
theorem methT_nil : MethT P w K mg g k nm [] := fun c mf e => by cases e
theorem methT_cons {c : Nat} {C fm : Addr} {mf : MF} {ps : List Str} {tab : List (Nat × MF)} (F : OkF P w K mg g j fm ps mf) (cl : clsSB K C = true) (mb : methB K C nm fm = true) (r : MethT P w K mg g k nm tab) (hC : C = g.adr c := by rfl) (hj : j ≤ k := by omega) : MethT P w K mg g k nm ((c, mf) :: tab) := fun n2 mf2 e => by
  subst hC
  rw [List.lookup_cons] at e
  split at e
  · rename_i q
    cases e
    have : n2 = c := by simpa using q
    subst this
    obtain ⟨fd, F, B, kp, b⟩ := F
    exact ⟨(clsSB_ok cl).c, fm, ps, methB_ok mb, fd, fun base => (F base).mono hj, B, kp, b⟩
  · exact r n2 mf2 e
end
section
variable {X : Cx} {g : Gx} {W : WX} {e o : Expr} {es : List Expr} {mo : ME} {ma : MA} {pos apos : Pos} {nm : Str} {k j : Nat}
theorem meth_at {tab : List (Nat × MF)} (T : MethT X.prog X.w X.K X.mg g j nm tab) {σ : L2.St} {H : Hp} {Q : VK} (tt : tG X.K g (relV X.K g) (methsM tab mo ma) W σ H Q) :
    tG X.K g (relV X.K g) mo W σ H fun x H1 => ∃ a C dx vs fm ps mf, x = .ref a ∧ Slt H1 a C dx vs ∧ SCls X.K C ∧ Meth X.K C nm fm ∧ OkF X.prog X.w X.K X.mg g j fm ps mf ∧ tG X.K g (relVs X.K g) ma W σ H1 fun ws H2 => spM X.K g mf (.ref a :: ws) H2 Q (WE W σ) := by
  obtain ⟨w, sv, h, rs, hk, pp⟩ := tt
  refine seqG' rs hk pp fun w1 H1 h1 v y e1 rs1 k1 r1 p1 => ?_
  split at p1
  · rename_i n
    split at p1
    · rename_i c mm vs ei
      split at p1
      · rename_i mf el
        obtain ⟨a, dx, ys, rfl, hs, _⟩ := insAt_ok k1 r1 ei
        obtain ⟨cc, fm, ps, hm, F⟩ := T c mf el
        refine ⟨a, _, dx, ys, fm, ps, mf, rfl, hs, cc, hm, F, ?_⟩
        refine seqG' rs1 k1 p1 fun w2 H2 h2 us zs e2 rs2 k2 r2 p2 => ?_
        refine ⟨w2, h2, .ref n :: us, k2, ?_, ?_⟩
        · simp only [RVs]
          exact ⟨_, zs, rfl, RV.mono e2.sees _ _ r1, r2⟩
        · cases q : mf (.ref n :: us) h2 with
          | ok v h2 => rw [q] at p2; exact p2
          | exc x h2 => rw [q] at p2; exact p2
          | bad => rw [q] at p2; exact p2
      · exact p1.elim
    · exact p1.elim
  · exact p1.elim
theorem re_meths {tab : List (Nat × MF)} {pl : Sem Bool} (T : MethT X.prog X.w X.K X.mg g j nm tab) (hr : Room k X.A) (tk : Takes X W) (ho : RE X g W o mo) (ha : RA X g W (e :: es) ma) (hj : j ≤ k := by omega)
    (hst : starEach (e :: es) X.env = (false, eval e X.env) :: starEach es X.env := by rfl) (hpl : (backTo pos (starEach es X.env)).any (·.1) = false := by rfl)
    (ht : eval (.Call (.Attribute o nm apos) (e :: es) [] pos) X.env = (do
      let ov ← eval o X.env
      standAt apos.atName
      let (f, first) ← holding [ov] (getMethod ov nm pl)
      callWith pos f first (backTo pos (starEach (e :: es) X.env)) (backToKw pos (keywordEach [] X.env))) := by rfl) :
    RE X g W (.Call (.Attribute o nm apos) (e :: es) [] pos) (methsM tab mo ma) := by
  refine ⟨fun pins s σ H Q I tt => ?_⟩
  refine PySem.W.methodCall_KW (pl := pl) (thn (ho.run pins s σ H _ I (meth_at T tt)) fun u s1 ⟨x, H1, I1, rx, a, C, dx, vs, fm, ps, mf, ex, hsl, cc, hm, F, q⟩ => ?_) ht
  subst ex
  obtain rfl : u = Value.ref a := rx
  obtain ⟨fd, F, B, kp, _⟩ := F
  refine getmethsl_ok I1 hsl cc hm ?_
  refine PySem.W.callWith_K (first := [.ref a]) (h₀ := X.base) I.ok.mod.kin hm.kp (thn (ha.run pos pins s1 σ H1 _ I1 q) fun us s2 ⟨ws, H2, I2, r, q2⟩ => ⟨I2.kIn, ?_⟩) hst hpl
  exact run_fnS (us := .ref a :: us) (vs := .ref a :: ws) ((F X.base).mono hj) hr B (passAt tk σ) I2 (.cons rfl r) q2
end
end Mv
set_option Elab.async false
set_option linter.all false
set_option maxRecDepth 100000
namespace Mv
open PySem PySem.Spec PyProof.Rows L2
section
variable {K : PySem.W.Frag} {g : Gx} {w : Wd} {H : Hp} {σ : L2.St} {W : WX} {h : VH} {Q : VK} {xs : List VV} {ys : List V} {q : Addr}
theorem post_newh (po : Post K g (relV K g) w H σ Q W (.ok (.ref h.length) (h ++ [.lst xs]))) (k : Hk K g w h H) (r : RVs K g w H xs ys) (hp : H q = none) : Q (.ref q) (upd H q (.lst ys)) := by
  have ex := Ext.push (o := .lst ys) k hp
  refine po _ _ _ ex (Hk.push k hp ⟨ys, upd_same, RVs.mono ex.sees _ _ r⟩) ?_
  simp only [relV, RV]
  refine ⟨q, rfl, by unfold Wd.push; simp [k.len], fun b hb => ?_⟩
  unfold Wd.push at hb
  rw [← k.len] at hb
  simp at hb
  exact hb.symm
end
def listHF : VF := fun xs h => match xs with
  | [.tup ys] => .ok (.ref h.length) (h ++ [.lst ys])
  | [.lst ys] => .ok (.ref h.length) (h ++ [.lst ys])
  | [.rol ys] => .ok (.ref h.length) (h ++ [.lst ys])
  | [.ktu ys] => .ok (.ref h.length) (h ++ [.lst ys])
  | _ => .bad
theorem listHS {K : PySem.W.Frag} {g : Gx} : CallS K g (fun xs H Q => ∃ p ys, xs = [.ref p] ∧ (SqL K H p ys ∨ SqT K H p ys) ∧ ∀ l, H l = none → Q (.ref l) (upd H l (.lst ys))) listHF := by
  intro w h H σ W Q xs vs hk r p
  unfold listHF at p
  split at p
  · obtain ⟨y, rfl, r1⟩ := r.one
    obtain ⟨a, ys', rfl, ha, r2⟩ := r1.tup_get
    exact ⟨a, ys', rfl, .inr ha, fun q hq => post_newh p hk r2 hq⟩
  · obtain ⟨y, rfl, r1⟩ := r.one
    obtain ⟨a, ys', rfl, ha, r2⟩ := r1.lst_get
    exact ⟨a, ys', rfl, .inl (SqL.of ha), fun q hq => post_newh p hk r2 hq⟩
  · obtain ⟨y, rfl, r1⟩ := r.one
    obtain ⟨a, ys', rfl, ha, r2⟩ := r1.rol_get
    exact ⟨a, ys', rfl, .inl ha, fun q hq => post_newh p hk r2 hq⟩
  · obtain ⟨y, rfl, r1⟩ := r.one
    obtain ⟨a, ys', rfl, ha, r2⟩ := r1.ktu_get
    exact ⟨a, ys', rfl, .inr ha, fun q hq => post_newh p hk r2 hq⟩
  · exact p.elim
section
variable {X : Cx} {g : Gx} {W : WX} {e o : Expr} {mo : ME} {ma : MA} {apos cpos : Pos} {t : TA} {to : TE}
end
section
variable {X : Cx} {g : Gx} {W : WX} {e : Expr} {m : ME}
end
end Mv
set_option Elab.async false
set_option linter.all false
set_option maxRecDepth 100000
namespace Mv
open PySem PySem.Spec PyProof.Rows L2
section
variable {K : PySem.W.Frag} {g : Gx} {w : Wd} {H : Hp} {h : VH} {n : Nat} {a : Addr} {u : HO} {od : Obj} {vo : VO}
end
end Mv
set_option Elab.async false
set_option linter.all false
set_option maxRecDepth 100000
namespace Mv
open PySem PySem.Spec PyProof.Rows L2
def rEqN (K : PySem.W.Frag) (neg : Bool) : R2 := fun x y H Q => ∃ a b xs, x = .ref a ∧ y = .ref b ∧ SqT K H a xs ∧ SqT K H b [] ∧ Q (.bl (if neg then !xs.isEmpty else xs.isEmpty)) H
section
variable {X : Cx}
theorem nil_all {xs : List V} {its : List Value} (r : Vals xs its) : ((List.range (min its.toArray.size ([] : List Value).toArray.size)).all (fun _ => true) && its.toArray.size == ([] : List Value).toArray.size) = xs.isEmpty := by
  cases r with
  | nil => rfl
  | cons _ _ => simp
theorem op_neNil (hu : X.A.units + 64 < cLine) : OpR X (compareOp .NotEq) (rEqN X.K true) := by
  intro pins s σ H x y v u Q I rx ry h
  obtain ⟨a, b, xs, rfl, rfl, ha, hb, q⟩ := h
  cases rx
  cases ry
  obtain ⟨its, r, pl, _⟩ := I.tuple ha
  obtain ⟨its2, r2, pl2, _⟩ := I.tuple hb
  cases r2
  refine SeqAt.RcNeAt.tuples (e := fun _ => true) (show s.heap.IsTuple a its.toArray from pl) (show s.heap.IsTuple b ([] : List Value).toArray from pl2) (by omega) (fun j h1 h2 => absurd h2 (by simp)) X.prog X.w _ _ ?_
  rw [nil_all r]
  exact ⟨.bl (!xs.isEmpty), H, I, rfl, q⟩
end
def nilV (neg : Bool) (x y : VV) : Option Bool := match y with
  | .tup [] => (match x with
    | .tup xs => some (if neg then !xs.isEmpty else xs.isEmpty)
    | .ktu xs => some (if neg then !xs.isEmpty else xs.isEmpty)
    | _ => none)
  | .ktu [] => (match x with
    | .tup xs => some (if neg then !xs.isEmpty else xs.isEmpty)
    | .ktu xs => some (if neg then !xs.isEmpty else xs.isEmpty)
    | _ => none)
  | _ => none
def eqVE (neg : Bool) : V2 := fun x y h => match eqO x y with
  | some b => .ok (.bl (if neg then !b else b)) h
  | none => (match nilV neg x y with
    | some b => .ok (.bl b) h
    | none => .bad)
section
variable {K : PySem.W.Frag} {g : Gx} {w : Wd} {h : VH} {H : Hp} {x y : VV} {vx vy : V}
theorem nil_at (ry : RV K g w H y vy) (e : y = .tup [] ∨ y = .ktu []) : ∃ b, vy = .ref b ∧ SqT K H b [] := by
  rcases e with rfl | rfl
  · obtain ⟨b, ys, rfl, hb, r⟩ := ry.tup_get
    simp only [RVs] at r
    subst r
    exact ⟨b, rfl, hb⟩
  · obtain ⟨b, ys, rfl, hb, r⟩ := ry.ktu_get
    simp only [RVs] at r
    subst r
    exact ⟨b, rfl, hb⟩
theorem nilV_ok {neg b : Bool} (rx : RV K g w H x vx) (ry : RV K g w H y vy) (e : nilV neg x y = some b) : ∃ a c xs, vx = .ref a ∧ vy = .ref c ∧ SqT K H a xs ∧ SqT K H c [] ∧ b = if neg then !xs.isEmpty else xs.isEmpty := by
  have emp : ∀ {xs : List VV} {ys : List V}, RVs K g w H xs ys → xs.isEmpty = ys.isEmpty := fun {xs ys} r => by
    have := r.length
    cases xs <;> cases ys <;> simp at this <;> rfl
  unfold nilV at e
  split at e
  · obtain ⟨c, rfl, hc⟩ := nil_at ry (.inl rfl)
    split at e
    · obtain ⟨a, ys, rfl, ha, r⟩ := rx.tup_get
      cases e
      exact ⟨a, c, ys, rfl, rfl, ha, hc, by rw [emp r]⟩
    · obtain ⟨a, ys, rfl, ha, r⟩ := rx.ktu_get
      cases e
      exact ⟨a, c, ys, rfl, rfl, ha, hc, by rw [emp r]⟩
    · cases e
  · obtain ⟨c, rfl, hc⟩ := nil_at ry (.inr rfl)
    split at e
    · obtain ⟨a, ys, rfl, ha, r⟩ := rx.tup_get
      cases e
      exact ⟨a, c, ys, rfl, rfl, ha, hc, by rw [emp r]⟩
    · obtain ⟨a, ys, rfl, ha, r⟩ := rx.ktu_get
      cases e
      exact ⟨a, c, ys, rfl, rfl, ha, hc, by rw [emp r]⟩
    · cases e
  · cases e
end
theorem neES {K : PySem.W.Frag} {g : Gx} : OpS K g (fun x y H Q => rNeD K x y H Q ∨ rEqN K true x y H Q) (eqVE true) := by
  intro w h H σ W Q x y vx vy hk rx ry p
  unfold eqVE at p
  split at p
  · rename_i b e
    exact .inl (neS w h H σ W Q x y vx vy hk rx ry (by unfold eqV; rw [e]; exact p))
  · split at p
    · rename_i b e
      obtain ⟨a, c, xs, rfl, rfl, h1, h2, rfl⟩ := nilV_ok rx ry e
      exact .inr ⟨a, c, xs, rfl, rfl, h1, h2, post_bl p hk⟩
    · exact p.elim
theorem op_neE {X : Cx} (hu : X.A.units + 64 < cLine) : OpR X (compareOp .NotEq) (fun x y H Q => rNeD X.K x y H Q ∨ rEqN X.K true x y H Q) := L2.OpR.or (op_neD hu) (op_neNil hu)
end Mv
set_option Elab.async false
set_option linter.all false
set_option maxRecDepth 100000
namespace Mv
open PySem PySem.Spec PyProof.Rows L2 SlX
section
variable {X : Cx} {g : Gx} {j k : Nat}
theorem no_pass {E : XK} (hE : E = fun _ _ _ => False) : Passes (L2.CX X.prog X.w) X E := fun _ _ _ _ _ _ _ z => by
  subst hE
  obtain ⟨_, _, _, _, _, _, _, _, _, _, _, _, z⟩ := z
  exact z.elim
def AtI (X : Cx) (g : Gx) (j : Nat) (nm : Str) (a : Addr) (H : Hp) (mf : MF) : Prop := ∃ C dx vs fm ps, Slt H a C dx vs ∧ SCls X.K C ∧ Meth X.K C nm fm ∧ OkF X.prog X.w X.K X.mg g j fm ps mf
def rLenI (X : Cx) (g : Gx) (j : Nat) : List V → Hp → VK → Prop := fun xs H Q => rLenA X.K xs H Q ∨ ∃ a mf, xs = [.ref a] ∧ AtI X g j "__len__" a H mf ∧ spM X.K g mf [.ref a] H (fun z H' => ∃ i : Int, z = .int i ∧ 0 ≤ i ∧ i < 2 ^ 62 ∧ Q (.int i) H') (fun _ _ _ => False)
theorem call_lenI (hr : Room k X.A) (hj : j + 1 ≤ k := by omega) : CallR X (.builtin "len") (rLenI X g j) := by
  refine CallR.or call_lenA ?_
  intro pins s σ H xs us Q I r h
  obtain ⟨a, mf, rfl, ⟨C, dx, vs, fm, ps, hs, cc, hm, F⟩, q⟩ := h
  obtain ⟨u, rfl, ru⟩ := r.one
  cases (show u = Value.ref a from ru)
  obtain ⟨sl, od, _, J, _⟩ := slt_inst I hs
  obtain ⟨m, hF⟩ := I.fr
  obtain ⟨fd, F, B, kp, _⟩ := F
  obtain ⟨k, rfl⟩ : ∃ k', k = k' + 1 := ⟨k - 1, by omega⟩
  refine PySem.W.len_K hF I.ok.mod.kin J hm.at_ hm.fn ?_
  refine wpAny_mono (wpAny_call (run_at (us := [.ref a]) (ws := [.ref a]) (E := fun _ _ _ => False) (sp := fun vs H Q E => spM X.K g mf (vs ++ []) H Q E) (((F X.base).mono (show j ≤ k by omega)).raw B .nil) hr.in1 I.env0.in1 (no_pass rfl) I (.cons rfl .nil) q)) (fun w s' z => ?_) fun _ _ x => x
  obtain ⟨z', H', I', rz, i, ei, h0, h1, qz⟩ := z
  subst ei
  obtain ⟨t, e⟩ := (show ∃ t, w = Value.int i t from rz)
  cases e
  exact ⟨⟨h0, by omega⟩, .int i, H', I'.tok _, ⟨_, rfl⟩, qz⟩
def lenIF (tab : List (Nat × MF)) : VF := fun xs h => match xs with
  | [.ref n] => (match insAt h n with
    | some (c, _, _) => (match tab.lookup c with
      | some mf => (match mf [.ref n] h with
        | .ok (.int i) h2 => if 0 ≤ i ∧ i < 4611686018427387904 then .ok (.int i) h2 else .bad
        | _ => .bad)
      | none => .bad)
    | none => lenAF [.ref n] h)
  | xs => lenAF xs h
theorem lenIS {tab : List (Nat × MF)} (T : MethT X.prog X.w X.K X.mg g j "__len__" tab) : CallS X.K g (rLenI X g j) (lenIF tab) := by
  intro w h H σ W Q xs vs hk r p
  unfold lenIF at p
  split at p
  · rename_i n
    split at p
    · rename_i c mm us ei
      split at p
      · rename_i mf el
        obtain ⟨y, rfl, r1⟩ := r.one
        obtain ⟨a, dx, ys, rfl, hs, _⟩ := insAt_ok hk r1 ei
        obtain ⟨cc, fm, ps, hm, F⟩ := T c mf el
        refine .inr ⟨a, mf, rfl, ⟨_, dx, ys, fm, ps, hs, cc, hm, F⟩, w, h, [.ref n], hk, by simp only [RVs]; exact ⟨_, _, rfl, r1, rfl⟩, ?_⟩
        split at p
        · rename_i i h2 em
          split at p
          · rename_i hi
            rw [em]
            intro w' H' y e1 k1 ry
            have ey : y = .int i := by simpa only [relV, RV] using ry
            exact ⟨i, ey, hi.1, by have := hi.2; omega, p w' H' (.int i) e1 k1 (by simp only [relV, RV])⟩
          · exact p.elim
        · exact p.elim
      · exact p.elim
    · exact .inl (lenAS w h H σ W Q _ vs hk r p)
  · exact .inl (lenAS w h H σ W Q _ vs hk r p)
end
end Mv
set_option Elab.async false
set_option linter.all false
set_option maxRecDepth 100000
namespace Mv
open PySem PySem.Spec PyProof.Rows L2
section
variable {X : Cx}
end
end Mv
set_option Elab.async false
set_option linter.all false
set_option maxRecDepth 100000
namespace Mv
open PySem PySem.Spec PySem.Calls PyProof.Rows L2
section
variable {prog : Program} {w : World} {K : Type} [DecidableEq K] {knd : HeapKind prog w K} {A : Around} {E : Value → Shared → Prop} {s : Shared}
theorem keqT_pairs {nm : String} {a b : Addr} {xs ys : List (K × Addr × Value)} {Q : Bool → Shared → Prop} (hu : knd.room A) (ha : (a == sysModules) = false) (hb : (b == sysModules) = false)
    (da : s.heap.DictOfH knd a xs) (db : s.heap.DictOfH knd b ys) (hl : xs.length = ys.length) (hits : ∀ (i : Nat) (k : K) (p : Addr × Value), xs[i]? = some (k, p) → (∃ (j : Nat) (q : Addr × Value), ys[j]? = some (k, q)) ∧ ∀ (j : Nat) (q : Addr × Value), ys[j]? = some (k, q) → SeqAt.EqAt A s p.2 q.2 true)
    (h : Q true s) : wpAny (model prog w) A (Builtin.Dict.samePairs nm a b) Q E s := by
  obtain ⟨oa, es, ep, hoa, _, hda, he, hka, _⟩ := da
  obtain ⟨ob, es', ep', hob, _, hdb, he', hkb, hnb⟩ := db
  have hla : xs.length = es.size := (size_of_entries he).symm
  have hlb : ys.length = es'.size := (size_of_entries he').symm
  have hsz : es.size = es'.size := by omega
  unfold Builtin.Dict.samePairs Builtin.Dict.showsAll
  rw [if_neg (show ¬ (a == sysModules) = true by rw [ha]; exact Bool.false_ne_true), if_neg (show ¬ (b == sysModules) = true by rw [hb]; exact Bool.false_ne_true)]
  refine wpAny_bind (wpAny_pure (wpAny_bind (wpAny_pure ?_)))
  refine wpAny_bind (wpAny_dictEntries hoa hda ?_)
  dsimp only
  refine wpAny_bind (wpAny_dictEntries hob hdb ?_)
  rw [if_neg (by rw [hsz]; simp)]
  refine wpAny_bind (wpAny_dictEpoch hoa hda ?_)
  refine wpAny_bind ?_
  rw [Std.Legacy.Range.forIn_eq_forIn_range']
  simp only [Std.Legacy.Range.size, Nat.sub_zero, Nat.add_sub_cancel, Nat.div_one]
  refine wpAny_forIn_list _
    (fun rest q s' => s' = s ∧ q = (none, ()) ∧ ∃ i, rest = List.range' i (es.size - i) ∧ i ≤ es.size)
    _ ?_ ?_ _ _ ⟨rfl, rfl, 0, by simp, Nat.zero_le _⟩
  · rintro x rest q s' ⟨rfl, rfl, i, hr, hi⟩
    have hlt : i < es.size := by
      rcases Nat.lt_or_ge i es.size with h | h
      · exact h
      · rw [Nat.sub_eq_zero_of_le h] at hr; simp at hr
    obtain ⟨rfl, hrest⟩ : x = i ∧ rest = List.range' (i + 1) (es.size - (i + 1)) := by
      have e : es.size - i = (es.size - (i + 1)) + 1 := by omega
      rw [e, List.range'_succ] at hr
      injection hr with h1 h2
      exact ⟨h1, h2⟩
    refine wpAny_bind (wpAny_dictEntries hoa hda ?_)
    have hlt' : x < xs.length := by rw [hla]; exact hlt
    obtain ⟨k, p, hkp⟩ : ∃ k p, xs[x] = (k, p) := ⟨_, _, rfl⟩
    have hx : xs[x]? = some (k, p) := by rw [List.getElem?_eq_getElem hlt', hkp]
    have hex : es[x]? = some (entryOfKey knd (k, p)) := by rw [entry_at he x, hx]; rfl
    rw [hex]
    have hkey := hka _ (List.mem_of_getElem? hx)
    obtain ⟨ex, al⟩ := hits x k p hx
    show wpAny _ _ (holding [(entryOfKey knd (k, p)).key, (entryOfKey knd (k, p)).val] _ >>= _) _ _ _
    refine wpAny_bind (wpAny_holding (wpAny_bind (wpAny_dictFind_heap hu hkey hob hdb he' hkb hnb (fun no => ?_) (fun j q hj => ?_))))
    · obtain ⟨j, q, hj⟩ := ex
      exact absurd hj (no j q)
    · refine wpAny_bind (wpAny_dictEntries hob hdb ?_)
      have hej : es'[j]? = some (entryOfKey knd (k, q)) := by rw [entry_at he' j, hj]; rfl
      rw [hej]
      refine wpAny_holding (al j q hj prog w _ _ ?_)
      show wpAny _ _ (if (!true) = true then _ else _) _ _ _
      rw [if_neg (by decide)]
      refine wpAny_bind (wpAny_dictEpoch hoa hda ?_)
      rw [if_neg (by simp)]
      exact wpAny_pure ⟨rfl, rfl, x + 1, hrest, hlt⟩
  · rintro q s' ⟨rfl, rfl, i, hr, hi⟩
    exact wpAny_pure h
theorem keqT_eq {a b : Addr} {xs ys : List (K × Addr × Value)} {Q : Value → Shared → Prop} (hu1 : knd.room A.in1) (ha : (a == sysModules) = false) (hb : (b == sysModules) = false)
    (da : s.heap.DictOfH knd a xs) (db : s.heap.DictOfH knd b ys) (hu : A.units < cLine) (hl : xs.length = ys.length) (hits : ∀ (i : Nat) (k : K) (p : Addr × Value), xs[i]? = some (k, p) → (∃ (j : Nat) (q : Addr × Value), ys[j]? = some (k, q)) ∧ ∀ (j : Nat) (q : Addr × Value), ys[j]? = some (k, q) → SeqAt.EqAt A.in1 s p.2 q.2 true)
    (h : Q (.bool true) s) : wpAny (model prog w) A (compareOp .Eq (.ref a) (.ref b)) Q E s := by
  refine wpAny_richCompare_same_room (op := .Eq) da.typeIs db.typeIs PySem.F.slot_dict_eq (wpAny_call_entry PySem.F.slot_dict_eq da.typeIs PySem.F.entry_dict_eq ?_ (PySem.F.args_dict_eq_2 _ _)) hu
  show wpAny _ _ (Builtin.Dict.dictSlotArgs "__eq__" ⟨[.ref a, .ref b], []⟩ >>= _) _ _ s
  refine wpAny_bind ?_
  unfold Builtin.Dict.dictSlotArgs
  refine wpAny_bind (wpAny_notOrdered_dict da.typeIs ?_)
  show wpAny _ _ (pure (Value.ref a, Value.ref b)) _ _ s
  refine wpAny_pure ?_
  refine wpAny_bind (wpAny_isInstance (T := "dict") db.typeIs PySem.F.sub_dict_dict ?_)
  simp only [Bool.not_true, Bool.false_eq_true, if_false]
  refine wpAny_bind (wpAny_pure (wpAny_bind (wpAny_pure ?_)))
  refine wpAny_bind (keqT_pairs hu1 ha hb da db hl hits ?_)
  refine wpAny_pure ⟨_, rfl, ?_, ?_⟩
  · exact fun x => nomatch x
  · simpa using h
theorem keqT_ne {a b : Addr} {xs ys : List (K × Addr × Value)} {Q : Value → Shared → Prop} (hu1 : knd.room A.in1) (ha : (a == sysModules) = false) (hb : (b == sysModules) = false)
    (da : s.heap.DictOfH knd a xs) (db : s.heap.DictOfH knd b ys) (hu : A.units < cLine) (hl : xs.length = ys.length) (hits : ∀ (i : Nat) (k : K) (p : Addr × Value), xs[i]? = some (k, p) → (∃ (j : Nat) (q : Addr × Value), ys[j]? = some (k, q)) ∧ ∀ (j : Nat) (q : Addr × Value), ys[j]? = some (k, q) → SeqAt.EqAt A.in1 s p.2 q.2 true)
    (h : Q (.bool false) s) : wpAny (model prog w) A (compareOp .NotEq (.ref a) (.ref b)) Q E s := by
  refine wpAny_richCompare_same_room (op := .NotEq) da.typeIs db.typeIs PySem.F.slot_dict_ne (wpAny_call_entry PySem.F.slot_dict_ne da.typeIs PySem.F.entry_dict_ne ?_ (PySem.F.args_dict_ne_2 _ _)) hu
  show wpAny _ _ (Builtin.Dict.dictSlotArgs "__ne__" ⟨[.ref a, .ref b], []⟩ >>= _) _ _ s
  refine wpAny_bind ?_
  unfold Builtin.Dict.dictSlotArgs
  refine wpAny_bind (wpAny_notOrdered_dict da.typeIs ?_)
  show wpAny _ _ (pure (Value.ref a, Value.ref b)) _ _ s
  refine wpAny_pure ?_
  refine wpAny_bind (wpAny_isInstance (T := "dict") db.typeIs PySem.F.sub_dict_dict ?_)
  simp only [Bool.not_true, Bool.false_eq_true, if_false]
  refine wpAny_bind (wpAny_pure (wpAny_bind (wpAny_pure ?_)))
  refine wpAny_bind (keqT_pairs hu1 ha hb da db hl hits ?_)
  refine wpAny_pure ⟨_, rfl, ?_, ?_⟩
  · exact fun x => nomatch x
  · simpa using h
end
theorem KT.at {H : Hp} : ∀ {l : List (List Key × V)} {m : List (List Key × Addr × Value)}, KT H l m → ∀ (i : Nat) (k : List Key) (p : Addr × Value), m[i]? = some (k, p) → ∃ v, l[i]? = some (k, v) ∧ RelV v p.2
  | _, _, .nil, i, k, p, e => by simp at e
  | x :: l, y :: m, .cons r t, 0, k, p, e => by
    simp at e
    subst e
    have e1 : x.1 = k := r.1
    exact ⟨x.2, by rw [List.getElem?_cons_zero, ← e1], r.2.2⟩
  | x :: l, y :: m, .cons r t, i + 1, k, p, e => by simpa using KT.at t i k p (by simpa using e)
section
variable {X : Cx} {k : Nat}
end
section
variable {K : PySem.W.Frag} {g : Gx} {w : Wd} {h : VH} {H : Hp}
end
end Mv
set_option Elab.async false
set_option linter.all false
set_option maxRecDepth 100000
set_option pp.maxSteps 400
set_option pp.deepTerms false
namespace Mv
open PySem PySem.Spec PyProof.Rows L2 GenW
section
variable {X : Cx} {pins : List (Addr × Obj)} {σ : L2.St} {H : Hp} {s : Shared}
end
section
variable {X : Cx} {g : Gx} {A : Around} {elt tg iter : Expr} {ifs : List Expr} {scope : Scope} {pos : Pos} {it : Addr} {fp : List Addr} {tn : Nat → Heap → Prop} {J : It} {mg : MG} {mt : MT} {me : ME} {w0 : Wd} {H0 : Hp} {items : List VV} {Q : Option V → Hp → Prop}
end
section
variable {X : Cx} {g : Gx} {A : Around} {elt tg iter : Expr} {ifs : List Expr} {scope : Scope} {pos : Pos} {it : Addr} {fp : List Addr} {tn : Nat → Heap → Prop} {J : It} {R : GenEnd} {Y : Protocol} {n : Nat}
end
section
variable {X : Cx} {pins : List (Addr × Obj)} {σ : L2.St} {H : Hp} {s : Shared}
end
section
variable {X : Cx} {g : Gx} {W : WX}
end
end Mv
set_option Elab.async false
set_option linter.all false
set_option maxRecDepth 100000
set_option pp.maxSteps 400
set_option pp.deepTerms false
namespace Mv
open PySem PySem.Spec PyProof.Rows L2
def OkAt (P : Program) (w : World) (K : PySem.W.Frag) (mg : Str → Option Value) (base : Heap) (g : Gx) (k : Nat) (f : Addr) (ps : List Str) (mf : MF) : Prop :=
  ∃ fd, FnOk P w K mg base (L2.CX P w) k f fd ps (spM K g mf) ∧ Binds K fd ps [] ∧ PySem.W.keepIn K (.ref f) = true ∧ ∀ (s : Shared) (us : List Value), us.length = ps.length → BindsTo s fd ⟨us, []⟩ (ps.zip us)
def OkT (P : Program) (w : World) (K : PySem.W.Frag) (mg : Str → Option Value) (g : Gx) (TB : Heap → Prop) (k : Nat) (f : Addr) (ps : List Str) (mf : MF) : Prop :=
  ∃ fd, (∀ base : Heap, TB base → FnOk P w K mg base (L2.CX P w) k f fd ps (spM K g mf)) ∧ Binds K fd ps [] ∧ PySem.W.keepIn K (.ref f) = true ∧ ∀ (s : Shared) (us : List Value), us.length = ps.length → BindsTo s fd ⟨us, []⟩ (ps.zip us)
section
variable {P : Program} {w : World} {K : PySem.W.Frag} {mg : Str → Option Value} {base : Heap} {g : Gx} {TB : Heap → Prop} {k : Nat} {f : Addr} {ps : List Str} {mf : MF}
theorem OkT.at (F : OkT P w K mg g TB k f ps mf) (tb : TB base) : OkAt P w K mg base g k f ps mf := by
  obtain ⟨fd, F, r⟩ := F
  exact ⟨fd, F base tb, r⟩
end
section
variable {X : Cx} {g : Gx} {W : WX} {e : Expr} {es : List Expr} {ma : MA} {p pos : Pos} {x : Str} {j k : Nat} {f : Addr} {ps : List Str} {mf : MF}
def LamAt (P : Program) (w : World) (K : PySem.W.Frag) (mg : Str → Option Value) (base : Heap) (g : Gx) (k n i j : Nat) (mf : MF) : Prop :=
  ∃ (params : Arguments) (body : Expr) (scope : Scope) (q : Str) (ps : List Str) (m : ME), lamK K (g.adr n) i j = some (params, body, scope, q) ∧ FnScope ps ps scope ∧ mf = fnE ps.length m ∧
    (∀ (pm cv ct : Value) (us : List Value), us.length = ps.length → bindArgs (PySem.W.kla_fn "<lambda>" q params body scope [] pm cv ct) ⟨us, []⟩ = pure (ps.zip us)) ∧
    ∀ (f : Addr) (cdv : Value) (A : Around) (outer : List Env) (s : Shared) (H : Hp) (E : XK), Room k (A.deeper (envOfC q scope s.heap.objs.size f cdv)) → RE (cxOf (L2.CX P w) P w K mg base ps q scope f cdv A outer s H E) g (WK E) body m
theorem LamOk.at {P : Program} {w : World} {K : PySem.W.Frag} {mg : Str → Option Value} {base : Heap} {k n i j : Nat} {mf : MF} (h : LamOk P w K mg g k n i j mf) : LamAt P w K mg base g k n i j mf := by
  obtain ⟨a, b, c, q, ps, m, h1, h2, h3, h4, h5⟩ := h
  exact ⟨a, b, c, q, ps, m, h1, h2, h3, h4, h5 base⟩
theorem LamAt.mono {P : Program} {w : World} {K : PySem.W.Frag} {mg : Str → Option Value} {base : Heap} {k k' n i j : Nat} {mf : MF} (h : LamAt P w K mg base g k n i j mf) (l : k ≤ k') : LamAt P w K mg base g k' n i j mf := by
  obtain ⟨a, b, c, q, ps, m, h1, h2, h3, h4, h5⟩ := h
  exact ⟨a, b, c, q, ps, m, h1, h2, h3, h4, fun f cdv A outer s H E hr => h5 f cdv A outer s H E (hr.mono l)⟩
end
section
variable {X : Cx} {g : Gx} {W : WX} {e : Expr} {es : List Expr} {ma : MA} {p pos : Pos} {x : Str} {j k : Nat}
end
end Mv
set_option Elab.async false
set_option linter.all false
set_option maxRecDepth 100000
set_option pp.maxSteps 400
set_option pp.deepTerms false
namespace Mv
open PySem PySem.Spec PyProof.Rows L2
inductive Tgt where
  | nm (i : Nat) | at (st : List (Nat × Nat)) (mo : ME)
section
variable {X : Cx} {g : Gx} {W : WX} {e o value : Expr} {es : List Expr} {m mo me : ME} {ma : MA} {pos pos' apos p tpos : Pos} {f x : Str} {kk : Nat}
end
end Mv
set_option Elab.async false
set_option linter.all false
set_option maxRecDepth 100000
set_option pp.maxSteps 400
set_option pp.deepTerms false
namespace Mv
open PySem PySem.Spec PyProof.Rows L2
section
variable {prog : Program} {w : World} {A : Around} {E : Value → Shared → Prop}
end
section
variable {X : Cx} {g : Gx} {W : WX} {e : Expr} {me : ME} {p pos kp lp : Pos}
end
end Mv
set_option Elab.async false
set_option linter.all false
set_option maxRecDepth 100000
set_option pp.maxSteps 400
set_option pp.deepTerms false
namespace Mv
open PySem PySem.Spec PyProof.Rows L2
section
variable {X : Cx} {pos p1 p2 p3 p4 : Pos} {j1 j2 j3 j4 : Nat} {g : Gx} {W : WX}
end
end Mv
set_option Elab.async false
set_option linter.all false
set_option maxRecDepth 100000
set_option pp.maxSteps 400
set_option pp.deepTerms false
namespace Mv
open PySem PySem.Spec PyProof.Rows L2
end Mv
set_option Elab.async false
set_option linter.all false
set_option maxRecDepth 100000
set_option pp.maxSteps 400
set_option pp.deepTerms false
namespace Mv
open PySem PySem.Spec PyProof.Rows L2
end Mv
set_option Elab.async false
set_option linter.all false
set_option maxRecDepth 100000
set_option pp.maxSteps 400
set_option pp.deepTerms false
namespace Mv
open PySem PySem.Spec PyProof.Rows L2
section
variable {X : Cx} {g : Gx} {W : WX} {e e2 : Expr} {me me2 : ME} {i j l : Nat} {x y z : Str} {px py pz p1 pt pt2 pos : Pos} {kt k2 : Nat}
end
section
variable {X : Cx} {g : Gx} {W : WX} {e : Expr} {ma : MA} {pos : Pos} {x : Str}
end
end Mv
set_option Elab.async false
set_option linter.all false
set_option maxRecDepth 100000
namespace Mv
open PySem PySem.Spec PyProof.Rows L2
abbrev ItF := Nat → VH → Option (Option VV)
structure ItD (K : PySem.W.Frag) (g : Gx) (w : Wd) (H : Hp) (f : ItF) (J : It) : Prop where
  step : ∀ (w1 : Wd) (h1 : VH) (H1 : Hp) (i : Nat) (v : VV), Sees w H w1 H1 → Hk K g w1 h1 H1 → f i h1 = some (some v) → J.go i H1 ∧ ∀ x H2, J.yld i H1 x H2 → Ext w1 H1 w1 H2 ∧ Hk K g w1 h1 H2 ∧ RV K g w1 H2 v x
  stop : ∀ (w1 : Wd) (h1 : VH) (H1 : Hp) (i : Nat), Sees w H w1 H1 → Hk K g w1 h1 H1 → f i h1 = some none → J.stop i H1
theorem ItD.mono {K : PySem.W.Frag} {g : Gx} {w w' : Wd} {H H' : Hp} {f : ItF} {J : It} (h : ItD K g w H f J) (e : Sees w H w' H') : ItD K g w' H' f J :=
  ⟨fun w1 h1 H1 i v s k q => h.step w1 h1 H1 i v (e.trans s) k q, fun w1 h1 H1 i s k q => h.stop w1 h1 H1 i (e.trans s) k q⟩
def relD (K : PySem.W.Frag) (g : Gx) : Rel (Nat × ItF) It := fun w H p J => ItD K g w H p.2 J
abbrev MD := Sv → VH → Out (Nat × ItF)
abbrev RD (X : Cx) (g : Gx) (W : WX) (tg iter : Expr) (m : MD) : Prop := PI X tg iter (tG X.K g (relD X.K g) m W)
def isLk : VV → Bool
  | .lst _ => true
  | .rol _ => true
  | .ref _ => true
  | _ => false
def SqK (K : PySem.W.Frag) (b : Bool) (H : Hp) (a : Addr) (ys : List V) : Prop := match b with
  | true => SqL K H a ys
  | false => SqT K H a ys
section
variable {K : PySem.W.Frag} {g : Gx} {w : Wd} {H : Hp} {h : VH}
theorem sqK_ok {x : VV} {xs : List VV} {y : V} (hk : Hk K g w h H) (e : seqOf h x = some xs) (r : RV K g w H x y) : ∃ p ys, y = .ref p ∧ SqK K (isLk x) H p ys ∧ RVs K g w H xs ys := by
  cases x with
  | tup zs => simp only [seqOf, Option.some.injEq] at e; subst e; obtain ⟨p, ys, e, q, r⟩ := r.tup_get; exact ⟨p, ys, e, q, r⟩
  | lst zs => simp only [seqOf, Option.some.injEq] at e; subst e; obtain ⟨p, ys, e, q, r⟩ := r.lst_get; exact ⟨p, ys, e, SqL.of q, r⟩
  | rol zs => simp only [seqOf, Option.some.injEq] at e; subst e; obtain ⟨p, ys, e, q, r⟩ := r.rol_get; exact ⟨p, ys, e, q, r⟩
  | ktu zs => simp only [seqOf, Option.some.injEq] at e; subst e; obtain ⟨p, ys, e, q, r⟩ := r.ktu_get; exact ⟨p, ys, e, q, r⟩
  | ref n =>
    simp only [seqOf] at e
    split at e
    · rename_i zs q
      simp only [Option.some.injEq] at e
      subst e
      obtain ⟨a, ys, rfl, _, h2, r2⟩ := ref_get hk r q
      exact ⟨a, ys, rfl, SqL.of h2, r2⟩
    · cases e
  | _ => simp only [seqOf] at e; cases e
def itX (x : VV) : ItF := fun i h => (seqOf h x).map fun l => l[i]?
theorem itX_some {x v : VV} {i : Nat} {h : VH} (e : itX x i h = some (some v)) : ∃ xs, seqOf h x = some xs ∧ xs[i]? = some v := Option.map_eq_some_iff.mp e
theorem itX_none {x : VV} {i : Nat} {h : VH} (e : itX x i h = some none) : ∃ xs, seqOf h x = some xs ∧ xs.length ≤ i := by
  obtain ⟨xs, e1, e2⟩ := Option.map_eq_some_iff.mp e
  exact ⟨xs, e1, List.getElem?_eq_none_iff.mp e2⟩
theorem sqK_at {x : VV} {xs : List VV} {a : Addr} {w1 : Wd} {H1 : Hp} {h1 : VH} (r : RV K g w H x (.ref a)) (s : Sees w H w1 H1) (k : Hk K g w1 h1 H1) (e : seqOf h1 x = some xs) : ∃ ys, SqK K (isLk x) H1 a ys ∧ RVs K g w1 H1 xs ys := by
  obtain ⟨p, ys, e1, q, r2⟩ := sqK_ok k e (RV.mono s _ _ r)
  cases e1
  exact ⟨ys, q, r2⟩
theorem itlD {x : VV} {a : Addr} (hl : isLk x = true) (r : RV K g w H x (.ref a)) : ItD K g w H (itX x) (Itl K a) where
  step := fun w1 h1 H1 i v s k q => by
    obtain ⟨xs, e1, e2⟩ := itX_some q
    obtain ⟨ys, sq, rr⟩ := sqK_at r s k e1
    rw [hl] at sq
    obtain ⟨z, e3, r1⟩ := rr.get i v e2
    refine ⟨⟨ys, z, sq, e3⟩, fun x2 H2 hy => ?_⟩
    obtain ⟨e4, hx⟩ := hy
    subst e4
    have := hx ys sq
    rw [e3] at this
    cases this
    exact ⟨Ext.refl _ _, k, r1⟩
  stop := fun w1 h1 H1 i s k q => by
    obtain ⟨xs, e1, e2⟩ := itX_none q
    obtain ⟨ys, sq, rr⟩ := sqK_at r s k e1
    rw [hl] at sq
    exact ⟨ys, sq, by rw [← rr.length]; exact e2⟩
theorem ittD {x : VV} {a : Addr} (hl : isLk x = false) (r : RV K g w H x (.ref a)) : ItD K g w H (itX x) (Itt K a) where
  step := fun w1 h1 H1 i v s k q => by
    obtain ⟨xs, e1, e2⟩ := itX_some q
    obtain ⟨ys, sq, rr⟩ := sqK_at r s k e1
    rw [hl] at sq
    obtain ⟨z, e3, r1⟩ := rr.get i v e2
    refine ⟨⟨ys, z, sq, e3⟩, fun x2 H2 hy => ?_⟩
    obtain ⟨e4, hx⟩ := hy
    subst e4
    have := hx ys sq
    rw [e3] at this
    cases this
    exact ⟨Ext.refl _ _, k, r1⟩
  stop := fun w1 h1 H1 i s k q => by
    obtain ⟨xs, e1, e2⟩ := itX_none q
    obtain ⟨ys, sq, rr⟩ := sqK_at r s k e1
    rw [hl] at sq
    exact ⟨ys, sq, by rw [← rr.length]; exact e2⟩
end
section
variable {X : Cx} {tg : Expr} {g : Gx} {W : WX} {e e2 : Expr} {m : ME} {ma : MA} {pos p : Pos}
def seqD (a : ME) : MD := fun sv h => (a sv h).bind fun x h1 => match seqOf h1 x with
  | some xs => .ok (xs.length + 1, itX x) h1
  | none => .bad
theorem rd_seq (ha : RE X g W e m) : RD X g W tg e (seqD m) := pi_imp (pi_seq ha) fun σ H R ⟨w, sv, h, rs, hk, p⟩ => by
  refine seqG' rs hk p fun w1 H1 h1 v y e1 rs1 k1 r1 p1 => ?_
  split at p1
  · rename_i xs q
    obtain ⟨a, ys, rfl, sq, _⟩ := sqK_ok k1 q r1
    refine ⟨a, rfl, ?_⟩
    cases hl : isLk v with
    | true => rw [hl] at sq; exact .inl ⟨⟨ys, sq⟩, Post.here p1 k1 (itlD hl r1)⟩
    | false => rw [hl] at sq; exact .inr ⟨⟨ys, sq⟩, Post.here p1 k1 (ittD hl r1)⟩
  · exact p1.elim
end
section
variable {X : Cx} {g : Gx} {W : WX} {tg iter : Expr} {body : List Stmt} {mb : MS} {pos : Pos}
end
def lcGoD (sv : Sv) (mg : MG) (t : MT) (e : ME) (f : ItF) : Nat → Nat → VH → Out (List VV)
  | 0, _, _ => .bad
  | n + 1, i, h => match f i h with
    | none => .bad
    | some none => .ok [] h
    | some (some v) => match mg v with
      | none => .bad
      | some asg => (t (setsV asg sv) h).nox.bind fun b h1 => if b then (e (setsV asg sv) h1).nox.bind fun y h2 => (lcGoD sv mg t e f n (i + 1) h2).bind fun ys h3 => .ok (y :: ys) h3 else lcGoD sv mg t e f n (i + 1) h1
def finL (b : Bool) (out : List VV) (h : VH) : Out VV := if b then .ok (.ref h.length) (h ++ [.lst out]) else .ok (.lst out) h
def lcDM (b : Bool) (it : MD) (mg : MG) (vs : List Nat) (t : MT) (e : ME) : ME := fun sv h => (it sv h).bind fun p h1 => if fits p.1 then (lcGoD (wipeS sv vs) mg t e p.2 p.1 0 h1).bind fun out h2 => finL b out h2 else .bad
section
variable {K : PySem.W.Frag} {g : Gx} {w w2 : Wd} {H H2 : Hp} {h h2 : VH} {D : Addr} {σ : L2.St} {W : WX} {Q : VK}
theorem fz_lst {b : Bool} {out : List VV} {ys : List V} (k1 : Hk K g w h H) (hD : H D = none) (gd : Gd w H D w2 H2) (k2 : Hk K g w2 h2 H2) (hD2 : H2 D = some (.lst ys)) (r : RVs K g w2 H2 out ys) (p : Post K g (relV K g) w H σ Q W (finL b out h2)) : Q (.ref D) H2 := by
  unfold finL at p
  cases b with
  | false =>
    refine p (w2.bare w.P) H2 (.ref D) gd.done (unguard_hk gd.P k2) ?_
    refine RV.lst_of hD2 (gd.free k1 hD k2) ?_
    exact RVs.mono (unguard_sees gd.P) _ _ r
  | true =>
    refine p ((w2.bare w.P).push D) H2 (.ref D) (adopt_ext gd) (adopt_hk k1 hD gd.P k2 ⟨ys, hD2, RVs.mono (adopt_sees gd.P) _ _ r⟩) ?_
    simp only [relV, RV]
    refine ⟨D, rfl, ?_, fun c hc => ?_⟩
    · show h2.length < (w2.phi ++ [some D]).length
      rw [List.length_append, k2.len]
      simp
    · have hc : (w2.phi ++ [some D])[h2.length]? = some (some c) := hc
      rw [← k2.len] at hc
      simp at hc
      exact hc.symm
end
section
variable {X : Cx} {g : Gx} {W : WX} {tg iter elt : Expr} {ifs : List Expr} {scope : Scope} {pos : Pos} {mi : MD} {mg : MG} {is : List Nat} {mt : MT} {me : ME}
theorem lcD_imp {b : Bool} {vs : List Nat} (hIn : InIs mg is) (hs : ∀ j ∈ is, j ∈ vs) {σ : L2.St} {H : Hp} {Q : VK} (t : tG X.K g (relV X.K g) (lcDM b mi mg vs mt me) W σ H Q) :
    tLc (tG X.K g (relD X.K g) mi W) (tGt X.K g mg) (tG X.K g relB mt W0) (tG X.K g (relV X.K g) me W0) vs σ H Q := by
  obtain ⟨w, sv, h, rs, hk, p⟩ := t
  refine seqG' rs hk p fun w1 H1 h1 pr J e1 rs1 k1 r1 p1 => ?_
  obtain ⟨fu, itf⟩ := pr
  have r1 : ItD X.K g w1 H1 itf J := r1
  intro D hD
  by_cases hf : fits fu = true
  case neg => rw [if_neg hf] at p1; exact p1.elim
  rw [if_pos hf] at p1
  have hz := fits_le hf
  refine ⟨fun i m H2 => i + m = fu ∧ ∃ w2 h2 acc accV, Gd w1 H1 D w2 H2 ∧ Hk X.K g w2 h2 H2 ∧ H2 D = some (.lst accV) ∧ RVs X.K g w2 H2 acc accV ∧ accV.length ≤ i ∧
      RSl X.K g w2 H2 (wipeS sv vs) (wipe σ vs) ∧ Post X.K g (relV X.K g) w1 H1 σ Q W ((lcGoD (wipeS sv vs) mg mt me itf m i h2).bind fun ys h3 => finL b (acc ++ ys) h3),
    ⟨fu, by simp, w1.guard D, h1, [], [], Gd.start k1 hD, guard_hk k1 hD, upd_same, by simp [RVs], Nat.le_refl _, (rs1.wipe vs).mono _ _ (guard_sees k1 hD), by simpa using p1⟩, ?_⟩
  rintro i m H2 ⟨hi, w2, h2, acc, accV, gd, k2, hD2, ra, hl, rs2, p2⟩
  cases m with
  | zero => simp only [lcGoD] at p2; exact p2.elim
  | succ m =>
    unfold lcGoD at p2
    cases q : itf i h2 with
    | none => rw [q] at p2; exact p2.elim
    | some o =>
      rw [q] at p2
      cases o with
      | none =>
        left
        refine ⟨r1.stop w2 h2 H2 i gd.sees k2 q, ?_⟩
        refine fz_lst (b := b) (out := acc) (σ := σ) (W := W) k1 hD gd k2 hD2 ra ?_
        have p2 : Post X.K g (relV X.K g) w1 H1 σ Q W (finL b (acc ++ []) h2) := p2
        rw [List.append_nil] at p2
        exact p2
      | some v =>
        right
        obtain ⟨go, yl⟩ := r1.step w2 h2 H2 i v gd.sees k2 q
        refine ⟨go, fun H' => ∃ w3 h3 acc accV, Gd w1 H1 D w3 H' ∧ Hk X.K g w3 h3 H' ∧ H' D = some (.lst accV) ∧ RVs X.K g w3 H' acc accV ∧ accV.length ≤ i + 1 ∧
          RSl X.K g w3 H' (wipeS sv vs) (wipe σ vs) ∧ Post X.K g (relV X.K g) w1 H1 σ Q W ((lcGoD (wipeS sv vs) mg mt me itf m (i + 1) h3).bind fun ys h3 => finL b (acc ++ ys) h3),
          fun H' q => ⟨m, by omega, by omega, q⟩, fun x H3 hy => ?_⟩
        obtain ⟨ex, k3, rx⟩ := yl x H3 hy
        dsimp only at p2
        cases em : mg v with
        | none => rw [em] at p2; exact p2.elim
        | some asg =>
          rw [em] at p2
          dsimp only at p2
          refine ⟨w2, h2, v, asg, k3, rx, em, fun ya rya => ?_⟩
          have rs3 := (rs2.mono _ _ ex.sees).sets rya
          refine ⟨wipe_eq (is := is) (setsR_length _ _) hs fun j hj => setsR_ne fun p hp z => ?_, ?_⟩
          · obtain ⟨q, hq, e⟩ := rya.ix p hp
            exact hj (by rw [← z, ← e]; exact hIn v asg em q hq)
          generalize setsV asg (wipeS sv vs) = sv2 at rs3 p2
          generalize setsR ya (wipe σ vs) = σ2 at rs3
          rw [Out.bind_assoc] at p2
          have gd3 := gd.ext ex
          have hD3 : H3 D = some (.lst accV) := by
            rw [ex.prot D (.inl (by rw [gd.P]; exact .inr rfl))]
            exact hD2
          have ra3 := RVs.mono ex.sees _ _ ra
          refine ⟨w2, sv2, h2, rs3, k3, ?_⟩
          cases et : mt sv2 h2 with
          | bad => rw [et] at p2; exact p2.elim
          | exc x h4 => rw [et] at p2; exact p2.elim
          | ok c h4 =>
            rw [et] at p2
            simp only [Out.nox, Out.bind] at p2
            intro w4 H4 b' e4 k4 eb
            have eb : c = b' := eb
            subst eb
            have gd4 := gd3.ext e4
            have hD4 : H4 D = some (.lst accV) := by
              rw [e4.prot D (.inl (by rw [gd3.P]; exact .inr rfl))]
              exact hD3
            have ra4 := RVs.mono e4.sees _ _ ra3
            have rs4 := (rs2.mono _ _ ex.sees).mono _ _ e4.sees
            cases c with
            | false =>
              rw [if_neg Bool.false_ne_true] at p2 ⊢
              exact ⟨w4, h4, acc, accV, gd4, k4, hD4, ra4, Nat.le_succ_of_le hl, rs4, p2⟩
            | true =>
              rw [if_pos rfl] at p2 ⊢
              refine ⟨w4, sv2, h4, rs3.mono _ _ e4.sees, k4, ?_⟩
              cases ee : me sv2 h4 with
              | bad => rw [ee] at p2; exact p2.elim
              | exc x h5 => rw [ee] at p2; exact p2.elim
              | ok yv h5 =>
                rw [ee] at p2
                simp only [Out.nox, Out.bind] at p2
                intro w5 H5 y e5 k5 ry
                have gd5 := gd4.ext e5
                have hD5 : H5 D = some (.lst accV) := by
                  rw [e5.prot D (.inl (by rw [gd4.P]; exact .inr rfl))]
                  exact hD4
                refine ⟨accV, hD5, by omega, w5, h5, acc ++ [yv], accV ++ [y], gd5.set k1 hD, guard_set_hk gd5.P k5, upd_same, ?_, by simp; omega, (rs4.mono _ _ e5.sees).mono _ _ (guard_set_sees gd5.P), ?_⟩
                · refine RVs.app (RVs.mono (guard_set_sees gd5.P) _ _ (RVs.mono e5.sees _ _ ra4)) ?_
                  simp only [RVs]
                  exact ⟨y, [], rfl, RV.mono (guard_set_sees gd5.P) _ _ ry, rfl⟩
                · cases eg : lcGoD (wipeS sv vs) mg mt me itf m (i + 1) h5 with
                  | bad => rw [eg] at p2; exact p2.elim
                  | exc x h6 => rw [eg] at p2; exact p2
                  | ok ys h6 =>
                    rw [eg] at p2
                    simpa [Out.bind] using p2
end
end Mv
set_option Elab.async false
set_option linter.all false
set_option maxRecDepth 100000
set_option maxHeartbeats 1000000
namespace Mv
open PySem PySem.Spec PyProof.Rows L2
def SIt (k : Bool) (h : Heap) (it l : Addr) (i : Nat) : Prop := match k with
  | true => h.IsListIter it l i
  | false => h.IsTupleIter it l i
def SSq (k : Bool) (h : Heap) (l : Addr) (xs : Array Value) : Prop := match k with
  | true => h.IsList l xs
  | false => h.IsTuple l xs
def itN (k : Bool) : String := if k then "list_iterator" else "tuple_iterator"
section
variable {k : Bool} {h h' : Heap} {it l b : Addr} {i : Nat} {xs : Array Value}
theorem SIt.ext (x : SIt k h it l i) (e : Heap.ExtBut b h h') (n : it ≠ b) : SIt k h' it l i := by
  cases k with
  | true => exact Heap.IsListIter.extBut x e n
  | false => exact Heap.IsTupleIter.extBut x e n
theorem SSq.ext (x : SSq k h l xs) (e : Heap.ExtBut b h h') (n : l ≠ b) : SSq k h' l xs := by
  cases k with
  | true => exact Heap.IsList.extBut x e n
  | false => exact Heap.IsTuple.extBut x e n
theorem SIt.at (x : SIt k h it l i) (e : ∀ o, h.get? it = some o → h'.get? it = some o) : SIt k h' it l i := by
  cases k with
  | true => exact Heap.IsListIter.at x e
  | false => exact Heap.IsTupleIter.at x e
theorem SSq.push (x : SSq k h l xs) (o : Obj) : SSq k (h.push o) l xs := by
  cases k with
  | true => exact Heap.IsList.push x o
  | false => exact Heap.IsTuple.push x o
theorem SIt.obj (x : SIt k h it l i) : ∃ o, h.get? it = some o ∧ ∀ v, o.data ≠ .cell v := by
  cases k with
  | true => obtain ⟨o, e, _, d⟩ := x; exact ⟨o, e, fun v q => by rw [d] at q; cases q⟩
  | false => obtain ⟨o, e, _, d⟩ := x; exact ⟨o, e, fun v q => by rw [d] at q; cases q⟩
theorem SIt.mk (e : h.get? it = some { cls := .type (itN k), data := .fields #[.ref l, .int i 0] }) : SIt k h it l i := by
  cases k with
  | true => exact ⟨_, e, rfl, rfl⟩
  | false => exact ⟨_, e, rfl, rfl⟩
variable {prog : Program} {w : World} {A : Around} {E : Value → Shared → Prop} {s : Shared}
end
section
variable {k k' : Bool} {prog : Program} {w : World} {A : Around} {E : Value → Shared → Prop} {s : Shared} {z TI TO i1 i2 l1 l2 : Addr} {n1 n2 : Nat} {xs ys : Array Value} {x y a b : Value}
end
section
variable {k k' : Bool} {prog : Program} {w : World} {A : Around} {E : Value → Shared → Prop} {s : Shared}
end
section
variable {X : Cx} {pins : List (Addr × Obj)} {σ : L2.St} {H : Hp} {s : Shared}
end
section
variable {K : PySem.W.Frag} {g : Gx} {w : Wd} {H : Hp}
end
section
variable {X : Cx} {g : Gx} {W : WX} {e e2 : Expr} {ma : MA} {pos p : Pos}
end
end Mv
set_option Elab.async false
set_option linter.all false
set_option maxRecDepth 100000
namespace Mv
open PySem PySem.Spec PyProof.Rows L2
section
variable {X : Cx} {g : Gx} {W : WX} {tg iter kx vx : Expr} {ifs : List Expr} {scope : Scope} {pos : Pos} {mi : MD} {mg : MG} {is : List Nat} {mt : MT} {mk mv : ME}
end
section
variable {X : Cx} {g : Gx} {W : WX} {e o : Expr} {es : List Expr} {m mo : ME} {ma mr : MA} {p p2 pos apos cpos : Pos}
end
end Mv
set_option Elab.async false
set_option linter.all false
set_option maxRecDepth 100000
namespace Mv
open PySem PySem.Spec PyProof.Rows L2
open PySem.W (readsAll_at AlikeAll minD maxD maxD_ints min_list_data max_list_data max_tuple_data max_list_default max_tuple_default)
section
variable {X : Cx} {pins : List (Addr × Obj)} {σ : L2.St} {H : Hp} {s : Shared} {g : Gx}
theorem vals_back {ys : List V} {its : List Value} (rv : Vals ys its) {i : Nat} {v : Value} (hv : its[i]? = some v) : ∃ y, ys[i]? = some y ∧ RelV y v := by
  have hl := rv.length
  have hi : i < ys.length := by have := (List.getElem?_eq_some_iff.mp hv).1; omega
  obtain ⟨u, e, r⟩ := rv.get (List.getElem?_eq_getElem hi)
  rw [hv] at e
  cases e
  exact ⟨_, List.getElem?_eq_getElem hi, r⟩
end
section
variable {K : PySem.W.Frag} {g : Gx} {w : Wd} {H : Hp} {h : VH} {G : Gx}
end
section
variable {X : Cx} {g : Gx} {W : WX} {e d o e2 : Expr} {m md me mo mi : ME} {p pos kpos ip tpos : Pos} {es : List Expr} {kk : Nat}
end
end Mv
set_option Elab.async false
set_option linter.all false
set_option maxRecDepth 100000
namespace Mv
open PySem PySem.Spec PyProof.Rows L2
section
variable {K : PySem.W.Frag} {g : Gx} {w : Wd} {H : Hp}
end
section
variable {X : Cx} {g : Gx} {W : WX} {e e2 : Expr} {ma : MA} {pos p : Pos}
end
section
variable {X : Cx} {g : Gx} {W : WX}
theorem rs_setLcD {b : Bool} (i : Nat) {y : Str} {py spos : Pos} {tg iter elt : Expr} {ifs : List Expr} {scope : Scope} {mi : MD} {mg : MG} {is : List Nat} {mt : MT} {me : ME} {own : List (Str × Nat)} (hc : X.calm = true) (hN : X.N.Nodup) (hi : RD X g W tg iter mi) (ok : BlkOk X.N X.env.scope scope own) (his : InIs mg is) (hs : ∀ j ∈ is, j ∈ own.map (·.2))
    (hg : ∀ (s : Shared) (H : Hp) (C : Addr) (cl : List (Str × Addr)) (fp : List Addr), RG (X.blk s H scope (compEnvC scope cl C X.env) fp) g tg mg) (ht : ∀ (s : Shared) (H : Hp) (C : Addr) (cl : List (Str × Addr)) (fp : List Addr), RTs (X.blk s H scope (compEnvC scope cl C X.env) fp) g W0 ifs mt)
    (he : ∀ (s : Shared) (H : Hp) (C : Addr) (cl : List (Str × Addr)) (fp : List Addr), RE (X.blk s H scope (compEnvC scope cl C X.env) fp) g W0 elt me) (hy : X.N[i]? = some y := by rfl) (hyl : X.env.scope.names.lookup y = some .local := by rfl) 
    (hsw : swapsWith (.ListComp elt [⟨tg, iter, ifs, 0⟩] scope pos) (some (.Name y py)) spos.line X.env = pure true := by first | exact sw_true rfl rfl rfl rfl | rfl) (hf : ∀ x, foldedSetIterable iter X.env x = pure x := by intro _; rfl) :
    RS X g W (.Assign [.Name y py] (.ListComp elt [⟨tg, iter, ifs, 0⟩] scope pos) spos) (setM i (lcDM b mi mg (own.map (·.2)) mt me)) :=
  ps_imp (ps_setLc (te := tG X.K g (relV X.K g) me W0) (tt := tG X.K g relB mt W0) (g := tGt X.K g mg) hc hN hy hyl hsw hi ok hg ht he hf) fun D σ H t => by
    obtain ⟨w, sl, h, f, k, p⟩ := t
    refine lcD_imp (b := b) his hs (Q := fun x H1 => gName i x σ H1 D.nx) ?_
    exact seqS f k p fun w1 H1 h1 v y e1 f1 k1 r1 p1 => p1 (w1.drop i) H1 (σ.set i (some y)) drop_ext k1.drop (f1.setv r1)
end
end Mv
set_option Elab.async false
set_option linter.all false
set_option maxRecDepth 100000
namespace Mv
open PySem PySem.Spec PyProof.Rows L2
section
variable {prog : Program} {w : World} {κ : Type} [DecidableEq κ] {knd : HeapKind prog w κ} {A : Around} {E : Value → Shared → Prop} {s : Shared}
end
section
variable {X : Cx} {pins : List (Addr × Obj)} {σ : L2.St} {H : Hp} {s : Shared} {D b : Addr} {fz : Obj} {kvs more : List (List Key × V)} {E : Value → Shared → Prop} {Q : Unit → Shared → Prop}
variable {k v m : Expr} {pos : Pos} {td tm : TE}
end
section
variable {X : Cx} {g : Gx} {W : WX}
end
end Mv
set_option Elab.async false
set_option linter.all false
set_option maxRecDepth 100000
namespace Mv
open PySem PySem.Spec PyProof.Rows L2
mutual

inductive NkH (K : PySem.W.Frag) (H : Hp) : NestedKey → V → Prop
  | non : NkH K H .none .non
  | bl (b : Bool) {i : Int} : i = (if b = true then 1 else 0) → NkH K H (.num i) (.bl b)
  | int (i : Int) : NkH K H (.num i) (.int i)
  | str (x : Str) : NkH K H (.text x) (.str x)
  | tup {a : Addr} {ys : List V} {ks : List NestedKey} : SqT K H a ys → NkHs K H ks ys → NkH K H (.tup ks) (.ref a)
inductive NkHs (K : PySem.W.Frag) (H : Hp) : List NestedKey → List V → Prop
  | nil : NkHs K H [] []
  | cons {k : NestedKey} {y : V} {ks : List NestedKey} {ys : List V} : NkH K H k y → NkHs K H ks ys → NkHs K H (k :: ks) (y :: ys)
end
section
variable {X : Cx} {pins : List (Addr × Obj)} {σ : L2.St} {H : Hp} {s : Shared}
mutual
theorem NkH.is (I : Inv X pins σ H s) : ∀ (k : NestedKey) (y : V) (u : Value), NkH X.K H k y → RelV y u → NestedIs s.heap k u
  | .none, _, _, h, r => by
    cases h
    cases r
    exact .none
  | .num i, _, _, h, r => by
    cases h with
    | bl b e => cases r; exact .bool e
    | int _ => obtain ⟨t, rfl⟩ := r; exact .int i t
  | .text x, _, _, h, r => by
    cases h
    obtain ⟨t, rfl⟩ := r
    exact .text x t
  | .tup ks, _, _, h, r => by
    cases h with
    | tup hs ha =>
      cases r
      obtain ⟨its, rv, ht, _⟩ := I.tuple hs
      obtain ⟨o, e1, e2, n, e3⟩ := ht
      exact .tup e1 e2 e3 (NkHs.is I ks _ its ha rv)
theorem NkHs.is (I : Inv X pins σ H s) : ∀ (ks : List NestedKey) (ys : List V) (us : List Value), NkHs X.K H ks ys → Vals ys us → NestedAll s.heap ks us
  | [], _, _, h, r => by
    cases h
    cases r
    exact .nil
  | k :: ks, _, _, h, r => by
    cases h with
    | cons h1 h2 =>
      cases r with
      | cons r1 r2 => exact .cons (NkH.is I k _ _ h1 r1) (NkHs.is I ks _ _ h2 r2)
end
end
section
variable {K : PySem.W.Frag} {G : Gx} {w : Wd} {H : Hp}
mutual
theorem nkey_ok : ∀ (v : VV) (k : NestedKey) (y : V), nkey v = some k → RV K G w H v y → NkH K H k y
  | .non, _, _, e, r => by
    simp only [nkey, Option.some.injEq] at e
    simp only [RV] at r
    subst e r
    exact .non
  | .bl b, _, _, e, r => by
    simp only [nkey, Option.some.injEq] at e
    simp only [RV] at r
    subst e r
    exact .bl b rfl
  | .int i, _, _, e, r => by
    simp only [nkey, Option.some.injEq] at e
    simp only [RV] at r
    subst e r
    exact .int i
  | .str x, _, _, e, r => by
    simp only [nkey, Option.some.injEq] at e
    simp only [RV] at r
    subst e r
    exact .str x
  | .tup xs, _, _, e, r => by
    simp only [nkey, Option.map_eq_some_iff] at e
    obtain ⟨ks, e, rfl⟩ := e
    obtain ⟨a, ys, rfl, sq, rr⟩ := r.tup_get
    exact .tup sq (nkeys_ok xs ks ys e rr)
  | .ktu xs, _, _, e, r => by
    simp only [nkey, Option.map_eq_some_iff] at e
    obtain ⟨ks, e, rfl⟩ := e
    obtain ⟨a, ys, rfl, sq, rr⟩ := r.ktu_get
    exact .tup sq (nkeys_ok xs ks ys e rr)
  | .ty _, _, _, e, _ => by simp only [nkey] at e; cases e
  | .lst _, _, _, e, _ => by simp only [nkey] at e; cases e
  | .rol _, _, _, e, _ => by simp only [nkey] at e; cases e
  | .dct _ _, _, _, e, _ => by simp only [nkey] at e; cases e
  | .ins _ _, _, _, e, _ => by simp only [nkey] at e; cases e
  | .ref _, _, _, e, _ => by simp only [nkey] at e; cases e
  | .adr _, _, _, e, _ => by simp only [nkey] at e; cases e
  | .dtt _ _, _, _, e, _ => by simp only [nkey] at e; cases e
theorem nkeys_ok : ∀ (xs : List VV) (ks : List NestedKey) (ys : List V), nkeys xs = some ks → RVs K G w H xs ys → NkHs K H ks ys
  | [], _, _, e, r => by
    simp only [nkeys, Option.some.injEq] at e
    simp only [RVs] at r
    subst e r
    exact .nil
  | x :: xs, _, _, e, r => by
    simp only [nkeys, Option.bind_eq_some_iff, Option.map_eq_some_iff] at e
    obtain ⟨k, e1, ks, e2, rfl⟩ := e
    simp only [RVs] at r
    obtain ⟨y, ys, rfl, r1, r2⟩ := r
    exact .cons (nkey_ok x k y e1 r1) (nkeys_ok xs ks ys e2 r2)
end
end
abbrev Ents := List (NestedKey × Addr × Value)
section
variable {X : Cx} {pins : List (Addr × Obj)} {σ : L2.St} {H : Hp} {s : Shared} {a b : Addr} {ob : Obj} {xs : Ents} {k : NestedKey} {y v : V} {u r : Value} {A : Around} {E : Value → Shared → Prop}
end
section
variable {X : Cx}
variable {o e f : Expr} {apos cpos tpos pos : Pos} {td ty tx : TE}
end
def eqN (v : VV) (k : NestedKey) : Bool := match nkey v with
  | some m => NestedKey.beq m k
  | none => false
def putR : List VV → List VV → VV → NestedKey → VV → List VV × List VV
  | a :: ks, b :: vs, y, k, v => if eqN a k then (a :: ks, v :: vs) else (a :: (putR ks vs y k v).1, b :: (putR ks vs y k v).2)
  | _, _, y, _, v => ([y], [v])
def cutR : List VV → List VV → NestedKey → List VV × List VV
  | a :: ks, b :: vs, k => if eqN a k then (ks, vs) else (a :: (cutR ks vs k).1, b :: (cutR ks vs k).2)
  | _, _, _ => ([], [])
theorem eqN_of {v : VV} {m k : NestedKey} (e : nkey v = some m) : eqN v k = decide (m = k) := by
  unfold eqN
  rw [e]
  exact (NestedKey.decide_eq m k).symm
section
variable {K : PySem.W.Frag} {G g : Gx} {w : Wd} {H : Hp} {h : VH}
theorem RDt.len : ∀ {ks vs : List VV} {xs : Ents}, RDt K G w H ks vs xs → ks.length = xs.length ∧ vs.length = xs.length
  | [], [], _, h => by
    have h : _ = [] := h
    subst h
    exact ⟨rfl, rfl⟩
  | k :: ks, v :: vs, _, ⟨nk, b, u, y, r, e1, _, _, _, _, _, e7⟩ => by
    subst e1
    obtain ⟨h1, h2⟩ := RDt.len e7
    simp [h1, h2]
  | [], _ :: _, _, h => h.elim
  | _ :: _, [], _, h => h.elim
theorem RDt.keys : ∀ {ks vs : List VV} {xs : Ents}, RDt K G w H ks vs xs → ∀ x ∈ xs, NkH K H x.1 (.ref x.2.1) ∧ x.1.depth ≤ 8
  | [], [], _, h, x, hx => by
    have h : _ = [] := h
    subst h
    cases hx
  | k :: ks, v :: vs, _, ⟨nk, b, u, y, r, e1, e2, e3, e4, _, _, e7⟩, x, hx => by
    subst e1
    rcases List.mem_cons.mp hx with rfl | hx
    · exact ⟨nkey_ok _ _ _ e2 e4, e3⟩
    · exact RDt.keys e7 x hx
  | [], _ :: _, _, h, _, _ => h.elim
  | _ :: _, [], _, h, _, _ => h.elim
theorem atKey_cons (x : NestedKey × Addr × Value) (xs : Ents) (k : NestedKey) : atKey (x :: xs) k = if x.1 = k then some x.2 else atKey xs k := by
  unfold atKey
  rw [List.find?_cons]
  by_cases c : x.1 = k
  · simp [c]
  · simp [c]
theorem stored_cons {x : NestedKey × Addr × Value} {xs : Ents} {k : NestedKey} {b : Addr} {u : Value} (nd : ((x :: xs).map (·.1)).Nodup) : storedH (x :: xs) k b u = if x.1 = k then (x.1, x.2.1, u) :: xs else x :: storedH xs k b u := by
  obtain ⟨k0, b0, u0⟩ := x
  rw [List.map_cons, List.nodup_cons] at nd
  by_cases c : k0 = k
  · subst c
    rw [if_pos rfl, storedH_old (p := (b0, u0)) (by rw [atKey_cons, if_pos rfl]), List.map_cons]
    unfold putAt
    rw [if_pos rfl]
    congr 1
    exact map_putAt_of_not_mem xs k0 u nd.1
  · rw [if_neg c]
    cases e : atKey xs k with
    | none => rw [storedH_new e, storedH_new (by rw [atKey_cons, if_neg c]; exact e)]; rfl
    | some p =>
      rw [storedH_old e, storedH_old (p := p) (by rw [atKey_cons, if_neg c]; exact e), List.map_cons]
      congr 1
      unfold putAt
      rw [if_neg c]
theorem stored_nil (k : NestedKey) (b : Addr) (u : Value) : storedH ([] : Ents) k b u = [(k, b, u)] := storedH_new rfl b u
theorem RDt.put {y : VV} {k : NestedKey} {b : Addr} {v : VV} {z : V} {u : Value} (ek : nkey y = some k) (hd : k.depth ≤ 8) (ry : RV K G w H y (.ref b)) (rz : RelV z u) (rv : RV K G w H v z) : ∀ {ks vs : List VV} {xs : Ents}, (xs.map (·.1)).Nodup → RDt K G w H ks vs xs →
    RDt K G w H (putR ks vs y k v).1 (putR ks vs y k v).2 (storedH xs k b u)
  | [], [], _, _, h => by
    have h : _ = [] := h
    subst h
    rw [stored_nil]
    exact ⟨k, b, u, z, [], rfl, ek, hd, ry, rz, rv, rfl⟩
  | a :: ks, c :: vs, _, nd, ⟨nk, b0, u0, y0, r, e1, e2, e3, e4, e5, e6, e7⟩ => by
    subst e1
    rw [stored_cons nd]
    unfold putR
    rw [eqN_of e2]
    rw [List.map_cons, List.nodup_cons] at nd
    by_cases q : nk = k
    · rw [if_pos (by simpa using q), if_pos q]
      exact ⟨nk, b0, u, z, r, rfl, e2, e3, e4, rz, rv, e7⟩
    · rw [if_neg (by simpa using q), if_neg q]
      exact ⟨nk, b0, u0, y0, _, rfl, e2, e3, e4, e5, e6, RDt.put ek hd ry rz rv nd.2 e7⟩
  | [], _ :: _, _, _, h => h.elim
  | _ :: _, [], _, _, h => h.elim
theorem RDt.cut (k : NestedKey) : ∀ {ks vs : List VV} {xs : Ents}, (xs.map (·.1)).Nodup → RDt K G w H ks vs xs → RDt K G w H (cutR ks vs k).1 (cutR ks vs k).2 (withoutH xs k)
  | [], [], _, _, h => by
    have h : _ = [] := h
    subst h
    rfl
  | a :: ks, c :: vs, _, nd, ⟨nk, b0, u0, y0, r, e1, e2, e3, e4, e5, e6, e7⟩ => by
    subst e1
    rw [List.map_cons, List.nodup_cons] at nd
    unfold cutR
    rw [eqN_of e2]
    by_cases q : nk = k
    · subst q
      rw [if_pos (by simp)]
      have e8 : withoutH ((nk, b0, u0) :: r) nk = r := by
        unfold withoutH
        rw [List.filter_cons, if_neg (by simp)]
        exact withoutH_of_not_mem r nk nd.1
      rw [e8]
      exact e7
    · rw [if_neg (by simpa using q)]
      have e8 : withoutH ((nk, b0, u0) :: r) k = (nk, b0, u0) :: withoutH r k := by
        unfold withoutH
        rw [List.filter_cons, if_pos (by simpa using q)]
      rw [e8]
      exact ⟨nk, b0, u0, y0, _, rfl, e2, e3, e4, e5, e6, RDt.cut k nd.2 e7⟩
  | [], _ :: _, _, _, h => h.elim
  | _ :: _, [], _, _, h => h.elim
end
section
variable {X : Cx} {g : Gx} {W : WX} {a b o e e2 f : Expr} {ma mb md mk mx mo mi me : ME} {pos apos cpos ip tpos : Pos} {k : Nat}
end
section
variable {K : PySem.W.Frag} {g : Gx} {w : Wd} {H : Hp} {h : VH} {sl : Sl} {σ : L2.St} {n : Nat} {a : Addr} {ob ob' : Obj} {xs ys : Ents} {ks vs : List VV}
end
section
variable {X : Cx} {g : Gx} {W : WX} {o e e2 : Expr} {mo mi me : ME} {pos ip tpos : Pos} {k : Nat}
end
end Mv
set_option Elab.async false
set_option linter.all false
set_option maxRecDepth 100000
namespace Mv
open PySem PySem.Spec PyProof.Rows L2
section
variable {X : Cx}
end
section
variable {X : Cx} {g : Gx} {W : WX} {w w2 : Wd} {H H2 : Hp} {h h2 : VH} {D : Addr} {σ : L2.St} {Q : VK}
end
section
variable {X : Cx} {g : Gx} {W : WX} {tg iter kx vx : Expr} {ifs : List Expr} {scope : Scope} {pos : Pos} {mi : MD} {mg : MG} {is : List Nat} {mt : MT} {mk mv : ME}
end
end Mv
set_option Elab.async false
set_option linter.all false
set_option maxRecDepth 100000
namespace Mv
open PySem PySem.Spec PyProof.Rows L2
section
variable {K : PySem.W.Frag} {H : Hp} {D : Addr} {ob ob' : Obj}
theorem sqT_dr {a : Addr} {ys : List V} (hD : H D = some (DtO D ob)) (h : SqT K H a ys) : SqT K (upd H D (DtO D ob')) a ys := by
  rcases h with (h | ⟨o, h⟩) | h
  · exact .inl (.inl (by rw [upd_ne (ne_of h hD (fun z => by unfold DtO at z; cases z))]; exact h))
  · exact .inl (.inr ⟨o, by rw [upd_ne (ne_of h hD (fun z => by unfold DtO at z; cases z))]; exact h⟩)
  · exact .inr h
mutual
theorem NkH.dr (hD : H D = some (DtO D ob)) : ∀ (k : NestedKey) (y : V), NkH K H k y → NkH K (upd H D (DtO D ob')) k y
  | .none, _, h => by cases h; exact .non
  | .num i, _, h => by
    cases h with
    | bl b e => exact .bl b e
    | int _ => exact .int i
  | .text x, _, h => by cases h; exact .str x
  | .tup ks, _, h => by
    cases h with
    | tup hs ha => exact .tup (sqT_dr hD hs) (NkHs.dr hD ks _ ha)
theorem NkHs.dr (hD : H D = some (DtO D ob)) : ∀ (ks : List NestedKey) (ys : List V), NkHs K H ks ys → NkHs K (upd H D (DtO D ob')) ks ys
  | [], _, h => by cases h; exact .nil
  | k :: ks, _, h => by
    cases h with
    | cons h1 h2 => exact .cons (NkH.dr hD k _ h1) (NkHs.dr hD ks _ h2)
end
end
section
variable {X : Cx} {k v m : Expr} {pos : Pos} {td tm : TE}
end
section
variable {X : Cx} {g : Gx} {W : WX}
end
end Mv
set_option Elab.async false
set_option linter.all false
set_option maxRecDepth 100000
set_option maxHeartbeats 4000000
namespace Mv
open PySem PySem.Spec PyProof.Rows L2
end Mv
set_option Elab.async false
set_option linter.all false
set_option maxRecDepth 100000
namespace Mv
open PySem PySem.Spec PyProof.Rows L2
section
variable {α : Type} {le : α → α → Bool}
end
section
variable {X : Cx}
end
section
variable {K : PySem.W.Frag} {g : Gx} {w : Wd} {H : Hp} {h : VH} {G : Gx}
end
section
variable {K : PySem.W.Frag} {g : Gx} {w : Wd} {H : Hp} {h : VH}
end
section
variable {K : PySem.W.Frag} {g : Gx} {w : Wd} {H : Hp} {h : VH}
end
section
variable {X : Cx} {g : Gx} {W : WX} {o e : Expr} {mo : ME} {ma : MA} {apos cpos : Pos}
end
end Mv
set_option Elab.async false
set_option linter.all false
set_option maxRecDepth 100000
namespace Mv
open PySem PySem.Spec PyProof.Rows L2
section
variable {X : Cx} {k : Nat}
end
end Mv
set_option Elab.async false
set_option linter.all false
set_option maxRecDepth 100000
set_option maxHeartbeats 4000000
namespace Mv
open PySem PySem.Spec PyProof.Rows L2
section
variable {X : Cx} {g : Gx}
end
end Mv
set_option Elab.async false
set_option linter.all false
set_option maxRecDepth 100000
namespace Mv
open PySem PySem.Spec PyProof.Rows L2
end Mv
set_option Elab.async false
set_option linter.all false
set_option maxRecDepth 100000
set_option pp.maxSteps 400
set_option pp.deepTerms false
namespace Mv
open PySem PySem.Spec PyProof.Rows L2
section
variable {X : Cx} {pos p1 p2 p3 p4 p5 p6 : Pos} {j1 j2 j3 j4 j5 j6 : Nat} {g : Gx} {W : WX}
end
end Mv
set_option Elab.async false
set_option linter.all false
set_option maxRecDepth 100000
namespace PySem
section
variable {prog : Program} {w : World} {K : Type} [DecidableEq K] {knd : HeapKind prog w K} {A : Around} {E : Value → Shared → Prop} {s : Shared}
end
end PySem
namespace Mv
open PySem PySem.Spec PyProof.Rows L2
mutual
def hashC : NestedKey → Option Int
  | .none => some (reduceHash 0xFCA86420)
  | .num i => some (hashInt i)
  | .text _ => none
  | .tup ks => (hashCs ks).map fun l => reduceHash (Builtin.Tuple.tupleHashOf l)
def hashCs : List NestedKey → Option (List Int)
  | [] => some []
  | k :: ks => (hashC k).bind fun i => (hashCs ks).map fun is => i :: is
end
mutual
theorem hashC_ok (wo : World) : ∀ (k : NestedKey) (i : Int), hashC k = some i → k.hash wo = i
  | .none, i, e => by simp only [hashC, Option.some.injEq] at e; rw [NestedKey.hash, e]
  | .num n, i, e => by simp only [hashC, Option.some.injEq] at e; rw [NestedKey.hash, e]
  | .text x, i, e => by simp only [hashC] at e; cases e
  | .tup ks, i, e => by
    simp only [hashC, Option.map_eq_some_iff] at e
    obtain ⟨l, e1, rfl⟩ := e
    rw [NestedKey.hash, hashCs_ok wo ks l e1]
theorem hashCs_ok (wo : World) : ∀ (ks : List NestedKey) (l : List Int), hashCs ks = some l → NestedKey.hashes wo ks = l
  | [], l, e => by simp only [hashCs, Option.some.injEq] at e; rw [NestedKey.hashes, e]
  | k :: ks, l, e => by
    simp only [hashCs, Option.bind_eq_some_iff, Option.map_eq_some_iff] at e
    obtain ⟨i, e1, is, e2, rfl⟩ := e
    rw [NestedKey.hashes, hashC_ok wo k i e1, hashCs_ok wo ks is e2]
end
section
variable {X : Cx}
end
section
variable {X : Cx} {g : Gx}
end
end Mv
set_option Elab.async false
set_option linter.all false
set_option maxRecDepth 100000
namespace Mv
open PySem PySem.Spec PyProof.Rows L2
section
variable {X : Cx}
end
section
variable {K : PySem.W.Frag} {g : Gx} {w : Wd} {H : Hp} {h : VH}
end
section
variable {X : Cx} {g : Gx}
end
end Mv
set_option Elab.async false
set_option linter.all false
set_option maxRecDepth 100000
set_option maxHeartbeats 1000000
namespace Mv
open PySem PySem.Spec PyProof.Rows L2
section
variable {k k' : Bool} {prog : Program} {w : World} {A : Around} {E : Value → Shared → Prop} {s : Shared} {z TI TO T i1 i2 l1 l2 : Addr} {f : Bool} {oT : Obj} {n1 n2 : Nat} {xs ys : Array Value} {x y : Value}
end
theorem SSq.at {k : Bool} {h h' : Heap} {l : Addr} {xs : Array Value} (x : SSq k h l xs) (e : ∀ o, h.get? l = some o → h'.get? l = some o) : SSq k h' l xs := by
  cases k with
  | true => exact Heap.IsList.at x e
  | false => exact Heap.IsTuple.at x e
theorem SSq.obj {k : Bool} {h : Heap} {l : Addr} {xs : Array Value} (x : SSq k h l xs) : ∃ o, h.get? l = some o := by
  cases k with
  | true => obtain ⟨o, e, _⟩ := x; exact ⟨o, e⟩
  | false => obtain ⟨o, e, _⟩ := x; exact ⟨o, e⟩
section
variable {X : Cx} {e e2 : Expr} {ta : TA} {p p2 pos pos2 : Pos}
end
section
variable {X : Cx} {g : Gx} {W : WX} {e e2 : Expr} {ma : MA} {p p2 pos pos2 : Pos}
end
end Mv
set_option Elab.async false
set_option linter.all false
set_option maxRecDepth 100000
set_option maxHeartbeats 1000000
namespace Mv
open PySem PySem.Spec PyProof.Rows L2
section
variable {prog : Program} {w : World} {A : Around} {E : Value → Shared → Prop} {s : Shared}
end
section
variable {X : Cx} {pins : List (Addr × Obj)} {σ : L2.St} {H : Hp} {s : Shared}
end
section
variable {X : Cx} {e : Expr} {te : TE} {apos cpos : Pos}
variable {g : Gx} {W : WX} {m : ME} {pos p : Pos}
end
end Mv
set_option Elab.async false
set_option linter.all false
set_option maxRecDepth 100000
set_option maxHeartbeats 1000000
namespace Mv
open PySem PySem.Spec PyProof.Rows L2
section
variable {X : Cx} {pins : List (Addr × Obj)} {σ : L2.St} {H : Hp} {s : Shared}
end
section
variable {k k' : Bool} {a b : Addr} {n : Nat} {H : Hp}
variable {X : Cx} {pins : List (Addr × Obj)} {σ : L2.St} {s : Shared}
end
section
variable {X : Cx} {i : Nat} {x : Str} {np : Pos} {elts : List Expr} {kk : Nat} {tpos : Pos}
end
section
variable {X : Cx} {e e2 : Expr} {ta : TA} {p pos : Pos}
end
section
variable {X : Cx} {g : Gx} {W : WX} {tg iter elt : Expr} {ifs : List Expr} {scope : Scope} {pos : Pos} {mi : MI} {mg : MG} {is : List Nat} {mt : MT} {me : ME}
theorem lc_at {vs : List Nat} (hIn : InIs mg is) (hs : ∀ j ∈ is, j ∈ vs) {σ : L2.St} {H1 : Hp} {Q : VK} {w1 : Wd} {sv : Sv} {h1 : VH} {items : List VV} {J : It} (rs1 : RSl X.K g w1 H1 sv σ) (k1 : Hk X.K g w1 h1 H1) (r1 : ItOk X.K g w1 H1 items J)
    (p1 : Post X.K g (relV X.K g) w1 H1 σ Q W (if fits items.length then (lcGo (wipeS sv vs) mg mt me items h1).bind fun out h2 => .ok (.lst out) h2 else .bad)) :
    (fun J H1 => tLc (fun _ H R => R J H) (tGt X.K g mg) (tG X.K g relB mt W0) (tG X.K g (relV X.K g) me W0) vs σ H1 Q) J H1 := by
  intro D hD
  -- p1 : the post of the turns from h1 on
  by_cases hf : fits items.length = true
  case neg => rw [if_neg hf] at p1; exact p1.elim
  rw [if_pos hf] at p1
  have hz := fits_le hf
  refine ⟨fun i m H2 => m = items.length - i ∧ i ≤ items.length ∧ ∃ w2 h2 acc accV, Gd w1 H1 D w2 H2 ∧ Hk X.K g w2 h2 H2 ∧ H2 D = some (.lst accV) ∧ RVs X.K g w2 H2 acc accV ∧ accV.length ≤ i ∧
      RSl X.K g w2 H2 (wipeS sv vs) (wipe σ vs) ∧ Post X.K g (relV X.K g) w1 H1 σ Q W ((lcGo (wipeS sv vs) mg mt me (items.drop i) h2).bind fun ys h3 => .ok (.lst (acc ++ ys)) h3),
    ⟨items.length, by simp, Nat.zero_le _, w1.guard D, h1, [], [], Gd.start k1 hD, guard_hk k1 hD, upd_same, by simp [RVs], Nat.le_refl _, (rs1.wipe vs).mono _ _ (guard_sees k1 hD), by simpa using p1⟩, ?_⟩
  rintro i m H2 ⟨rfl, hi, w2, h2, acc, accV, gd, k2, hD2, ra, hl, rs2, p2⟩
  by_cases hlt : i < items.length
  · -- a turn
    right
    have hv : items[i]? = some items[i] := List.getElem?_eq_getElem hlt
    generalize items[i] = v at hv
    have hdrop : items.drop i = v :: items.drop (i + 1) := by
      rw [List.drop_eq_getElem_cons hlt]
      congr 1
      rw [List.getElem?_eq_getElem hlt] at hv
      exact Option.some.inj hv
    rw [hdrop] at p2
    simp only [lcGo] at p2
    obtain ⟨go, yl⟩ := r1.step w2 h2 H2 i v gd.sees k2 hv
    refine ⟨go, fun H' => ∃ w3 h3 acc accV, Gd w1 H1 D w3 H' ∧ Hk X.K g w3 h3 H' ∧ H' D = some (.lst accV) ∧ RVs X.K g w3 H' acc accV ∧ accV.length ≤ i + 1 ∧
      RSl X.K g w3 H' (wipeS sv vs) (wipe σ vs) ∧ Post X.K g (relV X.K g) w1 H1 σ Q W ((lcGo (wipeS sv vs) mg mt me (items.drop (i + 1)) h3).bind fun ys h3 => .ok (.lst (acc ++ ys)) h3),
      fun H' q => ⟨items.length - (i + 1), by omega, rfl, hlt, q⟩, fun x H3 hy => ?_⟩
    obtain ⟨ex, k3, rx⟩ := yl x H3 hy
    cases em : mg v with
    | none => rw [em] at p2; exact p2.elim
    | some asg =>
      rw [em] at p2
      dsimp only at p2
      refine ⟨w2, h2, v, asg, k3, rx, em, fun ya rya => ?_⟩
      have rs3 := (rs2.mono _ _ ex.sees).sets rya
      refine ⟨wipe_eq (is := is) (setsR_length _ _) hs fun j hj => setsR_ne fun p hp z => ?_, ?_⟩
      · obtain ⟨q, hq, e⟩ := rya.ix p hp
        exact hj (by rw [← z, ← e]; exact hIn v asg em q hq)
      generalize setsV asg (wipeS sv vs) = sv2 at rs3 p2
      generalize setsR ya (wipe σ vs) = σ2 at rs3
      rw [Out.bind_assoc] at p2
      -- the test
      have gd3 := gd.ext ex
      have hD3 : H3 D = some (.lst accV) := by
        rw [ex.prot D (.inl (by rw [gd.P]; exact .inr rfl))]
        exact hD2
      have ra3 := RVs.mono ex.sees _ _ ra
      refine ⟨w2, sv2, h2, rs3, k3, ?_⟩
      cases et : mt sv2 h2 with
      | bad => rw [et] at p2; exact p2.elim
      | exc x h4 => rw [et] at p2; exact p2.elim
      | ok b h4 =>
        rw [et] at p2
        simp only [Out.nox, Out.bind] at p2
        intro w4 H4 b' e4 k4 eb
        have eb : b = b' := eb
        subst eb
        have gd4 := gd3.ext e4
        have hD4 : H4 D = some (.lst accV) := by
          rw [e4.prot D (.inl (by rw [gd3.P]; exact .inr rfl))]
          exact hD3
        have ra4 := RVs.mono e4.sees _ _ ra3
        have rs4 := (rs2.mono _ _ ex.sees).mono _ _ e4.sees
        cases b with
        | false =>
          rw [if_neg Bool.false_ne_true] at p2 ⊢
          exact ⟨w4, h4, acc, accV, gd4, k4, hD4, ra4, Nat.le_succ_of_le hl, rs4, p2⟩
        | true =>
          rw [if_pos rfl] at p2 ⊢
          refine ⟨w4, sv2, h4, rs3.mono _ _ e4.sees, k4, ?_⟩
          cases ee : me sv2 h4 with
          | bad => rw [ee] at p2; exact p2.elim
          | exc x h5 => rw [ee] at p2; exact p2.elim
          | ok yv h5 =>
            rw [ee] at p2
            simp only [Out.nox, Out.bind] at p2
            intro w5 H5 y e5 k5 ry
            have gd5 := gd4.ext e5
            have hD5 : H5 D = some (.lst accV) := by
              rw [e5.prot D (.inl (by rw [gd4.P]; exact .inr rfl))]
              exact hD4
            refine ⟨accV, hD5, Nat.lt_of_lt_of_le (Nat.lt_of_le_of_lt hl hlt) hz, w5, h5, acc ++ [yv], accV ++ [y], gd5.set k1 hD, guard_set_hk gd5.P k5, upd_same, ?_, by simp; omega, (rs4.mono _ _ e5.sees).mono _ _ (guard_set_sees gd5.P), ?_⟩
            · refine RVs.app (RVs.mono (guard_set_sees gd5.P) _ _ (RVs.mono e5.sees _ _ ra4)) ?_
              simp only [RVs]
              exact ⟨y, [], rfl, RV.mono (guard_set_sees gd5.P) _ _ ry, rfl⟩
            · cases eg : lcGo (wipeS sv vs) mg mt me (items.drop (i + 1)) h5 with
              | bad => rw [eg] at p2; exact p2.elim
              | exc x h6 => rw [eg] at p2; exact p2
              | ok ys h6 =>
                rw [eg] at p2
                simpa [Out.bind] using p2
  · left
    have e : i = items.length := by omega
    subst e
    refine ⟨r1.stop w2 H2 gd.sees, ?_⟩
    rw [List.drop_length] at p2
    refine p2 (w2.bare w1.P) H2 (.ref D) gd.done (unguard_hk gd.P k2) ?_
    refine RV.lst_of hD2 (gd.free k1 hD k2) ?_
    rw [List.append_nil]
    exact RVs.mono (unguard_sees gd.P) _ _ ra
end
section
variable {K : PySem.W.Frag} {g : Gx} {w : Wd} {H : Hp} {sl : Sl} {σ : L2.St} {i : Nat}
end
section
variable {X : Cx} {g : Gx} {W : WX} {e e2 elt : Expr} {ifs elts : List Expr} {scope : Scope} {x : Str} {pos p p3 pn np apos lpos cpos rpos tpos : Pos} {kk : Nat} {ma : MA} {mg : MG} {is : List Nat} {mt : MT} {me : ME}
end
end Mv
set_option Elab.async false
set_option linter.all false
set_option maxRecDepth 100000
namespace Mv
open PySem PySem.Spec PyProof.Rows L2
section
variable {K : PySem.W.Frag} {g : Gx}
end
end Mv
set_option Elab.async false
set_option linter.all false
set_option maxRecDepth 100000
set_option maxHeartbeats 1000000
namespace Mv
open PySem PySem.Spec PyProof.Rows L2
section
variable {P : Program} {w : World} {K : PySem.W.Frag} {tg : Expr} {d : Addr} {ob : Obj} {es : Array DictEntry} {ep : Nat} {xs : Ents}
end
section
variable {X : Cx} {tg e : Expr} {td : TE} {apos cpos : Pos}
end
section
variable {K : PySem.W.Frag} {G : Gx} {w w' : Wd} {H H' : Hp}
structure SeesQ (w : Wd) (H : Hp) (w' : Wd) (H' : Hp) : Prop where
  keep : ∀ a o, H a = some o → ¬ w.mut a → H' a = some o ∧ ¬ w'.mut a
  refs : ∀ (n : Nat) (b : Addr), n < w.phi.length → w'.phi[n]? = some (some b) → w.phi[n]? = some (some b)
  len : w.phi.length ≤ w'.phi.length
mutual
theorem RV.monoQ (e : SeesQ w H w' H') : ∀ (v : VV) (y : V), RV K G w H v y → RV K G w' H' v y
  | .non, _, h => by simp only [RV] at h ⊢; exact h
  | .bl _, _, h => by simp only [RV] at h ⊢; exact h
  | .int _, _, h => by simp only [RV] at h ⊢; exact h
  | .str _, _, h => by simp only [RV] at h ⊢; exact h
  | .ty _, _, h => by simp only [RV] at h ⊢; exact h
  | .tup xs, _, h => by
    simp only [RV] at h ⊢
    obtain ⟨a, ys, e1, h1, h2⟩ := h
    exact ⟨a, ys, e1, e.keep a _ h1.1 h1.2, RVs.monoQ e xs ys h2⟩
  | .ktu xs, _, h => by
    simp only [RV] at h ⊢
    obtain ⟨a, ys, e1, h1, h2⟩ := h
    exact ⟨a, ys, e1, h1.imp id (fun ⟨o, q1, q2, q3⟩ => ⟨o, (e.keep a _ q1 q3).1, q2, (e.keep a _ q1 q3).2⟩), RVs.monoQ e xs ys h2⟩
  | .lst xs, _, h => by
    simp only [RV] at h ⊢
    obtain ⟨a, ys, e1, h1, h2⟩ := h
    exact ⟨a, ys, e1, e.keep a _ h1.1 h1.2, RVs.monoQ e xs ys h2⟩
  | .rol xs, _, h => by
    simp only [RV] at h ⊢
    obtain ⟨a, ys, e1, h1, h2⟩ := h
    exact ⟨a, ys, e1, h1.imp (fun ⟨o, q1, q2⟩ => ⟨o, e.keep a _ q1 q2⟩) id, RVs.monoQ e xs ys h2⟩
  | .dct ks vs, _, h => by
    simp only [RV] at h ⊢
    obtain ⟨a, kvs, e1, ⟨o, h1, h1'⟩, h2, h3⟩ := h
    exact ⟨a, kvs, e1, ⟨o, e.keep a _ h1 h1'⟩, RVs.monoQ e ks _ h2, RVs.monoQ e vs _ h3⟩
  | .ins _ fs, _, h => by
    simp only [RV] at h ⊢
    obtain ⟨a, vs, e1, ⟨ob, h1, h2, h3⟩, h4⟩ := h
    exact ⟨a, vs, e1, ⟨ob, (e.keep a _ h1 h3).1, h2.imp fun c o h m _ => e.keep c o h m, (e.keep a _ h1 h3).2⟩, RVs.monoQ e fs vs h4⟩
  | .ref n, _, h => by
    simp only [RV] at h ⊢
    obtain ⟨a, e1, h1, h2⟩ := h
    exact ⟨a, e1, Nat.lt_of_lt_of_le h1 e.len, fun b hb => h2 b (e.refs n b h1 hb)⟩
  | .adr _, _, h => by simp only [RV] at h ⊢; exact h
  | .dtt ks vs, _, h => by
    simp only [RV] at h ⊢
    obtain ⟨a, kvs, e1, ⟨o, h1, h1'⟩, h2, h3⟩ := h
    exact ⟨a, kvs, e1, ⟨o, e.keep a _ h1 h1'⟩, h2, RVs.monoQ e vs _ h3⟩
theorem RVs.monoQ (e : SeesQ w H w' H') : ∀ (v : List VV) (y : List V), RVs K G w H v y → RVs K G w' H' v y
  | [], _, h => by simp only [RVs] at h ⊢; exact h
  | x :: xs, _, h => by
    simp only [RVs] at h ⊢
    obtain ⟨y, r, e1, h1, h2⟩ := h
    exact ⟨y, r, e1, RV.monoQ e x y h1, RVs.monoQ e xs r h2⟩
end
theorem RVo.monoQ (e : SeesQ w H w' H') : ∀ (v : List (Option VV)) (y : List (Option V)), RVo K G w H v y → RVo K G w' H' v y
  | [], _, h => by simp only [RVo] at h ⊢; exact h
  | none :: r, _, h => by
    simp only [RVo] at h ⊢
    obtain ⟨y, l, e1, h1⟩ := h
    exact ⟨y, l, e1, RVo.monoQ e r l h1⟩
  | some x :: r, _, h => by
    simp only [RVo] at h ⊢
    obtain ⟨y, l, e1, h1, h2⟩ := h
    exact ⟨y, l, e1, RV.monoQ e x y h1, RVo.monoQ e r l h2⟩
theorem RDt.monoQ (e : SeesQ w H w' H') : ∀ {ks vs : List VV} {xs : List (NestedKey × Addr × Value)}, RDt K G w H ks vs xs → RDt K G w' H' ks vs xs
  | [], [], _, h => h
  | k :: ks, v :: vs, _, ⟨nk, b, u, y, r, e1, e2, e3, e4, e5, e6, e7⟩ => ⟨nk, b, u, y, r, e1, e2, e3, RV.monoQ e _ _ e4, e5, RV.monoQ e _ _ e6, RDt.monoQ e e7⟩
  | [], _ :: _, _, h => h.elim
  | _ :: _, [], _, h => h.elim
def Wd.withQ (w : Wd) (q : Nat → HO) : Wd := { w with Q := q }
theorem seesQ (q : Nat → HO) : SeesQ w H (w.withQ q) H := ⟨fun _ _ h m => ⟨h, m⟩, fun _ _ _ h => h, Nat.le_refl _⟩
theorem Sees.q (e : Sees w H w' H') : SeesQ w H w' H' := ⟨e.keep, e.refs, e.len⟩
theorem SeesQ.trans {w1 : Wd} {H1 : Hp} (a : SeesQ w H w' H') (b : SeesQ w' H' w1 H1) : SeesQ w H w1 H1 where
  keep := fun c o h m => let ⟨h1, m1⟩ := a.keep c o h m; b.keep c o h1 m1
  refs := fun n c hn h => a.refs n c hn (b.refs n c (Nat.lt_of_lt_of_le hn a.len) h)
  len := Nat.le_trans a.len b.len
theorem RO.withQ (q : Nat → HO) : ∀ (o : VO) (a : Addr), (∀ i, o = .lck i → q i = w.Q i) → RO K G w H o a → RO K G (w.withQ q) H o a
  | .lst xs, a, _, ⟨ys, h1, h2⟩ => ⟨ys, h1, RVs.monoQ (seesQ q) xs ys h2⟩
  | .dead, _, _, r => r.elim
  | .tbl _ _, a, _, ⟨h0, ps, h1, h2, h3⟩ => ⟨h0, ps, h1, h2, h3⟩
  | .dtt ks vs, a, _, ⟨kvs, h1, h2, h3⟩ => ⟨kvs, h1, h2, RVs.monoQ (seesQ q) vs _ h3⟩
  | .dct ks vs, a, _, ⟨kvs, h1, h2, h3⟩ => ⟨kvs, h1, RVs.monoQ (seesQ q) ks _ h2, RVs.monoQ (seesQ q) vs _ h3⟩
  | .ins c m vs, a, _, ⟨dx, h1, h3⟩ => ⟨dx, h1, h3.imp id fun ⟨p, ys, q1, r⟩ => ⟨p, ys, q1, RVo.monoQ (seesQ q) vs ys r⟩⟩
  | .sub true, a, _, h => h
  | .sub false, a, _, h => h
  | .dtr ks vs, a, _, ⟨ob, xs, h1, h2, h3, h4⟩ => ⟨ob, xs, h1, h2, h3, RDt.monoQ (seesQ q) h4⟩
  | .lck i, a, e, h => by
    have h : H a = some (w.Q i) := h
    show H a = some (q i)
    rw [e i rfl]
    exact h
def Wd.lock (w : Wd) (n : Nat) (o : HO) : Wd := w.withQ fun i => if i = n then o else w.Q i
end
section
variable {K : PySem.W.Frag} {g : Gx} {w : Wd} {H : Hp} {n : Nat} {a : Addr} {ob : Obj} {xs : Ents} {ks vs : List VV} {D : Ends} {W : WX}
theorem RF.withQ {w2 : Wd} {H2 : Hp} {sl : Sl} {σ : L2.St} (q : Nat → HO) (f : RF K g w2 H2 sl σ) : RF K g (w2.withQ q) H2 sl σ where
  len := f.len
  lenO := f.lenO
  val := fun i v e => let ⟨h1, y, h2, h3⟩ := f.val i v e; ⟨h1, y, h2, RV.monoQ (seesQ q) _ _ h3⟩
  own := fun i xs e => let ⟨p, ys, h1, h2, h3, h4⟩ := f.own i xs e; ⟨p, ys, h1, h2, h3, RVs.monoQ (seesQ q) _ _ h4⟩
  no := f.no
theorem RX.withQ {w2 : Wd} {H2 : Hp} {x : Exn} {cls : Value} {d : Option Addr} (q : Nat → HO) (r : RX K g w2 H2 x cls d) : RX K g (w2.withQ q) H2 x cls d := by
  obtain ⟨e, r⟩ := r
  refine ⟨e, ?_⟩
  cases hp : x.pay with
  | none => trivial
  | some v =>
    rw [hp] at r
    obtain ⟨dd, y, h1, h2, h3, h4⟩ := r
    exact ⟨dd, y, h1, h2, h3, RV.monoQ (seesQ q) _ _ h4⟩
end
section
variable {K : PySem.W.Frag} {g : Gx} {w : Wd} {H : Hp}
end
section
variable {X : Cx} {g : Gx} {W : WX} {tg iter : Expr} {body : List Stmt} {mb : MS} {mg : MG} {pos : Pos}
end
section
variable {X : Cx} {g : Gx} {W : WX} {tg iter elt : Expr} {ifs : List Expr} {scope : Scope} {pos : Pos} {mg : MG} {is : List Nat} {mt : MT} {me : ME}
end
end Mv
set_option Elab.async false
set_option linter.all false
set_option maxRecDepth 100000
set_option maxHeartbeats 1000000
namespace Mv
open PySem PySem.Spec PyProof.Rows L2
section
variable {K : PySem.W.Frag} {g : Gx} {w : Wd} {H : Hp} {h : VH}
theorem RSl.withQ {sv : Sv} {σ : L2.St} (q : Nat → HO) (r : RSl K g w H sv σ) : RSl K g (w.withQ q) H sv σ := ⟨r.len, fun i v e => let ⟨y, h1, h2⟩ := r.get i v e; ⟨y, h1, RV.monoQ (seesQ q) _ _ h2⟩⟩
end
section
variable {X : Cx} {g : Gx} {W : WX} {tg e : Expr} {body : List Stmt} {m : ME} {mb : MS} {mg : MG} {pos apos cpos tpos : Pos} {elts : List Expr} {kk : Nat}
end
section
variable {X : Cx} {g : Gx} {W : WX} {tg e elt : Expr} {ifs : List Expr} {scope : Scope} {m : ME} {mg : MG} {is : List Nat} {mt : MT} {me : ME} {pos apos cpos tpos : Pos} {elts : List Expr} {kk : Nat}
end
end Mv
set_option Elab.async false
set_option linter.all false
set_option maxRecDepth 100000
set_option maxHeartbeats 1000000
namespace Mv
open PySem PySem.Spec PyProof.Rows L2
section
variable {X : Cx} {g : Gx} {W : WX} {e o value : Expr} {es : List Expr} {m mo me : ME} {ma : MA} {pos pos' apos p : Pos} {f x : Str}
end
end Mv
set_option Elab.async false
set_option linter.all false
set_option maxRecDepth 100000
namespace Mv
open PySem PySem.Spec PyProof.Rows L2
section
variable {K : PySem.W.Frag} {g : Gx}
end
end Mv
set_option Elab.async false
set_option linter.all false
set_option maxRecDepth 100000
namespace Mv
open PySem PySem.Spec PyProof.Rows L2
def rTupK (K : PySem.W.Frag) : List V → Hp → VK → Prop := fun xs H Q => ∃ p ys, xs = [.ref p] ∧ SqL K H p ys ∧ ∀ l ob, H l = none → ob.dict = none → Q (.ref l) (upd H l (.frz ob (.tup ys)))
theorem call_tupK {X : Cx} : CallR X (.type "tuple") (rTupK X.K) := by
  intro pins s σ H xs us Q I r h
  obtain ⟨p, ys, rfl, hs, q⟩ := h
  rw [Vals.ref1 r]
  obtain ⟨its, rv, hl, hz⟩ := I.list hs
  have hz2 : ys.length ≤ sizeLine := by
    have := rv.length
    omega
  refine call_tuple_list hl.isList (fun h' hk => ?_) (by have := rv.length; simp; omega)
  have I1 : Inv X pins σ H { s with heap := h', toks := s.toks } := I.kept (t' := s.toks) hk
  have hf : H h'.objs.size = none := I1.hok.fresh (Nat.le_refl _)
  refine ⟨.ref h'.objs.size, upd H h'.objs.size (.frz { cls := .type "tuple", data := .seq its.toArray } (.tup ys)), I1.laid (t' := s.toks) (fun b u e => Heap.get?_push_of_some _ e) (Nat.le_refl _) ?_, rfl, q _ _ hf rfl⟩
  exact ⟨Heap.get?_push_size _ rfl, hz2, its, rv, ⟨_, Heap.get?_push_size _ rfl, rfl, _, rfl⟩⟩
def tupKF : VF := fun xs h => match xs with
  | [x] => if isLk x then (match seqOf h x with
    | some vs => .ok (.ktu vs) h
    | none => .bad) else .bad
  | _ => .bad
theorem tupKS {K : PySem.W.Frag} {g : Gx} : CallS K g (rTupK K) tupKF := by
  intro w h H σ W Q xs vs hk r p
  unfold tupKF at p
  split at p
  · split at p
    · rename_i x hl
      split at p
      · rename_i zs e
        obtain ⟨y, rfl, r1⟩ := r.one
        obtain ⟨a, ys, rfl, sq, rr⟩ := sqK_ok hk e r1
        rw [hl] at sq
        exact ⟨a, ys, rfl, sq, fun q ob hq hd => post_newk p hk rr hq hd⟩
      · exact p.elim
    · exact p.elim
  · exact p.elim
end Mv
set_option Elab.async false
set_option linter.all false
set_option maxRecDepth 100000
set_option maxHeartbeats 1000000
namespace Mv
open PySem PySem.Spec PyProof.Rows L2
section
variable {K : PySem.W.Frag} {g : Gx} {w : Wd} {H : Hp} {h : VH} {G : Gx}
end
section
variable {X : Cx} {g : Gx} {W : WX} {e : Expr} {m : ME} {p pos kpos cp : Pos} {j : Nat}
end
end Mv
set_option Elab.async false
set_option linter.all false
set_option maxRecDepth 100000
namespace Mv
open PySem PySem.Spec PyProof.Rows L2
section
variable {K : PySem.W.Frag} {g : Gx} {w : Wd} {H : Hp} {h : VH}
end
end Mv
set_option Elab.async false
set_option linter.all false
set_option maxRecDepth 100000
set_option maxHeartbeats 1000000
namespace PySem.W
open PySem
section
variable {prog : Program} {w : World} {A : Around} {E : Value → Shared → Prop} {s : Shared} {a b : Addr} {oa ob : Obj} {es es' : Array DictEntry} {ep ep' : Nat}
theorem same_nil {nm : String} {Q : Bool → Shared → Prop} (ha : (a == sysModules) = false) (hb : (b == sysModules) = false) (hoa : s.heap.get? a = some oa) (hda : oa.data = .dict es ep) (hob : s.heap.get? b = some ob) (hdb : ob.data = .dict es' ep') (h0 : es'.size = 0) (h : Q (decide (es.size = 0)) s) :
    wpAny (model prog w) A (Builtin.Dict.samePairs nm a b) Q E s := by
  unfold Builtin.Dict.samePairs Builtin.Dict.showsAll
  rw [if_neg (show ¬ (a == sysModules) = true by rw [ha]; exact Bool.false_ne_true), if_neg (show ¬ (b == sysModules) = true by rw [hb]; exact Bool.false_ne_true)]
  refine wpAny_bind (wpAny_pure (wpAny_bind (wpAny_pure ?_)))
  refine wpAny_bind (wpAny_dictEntries hoa hda ?_)
  dsimp only
  refine wpAny_bind (wpAny_dictEntries hob hdb ?_)
  by_cases hsz : es.size = es'.size
  case neg =>
    rw [if_pos (by simpa using hsz)]
    rw [decide_eq_false (by omega)] at h
    exact wpAny_bind (wpAny_rule (wpAny_pure h))
  case pos =>
    have hz : es.size = 0 := by omega
    rw [decide_eq_true hz] at h
    rw [if_neg (by rw [hsz]; simp)]
    refine wpAny_bind (wpAny_dictEpoch hoa hda ?_)
    refine wpAny_bind ?_
    rw [Std.Legacy.Range.forIn_eq_forIn_range']
    simp only [Std.Legacy.Range.size, Nat.sub_zero, Nat.add_sub_cancel, Nat.div_one, hz, List.range'_zero, List.forIn_nil]
    exact wpAny_pure (wpAny_pure h)
theorem eq_nil {Q : Value → Shared → Prop} (ha : (a == sysModules) = false) (hb : (b == sysModules) = false) (hoa : s.heap.get? a = some oa) (xa : oa.ExactDict) (hda : oa.data = .dict es ep) (hob : s.heap.get? b = some ob) (xb : ob.ExactDict) (hdb : ob.data = .dict es' ep') (h0 : es'.size = 0) (hu : A.units < cLine)
    (h : Q (.bool (decide (es.size = 0))) s) : wpAny (model prog w) A (compareOp .Eq (.ref a) (.ref b)) Q E s := by
  have ta : s.TypeIs (.ref a) "dict" := ⟨oa, hoa, xa.1⟩
  have tb : s.TypeIs (.ref b) "dict" := ⟨ob, hob, xb.1⟩
  refine wpAny_richCompare_same_room (op := .Eq) ta tb PySem.F.slot_dict_eq (wpAny_call_entry PySem.F.slot_dict_eq ta PySem.F.entry_dict_eq ?_ (PySem.F.args_dict_eq_2 _ _)) hu
  show wpAny _ _ (Builtin.Dict.dictSlotArgs "__eq__" ⟨[.ref a, .ref b], []⟩ >>= _) _ _ s
  refine wpAny_bind ?_
  unfold Builtin.Dict.dictSlotArgs
  refine wpAny_bind (wpAny_notOrdered_dict ta ?_)
  show wpAny _ _ (pure (Value.ref a, Value.ref b)) _ _ s
  refine wpAny_pure ?_
  refine wpAny_bind (wpAny_isInstance (T := "dict") tb PySem.F.sub_dict_dict ?_)
  simp only [Bool.not_true, Bool.false_eq_true, if_false]
  refine wpAny_bind (wpAny_pure (wpAny_bind (wpAny_pure ?_)))
  refine wpAny_bind (same_nil ha hb hoa hda hob hdb h0 ?_)
  refine wpAny_pure ⟨_, rfl, ?_, ?_⟩
  · exact fun x => nomatch x
  · simpa using h
end
end PySem.W
namespace Mv
open PySem PySem.Spec PyProof.Rows L2
section
variable {X : Cx} {k : Nat}
end
section
variable {X : Cx} {g : Gx} {W : WX} {a b : Expr} {ma mb : ME} {pos : Pos} {k : Nat}
end
end Mv
set_option Elab.async false
set_option linter.all false
set_option maxRecDepth 100000
namespace Mv
open PySem PySem.Spec PyProof.Rows L2
theorem RVs.eraseIdx {K : PySem.W.Frag} {g : Gx} {w : Wd} {H : Hp} : ∀ {xs : List VV} {ys : List V} (k : Nat), RVs K g w H xs ys → RVs K g w H (xs.eraseIdx k) (ys.eraseIdx k)
  | [], ys, k, r => by
    simp only [RVs] at r
    subst r
    simp [RVs]
  | x :: xs, ys, k, r => by
    simp only [RVs] at r
    obtain ⟨y, l, rfl, h1, h2⟩ := r
    cases k with
    | zero => simpa using h2
    | succ k =>
      simp only [List.eraseIdx_cons_succ, RVs]
      exact ⟨_, _, rfl, h1, RVs.eraseIdx k h2⟩
def popR (mo : ME) (ma : MA) : ME := fun sv h => (mo sv h).bind fun x h1 => match x with
  | .ref n => (match h1[n]? with
    | some (.lst _) => (ma sv h1).bind fun vs h2 => match vs with
      | [.int i] => (match h2[n]? with
        | some (.lst xs) => if fits xs.length && decide (0 ≤ i) then (match xs[i.toNat]? with
          | some v => .ok v (h2.set n (.lst (xs.eraseIdx i.toNat)))
          | none => .bad) else .bad
        | _ => .bad)
      | _ => .bad
    | _ => .bad)
  | _ => .bad
section
variable {X : Cx} {g : Gx} {W : WX} {o e : Expr} {mo : ME} {ma : MA} {apos cpos : Pos}
theorem re_popR (ho : RE X g W o mo) (ha : RA X g W [e] ma) (hbase : attributeBase o "pop" X.env (eval o X.env) = eval o X.env := by rfl)
    (hfew : ((backTo cpos (starEach [e] X.env)).all (fun x => !x.1) && (backToKw cpos (keywordEach [] X.env)).all (fun x => x.1.isSome) && decide (([e] : List Expr).length + ([] : List Keyword).length + (if ([] : List Keyword).isEmpty then 0 else 1) < 30)) = true := by rfl)
    (hline : (apos.endLine == cpos.line) = true := by rfl) (hst : starEach [e] X.env = (false, eval e X.env) :: starEach [] X.env := by rfl) (hplain : (backTo cpos (starEach [] X.env)).any (·.1) = false := by rfl) :
    RE X g W (.Call (.Attribute o "pop" apos) [e] [] cpos) (popR mo ma) :=
  pe_imp (pe_bm PySem.F.plainAttrs_list PySem.F.slot_list_pop PySem.F.type_list_pop (fun pins s σ H x xs v us Q => mt_popAt pins s σ H x xs v us Q) ho ha hbase hfew hline hst hplain) fun σ H Q ⟨w, sv, h, rs, hk, pp⟩ => by
    refine seqG' rs hk pp fun w1 H1 h1 v y e1 rs1 k1 r1 p1 => ?_
    split at p1
    · rename_i n
      split at p1
      · rename_i zs ez
        obtain ⟨a, ys, rfl, hn, hl, _⟩ := ref_get k1 r1 ez
        refine ⟨.inl ⟨rfl, ys, SqL.of hl⟩, ?_⟩
        refine seqG' rs1 k1 p1 fun w2 H2 h2 vs us e2 rs2 k2 r2 p2 => ?_
        split at p2
        · rename_i i
          split at p2
          · rename_i xs ex
            split at p2
            · rename_i hf
              split at p2
              · rename_i v ev
                obtain ⟨hf, hi⟩ := Bool.and_eq_true_iff.mp hf
                have hi := of_decide_eq_true hi
                have hz := fits_le hf
                obtain ⟨a2, ys2, ea, hn2, hl2, rx⟩ := ref_get k2 (RV.mono e2.sees _ _ r1) ex
                cases ea
                simp only [relVs, RVs, RV] at r2
                obtain ⟨u, _, rfl, rfl, rfl⟩ := r2
                obtain ⟨y, ey, ry⟩ := RVs.get rx _ _ ev
                have hlt : i.toNat < xs.length := (List.getElem?_eq_some_iff.mp ev).1
                have hlen := RVs.length rx
                have hs := sizeLine_eq
                refine ⟨a, ys2, i, i.toNat, y, rfl, rfl, hl2, by omega, by omega, ?_, ey, ?_⟩
                · have hl : i < (ys2.length : Int) := by omega
                  simp [seqIndex?, show ¬ i < 0 by omega, hi, hl]
                · refine p2 w2 _ y (refset_extE k2 hn2) (k2.refset hn2 (RVs.eraseIdx _ rx)) ?_
                  have se := (refset_extE (o := .lst (ys2.eraseIdx i.toNat)) k2 hn2)
                  exact RV.mono se.sees _ _ ry
              · exact p2.elim
            · exact p2.elim
          · exact p2.elim
        · exact p2.elim
      · exact p1.elim
    · exact p1.elim
end
section
variable {X : Cx} {g : Gx} {W : WX} {e : Expr} {es : List Expr} {ma : MA} {p pos : Pos} {x : Str} {j k : Nat} {f : Addr} {ps : List Str} {mf : MF}
end
end Mv
set_option Elab.async false
set_option linter.all false
set_option maxRecDepth 100000
set_option maxHeartbeats 1000000
namespace Mv
open PySem PySem.Spec PyProof.Rows L2
theorem perm_map_ex {α β : Type} {f : α → β} : ∀ {vs : List β} {l : List α}, vs.Perm (l.map f) → ∃ l1 : List α, l1.Perm l ∧ vs = l1.map f
  | [], l, p => by
    have e := p.length_eq
    rw [List.length_map] at e
    cases l with
    | nil => exact ⟨[], List.Perm.refl _, rfl⟩
    | cons _ _ => simp at e
  | v :: r, l, p => by
    obtain ⟨x, hx, e⟩ := List.mem_map.mp (p.mem_iff.mp List.mem_cons_self)
    obtain ⟨l1, l2, rfl⟩ := List.append_of_mem hx
    have p2 : (l1 ++ x :: l2).Perm (x :: (l1 ++ l2)) := List.perm_middle
    have p3 : (v :: r).Perm (v :: (l1 ++ l2).map f) := by
      refine p.trans ((p2.map f).trans ?_)
      rw [List.map_cons, e]
    obtain ⟨l3, q1, q2⟩ := perm_map_ex (f := f) (List.Perm.cons_inv p3)
    exact ⟨x :: l3, (q1.cons x).trans p2.symm, by rw [List.map_cons, e, q2]⟩
theorem sqT_upd {K : PySem.W.Frag} {H : Hp} {a q : Addr} {o : HO} {xs : List V} (hq : H q = none) (h : SqT K H a xs) : SqT K (upd H q o) a xs := by
  rcases h with (h | ⟨u, h⟩) | h
  · refine .inl (.inl ?_)
    rw [upd_ne (fun z => by rw [z, hq] at h; cases h)]
    exact h
  · refine .inl (.inr ⟨u, ?_⟩)
    rw [upd_ne (fun z => by rw [z, hq] at h; cases h)]
    exact h
  · exact .inr h
def dedK : List (List Int) → List (List Int)
  | [] => []
  | x :: xs => if (dedK xs).contains x then dedK xs else x :: dedK xs
theorem mem_dedK (z : List Int) : ∀ l : List (List Int), z ∈ dedK l ↔ z ∈ l
  | [] => by simp [dedK]
  | x :: xs => by
    have ih := mem_dedK z xs
    unfold dedK
    split
    · rename_i c
      rw [List.contains_iff_mem] at c
      rw [ih, List.mem_cons]
      constructor
      · exact .inr
      · rintro (e | h)
        · rw [e]; exact (mem_dedK x xs).mp c
        · exact h
    · rw [List.mem_cons, List.mem_cons, ih]
theorem dedK_nodup : ∀ l : List (List Int), (dedK l).Nodup
  | [] => List.nodup_nil
  | x :: xs => by
    unfold dedK
    split
    · exact dedK_nodup xs
    · rename_i c
      rw [List.contains_iff_mem] at c
      exact List.nodup_cons.mpr ⟨c, dedK_nodup xs⟩
section
variable {X : Cx}
theorem sorted_colG {pins : List (Addr × Obj)} {σ : L2.St} {H : Hp} {s : Shared} {u : Value} {C : List V → List (List Int) → Prop} {Q : VK} (hu : X.A.units + 64 < cLine)
    (hcol : ∀ R : List Value → Shared → Prop, (∀ (its : List Value) (xs : List V) (ks : List (List Int)) (s1 : Shared), Inv X pins σ H s1 → Vals xs its → TupK X.K H xs ks → its.length ≤ sizeLine → ((∃ r, ks = [] :: r) ∨ ∀ n ∈ ks, n ≠ []) → C xs ks → R its s1) → wpAny (model X.prog X.w) X.A.in1 (collect u) R X.xe s)
    (q : ∀ (xs : List V) (ks : List (List Int)) (ys : List V) (kys : List (List Int)) (p : Addr), C xs ks → ys.length = kys.length → (∀ z ∈ ys.zip kys, z ∈ xs.zip ks) → kys.Perm ks → SrtK kys → H p = none → Q (.ref p) (upd H p (.lst ys))) :
    wpAny (model X.prog X.w) X.A (call (.builtin "sorted") [u]) (EP X pins σ Q) X.xe s := by
  refine Calls.call_function_entry PyProof.Rows.kind_sorted PyProof.Rows.plain_sorted PyProof.Rows.entry_sorted (PyProof.Rows.args_sorted1 _) ?_
  unfold Builtin.«sorted»
  refine wpAny_bind (m := checkCount "sorted" 1 1 _) (wpAny_pure ?_)
  refine wpAny_bind (hcol _ fun its xs ks s1 I1 rv tk hz hk hC => ?_)
  obtain ⟨h1, h2, h3, h4⟩ := tupK_vals I1 rv tk
  refine wpAny_bind (wpAny_newList ?_ hz)
  have hoL : (s1.heap.push (seqObj "list" its.toArray 0)).get? s1.heap.objs.size = some (seqObj "list" its.toArray 0) := Heap.get?_push_size _ rfl
  have keep : ∀ b o, s1.heap.get? b = some o → b ≠ s1.heap.objs.size ∧ (s1.heap.push (seqObj "list" its.toArray 0)).get? b = some o := fun b o e => ⟨Nat.ne_of_lt (Heap.lt_size e), Heap.get?_push_of_some _ e⟩
  show wpAny _ _ _ _ _ { s1 with heap := s1.heap.push (seqObj "list" its.toArray 0) }
  refine wpAny_bind (wpAny_holding (wpAny_call_entry PyProof.Rows.slot_list_sort ⟨_, hoL, rfl⟩ PyProof.Rows.entry_list_sort
    (SrtO.list_sort_ord (s := { s1 with heap := s1.heap.push (seqObj "list" its.toArray 0) }) (NtL.swo_lexL (TS.intsOf s1.heap)) hoL hz (fun l2 => ?_) fun out hs hb => ⟨_, rfl, ?_⟩) (PyProof.Rows.args_list_sort _)))
  · refine tups_sortable (A := X.A.in1.in1) (s := { s1 with heap := s1.heap.push (seqObj "list" its.toArray 0) }) (by omega) (show X.A.units + 1 + 1 < cLine by omega) (fun v hv => (h1 v hv).keeps fun c o e _ => (keep c o e).2) ?_ fun o e => ?_
    · rcases hk with ⟨rest, hk⟩ | hk
      · left
        cases its with
        | nil => simp at l2
        | cons v0 rest2 =>
          rw [hk, List.map_cons] at h2
          exact ⟨v0, rest2, rfl, (List.cons.inj h2).1⟩
      · right
        intro v hv
        exact hk _ (by rw [← h2]; exact List.mem_map.mpr ⟨v, hv, rfl⟩)
    · rw [hoL] at e
      cases e
      intro c
      exact absurd (Value.type.inj c) (by decide)
  · have hm : ∀ v ∈ out, v ∈ its := fun v hv => hb.perm.mem_iff.mp hv
    have h5 : ∀ v ∈ out, ∃ t, v = Value.ref t := fun v hv => h4 v (hm v hv)
    obtain ⟨n, hn⟩ := PyProof.Rows.sortedHeap_at (vs := its) (out := out.toArray) hoL
    refine wpAny_pure ⟨_, rfl, .ref s1.heap.objs.size, upd H s1.heap.objs.size (.lst (out.map backV)), I1.laid (t' := s1.toks) (fun b o e => ?_) (Nat.le_refl _) ⟨?_, out, n, L2.vals_back h5, hn⟩, rfl, q xs ks (out.map backV) (out.map (TS.intsOf s1.heap)) _ hC (by simp) ?_ ?_ ?_ (I1.hok.fresh (Nat.le_refl _))⟩
    · have hb : b < s1.heap.objs.size := Heap.lt_size e
      rw [PyProof.Rows.sortedHeap_old (Nat.ne_of_lt hb) (by rw [size_push']; exact Nat.lt_succ_of_lt hb)]
      exact Heap.get?_push_of_some _ e
    · rw [List.length_map, hb.perm.length_eq]
      exact hz
    · intro z hz
      rw [List.zip_map'] at hz
      obtain ⟨v, hv, e⟩ := List.mem_map.mp hz
      rw [h3, ← h2, List.zip_map']
      exact List.mem_map.mpr ⟨v, hm v hv, e⟩
    · rw [← h2]
      exact hb.perm.map _
    · exact List.pairwise_map.mpr hs
theorem tupK_of {K : PySem.W.Frag} {H : Hp} : ∀ (ps : List (Addr × List Int)), (∀ p ∈ ps, SqT K H p.1 (p.2.map V.int)) → TupK K H (ps.map fun p => V.ref p.1) (ps.map fun p => p.2)
  | [], _ => trivial
  | p :: ps, h => ⟨⟨_, rfl, h p List.mem_cons_self⟩, tupK_of ps fun q hq => h q (List.mem_cons_of_mem _ hq)⟩
theorem tupK_pairs {K : PySem.W.Frag} {H : Hp} : ∀ {xs : List V} {ks : List (List Int)}, TupK K H xs ks → ∃ ps : List (Addr × List Int), xs = ps.map (fun p => V.ref p.1) ∧ ks = ps.map (fun p => p.2) ∧ ∀ p ∈ ps, SqT K H p.1 (p.2.map V.int)
  | [], [], _ => ⟨[], rfl, rfl, fun p hp => (by cases hp)⟩
  | [], _ :: _, t => t.elim
  | _ :: _, [], t => t.elim
  | x :: xs, n :: ns, ⟨⟨t, e, hq⟩, tk⟩ => by
    obtain ⟨ps, e1, e2, e3⟩ := tupK_pairs tk
    refine ⟨(t, n) :: ps, by rw [e, e1]; rfl, by rw [e2]; rfl, fun p hp => ?_⟩
    rcases List.mem_cons.mp hp with z | z
    · rw [z]; exact hq
    · exact e3 p z
def rSortedSK (K : PySem.W.Frag) (P : Program) (w : World) : List V → Hp → VK → Prop := fun vs H Q => ∃ (a : Addr) (L : List (Addr × List Int)), vs = [V.ref a] ∧ H a = some (SetTO P w a L) ∧ (∀ p ∈ L, SqT K H p.1 (p.2.map V.int)) ∧ ((∀ p ∈ L, p.2 = []) ∨ ∀ p ∈ L, p.2 ≠ []) ∧
  ∀ (ys : List V) (kys : List (List Int)) (p : Addr), ys.length = kys.length → (∀ z ∈ ys.zip kys, z ∈ L.map fun p => (V.ref p.1, p.2)) → kys.Perm (L.map fun p => p.2) → (L.map fun p => p.2).Nodup → SrtK kys → H p = none → Q (.ref p) (upd H p (.lst ys))
theorem cr_sortedSK (hc : X.calm = true) (hu : X.A.units + 64 < cLine) : CallR X (.builtin "sorted") (rSortedSK X.K X.prog X.w) := by
  intro pins s σ H vs us Q I r h
  obtain ⟨a, L, rfl, ha, hk, hne, q⟩ := h
  have R0 : SetT0 X.prog X.w s.heap a L := (I.hok a _ ha).1
  obtain ⟨es, ep, t, R⟩ := R0.full fun p hp => I.isT (hk p hp)
  rw [Vals.ref1 r]
  obtain ⟨o, ho, hex, hd⟩ := R.ob
  have hsz := R.size
  have hfew := R.few
  have hes : es.toList.map (·.2) = L.map fun q => Value.ref q.1 := by
    rw [R.rows]
    unfold rowsOf
    rw [List.map_map] <;> rfl
  refine sorted_colG (H := H) (C := fun xs ks => ∃ L1 : List (Addr × List Int), L1.Perm L ∧ xs = L1.map (fun p => V.ref p.1) ∧ ks = L1.map (fun p => p.2)) hu (fun R' hR => ?_) fun xs ks ys kys p ⟨L1, pm, e1, e2⟩ hl hz hp hs hq => ?_
  · refine collect_set (A := X.A.in1) (I.ok.hd hc) ⟨o, ho, hex.1, hd⟩ R.fits (by unfold scanBound; omega) R.tab.ris R.led fun s1 vs k1 hz g1 o1 pm => ?_
    rw [hes] at pm
    obtain ⟨L1, p1, e1⟩ := perm_map_ex pm
    have I1 : Inv X pins σ H s1 := I.call' (ch := []) o1 (Un.kept k1) (I.hok.kept k1) (by rw [g1]; exact I.bare) (fun _ z => nomatch z)
    have hv : Vals (L1.map fun p => V.ref p.1) vs := by rw [e1]; exact vals_of_refs L1
    have hlen : vs.length = L.length := by rw [pm.length_eq, List.length_map]
    refine hR vs (L1.map fun p => V.ref p.1) (L1.map fun p => p.2) s1 I1 hv (tupK_of L1 fun p hp => hk p (p1.mem_iff.mp hp)) (by rw [hlen, sizeLine_eq]; omega) ?_ ⟨L1, p1, rfl, rfl⟩
    rcases hne with h0 | h0
    · cases L1 with
      | nil => exact .inr fun n hn => (by cases hn)
      | cons p r =>
        refine .inl ⟨r.map fun p => p.2, ?_⟩
        rw [List.map_cons, h0 p (p1.mem_iff.mp List.mem_cons_self)]
    · refine .inr fun n hn => ?_
      obtain ⟨p, hp, e⟩ := List.mem_map.mp hn
      rw [← e]
      exact h0 p (p1.mem_iff.mp hp)
  · subst e1 e2
    refine q ys kys p hl (fun z hz' => ?_) (hp.trans (pm.map _)) R.nd hs hq
    have := hz z hz'
    rw [List.zip_map'] at this
    exact (pm.map _).mem_iff.mp this
end
def FewK (ks : List (Addr × List Int)) : Prop := ∀ L : List (Addr × List Int), (∀ p ∈ L, p ∈ ks) → (L.map fun p => p.2).Nodup → L.length < 63
section
variable {P : Program} {w : World} {A : Around} {E : Value → Shared → Prop} {s : Shared}
theorem put_all {I : Addr} {fp wr : List Addr} {G : Array GenState → Array GenState → Prop} {n : Nat} {Pv : Nat → Value → Prop} {St : Nat → Shared → Prop} {R : Result → Shared → Prop} {S : Addr} {ks : List (Addr × List Int)} {h0 : Heap}
    (W : WalksS P w A.in1 I fp wr G n Pv St) (away : S ∉ fp) (hn : n = ks.length) (few : FewK ks) (hval : ∀ i v, Pv i v → ∃ p, ks[i]? = some p ∧ v = .ref p.1)
    (hk : ∀ p ∈ ks, IsT P w h0 p.2 p.1) (hS0 : h0.get? S = none) (hw0 : ∀ b ∈ wr, h0.get? b = none) (hu : A.in1.units < cLine) (left : Nat) :
    ∀ (i : Nat) (s : Shared), left = n - i → i ≤ n → St i s → (∀ b o, h0.get? b = some o → s.heap.get? b = some o) → (∃ L es ep t, SetTR P w s.heap S L es ep t ∧ Got ks i L) →
      (∀ s' L es ep t, Moved (S :: wr) G s s' → SetTR P w s'.heap S L es ep t → Got ks n L → (∀ b o, h0.get? b = some o → s'.heap.get? b = some o) → R (.ok (.ret .none)) s') →
      codeAny (model P w) A (.builtin "set.update.loop" ⟨[.ref S, .ref I], []⟩) R s := by
  have notw : S ∉ wr := fun z => away (W.sub _ z)
  have wide : ∀ b ∈ wr, b ∈ S :: wr := fun b hb => List.mem_cons_of_mem _ hb
  have stay : ∀ {s1 s2 : Shared}, Moved wr G s1 s2 → (∀ b o, h0.get? b = some o → s1.heap.get? b = some o) → ∀ b o, h0.get? b = some o → s2.heap.get? b = some o := fun mv k b o e =>
    mv.heap b o (fun z => by rw [hw0 b z] at e; cases e) (k b o e)
  induction left with
  | zero =>
    intro i s e0 le st kp ⟨L, es, ep, t, R0, g⟩ done
    obtain rfl : i = n := by omega
    refine codeAny_builtin F.entry_set_update_loop ?_
    rw [Around.under_plainId F.plain_set_update_loop _]
    show wpAny _ A.in1 (pyNext (.ref I) >>= _) _ _ s
    refine wpAny_bind (W.done s _ _ st fun s2 mv => ?_)
    show wpAny _ A.in1 (ret Value.none) _ _ s2
    have kp2 := stay mv kp
    exact wpAny_pure (done s2 L es ep t (mv.mono wide) (R0.keep (fun o e => mv.heap S o notw e) fun p hp => isT_keep (hk p (List.mem_of_mem_take (g.sub p hp))) kp2) g kp2)
  | succ left ih =>
    intro i s e0 le st kp ⟨L, es, ep, t, R0, g⟩ done
    refine codeAny_builtin F.entry_set_update_loop ?_
    rw [Around.under_plainId F.plain_set_update_loop _]
    show wpAny _ A.in1 (pyNext (.ref I) >>= _) _ _ s
    refine wpAny_bind (W.item i s _ _ (by omega) st fun v s2 pv st2 mv => ?_)
    obtain ⟨p, hp, rfl⟩ := hval i v pv
    have kp2 := stay mv kp
    have inks : ∀ q ∈ L, q ∈ ks := fun q hq => List.mem_of_mem_take (g.sub q hq)
    have R1 : SetTR P w s2.heap S L es ep t := R0.keep (fun o e => mv.heap S o notw e) fun q hq => isT_keep (hk q (inks q hq)) kp2
    have pT : IsT P w s2.heap p.2 p.1 := isT_keep (hk p (List.mem_of_getElem? hp)) kp2
    have room := few L inks R1.nd
    show wpAny _ A.in1 (holding [Value.ref p.1] (setAdd S (.ref p.1)) >>= _) _ _ s2
    refine wpAny_bind (wpAny_holding ?_)
    unfold setAdd
    refine wpAny_holding (wpAny_bind (wpAny_pyHash_tuple hu pT ?_))
    refine add_at (s := { s2 with toks := s2.toks + (p.2.length + 1) }) R1 pT hu (by omega) fun b h3 L3 es3 ep3 t3 only R3 old new => ?_
    have g3 : Got ks (i + 1) L3 := (Classical.em (p.2 ∈ L.map (·.2))).elim (fun c => by rw [old c]; exact g.same hp c) fun c => g.more hp (new c)
    have kp3 : ∀ b o, h0.get? b = some o → h3.get? b = some o := fun b o e => (only.2 b (fun z => by rw [z, hS0] at e; cases e)).trans (kp2 b o e)
    have st3 := W.frame (i + 1) s2 h3 (s2.toks + (p.2.length + 1)) st2 (Nat.le_add_right _ _) fun b hb o e => by
      rw [only.2 b (fun z : b = S => away (by rw [← z]; exact hb))]
      exact e
    refine wpAny_pure ⟨plainId_quiet F.plain_set_update_loop _, ih (i + 1) _ (by omega) (by omega) st3 kp3 ⟨L3, es3, ep3, t3, R3, g3⟩ fun s4 L4 es4 ep4 t4 mv4 R4 g4 kp4 => ?_⟩
    refine done s4 L4 es4 ep4 t4 (Moved.trans W.gtrans ((mv.mono wide).then_heap (Nat.le_add_right _ _) fun b o hb e => ?_) mv4) R4 g4 kp4
    rw [only.2 b (fun z : b = S => hb (by rw [z]; exact List.mem_cons_self))]
    exact e
abbrev set0 (w : World) : Obj := { cls := .type "set", dict := none, data := .set #[] 0 (.fresh 0 0 (!w.params.followText "set-order")) }
set_option maxHeartbeats 3200000 in
theorem call_setK {l : Addr} {items : Array Value} (ks : List (Addr × List Int)) {Q : Value → Shared → Prop} (hh : A.handled = none) (hl : s.heap.IsList l items) (hit : items.toList = ks.map fun p => Value.ref p.1)
    (hk : ∀ p ∈ ks, IsT P w s.heap p.2 p.1) (few : FewK ks) (hu : A.units + 3 < cLine)
    (h : ∀ (h' : Heap) (tk : Nat) L es ep t, SetTR P w h' s.heap.objs.size L es ep t → Got ks ks.length L → (∀ b o, s.heap.get? b = some o → h'.get? b = some o) → Q (.ref s.heap.objs.size) { s with heap := h', toks := tk }) :
    wpAny (model P w) A (call (.type "set") [.ref l]) Q E s := by
  have hisz : items.size = ks.length := by
    rw [← Array.length_toList, hit, List.length_map]
  obtain ⟨c, tl, hmro⟩ := F.called_set.mro
  have hmade := F.called_set.made
  have hsub := F.called_set.sub
  refine wpAny_call (codeAny_of_tree ?_)
  show wpAny _ _ (callAny (.type "set") _) _ _ _
  refine wpAny_pure ⟨Code.quiet_builtin _ (by decide +kernel), codeAny_builtin F.entry_type_call ?_⟩
  rw [Around.under_plain (weight_type_call_type "set" [.ref l] []) rfl]
  have t1 := F.called_set.notType
  have t2 := F.called_set.canCreate
  have t3 := F.typeCall_set_1 (.ref l)
  repeat (any_goals (first | assumption | wp_step))
  refine codeAny_mono (code_set_led1 (.ref l) (E := E) (Q₁ := fun obj s₁ => obj = .ref s.heap.objs.size ∧ s₁ = { s with heap := s.heap.push (set0 w) }) ⟨rfl, rfl⟩) fun r s₁ hr => ?_
  cases r with
  | error e => exact hr
  | ok fl =>
    cases fl with
    | ret obj =>
      obtain ⟨rfl, rfl⟩ := hr
      have hS : (s.heap.push (set0 w)).get? s.heap.objs.size = some (set0 w) := Heap.get?_push_size _ rfl
      have hT : Shared.TypeIs { s with heap := s.heap.push (set0 w) } (.ref s.heap.objs.size) "set" := ⟨_, hS, rfl⟩
      have t4 := F.called_set.init.lookup
      have t5 := F.called_set.init.bind (.ref s.heap.objs.size)
      repeat (any_goals (first | assumption | wp_step))
      refine codeAny_mono (codeAny_call_builtin (R := wants (fun r s₂ => r = .none ∧ ∃ h' tk L es ep t, s₂ = { s with heap := h', toks := tk } ∧ SetTR P w h' s.heap.objs.size L es ep t ∧ Got ks ks.length L ∧ (∀ b o, s.heap.get? b = some o → h'.get? b = some o)) E)
        F.called_set.init.plain F.entry_set_init (check_set_init_1 hT ?_)) fun r₂ s₂ hr₂ => ?_
      · obtain ⟨⟨ocls, odict, odata, oslots⟩, hol, hcl, nl, hdl⟩ := hl
        simp only at hcl hdl
        subst hcl hdl
        have lo : (s.heap.push (set0 w)).get? l = some { cls := .type "list", dict := odict, data := .seq items nl, slots := oslots } := Heap.get?_push_of_some _ hol
        have u1 := F.sub_list_set
        have u2 := F.sub_list_frozenset
        have u3 : (Value.type "list" == Value.type "dict") = false := by decide
        have hl1 : (s.heap.push (set0 w)).IsList l items := ⟨_, lo, rfl, nl, rfl⟩
        unfold Builtin.«set.__init__» noKeywords Builtin.Frozenset.updateFrom
        generalize hPI : pyIter = PI
        wp_walk
        subst hPI
        refine wpAny_pyIter_list hl1 (wpAny_bind (wpAny_runValue ?_))
        have lt : l < s.heap.objs.size := Heap.lt_size hol
        have none_of : ∀ b, s.heap.objs.size ≤ b → s.heap.get? b = none := fun b hb => by
          cases q : s.heap.get? b with
          | none => rfl
          | some o => exact absurd (Nat.lt_of_lt_of_le (Heap.lt_size q) hb) (Nat.lt_irrefl _)
        refine put_all (P := P) (w := w) (S := s.heap.objs.size) (ks := ks) (h0 := s.heap) ((Walks.list (by simp [hh]) _ l (by rw [Heap.size_push]; exact Nat.ne_of_lt (Nat.lt_succ_of_lt lt)) items).toS) ?_ hisz few (fun i v hv => ?_) hk (none_of _ (Nat.le_refl _)) (fun b hb => none_of b ?_) hu (items.size - 0) 0 _ rfl (Nat.zero_le _)
          ⟨⟨_, Heap.get?_push_size _ rfl, rfl, rfl⟩, (hl1.push _)⟩ (fun b o e => Heap.get?_push_of_some _ (Heap.get?_push_of_some _ e)) ⟨[], #[], 0, _, setTR_fresh (Heap.get?_push_of_some _ hS), Got.zero ks⟩ fun s' L es ep t hm R1 g1 kp => ?_
        · rw [Heap.size_push]
          simp only [List.mem_cons, List.not_mem_nil, or_false, not_or]
          exact ⟨Nat.ne_of_lt (Nat.lt_succ_self _), Nat.ne_of_gt lt⟩
        · have q : items.toList[i]? = some v := by rw [Array.getElem?_toList]; exact hv
          rw [hit, List.getElem?_map] at q
          cases hq : ks[i]? with
          | none => rw [hq] at q; cases q
          | some p =>
            rw [hq] at q
            exact ⟨p, rfl, (Option.some.inj q).symm⟩
        · rw [List.mem_singleton.mp hb, Heap.size_push]
          exact Nat.le_succ _
        · obtain ⟨h', g2, d', tk', os'⟩ := s'
          obtain rfl : g2 = s.gens := hm.gens
          obtain rfl : d' = s.drawn := hm.drawn
          obtain rfl : os' = s.os := hm.os
          show wpAny _ _ _ _ _ _
          refine wpAny_pure ?_
          show wpAny _ _ (ret Value.none) _ _ _
          rw [hisz] at g1
          exact wpAny_pure ⟨rfl, h', tk', L, es, ep, t, rfl, R1, g1, kp⟩
      · cases r₂ with
        | error e => exact hr₂
        | ok fl₂ =>
          cases fl₂ with
          | ret r =>
            obtain ⟨rfl, h', tk, L, es, ep, t, rfl, R1, g1, k1⟩ := hr₂
            repeat (any_goals (first | assumption | wp_step))
            exact h _ _ _ _ _ _ R1 g1 k1
          | _ => exact hr₂.elim
    | _ => exact hr.elim
end
def rSetOfK (K : PySem.W.Frag) (P : Program) (w : World) : List V → Hp → VK → Prop := fun xs H Q => ∃ (l : Addr) (ks : List (Addr × List Int)), xs = [V.ref l] ∧ SqL K H l (ks.map fun p => V.ref p.1) ∧ (∀ p ∈ ks, SqT K H p.1 (p.2.map V.int)) ∧ FewK ks ∧
  ∀ a L, H a = none → (∀ p ∈ L, p ∈ ks) → (∀ p ∈ ks, p.2 ∈ L.map (·.2)) → Q (.ref a) (upd H a (SetTO P w a L))
theorem cr_setOfK {X : Cx} (hc : X.calm = true) (hu : X.A.units + 64 < cLine) : CallR X (.type "set") (rSetOfK X.K X.prog X.w) := by
  intro pins s σ H xs us Q I r h
  obtain ⟨l, ks, rfl, hl, hk, hf, q⟩ := h
  rw [Vals.ref1 r]
  obtain ⟨its, rv, pl, hz⟩ := I.list hl
  refine call_setK (P := X.prog) (w := X.w) ks (I.ok.hd hc) pl.isList (by simpa using refs_of_vals rv) (fun p hp => I.isT (hk p hp)) hf (by omega) fun h' tk L es ep t R g k => ?_
  refine ⟨.ref s.heap.objs.size, upd H s.heap.objs.size (SetTO X.prog X.w s.heap.objs.size L), I.laid (t' := tk) k (Nat.le_refl _) (setTO_new R.t0), rfl, q _ L (I.hok.fresh (Nat.le_refl _)) (fun p hp => List.mem_of_mem_take (g.sub p hp)) fun p hp => g.all p (by rw [List.take_length]; exact hp)⟩
def eqKs (ks : List (List Int)) : Bool := (ks.all fun n => n.isEmpty) || ks.all fun n => !n.isEmpty
def sortedSetTF : VF := fun xs h => match xs with
  | [.lst ys] => (match tupKs ys with
    | some ks => if (dedK ks).length < 63 && eqKs ks then .ok (.lst ((sortK (dedK ks)).map tupV)) h else .bad
    | none => .bad)
  | [.ktu ys] => (match allIt ys with | some ns => if ns.length < 63 then .ok (.lst ((sortU ns).map VV.int)) h else .bad | none => .bad)
  | _ => sortedSetF xs h
section
variable {X : Cx} {g : Gx} {W : WX} {e : Expr} {ma : MA} {p p2 p3 pos : Pos} {k : Nat}
theorem re_sortedSetT (hc : X.calm = true) (hr : Room k X.A) (hg : Gl X "sorted") (hm : X.mg "sorted" = none) (hg2 : Gl X "set") (hm2 : X.mg "set" = none) (ha : RA X g W [e] ma) (hs : starEach [e] X.env = (false, eval e X.env) :: starEach [] X.env := by rfl)
    (hs2 : starEach [.Call (.Name "set" p2) [e] [] p3] X.env = (false, eval (.Call (.Name "set" p2) [e] [] p3) X.env) :: starEach [] X.env := by rfl) (hpl : (backTo p3 (starEach [] X.env)).any (·.1) = false := by rfl) (hpl2 : (backTo pos (starEach [] X.env)).any (·.1) = false := by rfl) :
    RE X g W (.Call (.Name "sorted" p) [.Call (.Name "set" p2) [e] [] p3] [] pos) (callM sortedSetTF ma) :=
  pe_imp (pe_callB ((cr_sortedSet hc).or (cr_sortedSK hc (Room.u64 hr))) hg hm boot_sorted (pa_cons (pe_callTy ((cr_setI hc).or (cr_setOfK hc (Room.u64 hr))) hg2 hm2 boot_set ha (by decide) (by decide) hs hpl) pa_nil) (by decide) (by decide) hs2 hpl2) fun σ H Q ⟨w, sv, h, rs, hk, pp⟩ => by
    refine seqG' rs hk pp fun w1 H1 h1 vs ys e1 rs1 k1 r1 p1 => ?_
    unfold sortedSetTF at p1
    split at p1
    · split at p1
      · rename_i ys ks en
        split at p1
        · rename_i hz
          obtain ⟨hz, hq⟩ := Bool.and_eq_true_iff.mp hz
          have hz := of_decide_eq_true hz
          obtain ⟨y, rfl, r0⟩ := RVs.one r1
          obtain ⟨a, zs, rfl, ha, r2⟩ := RV.lst_get r0
          obtain ⟨t1, t2⟩ := tupKs_rel en r2
          obtain ⟨ps, f1, f2, f3⟩ := tupK_pairs t1
          subst f1 f2
          refine .inr ⟨a, ps, rfl, SqL.of ha, f3, fun L hs2 hnd => ?_, fun q L hqn hsub hall => ?_⟩
          · have sub : (L.map fun p => p.2).length ≤ (dedK (ps.map fun p => p.2)).length := hnd.length_le_of_subset fun z hz2 => by
              obtain ⟨p, hp, e⟩ := List.mem_map.mp hz2
              exact (mem_dedK _ _).mpr (List.mem_map.mpr ⟨p, hs2 p hp, e⟩)
            rw [List.length_map] at sub
            omega
          have ex1 : Ext w1 H1 w1 (upd H1 q (SetTO X.prog X.w q L)) := Ext.grow k1 hqn
          refine .inr ⟨q, L, rfl, upd_same, fun p hp => sqT_upd hqn (f3 p (hsub p hp)), ?_, fun ys2 kys q2 hl hzz hp hnd hs hq2 => ?_⟩
          · unfold eqKs at hq
            rcases Bool.or_eq_true_iff.mp hq with c | c
            · left
              intro p hp
              have := List.all_eq_true.mp c p.2 (List.mem_map.mpr ⟨p, hsub p hp, rfl⟩)
              simpa using this
            · right
              intro p hp z
              have := List.all_eq_true.mp c p.2 (List.mem_map.mpr ⟨p, hsub p hp, rfl⟩)
              rw [z] at this
              simp at this
          · have pd : (L.map fun p => p.2).Perm (dedK (ps.map fun p => p.2)) := (List.perm_ext_iff_of_nodup hnd (dedK_nodup _)).mpr fun z => by
              rw [mem_dedK]
              constructor
              · intro hzm
                obtain ⟨p, hp', e⟩ := List.mem_map.mp hzm
                exact List.mem_map.mpr ⟨p, hsub p hp', e⟩
              · intro hzm
                obtain ⟨p, hp', e⟩ := List.mem_map.mp hzm
                rw [← e]
                exact hall p hp'
            have e2 : kys = sortK (dedK (ps.map fun p => p.2)) := srtK_unique ((hp.trans pd).trans (sortK_perm _).symm) hs (sortK_sorted _)
            subst e2
            refine post_newl (Post.mono ex1 p1) (Hk.grow k1 hqn) (rvs_keys hl fun z hzm => ?_) hq2
            obtain ⟨p, hp', e⟩ := List.mem_map.mp (hzz z hzm)
            rw [← e]
            refine RV.mono ex1.sees _ _ (t2 _ ?_)
            rw [List.zip_map']
            exact List.mem_map.mpr ⟨p, hsub p hp', rfl⟩
        · exact p1.elim
      · exact p1.elim
    · split at p1
      · rename_i ys ns en
        split at p1
        · rename_i hz
          obtain ⟨y, rfl, r0⟩ := RVs.one r1
          obtain ⟨a, zs, rfl, ha, r2⟩ := RV.ktu_get r0
          rw [allIt_ok en] at r2
          rw [r2.ints] at ha
          refine .inl ⟨a, ns, rfl, ha, hz, fun q c hq hcl => ?_⟩
          refine .inl ⟨q, _, c, rfl, upd_same, by omega, fun ns' q2 hs hm hl hq2 => ?_⟩
          have e2 : ns' = sortU ns := strict_unique hs (sortU_sorted ns) fun z => by rw [hm z, mem_sortU]; simp
          rw [e2]
          have ex1 : Ext w1 H1 w1 (upd H1 q (SetO X.w q (fun j => decide (j ∈ ns)) c)) := Ext.grow k1 hq
          exact post_newl (Post.mono ex1 p1) (Hk.grow k1 hq) (RVs.of_ints _) hq2
        · exact p1.elim
      · exact p1.elim
    · unfold sortedSetF at p1
      split at p1
      · split at p1
        · rename_i ns en
          split at p1
          · rename_i hz
            obtain ⟨y, rfl, r0⟩ := RVs.one r1
            obtain ⟨a, zs, rfl, ha, r2⟩ := RV.tup_get r0
            rw [allIt_ok en] at r2
            rw [r2.ints] at ha
            refine .inl ⟨a, ns, rfl, ha, hz, fun q c hq hcl => ?_⟩
            refine .inl ⟨q, _, c, rfl, upd_same, by omega, fun ns' q2 hs hm hl hq2 => ?_⟩
            have e2 : ns' = sortU ns := strict_unique hs (sortU_sorted ns) fun z => by rw [hm z, mem_sortU]; simp
            rw [e2]
            have ex1 : Ext w1 H1 w1 (upd H1 q (SetO X.w q (fun j => decide (j ∈ ns)) c)) := Ext.grow k1 hq
            exact post_newl (Post.mono ex1 p1) (Hk.grow k1 hq) (RVs.of_ints _) hq2
          · exact p1.elim
        · exact p1.elim
      · exact p1.elim
end
end Mv
set_option Elab.async false
set_option linter.all false
set_option maxRecDepth 100000
namespace Mv
open PySem PySem.Spec PyProof.Rows L2
def tupLk : VV → Option (List VV)
  | .tup xs => some xs
  | .ktu xs => some xs
  | _ => none
theorem tupLk_get {K : PySem.W.Frag} {g : Gx} {w : Wd} {H : Hp} {x : VV} {xs : List VV} {y : V} (e : tupLk x = some xs) (r : RV K g w H x y) : ∃ a ys, y = .ref a ∧ SqT K H a ys ∧ RVs K g w H xs ys := by
  cases x <;> simp only [tupLk, Option.some.injEq, reduceCtorEq] at e
  · subst e; exact RV.tup_get r
  · subst e; exact RV.ktu_get r
def addKV : V2 := fun x y h => match tupLk x with
  | some xs => (match tupLk y with
    | some ys => if fits (xs.length + ys.length) then (match xs with
      | [] => .ok y h
      | _ :: _ => (match ys with
        | [] => .ok x h
        | _ :: _ => .ok (.tup (xs ++ ys)) h)) else .bad
    | none => .bad)
  | none => addV x y h
theorem addKS {K : PySem.W.Frag} {g : Gx} : OpS K g (rAddA K) addKV := by
  intro w h H σ W Q x y vx vy hk rx ry p
  unfold addKV at p
  split at p
  · rename_i xs ex
    split at p
    · rename_i ys ey
      split at p
      · rename_i hf
        obtain ⟨a, xs', rfl, ha, r1⟩ := tupLk_get ex rx
        obtain ⟨b, ys', rfl, hb, r2⟩ := tupLk_get ey ry
        refine .inr (.inr (.inr (.inl ⟨a, b, xs', ys', rfl, rfl, ha, hb, by rw [← r1.length, ← r2.length]; exact fits_le hf, fun e => ?_, fun e1 e2 => ?_, fun n1 n2 q hq => ?_⟩)))
        · have z := RVs.nil_of r1 e
          subst z
          exact Post.here p hk ry
        · have z := RVs.nil_of r2 e2
          subst z
          cases xs with
          | nil => exact absurd (by have := r1.length; simpa using this.symm) e1
          | cons _ _ => exact Post.here p hk rx
        · cases xs with
          | nil => exact absurd (by have := r1.length; simpa using this.symm) n1
          | cons _ _ =>
            cases ys with
            | nil => exact absurd (by have := r2.length; simpa using this.symm) n2
            | cons _ _ => exact post_newt p hk (r1.app r2) hq
      · exact p.elim
    · exact p.elim
  · exact addS w h H σ W Q x y vx vy hk rx ry p
end Mv
set_option Elab.async false
set_option linter.all false
set_option maxRecDepth 100000
namespace Mv
open PySem PySem.Spec PySem.Calls PyProof.Rows L2
def EqP (kvs lvs : List (List Key × V)) : Prop := kvs.length = lvs.length ∧ ∀ p ∈ kvs, ∃ i : Int, p.2 = .int i ∧ valV lvs p.1 = some (.int i)
theorem valV_at {k : List Key} {v : V} : ∀ {l : List (List Key × V)}, valV l k = some v → ∃ j : Nat, l[j]? = some (k, v)
  | [], e => by simp [valV] at e
  | p :: r, e => by
    by_cases c : p.1 = k
    · rw [valV_pos c] at e
      have e2 := Option.some.inj e
      exact ⟨0, by rw [List.getElem?_cons_zero, ← c, ← e2]⟩
    · rw [valV_neg c] at e
      obtain ⟨j, hj⟩ := valV_at e
      exact ⟨j + 1, by simpa using hj⟩
theorem hitsP {A : Around} {s : Shared} {H : Hp} {kvs lvs : List (List Key × V)} {xs ys : List (List Key × Addr × Value)} (st : EqP kvs lvs) (h1 : KT H kvs xs) (h2 : KT H lvs ys) (nd : (ys.map (·.1)).Nodup) : xs.length = ys.length ∧
    ∀ (i : Nat) (k : List Key) (p : Addr × Value), xs[i]? = some (k, p) → (∃ (j : Nat) (q : Addr × Value), ys[j]? = some (k, q)) ∧ ∀ (j : Nat) (q : Addr × Value), ys[j]? = some (k, q) → SeqAt.EqAt A s p.2 q.2 true := by
  have l1 := Paired.length h1
  have l2 := Paired.length h2
  obtain ⟨l3, st⟩ := st
  refine ⟨by omega, fun i k p hx => ?_⟩
  obtain ⟨v, hv, rv⟩ := KT.at h1 i k p hx
  obtain ⟨n, e1, e2⟩ := st _ (List.mem_of_getElem? hv)
  have e1 : v = .int n := e1
  subst e1
  obtain ⟨j0, hj0⟩ := valV_at e2
  have hlt : j0 < ys.length := by rw [← l2]; exact (List.getElem?_eq_some_iff.mp hj0).1
  obtain ⟨k2, q2, hy⟩ : ∃ k2 q2, ys[j0] = (k2, q2) := ⟨_, _, rfl⟩
  have hy2 : ys[j0]? = some (k2, q2) := by rw [List.getElem?_eq_getElem hlt, hy]
  obtain ⟨v2, hv2, rv2⟩ := KT.at h2 j0 k2 q2 hy2
  rw [hj0] at hv2
  obtain ⟨rfl, rfl⟩ := Prod.mk.inj (Option.some.inj hv2)
  refine ⟨⟨j0, q2, hy2⟩, fun j q3 hj => ?_⟩
  have ij : j0 = j := by
    have a1 : (ys.map (·.1))[j0]? = some k := by rw [List.getElem?_map, hy2]; rfl
    have a2 : (ys.map (·.1))[j]? = some k := by rw [List.getElem?_map, hj]; rfl
    exact (List.getElem?_inj (List.getElem?_eq_some_iff.mp a1).1 nd).mp (a1.trans a2.symm)
  subst ij
  rw [hy2] at hj
  cases hj
  have := eqAt_V (A := A) (s := s) rv rv2 rfl rfl
  simpa [L2.eqV] using this
def rEqP (neg : Bool) : R2 := fun x y H Q => ∃ a b kvs lvs, x = .ref a ∧ y = .ref b ∧ Rd H a (.dT kvs) ∧ Rd H b (.dT lvs) ∧ EqP kvs lvs ∧ Q (.bl (!neg)) H
section
variable {X : Cx} {k : Nat}
theorem op_eqP (hr : Room k X.A) : OpR X (compareOp .Eq) (rEqP false) := by
  intro pins s σ H x y v u Q I rx ry h
  obtain ⟨a, b, kvs, lvs, rfl, rfl, ha, hb, st, q⟩ := h
  cases rx
  cases ry
  obtain ⟨_, sa, xs, ka, da⟩ := dt_rd I.hok ha
  obtain ⟨_, sb, ys, kb, db⟩ := dt_rd I.hok hb
  obtain ⟨hl, hits⟩ := hitsP (A := X.A.in1) (s := s) st ka kb (by obtain ⟨_, _, _, _, _, _, _, _, nd⟩ := db; exact nd)
  have u1 := Room.u64 hr
  exact keqT_eq (knd := tupleKind (mixKind X.prog X.w)) (show X.A.units + 1 < cLine by omega) sa sb da db (by omega) hl hits ⟨.bl true, H, I, rfl, q⟩
theorem op_neP (hr : Room k X.A) : OpR X (compareOp .NotEq) (rEqP true) := by
  intro pins s σ H x y v u Q I rx ry h
  obtain ⟨a, b, kvs, lvs, rfl, rfl, ha, hb, st, q⟩ := h
  cases rx
  cases ry
  obtain ⟨_, sa, xs, ka, da⟩ := dt_rd I.hok ha
  obtain ⟨_, sb, ys, kb, db⟩ := dt_rd I.hok hb
  obtain ⟨hl, hits⟩ := hitsP (A := X.A.in1) (s := s) st ka kb (by obtain ⟨_, _, _, _, _, _, _, _, nd⟩ := db; exact nd)
  have u1 := Room.u64 hr
  exact keqT_ne (knd := tupleKind (mixKind X.prog X.w)) (show X.A.units + 1 < cLine by omega) sa sb da db (by omega) hl hits ⟨.bl false, H, I, rfl, q⟩
end
def subT (ks2 vs2 : List VV) : List VV → List VV → Bool
  | [], [] => true
  | k :: ks, .int i :: vs => (match findT ks2 vs2 k with
    | some (.int j) => decide (i = j) && subT ks2 vs2 ks vs
    | _ => false)
  | _, _ => false
def eqVP (neg : Bool) : V2 := fun x y h => match dictT h x with
  | some (ks, vs) => (match dictT h y with
    | some (ks2, vs2) => if Nat.beq ks.length ks2.length && subT ks2 vs2 ks vs then .ok (.bl (!neg)) h else .bad
    | none => .bad)
  | none => .bad
section
variable {K : PySem.W.Frag} {g : Gx} {w : Wd} {h : VH} {H : Hp}
theorem subT_of {lvs : List (List Key × V)} {vs2 : List VV} (r2 : RVs K g w H vs2 (lvs.map fun p => p.2)) : ∀ {kvs : List (List Key × V)} {vs : List VV}, subT (keysT lvs) vs2 (keysT kvs) vs = true → RVs K g w H vs (kvs.map fun p => p.2) → ∀ p ∈ kvs, ∃ i : Int, p.2 = .int i ∧ valV lvs p.1 = some (.int i)
  | [], _, _, _, p, hp => by cases hp
  | q :: kvs, [], e, _, _, _ => by simp [keysT, subT] at e
  | q :: kvs, v :: vs, e, r, p, hp => by
    cases v with
    | int i =>
      simp only [List.map_cons, RVs] at r
      obtain ⟨y, ys, ey, r3, r4⟩ := r
      obtain ⟨rfl, rfl⟩ := List.cons.inj ey
      have e0 : subT (keysT lvs) vs2 (.tup (q.1.map vvK) :: keysT kvs) (.int i :: vs) = true := e
      simp only [subT] at e0
      split at e0
      · rename_i j ej
        simp only [Bool.and_eq_true, decide_eq_true_eq] at e0
        obtain ⟨e1, e2⟩ := e0
        rcases List.mem_cons.mp hp with z | z
        · subst z
          have f := findT_ok p.1 r2
          rw [ej] at f
          cases ev : valV lvs p.1 with
          | none => rw [ev] at f; exact f.elim
          | some u =>
            rw [ev] at f
            simp only [relF, RV] at f
            simp only [RV] at r3
            exact ⟨i, r3, by rw [f, e1]⟩
        · exact subT_of r2 e2 r4 p z
      · cases e0
    | _ => simp [keysT, subT] at e
theorem eqVP_ok {neg : Bool} {σ : L2.St} {W : WX} {Q : VK} {x y : VV} {vx vy : V} (hk : Hk K g w h H) (rx : RV K g w H x vx) (ry : RV K g w H y vy) (p : Post K g (relV K g) w H σ Q W (eqVP neg x y h)) : rEqP neg vx vy H Q := by
  unfold eqVP at p
  split at p
  · rename_i ks vs e1
    split at p
    · rename_i ks2 vs2 e2
      split at p
      · rename_i c
        obtain ⟨c1, c2⟩ := Bool.and_eq_true_iff.mp c
        obtain ⟨a, kvs, rfl, h1, rfl, h3⟩ := dictT_ok hk e1 rx
        obtain ⟨b, lvs, rfl, h4, rfl, h6⟩ := dictT_ok hk e2 ry
        refine ⟨a, b, kvs, lvs, rfl, rfl, h1, h4, ⟨?_, subT_of h6 c2 h3⟩, post_bl p hk⟩
        have := Nat.eq_of_beq_eq_true c1
        simpa [keysT] using this
      · exact p.elim
    · exact p.elim
  · exact p.elim
end
theorem eqPS {K : PySem.W.Frag} {g : Gx} {neg : Bool} : OpS K g (rEqP neg) (eqVP neg) := by
  intro w h H σ W Q x y vx vy hk rx ry p
  exact eqVP_ok hk rx ry p
end Mv
set_option Elab.async false
set_option linter.all false
set_option maxRecDepth 100000
namespace Mv
open PySem PySem.Spec PyProof.Rows L2
def tupleHF : VF := fun xs h => match xs with
  | [.ref n] => (match h[n]? with
    | some (.lst vs) => .ok (.tup vs) h
    | _ => tupleAF [.ref n] h)
  | _ => tupleAF xs h
theorem tupleHS {K : PySem.W.Frag} {g : Gx} : CallS K g (rTupleA K) tupleHF := by
  intro w h H σ W Q xs vs hk r p
  unfold tupleHF at p
  split at p
  · split at p
    · rename_i n us e
      obtain ⟨y, rfl, r1⟩ := r.one
      obtain ⟨a, ys, rfl, hn, hl, rx⟩ := ref_get hk r1 e
      exact .inl ⟨a, ys, rfl, .inl ⟨SqL.of hl, fun l hq => post_newt p hk rx hq⟩⟩
    · exact tupleAS w h H σ W Q _ vs hk r p
  · exact tupleAS w h H σ W Q _ vs hk r p
end Mv
set_option Elab.async false
set_option linter.all false
set_option maxRecDepth 100000
set_option pp.maxSteps 120
set_option pp.deepTerms false
namespace K05
open PySem PySem.Spec PyProof.Rows L2 Mv
def tsL : List (Nat × Str) := []
def b_cup : MS := seqM (setM 2 (ifM (blM (opM ltV (varM 1) (callM lenAF (consA (varM 0) (nilA))))) (callM intF (consA (opM ixA (varM 0) (varM 1)) (nilA))) (opM addV (opM mulAV (cM (.int 283)) (varM 1)) (cM (.int 71))))) (seqM (setM 3 (opM modV (callM intF (consA (callM absF (consA (varM 2) (nilA))) (nilA))) (opM powV (opM powV (cM (.int 10)) (cM (.int 53))) (cM (.int 7))))) (seqM (setM 4 (callM intF (consA (opM addV (opM addV (opM addV (opM mulAV (opM modV (varM 3) (cM (.int 2305843009213693921))) (cM (.int 79))) (opM mulAV (cM (.int 4987)) (varM 1))) (opM mulAV (cM (.int 41)) (callM intF (consA (opM ltV (varM 2) (cM (.int 0))) (nilA))))) (cM (.int 53))) (nilA)))) (retV (newM (consA (callM maxF (consA (cM (.int 0)) (consA (opM subV (varM 3) (opM powV (cM (.int 10)) (cM (.int 16)))) (nilA)))) (consA (opM modV (varM 4) (cM (.int 2305843009213693951))) (consA (cM (.int 0)) (nilA))))))))
def m_cup : MF := fnM 5 2 b_cup
def b_tossed : MS := seqM (ifS (blM (opM gtV (opM ixA (varM 0) (cM (.int 0))) (cM (.int 0)))) (seqM (setM 2 (opM modV (callM intF (consA (opM ixA (varM 0) (cM (.int 0))) (nilA))) (varM 1))) (seqM (setAM (varM 0) (cM (.int 0)) (opM fdivV (opM ixA (varM 0) (cM (.int 0))) (varM 1))) (retV (varM 2)))) (skipM)) (seqM (setAM (varM 0) (cM (.int 2)) (opM addV (opM ixA (varM 0) (cM (.int 2))) (cM (.int 1)))) (seqM (setM 3 (opM modV (callM intF (consA (opM addV (opM ixA (varM 0) (cM (.int 1))) (opM mulAV (cM (.int 49979729)) (opM ixA (varM 0) (cM (.int 2))))) (nilA))) (cM (.int 2305843009213693951)))) (seqM (setM 4 (opM addV (opM addV (opM mulAV (opM modV (callM intF (consA (opM addV (opM mulAV (varM 3) (varM 3)) (cM (.int 86028049))) (nilA))) (cM (.int 2305843009213693907))) (cM (.int 32452867))) (varM 3)) (opM mulAV (cM (.int 29)) (opM ixA (varM 0) (cM (.int 2)))))) (retV (opM modV (callM intF (consA (opM fdivV (varM 4) (cM (.int 65537))) (nilA))) (varM 1))))))
def m_tossed : MF := fnM 5 2 b_tossed
def b_lot_drawn : MS := seqM (parVL2 3 4 (callM listHF (consA (varM 1) (nilA))) (nilA)) (seqM (forM (rangeI (consA (opM addV (varM 2) (callF m_tossed (consA (varM 0) (consA (opM addV (opM subV (callM lenAF (consA (varM 1) (nilA))) (varM 2)) (cM (.int 1))) (nilA))))) (nilA))) (nameG 5) (appM 4 (consA (popR (varM 3) (consA (callF m_tossed (consA (varM 0) (consA (callM lenAF (consA (varM 3) (nilA))) (nilA)))) (nilA))) (nilA)))) (retF (callM tupKF (consA (callM sortedAF (consA (varM 4) (nilA))) (nilA)))))
def m_lot_drawn : MF := fnM 6 3 b_lot_drawn
def b_one_of : MS := retV (opM ixA (varM 1) (callF m_tossed (consA (varM 0) (consA (callM lenAF (consA (varM 1) (nilA))) (nilA)))))
def m_one_of : MF := fnM 2 2 b_one_of
def b_rows_drawn : MS := seqM (parLV2 4 5 (nilA) (callF m_tossed (consA (varM 0) (consA (cM (.int 5)) (nilA))))) (seqM (forM (rangeI (consA (callF m_tossed (consA (varM 0) (consA (opM addV (varM 2) (cM (.int 1))) (nilA)))) (nilA))) (nameG 6) (seqM (setM 7 (lcDM true (seqD (varM 1)) (nameG 8) [8] (yesT) (callF m_tossed (consA (varM 0) (consA (varM 3) (nilA)))))) (seqM (ifS (andT (blM (opM (eqV false) (varM 5) (cM (.int 0)))) (andT (blM (opM (eqVE true) (varM 1) (tupM (nilA)))) (blM (opM gtV (callF m_tossed (consA (varM 0) (consA (cM (.int 3)) (nilA)))) (cM (.int 0)))))) (setAM (varM 7) (cM (.int 0)) (cM (.int 0))) (skipM)) (seqM (ifS (blM (opM (eqV false) (varM 5) (cM (.int 1)))) (setM 7 (lcDM true (seqD (varM 7)) (nameG 9) [9] (yesT) (ifM (blM (opM (eqV false) (opM modV (varM 9) (cM (.int 2))) (cM (.int 0)))) (opM subV (cM (.int 999999999)) (varM 9)) (opM subV (cM (.int 0)) (varM 9))))) (skipM)) (seqM (appM 4 (consA (callM tupleHF (consA (varM 7) (nilA))) (nilA))) (ifS (blM (opM (eqV false) (callF m_tossed (consA (varM 0) (consA (cM (.int 6)) (nilA)))) (cM (.int 0)))) (appM 4 (consA (callM tupleHF (consA (varM 7) (nilA))) (nilA))) (skipM))))))) (retF (varM 4)))
def m_rows_drawn : MF := fnM 10 4 b_rows_drawn
def b_is_letter : MS := retV (andV (callM (isiIF [0]) (consA (varM 0) (consA (cM (.ty .int)) (nilA)))) (andV (notV (callM (isiIF [0]) (consA (varM 0) (consA (cM (.ty .bool)) (nilA))))) (chainM leV ltV (cM (.int 0)) (varM 0) (cM (.int 6)))))
def m_is_letter : MF := fnM 1 1 b_is_letter
def b_is_lot : MS := seqM (ifS (orT (notT (blM (callM (isiIF [0]) (consA (varM 0) (consA (cM (.ty .tuple)) (nilA)))))) (notT (blM (callM allF (consA (lcM (seqA (varM 0)) (nameG 1) [1] (yesT) (callF m_is_letter (consA (varM 1) (nilA)))) (nilA)))))) (retV (cM (.bl false))) (skipM)) (retV (callM allF (consA (lcM (zipI (consA (varM 0) (consA (sliceM (varM 0) (someO (cM (.int 1))) (noneO)) (nilA)))) (tupG (consG (nameG 2) (consG (nameG 3) (nilG)))) [2, 3] (yesT) (opM ltV (varM 2) (varM 3))) (nilA))))
def m_is_lot : MF := fnM 4 1 b_is_lot
def b_require_lot : MS := ifS (notT (blM (callF m_is_lot (consA (varM 0) (nilA))))) (raiseM 1) (skipM)
def m_require_lot : MF := fnM 1 1 b_require_lot
def b_is_whole : MS := retV (andV (callM (isiIF [0]) (consA (varM 0) (consA (cM (.ty .int)) (nilA)))) (notV (callM (isiIF [0]) (consA (varM 0) (consA (cM (.ty .bool)) (nilA))))))
def m_is_whole : MF := fnM 1 1 b_is_whole
def b_is_small : MS := retV (andV (callF m_is_whole (consA (varM 0) (nilA))) (chainM ltV ltV (negM (cM (.int 1000000000))) (varM 0) (cM (.int 1000000000))))
def m_is_small : MF := fnM 1 1 b_is_small
def b_is_row_in : MS := retV (andV (callM (isiIF [0]) (consA (varM 1) (consA (cM (.ty .tuple)) (nilA)))) (andV (opM (eqV false) (callM lenAF (consA (varM 1) (nilA))) (callM lenAF (consA (varM 0) (nilA)))) (callM allF (consA (lcM (seqA (varM 1)) (nameG 2) [2] (yesT) (callF m_is_small (consA (varM 2) (nilA)))) (nilA)))))
def m_is_row_in : MF := fnM 3 2 b_is_row_in
def b_are_rows : MS := retV (andV (callM (isiIF [0]) (consA (varM 1) (consA (cM (.ty .tuple)) (nilA)))) (andV (opM leV (callM lenAF (consA (varM 1) (nilA))) (cM (.int 1000))) (callM allF (consA (lcM (seqA (varM 1)) (nameG 2) [2] (yesT) (callF m_is_row_in (consA (varM 0) (consA (varM 2) (nilA))))) (nilA)))))
def m_are_rows : MF := fnM 3 2 b_are_rows
def b_lot_told : MS := retV (ifM (blM (opM (eqVE true) (varM 0) (tupM (nilA)))) (joinM (cM (.str " ")) (lcM (seqA (varM 0)) (nameG 1) [1] (yesT) (callM strF (consA (varM 1) (nilA))))) (cM (.str "no letters")))
def m_lot_told : MF := fnM 2 1 b_lot_told
def b_Table_keep : MS := seqM (setSlM [(0, 2)] (varM 0) (dcTM (seqA (callM sortedAF (consA (varM 2) (nilA)))) (nameG 3) [3] (yesT) (varM 3) (cM (.bl true)))) (setSlsM [([(0, 0)], varM 0), ([(0, 1)], varM 0), ([(0, 3)], varM 0)] (tupM (consA (varM 1) (consA (callM tupleAF (consA (attrM [(0, 2)] (varM 0)) (nilA))) (consA (callF m_lot_told (consA (varM 1) (nilA))) (nilA))))))
def m_Table_keep : MF := fnM 4 3 b_Table_keep
def b_Table_init : MS := seqM (dropM (callF m_require_lot (consA (varM 1) (nilA)))) (seqM (ifS (notT (blM (callF m_are_rows (consA (varM 1) (consA (varM 2) (nilA)))))) (raiseM 2) (skipM)) (dropM (methsM [(0, m_Table_keep)] (varM 0) (consA (varM 1) (consA (varM 2) (nilA))))))
def m_Table_init : MF := fnM 3 3 b_Table_init
def b_is_table : MS := retV (callM (isiCF [0] [(0, 0, true)]) (consA (varM 0) (consA (cM (.adr 0)) (nilA))))
def m_is_table : MF := fnM 1 1 b_is_table
def b_require_table : MS := ifS (notT (blM (callF m_is_table (consA (varM 0) (nilA))))) (raiseM 2) (skipM)
def m_require_table : MF := fnM 1 1 b_require_table
def b_within_in : MS := retV (callM allF (consA (lcM (seqA (varM 0)) (nameG 2) [2] (yesT) (opM (inA false) (varM 2) (varM 1))) (nilA)))
def m_within_in : MF := fnM 3 2 b_within_in
def b_need_within : MS := ifS (notT (blM (callF m_within_in (consA (varM 0) (consA (varM 1) (nilA)))))) (raiseM 3) (skipM)
def m_need_within : MF := fnM 2 2 b_need_within
def b_require_table_and_lots : MS := seqM (dropM (callF m_require_table (consA (varM 0) (nilA)))) (seqM (dropM (callF m_require_lot (consA (varM 1) (nilA)))) (seqM (dropM (callF m_require_lot (consA (varM 2) (nilA)))) (seqM (dropM (callF m_need_within (consA (varM 1) (consA (varM 2) (nilA))))) (dropM (callF m_need_within (consA (varM 2) (consA (attrM [(0, 0)] (varM 0)) (nilA))))))))
def m_require_table_and_lots : MF := fnM 3 3 b_require_table_and_lots
def b_places_in : MS := retV (lcM (seqA (varM 1)) (nameG 2) [2] (yesT) (indexM (varM 0) (consA (varM 2) (nilA))))
def m_places_in : MF := fnM 3 2 b_places_in
def b_part_in : MS := retV (callM tupleAF (consA (lcM (seqA (varM 1)) (nameG 2) [2] (yesT) (opM ixA (varM 0) (varM 2))) (nilA)))
def m_part_in : MF := fnM 3 2 b_part_in
def b_made_table : MS := seqM (setM 2 (makeM 0 m_Table_init (consA (tupM (nilA)) (consA (tupM (nilA)) (nilA))))) (seqM (dropM (methsM [(0, m_Table_keep)] (varM 2) (consA (varM 0) (consA (varM 1) (nilA))))) (retV (varM 2)))
def m_made_table : MF := fnM 3 2 b_made_table
def b_project_in : MS := seqM (setM 2 (callF m_places_in (consA (attrM [(0, 0)] (varM 0)) (consA (varM 1) (nilA))))) (retV (callF m_made_table (consA (varM 1) (consA (lcM (seqA (attrM [(0, 1)] (varM 0))) (nameG 3) [3] (yesT) (callF m_part_in (consA (varM 3) (consA (varM 2) (nilA))))) (nilA)))))
def m_project_in : MF := fnM 4 2 b_project_in
def b_above_in : MS := seqM (asgM (tupG (consG (nameG 3) (consG (nameG 4) (nilG)))) (tupM (consA (callF m_places_in (consA (varM 2) (consA (varM 1) (nilA)))) (consA (newDT) (nilA))))) (seqM (forM (seqA (attrM [(0, 1)] (callF m_project_in (consA (varM 0) (consA (varM 2) (nilA)))))) (nameG 5) (seqM (setM 6 (callF m_part_in (consA (varM 5) (consA (varM 3) (nilA))))) (setAM (varM 4) (varM 6) (opM addV (getM (varM 4) (varM 6) (cM (.int 0))) (cM (.int 1)))))) (retV (dcTM (seqA (callM sortedAF (consA (varM 4) (nilA)))) (nameG 5) [5] (yesT) (varM 5) (opM ixA (varM 4) (varM 5)))))
def m_above_in : MF := fnM 7 3 b_above_in
def b_above : MS := seqM (dropM (callF m_require_table_and_lots (consA (varM 0) (consA (varM 1) (consA (varM 2) (nilA)))))) (retV (callF m_above_in (consA (varM 0) (consA (varM 1) (consA (varM 2) (nilA))))))
def m_above : MF := fnM 3 3 b_above
def b_part : MS := retV (callM tupleAF (consA (lcM (seqA (varM 2)) (nameG 3) [3] (yesT) (opM ixA (varM 0) (indexM (varM 1) (consA (varM 3) (nilA))))) (nilA)))
def m_part : MF := fnM 4 3 b_part
def b_parts : MS := retV (callM tupleAF (consA (callM sortedSetTF (consA (lcM (seqA (varM 0)) (nameG 3) [3] (yesT) (callF m_part (consA (varM 3) (consA (varM 1) (consA (varM 2) (nilA)))))) (nilA))) (nilA)))
def m_parts : MF := fnM 4 3 b_parts
def b_own_above : MS := seqM (setM 4 (newDT)) (seqM (forM (seqA (callF m_parts (consA (varM 0) (consA (varM 1) (consA (varM 3) (nilA)))))) (nameG 5) (seqM (setM 6 (callF m_part (consA (varM 5) (consA (varM 3) (consA (varM 2) (nilA)))))) (setAM (varM 4) (varM 6) (opM addV (getM (varM 4) (varM 6) (cM (.int 0))) (cM (.int 1)))))) (retV (varM 4)))
def m_own_above : MF := fnM 7 4 b_own_above
def b_degree_in : MS := retV (maxDM (listValsM (callF m_above_in (consA (varM 0) (consA (varM 1) (consA (varM 2) (nilA)))))) (cM (.int 0)))
def m_degree_in : MF := fnM 3 3 b_degree_in
def b_degree : MS := seqM (dropM (callF m_require_table_and_lots (consA (varM 0) (consA (varM 1) (consA (varM 2) (nilA)))))) (retV (callF m_degree_in (consA (varM 0) (consA (varM 1) (consA (varM 2) (nilA))))))
def m_degree : MF := fnM 3 3 b_degree
def b_own_degree : MS := retV (callM max1F (consA (opM addV (lstM (consA (cM (.int 0)) (nilA))) (listValsM (callF m_own_above (consA (varM 0) (consA (varM 1) (consA (varM 2) (consA (varM 3) (nilA)))))))) (nilA)))
def m_own_degree : MF := fnM 4 4 b_own_degree
def b_Table_len : MS := retV (callM lenAF (consA (attrM [(0, 1)] (varM 0)) (nilA)))
def m_Table_len : MF := fnM 1 1 b_Table_len
def b_project : MS := seqM (dropM (callF m_require_table (consA (varM 0) (nilA)))) (seqM (dropM (callF m_require_lot (consA (varM 1) (nilA)))) (seqM (dropM (callF m_need_within (consA (varM 1) (consA (attrM [(0, 0)] (varM 0)) (nilA))))) (retV (callF m_project_in (consA (varM 0) (consA (varM 1) (nilA)))))))
def m_project : MF := fnM 2 2 b_project
def b_both : MS := retV (callM tupKF (consA (callM sortedSetTF (consA (opM addKV (varM 0) (varM 1)) (nilA))) (nilA)))
def m_both : MF := fnM 2 2 b_both
def b_Table_rows : MS := retV (attrM [(0, 1)] (varM 0))
def m_Table_rows : MF := fnM 1 1 b_Table_rows
def b_require_on : MS := ifS (notT (blM (callF m_is_row_in (consA (varM 0) (consA (varM 1) (nilA)))))) (raiseM 2) (skipM)
def m_require_on : MF := fnM 2 2 b_require_on
def b_rest_in : MS := retV (callM tupKF (consA (lcM (seqA (varM 0)) (nameG 2) [2] (blM (opM (inA true) (varM 2) (varM 1))) (varM 2)) (nilA)))
def m_rest_in : MF := fnM 3 2 b_rest_in
def b_section_in : MS := seqM (setM 3 (callF m_rest_in (consA (attrM [(0, 0)] (varM 0)) (consA (varM 1) (nilA))))) (seqM (asgM (tupG (consG (nameG 4) (consG (nameG 5) (nilG)))) (tupM (consA (callF m_places_in (consA (attrM [(0, 0)] (varM 0)) (consA (varM 1) (nilA)))) (consA (callF m_places_in (consA (attrM [(0, 0)] (varM 0)) (consA (varM 3) (nilA)))) (nilA))))) (retV (callF m_made_table (consA (varM 3) (consA (lcM (seqA (attrM [(0, 1)] (varM 0))) (nameG 6) [6] (blM (opM (eqV false) (callF m_part_in (consA (varM 6) (consA (varM 4) (nilA)))) (varM 2))) (callF m_part_in (consA (varM 6) (consA (varM 5) (nilA))))) (nilA))))))
def m_section_in : MF := fnM 7 3 b_section_in
def b_section : MS := seqM (dropM (callF m_require_table (consA (varM 0) (nilA)))) (seqM (dropM (callF m_require_lot (consA (varM 1) (nilA)))) (seqM (dropM (callF m_need_within (consA (varM 1) (consA (attrM [(0, 0)] (varM 0)) (nilA))))) (seqM (dropM (callF m_require_on (consA (varM 1) (consA (varM 2) (nilA))))) (retV (callF m_section_in (consA (varM 0) (consA (varM 1) (consA (varM 2) (nilA)))))))))
def m_section : MF := fnM 3 3 b_section
def b_right : MS := seqM (setM 1 (callF m_lot_drawn (consA (varM 0) (consA (tupM (consA (cM (.int 0)) (consA (cM (.int 1)) (consA (cM (.int 2)) (consA (cM (.int 3)) (consA (cM (.int 4)) (consA (cM (.int 5)) (nilA)))))))) (consA (cM (.int 1)) (nilA)))))) (seqM (setM 2 (callM tupleAF (consA (callM sortedSetTF (consA (callF m_rows_drawn (consA (varM 0) (consA (varM 1) (consA (callF m_one_of (consA (varM 0) (consA (lstM (consA (cM (.int 2)) (consA (cM (.int 8)) (consA (cM (.int 20)) (consA (cM (.int 40)) (nilA)))))) (nilA)))) (consA (callF m_one_of (consA (varM 0) (consA (lstM (consA (cM (.int 2)) (consA (cM (.int 3)) (consA (cM (.int 4)) (nilA))))) (nilA)))) (nilA)))))) (nilA))) (nilA)))) (seqM (setM 3 (makeM 0 m_Table_init (consA (varM 1) (consA (varM 2) (nilA))))) (seqM (forM (rangeI (consA (cM (.int 4)) (nilA))) (nameG 4) (seqM (setM 5 (callF m_lot_drawn (consA (varM 0) (consA (varM 1) (consA (cM (.int 0)) (nilA)))))) (seqM (setM 6 (callF m_lot_drawn (consA (varM 0) (consA (varM 5) (consA (cM (.int 0)) (nilA)))))) (seqM (setM 7 (callF m_lot_drawn (consA (varM 0) (consA (varM 6) (consA (cM (.int 0)) (nilA)))))) (seqM (setM 8 (callF m_above (consA (varM 3) (consA (varM 7) (consA (varM 5) (nilA)))))) (seqM (ifS (orT (blM (opM (eqVP true) (varM 8) (callF m_own_above (consA (varM 2) (consA (varM 1) (consA (varM 7) (consA (varM 5) (nilA)))))))) (blM (opM (eqV true) (callM listDF (consA (varM 8) (nilA))) (callM sortedAF (consA (varM 8) (nilA)))))) (retV (cM (.bl false))) (skipM)) (seqM (setM 9 (callF m_degree (consA (varM 3) (consA (varM 7) (consA (varM 5) (nilA)))))) (seqM (ifS (orT (blM (opM (eqV true) (varM 9) (callF m_own_degree (consA (varM 2) (consA (varM 1) (consA (varM 7) (consA (varM 5) (nilA)))))))) (blM (opM gtV (varM 9) (opM mulAV (callF m_degree (consA (varM 3) (consA (varM 7) (consA (varM 6) (nilA))))) (callF m_degree (consA (varM 3) (consA (varM 6) (consA (varM 5) (nilA))))))))) (retV (cM (.bl false))) (skipM)) (seqM (parM 10 11 (consA (callM (lenIF [(0, m_Table_len)]) (consA (callF m_project (consA (varM 3) (consA (varM 7) (nilA)))) (nilA))) (consA (callM (lenIF [(0, m_Table_len)]) (consA (callF m_project (consA (varM 3) (consA (varM 5) (nilA)))) (nilA))) (nilA)))) (seqM (ifS (orT (blM (opM gtV (varM 11) (opM mulAV (varM 10) (varM 9)))) (orT (blM (opM ltV (varM 11) (callM maxF (consA (varM 10) (consA (varM 9) (nilA)))))) (blM (opM (eqV true) (callF m_degree (consA (varM 3) (consA (ktupM (nilA)) (consA (varM 5) (nilA))))) (varM 11))))) (retV (cM (.bl false))) (skipM)) (seqM (setM 12 (callF m_lot_drawn (consA (varM 0) (consA (varM 1) (consA (cM (.int 0)) (nilA)))))) (seqM (ifS (blM (opM gtV (callF m_degree (consA (varM 3) (consA (callF m_both (consA (varM 7) (consA (varM 12) (nilA)))) (consA (callF m_both (consA (varM 5) (consA (varM 12) (nilA)))) (nilA))))) (varM 9))) (retV (cM (.bl false))) (skipM)) (seqM (setM 13 (makeM 0 m_Table_init (consA (varM 1) (consA (callM tupleAF (consA (lcM (seqA (varM 2)) (nameG 15) [15] (blM (opM gtV (callF m_tossed (consA (varM 0) (consA (cM (.int 3)) (nilA)))) (cM (.int 0)))) (varM 15)) (nilA))) (nilA))))) (seqM (ifS (blM (opM gtV (callF m_degree (consA (varM 13) (consA (varM 7) (consA (varM 5) (nilA))))) (varM 9))) (retV (cM (.bl false))) (skipM)) (seqM (setM 14 (lcM (seqA (propM [(0, m_Table_rows)] (callF m_project (consA (varM 3) (consA (varM 7) (nilA)))))) (nameG 15) [15] (yesT) (callM (lenIF [(0, m_Table_len)]) (consA (callF m_section (consA (varM 3) (consA (varM 7) (consA (varM 15) (nilA))))) (nilA))))) (ifS (blM (opM (eqV true) (callM max1F (consA (opM addV (lstM (consA (cM (.int 0)) (nilA))) (varM 14)) (nilA))) (callF m_degree (consA (varM 3) (consA (varM 7) (consA (varM 1) (nilA))))))) (retV (cM (.bl false))) (skipM))))))))))))))))) (retV (cM (.bl true))))))
def m_right : MF := fnM 16 1 b_right
def b_law : MS := seqM (forM (rangeI (consA (callM maxF (consA (cM (.int 1)) (consA (callM minF (consA (cM (.int 3)) (consA (callM lenAF (consA (varM 0) (nilA))) (nilA)))) (nilA)))) (nilA))) (nameG 1) (seqM (setM 2 (callF m_cup (consA (varM 0) (consA (varM 1) (nilA))))) (forM (rangeI (consA (cM (.int 3)) (nilA))) (nameG 3) (ifS (notT (blM (callF m_right (consA (varM 2) (nilA))))) (retV (cM (.bl false))) (skipM))))) (seqM (setM 4 (makeM 0 m_Table_init (consA (ktupM (consA (cM (.int 0)) (consA (cM (.int 2)) (nilA)))) (consA (tupM (consA (tupM (consA (cM (.int 1)) (consA (cM (.int 7)) (nilA)))) (consA (tupM (consA (cM (.int 1)) (consA (cM (.int 5)) (nilA)))) (consA (tupM (consA (cM (.int 3)) (consA (cM (.int 5)) (nilA)))) (nilA))))) (nilA))))) (seqM (setM 5 (lstM (consA (callF m_degree (consA (varM 4) (consA (ktupM (consA (cM (.int 0)) (nilA))) (consA (ktupM (consA (cM (.int 0)) (consA (cM (.int 2)) (nilA)))) (nilA))))) (consA (callF m_degree (consA (varM 4) (consA (ktupM (nilA)) (consA (ktupM (consA (cM (.int 0)) (nilA))) (nilA))))) (consA (callF m_degree (consA (varM 4) (consA (ktupM (consA (cM (.int 2)) (nilA))) (consA (ktupM (consA (cM (.int 2)) (nilA))) (nilA))))) (consA (callF m_degree (consA (makeM 0 m_Table_init (consA (ktupM (consA (cM (.int 0)) (nilA))) (consA (tupM (nilA)) (nilA)))) (consA (ktupM (nilA)) (consA (ktupM (nilA)) (nilA))))) (nilA))))))) (retV (andV (opM (eqV false) (varM 5) (lstM (consA (cM (.int 2)) (consA (cM (.int 2)) (consA (cM (.int 1)) (consA (cM (.int 0)) (nilA))))))) (andV (opM (eqVP false) (callF m_above (consA (varM 4) (consA (ktupM (consA (cM (.int 0)) (nilA))) (consA (ktupM (consA (cM (.int 0)) (consA (cM (.int 2)) (nilA)))) (nilA))))) (dlitTM [(tupM (consA (cM (.int 1)) (nilA)), cM (.int 2)), (tupM (consA (cM (.int 3)) (nilA)), cM (.int 1))])) (opM (eqVP false) (callF m_above (consA (varM 4) (consA (ktupM (nilA)) (consA (ktupM (nilA)) (nilA))))) (dlitTM [(tupM (nilA), cM (.int 1))])))))))
def m_law : MF := fnM 6 1 b_law
end K05
set_option Elab.async false
set_option linter.all false
set_option maxRecDepth 100000
namespace Tb
open Mv
abbrev Row := List Int
def uniq (l : List Row) : List Row := sortK (dedK l)
theorem mem_uniq {z : Row} {l : List Row} : z ∈ uniq l ↔ z ∈ l := by
  unfold uniq
  rw [(sortK_perm _).mem_iff, mem_dedK]
theorem uniq_nodup (l : List Row) : (uniq l).Nodup := (sortK_perm _).nodup_iff.mpr (dedK_nodup l)
theorem uniq_sorted (l : List Row) : SrtK (uniq l) := sortK_sorted _
theorem uniq_of {l m : List Row} (hn : m.Nodup) (hs : SrtK m) (h : ∀ z, z ∈ m ↔ z ∈ l) : uniq l = m :=
  srtK_unique ((List.perm_ext_iff_of_nodup (uniq_nodup l) hn).mpr fun z => by rw [mem_uniq, h]) (uniq_sorted l) hs
theorem uniq_id {l : List Row} (hn : l.Nodup) (hs : SrtK l) : uniq l = l := uniq_of hn hs fun _ => Iff.rfl
theorem uniq_uniq (l : List Row) : uniq (uniq l) = uniq l := uniq_id (uniq_nodup l) (uniq_sorted l)
theorem srtK_sub {l m : List Row} (s : List.Sublist l m) (h : SrtK m) : SrtK l := List.Pairwise.sublist s h
def part (lot some : List Int) (r : Row) : Row := some.map fun x => r.getD (lot.idxOf x) 0
theorem part_len {lot some : List Int} {r : Row} : (part lot some r).length = some.length := by simp [part]
theorem part_at {lot some : List Int} {r : Row} {x : Int} (hx : x ∈ some) : (part lot some r).getD (some.idxOf x) 0 = r.getD (lot.idxOf x) 0 := by
  have h := List.idxOf_lt_length_of_mem hx
  unfold part
  rw [List.getD_eq_getElem?_getD, List.getElem?_map, List.getElem?_eq_getElem h, List.getElem_idxOf]
  rfl
theorem part_part {lot mid some : List Int} {r : Row} (h : ∀ x ∈ some, x ∈ mid) : part mid some (part lot mid r) = part lot some r := by
  unfold part
  refine List.map_congr_left fun x hx => ?_
  exact part_at (h x hx)
theorem part_self {lot : List Int} {r : Row} (hn : lot.Nodup) (hl : r.length = lot.length) : part lot lot r = r := by
  unfold part
  apply List.ext_getElem
  · rw [List.length_map, hl]
  · intro i h1 h2
    rw [List.length_map] at h1
    rw [List.getElem_map, List.Nodup.idxOf_getElem hn i h1, List.getD_eq_getElem?_getD, List.getElem?_eq_getElem h2]
    rfl
def proj (lot some : List Int) (R : List Row) : List Row := uniq (R.map (part lot some))
theorem mem_proj {lot some : List Int} {R : List Row} {z : Row} : z ∈ proj lot some R ↔ ∃ r ∈ R, part lot some r = z := by
  unfold proj
  rw [mem_uniq, List.mem_map]
theorem proj_nodup {lot some : List Int} {R : List Row} : (proj lot some R).Nodup := uniq_nodup _
def low_ (lot low high : List Int) (R : List Row) : List Row := (proj lot high R).map (part high low)
def top (l : List Nat) : Nat := l.foldr max 0
theorem le_top {x : Nat} : ∀ {l : List Nat}, x ∈ l → x ≤ top l
  | y :: l, h => by
    unfold top
    rw [List.foldr_cons]
    rcases List.mem_cons.mp h with e | h
    · subst e; exact Nat.le_max_left _ _
    · exact Nat.le_trans (le_top h) (Nat.le_max_right _ _)
theorem top_le {b : Nat} : ∀ {l : List Nat}, (∀ x ∈ l, x ≤ b) → top l ≤ b
  | [], _ => Nat.zero_le _
  | y :: l, h => by
    unfold top
    rw [List.foldr_cons]
    exact Nat.max_le.mpr ⟨h y List.mem_cons_self, top_le fun x hx => h x (List.mem_cons_of_mem _ hx)⟩
theorem top_ext {l m : List Nat} (h : ∀ x, x ∈ l ↔ x ∈ m) : top l = top m :=
  Nat.le_antisymm (top_le fun x hx => le_top ((h x).mp hx)) (top_le fun x hx => le_top ((h x).mpr hx))
def degL (L : List Row) : Nat := top (L.map fun k => L.count k)
def deg (lot low high : List Int) (R : List Row) : Nat := degL (low_ lot low high R)
theorem count_le {L : List Row} {k : Row} : L.count k ≤ degL L := by
  by_cases h : k ∈ L
  · exact le_top (List.mem_map.mpr ⟨k, h, rfl⟩)
  · rw [List.count_eq_zero.mpr h]
    exact Nat.zero_le _
theorem degL_le {L : List Row} {b : Nat} (h : ∀ k ∈ L, L.count k ≤ b) : degL L ≤ b := top_le fun x hx => by
  obtain ⟨k, hk, e⟩ := List.mem_map.mp hx
  rw [← e]
  exact h k hk
theorem count_part {P : List Row} {f : Row → Row} {k : Row} : (P.map f).count k = (P.filter fun r => f r == k).length := by
  rw [List.count, List.countP_map, List.countP_eq_length_filter]
  rfl
theorem len_split (p : Row → Bool) : ∀ l : List Row, l.length = (l.filter p).length + (l.filter fun x => !p x).length
  | [] => rfl
  | x :: l => by
    have ih := len_split p l
    cases h : p x <;> simp [List.filter_cons, h] <;> omega
theorem fiber {f : Row → Row} {d : Nat} : ∀ {B A : List Row}, (∀ a ∈ A, f a ∈ B) → (∀ b ∈ B, (A.filter fun a => f a == b).length ≤ d) → A.length ≤ B.length * d
  | [], A, h, _ => by
    cases A with
    | nil => simp
    | cons a r => exact absurd (h a List.mem_cons_self) (by simp)
  | b :: B, A, h, hd => by
    have e : A.length = (A.filter fun a => f a == b).length + (A.filter fun a => !(f a == b)).length := len_split (fun a => f a == b) A
    have ih := fiber (f := f) (d := d) (B := B) (A := A.filter fun a => !(f a == b)) (fun a ha => by
      obtain ⟨h1, h2⟩ := List.mem_filter.mp ha
      rcases List.mem_cons.mp (h a h1) with e | h3
      · rw [e] at h2
        simp at h2
      · exact h3) (fun c hc => by
      refine Nat.le_trans ?_ (hd c (List.mem_cons_of_mem _ hc))
      exact (List.Sublist.filter _ List.filter_sublist).length_le)
    have h0 := hd b List.mem_cons_self
    rw [List.length_cons, Nat.succ_mul]
    omega
section
variable {lot low mid high : List Int} {R : List Row}
theorem low_mem (h1 : ∀ x ∈ low, x ∈ high) {r : Row} (hr : r ∈ proj lot high R) : part high low r ∈ proj lot low R := by
  obtain ⟨q, hq, e⟩ := mem_proj.mp hr
  rw [← e, part_part h1]
  exact mem_proj.mpr ⟨q, hq, rfl⟩
theorem deg_mul (h1 : ∀ x ∈ low, x ∈ mid) (h2 : ∀ x ∈ mid, x ∈ high) : deg lot low high R ≤ deg lot low mid R * deg lot mid high R := by
  refine degL_le fun k _ => ?_
  unfold low_
  rw [count_part]
  refine Nat.le_trans (fiber (f := part high mid) (d := deg lot mid high R) (B := (proj lot mid R).filter fun m => part mid low m == k) (fun a ha => ?_) fun b _ => ?_) (Nat.mul_le_mul_right _ ?_)
  · obtain ⟨a1, a2⟩ := List.mem_filter.mp ha
    refine List.mem_filter.mpr ⟨low_mem h2 a1, ?_⟩
    rw [← show part high low a = k by simpa using a2]
    obtain ⟨q, hq, e⟩ := mem_proj.mp a1
    rw [← e, part_part h2, part_part h1, part_part (fun x hx => h2 x (h1 x hx))]
    simp
  · refine Nat.le_trans ?_ (count_le (k := b))
    unfold low_
    rw [count_part]
    exact (List.Sublist.filter _ List.filter_sublist).length_le
  · rw [← count_part]
    exact count_le
theorem proj_le_mul (h1 : ∀ x ∈ low, x ∈ high) : (proj lot high R).length ≤ (proj lot low R).length * deg lot low high R :=
  fiber (f := part high low) (fun a ha => low_mem h1 ha) fun b _ => by
    rw [← count_part]
    exact count_le
theorem proj_le (h1 : ∀ x ∈ low, x ∈ high) : (proj lot low R).length ≤ (proj lot high R).length := by
  have h : (proj lot low R).length ≤ ((proj lot high R).map (part high low)).length := proj_nodup.length_le_of_subset fun z hz => by
    obtain ⟨q, hq, e⟩ := mem_proj.mp hz
    exact List.mem_map.mpr ⟨part lot high q, mem_proj.mpr ⟨q, hq, rfl⟩, by rw [part_part h1, e]⟩
  rw [List.length_map] at h
  exact h
theorem deg_le : deg lot low high R ≤ (proj lot high R).length := degL_le fun k _ => by
  have := List.count_le_length (a := k) (l := low_ lot low high R)
  unfold low_ at this ⊢
  rw [List.length_map] at this
  exact this
theorem deg_nil : deg lot [] high R = (proj lot high R).length := by
  refine Nat.le_antisymm deg_le ?_
  refine Nat.le_trans ?_ (count_le (k := []))
  unfold low_
  rw [count_part]
  refine Nat.le_of_eq ?_
  rw [List.filter_eq_self.mpr]
  intro a _
  rfl
theorem deg_more {low2 high2 more : List Int} (hl : ∀ x, x ∈ low2 ↔ x ∈ low ∨ x ∈ more) (hh : ∀ x, x ∈ high2 ↔ x ∈ high ∨ x ∈ more) (h1 : ∀ x ∈ low, x ∈ high) : deg lot low2 high2 R ≤ deg lot low high R := by
  have sub : ∀ x ∈ high, x ∈ high2 := fun x hx => (hh x).mpr (.inl hx)
  have subl : ∀ x ∈ low2, x ∈ high2 := fun x hx => (hh x).mpr (((hl x).mp hx).imp (h1 x) id)
  have lowlow : ∀ x ∈ low, x ∈ low2 := fun x hx => (hl x).mpr (.inl hx)
  refine degL_le fun k _ => ?_
  unfold low_
  rw [count_part]
  refine Nat.le_trans ?_ (count_le (k := part low2 low k))
  unfold low_
  rw [count_part]
  have nd : (((proj lot high2 R).filter fun r => part high2 low2 r == k).map (part high2 high)).Nodup := by
    refine List.pairwise_map.mpr (List.Pairwise.imp_of_mem (fun {a b} ha hb hne e => hne ?_) (List.Pairwise.sublist List.filter_sublist proj_nodup))
    obtain ⟨a1, a2⟩ := List.mem_filter.mp ha
    obtain ⟨b1, b2⟩ := List.mem_filter.mp hb
    have ea : part high2 low2 a = k := by simpa using a2
    have eb : part high2 low2 b = k := by simpa using b2
    obtain ⟨p, hp, e1⟩ := mem_proj.mp a1
    obtain ⟨q, hq, e2⟩ := mem_proj.mp b1
    subst e1
    subst e2
    rw [part_part sub, part_part sub] at e
    rw [part_part subl] at ea eb
    -- each letter of high2 is one of high or one of more
    unfold part
    refine List.map_congr_left fun x hx => ?_
    rcases (hh x).mp hx with h | h
    · rw [← part_at (lot := lot) (some := high) (r := p) h, ← part_at (lot := lot) (some := high) (r := q) h, e]
    · have hx2 : x ∈ low2 := (hl x).mpr (.inr h)
      rw [← part_at (lot := lot) (some := low2) (r := p) hx2, ← part_at (lot := lot) (some := low2) (r := q) hx2, ea, eb]
  have h := nd.length_le_of_subset (l₂ := (proj lot high R).filter fun r => part high low r == part low2 low k) fun z hz => by
    obtain ⟨r, hr, e⟩ := List.mem_map.mp hz
    obtain ⟨r1, r2⟩ := List.mem_filter.mp hr
    have er : part high2 low2 r = k := by simpa using r2
    rw [← e]
    refine List.mem_filter.mpr ⟨low_mem sub r1, ?_⟩
    obtain ⟨q, hq, e1⟩ := mem_proj.mp r1
    rw [← er, ← e1, part_part sub, part_part h1, part_part subl, part_part lowlow]
    simp
  rw [List.length_map] at h
  exact h
theorem deg_some {R2 : List Row} (h : ∀ r ∈ R2, r ∈ R) : deg lot low high R2 ≤ deg lot low high R := by
  refine degL_le fun k _ => ?_
  refine Nat.le_trans ?_ (count_le (k := k))
  unfold low_
  rw [count_part, count_part]
  refine List.Nodup.length_le_of_subset (List.Pairwise.sublist List.filter_sublist proj_nodup) fun z hz => ?_
  obtain ⟨z1, z2⟩ := List.mem_filter.mp hz
  refine List.mem_filter.mpr ⟨?_, z2⟩
  obtain ⟨q, hq, e⟩ := mem_proj.mp z1
  exact mem_proj.mpr ⟨q, h q hq, e⟩
def sect (lot low rest : List Int) (R : List Row) (row : Row) : List Row := uniq ((R.filter fun r => part lot low r == row).map (part lot rest))
theorem sect_len {rest : List Int} (hn : R.Nodup) (hlen : ∀ r ∈ R, r.length = lot.length) (hlot : lot.Nodup) (hr : ∀ x, x ∈ rest ↔ x ∈ lot ∧ x ∉ low) {row : Row} :
    (sect lot low rest R row).length = (R.map (part lot low)).count row := by
  rw [count_part]
  have nd : ((R.filter fun r => part lot low r == row).map (part lot rest)).Nodup := by
    refine List.pairwise_map.mpr (List.Pairwise.imp_of_mem (fun {a b} ha hb hne e => hne ?_) (List.Pairwise.sublist List.filter_sublist hn))
    obtain ⟨a1, a2⟩ := List.mem_filter.mp ha
    obtain ⟨b1, b2⟩ := List.mem_filter.mp hb
    have ea : part lot low a = row := by simpa using a2
    have eb : part lot low b = row := by simpa using b2
    rw [← part_self hlot (hlen a a1), ← part_self hlot (hlen b b1)]
    unfold part
    refine List.map_congr_left fun x hx => ?_
    by_cases c : x ∈ low
    · rw [← part_at (lot := lot) (some := low) (r := a) c, ← part_at (lot := lot) (some := low) (r := b) c, ea, eb]
    · have h : x ∈ rest := (hr x).mpr ⟨hx, c⟩
      rw [← part_at (lot := lot) (some := rest) (r := a) h, ← part_at (lot := lot) (some := rest) (r := b) h, e]
  have pm : (sect lot low rest R row).Perm ((R.filter fun r => part lot low r == row).map (part lot rest)) := (List.perm_ext_iff_of_nodup (uniq_nodup _) nd).mpr fun z => mem_uniq
  rw [pm.length_eq, List.length_map]
theorem proj_self (hn : R.Nodup) (hs : SrtK R) (hlen : ∀ r ∈ R, r.length = lot.length) (hlot : lot.Nodup) : proj lot lot R = R := by
  unfold proj
  have e : R.map (part lot lot) = R := by
    conv => rhs; rw [← List.map_id R]
    exact List.map_congr_left fun r hr => part_self hlot (hlen r hr)
  rw [e]
  exact uniq_id hn hs
theorem sections_top {rest : List Int} (hn : R.Nodup) (hs : SrtK R) (hlen : ∀ r ∈ R, r.length = lot.length) (hlot : lot.Nodup) (hr : ∀ x, x ∈ rest ↔ x ∈ lot ∧ x ∉ low) :
    top ((proj lot low R).map fun row => (sect lot low rest R row).length) = deg lot low lot R := by
  unfold deg degL low_
  rw [proj_self hn hs hlen hlot]
  refine top_ext fun x => ?_
  simp only [List.mem_map]
  constructor
  · rintro ⟨row, h1, e⟩
    obtain ⟨r, hr', e1⟩ := mem_proj.mp h1
    exact ⟨row, ⟨r, hr', e1⟩, by rw [← e, sect_len hn hlen hlot hr]⟩
  · rintro ⟨row, ⟨r, hr', e1⟩, e⟩
    exact ⟨row, mem_proj.mpr ⟨r, hr', e1⟩, by rw [← e, sect_len hn hlen hlot hr]⟩
end
end Tb
set_option Elab.async false
set_option linter.all false
set_option maxRecDepth 100000
namespace Tb
open PySem PySem.Spec PyProof.Rows L2 Mv
abbrev Kt (l : List Int) : VV := .ktu (l.map VV.int)
abbrev Rs (R : List Row) : VV := .tup (R.map tupV)
abbrev Rl (R : List Row) : VV := .lst (R.map tupV)
theorem fn_rt {n p : Nat} {body : MS} {vs : List VV} {s0 : Sl} {v : VV} {h h1 : VH} (hl : vs.length = p) (hs : startS n p vs = s0) (e : body s0 h = .rt v h1) : fnM n p body vs h = .ok v h1 := by simp [fnM, hl, hs, e]
theorem isi_row {cs : List Nat} {r : Row} {h : VH} : isiIF cs [tupV r, .ty .tuple] h = .ok (.bl true) h := rfl
theorem isi_Rs {cs : List Nat} {R : List Row} {h : VH} : isiIF cs [Rs R, .ty .tuple] h = .ok (.bl true) h := rfl
theorem len_row {r : Row} {h : VH} : lenAF [tupV r] h = .ok (.int (r.length : Nat)) h := by simp [lenAF, dictT, dictK, lenF, tupV]
theorem len_Kt {r : Row} {h : VH} : lenAF [Kt r] h = .ok (.int (r.length : Nat)) h := by simp [lenAF, dictT, dictK, lenF, Kt]
theorem len_Rs {R : List Row} {h : VH} : lenAF [Rs R] h = .ok (.int (R.length : Nat)) h := by simp [lenAF, dictT, dictK, lenF, Rs]
theorem seq_row {m : ME} {sv : Sv} {h h1 : VH} {r : Row} (e : m sv h = .ok (tupV r) h1) : seqA m sv h = .ok (r.map VV.int) h1 := by simp [seqA, e, Out.bind, tupV]
theorem seq_Kt {m : ME} {sv : Sv} {h h1 : VH} {r : Row} (e : m sv h = .ok (Kt r) h1) : seqA m sv h = .ok (r.map VV.int) h1 := by simp [seqA, e, Out.bind, Kt]
theorem seq_Rs {m : ME} {sv : Sv} {h h1 : VH} {R : List Row} (e : m sv h = .ok (Rs R) h1) : seqA m sv h = .ok (R.map tupV) h1 := by simp [seqA, e, Out.bind, Rs]
theorem seq_Rl {m : ME} {sv : Sv} {h h1 : VH} {R : List Row} (e : m sv h = .ok (Rl R) h1) : seqA m sv h = .ok (R.map tupV) h1 := by simp [seqA, e, Out.bind, Rl]
theorem toPys_int : ∀ l : List Int, toPys (l.map VV.int) = some (l.map PyData.int)
  | [] => rfl
  | x :: l => by simp [toPys, toPy, toPys_int l]
theorem lay_int : ∀ l : List Int, PyData.canLayAll0 (l.map PyData.int) = true
  | [] => rfl
  | x :: l => by simp [PyData.canLayAll0, PyData.canLay0, lay_int l]
theorem depth_int : ∀ l : List Int, PyData.depthAll (l.map PyData.int) ≤ 1
  | [] => by simp [PyData.depthAll]
  | x :: l => by
    have := depth_int l
    simp [PyData.depthAll, PyData.depth]
    omega
theorem eqvAll_int : ∀ a b : List Int, PyData.eqvAll (a.map PyData.int) (b.map PyData.int) = decide (a = b)
  | [], [] => by simp [PyData.eqvAll]
  | [], y :: b => by simp [PyData.eqvAll]
  | x :: a, [] => by simp [PyData.eqvAll]
  | x :: a, y :: b => by
    simp only [List.map_cons, PyData.eqvAll, eqvAll_int a b, PyData.eqv]
    by_cases c : x = y <;> simp [c]
def pyT (r : Row) : PyData := .tuple (r.map PyData.int)
theorem toPy_tupV (r : Row) : toPy (tupV r) = some (pyT r) := by simp [toPy, tupV, toPys_int, pyT]
theorem toPy_Kt (r : Row) : toPy (Kt r) = some (pyT r) := by simp [toPy, Kt, toPys_int, pyT]
theorem toPys_rows : ∀ R : List Row, toPys (R.map tupV) = some (R.map pyT)
  | [] => rfl
  | r :: R => by simp [toPys, toPy_tupV, toPys_rows R]
theorem lay_pyT (r : Row) : PyData.canLay0 (pyT r) = true := by simp [pyT, PyData.canLay0, lay_int]
theorem lay_rows : ∀ R : List Row, PyData.canLayAll0 (R.map pyT) = true
  | [] => rfl
  | r :: R => by simp [PyData.canLayAll0, lay_pyT, lay_rows R]
theorem depth_pyT (r : Row) : PyData.depth (pyT r) ≤ 2 := by
  have := depth_int r
  simp [pyT, PyData.depth]
  omega
theorem depth_rows : ∀ R : List Row, PyData.depthAll (R.map pyT) ≤ 2
  | [] => by simp [PyData.depthAll]
  | r :: R => by
    have h1 := depth_rows R
    have h2 := depth_pyT r
    simp [PyData.depthAll]
    omega
theorem eqv_pyT (a b : Row) : PyData.eqv (pyT a) (pyT b) = decide (a = b) := by simp [pyT, PyData.eqv, eqvAll_int]
theorem eqvAll_rows : ∀ A B : List Row, PyData.eqvAll (A.map pyT) (B.map pyT) = decide (A = B)
  | [], [] => by simp [PyData.eqvAll]
  | [], y :: b => by simp [PyData.eqvAll]
  | x :: a, [] => by simp [PyData.eqvAll]
  | x :: a, y :: b => by
    simp only [List.map_cons, PyData.eqvAll, eqvAll_rows a b, eqv_pyT]
    by_cases c : x = y <;> simp [c]
theorem shaped_pyT (r : Row) : SeqAt.shaped (pyT r) = true := by
  have := depth_pyT r
  simp [SeqAt.shaped, lay_pyT]
  omega
theorem shaped_list (R : List Row) : SeqAt.shaped (.list (R.map pyT)) = true := by
  have := depth_rows R
  simp [SeqAt.shaped, PyData.canLay0, lay_rows, PyData.depth]
  omega
theorem eqO_tupV (a b : Row) : eqO (tupV a) (tupV b) = some (decide (a = b)) := by simp [eqO, toPy_tupV, shaped_pyT, eqv_pyT]
theorem eqO_Rl (A B : List Row) : eqO (Rl A) (Rl B) = some (decide (A = B)) := by
  simp [eqO, toPy, toPys_rows, shaped_list, PyData.eqv, eqvAll_rows]
theorem eqO_int (a b : Int) : eqO (.int a) (.int b) = some (decide (a = b)) := by
  have e1 : SeqAt.shaped (.int a) = true := by simp [SeqAt.shaped, PyData.canLay0, PyData.depth]
  have e2 : SeqAt.shaped (.int b) = true := by simp [SeqAt.shaped, PyData.canLay0, PyData.depth]
  simp [eqO, toPy, e1, e2, PyData.eqv]
  by_cases c : a = b <;> simp [c]
theorem lcGo_spec {sv : Sv} {mg : MG} {t : MT} {e : ME} {p : VV → Bool} {f : VV → VV} {h : VH} : ∀ (items : List VV), (∀ v ∈ items, ∃ asg, mg v = some asg ∧ t (setsV asg sv) h = .ok (p v) h ∧ (p v = true → e (setsV asg sv) h = .ok (f v) h)) → lcGo sv mg t e items h = .ok ((items.filter p).map f) h
  | [], _ => rfl
  | v :: r, hm => by
    obtain ⟨asg, h1, h2, h3⟩ := hm v List.mem_cons_self
    have ih := lcGo_spec r fun u hu => hm u (List.mem_cons_of_mem _ hu)
    simp only [lcGo, h1, h2, Out.nox, Out.bind]
    cases c : p v with
    | true => simp [h3 c, ih, c, Out.nox, Out.bind]
    | false => simp [ih, c]
theorem lc_at {it : MI} {sv : Sv} {h h1 : VH} {i : Nat} {t : MT} {e : ME} {items : List VV} (p : VV → Bool) (f : VV → VV) (hi : it sv h = .ok items h1) (hf : fits items.length = true)
    (hm : ∀ v ∈ items, t ((sv.set i none).set i (some v)) h1 = .ok (p v) h1 ∧ (p v = true → e ((sv.set i none).set i (some v)) h1 = .ok (f v) h1)) : lcM it (nameG i) [i] t e sv h = .ok (.lst ((items.filter p).map f)) h1 := by
  have k := lcGo_spec (sv := wipeS sv [i]) (mg := nameG i) (t := t) (e := e) (p := p) (f := f) (h := h1) items fun v hv => ⟨[(i, v)], rfl, (hm v hv).1, (hm v hv).2⟩
  simp only [lcM, hi, Out.bind, hf, if_true, k]
theorem lc_all {it : MI} {sv : Sv} {h h1 : VH} {i : Nat} {e : ME} {items : List VV} (f : VV → VV) (hi : it sv h = .ok items h1) (hf : fits items.length = true)
    (hm : ∀ v ∈ items, e ((sv.set i none).set i (some v)) h1 = .ok (f v) h1) : lcM it (nameG i) [i] yesT e sv h = .ok (.lst (items.map f)) h1 := by
  have k := lc_at (t := yesT) (fun _ => true) f hi hf fun v hv => ⟨rfl, fun _ => hm v hv⟩
  rwa [List.filter_eq_self.mpr (fun _ _ => rfl)] at k
theorem allBl_of : ∀ l : List Bool, allBl (l.map VV.bl) = some l
  | [] => rfl
  | x :: l => by simp [allBl, allBl_of l]
theorem allF_of (l : List Bool) (h : VH) : allF [.lst (l.map VV.bl)] h = .ok (.bl (l.all id)) h := by simp [allF, allBl_of]
theorem allF_true {vs : List VV} (hv : ∀ v ∈ vs, v = .bl true) (h : VH) : allF [.lst vs] h = .ok (.bl true) h := by
  have e : vs = (vs.map fun _ => true).map VV.bl := by
    rw [List.map_map]
    conv => lhs; rw [← List.map_id vs]
    exact List.map_congr_left fun v hv' => hv v hv'
  rw [e, allF_of]
  congr 2
  simp
theorem allIt_int : ∀ l : List Int, allIt (l.map VV.int) = some l
  | [] => rfl
  | x :: l => by
    show (allIt (l.map VV.int)).map (fun r => x :: r) = _
    rw [allIt_int l]
    rfl
theorem scVs_int : ∀ l : List Int, scVs (l.map VV.int) = some (l.map V.int)
  | [] => rfl
  | x :: l => by simp [scVs, scV, scVs_int l]
theorem eqV_ii (x y : Int) : L2.eqV (.int x) (.int y) = decide (y = x) := by
  show (x == y) = decide (y = x)
  by_cases c : y = x
  · subst c; simp
  · rw [decide_eq_false c]
    exact beq_eq_false_iff_ne.mpr fun z => c z.symm
theorem inV_int (x : Int) : ∀ l : List Int, L2.inV (.int x) (l.map V.int) = decide (x ∈ l)
  | [] => rfl
  | y :: l => by
    have ih := inV_int x l
    unfold L2.inV at ih ⊢
    rw [List.map_cons, List.any_cons, ih, eqV_ii]
    by_cases c : x = y <;> simp [c]
theorem inA_Kt {neg : Bool} {x : Int} {l : List Int} {h : VH} : inA neg (.int x) (Kt l) h = .ok (.bl (if neg then !decide (x ∈ l) else decide (x ∈ l))) h := by
  simp [inA, dgetO, dictT, dictK, inF, seqOf, scV, scVs_int, inV_int]
theorem idxGo_int (x : Int) : ∀ (l : List Int) (n : Nat), x ∈ l → idxGo (.int x) (l.map V.int) n = some (n + l.idxOf x)
  | y :: l, n, h => by
    rw [List.map_cons]
    unfold idxGo
    rw [eqV_ii]
    by_cases c : x = y
    · subst c
      simp
    · rw [decide_eq_false c, if_neg Bool.false_ne_true]
      have hm : x ∈ l := (List.mem_cons.mp h).resolve_left c
      rw [idxGo_int x l (n + 1) hm, List.idxOf_cons, show (y == x) = false from beq_eq_false_iff_ne.mpr fun z => c z.symm]
      simp
      omega
theorem index_ok {mo : ME} {a : MA} {sv : Sv} {h h1 h2 : VH} {l : List Int} {x : Int} (ho : mo sv h = .ok (Kt l) h1) (ha : a sv h1 = .ok [.int x] h2) (hx : x ∈ l) : indexM mo a sv h = .ok (.int (l.idxOf x : Nat)) h2 := by
  have k := idxGo_int x l 0 hx
  rw [Nat.zero_add] at k
  simp only [indexM, ho, ha, Out.bind, scV, scVs_int, k]
theorem atI_nat {vs : List VV} {i : Nat} {v : VV} (h : vs[i]? = some v) : atI vs (i : Int) = some v := by
  obtain ⟨hl, e⟩ := List.getElem?_eq_some_iff.mp h
  simp [atI, ixN, hl, e]
theorem ixA_tup {vs : List VV} {i : Nat} {v : VV} {h : VH} (e : vs[i]? = some v) : ixA (.tup vs) (.int (i : Nat)) h = .ok v h := by
  simp [ixA, dgetO, dictT, dictK, ixV, atI_nat e]
theorem ixA_row {r : Row} {i : Nat} {h : VH} (hi : i < r.length) : ixA (tupV r) (.int (i : Nat)) h = .ok (.int (r.getD i 0)) h := by
  refine ixA_tup ?_
  rw [List.getElem?_map, List.getElem?_eq_getElem hi, List.getD_eq_getElem?_getD, List.getElem?_eq_getElem hi]
  rfl
theorem tupKs_rows : ∀ R : List Row, tupKs (R.map tupV) = some R
  | [] => rfl
  | r :: R => by
    show (allIt (r.map VV.int)).bind (fun n => (tupKs (R.map tupV)).map fun ns => n :: ns) = _
    rw [allIt_int, tupKs_rows R]
    rfl
theorem okK_len {R : List Row} {d : Nat} (h : ∀ r ∈ R, r.length = d) : okK R = true := by
  cases R with
  | nil => rfl
  | cons r R =>
    cases r with
    | nil => rfl
    | cons x r =>
      show ((x :: r) :: R).all (fun n => !n.isEmpty) = true
      rw [List.all_eq_true]
      intro n hn
      have h1 := h n hn
      have h2 := h (x :: r) List.mem_cons_self
      cases n with
      | nil => simp at h1 h2; omega
      | cons _ _ => rfl
theorem sortedA_tup {R : List Row} {d : Nat} {h : VH} (hl : ∀ r ∈ R, r.length = d) : sortedAF [Rs R] h = .ok (Rl (sortK R)) h := by
  simp [sortedAF, tupKs_rows, okK_len hl]
theorem sortedA_lst {R : List Row} {d : Nat} {h : VH} (hl : ∀ r ∈ R, r.length = d) : sortedAF [Rl R] h = .ok (Rl (sortK R)) h := by
  cases R with
  | nil => rfl
  | cons r R =>
    have e : allIt ((r :: R).map tupV) = none := rfl
    have e2 := tupKs_rows (r :: R)
    have e3 := okK_len hl
    simp only [sortedAF, dictT, dictK, sortedLF, e, e2, e3, if_true]
theorem sortedA_dict {x : VV} {R : List Row} {vs : List VV} {d : Nat} {h : VH} (hx : dictT h x = some (R.map tupV, vs)) (hl : ∀ r ∈ R, r.length = d) : sortedAF [x] h = .ok (Rl (sortK R)) h := by
  cases x <;> simp only [dictT, reduceCtorEq] at hx <;> simp only [sortedAF, dictT, hx, tupKs_rows, okK_len hl, if_true]
theorem eqKs_len {R : List Row} {d : Nat} (h : ∀ r ∈ R, r.length = d) : eqKs R = true := by
  unfold eqKs
  cases d with
  | zero =>
    rw [Bool.or_eq_true]
    left
    rw [List.all_eq_true]
    intro r hr
    have := h r hr
    cases r with
    | nil => rfl
    | cons _ _ => simp at this
  | succ d =>
    rw [Bool.or_eq_true]
    right
    rw [List.all_eq_true]
    intro r hr
    have := h r hr
    cases r with
    | nil => simp at this
    | cons _ _ => rfl
theorem sortedSet_ok {R : List Row} {d : Nat} {h : VH} (hl : ∀ r ∈ R, r.length = d) (hn : (dedK R).length < 63) : sortedSetTF [Rl R] h = .ok (Rl (uniq R)) h := by
  simp [sortedSetTF, tupKs_rows, eqKs_len hl, hn, uniq]
theorem keysOf_int : ∀ r : Row, keysOf (r.map VV.int) = some (r.map Sum.inl)
  | [] => rfl
  | x :: r => by
    show (keyOf (.int x)).bind (fun k => (keysOf (r.map VV.int)).map fun ks => k :: ks) = _
    rw [keysOf_int r]
    rfl
theorem keyT_row (r : Row) : keyT (tupV r) = some (r.map Sum.inl) := keysOf_int r
theorem keyU_row (r : Row) : keyU (tupV r) = some (tupV r) := by simp [keyU, tupV, keysOf_int]
theorem sameT_row (a b : Row) : sameT (tupV a) (tupV b) = decide (a = b) := by
  have e : ∀ r : Row, tupV r = .tup ((r.map (Sum.inl : Int → Key)).map vvK) := fun r => by rw [List.map_map]; rfl
  rw [e a, e b, sameT_vvK]
  refine decide_eq_decide.mpr ⟨fun h => ?_, fun h => by rw [h]⟩
  exact List.map_inj_right (fun x y z => Sum.inl.inj z) |>.mp h
abbrev Ps := List (Row × VV)
def ksP (ps : Ps) : List VV := ps.map fun p => tupV p.1
def vsP (ps : Ps) : List VV := ps.map fun p => p.2
def insP (ps : Ps) (k : Row) (v : VV) : Ps := if ps.any (fun p => decide (p.1 = k)) then ps.map (fun p => if p.1 = k then (p.1, v) else p) else ps ++ [(k, v)]
theorem any_ksP (k : Row) : ∀ ps : Ps, (ksP ps).any (fun x => sameT x (tupV k)) = ps.any fun p => decide (p.1 = k)
  | [] => rfl
  | p :: ps => by
    have ih := any_ksP k ps
    unfold ksP at ih ⊢
    rw [List.map_cons, List.any_cons, List.any_cons, sameT_row, ih]
theorem zip_ksP (k : Row) (v : VV) : ∀ ps : Ps, List.zipWith (fun x y => if sameT x (tupV k) then v else y) (ksP ps) (vsP ps) = vsP (ps.map fun p => if p.1 = k then (p.1, v) else p)
  | [] => rfl
  | p :: ps => by
    have ih := zip_ksP k v ps
    unfold ksP vsP at ih ⊢
    rw [List.map_cons, List.map_cons, List.zipWith_cons_cons, ih, sameT_row]
    simp only [List.map_cons]
    by_cases c : p.1 = k <;> simp [c]
theorem ksP_map (k : Row) (v : VV) (ps : Ps) : ksP (ps.map fun p => if p.1 = k then (p.1, v) else p) = ksP ps := by
  unfold ksP
  rw [List.map_map]
  refine List.map_congr_left fun p _ => ?_
  by_cases c : p.1 = k <;> simp [c]
theorem putT_P (ps : Ps) (k : Row) (v : VV) : putT (ksP ps) (vsP ps) (tupV k) v = (ksP (insP ps k v), vsP (insP ps k v)) := by
  unfold putT insP
  rw [any_ksP]
  split
  · rw [zip_ksP, ksP_map]
  · simp [ksP, vsP]
theorem findT_P (k : Row) : ∀ ps : Ps, findT (ksP ps) (vsP ps) (tupV k) = (ps.find? fun p => decide (p.1 = k)).map fun p => p.2
  | [] => rfl
  | p :: ps => by
    have ih := findT_P k ps
    unfold ksP vsP at ih ⊢
    rw [List.map_cons, List.map_cons]
    unfold findT
    rw [sameT_row, ih, List.find?_cons]
    by_cases c : p.1 = k <;> simp [c]
def fo : List Row → List Row
  | [] => []
  | x :: xs => x :: (fo xs).filter fun y => !decide (y = x)
theorem mem_fo (z : Row) : ∀ l : List Row, z ∈ fo l ↔ z ∈ l
  | [] => by simp [fo]
  | x :: xs => by
    have ih := mem_fo z xs
    simp only [fo, List.mem_cons, List.mem_filter, ih]
    by_cases c : z = x <;> simp [c]
theorem fo_nodup : ∀ l : List Row, (fo l).Nodup
  | [] => List.nodup_nil
  | x :: xs => by
    unfold fo
    rw [List.nodup_cons]
    refine ⟨fun h => ?_, List.Pairwise.sublist List.filter_sublist (fo_nodup xs)⟩
    have := (List.mem_filter.mp h).2
    simp at this
theorem fo_snoc (x : Row) : ∀ l : List Row, fo (l ++ [x]) = if x ∈ l then fo l else fo l ++ [x]
  | [] => by simp [fo]
  | y :: l => by
    have ih := fo_snoc x l
    rw [List.cons_append]
    unfold fo
    rw [ih]
    by_cases c : x = y
    · subst c
      rw [if_pos List.mem_cons_self]
      split
      · rfl
      · rw [List.filter_append]
        simp
    · by_cases c2 : x ∈ l
      · rw [if_pos c2, if_pos (List.mem_cons_of_mem _ c2)]
      · rw [if_neg c2, if_neg (by simp [c, c2]), List.filter_append]
        simp [c]
theorem fo_sorted {R : List Row} (h : SrtK R) : SrtK (fo R) := by
  have sub : ∀ l : List Row, List.Sublist (fo l) l := fun l => by
    induction l with
    | nil => exact List.Sublist.refl _
    | cons x l ih =>
      unfold fo
      exact (List.filter_sublist.trans ih).cons_cons x
  exact List.Pairwise.sublist (sub R) h
theorem fo_sortK (R : List Row) : fo (sortK R) = uniq R := (uniq_of (fo_nodup _) (fo_sorted (sortK_sorted R)) fun z => by rw [mem_fo, (sortK_perm R).mem_iff]).symm
def marks (R : List Row) : Ps := R.map fun r => (r, .bl true)
theorem ins_marks (R : List Row) (r : Row) : insP (marks (fo R)) r (.bl true) = marks (fo (R ++ [r])) := by
  unfold insP marks
  have e : ((fo R).map fun r => ((r, VV.bl true) : Row × VV)).any (fun p => decide (p.1 = r)) = decide (r ∈ R) := by
    rw [List.any_map, Bool.eq_iff_iff, List.any_eq_true]
    simp only [Function.comp, decide_eq_true_eq]
    constructor
    · rintro ⟨x, hx, rfl⟩
      exact (mem_fo _ _).mp hx
    · intro h
      exact ⟨r, (mem_fo _ _).mpr h, rfl⟩
  rw [e, fo_snoc]
  by_cases c : r ∈ R
  · rw [decide_eq_true c, if_pos rfl, if_pos c, List.map_map]
    refine List.map_congr_left fun x _ => ?_
    by_cases c2 : x = r <;> simp [c2]
  · rw [decide_eq_false c, if_neg Bool.false_ne_true, if_neg c]
    simp
theorem dcT_marks {sv : Sv} {i : Nat} {h : VH} (hi : i < sv.length) : ∀ (L : List Row) (R : List Row), dcTGo sv (nameG i) yesT (varM i) (cM (.bl true)) (L.map tupV) (ksP (marks (fo R)), vsP (marks (fo R))) h = .ok (ksP (marks (fo (R ++ L))), vsP (marks (fo (R ++ L)))) h
  | [], R => by simp [dcTGo]
  | r :: L, R => by
    have e1 : (sv.set i (some (tupV r)))[i]? = some (some (tupV r)) := by simp [hi]
    have ih := dcT_marks hi L (R ++ [r]) (h := h)
    rw [List.append_assoc] at ih
    have e2 := putT_P (marks (fo R)) r (.bl true)
    rw [ins_marks] at e2
    simp only [List.map_cons, dcTGo, nameG, setsV, yesT, Out.nox, Out.bind, if_true, varM, e1, cM, keyT_row, e2]
    exact ih
theorem ksP_marks (R : List Row) : ksP (marks R) = R.map tupV := by simp [ksP, marks]
theorem vsP_marks (R : List Row) : vsP (marks R) = R.map fun _ => VV.bl true := by simp [vsP, marks]
def tally (L : List Row) : Ps := (fo L).map fun k => (k, .int (L.count k : Nat))
theorem find_map (f : Row → VV) (k : Row) : ∀ l : List Row, (l.map fun x => ((x, f x) : Row × VV)).find? (fun p => decide (p.1 = k)) = if k ∈ l then some (k, f k) else none
  | [] => rfl
  | x :: l => by
    rw [List.map_cons, List.find?_cons, find_map f k l]
    by_cases c : x = k
    · subst c; simp
    · have c2 : ¬ k = x := fun z => c z.symm
      simp [c, c2]
theorem find_tally (L : List Row) (k : Row) : ((tally L).find? fun p => decide (p.1 = k)).map (fun p => p.2) = if k ∈ L then some (.int (L.count k : Nat)) else none := by
  unfold tally
  rw [find_map]
  by_cases c : k ∈ L
  · rw [if_pos c, if_pos ((mem_fo k L).mpr c)]
    rfl
  · rw [if_neg c, if_neg fun z => c ((mem_fo k L).mp z)]
    rfl
theorem ins_tally (L : List Row) (k : Row) : insP (tally L) k (.int ((L.count k : Nat) + 1 : Nat)) = tally (L ++ [k]) := by
  unfold insP tally
  have e : ((fo L).map fun k => ((k, VV.int (L.count k : Nat)) : Row × VV)).any (fun p => decide (p.1 = k)) = decide (k ∈ L) := by
    rw [List.any_map, Bool.eq_iff_iff, List.any_eq_true]
    simp only [Function.comp, decide_eq_true_eq]
    constructor
    · rintro ⟨x, hx, rfl⟩
      exact (mem_fo _ _).mp hx
    · intro h
      exact ⟨k, (mem_fo _ _).mpr h, rfl⟩
  rw [e, fo_snoc]
  by_cases c : k ∈ L
  · rw [decide_eq_true c, if_pos rfl, if_pos c, List.map_map]
    refine List.map_congr_left fun x _ => ?_
    by_cases c2 : x = k
    · subst c2; simp [List.count_append]
    · have c3 : ¬ k = x := fun z => c2 z.symm
      simp [c2, List.count_append, List.count_cons, c3]
  · rw [decide_eq_false c, if_neg Bool.false_ne_true, if_neg c, List.map_append]
    congr 1
    · refine List.map_congr_left fun x hx => ?_
      have c3 : ¬ k = x := fun z => c (by rw [z]; exact (mem_fo _ _).mp hx)
      simp [List.count_append, List.count_cons, c3]
    · simp [List.count_append, List.count_eq_zero.mpr c]
end Tb
set_option Elab.async false
set_option linter.all false
set_option maxRecDepth 100000
namespace K05
open PySem PySem.Spec PyProof.Rows L2 Mv Tb
def subs : List Int → List (List Int)
  | [] => [[]]
  | x :: xs => (subs xs).map (fun l => x :: l) ++ subs xs
def lots : List (List Int) := subs [0, 1, 2, 3, 4, 5]
def oks (h : VH) : List VV → List (Out VV)
  | [] => []
  | v :: vs => .ok v h :: oks h vs
theorem oks_at {α : Type} {f : α → Out VV} {g : α → VV} {h : VH} : ∀ {l : List α}, l.map f = oks h (l.map g) → ∀ x ∈ l, f x = .ok (g x) h
  | [], _, x, hx => by cases hx
  | y :: l, e, x, hx => by
    simp only [List.map_cons, oks, List.cons.injEq] at e
    rcases List.mem_cons.mp hx with z | hx
    · rw [z]; exact e.1
    · exact oks_at e.2 x hx
theorem lot_is (h : VH) : ∀ a ∈ lots, m_is_lot [Kt a] h = .ok (.bl true) h := oks_at (g := fun _ => .bl true) (by kernel_rfl)
theorem require_ok (h : VH) : ∀ a ∈ lots, m_require_lot [Kt a] h = .ok .non h := oks_at (g := fun _ => .non) (by kernel_rfl)
def told (a : List Int) : Str := match m_lot_told [Kt a] [] with
  | .ok (.str s) _ => s
  | _ => ""
theorem told_ok (h : VH) : ∀ a ∈ lots, m_lot_told [Kt a] h = .ok (.str (told a)) h := oks_at (g := fun a => .str (told a)) (by kernel_rfl)
theorem lots_facts : ∀ a ∈ lots, a.Nodup ∧ a.length ≤ 6 ∧ ∀ x ∈ a, 0 ≤ x ∧ x < 6 := by decide +kernel
theorem lots_fits : ∀ a ∈ lots, fits a.length = true := by decide +kernel
def Small (r : List Int) : Prop := ∀ x ∈ r, -1000000000 < x ∧ x < 1000000000
theorem small_ok {x : Int} (h : VH) (h1 : -1000000000 < x) (h2 : x < 1000000000) : m_is_small [.int x] h = .ok (.bl true) h := by
  simp [m_is_small, b_is_small, m_is_whole, b_is_whole, fnM, startS, view, Slot.view, retV, andV, callF, consA, nilA, varM, cM, Out.bind, Out.toS, callM, isiIF, tyOf, subTy, notV, chainM, negM, ltV, cmpV, h1, h2]
theorem row_ok (h : VH) {lot : List Int} {r : List Int} (hl : r.length = lot.length) (hs : Small r) (hf : fits r.length = true) : m_is_row_in [Kt lot, tupV r] h = .ok (.bl true) h := by
  have e : lcM (seqA (varM 1)) (nameG 2) [2] yesT (callF m_is_small (consA (varM 2) nilA)) [some (Kt lot), some (tupV r), none] h = .ok (.lst ((r.map VV.int).map fun _ => .bl true)) h := by
    refine lc_all (fun _ => .bl true) (seq_row rfl) (by simpa using hf) fun v hv => ?_
    obtain ⟨x, hx, rfl⟩ := List.mem_map.mp hv
    obtain ⟨a, b⟩ := hs x hx
    simp [callF, consA, nilA, varM, Out.bind, small_ok h a b]
  have e2 := allF_true (vs := (r.map VV.int).map fun _ => VV.bl true) (fun v hv => by obtain ⟨_, _, e⟩ := List.mem_map.mp hv; exact e.symm) h
  have e3 : eqO (.int (r.length : Nat)) (.int (lot.length : Nat)) = some true := by rw [eqO_int, hl]; simp
  simp only [m_is_row_in, b_is_row_in, fnM, startS, view, Slot.view, List.map_cons, List.map_nil, List.length_cons, List.length_nil, List.replicate, List.cons_append, List.nil_append, Nat.reduceAdd, Nat.reduceSub, reduceIte, retV, andV, notV, callM, callF, consA, nilA, varM, cM, List.getElem?_cons_zero, List.getElem?_cons_succ, Out.bind, opM, Out.toS, Bool.false_eq_true, seqM, setM, dropM, ifS, notT, blM, skipM, List.set_cons_zero, List.set_cons_succ, Bool.not_true, Bool.not_false, isi_row, len_row, len_Kt, Mv.eqV, e3, e, e2]
end K05
set_option Elab.async false
set_option linter.all false
set_option maxRecDepth 100000
namespace K05
open PySem PySem.Spec PyProof.Rows L2 Mv Tb
theorem rows_ok (h : VH) {lot : List Int} {R : List (List Int)} (hn : R.length ≤ 1000) (hl : ∀ r ∈ R, r.length = lot.length ∧ Small r ∧ fits r.length = true) : m_are_rows [Kt lot, Rs R] h = .ok (.bl true) h := by
  have e : lcM (seqA (varM 1)) (nameG 2) [2] yesT (callF m_is_row_in (consA (varM 0) (consA (varM 2) nilA))) [some (Kt lot), some (Rs R), none] h = .ok (.lst ((R.map tupV).map fun _ => .bl true)) h := by
    refine lc_all (fun _ => .bl true) (seq_Rs rfl) (by rw [List.length_map]; exact Nat.ble_eq_true_of_le (by omega)) fun v hv => ?_
    obtain ⟨x, hx, rfl⟩ := List.mem_map.mp hv
    obtain ⟨a, b, c⟩ := hl x hx
    simp only [fnM, startS, view, Slot.view, List.map_cons, List.map_nil, List.length_cons, List.length_nil, List.replicate, List.cons_append, List.nil_append, Nat.reduceAdd, Nat.reduceSub, reduceIte, retV, andV, notV, callM, callF, consA, nilA, varM, cM, List.getElem?_cons_zero, List.getElem?_cons_succ, Out.bind, opM, Out.toS, Bool.false_eq_true, seqM, setM, dropM, ifS, notT, blM, skipM, List.set_cons_zero, List.set_cons_succ, Bool.not_true, Bool.not_false, List.set_cons_zero, row_ok h a b c]
  have e2 := allF_true (vs := (R.map tupV).map fun _ => VV.bl true) (fun v hv => by obtain ⟨_, _, e⟩ := List.mem_map.mp hv; exact e.symm) h
  have e3 : leV (.int (R.length : Nat)) (.int 1000) h = .ok (.bl true) h := by simp [leV, cmpV]; omega
  simp only [m_are_rows, b_are_rows, fnM, startS, view, Slot.view, List.map_cons, List.map_nil, List.length_cons, List.length_nil, List.replicate, List.cons_append, List.nil_append, Nat.reduceAdd, Nat.reduceSub, reduceIte, retV, andV, notV, callM, callF, consA, nilA, varM, cM, List.getElem?_cons_zero, List.getElem?_cons_succ, Out.bind, opM, Out.toS, Bool.false_eq_true, seqM, setM, dropM, ifS, notT, blM, skipM, List.set_cons_zero, List.set_cons_succ, Bool.not_true, Bool.not_false, isi_Rs, len_Rs, e3, e, e2]
def slots (L : VV) (R : List (List Int)) (s : Str) : List (Option VV) := [some L, some (Rs R), some (.dtt (R.map tupV) (R.map fun _ => VV.bl true)), some (.str s)]
def put2 (h : VH) (d n : Nat) (us : List (Option VV)) : VH := (h.set d (.sub true)).set n (.ins 0 d us)
theorem put2_put2 {h : VH} {d n : Nat} {us vs : List (Option VV)} (hd : d ≠ n) : put2 (put2 h d n us) d n vs = put2 h d n vs := by
  unfold put2
  rw [List.set_comm _ _ hd.symm, List.set_set, List.set_set]
theorem ins_put2 {h : VH} {d n : Nat} {us : List (Option VV)} (hd : d ≠ n) (h1 : d < h.length) (h2 : n < h.length) (hu : us.isEmpty = false) : insAt (put2 h d n us) n = some (0, d, us) := by
  unfold insAt put2
  have e1 : ((h.set d (.sub true)).set n (.ins 0 d us))[n]? = some (.ins 0 d us) := by simp [h2]
  have e2 : ((h.set d (.sub true)).set n (.ins 0 d us))[d]? = some (.sub true) := by simp [hd.symm, h1]
  rw [e1]
  simp only [e2, hu, Bool.not_false, beq_self_eq_true, if_true]
theorem keep_ok {h : VH} {n d : Nat} {us : List (Option VV)} {L x : VV} {R : List (List Int)} {s : Str} (hi : insAt h n = some (0, d, us)) (hu : us = [] ∨ us.length = 4) (hd : d ≠ n) (h1 : d < h.length) (h2 : n < h.length)
    (hx : ∀ h, sortedAF [x] h = .ok (Rl (sortK R)) h) (hf : fits R.length = true) (ht : ∀ h, m_lot_told [L] h = .ok (.str s) h) : m_Table_keep [.ref n, L, x] h = .ok .non (put2 h d n (slots L (uniq R) s)) := by
  have eD : dcTM (seqA (callM sortedAF (consA (varM 2) nilA))) (nameG 3) [3] yesT (varM 3) (cM (.bl true)) [some (.ref n), some L, some x, none] h = .ok (.dtt ((uniq R).map tupV) ((uniq R).map fun _ => VV.bl true)) h := by
    have k := dcT_marks (sv := [some (.ref n), some L, some x, none]) (i := 3) (h := h) (by simp) (sortK R) []
    have e0 : ksP (marks (fo [])) = [] := rfl
    have e1 : vsP (marks (fo [])) = [] := rfl
    rw [e0, e1, List.nil_append, fo_sortK, ksP_marks, vsP_marks] at k
    have eq : seqA (callM sortedAF (consA (varM 2) nilA)) [some (.ref n), some L, some x, none] h = .ok ((sortK R).map tupV) h := seq_Rl (by simp only [fnM, startS, view, Slot.view, List.map_cons, List.map_nil, List.length_cons, List.length_nil, List.replicate, List.cons_append, List.nil_append, Nat.reduceAdd, Nat.reduceSub, reduceIte, retV, andV, notV, callM, callF, consA, nilA, varM, cM, List.getElem?_cons_zero, List.getElem?_cons_succ, Out.bind, opM, Out.toS, Bool.false_eq_true, seqM, setM, dropM, ifS, notT, blM, skipM, List.set_cons_zero, List.set_cons_succ, Bool.not_true, Bool.not_false, hx])
    have f2 : fits ((sortK R).map tupV).length = true := by rw [List.length_map, (sortK_perm R).length_eq]; exact hf
    simp only [dcTM, eq, Out.bind, f2, if_true, wipeS, List.set_cons_succ, List.set_cons_zero, k]
  obtain ⟨us1, hus1⟩ : ∃ us1, us1 = putSO 2 (.dtt ((uniq R).map tupV) ((uniq R).map fun _ => VV.bl true)) us := ⟨_, rfl⟩
  have u1 : us1.isEmpty = false := by rw [hus1]; unfold putSO; rcases hu with rfl | hu
                                      · rfl
                                      · cases us with
                                        | nil => simp at hu
                                        | cons _ _ => rfl
  have g1 : us1[2]? = some (some (.dtt ((uniq R).map tupV) ((uniq R).map fun _ => VV.bl true))) := by
    rw [hus1]; unfold putSO
    rcases hu with rfl | hu
    · rfl
    · rw [List.getElem?_set_self (by simp; omega)]
  have s1 : (setSlM [(0, 2)] (varM 0) (dcTM (seqA (callM sortedAF (consA (varM 2) nilA))) (nameG 3) [3] yesT (varM 3) (cM (.bl true)))) [.val (.ref n), .val L, .val x, .no] h = .nx [.val (.ref n), .val L, .val x, .no] (put2 h d n us1) := by
    simp only [setSlM, view, List.map_cons, List.map_nil, Slot.view, eD, Out.toS, varM, List.getElem?_cons_zero, hi, List.lookup, beq_self_eq_true, put2, hus1]
  have i1 := ins_put2 (us := us1) hd h1 h2 u1
  obtain ⟨h3, e3⟩ : ∃ h3, h3 = put2 h d n us1 := ⟨_, rfl⟩
  have l1 : h3.length = h.length := by rw [e3]; simp [put2]
  rw [← e3] at s1 i1
  have at2 : attrM [(0, 2)] (varM 0) [some (.ref n), some L, some x, none] h3 = .ok (.dtt ((uniq R).map tupV) ((uniq R).map fun _ => VV.bl true)) h3 := by
    simp only [attrM, varM, List.getElem?_cons_zero, Out.bind, i1, List.lookup, beq_self_eq_true, g1]
  have tA : tupleAF [.dtt ((uniq R).map tupV) ((uniq R).map fun _ => VV.bl true)] h3 = .ok (Rs (uniq R)) h3 := rfl
  obtain ⟨us2, hus2⟩ : ∃ us2, us2 = putSO 0 L us1 := ⟨_, rfl⟩
  obtain ⟨us3, hus3⟩ : ∃ us3, us3 = putSO 1 (Rs (uniq R)) us2 := ⟨_, rfl⟩
  have fin : putSO 3 (.str s) us3 = slots L (uniq R) s := by
    rw [hus3, hus2, hus1]
    rcases hu with rfl | hu
    · rfl
    · match us, hu with
      | [_, _, _, _], _ => rfl
  have u2 : us2.isEmpty = false := by
    rw [hus2]; unfold putSO
    cases us1 with
    | nil => simp at u1
    | cons _ _ => simp [List.set]
  have u3 : us3.isEmpty = false := by
    rw [hus3]; unfold putSO
    cases us2 with
    | nil => simp at u2
    | cons _ _ => simp [List.set]
  have i2 := ins_put2 (h := h3) (us := us2) hd (by omega) (by omega) u2
  have i3 := ins_put2 (h := h3) (us := us3) hd (by omega) (by omega) u3
  have tM : (tupM (consA (varM 1) (consA (callM tupleAF (consA (attrM [(0, 2)] (varM 0)) nilA)) (consA (callF m_lot_told (consA (varM 1) nilA)) nilA)))) [some (.ref n), some L, some x, none] h3 = .ok (.tup [L, Rs (uniq R), .str s]) h3 := by
    have f3 : fits 3 = true := rfl
    simp only [tupM, fnM, startS, view, Slot.view, List.map_cons, List.map_nil, List.length_cons, List.length_nil, List.replicate, List.cons_append, List.nil_append, Nat.reduceAdd, Nat.reduceSub, reduceIte, retV, andV, notV, callM, callF, consA, nilA, varM, cM, List.getElem?_cons_zero, List.getElem?_cons_succ, Out.bind, opM, Out.toS, Bool.false_eq_true, seqM, setM, dropM, ifS, notT, blM, skipM, List.set_cons_zero, List.set_cons_succ, Bool.not_true, Bool.not_false, at2, tA, ht, f3]
  have s2 : (setSlsM [([(0, 0)], varM 0), ([(0, 1)], varM 0), ([(0, 3)], varM 0)] (tupM (consA (varM 1) (consA (callM tupleAF (consA (attrM [(0, 2)] (varM 0)) nilA)) (consA (callF m_lot_told (consA (varM 1) nilA)) nilA))))) [.val (.ref n), .val L, .val x, .no] h3 = .nx [.val (.ref n), .val L, .val x, .no] (put2 h d n (slots L (uniq R) s)) := by
    have f1 : (h3.set d (.sub true)).set n (.ins 0 d us2) = put2 h3 d n us2 := rfl
    have f2 : ((put2 h3 d n us2).set d (.sub true)).set n (.ins 0 d us3) = put2 h3 d n us3 := put2_put2 hd
    have f3 : ((put2 h3 d n us3).set d (.sub true)).set n (.ins 0 d (slots L (uniq R) s)) = put2 h d n (slots L (uniq R) s) := by
      rw [e3]
      exact (put2_put2 (us := us3) (h := put2 h d n us1) hd).trans (put2_put2 hd)
    simp only [setSlsM, view, List.map_cons, List.map_nil, Slot.view, tM, Out.toS, List.length_cons, List.length_nil, Nat.reduceAdd, beq_self_eq_true, if_true, setSlsGo, varM, List.getElem?_cons_zero, i1, List.lookup, ← hus2, f1, i2, ← hus3, f2, i3, fin, f3]
  have s0 : startS 4 3 [.ref n, L, x] = [.val (.ref n), .val L, .val x, .no] := rfl
  have l3 : ([.ref n, L, x] : List VV).length = 3 := rfl
  simp only [m_Table_keep, fnM, l3, if_true, b_Table_keep, s0, seqM, s1, s2]
end K05
set_option Elab.async false
set_option linter.all false
set_option maxRecDepth 100000
namespace K05
open PySem PySem.Spec PyProof.Rows L2 Mv Tb
def tabO (d : Nat) (L : VV) (R : List (List Int)) (s : Str) : VH := [.sub true, .ins 0 d (slots L R s)]
theorem put2_new {h : VH} {b : Bool} {us vs : List (Option VV)} : put2 (h ++ [.sub b, .ins 0 h.length us]) h.length (h.length + 1) vs = h ++ [.sub true, .ins 0 h.length vs] := by
  unfold put2
  rw [List.set_append_right _ _ (by omega), Nat.sub_self, List.set_cons_zero, List.set_append_right _ _ (by omega)]
  simp
theorem ins_new {h : VH} {b : Bool} {us : List (Option VV)} (hb : b = !us.isEmpty) : insAt (h ++ [.sub b, .ins 0 h.length us]) (h.length + 1) = some (0, h.length, us) := by
  subst hb
  unfold insAt
  have e1 : (h ++ [VO.sub (!us.isEmpty), .ins 0 h.length us])[h.length + 1]? = some (.ins 0 h.length us) := by
    rw [List.getElem?_append_right (by omega)]; simp
  have e2 : (h ++ [VO.sub (!us.isEmpty), .ins 0 h.length us])[h.length]? = some (.sub (!us.isEmpty)) := by
    rw [List.getElem?_append_right (by omega)]; simp
  rw [e1]
  simp only [e2, beq_self_eq_true, if_true]
def Tab (h : VH) (n : Nat) (lot : List Int) (R : List (List Int)) : Prop := ∃ d s, h[n]? = some (.ins 0 d (slots (Kt lot) R s)) ∧ h[d]? = some (.sub true)
theorem Tab.ins {h : VH} {n : Nat} {lot : List Int} {R : List (List Int)} (t : Tab h n lot R) : ∃ d s, insAt h n = some (0, d, slots (Kt lot) R s) := by
  obtain ⟨d, s, e1, e2⟩ := t
  refine ⟨d, s, ?_⟩
  unfold insAt
  rw [e1]
  simp only [e2]
  rfl
theorem get_app {h t : VH} {n : Nat} {o : VO} (e : h[n]? = some o) : (h ++ t)[n]? = some o := by
  rw [List.getElem?_append_left (List.getElem?_eq_some_iff.mp e).1]
  exact e
theorem Tab.app {h : VH} {n : Nat} {lot : List Int} {R : List (List Int)} (t : Tab h n lot R) (g : VH) : Tab (h ++ g) n lot R := by
  obtain ⟨d, s, e1, e2⟩ := t
  exact ⟨d, s, get_app e1, get_app e2⟩
theorem Tab.new {h : VH} {lot : List Int} {R : List (List Int)} {s : Str} : Tab (h ++ tabO h.length (Kt lot) R s) (h.length + 1) lot R := by
  refine ⟨h.length, s, ?_, ?_⟩
  · rw [List.getElem?_append_right (by omega)]; simp [tabO]
  · rw [List.getElem?_append_right (by omega)]; simp [tabO]
theorem init_ok {h : VH} {n d : Nat} {us : List (Option VV)} {L x : VV} {R : List (List Int)} {s : Str} (hi : insAt h n = some (0, d, us)) (hu : us = [] ∨ us.length = 4) (hd : d ≠ n) (h1 : d < h.length) (h2 : n < h.length)
    (hx : ∀ h, sortedAF [x] h = .ok (Rl (sortK R)) h) (hf : fits R.length = true) (ht : ∀ h, m_lot_told [L] h = .ok (.str s) h) (hr : m_require_lot [L] h = .ok .non h) (ha : m_are_rows [L, x] h = .ok (.bl true) h) :
    m_Table_init [.ref n, L, x] h = .ok .non (put2 h d n (slots L (uniq R) s)) := by
  have k := keep_ok hi hu hd h1 h2 hx hf ht
  simp only [m_Table_init, b_Table_init, fnM, startS, view, Slot.view, List.map_cons, List.map_nil, List.length_cons, List.length_nil, List.replicate, List.cons_append, List.nil_append, Nat.reduceAdd, Nat.reduceSub, reduceIte, retV, andV, notV, callM, callF, consA, nilA, varM, cM, List.getElem?_cons_zero, List.getElem?_cons_succ, Out.bind, opM, Out.toS, Bool.false_eq_true, seqM, setM, dropM, ifS, notT, blM, skipM, List.set_cons_zero, List.set_cons_succ, Bool.not_true, Bool.not_false, hr, ha, methsM, hi, List.lookup, beq_self_eq_true, k]
theorem make_ok {ma : MA} {sv : Sv} {h h1 : VH} {L x : VV} {R : List (List Int)} {s : Str} (e : ma sv h = .ok [L, x] h1)
    (hx : ∀ h, sortedAF [x] h = .ok (Rl (sortK R)) h) (hf : fits R.length = true) (ht : ∀ h, m_lot_told [L] h = .ok (.str s) h) (hr : ∀ h, m_require_lot [L] h = .ok .non h) (ha : ∀ h, m_are_rows [L, x] h = .ok (.bl true) h) :
    makeM 0 m_Table_init ma sv h = .ok (.ref (h1.length + 1)) (h1 ++ tabO h1.length L (uniq R) s) := by
  have k := init_ok (h := h1 ++ [.sub false, .ins 0 h1.length []]) (n := h1.length + 1) (d := h1.length) (us := []) (L := L) (x := x) (R := R) (s := s) (ins_new (b := false) (us := []) rfl) (.inl rfl) (by omega) (by simp) (by simp) hx hf ht (hr _) (ha _)
  rw [put2_new] at k
  simp only [makeM, e, Out.bind, k, tabO]
theorem req0 (h : VH) : m_require_lot [.tup []] h = .ok .non h := by kernel_rfl
theorem rows0 (h : VH) : m_are_rows [.tup [], .tup []] h = .ok (.bl true) h := by kernel_rfl
theorem told0 (h : VH) : m_lot_told [.tup []] h = .ok (.str "no letters") h := by kernel_rfl
theorem made_ok {h : VH} {lot : List Int} {R : List (List Int)} {d : Nat} (hl : lot ∈ lots) (hR : ∀ r ∈ R, r.length = d) (hf : fits R.length = true) :
    m_made_table [Kt lot, Rl R] h = .ok (.ref (h.length + 1)) (h ++ tabO h.length (Kt lot) (uniq R) (told lot)) := by
  have f0 : fits 0 = true := rfl
  have e1 : makeM 0 m_Table_init (consA (tupM nilA) (consA (tupM nilA) nilA)) [some (Kt lot), some (Rl R), none] h = .ok (.ref (h.length + 1)) (h ++ tabO h.length (.tup []) [] "no letters") :=
    make_ok (R := []) (by simp only [consA, tupM, nilA, Out.bind, List.length_nil, f0, if_true]) (fun h => rfl) rfl told0 req0 rows0
  have i1 : insAt (h ++ tabO h.length (.tup []) [] "no letters") (h.length + 1) = some (0, h.length, slots (.tup []) [] "no letters") := ins_new (b := true) rfl
  have k := keep_ok (h := h ++ tabO h.length (.tup []) [] "no letters") (n := h.length + 1) (d := h.length) (L := Kt lot) (x := Rl R) (R := R) (s := told lot) i1 (.inr rfl) (by omega) (by simp [tabO]) (by simp [tabO]) (fun h => sortedA_lst hR) hf fun h => told_ok h lot hl
  unfold tabO at k
  rw [put2_new] at k
  have k2 : m_Table_keep [.ref (h.length + 1), Kt lot, Rl R] (h ++ tabO h.length (.tup []) [] "no letters") = .ok .non (h ++ tabO h.length (Kt lot) (uniq R) (told lot)) := k
  simp only [m_made_table, b_made_table, fnM, startS, view, Slot.view, List.map_cons, List.map_nil, List.length_cons, List.length_nil, List.replicate, List.cons_append, List.nil_append, Nat.reduceAdd, Nat.reduceSub, reduceIte, retV, andV, notV, callM, callF, consA, nilA, varM, cM, List.getElem?_cons_zero, List.getElem?_cons_succ, Out.bind, opM, Out.toS, Bool.false_eq_true, seqM, setM, dropM, ifS, notT, blM, skipM, List.set_cons_zero, List.set_cons_succ, Bool.not_true, Bool.not_false, e1, methsM, i1, List.lookup, beq_self_eq_true, k2]
abbrev Pl (lot some : List Int) : VV := .lst ((some.map fun x => ((lot.idxOf x : Nat) : Int)).map VV.int)
theorem places_ok {h : VH} {lot some : List Int} (hs : ∀ x ∈ some, x ∈ lot) (hf : fits some.length = true) : m_places_in [Kt lot, Kt some] h = .ok (Pl lot some) h := by
  have e : lcM (seqA (varM 1)) (nameG 2) [2] yesT (indexM (varM 0) (consA (varM 2) nilA)) [Option.some (Kt lot), Option.some (Kt some), none] h = .ok (Pl lot some) h := by
    rw [show Pl lot some = .lst ((some.map VV.int).map fun v => match v with | .int x => .int (lot.idxOf x : Nat) | _ => .non) by simp [Pl]]
    refine lc_all _ (seq_Kt rfl) (by simpa using hf) fun v hv => ?_
    obtain ⟨x, hx, rfl⟩ := List.mem_map.mp hv
    exact index_ok (l := lot) (x := x) rfl rfl (hs x hx)
  simp only [m_places_in, b_places_in, fnM, startS, view, Slot.view, List.map_cons, List.map_nil, List.length_cons, List.length_nil, List.replicate, List.cons_append, List.nil_append, Nat.reduceAdd, Nat.reduceSub, reduceIte, retV, andV, notV, callM, callF, consA, nilA, varM, cM, List.getElem?_cons_zero, List.getElem?_cons_succ, Out.bind, opM, Out.toS, Bool.false_eq_true, seqM, setM, dropM, ifS, notT, blM, skipM, List.set_cons_zero, List.set_cons_succ, Bool.not_true, Bool.not_false, e]
theorem part_ok {h : VH} {lot some : List Int} {r : List Int} (hl : r.length = lot.length) (hs : ∀ x ∈ some, x ∈ lot) (hf : fits some.length = true) : m_part_in [tupV r, Pl lot some] h = .ok (tupV (Tb.part lot some r)) h := by
  have e : lcM (seqA (varM 1)) (nameG 2) [2] yesT (opM ixA (varM 0) (varM 2)) [Option.some (tupV r), Option.some (Pl lot some), none] h = .ok (.lst ((Tb.part lot some r).map VV.int)) h := by
    rw [show (Tb.part lot some r).map VV.int = ((some.map fun x => ((lot.idxOf x : Nat) : Int)).map VV.int).map fun v => match v with | .int i => .int (r.getD i.toNat 0) | _ => .non by simp [Tb.part]]
    refine lc_all _ (by simp [seqA, varM, Out.bind, Pl]) (by simpa using hf) fun v hv => ?_
    obtain ⟨i, hi, rfl⟩ := List.mem_map.mp hv
    obtain ⟨x, hx, rfl⟩ := List.mem_map.mp hi
    have hlt : lot.idxOf x < r.length := by rw [hl]; exact List.idxOf_lt_length_of_mem (hs x hx)
    have k := ixA_row (r := r) (h := h) hlt
    simp only [fnM, startS, view, Slot.view, List.map_cons, List.map_nil, List.length_cons, List.length_nil, List.replicate, List.cons_append, List.nil_append, Nat.reduceAdd, Nat.reduceSub, reduceIte, retV, andV, notV, callM, callF, consA, nilA, varM, cM, List.getElem?_cons_zero, List.getElem?_cons_succ, Out.bind, opM, Out.toS, Bool.false_eq_true, seqM, setM, dropM, ifS, notT, blM, skipM, List.set_cons_zero, List.set_cons_succ, Bool.not_true, Bool.not_false, k, Int.toNat_natCast]
  simp only [m_part_in, b_part_in, fnM, startS, view, Slot.view, List.map_cons, List.map_nil, List.length_cons, List.length_nil, List.replicate, List.cons_append, List.nil_append, Nat.reduceAdd, Nat.reduceSub, reduceIte, retV, andV, notV, callM, callF, consA, nilA, varM, cM, List.getElem?_cons_zero, List.getElem?_cons_succ, Out.bind, opM, Out.toS, Bool.false_eq_true, seqM, setM, dropM, ifS, notT, blM, skipM, List.set_cons_zero, List.set_cons_succ, Bool.not_true, Bool.not_false, e]
  rfl
theorem Tab.lot {h : VH} {n : Nat} {lot : List Int} {R : List (List Int)} (t : Tab h n lot R) {a : ME} {sv : Sv} {h0 : VH} (ha : a sv h0 = .ok (.ref n) h) : attrM [(0, 0)] a sv h0 = .ok (Kt lot) h := by
  obtain ⟨d, s, e⟩ := t.ins
  simp only [attrM, ha, Out.bind, e, List.lookup, beq_self_eq_true, slots, List.getElem?_cons_zero]
theorem Tab.rows {h : VH} {n : Nat} {lot : List Int} {R : List (List Int)} (t : Tab h n lot R) {a : ME} {sv : Sv} {h0 : VH} (ha : a sv h0 = .ok (.ref n) h) : attrM [(0, 1)] a sv h0 = .ok (Rs R) h := by
  obtain ⟨d, s, e⟩ := t.ins
  simp only [attrM, ha, Out.bind, e, List.lookup, beq_self_eq_true, slots, List.getElem?_cons_succ, List.getElem?_cons_zero]
structure Good (lot : List Int) (R : List (List Int)) : Prop where
  inl : lot ∈ lots
  len : ∀ r ∈ R, r.length = lot.length
  few : R.length ≤ 1000
  small : ∀ r ∈ R, Small r
theorem Good.fits {lot : List Int} {R : List (List Int)} (g : Good lot R) : Mv.fits R.length = true := Nat.ble_eq_true_of_le (by have := g.few; omega)
theorem project_in_ok {h : VH} {n : Nat} {lot some : List Int} {R : List (List Int)} (t : Tab h n lot R) (g : Good lot R) (hl : some ∈ lots) (hs : ∀ x ∈ some, x ∈ lot) :
    m_project_in [.ref n, Kt some] h = .ok (.ref (h.length + 1)) (h ++ tabO h.length (Kt some) (proj lot some R) (told some)) := by
  have e1 := places_ok (h := h) hs (lots_fits some hl)
  have e2 : lcM (seqA (attrM [(0, 1)] (varM 0))) (nameG 3) [3] yesT (callF m_part_in (consA (varM 3) (consA (varM 2) nilA))) [Option.some (.ref n), Option.some (Kt some), Option.some (Pl lot some), none] h = .ok (Rl (R.map (Tb.part lot some))) h := by
    rw [show Rl (R.map (Tb.part lot some)) = .lst ((R.map tupV).map fun v => match v with | .tup xs => (match allIt xs with | Option.some r => tupV (Tb.part lot some r) | none => .non) | _ => .non) by simp [Rl, tupV, allIt_int]]
    refine lc_all _ (seq_Rs (t.rows rfl)) (by simpa using g.fits) fun v hv => ?_
    obtain ⟨r, hr, rfl⟩ := List.mem_map.mp hv
    have k := part_ok (h := h) (g.len r hr) hs (lots_fits some hl)
    unfold tupV at k ⊢
    simp only [fnM, startS, view, Slot.view, List.map_cons, List.map_nil, List.length_cons, List.length_nil, List.replicate, List.cons_append, List.nil_append, Nat.reduceAdd, Nat.reduceSub, reduceIte, retV, andV, notV, callM, callF, consA, nilA, varM, cM, List.getElem?_cons_zero, List.getElem?_cons_succ, Out.bind, opM, Out.toS, Bool.false_eq_true, seqM, setM, dropM, ifS, notT, blM, skipM, List.set_cons_zero, List.set_cons_succ, Bool.not_true, Bool.not_false, allIt_int, k]
  have e3 := t.lot (a := varM 0) (sv := [Option.some (.ref n), Option.some (Kt some), none, none]) (h0 := h) rfl
  have e4 := made_ok (h := h) (R := R.map (Tb.part lot some)) (d := some.length) hl (fun r hr => by obtain ⟨q, _, e⟩ := List.mem_map.mp hr; rw [← e, part_len]) (by rw [List.length_map]; exact g.fits)
  simp only [m_project_in, b_project_in, fnM, startS, view, Slot.view, List.map_cons, List.map_nil, List.length_cons, List.length_nil, List.replicate, List.cons_append, List.nil_append, Nat.reduceAdd, Nat.reduceSub, reduceIte, retV, andV, notV, callM, callF, consA, nilA, varM, cM, List.getElem?_cons_zero, List.getElem?_cons_succ, Out.bind, opM, Out.toS, Bool.false_eq_true, seqM, setM, dropM, ifS, notT, blM, skipM, List.set_cons_zero, List.set_cons_succ, Bool.not_true, Bool.not_false, e3, e1, e2, e4, proj]
end K05
set_option Elab.async false
set_option linter.all false
set_option maxRecDepth 100000
namespace K05
open PySem PySem.Spec PyProof.Rows L2 Mv Tb
theorem isi_table {h : VH} {n : Nat} {lot : List Int} {R : List (List Int)} (t : Tab h n lot R) : isiCF [0] [(0, 0, true)] [.ref n, .adr 0] h = .ok (.bl true) h := by
  obtain ⟨d, s, e1, e2⟩ := id t
  obtain ⟨d', s', e⟩ := t.ins
  simp [isiCF, tyOf, e1, e]
theorem table_ok {h : VH} {n : Nat} {lot : List Int} {R : List (List Int)} (t : Tab h n lot R) : m_require_table [.ref n] h = .ok .non h := by
  have k := isi_table t
  simp only [m_require_table, b_require_table, m_is_table, b_is_table, fnM, startS, view, Slot.view, List.map_cons, List.map_nil, List.length_cons, List.length_nil, List.replicate, List.cons_append, List.nil_append, Nat.reduceAdd, Nat.reduceSub, reduceIte, retV, andV, notV, callM, callF, consA, nilA, varM, cM, List.getElem?_cons_zero, List.getElem?_cons_succ, Out.bind, opM, Out.toS, Bool.false_eq_true, seqM, setM, dropM, ifS, notT, blM, skipM, List.set_cons_zero, List.set_cons_succ, Bool.not_true, Bool.not_false, k]
theorem within_ok {h : VH} {a b : List Int} (hs : ∀ x ∈ a, x ∈ b) (hf : fits a.length = true) : m_need_within [Kt a, Kt b] h = .ok .non h := by
  have e : lcM (seqA (varM 0)) (nameG 2) [2] yesT (opM (inA false) (varM 2) (varM 1)) [some (Kt a), some (Kt b), none] h = .ok (.lst ((a.map VV.int).map fun _ => .bl true)) h := by
    refine lc_all (fun _ => .bl true) (seq_Kt rfl) (by simpa using hf) fun v hv => ?_
    obtain ⟨x, hx, rfl⟩ := List.mem_map.mp hv
    simp only [fnM, startS, view, Slot.view, List.map_cons, List.map_nil, List.length_cons, List.length_nil, List.replicate, List.cons_append, List.nil_append, Nat.reduceAdd, Nat.reduceSub, reduceIte, retV, andV, notV, callM, callF, consA, nilA, varM, cM, List.getElem?_cons_zero, List.getElem?_cons_succ, Out.bind, opM, Out.toS, Bool.false_eq_true, seqM, setM, dropM, ifS, notT, blM, skipM, List.set_cons_zero, List.set_cons_succ, Bool.not_true, Bool.not_false, inA_Kt, decide_eq_true (hs x hx)]
  have e2 := allF_true (vs := (a.map VV.int).map fun _ => VV.bl true) (fun v hv => by obtain ⟨_, _, e⟩ := List.mem_map.mp hv; exact e.symm) h
  simp only [m_need_within, b_need_within, m_within_in, b_within_in, fnM, startS, view, Slot.view, List.map_cons, List.map_nil, List.length_cons, List.length_nil, List.replicate, List.cons_append, List.nil_append, Nat.reduceAdd, Nat.reduceSub, reduceIte, retV, andV, notV, callM, callF, consA, nilA, varM, cM, List.getElem?_cons_zero, List.getElem?_cons_succ, Out.bind, opM, Out.toS, Bool.false_eq_true, seqM, setM, dropM, ifS, notT, blM, skipM, List.set_cons_zero, List.set_cons_succ, Bool.not_true, Bool.not_false, e, e2]
theorem asked_ok {h : VH} {n : Nat} {lot low high : List Int} {R : List (List Int)} (t : Tab h n lot R) (hl : low ∈ lots) (hh : high ∈ lots) (h1 : ∀ x ∈ low, x ∈ high) (h2 : ∀ x ∈ high, x ∈ lot) : m_require_table_and_lots [.ref n, Kt low, Kt high] h = .ok .non h := by
  have e := t.lot (a := varM 0) (sv := [some (.ref n), some (Kt low), some (Kt high)]) (h0 := h) rfl
  simp only [m_require_table_and_lots, b_require_table_and_lots, fnM, startS, view, Slot.view, List.map_cons, List.map_nil, List.length_cons, List.length_nil, List.replicate, List.cons_append, List.nil_append, Nat.reduceAdd, Nat.reduceSub, reduceIte, retV, andV, notV, callM, callF, consA, nilA, varM, cM, List.getElem?_cons_zero, List.getElem?_cons_succ, Out.bind, opM, Out.toS, Bool.false_eq_true, seqM, setM, dropM, ifS, notT, blM, skipM, List.set_cons_zero, List.set_cons_succ, Bool.not_true, Bool.not_false, table_ok t, require_ok h low hl, require_ok h high hh, within_ok h1 (lots_fits low hl), e, within_ok h2 (lots_fits high hh)]
theorem project_ok {h : VH} {n : Nat} {lot some : List Int} {R : List (List Int)} (t : Tab h n lot R) (g : Good lot R) (hl : some ∈ lots) (hs : ∀ x ∈ some, x ∈ lot) :
    m_project [.ref n, Kt some] h = .ok (.ref (h.length + 1)) (h ++ tabO h.length (Kt some) (proj lot some R) (told some)) := by
  have e := t.lot (a := varM 0) (sv := [Option.some (.ref n), Option.some (Kt some)]) (h0 := h) rfl
  simp only [m_project, b_project, fnM, startS, view, Slot.view, List.map_cons, List.map_nil, List.length_cons, List.length_nil, List.replicate, List.cons_append, List.nil_append, Nat.reduceAdd, Nat.reduceSub, reduceIte, retV, andV, notV, callM, callF, consA, nilA, varM, cM, List.getElem?_cons_zero, List.getElem?_cons_succ, Out.bind, opM, Out.toS, Bool.false_eq_true, seqM, setM, dropM, ifS, notT, blM, skipM, List.set_cons_zero, List.set_cons_succ, Bool.not_true, Bool.not_false, table_ok t, require_ok h some hl, e, within_ok hs (lots_fits some hl), project_in_ok t g hl hs]
theorem tally_len (L : List (List Int)) : (tally L).length ≤ L.length := by
  have : ∀ l : List (List Int), (fo l).length ≤ l.length := fun l => by
    have := (fo_nodup l).length_le_of_subset (l₂ := l) fun z hz => (mem_fo z l).mp hz
    exact this
  unfold tally
  rw [List.length_map]
  exact this L
theorem count_go {f : Nat} {mg : MG} {body : MS} {part' : List Int → List Int} (P : Sl → Prop) (Qr : List Int → Prop)
    (hb : ∀ (sl : Sl) (h : VH) (L : List (List Int)) (r : List Int), P sl → Qr r → h[f]? = some (.dtt (ksP (tally L)) (vsP (tally L))) → L.length < 1000000 → ∃ asg sl2, mg (tupV r) = some asg ∧ body (setsS asg sl) h = .nx sl2 (h.set f (.dtt (ksP (tally (L ++ [part' r]))) (vsP (tally (L ++ [part' r]))))) ∧ P sl2) :
    ∀ (Rr : List (List Int)) (L : List (List Int)) (sl : Sl) (h : VH), (∀ r ∈ Rr, Qr r) → P sl → h[f]? = some (.dtt (ksP (tally L)) (vsP (tally L))) → L.length + Rr.length < 1000000 →
      ∃ sl2, P sl2 ∧ forGo mg body (Rr.map tupV) sl h = .nx sl2 (h.set f (.dtt (ksP (tally (L ++ Rr.map part'))) (vsP (tally (L ++ Rr.map part')))))
  | [], L, sl, h, _, p, e, hn => ⟨sl, p, by
      have hl := (List.getElem?_eq_some_iff.mp e)
      simp only [List.map_nil, forGo, List.append_nil]
      congr 1
      rw [← hl.2, List.set_getElem_self]⟩
  | r :: Rr, L, sl, h, q, p, e, hn => by
    obtain ⟨asg, sl2, m1, m2, p2⟩ := hb sl h L r p (q r List.mem_cons_self) e (by omega)
    have hlt := (List.getElem?_eq_some_iff.mp e).1
    obtain ⟨sl3, p3, k⟩ := count_go P Qr hb Rr (L ++ [part' r]) sl2 _ (fun x hx => q x (List.mem_cons_of_mem _ hx)) p2 (List.getElem?_set_self hlt) (by rw [List.length_append, List.length_cons, List.length_nil]; simp only [List.length_cons] at hn; omega)
    refine ⟨sl3, p3, ?_⟩
    simp only [List.map_cons, forGo, m1, m2, k, List.set_set, List.append_assoc, List.cons_append, List.nil_append]
theorem count_step {h : VH} {f : Nat} {L : List (List Int)} {k : List Int} {sv : Sv} {md mk : ME} (e : h[f]? = some (.dtt (ksP (tally L)) (vsP (tally L)))) (hd : md sv h = .ok (.ref f) h) (hk : mk sv h = .ok (tupV k) h) :
    opM addV (getM md mk (cM (.int 0))) (cM (.int 1)) sv h = .ok (.int ((L.count k : Nat) + 1 : Nat)) h := by
  have e1 : dictT h (.ref f) = some (ksP (tally L), vsP (tally L)) := by simp [dictT, e]
  have e2 : dgetO h (.ref f) (tupV k) = some (if k ∈ L then some (.int (L.count k : Nat)) else none) := by
    simp only [dgetO, e1, keyU_row, Option.map_some, findT_P, find_tally]
  have e3 : getM md mk (cM (.int 0)) sv h = .ok (.int (L.count k : Nat)) h := by
    simp only [getM, hd, Out.bind, e1, Option.isSome_some, Bool.true_or, hk, cM, e2]
    by_cases c : k ∈ L
    · rw [if_pos c]
    · rw [if_neg c, List.count_eq_zero.mpr c]
      rfl
  simp only [opM, e3, Out.bind, cM, addV]
  congr 2
theorem mk_set {h : VH} {f : Nat} {L : List (List Int)} {k : List Int} {mo mi me : ME} {sl : Sl} (e : h[f]? = some (.dtt (ksP (tally L)) (vsP (tally L)))) (hn : L.length < 1000000)
    (he : me (view sl) h = .ok (.int ((L.count k : Nat) + 1 : Nat)) h) (ho : mo (view sl) h = .ok (.ref f) h) (hi : mi (view sl) h = .ok (tupV k) h) :
    setAM mo mi me sl h = .nx sl (h.set f (.dtt (ksP (tally (L ++ [k]))) (vsP (tally (L ++ [k]))))) := by
  have hf : fits ((vsP (tally L)).length + 1) = true := Nat.ble_eq_true_of_le (by
    have := tally_len L
    simp only [vsP, List.length_map]
    omega)
  have pt := putT_P (tally L) k (.int ((L.count k : Nat) + 1 : Nat))
  rw [ins_tally] at pt
  simp only [setAM, he, ho, hi, Out.toS, e, keyT_row, hf, if_true, pt]
end K05
set_option Elab.async false
set_option linter.all false
set_option maxRecDepth 100000
namespace K05
open PySem PySem.Spec PyProof.Rows L2 Mv Tb
theorem insP_new {ps : Ps} {k : List Int} {v : VV} (h : ∀ p ∈ ps, p.1 ≠ k) : insP ps k v = ps ++ [(k, v)] := by
  unfold insP
  rw [if_neg]
  rw [List.any_eq_true]
  rintro ⟨p, hp, e⟩
  exact h p hp (of_decide_eq_true e)
theorem dcT_vals {sv : Sv} {i : Nat} {h : VH} {ev : ME} {f : List Int → VV} (hi : i < sv.length) : ∀ (KS : List (List Int)) (ps : Ps), KS.Nodup → (∀ k ∈ KS, ∀ p ∈ ps, p.1 ≠ k) → (∀ k ∈ KS, ev (sv.set i (some (tupV k))) h = .ok (f k) h) →
    dcTGo sv (nameG i) yesT (varM i) ev (KS.map tupV) (ksP ps, vsP ps) h = .ok (ksP (ps ++ KS.map fun k => (k, f k)), vsP (ps ++ KS.map fun k => (k, f k))) h
  | [], ps, _, _, _ => by simp [dcTGo]
  | k :: KS, ps, nd, hp, hv => by
    have e1 : (sv.set i (some (tupV k)))[i]? = some (some (tupV k)) := by simp [hi]
    obtain ⟨n1, n2⟩ := List.nodup_cons.mp nd
    have ih := dcT_vals hi (f := f) (ev := ev) (h := h) KS (ps ++ [(k, f k)]) n2 (fun k2 h2 p h3 => by
      rcases List.mem_append.mp h3 with h3 | h3
      · exact hp k2 (List.mem_cons_of_mem _ h2) p h3
      · rw [List.mem_singleton.mp h3]
        exact fun z => n1 (by rw [show k = k2 from z]; exact h2)) fun k2 h2 => hv k2 (List.mem_cons_of_mem _ h2)
    rw [List.append_assoc] at ih
    have e2 := putT_P ps k (f k)
    rw [insP_new fun p h3 => hp k List.mem_cons_self p h3] at e2
    simp only [List.map_cons, dcTGo, nameG, setsV, yesT, Out.nox, Out.bind, if_true, varM, e1, hv k List.mem_cons_self, keyT_row, e2]
    exact ih
def stally (L : List (List Int)) : Ps := (sortK (fo L)).map fun k => (k, .int (L.count k : Nat))
theorem ksP_tally (L : List (List Int)) : ksP (tally L) = (fo L).map tupV := by simp [ksP, tally]
theorem ixA_tally {h : VH} {f : Nat} {L : List (List Int)} {k : List Int} (e : h[f]? = some (.dtt (ksP (tally L)) (vsP (tally L)))) (hk : k ∈ L) : ixA (.ref f) (tupV k) h = .ok (.int (L.count k : Nat)) h := by
  have e1 : dictT h (.ref f) = some (ksP (tally L), vsP (tally L)) := by simp [dictT, e]
  simp only [ixA, dgetO, e1, keyU_row, Option.map_some, findT_P, find_tally, if_pos hk]
abbrev abBody : MS := seqM (setM 6 (callF m_part_in (consA (varM 5) (consA (varM 3) nilA)))) (setAM (varM 4) (varM 6) (opM addV (getM (varM 4) (varM 6) (cM (.int 0))) (cM (.int 1))))
theorem above_in_ok {h : VH} {n : Nat} {lot low high : List Int} {R : List (List Int)} (t : Tab h n lot R) (g : Good lot R) (hl : low ∈ lots) (hh : high ∈ lots) (h1 : ∀ x ∈ low, x ∈ high) (h2 : ∀ x ∈ high, x ∈ lot) :
    ∃ t', m_above_in [.ref n, Kt low, Kt high] h = .ok (.dtt (ksP (stally (low_ lot low high R))) (vsP (stally (low_ lot low high R)))) (h ++ t') := by
  have e1 := places_ok (h := h) h1 (lots_fits low hl)
  obtain ⟨hA, eA⟩ : ∃ hA, hA = h ++ [VO.dtt [] []] := ⟨_, rfl⟩
  have tA : Tab hA n lot R := by rw [eA]; exact t.app _
  have e2 := project_in_ok tA g hh h2
  obtain ⟨hB, eB⟩ : ∃ hB, hB = hA ++ tabO hA.length (Kt high) (proj lot high R) (told high) := ⟨_, rfl⟩
  rw [← eB] at e2
  have tB : Tab hB (hA.length + 1) high (proj lot high R) := by rw [eB]; exact Tab.new
  have f0 : hB[h.length]? = some (.dtt (ksP (tally [])) (vsP (tally []))) := by
    rw [eB]
    refine get_app ?_
    rw [eA, List.getElem?_append_right (Nat.le_refl _), Nat.sub_self]
    rfl
  have plen : (proj lot high R).length ≤ 1000 := Nat.le_trans (by
    have := (proj_nodup (lot := lot) (some := high) (R := R)).length_le_of_subset (l₂ := R.map (Tb.part lot high)) fun z hz => by
      obtain ⟨q, hq, e⟩ := mem_proj.mp hz
      exact List.mem_map.mpr ⟨q, hq, e⟩
    simpa using this) g.few
  have prow : ∀ r ∈ proj lot high R, r.length = high.length := fun r hr => by
    obtain ⟨q, _, e⟩ := mem_proj.mp hr
    rw [← e, part_len]
  obtain ⟨sl2, ⟨s5, s6, p2⟩, k⟩ := count_go (f := h.length) (mg := nameG 5) (body := abBody) (part' := Tb.part high low)
    (fun sl => ∃ s5 s6, sl = [.val (.ref n), .val (Kt low), .val (Kt high), .val (Pl high low), .val (.ref h.length), s5, s6]) (fun r => r.length = high.length)
    (fun sl g2 L r ⟨s5, s6, es⟩ hr eg hn => by
      subst es
      have k1 := part_ok (h := g2) hr h1 (lots_fits low hl)
      refine ⟨_, [.val (.ref n), .val (Kt low), .val (Kt high), .val (Pl high low), .val (.ref h.length), .val (tupV r), .val (tupV (Tb.part high low r))], rfl, ?_, _, _, rfl⟩
      have c1 := count_step (h := g2) (f := h.length) (L := L) (k := Tb.part high low r) (sv := [some (.ref n), some (Kt low), some (Kt high), some (Pl high low), some (.ref h.length), some (tupV r), some (tupV (Tb.part high low r))]) (md := varM 4) (mk := varM 6) eg rfl rfl
      have c2 := mk_set (h := g2) (f := h.length) (L := L) (k := Tb.part high low r) (mo := varM 4) (me := opM addV (getM (varM 4) (varM 6) (cM (.int 0))) (cM (.int 1))) (mi := varM 6) (sl := [.val (.ref n), .val (Kt low), .val (Kt high), .val (Pl high low), .val (.ref h.length), .val (tupV r), .val (tupV (Tb.part high low r))]) eg hn c1 rfl rfl
      simp only [setsS, List.set_cons_succ, List.set_cons_zero, seqM, setM, view, List.map_cons, List.map_nil, Slot.view, callF, consA, nilA, varM, List.getElem?_cons_succ, List.getElem?_cons_zero, Out.bind, k1, Out.toS, c2])
    (proj lot high R) [] [.val (.ref n), .val (Kt low), .val (Kt high), .val (Pl high low), .val (.ref h.length), .no, .no] hB prow ⟨_, _, rfl⟩ f0 (by simp only [List.length_nil]; omega)
  rw [List.nil_append] at k
  obtain ⟨hC, eC⟩ : ∃ hC, hC = hB.set h.length (.dtt (ksP (tally (low_ lot low high R))) (vsP (tally (low_ lot low high R)))) := ⟨_, rfl⟩
  have k : forGo (nameG 5) abBody ((proj lot high R).map tupV) [.val (.ref n), .val (Kt low), .val (Kt high), .val (Pl high low), .val (.ref h.length), .no, .no] hB = .nx sl2 hC := by rw [eC]; exact k
  have hlt : h.length < hB.length := (List.getElem?_eq_some_iff.mp f0).1
  have fC : hC[h.length]? = some (.dtt (ksP (tally (low_ lot low high R))) (vsP (tally (low_ lot low high R)))) := by rw [eC]; exact List.getElem?_set_self hlt
  have llen : ∀ r ∈ fo (low_ lot low high R), r.length = low.length := fun r hr => by
    obtain ⟨q, _, e⟩ := List.mem_map.mp ((mem_fo _ _).mp hr)
    rw [← e, part_len]
  have eS : ∃ hD, hC = h ++ hD := by
    rw [eC, eB, eA, List.append_assoc, List.set_append_right _ _ (Nat.le_refl _)]
    exact ⟨_, rfl⟩
  obtain ⟨hD, eD⟩ := eS
  refine ⟨hD, ?_⟩
  rw [← eD]
  have dk : dictT hC (.ref h.length) = some ((fo (low_ lot low high R)).map tupV, vsP (tally (low_ lot low high R))) := by simp only [dictT, fC, ksP_tally]
  have s1 := sortedA_dict (x := .ref h.length) (h := hC) dk llen
  have flen : (fo (low_ lot low high R)).length ≤ 1000 := Nat.le_trans ((fo_nodup _).length_le_of_subset fun z hz => (mem_fo z _).mp hz) (by unfold low_; rw [List.length_map]; exact plen)
  have fin : dcTM (seqA (callM sortedAF (consA (varM 4) nilA))) (nameG 5) [5] yesT (varM 5) (opM ixA (varM 4) (varM 5)) (view sl2) hC = .ok (.dtt (ksP (stally (low_ lot low high R))) (vsP (stally (low_ lot low high R)))) hC := by
    subst p2
    have eq : seqA (callM sortedAF (consA (varM 4) nilA)) (view [.val (.ref n), .val (Kt low), .val (Kt high), .val (Pl high low), .val (.ref h.length), s5, s6]) hC = .ok ((sortK (fo (low_ lot low high R))).map tupV) hC := seq_Rl (by simp only [fnM, startS, view, Slot.view, List.map_cons, List.map_nil, List.length_cons, List.length_nil, List.replicate, List.cons_append, List.nil_append, Nat.reduceAdd, Nat.reduceSub, reduceIte, retV, andV, notV, callM, callF, consA, nilA, varM, cM, List.getElem?_cons_zero, List.getElem?_cons_succ, Out.bind, opM, Out.toS, Bool.false_eq_true, seqM, setM, dropM, ifS, notT, blM, skipM, List.set_cons_zero, List.set_cons_succ, Bool.not_true, Bool.not_false, s1])
    have f2 : fits ((sortK (fo (low_ lot low high R))).map tupV).length = true := by rw [List.length_map, (sortK_perm _).length_eq]; exact Nat.ble_eq_true_of_le (by omega)
    have kv := dcT_vals (sv := (view [.val (.ref n), .val (Kt low), .val (Kt high), .val (Pl high low), .val (.ref h.length), s5, s6]).set 5 none) (i := 5) (h := hC) (ev := opM ixA (varM 4) (varM 5)) (f := fun k => .int ((low_ lot low high R).count k : Nat)) (by simp [view]) (sortK (fo (low_ lot low high R))) []
      ((sortK_perm _).nodup_iff.mpr (fo_nodup _)) (fun k hk p hp => by cases hp) fun k hk => by
        have hk2 : k ∈ low_ lot low high R := (mem_fo _ _).mp ((sortK_perm _).mem_iff.mp hk)
        have k3 := ixA_tally fC hk2
        simp only [fnM, startS, view, Slot.view, List.map_cons, List.map_nil, List.length_cons, List.length_nil, List.replicate, List.cons_append, List.nil_append, Nat.reduceAdd, Nat.reduceSub, reduceIte, retV, andV, notV, callM, callF, consA, nilA, varM, cM, List.getElem?_cons_zero, List.getElem?_cons_succ, Out.bind, opM, Out.toS, Bool.false_eq_true, seqM, setM, dropM, ifS, notT, blM, skipM, List.set_cons_zero, List.set_cons_succ, Bool.not_true, Bool.not_false, k3]
    have z1 : ksP [] = [] := rfl
    have z2 : vsP [] = [] := rfl
    rw [z1, z2, List.nil_append] at kv
    simp only [dcTM, eq, Out.bind, f2, if_true, wipeS, kv]
    rfl
  have e3 := tB.rows (a := callF m_project_in (consA (varM 0) (consA (varM 2) nilA))) (sv := [some (.ref n), some (Kt low), some (Kt high), some (Pl high low), some (.ref h.length), none, none]) (h0 := hA) (by simp only [fnM, startS, view, Slot.view, List.map_cons, List.map_nil, List.length_cons, List.length_nil, List.replicate, List.cons_append, List.nil_append, Nat.reduceAdd, Nat.reduceSub, reduceIte, retV, andV, notV, callM, callF, consA, nilA, varM, cM, List.getElem?_cons_zero, List.getElem?_cons_succ, Out.bind, opM, Out.toS, Bool.false_eq_true, seqM, setM, dropM, ifS, notT, blM, skipM, List.set_cons_zero, List.set_cons_succ, Bool.not_true, Bool.not_false, e2])
  have e4 := seq_Rs e3
  have f2 : fits 2 = true := rfl
  have sA : (asgM (tupG (consG (nameG 3) (consG (nameG 4) (nilG)))) (tupM (consA (callF m_places_in (consA (varM 2) (consA (varM 1) (nilA)))) (consA (newDT) (nilA))))) [.val (.ref n), .val (Kt low), .val (Kt high), .no, .no, .no, .no] h = .nx [.val (.ref n), .val (Kt low), .val (Kt high), .val (Pl high low), .val (.ref h.length), .no, .no] hA := by
    simp only [asgM, view, List.map_cons, List.map_nil, Slot.view, tupM, consA, nilA, callF, varM, List.getElem?_cons_succ, List.getElem?_cons_zero, Out.bind, e1, newDT, List.length_cons, List.length_nil, Nat.reduceAdd, f2, if_true, Out.toS, tupG, consG, nilG, nameG, Option.bind_some, Option.map_some, List.cons_append, List.nil_append, setsS, List.set_cons_succ, List.set_cons_zero, eA]
  have sF : (forM (seqA (attrM [(0, 1)] (callF m_project_in (consA (varM 0) (consA (varM 2) (nilA)))))) (nameG 5) abBody) [.val (.ref n), .val (Kt low), .val (Kt high), .val (Pl high low), .val (.ref h.length), .no, .no] hA = .nx sl2 hC := by
    simp only [Mv.forM, view, List.map_cons, List.map_nil, Slot.view, e4, Out.toS, k]
  have sR : (retV (dcTM (seqA (callM sortedAF (consA (varM 4) (nilA)))) (nameG 5) [5] (yesT) (varM 5) (opM ixA (varM 4) (varM 5)))) sl2 hC = .rt (.dtt (ksP (stally (low_ lot low high R))) (vsP (stally (low_ lot low high R)))) hC := by
    simp only [retV, fin, Out.toS]
  refine fn_rt (s0 := [.val (.ref n), .val (Kt low), .val (Kt high), .no, .no, .no, .no]) rfl rfl ?_
  show seqM _ (seqM _ _) _ _ = _
  rw [seqM_nx sA, seqM_nx sF, sR]
end K05
set_option Elab.async false
set_option linter.all false
set_option maxRecDepth 100000
namespace K05
open PySem PySem.Spec PyProof.Rows L2 Mv Tb
theorem best_some : ∀ (l : List Nat) (m : Nat), (l.map fun n => ((n : Nat) : Int)).foldl best1 (some (m : Int)) = some ((max m (top l) : Nat) : Int)
  | [], m => by simp [top]
  | x :: l, m => by
    have e : best1 (some (m : Int)) ((x : Nat) : Int) = some ((max m x : Nat) : Int) := by
      unfold best1
      by_cases c : (x : Int) > m
      · simp only [c, if_true]; congr 2; omega
      · simp only [c, if_false]; congr 2; omega
    rw [List.map_cons, List.foldl_cons, e, best_some l (max m x)]
    congr 2
    show max (max m x) (top l) = max m (max x (top l))
    omega
theorem best_none (l : List Nat) : (match (l.map fun n => ((n : Nat) : Int)).foldl best1 none with | some n => VV.int n | none => .int 0) = .int (top l : Nat) := by
  cases l with
  | nil => rfl
  | cons x l =>
    have e : best1 none ((x : Nat) : Int) = some ((x : Nat) : Int) := rfl
    rw [List.map_cons, List.foldl_cons, e, best_some]
    rfl
theorem maxL_top : ∀ (l : List Nat) (m : Nat), maxL (m : Int) (l.map fun n => ((n : Nat) : Int)) = ((max m (top l) : Nat) : Int)
  | [], m => by simp [maxL, top]
  | x :: l, m => by
    have e : (if ((x : Nat) : Int) > m then ((x : Nat) : Int) else m) = ((max m x : Nat) : Int) := by
      by_cases c : (x : Int) > m
      · simp only [c, if_true]; omega
      · simp only [c, if_false]; omega
    rw [List.map_cons]
    unfold maxL
    rw [e, maxL_top l (max m x)]
    show ((max (max m x) (top l) : Nat) : Int) = ((max m (max x (top l)) : Nat) : Int)
    omega
theorem vsP_counts (KS L : List (List Int)) : vsP (KS.map fun k => ((k, VV.int (L.count k : Nat)) : List Int × VV)) = ((KS.map fun k => L.count k).map fun n => ((n : Nat) : Int)).map VV.int := by
  simp [vsP]
theorem top_fo (L : List (List Int)) : top ((fo L).map fun k => L.count k) = degL L := top_ext fun x => by
  simp only [List.mem_map]
  exact ⟨fun ⟨k, hk, e⟩ => ⟨k, (mem_fo k L).mp hk, e⟩, fun ⟨k, hk, e⟩ => ⟨k, (mem_fo k L).mpr hk, e⟩⟩
theorem top_sfo (L : List (List Int)) : top ((sortK (fo L)).map fun k => L.count k) = degL L := by
  rw [← top_fo]
  refine top_ext fun x => ?_
  simp only [List.mem_map, (sortK_perm (fo L)).mem_iff]
theorem degree_in_ok {h : VH} {n : Nat} {lot low high : List Int} {R : List (List Int)} (t : Tab h n lot R) (g : Good lot R) (hl : low ∈ lots) (hh : high ∈ lots) (h1 : ∀ x ∈ low, x ∈ high) (h2 : ∀ x ∈ high, x ∈ lot) :
    ∃ t', m_degree [.ref n, Kt low, Kt high] h = .ok (.int (deg lot low high R : Nat)) (h ++ t') := by
  obtain ⟨t', e⟩ := above_in_ok t g hl hh h1 h2
  refine ⟨t', ?_⟩
  have e1 := asked_ok t hl hh h1 h2
  have e2 : listValsM (callF m_above_in (consA (varM 0) (consA (varM 1) (consA (varM 2) nilA)))) [some (.ref n), some (Kt low), some (Kt high)] h = .ok (.lst (vsP (stally (low_ lot low high R)))) (h ++ t') := by
    simp only [listValsM, fnM, startS, view, Slot.view, List.map_cons, List.map_nil, List.length_cons, List.length_nil, List.replicate, List.cons_append, List.nil_append, Nat.reduceAdd, Nat.reduceSub, reduceIte, retV, andV, notV, callM, callF, consA, nilA, varM, cM, List.getElem?_cons_zero, List.getElem?_cons_succ, Out.bind, opM, Out.toS, Bool.false_eq_true, seqM, setM, dropM, ifS, notT, blM, skipM, List.set_cons_zero, List.set_cons_succ, Bool.not_true, Bool.not_false, e, dictT]
  have e3 : maxDM (listValsM (callF m_above_in (consA (varM 0) (consA (varM 1) (consA (varM 2) nilA))))) (cM (.int 0)) [some (.ref n), some (Kt low), some (Kt high)] h = .ok (.int (deg lot low high R : Nat)) (h ++ t') := by
    unfold stally at e2
    rw [vsP_counts] at e2
    simp only [maxDM, e2, Out.bind, cM, Mv.listOf, allIt_int]
    have := best_none ((sortK (fo (low_ lot low high R))).map fun k => (low_ lot low high R).count k)
    rw [top_sfo] at this
    exact congrArg (fun v => (Out.ok v (h ++ t') : Out VV)) this
  have e4 : m_degree_in [.ref n, Kt low, Kt high] h = .ok (.int (deg lot low high R : Nat)) (h ++ t') := by
    simp only [m_degree_in, b_degree_in, fnM, startS, view, Slot.view, List.map_cons, List.map_nil, List.length_cons, List.length_nil, List.replicate, List.cons_append, List.nil_append, Nat.reduceAdd, Nat.reduceSub, reduceIte, retV, andV, notV, callM, callF, consA, nilA, varM, cM, List.getElem?_cons_zero, List.getElem?_cons_succ, Out.bind, opM, Out.toS, Bool.false_eq_true, seqM, setM, dropM, ifS, notT, blM, skipM, List.set_cons_zero, List.set_cons_succ, Bool.not_true, Bool.not_false, e3]
  simp only [m_degree, b_degree, fnM, startS, view, Slot.view, List.map_cons, List.map_nil, List.length_cons, List.length_nil, List.replicate, List.cons_append, List.nil_append, Nat.reduceAdd, Nat.reduceSub, reduceIte, retV, andV, notV, callM, callF, consA, nilA, varM, cM, List.getElem?_cons_zero, List.getElem?_cons_succ, Out.bind, opM, Out.toS, Bool.false_eq_true, seqM, setM, dropM, ifS, notT, blM, skipM, List.set_cons_zero, List.set_cons_succ, Bool.not_true, Bool.not_false, e1, e4]
theorem above_ok {h : VH} {n : Nat} {lot low high : List Int} {R : List (List Int)} (t : Tab h n lot R) (g : Good lot R) (hl : low ∈ lots) (hh : high ∈ lots) (h1 : ∀ x ∈ low, x ∈ high) (h2 : ∀ x ∈ high, x ∈ lot) :
    ∃ t', m_above [.ref n, Kt low, Kt high] h = .ok (.dtt (ksP (stally (low_ lot low high R))) (vsP (stally (low_ lot low high R)))) (h ++ t') := by
  obtain ⟨t', e⟩ := above_in_ok t g hl hh h1 h2
  refine ⟨t', ?_⟩
  have e1 := asked_ok t hl hh h1 h2
  simp only [m_above, b_above, fnM, startS, view, Slot.view, List.map_cons, List.map_nil, List.length_cons, List.length_nil, List.replicate, List.cons_append, List.nil_append, Nat.reduceAdd, Nat.reduceSub, reduceIte, retV, andV, notV, callM, callF, consA, nilA, varM, cM, List.getElem?_cons_zero, List.getElem?_cons_succ, Out.bind, opM, Out.toS, Bool.false_eq_true, seqM, setM, dropM, ifS, notT, blM, skipM, List.set_cons_zero, List.set_cons_succ, Bool.not_true, Bool.not_false, e1, e]
theorem opart_ok {h : VH} {lot some : List Int} {r : List Int} (hl : r.length = lot.length) (hs : ∀ x ∈ some, x ∈ lot) (hf : fits some.length = true) : m_part [tupV r, Kt lot, Kt some] h = .ok (tupV (Tb.part lot some r)) h := by
  have e : lcM (seqA (varM 2)) (nameG 3) [3] yesT (opM ixA (varM 0) (indexM (varM 1) (consA (varM 3) nilA))) [Option.some (tupV r), Option.some (Kt lot), Option.some (Kt some), none] h = .ok (.lst ((Tb.part lot some r).map VV.int)) h := by
    rw [show (Tb.part lot some r).map VV.int = (some.map VV.int).map fun v => match v with | .int x => .int (r.getD (lot.idxOf x) 0) | _ => .non by simp [Tb.part]]
    refine lc_all _ (seq_Kt rfl) (by simpa using hf) fun v hv => ?_
    obtain ⟨x, hx, rfl⟩ := List.mem_map.mp hv
    have hlt : lot.idxOf x < r.length := by rw [hl]; exact List.idxOf_lt_length_of_mem (hs x hx)
    have k1 : indexM (varM 1) (consA (varM 3) nilA) [Option.some (tupV r), Option.some (Kt lot), Option.some (Kt some), Option.some (.int x)] h = .ok (.int (lot.idxOf x : Nat)) h := index_ok (l := lot) (x := x) rfl rfl (hs x hx)
    have k := ixA_row (r := r) (h := h) hlt
    simp only [fnM, startS, view, Slot.view, List.map_cons, List.map_nil, List.length_cons, List.length_nil, List.replicate, List.cons_append, List.nil_append, Nat.reduceAdd, Nat.reduceSub, reduceIte, retV, andV, notV, callM, callF, consA, nilA, varM, cM, List.getElem?_cons_zero, List.getElem?_cons_succ, Out.bind, opM, Out.toS, Bool.false_eq_true, seqM, setM, dropM, ifS, notT, blM, skipM, List.set_cons_zero, List.set_cons_succ, Bool.not_true, Bool.not_false, k1, k]
  simp only [m_part, b_part, fnM, startS, view, Slot.view, List.map_cons, List.map_nil, List.length_cons, List.length_nil, List.replicate, List.cons_append, List.nil_append, Nat.reduceAdd, Nat.reduceSub, reduceIte, retV, andV, notV, callM, callF, consA, nilA, varM, cM, List.getElem?_cons_zero, List.getElem?_cons_succ, Out.bind, opM, Out.toS, Bool.false_eq_true, seqM, setM, dropM, ifS, notT, blM, skipM, List.set_cons_zero, List.set_cons_succ, Bool.not_true, Bool.not_false, e]
  rfl
theorem dedK_le (l : List (List Int)) : (dedK l).length ≤ l.length := (dedK_nodup l).length_le_of_subset fun z hz => (mem_dedK z l).mp hz
theorem parts_ok {h : VH} {lot some : List Int} {R : List (List Int)} (hR : ∀ r ∈ R, r.length = lot.length) (hn : R.length < 63) (hs : ∀ x ∈ some, x ∈ lot) (hf : fits some.length = true) : m_parts [Rs R, Kt lot, Kt some] h = .ok (Rs (proj lot some R)) h := by
  have e : lcM (seqA (varM 0)) (nameG 3) [3] yesT (callF m_part (consA (varM 3) (consA (varM 1) (consA (varM 2) nilA)))) [Option.some (Rs R), Option.some (Kt lot), Option.some (Kt some), none] h = .ok (Rl (R.map (Tb.part lot some))) h := by
    rw [show Rl (R.map (Tb.part lot some)) = .lst ((R.map tupV).map fun v => match v with | .tup xs => (match allIt xs with | Option.some r => tupV (Tb.part lot some r) | none => .non) | _ => .non) by simp [Rl, tupV, allIt_int]]
    refine lc_all _ (seq_Rs rfl) (by rw [List.length_map]; exact Nat.ble_eq_true_of_le (by omega)) fun v hv => ?_
    obtain ⟨r, hr, rfl⟩ := List.mem_map.mp hv
    have k := opart_ok (h := h) (hR r hr) hs hf
    unfold tupV at k ⊢
    simp only [fnM, startS, view, Slot.view, List.map_cons, List.map_nil, List.length_cons, List.length_nil, List.replicate, List.cons_append, List.nil_append, Nat.reduceAdd, Nat.reduceSub, reduceIte, retV, andV, notV, callM, callF, consA, nilA, varM, cM, List.getElem?_cons_zero, List.getElem?_cons_succ, Out.bind, opM, Out.toS, Bool.false_eq_true, seqM, setM, dropM, ifS, notT, blM, skipM, List.set_cons_zero, List.set_cons_succ, Bool.not_true, Bool.not_false, allIt_int, k]
  have e2 : sortedSetTF [Rl (R.map (Tb.part lot some))] h = .ok (Rl (proj lot some R)) h := sortedSet_ok (d := some.length) (fun r hr => by obtain ⟨q, _, e⟩ := List.mem_map.mp hr; rw [← e, part_len]) (Nat.lt_of_le_of_lt (dedK_le _) (by rw [List.length_map]; exact hn))
  have e3 : tupleAF [Rl (proj lot some R)] h = .ok (Rs (proj lot some R)) h := rfl
  simp only [m_parts, b_parts, fnM, startS, view, Slot.view, List.map_cons, List.map_nil, List.length_cons, List.length_nil, List.replicate, List.cons_append, List.nil_append, Nat.reduceAdd, Nat.reduceSub, reduceIte, retV, andV, notV, callM, callF, consA, nilA, varM, cM, List.getElem?_cons_zero, List.getElem?_cons_succ, Out.bind, opM, Out.toS, Bool.false_eq_true, seqM, setM, dropM, ifS, notT, blM, skipM, List.set_cons_zero, List.set_cons_succ, Bool.not_true, Bool.not_false, e, e2, e3]
abbrev oaBody : MS := seqM (setM 6 (callF m_part (consA (varM 5) (consA (varM 3) (consA (varM 2) nilA))))) (setAM (varM 4) (varM 6) (opM addV (getM (varM 4) (varM 6) (cM (.int 0))) (cM (.int 1))))
theorem own_above_ok {h : VH} {lot low high : List Int} {R : List (List Int)} (hR : ∀ r ∈ R, r.length = lot.length) (hn : R.length < 63) (hl : low ∈ lots) (hh : high ∈ lots) (h1 : ∀ x ∈ low, x ∈ high) (h2 : ∀ x ∈ high, x ∈ lot) :
    m_own_above [Rs R, Kt lot, Kt low, Kt high] h = .ok (.ref h.length) (h ++ [.dtt (ksP (tally (low_ lot low high R))) (vsP (tally (low_ lot low high R)))]) := by
  obtain ⟨hA, eA⟩ : ∃ hA, hA = h ++ [VO.dtt (ksP (tally [])) (vsP (tally []))] := ⟨_, rfl⟩
  have f0 : hA[h.length]? = some (.dtt (ksP (tally [])) (vsP (tally []))) := by
    rw [eA, List.getElem?_append_right (Nat.le_refl _), Nat.sub_self]
    rfl
  have prow : ∀ r ∈ proj lot high R, r.length = high.length := fun r hr => by
    obtain ⟨q, _, e⟩ := mem_proj.mp hr
    rw [← e, part_len]
  have plen : (proj lot high R).length ≤ 1000 := Nat.le_trans (by
    have := (proj_nodup (lot := lot) (some := high) (R := R)).length_le_of_subset (l₂ := R.map (Tb.part lot high)) fun z hz => by
      obtain ⟨q, hq, e⟩ := mem_proj.mp hz
      exact List.mem_map.mpr ⟨q, hq, e⟩
    simpa using this) (by omega : R.length ≤ 1000)
  have e1 := parts_ok (h := hA) hR hn h2 (lots_fits high hh)
  obtain ⟨sl2, ⟨s5, s6, p2⟩, k⟩ := count_go (f := h.length) (mg := nameG 5) (body := oaBody) (part' := Tb.part high low)
    (fun sl => ∃ s5 s6, sl = [.val (Rs R), .val (Kt lot), .val (Kt low), .val (Kt high), .val (.ref h.length), s5, s6]) (fun r => r.length = high.length)
    (fun sl g2 L r ⟨s5, s6, es⟩ hr eg hn => by
      subst es
      have k1 := opart_ok (h := g2) hr h1 (lots_fits low hl)
      refine ⟨_, [.val (Rs R), .val (Kt lot), .val (Kt low), .val (Kt high), .val (.ref h.length), .val (tupV r), .val (tupV (Tb.part high low r))], rfl, ?_, _, _, rfl⟩
      have c1 := count_step (h := g2) (f := h.length) (L := L) (k := Tb.part high low r) (sv := [some (Rs R), some (Kt lot), some (Kt low), some (Kt high), some (.ref h.length), some (tupV r), some (tupV (Tb.part high low r))]) (md := varM 4) (mk := varM 6) eg rfl rfl
      have c2 := mk_set (h := g2) (f := h.length) (L := L) (k := Tb.part high low r) (mo := varM 4) (me := opM addV (getM (varM 4) (varM 6) (cM (.int 0))) (cM (.int 1))) (mi := varM 6) (sl := [.val (Rs R), .val (Kt lot), .val (Kt low), .val (Kt high), .val (.ref h.length), .val (tupV r), .val (tupV (Tb.part high low r))]) eg hn c1 rfl rfl
      simp only [setsS, List.set_cons_succ, List.set_cons_zero, seqM, setM, view, List.map_cons, List.map_nil, Slot.view, callF, consA, nilA, varM, List.getElem?_cons_succ, List.getElem?_cons_zero, Out.bind, k1, Out.toS, c2])
    (proj lot high R) [] [.val (Rs R), .val (Kt lot), .val (Kt low), .val (Kt high), .val (.ref h.length), .no, .no] hA prow ⟨_, _, rfl⟩ f0 (by simp only [List.length_nil]; omega)
  rw [List.nil_append] at k
  have eC : hA.set h.length (.dtt (ksP (tally ((proj lot high R).map (Tb.part high low)))) (vsP (tally ((proj lot high R).map (Tb.part high low))))) = h ++ [.dtt (ksP (tally (low_ lot low high R))) (vsP (tally (low_ lot low high R)))] := by
    rw [eA, List.set_append_right _ _ (Nat.le_refl _), Nat.sub_self]
    rfl
  rw [eC] at k
  have e4 : seqA (callF m_parts (consA (varM 0) (consA (varM 1) (consA (varM 3) nilA)))) [some (Rs R), some (Kt lot), some (Kt low), some (Kt high), some (.ref h.length), none, none] hA = .ok ((proj lot high R).map tupV) hA := seq_Rs (by simp only [fnM, startS, view, Slot.view, List.map_cons, List.map_nil, List.length_cons, List.length_nil, List.replicate, List.cons_append, List.nil_append, Nat.reduceAdd, Nat.reduceSub, reduceIte, retV, andV, notV, callM, callF, consA, nilA, varM, cM, List.getElem?_cons_zero, List.getElem?_cons_succ, Out.bind, opM, Out.toS, Bool.false_eq_true, seqM, setM, dropM, ifS, notT, blM, skipM, List.set_cons_zero, List.set_cons_succ, Bool.not_true, Bool.not_false, e1])
  have sA : (setM 4 newDT) [.val (Rs R), .val (Kt lot), .val (Kt low), .val (Kt high), .no, .no, .no] h = .nx [.val (Rs R), .val (Kt lot), .val (Kt low), .val (Kt high), .val (.ref h.length), .no, .no] hA := by
    rw [eA]; rfl
  have sF : (Mv.forM (seqA (callF m_parts (consA (varM 0) (consA (varM 1) (consA (varM 3) nilA))))) (nameG 5) oaBody) [.val (Rs R), .val (Kt lot), .val (Kt low), .val (Kt high), .val (.ref h.length), .no, .no] hA = .nx sl2 (h ++ [.dtt (ksP (tally (low_ lot low high R))) (vsP (tally (low_ lot low high R)))]) := by
    simp only [Mv.forM, view, List.map_cons, List.map_nil, Slot.view, e4, Out.toS, k]
  have sR : (retV (varM 4)) sl2 (h ++ [.dtt (ksP (tally (low_ lot low high R))) (vsP (tally (low_ lot low high R)))]) = .rt (.ref h.length) (h ++ [.dtt (ksP (tally (low_ lot low high R))) (vsP (tally (low_ lot low high R)))]) := by
    rw [p2]; rfl
  refine fn_rt (s0 := [.val (Rs R), .val (Kt lot), .val (Kt low), .val (Kt high), .no, .no, .no]) rfl rfl ?_
  show seqM _ (seqM _ _) _ _ = _
  rw [seqM_nx sA, seqM_nx sF, sR]
theorem own_degree_ok {h : VH} {lot low high : List Int} {R : List (List Int)} (hR : ∀ r ∈ R, r.length = lot.length) (hn : R.length < 63) (hl : low ∈ lots) (hh : high ∈ lots) (h1 : ∀ x ∈ low, x ∈ high) (h2 : ∀ x ∈ high, x ∈ lot) :
    ∃ t', m_own_degree [Rs R, Kt lot, Kt low, Kt high] h = .ok (.int (deg lot low high R : Nat)) (h ++ t') := by
  have e := own_above_ok (h := h) hR hn hl hh h1 h2
  refine ⟨[.dtt (ksP (tally (low_ lot low high R))) (vsP (tally (low_ lot low high R)))], ?_⟩
  · have e2 : listValsM (callF m_own_above (consA (varM 0) (consA (varM 1) (consA (varM 2) (consA (varM 3) nilA))))) [some (Rs R), some (Kt lot), some (Kt low), some (Kt high)] h = .ok (.lst (vsP (tally (low_ lot low high R)))) (h ++ [.dtt (ksP (tally (low_ lot low high R))) (vsP (tally (low_ lot low high R)))]) := by
      have d : dictT (h ++ [.dtt (ksP (tally (low_ lot low high R))) (vsP (tally (low_ lot low high R)))]) (.ref h.length) = some (ksP (tally (low_ lot low high R)), vsP (tally (low_ lot low high R))) := by
        simp [dictT]
      simp only [listValsM, fnM, startS, view, Slot.view, List.map_cons, List.map_nil, List.length_cons, List.length_nil, List.replicate, List.cons_append, List.nil_append, Nat.reduceAdd, Nat.reduceSub, reduceIte, retV, andV, notV, callM, callF, consA, nilA, varM, cM, List.getElem?_cons_zero, List.getElem?_cons_succ, Out.bind, opM, Out.toS, Bool.false_eq_true, seqM, setM, dropM, ifS, notT, blM, skipM, List.set_cons_zero, List.set_cons_succ, Bool.not_true, Bool.not_false, e, d]
    have f1 : fits 1 = true := rfl
    have f2 : fits (1 + ((low_ lot low high R).length)) = true ∧ True := ⟨Nat.ble_eq_true_of_le (by
      have := (proj_nodup (lot := lot) (some := high) (R := R)).length_le_of_subset (l₂ := R.map (Tb.part lot high)) fun z hz => by
        obtain ⟨q, hq, e⟩ := mem_proj.mp hz
        exact List.mem_map.mpr ⟨q, hq, e⟩
      rw [List.length_map] at this
      unfold low_
      rw [List.length_map]
      omega), trivial⟩
    have f3 : fits (1 + (vsP (tally (low_ lot low high R))).length) = true := Nat.ble_eq_true_of_le (by
      have h1 := tally_len (low_ lot low high R)
      have h2 := Nat.le_of_ble_eq_true f2.1
      simp only [vsP, List.length_map]
      omega)
    have e3 : opM addV (lstM (consA (cM (.int 0)) nilA)) (listValsM (callF m_own_above (consA (varM 0) (consA (varM 1) (consA (varM 2) (consA (varM 3) nilA)))))) [some (Rs R), some (Kt lot), some (Kt low), some (Kt high)] h = .ok (.lst (.int 0 :: vsP (tally (low_ lot low high R)))) (h ++ [.dtt (ksP (tally (low_ lot low high R))) (vsP (tally (low_ lot low high R)))]) := by
      simp only [opM, lstM, consA, nilA, cM, Out.bind, List.length_cons, List.length_nil, Nat.reduceAdd, f1, if_true, e2, addV, f3, List.cons_append, List.nil_append]
    have e4 : max1F [.lst (.int 0 :: vsP (tally (low_ lot low high R)))] (h ++ [.dtt (ksP (tally (low_ lot low high R))) (vsP (tally (low_ lot low high R)))]) = .ok (.int (deg lot low high R : Nat)) (h ++ [.dtt (ksP (tally (low_ lot low high R))) (vsP (tally (low_ lot low high R)))]) := by
      unfold tally
      rw [vsP_counts]
      have a1 : allIt (.int 0 :: (((fo (low_ lot low high R)).map fun k => (low_ lot low high R).count k).map fun n => ((n : Nat) : Int)).map VV.int) = some (0 :: ((fo (low_ lot low high R)).map fun k => (low_ lot low high R).count k).map fun n => ((n : Nat) : Int)) := allIt_int (0 :: _)
      have a2 := maxL_top ((fo (low_ lot low high R)).map fun k => (low_ lot low high R).count k) 0
      rw [top_fo, Nat.zero_max] at a2
      simp only [max1F, Mv.listOf, a1]
      rw [show maxL 0 _ = _ from a2]
      rfl
    simp only [m_own_degree, b_own_degree, fnM, startS, view, Slot.view, List.map_cons, List.map_nil, List.length_cons, List.length_nil, List.replicate, List.append_nil, Nat.reduceAdd, Nat.reduceSub, if_true, retV, callM, consA, nilA, Out.bind, e3, e4, Out.toS]
end K05
set_option Elab.async false
set_option linter.all false
set_option maxRecDepth 100000
namespace K05
open PySem PySem.Spec PyProof.Rows L2 Mv Tb
theorem subs_mem : ∀ {l L : List Int}, List.Sublist l L → l ∈ subs L
  | _, _, .slnil => by simp [subs]
  | _, _, .cons a s => by
    unfold subs
    exact List.mem_append_right _ (subs_mem s)
  | _, _, .cons_cons a s => by
    unfold subs
    exact List.mem_append_left _ (List.mem_map.mpr ⟨_, subs_mem s, rfl⟩)
theorem sorted_sub : ∀ {L l : List Int}, L.Pairwise (· < ·) → l.Pairwise (· < ·) → (∀ x ∈ l, x ∈ L) → List.Sublist l L
  | L, [], _, _, _ => List.nil_sublist _
  | [], x :: l, _, _, h => absurd (h x List.mem_cons_self) (by simp)
  | y :: L, x :: l, hL, hl, h => by
    obtain ⟨a1, a2⟩ := List.pairwise_cons.mp hL
    obtain ⟨b1, b2⟩ := List.pairwise_cons.mp hl
    by_cases c : x = y
    · subst c
      refine (sorted_sub a2 b2 fun z hz => ?_).cons_cons x
      rcases List.mem_cons.mp (h z (List.mem_cons_of_mem _ hz)) with e | e
      · have := b1 z hz
        omega
      · exact e
    · have hx : x ∈ L := (List.mem_cons.mp (h x List.mem_cons_self)).resolve_left c
      have hy := a1 x hx
      refine (sorted_sub a2 hl fun z hz => ?_).cons y
      rcases List.mem_cons.mp hz with e | e
      · rw [e]; exact hx
      · have hz2 := b1 z e
        exact (List.mem_cons.mp (h z hz)).resolve_left (by omega)
theorem mem_lots {l : List Int} (h1 : l.Pairwise (· < ·)) (h2 : ∀ x ∈ l, 0 ≤ x ∧ x < 6) : l ∈ lots := subs_mem (sorted_sub (by decide) h1 fun x hx => by
  obtain ⟨a, b⟩ := h2 x hx
  have : x = 0 ∨ x = 1 ∨ x = 2 ∨ x = 3 ∨ x = 4 ∨ x = 5 := by omega
  rcases this with rfl | rfl | rfl | rfl | rfl | rfl <;> simp)
theorem lots_sorted : ∀ a ∈ lots, a.Pairwise (· < ·) := by decide +kernel
def join (a b : List Int) : List Int := sortU (a ++ b)
theorem mem_join {x : Int} {a b : List Int} : x ∈ join a b ↔ x ∈ a ∨ x ∈ b := by
  unfold join
  rw [mem_sortU, List.mem_append]
theorem join_lots {a b : List Int} (ha : a ∈ lots) (hb : b ∈ lots) : join a b ∈ lots := mem_lots (sortU_sorted _) fun x hx => by
  rcases mem_join.mp hx with h | h
  · exact (lots_facts a ha).2.2 x h
  · exact (lots_facts b hb).2.2 x h
theorem both_ok {h : VH} {a b : List Int} (ha : a ∈ lots) (hb : b ∈ lots) : m_both [Kt a, Kt b] h = .ok (Kt (join a b)) h := by
  have la := (lots_facts a ha).2.1
  have lb := (lots_facts b hb).2.1
  have f1 : fits (a.length + b.length) = true := Nat.ble_eq_true_of_le (by omega)
  have e : ∃ v, addKV (Kt a) (Kt b) h = .ok v h ∧ sortedSetTF [v] h = .ok (.lst ((join a b).map VV.int)) h := by
    unfold join
    cases a with
    | nil =>
      have l2 : b.length < 63 := by omega
      refine ⟨Kt b, by simp [addKV, tupLk, Kt] at f1 ⊢; simp [f1], ?_⟩
      simp [sortedSetTF, allIt_int, l2]
    | cons x a =>
      cases b with
      | nil =>
        have l2 : (x :: a).length < 63 := by omega
        refine ⟨Kt (x :: a), by simp [addKV, tupLk, Kt] at f1 ⊢; simp [f1], ?_⟩
        have k := allIt_int (x :: a)
        simp only [List.append_nil, sortedSetTF, k, l2, if_true]
      | cons y b =>
        have l2 : ((x :: a) ++ (y :: b)).length < 63 := by rw [List.length_append]; omega
        refine ⟨.tup (((x :: a) ++ (y :: b)).map VV.int), by simp [addKV, tupLk, Kt] at f1 ⊢; simp [f1], ?_⟩
        have k := allIt_int ((x :: a) ++ (y :: b))
        simp only [sortedSetTF, sortedSetF, k, l2, if_true]
  obtain ⟨v, e1, e2⟩ := e
  have e3 : tupKF [.lst ((join a b).map VV.int)] h = .ok (Kt (join a b)) h := rfl
  simp only [m_both, b_both, fnM, startS, view, Slot.view, List.map_cons, List.map_nil, List.length_cons, List.length_nil, List.replicate, List.cons_append, List.nil_append, Nat.reduceAdd, Nat.reduceSub, reduceIte, retV, andV, notV, callM, callF, consA, nilA, varM, cM, List.getElem?_cons_zero, List.getElem?_cons_succ, Out.bind, opM, Out.toS, Bool.false_eq_true, seqM, setM, dropM, ifS, notT, blM, skipM, List.set_cons_zero, List.set_cons_succ, Bool.not_true, Bool.not_false, e1, e2, e3]
def rest (a b : List Int) : List Int := a.filter fun x => !decide (x ∈ b)
theorem mem_rest {x : Int} {a b : List Int} : x ∈ rest a b ↔ x ∈ a ∧ x ∉ b := by
  unfold rest
  rw [List.mem_filter]
  simp
theorem rest_lots {a b : List Int} (ha : a ∈ lots) : rest a b ∈ lots := mem_lots (List.Pairwise.sublist List.filter_sublist (lots_sorted a ha)) fun x hx => (lots_facts a ha).2.2 x (mem_rest.mp hx).1
theorem rest_ok {h : VH} {a b : List Int} (ha : a ∈ lots) : m_rest_in [Kt a, Kt b] h = .ok (Kt (rest a b)) h := by
  have e : lcM (seqA (varM 0)) (nameG 2) [2] (blM (opM (inA true) (varM 2) (varM 1))) (varM 2) [some (Kt a), some (Kt b), none] h = .ok (.lst ((rest a b).map VV.int)) h := by
    have k := lc_at (it := seqA (varM 0)) (sv := [some (Kt a), some (Kt b), none]) (h := h) (h1 := h) (i := 2) (t := blM (opM (inA true) (varM 2) (varM 1))) (e := varM 2) (items := a.map VV.int) (fun v => match v with | .int x => !decide (x ∈ b) | _ => false) id (seq_Kt rfl) (by rw [List.length_map]; exact lots_fits a ha) fun v hv => by
      obtain ⟨x, hx, rfl⟩ := List.mem_map.mp hv
      exact ⟨by simp only [fnM, startS, view, Slot.view, List.map_cons, List.map_nil, List.length_cons, List.length_nil, List.replicate, List.cons_append, List.nil_append, Nat.reduceAdd, Nat.reduceSub, reduceIte, retV, andV, notV, callM, callF, consA, nilA, varM, cM, List.getElem?_cons_zero, List.getElem?_cons_succ, Out.bind, opM, Out.toS, Bool.false_eq_true, seqM, setM, dropM, ifS, notT, blM, skipM, List.set_cons_zero, List.set_cons_succ, Bool.not_true, Bool.not_false, inA_Kt], fun _ => by simp only [fnM, startS, view, Slot.view, List.map_cons, List.map_nil, List.length_cons, List.length_nil, List.replicate, List.cons_append, List.nil_append, Nat.reduceAdd, Nat.reduceSub, reduceIte, retV, andV, notV, callM, callF, consA, nilA, varM, cM, List.getElem?_cons_zero, List.getElem?_cons_succ, Out.bind, opM, Out.toS, Bool.false_eq_true, seqM, setM, dropM, ifS, notT, blM, skipM, List.set_cons_zero, List.set_cons_succ, Bool.not_true, Bool.not_false, id]⟩
    rw [k, List.map_id, List.filter_map]
    rfl
  have e3 : tupKF [.lst ((rest a b).map VV.int)] h = .ok (Kt (rest a b)) h := rfl
  simp only [m_rest_in, b_rest_in, fnM, startS, view, Slot.view, List.map_cons, List.map_nil, List.length_cons, List.length_nil, List.replicate, List.cons_append, List.nil_append, Nat.reduceAdd, Nat.reduceSub, reduceIte, retV, andV, notV, callM, callF, consA, nilA, varM, cM, List.getElem?_cons_zero, List.getElem?_cons_succ, Out.bind, opM, Out.toS, Bool.false_eq_true, seqM, setM, dropM, ifS, notT, blM, skipM, List.set_cons_zero, List.set_cons_succ, Bool.not_true, Bool.not_false, e, e3]
theorem tab_len {h : VH} {n : Nat} {lot : List Int} {R : List (List Int)} (t : Tab h n lot R) (hn : R.length < 1000000) : lenIF [(0, m_Table_len)] [.ref n] h = .ok (.int (R.length : Nat)) h := by
  obtain ⟨d, s, e⟩ := t.ins
  have e1 := t.rows (a := varM 0) (sv := [some (.ref n)]) (h0 := h) rfl
  have e2 : m_Table_len [.ref n] h = .ok (.int (R.length : Nat)) h := by
    simp only [m_Table_len, b_Table_len, fnM, startS, view, Slot.view, List.map_cons, List.map_nil, List.length_cons, List.length_nil, List.replicate, List.cons_append, List.nil_append, Nat.reduceAdd, Nat.reduceSub, reduceIte, retV, andV, notV, callM, callF, consA, nilA, varM, cM, List.getElem?_cons_zero, List.getElem?_cons_succ, Out.bind, opM, Out.toS, Bool.false_eq_true, seqM, setM, dropM, ifS, notT, blM, skipM, List.set_cons_zero, List.set_cons_succ, Bool.not_true, Bool.not_false, e1, len_Rs]
  have e3 : 0 ≤ ((R.length : Nat) : Int) ∧ ((R.length : Nat) : Int) < 4611686018427387904 := by omega
  simp only [lenIF, e, List.lookup, beq_self_eq_true, e2, e3, and_self, if_true]
theorem tab_rows {h h0 : VH} {n : Nat} {lot : List Int} {R : List (List Int)} (t : Tab h n lot R) {a : ME} {sv : Sv} (ha : a sv h0 = .ok (.ref n) h) : propM [(0, m_Table_rows)] a sv h0 = .ok (Rs R) h := by
  obtain ⟨d, s, e⟩ := t.ins
  have e1 := t.rows (a := varM 0) (sv := [some (.ref n)]) (h0 := h) rfl
  have e2 : m_Table_rows [.ref n] h = .ok (Rs R) h := by
    simp only [m_Table_rows, b_Table_rows, fnM, startS, view, Slot.view, List.map_cons, List.map_nil, List.length_cons, List.length_nil, List.replicate, List.cons_append, List.nil_append, Nat.reduceAdd, Nat.reduceSub, reduceIte, retV, andV, notV, callM, callF, consA, nilA, varM, cM, List.getElem?_cons_zero, List.getElem?_cons_succ, Out.bind, opM, Out.toS, Bool.false_eq_true, seqM, setM, dropM, ifS, notT, blM, skipM, List.set_cons_zero, List.set_cons_succ, Bool.not_true, Bool.not_false, e1]
  simp only [propM, ha, Out.bind, e, List.lookup, beq_self_eq_true, e2]
theorem subT_tally (L : List (List Int)) : ∀ KS : List (List Int), (∀ k ∈ KS, k ∈ L) → subT (ksP (tally L)) (vsP (tally L)) (ksP (KS.map fun k => ((k, VV.int (L.count k : Nat)) : List Int × VV))) (vsP (KS.map fun k => ((k, VV.int (L.count k : Nat)) : List Int × VV))) = true
  | [], _ => rfl
  | k :: KS, h => by
    have ih := subT_tally L KS fun x hx => h x (List.mem_cons_of_mem _ hx)
    have e : findT (ksP (tally L)) (vsP (tally L)) (tupV k) = some (.int (L.count k : Nat)) := by
      rw [findT_P, find_tally, if_pos (h k List.mem_cons_self)]
    unfold ksP vsP at ih e ⊢
    simp only [List.map_cons, subT, e, ih, decide_true, Bool.and_self]
theorem alike {h : VH} {f : Nat} {L : List (List Int)} {neg : Bool} (e : h[f]? = some (.dtt (ksP (tally L)) (vsP (tally L)))) : eqVP neg (.dtt (ksP (stally L)) (vsP (stally L))) (.ref f) h = .ok (.bl (!neg)) h := by
  have s := subT_tally L (sortK (fo L)) fun k hk => (mem_fo k L).mp ((sortK_perm _).mem_iff.mp hk)
  have l : Nat.beq (ksP (stally L)).length (ksP (tally L)).length = true := by
    have : (ksP (stally L)).length = (ksP (tally L)).length := by simp [ksP, stally, tally, (sortK_perm (fo L)).length_eq]
    rw [this]
    exact Nat.beq_refl _
  have e1 : dictT h (.ref f) = some (ksP (tally L), vsP (tally L)) := by simp [dictT, e]
  have e2 : dictT h (.dtt (ksP (stally L)) (vsP (stally L))) = some (ksP (stally L), vsP (stally L)) := rfl
  have s' : subT (ksP (tally L)) (vsP (tally L)) (ksP (stally L)) (vsP (stally L)) = true := s
  simp only [eqVP, e1, e2, l, s', Bool.and_self, if_true]
theorem ksP_stally (L : List (List Int)) : ksP (stally L) = (sortK (fo L)).map tupV := by simp [ksP, stally]
theorem sortK_id {R : List (List Int)} (h : SrtK R) : sortK R = R := srtK_unique (sortK_perm R) (sortK_sorted R) h
theorem keys_sorted {h : VH} {L : List (List Int)} {d : Nat} (hd : ∀ r ∈ L, r.length = d) : listDF [.dtt (ksP (stally L)) (vsP (stally L))] h = .ok (Rl (sortK (fo L))) h ∧ sortedAF [.dtt (ksP (stally L)) (vsP (stally L))] h = .ok (Rl (sortK (fo L))) h := by
  refine ⟨by simp [listDF, dictT, ksP_stally], ?_⟩
  have k := sortedA_dict (x := .dtt (ksP (stally L)) (vsP (stally L))) (R := sortK (fo L)) (vs := vsP (stally L)) (d := d) (h := h) (by simp [dictT, ksP_stally]) fun r hr => hd r ((mem_fo r L).mp ((sortK_perm _).mem_iff.mp hr))
  rw [sortK_id (sortK_sorted _)] at k
  exact k
theorem section_ok {h : VH} {n : Nat} {lot low : List Int} {R : List (List Int)} {row : List Int} (t : Tab h n lot R) (g : Good lot R) (hl : low ∈ lots) (hs : ∀ x ∈ low, x ∈ lot) (hr : row.length = low.length) (hrs : Small row) :
    ∃ k t', m_section [.ref n, Kt low, tupV row] h = .ok (.ref k) (h ++ t') ∧ Tab (h ++ t') k (rest lot low) (sect lot low (rest lot low) R row) := by
  have c1 := t.lot (a := varM 0) (sv := [some (.ref n), some (Kt low), some (tupV row)]) (h0 := h) rfl
  have a1 : m_require_on [Kt low, tupV row] h = .ok .non h := by
    have k := row_ok h hr hrs (by rw [hr]; exact lots_fits low hl)
    simp only [m_require_on, b_require_on, fnM, startS, view, Slot.view, List.map_cons, List.map_nil, List.length_cons, List.length_nil, List.replicate, List.cons_append, List.nil_append, Nat.reduceAdd, Nat.reduceSub, reduceIte, retV, andV, notV, callM, callF, consA, nilA, varM, cM, List.getElem?_cons_zero, List.getElem?_cons_succ, Out.bind, opM, Out.toS, Bool.false_eq_true, seqM, setM, dropM, ifS, notT, blM, skipM, List.set_cons_zero, List.set_cons_succ, Bool.not_true, Bool.not_false, k]
  have hrl := rest_lots (b := low) g.inl
  have hrs2 : ∀ x ∈ rest lot low, x ∈ lot := fun x hx => (mem_rest.mp hx).1
  have p1 := places_ok (h := h) hs (lots_fits low hl)
  have p2 := places_ok (h := h) hrs2 (lots_fits _ hrl)
  have lc : lcM (seqA (attrM [(0, 1)] (varM 0))) (nameG 6) [6] (blM (opM (eqV false) (callF m_part_in (consA (varM 6) (consA (varM 4) nilA))) (varM 2))) (callF m_part_in (consA (varM 6) (consA (varM 5) nilA))) [some (.ref n), some (Kt low), some (tupV row), some (Kt (rest lot low)), some (Pl lot low), some (Pl lot (rest lot low)), none] h = .ok (Rl ((R.filter fun r => Tb.part lot low r == row).map (Tb.part lot (rest lot low)))) h := by
    have k := lc_at (it := seqA (attrM [(0, 1)] (varM 0))) (sv := [some (.ref n), some (Kt low), some (tupV row), some (Kt (rest lot low)), some (Pl lot low), some (Pl lot (rest lot low)), none]) (h := h) (h1 := h) (i := 6)
      (t := blM (opM (eqV false) (callF m_part_in (consA (varM 6) (consA (varM 4) nilA))) (varM 2))) (e := callF m_part_in (consA (varM 6) (consA (varM 5) nilA))) (items := R.map tupV)
      (fun v => match v with | .tup xs => (match allIt xs with | some r => Tb.part lot low r == row | none => false) | _ => false) (fun v => match v with | .tup xs => (match allIt xs with | some r => tupV (Tb.part lot (rest lot low) r) | none => .non) | _ => .non)
      (seq_Rs (t.rows rfl)) (by simpa using g.fits) fun v hv => by
        obtain ⟨r, hr2, rfl⟩ := List.mem_map.mp hv
        have q1 := part_ok (h := h) (g.len r hr2) hs (lots_fits low hl)
        have q2 := part_ok (h := h) (g.len r hr2) hrs2 (lots_fits _ hrl)
        have q3 : Mv.eqV false (tupV (Tb.part lot low r)) (tupV row) h = .ok (.bl (Tb.part lot low r == row)) h := by
          have qq : decide (Tb.part lot low r = row) = (Tb.part lot low r == row) := by rw [Bool.eq_iff_iff]; simp
          simp only [Mv.eqV, eqO_tupV, Bool.false_eq_true, if_false, qq]
        have q4 : (match tupV r with | .tup xs => (match allIt xs with | some r => Tb.part lot low r == row | none => false) | _ => false) = (Tb.part lot low r == row) := by simp only [tupV, allIt_int]
        have q5 : (match tupV r with | .tup xs => (match allIt xs with | some r => tupV (Tb.part lot (rest lot low) r) | none => .non) | _ => .non) = tupV (Tb.part lot (rest lot low) r) := by simp only [tupV, allIt_int]
        refine ⟨?_, fun _ => ?_⟩
        · refine Eq.trans ?_ (congrArg (fun b => (Out.ok b h : Out Bool)) q4.symm)
          simp only [fnM, startS, view, Slot.view, List.map_cons, List.map_nil, List.length_cons, List.length_nil, List.replicate, List.cons_append, List.nil_append, Nat.reduceAdd, Nat.reduceSub, reduceIte, retV, andV, notV, callM, callF, consA, nilA, varM, cM, List.getElem?_cons_zero, List.getElem?_cons_succ, Out.bind, opM, Out.toS, Bool.false_eq_true, seqM, setM, dropM, ifS, notT, blM, skipM, List.set_cons_zero, List.set_cons_succ, Bool.not_true, Bool.not_false, q1, q3]
        · refine Eq.trans ?_ (congrArg (fun b => (Out.ok b h : Out VV)) q5.symm)
          simp only [fnM, startS, view, Slot.view, List.map_cons, List.map_nil, List.length_cons, List.length_nil, List.replicate, List.cons_append, List.nil_append, Nat.reduceAdd, Nat.reduceSub, reduceIte, retV, andV, notV, callM, callF, consA, nilA, varM, cM, List.getElem?_cons_zero, List.getElem?_cons_succ, Out.bind, opM, Out.toS, Bool.false_eq_true, seqM, setM, dropM, ifS, notT, blM, skipM, List.set_cons_zero, List.set_cons_succ, Bool.not_true, Bool.not_false, q2]
    rw [k, List.filter_map, List.map_map]
    congr 2
    have ff : List.filter ((fun v => match v with | .tup xs => (match allIt xs with | some r => Tb.part lot low r == row | none => false) | _ => false) ∘ tupV) R = R.filter fun r => Tb.part lot low r == row := by
      refine List.filter_congr fun r _ => ?_
      simp only [Function.comp, tupV, allIt_int]
    rw [ff, List.map_map]
    refine List.map_congr_left fun r _ => ?_
    simp only [Function.comp, tupV, allIt_int]
  have flen : (R.filter fun r => Tb.part lot low r == row).length ≤ 1000 := Nat.le_trans (List.length_filter_le _ _) g.few
  have m1 := made_ok (h := h) (R := (R.filter fun r => Tb.part lot low r == row).map (Tb.part lot (rest lot low))) (d := (rest lot low).length) hrl (fun r hr => by obtain ⟨q, _, e⟩ := List.mem_map.mp hr; rw [← e, part_len]) (by rw [List.length_map]; exact Nat.ble_eq_true_of_le (by omega))
  have d1 := rest_ok (h := h) (b := low) g.inl
  have c2 := t.lot (a := varM 0) (sv := [some (.ref n), some (Kt low), some (tupV row), some (Kt (rest lot low)), none, none, none]) (h0 := h) rfl
  have c3 := t.lot (a := varM 0) (sv := [some (.ref n), some (Kt low), some (tupV row), none, none, none, none]) (h0 := h) rfl
  have f2 : fits 2 = true := rfl
  have s1 : m_section_in [.ref n, Kt low, tupV row] h = .ok (.ref (h.length + 1)) (h ++ tabO h.length (Kt (rest lot low)) (sect lot low (rest lot low) R row) (told (rest lot low))) := by
    simp only [m_section_in, b_section_in, fnM, startS, view, Slot.view, List.map_cons, List.map_nil, List.length_cons, List.length_nil, List.replicate, List.cons_append, List.nil_append, Nat.reduceAdd, Nat.reduceSub, reduceIte, retV, andV, notV, callM, callF, consA, nilA, varM, cM, List.getElem?_cons_zero, List.getElem?_cons_succ, Out.bind, opM, Out.toS, Bool.false_eq_true, seqM, setM, dropM, ifS, notT, blM, skipM, List.set_cons_zero, List.set_cons_succ, Bool.not_true, Bool.not_false, c3, d1, asgM, tupM, c2, p1, p2, f2, tupG, consG, nilG, nameG, Option.bind_some, Option.map_some, setsS, lc, m1, sect]
  refine ⟨h.length + 1, tabO h.length (Kt (rest lot low)) (sect lot low (rest lot low) R row) (told (rest lot low)), ?_, Tab.new⟩
  simp only [m_section, b_section, fnM, startS, view, Slot.view, List.map_cons, List.map_nil, List.length_cons, List.length_nil, List.replicate, List.cons_append, List.nil_append, Nat.reduceAdd, Nat.reduceSub, reduceIte, retV, andV, notV, callM, callF, consA, nilA, varM, cM, List.getElem?_cons_zero, List.getElem?_cons_succ, Out.bind, opM, Out.toS, Bool.false_eq_true, seqM, setM, dropM, ifS, notT, blM, skipM, List.set_cons_zero, List.set_cons_succ, Bool.not_true, Bool.not_false, table_ok t, require_ok h low hl, c1, within_ok hs (lots_fits low hl), a1, s1]
end K05
set_option Elab.async false
set_option linter.all false
set_option maxRecDepth 100000
namespace K05
open PySem PySem.Spec PyProof.Rows L2 Mv Tb
theorem mulC_small {i j : Int} (hi : i.natAbs < 2 ^ 4000) (hj : j.natAbs < 2 ^ 4000) : mulC i j = true := by
  have a := PySem.intBits_le_iff.mpr hi
  have b := PySem.intBits_le_iff.mpr hj
  unfold mulC
  rw [bitsN_eq, bitsN_eq]
  exact Nat.ble_eq_true_of_le (by omega)
theorem pylong_small {i j : Int} (hi : i.natAbs < 2 ^ 4000) (hj : 0 < j) : pylongN i j = false := by
  have a := PySem.intBits_le_iff.mpr hi
  exact (divp_ok hj (by omega)).2
theorem mul_ii {i j : Int} {h : VH} (hi : i.natAbs < 2 ^ 4000) (hj : j.natAbs < 2 ^ 4000) : mulAV (.int i) (.int j) h = .ok (.int (i * j)) h := by simp [mulAV, mulV, mulC_small hi hj]
theorem add_ii {i j : Int} {h : VH} : addV (.int i) (.int j) h = .ok (.int (i + j)) h := rfl
theorem sub_ii {i j : Int} {h : VH} : subV (.int i) (.int j) h = .ok (.int (i - j)) h := rfl
theorem mod_ii {i j : Int} {h : VH} (hj : 0 < j) : modV (.int i) (.int j) h = .ok (.int (i % j)) h := by simp [modV, intV, hj]
theorem fdiv_ii {i j : Int} {h : VH} (hi : i.natAbs < 2 ^ 4000) (hj : 0 < j) : fdivV (.int i) (.int j) h = .ok (.int (i / j)) h := by simp [fdivV, intV, hj, pylong_small hi hj]
theorem p64 : (2 : Nat) ^ 64 < 2 ^ 4000 := by decide +kernel
def Cup (h : VH) (c k : Nat) : Prop := ∃ a b d : Int, h[c]? = some (.lst [.int a, .int b, .int d]) ∧ (0 ≤ a ∧ a.natAbs < 2 ^ 4000) ∧ (0 ≤ b ∧ b < 2305843009213693951) ∧ 0 ≤ d ∧ d + k < 1099511627776
theorem Cup.less {h : VH} {c k j : Nat} (t : Cup h c k) (hj : j ≤ k) : Cup h c j := by
  obtain ⟨a, b, d, h1, h2, h3, h4, h5⟩ := t
  exact ⟨a, b, d, h1, h2, h3, h4, by omega⟩
theorem Cup.app {h : VH} {c k : Nat} (t : Cup h c k) (g : VH) : Cup (h ++ g) c k := by
  obtain ⟨a, b, d, h1, h2⟩ := t
  exact ⟨a, b, d, get_app h1, h2⟩
theorem Cup.lt {h : VH} {c k : Nat} (t : Cup h c k) : c < h.length := by
  obtain ⟨a, b, d, h1, h2⟩ := t
  exact (List.getElem?_eq_some_iff.mp h1).1
def Go (h h' : VH) : Prop := ∀ (i : Nat) (o : VO), h[i]? = some o → (∀ vs, o ≠ .lst vs) → h'[i]? = some o
theorem Go.refl (h : VH) : Go h h := fun _ _ e _ => e
theorem Go.trans {h g f : VH} (a : Go h g) (b : Go g f) : Go h f := fun i o e n => b i o (a i o e n) n
theorem Go.app (h t : VH) : Go h (h ++ t) := fun _ _ e _ => get_app e
theorem Go.set {h : VH} {c : Nat} {vs us : List VV} (e : h[c]? = some (.lst vs)) : Go h (h.set c (.lst us)) := fun i o e2 n => by
  by_cases z : c = i
  · subst z
    rw [e] at e2
    exact absurd (Option.some.inj e2).symm (n vs)
  · rw [List.getElem?_set_ne z]
    exact e2
theorem Tab.go {h h' : VH} {n : Nat} {lot : List Int} {R : List (List Int)} (t : Tab h n lot R) (g : Go h h') : Tab h' n lot R := by
  obtain ⟨d, s, e1, e2⟩ := t
  exact ⟨d, s, g _ _ e1 (fun vs z => nomatch z), g _ _ e2 (fun vs z => nomatch z)⟩
theorem ixA_lst {h : VH} {n i : Nat} {vs : List VV} {v : VV} (hn : h[n]? = some (.lst vs)) (hv : vs[i]? = some v) : ixA (.ref n) (.int (i : Nat)) h = .ok v h := by
  simp [ixA, dgetO, dictT, dictK, ixV, hn, Tb.atI_nat hv]
section
variable {h : VH} {n : Nat} {a b c : Int} (hn : h[n]? = some (.lst [.int a, .int b, .int c]))
include hn
theorem ix0 : ixA (.ref n) (.int 0) h = .ok (.int a) h := ixA_lst (i := 0) hn rfl
theorem ix1 : ixA (.ref n) (.int 1) h = .ok (.int b) h := ixA_lst (i := 1) hn rfl
theorem ix2 : ixA (.ref n) (.int 2) h = .ok (.int c) h := ixA_lst (i := 2) hn rfl
end
theorem cup_set {h : VH} {c : Nat} {a b d : Int} {k : Nat} (hc : c < h.length) (ha : 0 ≤ a ∧ a.natAbs < 2 ^ 4000) (hb : 0 ≤ b ∧ b < 2305843009213693951) (hd : 0 ≤ d) (hk : d + k < 1099511627776) : Cup (h.set c (.lst [.int a, .int b, .int d])) c k :=
  ⟨a, b, d, List.getElem?_set_self hc, ha, hb, hd, hk⟩
theorem set_ok {h : VH} {n i : Nat} {vs : List VV} {v : VV} {sl : Sl} {mo mi me : ME} (he : me (view sl) h = .ok v h) (ho : mo (view sl) h = .ok (.ref n) h) (hi : mi (view sl) h = .ok (.int (i : Nat)) h) (hn : h[n]? = some (.lst vs)) (hl : i < vs.length) :
    setAM mo mi me sl h = .nx sl (h.set n (.lst (vs.set i v))) := by
  simp [setAM, he, ho, hi, Out.toS, hn, ixN, hl]
theorem tossed_ok {h : VH} {n k : Nat} {t : Int} (ht : Cup h n (k + 1)) (h0 : 0 < t) (h1 : t < 4611686018427387904) : ∃ (i : Int) (us : List VV), m_tossed [.ref n, .int t] h = .ok (.int i) (h.set n (.lst us)) ∧ 0 ≤ i ∧ i < t ∧ Cup (h.set n (.lst us)) n k := by
  obtain ⟨a, b, c, hn, ⟨a0, a1⟩, ⟨b0, b1⟩, c0, c1⟩ := ht
  have hl := (List.getElem?_eq_some_iff.mp hn).1
  have big := p64
  have sm : ∀ x : Int, x.natAbs < 2 ^ 64 → x.natAbs < 2 ^ 4000 := fun x hx => Nat.lt_trans hx big
  have e64 : (2 : Nat) ^ 64 = 18446744073709551616 := by decide +kernel
  have s0 : startS 5 2 [.ref n, .int t] = [.val (.ref n), .val (.int t), .no, .no, .no] := rfl
  by_cases ca : 0 < a
  · have i0 := Int.emod_nonneg a (show t ≠ 0 by omega)
    have i1 := Int.emod_lt_of_pos a h0
    have d0 : 0 ≤ a / t := Int.ediv_nonneg a0 (by omega)
    have d1 : a / t ≤ a := Int.ediv_le_self t a0
    have hs := cup_set (a := a / t) (b := b) (d := c) (k := k) hl ⟨d0, by omega⟩ ⟨b0, b1⟩ c0 (by omega)
    refine ⟨a % t, [.int (a / t), .int b, .int c], ?_, i0, i1, hs⟩
    have gt : gtV (.int a) (.int 0) h = .ok (.bl true) h := by simp [gtV, cmpV, ca]
    have st := set_ok (h := h) (n := n) (i := 0) (vs := [.int a, .int b, .int c]) (v := .int (a / t)) (sl := [.val (.ref n), .val (.int t), .val (.int (a % t)), .no, .no]) (mo := varM 0) (mi := cM (.int 0)) (me := opM fdivV (opM ixA (varM 0) (cM (.int 0))) (varM 1))
      (by simp only [fnM, startS, view, Slot.view, List.map_cons, List.map_nil, List.length_cons, List.length_nil, List.replicate, List.cons_append, List.nil_append, Nat.reduceAdd, Nat.reduceSub, reduceIte, retV, andV, notV, callM, callF, consA, nilA, varM, cM, List.getElem?_cons_zero, List.getElem?_cons_succ, Out.bind, opM, Out.toS, Bool.false_eq_true, seqM, setM, dropM, ifS, notT, blM, skipM, List.set_cons_zero, List.set_cons_succ, Bool.not_true, Bool.not_false, ix0 hn, fdiv_ii a1 h0]) rfl rfl hn (by simp)
    refine fn_rt (s0 := [.val (.ref n), .val (.int t), .no, .no, .no]) rfl rfl ?_
    refine seqM_rt ?_
    have cc : (blM (opM gtV (opM ixA (varM 0) (cM (.int 0))) (cM (.int 0)))) (view [.val (.ref n), .val (.int t), .no, .no, .no]) h = .ok true h := by simp only [fnM, startS, view, Slot.view, List.map_cons, List.map_nil, List.length_cons, List.length_nil, List.replicate, List.cons_append, List.nil_append, Nat.reduceAdd, Nat.reduceSub, reduceIte, retV, andV, notV, callM, callF, consA, nilA, varM, cM, List.getElem?_cons_zero, List.getElem?_cons_succ, Out.bind, opM, Out.toS, Bool.false_eq_true, seqM, setM, dropM, ifS, notT, blM, skipM, List.set_cons_zero, List.set_cons_succ, Bool.not_true, Bool.not_false, ix0 hn, gt]
    have s2 : setM 2 (opM modV (callM intF (consA (opM ixA (varM 0) (cM (.int 0))) (nilA))) (varM 1)) [.val (.ref n), .val (.int t), .no, .no, .no] h = .nx [.val (.ref n), .val (.int t), .val (.int (a % t)), .no, .no] h := by
      simp only [fnM, startS, view, Slot.view, List.map_cons, List.map_nil, List.length_cons, List.length_nil, List.replicate, List.cons_append, List.nil_append, Nat.reduceAdd, Nat.reduceSub, reduceIte, retV, andV, notV, callM, callF, consA, nilA, varM, cM, List.getElem?_cons_zero, List.getElem?_cons_succ, Out.bind, opM, Out.toS, Bool.false_eq_true, seqM, setM, dropM, ifS, notT, blM, skipM, List.set_cons_zero, List.set_cons_succ, Bool.not_true, Bool.not_false, ix0 hn, intF, mod_ii h0]
    simp only [ifS, cc, Out.toS, if_true]
    rw [seqM_nx s2, seqM_nx st]
    rfl
  · have hs := cup_set (a := a) (b := b) (d := c + 1) (k := k) hl ⟨a0, a1⟩ ⟨b0, b1⟩ (by omega) (by omega)
    have hn1 : (h.set n (.lst [.int a, .int b, .int (c + 1)]))[n]? = some (.lst [.int a, .int b, .int (c + 1)]) := List.getElem?_set_self hl
    obtain ⟨g, e1⟩ : ∃ g, g = h.set n (.lst [.int a, .int b, .int (c + 1)]) := ⟨_, rfl⟩
    obtain ⟨one, e2⟩ : ∃ one, one = (b + 49979729 * (c + 1)) % 2305843009213693951 := ⟨_, rfl⟩
    have o0 : 0 ≤ one := by rw [e2]; exact Int.emod_nonneg _ (by decide)
    have o1 : one < 2305843009213693951 := by rw [e2]; exact Int.emod_lt_of_pos _ (by decide)
    obtain ⟨sq, e3⟩ : ∃ sq, sq = (one * one + 86028049) % 2305843009213693907 := ⟨_, rfl⟩
    have q0 : 0 ≤ sq := by rw [e3]; exact Int.emod_nonneg _ (by decide)
    have q1 : sq < 2305843009213693907 := by rw [e3]; exact Int.emod_lt_of_pos _ (by decide)
    obtain ⟨two, e4⟩ : ∃ two, two = sq * 32452867 + one + 29 * (c + 1) := ⟨_, rfl⟩
    have t0 : 0 ≤ two := by rw [e4]; omega
    have t1 : two.natAbs < 2 ^ 4000 := by
      have e5 : (2 : Nat) ^ 100 < 2 ^ 4000 := by decide +kernel
      have e6 : two < 1267650600228229401496703205376 := by rw [e4]; omega
      have e7 : (2 : Nat) ^ 100 = 1267650600228229401496703205376 := by decide +kernel
      omega
    have i0 := Int.emod_nonneg (two / 65537) (show t ≠ 0 by omega)
    have i1 := Int.emod_lt_of_pos (two / 65537) h0
    refine ⟨two / 65537 % t, [.int a, .int b, .int (c + 1)], ?_, i0, i1, hs⟩
    rw [← e1] at hn1 ⊢
    have gt : gtV (.int a) (.int 0) h = .ok (.bl false) h := by simp [gtV, cmpV, ca]
    have m1 : mulAV (.int 49979729) (.int (c + 1)) g = .ok (.int (49979729 * (c + 1))) g := mul_ii (sm _ (by decide +kernel)) (sm _ (by omega))
    have m2 : mulAV (.int one) (.int one) g = .ok (.int (one * one)) g := mul_ii (sm _ (by omega)) (sm _ (by omega))
    have m3 : mulAV (.int sq) (.int 32452867) g = .ok (.int (sq * 32452867)) g := mul_ii (sm _ (by omega)) (sm _ (by decide +kernel))
    have m4 : mulAV (.int 29) (.int (c + 1)) g = .ok (.int (29 * (c + 1))) g := mul_ii (sm _ (by decide +kernel)) (sm _ (by omega))
    have d1 : modV (.int (b + 49979729 * (c + 1))) (.int 2305843009213693951) g = .ok (.int one) g := by rw [e2]; exact mod_ii (by decide)
    have d2 : modV (.int (one * one + 86028049)) (.int 2305843009213693907) g = .ok (.int sq) g := by rw [e3]; exact mod_ii (by decide)
    have f1 : fdivV (.int two) (.int 65537) g = .ok (.int (two / 65537)) g := fdiv_ii t1 (by decide)
    have a4 : addV (.int (sq * 32452867 + one)) (.int (29 * (c + 1))) g = .ok (.int two) g := by rw [e4]; rfl
    have st := set_ok (h := h) (n := n) (i := 2) (vs := [.int a, .int b, .int c]) (v := .int (c + 1)) (sl := [.val (.ref n), .val (.int t), .no, .no, .no]) (mo := varM 0) (mi := cM (.int 2)) (me := opM addV (opM ixA (varM 0) (cM (.int 2))) (cM (.int 1)))
      (by simp only [fnM, startS, view, Slot.view, List.map_cons, List.map_nil, List.length_cons, List.length_nil, List.replicate, List.cons_append, List.nil_append, Nat.reduceAdd, Nat.reduceSub, reduceIte, retV, andV, notV, callM, callF, consA, nilA, varM, cM, List.getElem?_cons_zero, List.getElem?_cons_succ, Out.bind, opM, Out.toS, Bool.false_eq_true, seqM, setM, dropM, ifS, notT, blM, skipM, List.set_cons_zero, List.set_cons_succ, Bool.not_true, Bool.not_false, ix2 hn, add_ii]) rfl rfl hn (by simp)
    rw [show ([.int a, .int b, .int c] : List VV).set 2 (.int (c + 1)) = [.int a, .int b, .int (c + 1)] from rfl, ← e1] at st
    have x1 := ix1 hn1
    have x2 := ix2 hn1
    refine fn_rt (s0 := [.val (.ref n), .val (.int t), .no, .no, .no]) rfl rfl ?_
    have c1' : ifS (blM (opM gtV (opM ixA (varM 0) (cM (.int 0))) (cM (.int 0)))) (seqM (setM 2 (opM modV (callM intF (consA (opM ixA (varM 0) (cM (.int 0))) (nilA))) (varM 1))) (seqM (setAM (varM 0) (cM (.int 0)) (opM fdivV (opM ixA (varM 0) (cM (.int 0))) (varM 1))) (retV (varM 2)))) skipM [.val (.ref n), .val (.int t), .no, .no, .no] h = .nx [.val (.ref n), .val (.int t), .no, .no, .no] h := by
      have cc : (blM (opM gtV (opM ixA (varM 0) (cM (.int 0))) (cM (.int 0)))) (view [.val (.ref n), .val (.int t), .no, .no, .no]) h = .ok false h := by simp only [fnM, startS, view, Slot.view, List.map_cons, List.map_nil, List.length_cons, List.length_nil, List.replicate, List.cons_append, List.nil_append, Nat.reduceAdd, Nat.reduceSub, reduceIte, retV, andV, notV, callM, callF, consA, nilA, varM, cM, List.getElem?_cons_zero, List.getElem?_cons_succ, Out.bind, opM, Out.toS, Bool.false_eq_true, seqM, setM, dropM, ifS, notT, blM, skipM, List.set_cons_zero, List.set_cons_succ, Bool.not_true, Bool.not_false, ix0 hn, gt]
      simp only [ifS, cc, Out.toS, Bool.false_eq_true, if_false, skipM]
    show seqM _ (seqM _ _) _ _ = _
    rw [seqM_nx c1', seqM_nx st]
    simp only [fnM, startS, view, Slot.view, List.map_cons, List.map_nil, List.length_cons, List.length_nil, List.replicate, List.cons_append, List.nil_append, Nat.reduceAdd, Nat.reduceSub, reduceIte, retV, andV, notV, callM, callF, consA, nilA, varM, cM, List.getElem?_cons_zero, List.getElem?_cons_succ, Out.bind, opM, Out.toS, Bool.false_eq_true, seqM, setM, dropM, ifS, notT, blM, skipM, List.set_cons_zero, List.set_cons_succ, Bool.not_true, Bool.not_false, x1, x2, m1, m2, m3, m4, d1, d2, f1, a4, add_ii, intF, mod_ii h0]
theorem one_of_ok {h : VH} {n k : Nat} {items : List VV} (ht : Cup h n (k + 1)) (h0 : 0 < items.length) (h1 : items.length < 1000000) : ∃ (v : VV) (us : List VV), m_one_of [.ref n, .lst items] h = .ok v (h.set n (.lst us)) ∧ v ∈ items ∧ Cup (h.set n (.lst us)) n k := by
  obtain ⟨i, us, e, i0, i1, hc⟩ := tossed_ok (t := (items.length : Nat)) ht (by omega) (by omega)
  have hi : i.toNat < items.length := by omega
  have ei : ((i.toNat : Nat) : Int) = i := Int.toNat_of_nonneg i0
  refine ⟨items[i.toNat], us, ?_, List.getElem_mem hi, hc⟩
  have l1 : lenAF [.lst items] h = .ok (.int (items.length : Nat)) h := by simp [lenAF, dictT, dictK, lenF]
  have x1 : ixA (.lst items) (.int i) (h.set n (.lst us)) = .ok items[i.toNat] (h.set n (.lst us)) := by
    have := Tb.atI_nat (vs := items) (i := i.toNat) (List.getElem?_eq_getElem hi)
    rw [ei] at this
    simp only [ixA, dgetO, dictT, dictK, ixV, this]
  simp only [m_one_of, b_one_of, fnM, startS, view, Slot.view, List.map_cons, List.map_nil, List.length_cons, List.length_nil, List.replicate, List.cons_append, List.nil_append, Nat.reduceAdd, Nat.reduceSub, reduceIte, retV, andV, notV, callM, callF, consA, nilA, varM, cM, List.getElem?_cons_zero, List.getElem?_cons_succ, Out.bind, opM, Out.toS, Bool.false_eq_true, seqM, setM, dropM, ifS, notT, blM, skipM, List.set_cons_zero, List.set_cons_succ, Bool.not_true, Bool.not_false, l1, e, x1]
end K05
set_option Elab.async false
set_option linter.all false
set_option maxRecDepth 100000
namespace K05
open PySem PySem.Spec PyProof.Rows L2 Mv Tb
theorem cup_ok {h : VH} {ns : List Int} {s : Int} (s0 : 0 ≤ s) (s1 : s < 3) : ∃ us, m_cup [.rol (ns.map VV.int), .int s] h = .ok (.ref h.length) (h ++ [.lst us]) ∧ Cup (h ++ [.lst us]) h.length 1000000 := by
  have e64 : (2 : Nat) ^ 64 = 18446744073709551616 := by decide +kernel
  have big := p64
  have sm : ∀ x : Int, x.natAbs < 2 ^ 64 → x.natAbs < 2 ^ 4000 := fun x hx => Nat.lt_trans hx big
  have st1 : ∃ cell : Int, setM 2 (ifM (blM (opM ltV (varM 1) (callM lenAF (consA (varM 0) (nilA))))) (callM intF (consA (opM ixA (varM 0) (varM 1)) (nilA))) (opM addV (opM mulAV (cM (.int 283)) (varM 1)) (cM (.int 71)))) [.val (.rol (ns.map VV.int)), .val (.int s), .no, .no, .no] h = .nx [.val (.rol (ns.map VV.int)), .val (.int s), .val (.int cell), .no, .no] h := by
    have ln : lenAF [.rol (ns.map VV.int)] h = .ok (.int (ns.length : Nat)) h := by simp [lenAF, dictT, dictK, lenF]
    by_cases c : s < (ns.length : Nat)
    · have lt : ltV (.int s) (.int (ns.length : Nat)) h = .ok (.bl true) h := by simp [ltV, cmpV, c]
      have hl : s.toNat < ns.length := by omega
      have ei : ((s.toNat : Nat) : Int) = s := Int.toNat_of_nonneg s0
      have ix : ixA (.rol (ns.map VV.int)) (.int s) h = .ok (.int ns[s.toNat]) h := by
        have := Tb.atI_nat (vs := ns.map VV.int) (i := s.toNat) (v := .int ns[s.toNat]) (by simp [hl])
        rw [ei] at this
        simp only [ixA, dgetO, dictT, dictK, ixV, this]
      exact ⟨ns[s.toNat], by simp only [setM, ifM, blM, opM, view, List.map_cons, List.map_nil, Slot.view, varM, callM, consA, nilA, Out.bind, Out.toS, List.getElem?_cons_zero, List.getElem?_cons_succ, ln, lt, ix, intF, if_true, List.set_cons_succ, List.set_cons_zero]⟩
    · have lt : ltV (.int s) (.int (ns.length : Nat)) h = .ok (.bl false) h := by simp [ltV, cmpV, c]
      have m : mulAV (.int 283) (.int s) h = .ok (.int (283 * s)) h := mul_ii (sm _ (by decide +kernel)) (sm _ (by omega))
      exact ⟨283 * s + 71, by simp only [setM, ifM, blM, opM, view, List.map_cons, List.map_nil, Slot.view, varM, cM, callM, consA, nilA, Out.bind, Out.toS, List.getElem?_cons_zero, List.getElem?_cons_succ, ln, lt, m, add_ii, Bool.false_eq_true, if_false, List.set_cons_succ, List.set_cons_zero]⟩
  obtain ⟨cell, st1⟩ := st1
  obtain ⟨M, eM⟩ : ∃ M : Int, M = (10 ^ 53) ^ 7 := ⟨_, rfl⟩
  have M0 : 0 < M := by rw [eM]; decide +kernel
  have M1 : M.natAbs ≤ 2 ^ 4000 := by rw [eM]; decide +kernel
  have pw1 : powV (.int 10) (.int 53) h = .ok (.int (10 ^ 53)) h := by simp [powV, intV, show Nat.ble (bitsN 10 * 53) 134217728 = true by decide +kernel]
  have pw2 : powV (.int (10 ^ 53)) (.int 7) h = .ok (.int M) h := by
    have : Nat.ble (bitsN (10 ^ 53) * 7) 134217728 = true := by decide +kernel
    rw [eM]
    simp only [powV, intV]
    rw [if_pos (by simpa using this)]
    rfl
  have pw3 : powV (.int 10) (.int 16) h = .ok (.int (10 ^ 16)) h := by simp [powV, intV, show Nat.ble (bitsN 10 * 16) 134217728 = true by decide +kernel]
  obtain ⟨great, eg⟩ : ∃ g : Int, g = (if cell < 0 then -cell else cell) % M := ⟨_, rfl⟩
  have g0 : 0 ≤ great := by rw [eg]; exact Int.emod_nonneg _ (by omega)
  have g1 : great < M := by rw [eg]; exact Int.emod_lt_of_pos _ M0
  have md : modV (.int (if cell < 0 then -cell else cell)) (.int M) h = .ok (.int great) h := by rw [eg]; exact mod_ii M0
  have st2 : setM 3 (opM modV (callM intF (consA (callM absF (consA (varM 2) (nilA))) (nilA))) (opM powV (opM powV (cM (.int 10)) (cM (.int 53))) (cM (.int 7)))) [.val (.rol (ns.map VV.int)), .val (.int s), .val (.int cell), .no, .no] h = .nx [.val (.rol (ns.map VV.int)), .val (.int s), .val (.int cell), .val (.int great), .no] h := by
    simp only [setM, view, Slot.view, List.map_cons, List.map_nil, opM, callM, consA, nilA, varM, cM, Out.bind, List.getElem?_cons_zero, List.getElem?_cons_succ, absF, intF, pw1, pw2, md, Out.toS, List.set_cons_succ, List.set_cons_zero]
  obtain ⟨r, er⟩ : ∃ r : Int, r = great % 2305843009213693921 := ⟨_, rfl⟩
  have r0 : 0 ≤ r := by rw [er]; exact Int.emod_nonneg _ (by decide)
  have r1 : r < 2305843009213693921 := by rw [er]; exact Int.emod_lt_of_pos _ (by decide)
  have md2 : modV (.int great) (.int 2305843009213693921) h = .ok (.int r) h := by rw [er]; exact mod_ii (by decide)
  obtain ⟨z, ez⟩ : ∃ z : Int, z = if decide (cell < 0) = true then 1 else 0 := ⟨_, rfl⟩
  have z1 : 0 ≤ z ∧ z ≤ 1 := by rw [ez]; split <;> omega
  have lt1 : ltV (.int cell) (.int 0) h = .ok (.bl (decide (cell < 0))) h := rfl
  have m1 : mulAV (.int r) (.int 79) h = .ok (.int (r * 79)) h := mul_ii (sm _ (by omega)) (sm _ (by decide +kernel))
  have m2 : mulAV (.int 4987) (.int s) h = .ok (.int (4987 * s)) h := mul_ii (sm _ (by decide +kernel)) (sm _ (by omega))
  have m3 : mulAV (.int 41) (.int z) h = .ok (.int (41 * z)) h := mul_ii (sm _ (by decide +kernel)) (sm _ (by omega))
  obtain ⟨seed, es⟩ : ∃ x : Int, x = r * 79 + 4987 * s + 41 * z + 53 := ⟨_, rfl⟩
  have st3 : setM 4 (callM intF (consA (opM addV (opM addV (opM addV (opM mulAV (opM modV (varM 3) (cM (.int 2305843009213693921))) (cM (.int 79))) (opM mulAV (cM (.int 4987)) (varM 1))) (opM mulAV (cM (.int 41)) (callM intF (consA (opM ltV (varM 2) (cM (.int 0))) (nilA))))) (cM (.int 53))) (nilA))) [.val (.rol (ns.map VV.int)), .val (.int s), .val (.int cell), .val (.int great), .no] h = .nx [.val (.rol (ns.map VV.int)), .val (.int s), .val (.int cell), .val (.int great), .val (.int seed)] h := by
    have ez2 : view [.val (.rol (ns.map VV.int)), .val (.int s), .val (.int cell), .val (.int great), .no] = [some (.rol (ns.map VV.int)), some (.int s), some (.int cell), some (.int great), none] := rfl
    have a4 : addV (.int (r * 79 + 4987 * s + 41 * z)) (.int 53) h = .ok (.int seed) h := by rw [es]; rfl
    simp only [setM, ez2, callM, consA, nilA, opM, varM, cM, Out.bind, List.getElem?_cons_zero, List.getElem?_cons_succ, md2, m1, m2, lt1, intF, ← ez, m3, add_ii, a4, Out.toS, List.set_cons_succ, List.set_cons_zero]
  obtain ⟨a, ea⟩ : ∃ a : Int, a = if great - 10 ^ 16 > 0 then great - 10 ^ 16 else 0 := ⟨_, rfl⟩
  have a0 : 0 ≤ a ∧ a ≤ great := by
    have : (0 : Int) ≤ 10 ^ 16 := by decide +kernel
    rw [ea]; split <;> omega
  obtain ⟨b, eb⟩ : ∃ b : Int, b = seed % 2305843009213693951 := ⟨_, rfl⟩
  have b0 : 0 ≤ b := by rw [eb]; exact Int.emod_nonneg _ (by decide)
  have b1 : b < 2305843009213693951 := by rw [eb]; exact Int.emod_lt_of_pos _ (by decide)
  have md3 : modV (.int seed) (.int 2305843009213693951) h = .ok (.int b) h := by rw [eb]; exact mod_ii (by decide)
  have mx : maxF [.int 0, .int (great - 10 ^ 16)] h = .ok (.int a) h := by rw [ea]; rfl
  have st4 : retV (newM (consA (callM maxF (consA (cM (.int 0)) (consA (opM subV (varM 3) (opM powV (cM (.int 10)) (cM (.int 16)))) (nilA)))) (consA (opM modV (varM 4) (cM (.int 2305843009213693951))) (consA (cM (.int 0)) (nilA))))) [.val (.rol (ns.map VV.int)), .val (.int s), .val (.int cell), .val (.int great), .val (.int seed)] h = .rt (.ref h.length) (h ++ [.lst [.int a, .int b, .int 0]]) := by
    have f3 : fits 3 = true := rfl
    simp only [retV, newM, consA, callM, nilA, opM, varM, cM, view, Slot.view, List.map_cons, List.map_nil, Out.bind, List.getElem?_cons_zero, List.getElem?_cons_succ, pw3, sub_ii, mx, md3, List.length_cons, List.length_nil, Nat.reduceAdd, f3, if_true, Out.toS]
  refine ⟨[.int a, .int b, .int 0], ?_, a, b, 0, ?_, ⟨a0.1, by omega⟩, ⟨b0, b1⟩, by omega, by omega⟩
  · refine fn_rt (s0 := [.val (.rol (ns.map VV.int)), .val (.int s), .no, .no, .no]) rfl rfl ?_
    show seqM _ (seqM _ (seqM _ _)) _ _ = _
    rw [seqM_nx st1, seqM_nx st2, seqM_nx st3, st4]
  · rw [List.getElem?_append_right (Nat.le_refl _)]
    simp
theorem for_inv {mg : MG} {body : MS} {N : Nat} (I : Nat → Sl → VH → Prop) (hb : ∀ (j : Nat) (sl : Sl) (h : VH) (v : VV), j < N → I j sl h → ∃ asg sl1 h1, mg v = some asg ∧ body (setsS asg sl) h = .nx sl1 h1 ∧ I (j + 1) sl1 h1) :
    ∀ (items : List VV) (j : Nat) (sl : Sl) (h : VH), j + items.length = N → I j sl h → ∃ sl1 h1, forGo mg body items sl h = .nx sl1 h1 ∧ I N sl1 h1
  | [], j, sl, h, e, i => ⟨sl, h, rfl, by rw [← e]; exact i⟩
  | v :: r, j, sl, h, e, i => by
    rw [List.length_cons] at e
    obtain ⟨asg, sl1, h1, m1, m2, i1⟩ := hb j sl h v (by omega) i
    obtain ⟨sl2, h2, k, i2⟩ := for_inv I hb r (j + 1) sl1 h1 (by omega) i1
    exact ⟨sl2, h2, by simp only [forGo, m1, m2, k], i2⟩
theorem iota_len (lo : Int) : ∀ n : Nat, (iota lo n).length = n
  | 0 => rfl
  | n + 1 => by
    unfold iota
    rw [List.length_cons, iota_len (lo + 1) n]
theorem range_ok {a : MA} {sv : Sv} {h h1 : VH} {j : Int} (e : a sv h = .ok [.int j] h1) (h0 : 0 ≤ j) (h2 : j < 1000000) : rangeI a sv h = .ok (iota 0 j.toNat) h1 := by
  have c : (decide (j < 4611686018427387904) && decide (-4611686018427387904 ≤ j)) = true := by simp; omega
  simp only [rangeI, e, Out.bind, c, if_true]
theorem erase_map {α β : Type} (f : α → β) : ∀ (l : List α) (k : Nat), (l.map f).eraseIdx k = (l.eraseIdx k).map f
  | [], _ => by simp
  | x :: l, 0 => by simp
  | x :: l, k + 1 => by simp [erase_map f l k]
theorem erase_perm : ∀ (l : List Int) (i : Nat) (h : i < l.length), (l[i] :: l.eraseIdx i).Perm l
  | x :: l, 0, _ => List.Perm.refl _
  | x :: l, i + 1, h => by
    have h2 : i < l.length := by simpa using h
    have k := erase_perm l i h2
    simp only [List.getElem_cons_succ, List.eraseIdx_cons_succ]
    exact (List.Perm.swap x l[i] _).trans (k.cons x)
abbrev ldBody : MS := appM 4 (consA (popR (varM 3) (consA (callF m_tossed (consA (varM 0) (consA (callM lenAF (consA (varM 3) nilA)) nilA))) nilA)) nilA)
theorem lot_drawn_ok {h : VH} {c k : Nat} {L : VV} {l : List Int} {least : Int} (hc : Cup h c (k + 10)) (hL : L = tupV l ∨ L = Kt l) (hl : l ∈ lots) (h0 : 0 ≤ least) (h1 : least ≤ l.length) :
    ∃ a h', m_lot_drawn [.ref c, L, .int least] h = .ok (Kt a) h' ∧ a ∈ lots ∧ (∀ x ∈ a, x ∈ l) ∧ Cup h' c k ∧ Go h h' := by
  have l6 := (lots_facts l hl).2.1
  have lh : listHF [L] h = .ok (.ref h.length) (h ++ [.lst (l.map VV.int)]) := by rcases hL with rfl | rfl <;> rfl
  have ll : ∀ h : VH, lenAF [L] h = .ok (.int (l.length : Nat)) h := fun h => by rcases hL with rfl | rfl; exact len_row; exact len_Kt
  obtain ⟨hA, eA⟩ : ∃ hA, hA = h ++ [VO.lst (l.map VV.int)] := ⟨_, rfl⟩
  have s1 : parVL2 3 4 (callM listHF (consA (varM 1) nilA)) nilA [.val (.ref c), .val L, .val (.int least), .no, .no, .no] h = .nx [.val (.ref c), .val L, .val (.int least), .val (.ref h.length), .own [], .no] hA := by
    have f0 : fits 0 = true := rfl
    simp only [parVL2, view, List.map_cons, List.map_nil, Slot.view, callM, consA, nilA, varM, List.getElem?_cons_succ, List.getElem?_cons_zero, Out.bind, lh, Out.toS, List.length_nil, f0, if_true, List.set_cons_succ, List.set_cons_zero, eA]
  have cA : Cup hA c (k + 9 + 1) := by rw [eA]; exact hc.app _
  obtain ⟨m, us, em, m0, m1, cB⟩ := tossed_ok (t := (l.length : Nat) - least + 1) cA (by omega) (by omega)
  obtain ⟨hB, eB⟩ : ∃ hB, hB = hA.set c (.lst us) := ⟨_, rfl⟩
  rw [← eB] at em cB
  have clt := hc.lt
  have qA : hA[h.length]? = some (.lst (l.map VV.int)) := by rw [eA, List.getElem?_append_right (Nat.le_refl _), Nat.sub_self]; rfl
  have gB : Go h hB := by
    obtain ⟨a, b, d, e1, _⟩ := cA
    rw [eB]
    exact (by rw [eA]; exact Go.app _ _ : Go h hA).trans (Go.set e1)
  have qB : hB[h.length]? = some (.lst (l.map VV.int)) := by
    rw [eB, List.getElem?_set_ne (by omega)]
    exact qA
  have rg : rangeI (consA (opM addV (varM 2) (callF m_tossed (consA (varM 0) (consA (opM addV (opM subV (callM lenAF (consA (varM 1) nilA)) (varM 2)) (cM (.int 1))) nilA)))) nilA) [some (.ref c), some L, some (.int least), some (.ref h.length), none, none] hA = .ok (iota 0 (least + m).toNat) hB := by
    refine range_ok ?_ (by omega) (by omega)
    simp only [consA, nilA, opM, callF, callM, varM, cM, List.getElem?_cons_succ, List.getElem?_cons_zero, Out.bind, ll, sub_ii, add_ii, em]
  obtain ⟨N, eN⟩ : ∃ N, N = (least + m).toNat := ⟨_, rfl⟩
  have hN : N ≤ l.length := by omega
  have rk : k + 9 = k + 2 + (7 - N) + N := by omega
  obtain ⟨sl2, h2, kf, found, left, i1, i2, i3, i4, i5⟩ := for_inv (mg := nameG 5) (body := ldBody) (N := N)
    (fun j sl g => ∃ found left : List Int, (∃ s5, sl = [.val (.ref c), .val L, .val (.int least), .val (.ref h.length), .own (found.map VV.int), s5]) ∧ g[h.length]? = some (.lst (left.map VV.int)) ∧ (found ++ left).Perm l ∧ found.length = j ∧ Cup g c (k + 2 + (7 - N) + (N - j)) ∧ Go h g)
    (fun j sl g v hj ⟨found, left, ⟨s5, es⟩, q1, q2, q3, q4, q5⟩ => by
      subst es
      have lp : left.length = l.length - j := by
        have := q2.length_eq
        rw [List.length_append] at this
        omega
      have tl : lenAF [.ref h.length] g = .ok (.int (left.length : Nat)) g := by simp [lenAF, dictT, dictK, lenF, q1]
      have q4' : Cup g c (k + 2 + (7 - N) + (N - (j + 1)) + 1) := q4.less (by omega)
      obtain ⟨i, vs, e1, i0, i1, c1⟩ := tossed_ok (t := (left.length : Nat)) q4' (by omega) (by omega)
      have hi : i.toNat < left.length := by omega
      have q1' : (g.set c (.lst vs))[h.length]? = some (.lst (left.map VV.int)) := by
        rw [List.getElem?_set_ne (by omega)]
        exact q1
      have f1 : (fits (left.map VV.int).length && decide (0 ≤ i)) = true := by
        rw [List.length_map, decide_eq_true i0, Bool.and_true]
        exact Nat.ble_eq_true_of_le (by omega)
      have g1 : (left.map VV.int)[i.toNat]? = some (.int left[i.toNat]) := by simp [hi]
      have pp : popR (varM 3) (consA (callF m_tossed (consA (varM 0) (consA (callM lenAF (consA (varM 3) nilA)) nilA))) nilA) [some (.ref c), some L, some (.int least), some (.ref h.length), none, some v] g = .ok (.int left[i.toNat]) ((g.set c (.lst vs)).set h.length (.lst ((left.eraseIdx i.toNat).map VV.int))) := by
        have er : (left.map VV.int).eraseIdx i.toNat = (left.eraseIdx i.toNat).map VV.int := erase_map VV.int left i.toNat
        simp only [popR, varM, List.getElem?_cons_succ, List.getElem?_cons_zero, Out.bind, q1, callF, callM, consA, nilA, tl, e1, q1', f1, if_true, g1, er]
      refine ⟨[(5, v)], [.val (.ref c), .val L, .val (.int least), .val (.ref h.length), .own ((found ++ [left[i.toNat]]).map VV.int), .val v], (g.set c (.lst vs)).set h.length (.lst ((left.eraseIdx i.toNat).map VV.int)), rfl, ?_, found ++ [left[i.toNat]], left.eraseIdx i.toNat, ⟨_, rfl⟩, ?_, ?_, ?_, ?_, ?_⟩
      · have f2 : fits ((found.map VV.int).length + 1) = true := by
          rw [List.length_map]
          exact Nat.ble_eq_true_of_le (by omega)
        simp only [ldBody, appM, setsS, List.set_cons_succ, List.set_cons_zero, List.getElem?_cons_succ, List.getElem?_cons_zero, view, List.map_cons, List.map_nil, Slot.view, consA, nilA, pp, Out.bind, Out.toS, f2, if_true, List.map_append]
      · exact List.getElem?_set_self (List.getElem?_eq_some_iff.mp q1').1
      · refine List.Perm.trans ?_ q2
        rw [List.append_assoc]
        refine List.Perm.append_left _ ?_
        rw [List.cons_append, List.nil_append]
        exact erase_perm left i.toNat hi
      · rw [List.length_append, q3]; rfl
      · obtain ⟨a, b, d, z1, z2⟩ := c1
        refine ⟨a, b, d, ?_, ?_⟩
        · rw [List.getElem?_set_ne (by omega)]
          exact z1
        · obtain ⟨z3, z4, z5, z6⟩ := z2
          exact ⟨z3, z4, z5, by omega⟩
      · obtain ⟨a, b, d, z1, z2⟩ := q4
        exact q5.trans ((Go.set z1).trans (Go.set q1')))
    (iota 0 N) 0 [.val (.ref c), .val L, .val (.int least), .val (.ref h.length), .own [], .no] hB (by rw [iota_len, Nat.zero_add]) ⟨[], l, ⟨_, rfl⟩, qB, List.Perm.refl _, rfl, cB.less (by omega), gB⟩
  obtain ⟨s5, es⟩ := i1
  have nd : (found ++ left).Nodup := i3.nodup_iff.mpr (lots_facts l hl).1
  have fsub : ∀ x ∈ found, x ∈ l := fun x hx => i3.mem_iff.mp (List.mem_append_left _ hx)
  have fs : (sortI found).Pairwise (· < ·) := by
    have n1 : (sortI found).Nodup := (sortI_perm found).nodup_iff.mpr (List.nodup_append.mp nd).1
    refine List.Pairwise.imp_of_mem (R := fun a b => a ≤ b ∧ a ≠ b) (fun {a b} _ _ hh => by omega) ?_
    exact List.Pairwise.and (sortI_sorted found) n1
  refine ⟨sortI found, h2, ?_, mem_lots fs fun x hx => (lots_facts l hl).2.2 x (fsub x ((sortI_perm found).mem_iff.mp hx)), fun x hx => fsub x ((sortI_perm found).mem_iff.mp hx), i5.1.less (by omega), i5.2⟩
  have sF : (Mv.forM (rangeI (consA (opM addV (varM 2) (callF m_tossed (consA (varM 0) (consA (opM addV (opM subV (callM lenAF (consA (varM 1) nilA)) (varM 2)) (cM (.int 1))) nilA)))) nilA)) (nameG 5) ldBody) [.val (.ref c), .val L, .val (.int least), .val (.ref h.length), .own [], .no] hA = .nx sl2 h2 := by
    simp only [Mv.forM, view, List.map_cons, List.map_nil, Slot.view, rg, Out.toS, ← eN, kf]
  have sR : (retF (callM tupKF (consA (callM sortedAF (consA (varM 4) nilA)) nilA))) sl2 h2 = .rt (Kt (sortI found)) h2 := by
    have so : sortedAF [.lst (found.map VV.int)] h2 = .ok (.lst ((sortI found).map VV.int)) h2 := by
      simp [sortedAF, dictT, dictK, sortedLF, allIt_int]
    have tk : tupKF [.lst ((sortI found).map VV.int)] h2 = .ok (Kt (sortI found)) h2 := rfl
    rw [es]
    simp only [retF, viewF, List.map_cons, List.map_nil, Slot.viewF, callM, consA, nilA, varM, List.getElem?_cons_succ, List.getElem?_cons_zero, Out.bind, so, tk, Out.nox, Out.toS]
  refine fn_rt (s0 := [.val (.ref c), .val L, .val (.int least), .no, .no, .no]) rfl rfl ?_
  show seqM _ (seqM _ _) _ _ = _
  rw [seqM_nx s1, seqM_nx sF, sR]
end K05
set_option Elab.async false
set_option linter.all false
set_option maxRecDepth 100000
namespace K05
open PySem PySem.Spec PyProof.Rows L2 Mv Tb
def RowAt (g : VH) (q : Nat) (row : List Int) : Prop := g[q]? = some (.lst (row.map VV.int))
theorem RowAt.cup {g : VH} {q c k : Nat} {row : List Int} (r : RowAt g q row) (hc : Cup g c k) (us : List VV) (hq : q ≠ c) : RowAt (g.set c (.lst us)) q row := by
  unfold RowAt
  rw [List.getElem?_set_ne (fun z => hq z.symm)]
  exact r
theorem seqOf_row {g : VH} {q : Nat} {row : List Int} (r : RowAt g q row) : seqOf g (.ref q) = some (row.map VV.int) := by
  unfold RowAt at r
  simp only [seqOf, r]
theorem draw_go {sv : Sv} {c : Nat} {wide : Int} {lot : List Int} (h0 : sv[0]? = some (some (.ref c))) (h3 : sv[3]? = some (some (.int wide))) (w0 : 0 < wide) (w1 : wide < 1000) :
    ∀ (n i k : Nat) (h : VH), i + n = lot.length → Cup h c (k + n) → ∃ (out : List Int) (us : List VV), lcGoD sv (nameG 8) yesT (callF m_tossed (consA (varM 0) (consA (varM 3) nilA))) (itX (Kt lot)) (n + 1) i h = .ok (out.map VV.int) (h.set c (.lst us)) ∧ out.length = n ∧ (∀ x ∈ out, 0 ≤ x ∧ x < wide) ∧ Cup (h.set c (.lst us)) c k
  | 0, i, k, h, e, hc => by
    have it : itX (Kt lot) i h = some none := by
      simp only [itX, seqOf, Option.map_some, List.getElem?_map]
      rw [List.getElem?_eq_none (by omega)]
      rfl
    obtain ⟨a, b, d, e1, e2⟩ := id hc
    have hs : h.set c (.lst [.int a, .int b, .int d]) = h := by
      obtain ⟨hl, e3⟩ := List.getElem?_eq_some_iff.mp e1
      rw [← e3, List.set_getElem_self]
    refine ⟨[], [.int a, .int b, .int d], ?_, rfl, fun x hx => (by cases hx), by rw [hs]; exact hc⟩
    rw [hs]
    simp only [lcGoD, it]
    rfl
  | n + 1, i, k, h, e, hc => by
    have hi : i < lot.length := by omega
    obtain ⟨y0, ey⟩ : ∃ y0 : Int, lot[i]? = some y0 := ⟨_, List.getElem?_eq_getElem hi⟩
    have it : itX (Kt lot) i h = some (some (.int y0)) := by
      simp only [itX, seqOf, Option.map_some, List.getElem?_map, ey]
    obtain ⟨x, us, e1, x0, x1, c1⟩ := tossed_ok (t := wide) (k := k + n) hc w0 (by omega)
    have en : i + 1 + n = lot.length := by omega
    obtain ⟨out, vs, e2, l2, b2, c2⟩ := draw_go (lot := lot) h0 h3 w0 w1 n (i + 1) k (h.set c (.lst us)) en c1
    rw [List.set_set] at e2 c2
    refine ⟨x :: out, vs, ?_, by rw [List.length_cons, l2], fun y hy => ?_, c2⟩
    · have s8 : ∀ j : Nat, j ≠ 8 → (setsV [(8, VV.int y0)] sv)[j]? = sv[j]? := fun j hj => by
        simp only [setsV]
        rw [List.getElem?_set_ne (by omega)]
      have g0 := (s8 0 (by decide)).trans h0
      have g3 := (s8 3 (by decide)).trans h3
      rw [lcGoD]
      simp only [it, nameG, yesT, Out.nox, Out.bind, if_true, callF, consA, nilA, varM, g0, g3, e1]
      exact (congrArg (fun r : Out (List VV) => r.bind fun ys h3 => Out.ok (VV.int x :: ys) h3) e2).trans rfl
    · rcases List.mem_cons.mp hy with z | z
      · rw [z]; exact ⟨x0, x1⟩
      · exact b2 y z
theorem lcGoD_row {sv : Sv} {i9 : Nat} {q : Nat} {row : List Int} {f : Int → Int} {e : ME} {h : VH} (r : RowAt h q row) (he : ∀ x ∈ row, e (sv.set i9 (some (.int x))) h = .ok (.int (f x)) h) :
    ∀ (n i : Nat), i + n = row.length → lcGoD sv (nameG i9) yesT e (itX (.ref q)) (n + 1) i h = .ok (((row.drop i).map f).map VV.int) h
  | 0, i, en => by
    have it : itX (.ref q) i h = some none := by
      simp only [itX, seqOf_row r, Option.map_some, List.getElem?_map]
      rw [List.getElem?_eq_none (by omega)]
      rfl
    rw [List.drop_eq_nil_of_le (by omega)]
    simp only [lcGoD, it]
    rfl
  | n + 1, i, en => by
    have hi : i < row.length := by omega
    have it : itX (.ref q) i h = some (some (.int row[i])) := by
      simp only [itX, seqOf_row r, Option.map_some, List.getElem?_map]
      rw [List.getElem?_eq_getElem hi]
      rfl
    have ih := lcGoD_row r he n (i + 1) (by omega)
    have hx := he row[i] (List.getElem_mem hi)
    rw [lcGoD]
    simp only [it, nameG, setsV, yesT, Out.nox, Out.bind, if_true, hx]
    rw [List.drop_eq_getElem_cons hi]
    exact (congrArg (fun r : Out (List VV) => r.bind fun ys h3 => Out.ok (VV.int (f row[i]) :: ys) h3) ih).trans rfl
section
variable (c : Nat) (lot : List Int) (most wide : Int)
abbrev SL (found : List (List Int)) (way : Int) (a b d e : Slot) : Sl := [.val (.ref c), .val (Kt lot), .val (.int most), .val (.int wide), .own (found.map tupV), .val (.int way), a, b, d, e]
end
abbrev rd1 : MS := setM 7 (lcDM true (seqD (varM 1)) (nameG 8) [8] (yesT) (callF m_tossed (consA (varM 0) (consA (varM 3) (nilA)))))
abbrev rd2 : MS := ifS (andT (blM (opM (Mv.eqV false) (varM 5) (cM (.int 0)))) (andT (blM (opM (eqVE true) (varM 1) (tupM (nilA)))) (blM (opM gtV (callF m_tossed (consA (varM 0) (consA (cM (.int 3)) (nilA)))) (cM (.int 0)))))) (setAM (varM 7) (cM (.int 0)) (cM (.int 0))) (skipM)
abbrev rdE : ME := ifM (blM (opM (Mv.eqV false) (opM modV (varM 9) (cM (.int 2))) (cM (.int 0)))) (opM subV (cM (.int 999999999)) (varM 9)) (opM subV (cM (.int 0)) (varM 9))
abbrev rd3 : MS := ifS (blM (opM (Mv.eqV false) (varM 5) (cM (.int 1)))) (setM 7 (lcDM true (seqD (varM 7)) (nameG 9) [9] (yesT) rdE)) (skipM)
abbrev rd4 : MS := appM 4 (consA (callM tupleHF (consA (varM 7) (nilA))) (nilA))
abbrev rd5 : MS := ifS (blM (opM (Mv.eqV false) (callF m_tossed (consA (varM 0) (consA (cM (.int 6)) (nilA)))) (cM (.int 0)))) rd4 (skipM)
theorem eqi {h : VH} {x y : Int} {neg : Bool} : Mv.eqV neg (.int x) (.int y) h = .ok (.bl (if neg then !decide (x = y) else decide (x = y))) h := by simp [Mv.eqV, eqO_int]
section
variable {c k : Nat} {lot : List Int} {most wide way : Int} {found : List (List Int)} {a b d e : Slot} {g : VH}
theorem rd1_ok (hl : lot ∈ lots) (w0 : 0 < wide) (w1 : wide < 1000) (hc : Cup g c (k + lot.length)) : ∃ row q g', rd1 (SL c lot most wide found way a b d e) g = .nx (SL c lot most wide found way a (.val (.ref q)) d e) g' ∧ RowAt g' q row ∧ q ≠ c ∧ row.length = lot.length ∧ (∀ x ∈ row, 0 ≤ x ∧ x < wide) ∧ Cup g' c k ∧ Go g g' := by
  obtain ⟨out, us, e1, l1, b1, c1⟩ := draw_go (sv := (view (SL c lot most wide found way a b d e)).set 8 none) (lot := lot) (h := g) rfl rfl w0 w1 lot.length 0 k (by omega) hc
  obtain ⟨x, y, z, z1, z2⟩ := id hc
  have lt := c1.lt
  refine ⟨out, (g.set c (.lst us)).length, g.set c (.lst us) ++ [.lst (out.map VV.int)], ?_, ?_, by omega, l1, b1, c1.app _, (Go.set z1).trans (Go.app _ _)⟩
  · have f1 : fits (lot.length + 1) = true := by
      have := (lots_facts lot hl).2.1
      exact Nat.ble_eq_true_of_le (by omega)
    have sd : seqD (varM 1) (view (SL c lot most wide found way a b d e)) g = .ok (lot.length + 1, itX (Kt lot)) g := by
      simp [seqD, varM, view, Slot.view, Out.bind, seqOf]
    have e1' : lcGoD (wipeS (view (SL c lot most wide found way a b d e)) [8]) (nameG 8) yesT (callF m_tossed (consA (varM 0) (consA (varM 3) nilA))) (itX (Kt lot)) (lot.length + 1) 0 g = .ok (out.map VV.int) (g.set c (.lst us)) := e1
    simp only [rd1, setM, lcDM, sd, Out.bind, f1, if_true, e1', finL, Out.toS]
    rfl
  · unfold RowAt
    rw [List.getElem?_append_right (Nat.le_refl _), Nat.sub_self]
    rfl
theorem rd2_ok {q : Nat} {row : List Int} (r : RowAt g q row) (hq : q ≠ c) (hl : row.length = lot.length) (hb : ∀ x ∈ row, 0 ≤ x ∧ x < wide) (w0 : 0 < wide) (hc : Cup g c (k + 1)) : ∃ row2 g', rd2 (SL c lot most wide found way a (.val (.ref q)) d e) g = .nx (SL c lot most wide found way a (.val (.ref q)) d e) g' ∧ RowAt g' q row2 ∧ row2.length = lot.length ∧ (∀ x ∈ row2, 0 ≤ x ∧ x < wide) ∧ Cup g' c k ∧ Go g g' := by
  have ev : ∀ h, eqVE true (Kt lot) (.tup []) h = .ok (.bl (!decide (lot = []))) h := fun h => by
    have e1 : eqO (Kt lot) (.tup []) = some (decide (lot = [])) := by
      show eqO (Kt lot) (tupV []) = _
      simp [eqO, toPy_Kt, toPy_tupV, shaped_pyT, eqv_pyT]
    simp only [eqVE, e1, if_true]
  have f0 : fits 0 = true := rfl
  by_cases c1 : way = 0
  · by_cases c2 : lot = []
    · refine ⟨row, g, ?_, r, hl, hb, hc.less (by omega), Go.refl g⟩
      simp only [rd2, ifS, andT, blM, opM, view, List.map_cons, List.map_nil, Slot.view, varM, cM, List.getElem?_cons_succ, List.getElem?_cons_zero, Out.bind, eqi, c1, decide_true, Bool.false_eq_true, if_false, if_true, tupM, nilA, List.length_nil, f0, ev, decide_eq_true c2, Bool.not_true, Out.toS, skipM]
    · obtain ⟨x, us, e1, x0, x1, cB⟩ := tossed_ok (t := 3) hc (by omega) (by omega)
      have r2 := r.cup hc us hq
      obtain ⟨x', y', z', z1, z2⟩ := id hc
      have test : ∀ bo : Bool, gtV (.int x) (.int 0) (g.set c (.lst us)) = .ok (.bl (decide (0 < x))) (g.set c (.lst us)) := fun _ => rfl
      by_cases c3 : 0 < x
      · have rl : 0 < row.length := by
          rw [hl]
          cases lot with
          | nil => exact absurd rfl c2
          | cons _ _ => simp
        have st := set_ok (h := g.set c (.lst us)) (n := q) (i := 0) (vs := row.map VV.int) (v := .int 0) (sl := SL c lot most wide found way a (.val (.ref q)) d e) (mo := varM 7) (mi := cM (.int 0)) (me := cM (.int 0)) rfl rfl rfl r2 (by rw [List.length_map]; exact rl)
        have em : (row.map VV.int).set 0 (.int 0) = (row.set 0 0).map VV.int := by rw [List.map_set]
        refine ⟨row.set 0 0, (g.set c (.lst us)).set q (.lst ((row.map VV.int).set 0 (.int 0))), ?_, ?_, by rw [List.length_set, hl], fun y hy => ?_, ?_, (Go.set z1).trans (Go.set r2)⟩
        · simp only [rd2, ifS, andT, blM, opM, view, List.map_cons, List.map_nil, Slot.view, varM, cM, List.getElem?_cons_succ, List.getElem?_cons_zero, Out.bind, eqi, c1, decide_true, Bool.false_eq_true, if_false, if_true, tupM, nilA, List.length_nil, f0, ev, decide_eq_false c2, Bool.not_false, callF, consA, e1, test true, decide_eq_true c3, Out.toS]
          simpa only [c1] using st
        · unfold RowAt
          rw [List.getElem?_set_self (List.getElem?_eq_some_iff.mp r2).1, em]
        · rcases List.mem_or_eq_of_mem_set hy with z | z
          · exact hb y z
          · rw [z]; exact ⟨by omega, w0⟩
        · obtain ⟨p1, p2, p3, p4, p5⟩ := cB
          exact ⟨p1, p2, p3, by rw [List.getElem?_set_ne hq]; exact p4, p5⟩
      · refine ⟨row, g.set c (.lst us), ?_, r2, hl, hb, cB, Go.set z1⟩
        simp only [rd2, ifS, andT, blM, opM, view, List.map_cons, List.map_nil, Slot.view, varM, cM, List.getElem?_cons_succ, List.getElem?_cons_zero, Out.bind, eqi, c1, decide_true, Bool.false_eq_true, if_false, if_true, tupM, nilA, List.length_nil, f0, ev, decide_eq_false c2, Bool.not_false, callF, consA, e1, test true, decide_eq_false c3, Out.toS, skipM]
  · refine ⟨row, g, ?_, r, hl, hb, hc.less (by omega), Go.refl g⟩
    simp only [rd2, ifS, andT, blM, opM, view, List.map_cons, List.map_nil, Slot.view, varM, cM, List.getElem?_cons_succ, List.getElem?_cons_zero, Out.bind, eqi, decide_eq_false c1, Bool.false_eq_true, if_false, Out.toS, skipM]
theorem rd3_ok {q : Nat} {row : List Int} (hl : lot ∈ lots) (r : RowAt g q row) (hq : q ≠ c) (hr : row.length = lot.length) (hb : ∀ x ∈ row, 0 ≤ x ∧ x < 1000) (hc : Cup g c k) : ∃ row2 q2 g', rd3 (SL c lot most wide found way a (.val (.ref q)) d e) g = .nx (SL c lot most wide found way a (.val (.ref q2)) d e) g' ∧ RowAt g' q2 row2 ∧ q2 ≠ c ∧ row2.length = lot.length ∧ Small row2 ∧ Cup g' c k ∧ Go g g' := by
  have l6 := (lots_facts lot hl).2.1
  by_cases c1 : way = 1
  · have go := lcGoD_row (sv := (view (SL c lot most wide found way a (.val (.ref q)) d e)).set 9 none) (i9 := 9) (f := fun x => if x % 2 = 0 then 999999999 - x else 0 - x) (e := rdE) (h := g) r (fun x hx => by
      have mm : modV (.int x) (.int 2) g = .ok (.int (x % 2)) g := mod_ii (by decide)
      by_cases c2 : x % 2 = 0
      · simp only [rdE, ifM, blM, opM, view, List.map_cons, List.map_nil, Slot.view, varM, cM, List.set_cons_succ, List.set_cons_zero, List.getElem?_cons_succ, List.getElem?_cons_zero, Out.bind, mm, eqi, decide_eq_true c2, Bool.false_eq_true, if_false, if_true, sub_ii, if_pos c2]
      · simp only [rdE, ifM, blM, opM, view, List.map_cons, List.map_nil, Slot.view, varM, cM, List.set_cons_succ, List.set_cons_zero, List.getElem?_cons_succ, List.getElem?_cons_zero, Out.bind, mm, eqi, decide_eq_false c2, Bool.false_eq_true, if_false, sub_ii, if_neg c2]) row.length 0 (by omega)
    have lt := hc.lt
    refine ⟨row.map fun x => if x % 2 = 0 then 999999999 - x else 0 - x, g.length, g ++ [.lst ((row.map fun x => if x % 2 = 0 then 999999999 - x else 0 - x).map VV.int)], ?_, ?_, by omega, by rw [List.length_map, hr], fun y hy => ?_, hc.app _, Go.app _ _⟩
    · have f1 : fits ((row.map VV.int).length + 1) = true := by
        rw [List.length_map]
        exact Nat.ble_eq_true_of_le (by omega)
      have sd : seqD (varM 7) (view (SL c lot most wide found way a (.val (.ref q)) d e)) g = .ok ((row.map VV.int).length + 1, itX (.ref q)) g := by
        simp only [seqD, varM, view, List.map_cons, List.map_nil, Slot.view, List.getElem?_cons_succ, List.getElem?_cons_zero, Out.bind, seqOf_row r]
      have go' : lcGoD (wipeS (view (SL c lot most wide found way a (.val (.ref q)) d e)) [9]) (nameG 9) yesT rdE (itX (.ref q)) ((row.map VV.int).length + 1) 0 g = .ok ((row.map fun x => if x % 2 = 0 then 999999999 - x else 0 - x).map VV.int) g := by
        rw [List.length_map]
        exact go
      have tt : (blM (opM (Mv.eqV false) (varM 5) (cM (.int 1)))) (view (SL c lot most wide found way a (.val (.ref q)) d e)) g = .ok true g := by
        simp only [blM, opM, view, List.map_cons, List.map_nil, Slot.view, varM, cM, List.getElem?_cons_succ, List.getElem?_cons_zero, Out.bind, eqi, decide_eq_true c1, Bool.false_eq_true, if_false]
      simp only [rd3, ifS, tt, Out.toS, if_true, setM, lcDM, sd, Out.bind, f1, go', finL]
      rfl
    · unfold RowAt
      rw [List.getElem?_append_right (Nat.le_refl _), Nat.sub_self]
      rfl
    · obtain ⟨x, hx, rfl⟩ := List.mem_map.mp hy
      obtain ⟨x0, x1⟩ := hb x hx
      by_cases c2 : x % 2 = 0
      · rw [if_pos c2]; omega
      · rw [if_neg c2]; omega
  · refine ⟨row, q, g, ?_, r, hq, hr, fun y hy => ?_, hc, Go.refl g⟩
    · simp only [rd3, ifS, blM, opM, view, List.map_cons, List.map_nil, Slot.view, varM, cM, List.getElem?_cons_succ, List.getElem?_cons_zero, Out.bind, eqi, decide_eq_false c1, Bool.false_eq_true, if_false, Out.toS, skipM]
    · obtain ⟨x0, x1⟩ := hb y hy
      omega
theorem rd4_ok {q : Nat} {row : List Int} (r : RowAt g q row) (hn : found.length < 1000) : rd4 (SL c lot most wide found way a (.val (.ref q)) d e) g = .nx (SL c lot most wide (found ++ [row]) way a (.val (.ref q)) d e) g := by
  have t1 : tupleHF [.ref q] g = .ok (tupV row) g := by
    unfold RowAt at r
    simp only [tupleHF, r]
    rfl
  have f1 : fits ((found.map tupV).length + 1) = true := by
    rw [List.length_map]
    exact Nat.ble_eq_true_of_le (by omega)
  simp only [rd4, appM, view, List.map_cons, List.map_nil, Slot.view, List.getElem?_cons_succ, List.getElem?_cons_zero, consA, nilA, callM, varM, Out.bind, t1, Out.toS, f1, if_true, List.set_cons_succ, List.set_cons_zero]
  simp [SL]
theorem rd5_ok {q : Nat} {row : List Int} (r : RowAt g q row) (hq : q ≠ c) (hn : found.length < 1000) (hc : Cup g c (k + 1)) : ∃ found2 g', rd5 (SL c lot most wide found way a (.val (.ref q)) d e) g = .nx (SL c lot most wide found2 way a (.val (.ref q)) d e) g' ∧ (found2 = found ∨ found2 = found ++ [row]) ∧ Cup g' c k ∧ Go g g' := by
  obtain ⟨x, us, e1, x0, x1, cB⟩ := tossed_ok (t := 6) hc (by omega) (by omega)
  obtain ⟨x', y', z', z1, z2⟩ := id hc
  have r2 := r.cup hc us hq
  have tt : (blM (opM (Mv.eqV false) (callF m_tossed (consA (varM 0) (consA (cM (.int 6)) nilA))) (cM (.int 0)))) (view (SL c lot most wide found way a (.val (.ref q)) d e)) g = .ok (decide (x = 0)) (g.set c (.lst us)) := by
    simp only [blM, opM, view, List.map_cons, List.map_nil, Slot.view, callF, consA, nilA, varM, cM, List.getElem?_cons_zero, Out.bind, e1, eqi, Bool.false_eq_true, if_false]
  by_cases c1 : x = 0
  · refine ⟨found ++ [row], g.set c (.lst us), ?_, .inr rfl, cB, Go.set z1⟩
    simp only [rd5, ifS, tt, Out.toS, decide_eq_true c1, if_true]
    exact rd4_ok r2 hn
  · refine ⟨found, g.set c (.lst us), ?_, .inl rfl, cB, Go.set z1⟩
    simp only [rd5, ifS, tt, Out.toS, decide_eq_false c1, Bool.false_eq_true, if_false, skipM]
end
theorem rows_drawn_ok {h : VH} {c k : Nat} {lot : List Int} {most wide : Int} (hl : lot ∈ lots) (hc : Cup h c (k + 500)) (m0 : 0 ≤ most) (m1 : most ≤ 40) (w0 : 0 < wide) (w1 : wide < 1000) :
    ∃ (rows base : List (List Int)) (h' : VH), m_rows_drawn [.ref c, Kt lot, .int most, .int wide] h = .ok (Rl rows) h' ∧ (∀ r ∈ rows, r ∈ base) ∧ base.length ≤ 40 ∧ (∀ r ∈ base, r.length = lot.length ∧ Small r) ∧ rows.length ≤ 100 ∧ Cup h' c k ∧ Go h h' := by
  have l6 := (lots_facts lot hl).2.1
  obtain ⟨way, us, e1, y0, y1, c1⟩ := tossed_ok (t := 5) (k := k + 499) hc (by omega) (by omega)
  obtain ⟨hA, eA⟩ : ∃ hA, hA = h.set c (.lst us) := ⟨_, rfl⟩
  rw [← eA] at e1 c1
  have gA : Go h hA := by
    obtain ⟨a, b, d, z1, _⟩ := hc
    rw [eA]
    exact Go.set z1
  obtain ⟨m, vs, e2, t0, t1, c2⟩ := tossed_ok (t := most + 1) (k := k + 498) c1 (by omega) (by omega)
  obtain ⟨hB, eB⟩ : ∃ hB, hB = hA.set c (.lst vs) := ⟨_, rfl⟩
  rw [← eB] at e2 c2
  have gB : Go h hB := by
    obtain ⟨a, b, d, z1, _⟩ := c1
    rw [eB]
    exact gA.trans (Go.set z1)
  obtain ⟨N, eN⟩ : ∃ N, N = m.toNat := ⟨_, rfl⟩
  have rg : rangeI (consA (callF m_tossed (consA (varM 0) (consA (opM addV (varM 2) (cM (.int 1))) nilA))) nilA) (view (SL c lot most wide [] way .no .no .no .no)) hA = .ok (iota 0 m.toNat) hB := by
    refine range_ok ?_ (by omega) (by omega)
    simp only [consA, nilA, opM, callF, varM, cM, view, List.map_cons, List.map_nil, Slot.view, List.getElem?_cons_succ, List.getElem?_cons_zero, Out.bind, add_ii, e2]
  obtain ⟨sl2, h2, kf, found, base, i1, i2, i3, i4, i5, i6, i7⟩ := for_inv (mg := nameG 6) (body := seqM rd1 (seqM rd2 (seqM rd3 (seqM rd4 rd5)))) (N := N)
    (fun j sl g => ∃ found base : List (List Int), (∃ a b d e, sl = SL c lot most wide found way a b d e) ∧ (∀ r ∈ found, r ∈ base) ∧ base.length ≤ j ∧ (∀ r ∈ base, r.length = lot.length ∧ Small r) ∧ found.length ≤ 2 * j ∧ Cup g c (k + 10 * (40 - j)) ∧ Go h g)
    (fun j sl g v hj ⟨found, base, ⟨a, b, d, e, es⟩, q1, q2, q3, q4, q5, q6⟩ => by
      subst es
      obtain ⟨row1, p1, g1, a1, a2, a3, a4, a5, a6, a7⟩ := rd1_ok (k := k + 10 * (40 - (j + 1)) + 2) (most := most) (found := found) (way := way) (a := .val v) (b := b) (d := d) (e := e) hl w0 w1 (q5.less (by omega))
      obtain ⟨row2, g2, b1, b2, b3, b4, b5, b6⟩ := rd2_ok (k := k + 10 * (40 - (j + 1)) + 1) (most := most) (found := found) (way := way) (a := .val v) (d := d) (e := e) a2 a3 a4 a5 w0 a6
      obtain ⟨row3, p3, g3, d1, d2, d3, d4, d5, d6, d7⟩ := rd3_ok (most := most) (wide := wide) (found := found) (way := way) (a := .val v) (d := d) (e := e) hl b2 a3 b3 (fun x hx => ⟨(b4 x hx).1, by have := (b4 x hx).2; omega⟩) b5
      have f4 := rd4_ok (c := c) (lot := lot) (most := most) (wide := wide) (found := found) (way := way) (a := .val v) (d := d) (e := e) d2 (by omega)
      obtain ⟨found2, g5, f1, f2, f3, f5⟩ := rd5_ok (k := k + 10 * (40 - (j + 1))) (lot := lot) (most := most) (wide := wide) (found := found ++ [row3]) (way := way) (a := .val v) (d := d) (e := e) d2 d3 (by rw [List.length_append, List.length_cons, List.length_nil]; omega) d6
      refine ⟨[(6, v)], SL c lot most wide found2 way (.val v) (.val (.ref p3)) d e, g5, rfl, ?_, found2, base ++ [row3], ⟨_, _, _, _, rfl⟩, ?_, ?_, ?_, ?_, f3, q6.trans (a7.trans (b6.trans (d7.trans f5)))⟩
      · have st : setsS [(6, v)] (SL c lot most wide found way a b d e) = SL c lot most wide found way (.val v) b d e := rfl
        rw [st, seqM_nx a1, seqM_nx b1, seqM_nx d1, seqM_nx f4, f1]
      · intro r hr
        have : r ∈ found ∨ r = row3 := by
          rcases f2 with z | z
          · rw [z] at hr
            rcases List.mem_append.mp hr with y | y
            · exact .inl y
            · exact .inr (List.mem_singleton.mp y)
          · rw [z] at hr
            rcases List.mem_append.mp hr with y | y
            · rcases List.mem_append.mp y with y | y
              · exact .inl y
              · exact .inr (List.mem_singleton.mp y)
            · exact .inr (List.mem_singleton.mp y)
        rcases this with y | y
        · exact List.mem_append_left _ (q1 r y)
        · rw [y]; exact List.mem_append_right _ (List.mem_singleton.mpr rfl)
      · rw [List.length_append, List.length_cons, List.length_nil]; omega
      · intro r hr
        rcases List.mem_append.mp hr with y | y
        · exact q3 r y
        · rw [List.mem_singleton.mp y]; exact ⟨d4, d5⟩
      · rcases f2 with z | z <;> rw [z] <;> simp only [List.length_append, List.length_cons, List.length_nil] <;> omega)
    (iota 0 N) 0 (SL c lot most wide [] way .no .no .no .no) hB (by rw [iota_len, Nat.zero_add]) ⟨[], [], ⟨_, _, _, _, rfl⟩, fun r hr => (by cases hr), Nat.le_refl _, fun r hr => (by cases hr), Nat.zero_le _, c2.less (by omega), gB⟩
  obtain ⟨a, b, d, e, es⟩ := i1
  refine ⟨found, base, h2, ?_, i2, by omega, i4, by omega, i6.less (by omega), i7⟩
  have s1 : parLV2 4 5 nilA (callF m_tossed (consA (varM 0) (consA (cM (.int 5)) nilA))) [.val (.ref c), .val (Kt lot), .val (.int most), .val (.int wide), .no, .no, .no, .no, .no, .no] h = .nx (SL c lot most wide [] way .no .no .no .no) hA := by
    have f0 : fits 0 = true := rfl
    simp only [parLV2, List.getElem?_cons_succ, List.getElem?_cons_zero, List.set_cons_succ, List.set_cons_zero, view, List.map_cons, List.map_nil, Slot.view, nilA, Out.toS, List.length_nil, f0, if_true, callF, consA, varM, cM, Out.bind, e1]
    rfl
  have sF : (Mv.forM (rangeI (consA (callF m_tossed (consA (varM 0) (consA (opM addV (varM 2) (cM (.int 1))) nilA))) nilA)) (nameG 6) (seqM rd1 (seqM rd2 (seqM rd3 (seqM rd4 rd5))))) (SL c lot most wide [] way .no .no .no .no) hA = .nx sl2 h2 := by
    simp only [Mv.forM, rg, Out.toS, ← eN, kf]
  have sR : (retF (varM 4)) sl2 h2 = .rt (Rl found) h2 := by rw [es]; rfl
  refine fn_rt (s0 := [.val (.ref c), .val (Kt lot), .val (.int most), .val (.int wide), .no, .no, .no, .no, .no, .no]) rfl rfl ?_
  show seqM _ (seqM _ _) _ _ = _
  rw [seqM_nx s1, seqM_nx sF, sR]
end K05
set_option Elab.async false
set_option linter.all false
set_option maxRecDepth 100000
namespace K05
open PySem PySem.Spec PyProof.Rows L2 Mv Tb
theorem Go.rows_app {h t : VH} : Go h (h ++ t) := Go.app h t
structure At (c n : Nat) (lot : List Int) (R : List (List Int)) (h : VH) (k : Nat) : Prop where
  cup : Cup h c k
  tab : Tab h n lot R
theorem At.app {c n : Nat} {lot : List Int} {R : List (List Int)} {h : VH} {k : Nat} (a : At c n lot R h k) (t : VH) : At c n lot R (h ++ t) k := ⟨a.cup.app t, a.tab.app t⟩
theorem At.less {c n : Nat} {lot : List Int} {R : List (List Int)} {h : VH} {k j : Nat} (a : At c n lot R h k) (hj : j ≤ k) : At c n lot R h j := ⟨a.cup.less hj, a.tab⟩
theorem At.go {c n : Nat} {lot : List Int} {R : List (List Int)} {h h' : VH} {k j : Nat} (a : At c n lot R h k) (t : Cup h' c j) (g : Go h h') : At c n lot R h' j := ⟨t, a.tab.go g⟩
structure Fine (lot : List Int) (R : List (List Int)) : Prop where
  good : Good lot R
  few : R.length ≤ 40
  nd : R.Nodup
  srt : SrtK R
theorem proj_few {lot some : List Int} {R : List (List Int)} : (proj lot some R).length ≤ R.length := by
  have := (proj_nodup (lot := lot) (some := some) (R := R)).length_le_of_subset (l₂ := R.map (Tb.part lot some)) fun z hz => by
    obtain ⟨q, hq, e⟩ := mem_proj.mp hz
    exact List.mem_map.mpr ⟨q, hq, e⟩
  rwa [List.length_map] at this
section
variable {c n : Nat} {lot : List Int} {R : List (List Int)} {g : VH} {k : Nat}
theorem draw_at {l : List Int} {least : Int} {L : VV} (a : At c n lot R g (k + 10)) (hL : L = tupV l ∨ L = Kt l) (hl : l ∈ lots) (h0 : 0 ≤ least) (h1 : least ≤ l.length) :
    ∃ (b : List Int) (g' : VH), m_lot_drawn [.ref c, L, .int least] g = .ok (Kt b) g' ∧ b ∈ lots ∧ (∀ x ∈ b, x ∈ l) ∧ At c n lot R g' k := by
  obtain ⟨b, g', e1, e2, e3, e4, e5⟩ := lot_drawn_ok a.cup hL hl h0 h1
  exact ⟨b, g', e1, e2, e3, a.go e4 e5⟩
variable {low high : List Int}
theorem deg_at (a : At c n lot R g k) (f : Good lot R) (hl : low ∈ lots) (hh : high ∈ lots) (h1 : ∀ x ∈ low, x ∈ high) (h2 : ∀ x ∈ high, x ∈ lot) :
    ∃ g', m_degree [.ref n, Kt low, Kt high] g = .ok (.int (deg lot low high R : Nat)) g' ∧ At c n lot R g' k := by
  obtain ⟨t, e⟩ := degree_in_ok a.tab f hl hh h1 h2
  exact ⟨_, e, a.app t⟩
theorem odeg_at (a : At c n lot R g k) (f : Fine lot R) (hl : low ∈ lots) (hh : high ∈ lots) (h1 : ∀ x ∈ low, x ∈ high) (h2 : ∀ x ∈ high, x ∈ lot) :
    ∃ g', m_own_degree [Rs R, Kt lot, Kt low, Kt high] g = .ok (.int (deg lot low high R : Nat)) g' ∧ At c n lot R g' k := by
  obtain ⟨t, e⟩ := own_degree_ok (h := g) f.good.len (by have := f.few; omega) hl hh h1 h2
  exact ⟨_, e, a.app t⟩
theorem told_at (a : At c n lot R g k) (f : Good lot R) (hl : low ∈ lots) (hh : high ∈ lots) (h1 : ∀ x ∈ low, x ∈ high) (h2 : ∀ x ∈ high, x ∈ lot) :
    ∃ g', m_above [.ref n, Kt low, Kt high] g = .ok (.dtt (ksP (stally (low_ lot low high R))) (vsP (stally (low_ lot low high R)))) g' ∧ At c n lot R g' k := by
  obtain ⟨t, e⟩ := above_ok a.tab f hl hh h1 h2
  exact ⟨_, e, a.app t⟩
theorem otold_at (a : At c n lot R g k) (f : Fine lot R) (hl : low ∈ lots) (hh : high ∈ lots) (h1 : ∀ x ∈ low, x ∈ high) (h2 : ∀ x ∈ high, x ∈ lot) :
    ∃ q g', m_own_above [Rs R, Kt lot, Kt low, Kt high] g = .ok (.ref q) g' ∧ At c n lot R g' k ∧ ∀ neg, eqVP neg (.dtt (ksP (stally (low_ lot low high R))) (vsP (stally (low_ lot low high R)))) (.ref q) g' = .ok (.bl (!neg)) g' := by
  have e := own_above_ok (h := g) f.good.len (by have := f.few; omega) hl hh h1 h2
  refine ⟨_, _, e, a.app _, fun neg => alike ?_⟩
  rw [List.getElem?_append_right (Nat.le_refl _), Nat.sub_self]
  rfl
theorem plen_at {sv : Sv} {m1 m2 : ME} (a : At c n lot R g k) (f : Good lot R) (hl : low ∈ lots) (h2 : ∀ x ∈ low, x ∈ lot) (e1 : m1 sv g = .ok (.ref n) g) (e2 : m2 sv g = .ok (Kt low) g) :
    ∃ g', callM (lenIF [(0, m_Table_len)]) (consA (callF m_project (consA m1 (consA m2 nilA))) nilA) sv g = .ok (.int ((proj lot low R).length : Nat)) g' ∧ At c n lot R g' k := by
  have e := project_ok a.tab f hl h2
  have t : Tab (g ++ tabO g.length (Kt low) (proj lot low R) (told low)) (g.length + 1) low (proj lot low R) := Tab.new
  have l := tab_len t (Nat.lt_of_le_of_lt proj_few (by have := f.few; omega))
  refine ⟨g ++ tabO g.length (Kt low) (proj lot low R) (told low), ?_, a.app _⟩
  simp only [fnM, startS, view, Slot.view, List.map_cons, List.map_nil, List.length_cons, List.length_nil, List.replicate, List.cons_append, List.nil_append, Nat.reduceAdd, Nat.reduceSub, reduceIte, retV, andV, notV, callM, callF, consA, nilA, varM, cM, List.getElem?_cons_zero, List.getElem?_cons_succ, Out.bind, opM, Out.toS, Bool.false_eq_true, seqM, setM, dropM, ifS, notT, blM, skipM, List.set_cons_zero, List.set_cons_succ, Bool.not_true, Bool.not_false, e1, e2, e, l]
theorem kept_go {sv : Sv} {i : Nat} {e0 : sv[0]? = some (some (.ref c))} (hi : i < sv.length) (h0 : i ≠ 0) : ∀ (Rr : List (List Int)) (g : VH), At c n lot R g (k + Rr.length) →
    ∃ (R2 : List (List Int)) (g' : VH), lcGo sv (nameG i) (blM (opM gtV (callF m_tossed (consA (varM 0) (consA (cM (.int 3)) nilA))) (cM (.int 0)))) (varM i) (Rr.map tupV) g = .ok (R2.map tupV) g' ∧ List.Sublist R2 Rr ∧ At c n lot R g' k
  | [], g, a => ⟨[], g, rfl, List.Sublist.refl _, a⟩
  | r :: Rr, g, a => by
    have ae : Cup g c (k + Rr.length + 1) := a.cup.less (by rw [List.length_cons]; omega)
    obtain ⟨x, us, e1, x0, x1, c1⟩ := tossed_ok (t := 3) ae (by omega) (by omega)
    obtain ⟨p, q, s, z1, _⟩ := id ae
    have aB : At c n lot R (g.set c (.lst us)) (k + Rr.length) := a.go c1 (Go.set z1)
    obtain ⟨R2, g', f1, f2, f3⟩ := kept_go (e0 := e0) hi h0 Rr _ aB
    have sA : (sv.set i (some (tupV r)))[0]? = some (some (.ref c)) := by
      rw [List.getElem?_set_ne h0]; exact e0
    have sB : (sv.set i (some (tupV r)))[i]? = some (some (tupV r)) := by simp [hi]
    have gt : gtV (.int x) (.int 0) (g.set c (.lst us)) = .ok (.bl (decide (0 < x))) (g.set c (.lst us)) := rfl
    by_cases c3 : 0 < x
    · refine ⟨r :: R2, g', ?_, f2.cons_cons r, f3⟩
      rw [decide_eq_true c3] at gt
      simp only [List.map_cons, lcGo, nameG, setsV, blM, opM, callF, consA, nilA, varM, cM, sA, sB, Out.bind, e1, gt, Out.nox, if_true]
      exact (congrArg (fun r2 : Out (List VV) => r2.bind fun ys h3 => Out.ok (tupV r :: ys) h3) f1).trans rfl
    · refine ⟨R2, g', ?_, f2.cons r, f3⟩
      rw [decide_eq_false c3] at gt
      simp only [List.map_cons, lcGo, nameG, setsV, blM, opM, callF, consA, nilA, varM, cM, sA, sB, Out.bind, e1, gt, Out.nox, Bool.false_eq_true, if_false]
      exact f1
theorem sect_go {sv : Sv} {i : Nat} (e3 : sv[3]? = some (some (.ref n))) (e7 : sv[7]? = some (some (Kt low))) (hi : i < sv.length) (h3 : i ≠ 3) (h7 : i ≠ 7) (f : Good lot R) (hl : low ∈ lots) (hs : ∀ x ∈ low, x ∈ lot) : ∀ (Rr : List (List Int)) (g : VH), (∀ r ∈ Rr, r.length = low.length ∧ Small r) → At c n lot R g k →
    ∃ g' : VH, lcGo sv (nameG i) yesT (callM (lenIF [(0, m_Table_len)]) (consA (callF m_section (consA (varM 3) (consA (varM 7) (consA (varM i) nilA)))) nilA)) (Rr.map tupV) g = .ok ((Rr.map fun r => (((sect lot low (rest lot low) R r).length : Nat) : Int)).map VV.int) g' ∧ At c n lot R g' k
  | [], g, _, a => ⟨g, rfl, a⟩
  | r :: Rr, g, hr, a => by
    obtain ⟨r1, r2⟩ := hr r List.mem_cons_self
    obtain ⟨m, t, e1, e2⟩ := section_ok a.tab f hl hs r1 r2
    have fw := f.few
    have sl : (sect lot low (rest lot low) R r).length < 1000000 := by
      have h1 := (uniq_nodup ((R.filter fun r' => Tb.part lot low r' == r).map (Tb.part lot (rest lot low)))).length_le_of_subset fun z hz => mem_uniq.mp hz
      have h2 : (R.filter fun r' => Tb.part lot low r' == r).length ≤ R.length := List.length_filter_le _ _
      rw [List.length_map] at h1
      unfold sect
      omega
    have l := tab_len e2 sl
    obtain ⟨g', f1, f2⟩ := sect_go e3 e7 hi h3 h7 f hl hs Rr _ (fun x hx => hr x (List.mem_cons_of_mem _ hx)) (a.app t)
    have s3 : (sv.set i (some (tupV r)))[3]? = some (some (.ref n)) := by rw [List.getElem?_set_ne h3]; exact e3
    have s7 : (sv.set i (some (tupV r)))[7]? = some (some (Kt low)) := by rw [List.getElem?_set_ne h7]; exact e7
    have sB : (sv.set i (some (tupV r)))[i]? = some (some (tupV r)) := by simp [hi]
    refine ⟨g', ?_, f2⟩
    simp only [List.map_cons, lcGo, nameG, setsV, yesT, callM, callF, consA, nilA, varM, s3, s7, sB, Out.bind, e1, l, Out.nox, if_true]
    exact (congrArg (fun r2 : Out (List VV) => r2.bind fun ys h3 => Out.ok (VV.int (((sect lot low (rest lot low) R r).length : Nat) : Int) :: ys) h3) f1).trans rfl
end
theorem gt_no {h : VH} {x y : Int} (e : x ≤ y) : gtV (.int x) (.int y) h = .ok (.bl false) h := by
  have : ¬ y < x := by omega
  simp [gtV, cmpV, this]
theorem lt_no {h : VH} {x y : Int} (e : y ≤ x) : ltV (.int x) (.int y) h = .ok (.bl false) h := by
  have : ¬ x < y := by omega
  simp [ltV, cmpV, this]
theorem ne_no {h : VH} {x : Int} : Mv.eqV true (.int x) (.int x) h = .ok (.bl false) h := by
  rw [eqi]; simp
theorem max_ii {h : VH} {x y : Int} : maxF [.int x, .int y] h = .ok (.int (if y > x then y else x)) h := rfl
theorem mul_nn {h : VH} {x y : Nat} (hx : x < 100000) (hy : y < 100000) : mulAV (.int (x : Nat)) (.int (y : Nat)) h = .ok (.int ((x * y : Nat) : Int)) h := by
  have big := p64
  have e64 : (2 : Nat) ^ 64 = 18446744073709551616 := by decide +kernel
  have := mul_ii (i := (x : Int)) (j := (y : Int)) (h := h) (by omega) (by omega)
  rw [this, Int.natCast_mul]
theorem set_nx {i : Nat} {e : ME} {sl : Sl} {h h1 : VH} (v : VV) (k : e (view sl) h = .ok v h1) : setM i e sl h = .nx (sl.set i (.val v)) h1 := by simp only [setM, k, Out.toS]
theorem no_nx {t : MT} {a : MS} {sl : Sl} {h h1 : VH} (k : t (view sl) h = .ok false h1) : ifS t a skipM sl h = .nx sl h1 := by simp only [ifS, k, Out.toS, Bool.false_eq_true, if_false, skipM]
theorem or_no {a b : MT} {sv : Sv} {h h1 h2 : VH} (k : a sv h = .ok false h1) (j : b sv h1 = .ok false h2) : orT a b sv h = .ok false h2 := by simp only [orT, k, j, Out.bind, Bool.false_eq_true, if_false]
end K05
set_option Elab.async false
set_option linter.all false
set_option maxRecDepth 100000
namespace K05
open PySem PySem.Spec PyProof.Rows L2 Mv Tb
abbrev SR (c : Nat) (lot : List Int) (R : List (List Int)) (n : Nat) (x4 x5 x6 x7 x8 x9 x10 x11 x12 x13 x14 : Slot) : Sl := [.val (.ref c), .val (Kt lot), .val (Rs R), .val (.ref n), x4, x5, x6, x7, x8, x9, x10, x11, x12, x13, x14, .no]
abbrev Dt (lot low high : List Int) (R : List (List Int)) : VV := .dtt (ksP (stally (low_ lot low high R))) (vsP (stally (low_ lot low high R)))
def sects (lot low : List Int) (R : List (List Int)) : List Int := (proj lot low R).map fun r => (((sect lot low (rest lot low) R r).length : Nat) : Int)
abbrev u0 : MS := setM 5 (callF m_lot_drawn (consA (varM 0) (consA (varM 1) (consA (cM (.int 0)) (nilA)))))
abbrev u1 : MS := setM 6 (callF m_lot_drawn (consA (varM 0) (consA (varM 5) (consA (cM (.int 0)) (nilA)))))
abbrev u2 : MS := setM 7 (callF m_lot_drawn (consA (varM 0) (consA (varM 6) (consA (cM (.int 0)) (nilA)))))
abbrev u3 : MS := setM 8 (callF m_above (consA (varM 3) (consA (varM 7) (consA (varM 5) (nilA)))))
abbrev u4 : MS := ifS (orT (blM (opM (eqVP true) (varM 8) (callF m_own_above (consA (varM 2) (consA (varM 1) (consA (varM 7) (consA (varM 5) (nilA)))))))) (blM (opM (eqV true) (callM listDF (consA (varM 8) (nilA))) (callM sortedAF (consA (varM 8) (nilA)))))) (retV (cM (.bl false))) (skipM)
abbrev u5 : MS := setM 9 (callF m_degree (consA (varM 3) (consA (varM 7) (consA (varM 5) (nilA)))))
abbrev u6 : MS := ifS (orT (blM (opM (eqV true) (varM 9) (callF m_own_degree (consA (varM 2) (consA (varM 1) (consA (varM 7) (consA (varM 5) (nilA)))))))) (blM (opM gtV (varM 9) (opM mulAV (callF m_degree (consA (varM 3) (consA (varM 7) (consA (varM 6) (nilA))))) (callF m_degree (consA (varM 3) (consA (varM 6) (consA (varM 5) (nilA))))))))) (retV (cM (.bl false))) (skipM)
abbrev u7 : MS := parM 10 11 (consA (callM (lenIF [(0, m_Table_len)]) (consA (callF m_project (consA (varM 3) (consA (varM 7) (nilA)))) (nilA))) (consA (callM (lenIF [(0, m_Table_len)]) (consA (callF m_project (consA (varM 3) (consA (varM 5) (nilA)))) (nilA))) (nilA)))
abbrev u8 : MS := ifS (orT (blM (opM gtV (varM 11) (opM mulAV (varM 10) (varM 9)))) (orT (blM (opM ltV (varM 11) (callM maxF (consA (varM 10) (consA (varM 9) (nilA)))))) (blM (opM (eqV true) (callF m_degree (consA (varM 3) (consA (ktupM (nilA)) (consA (varM 5) (nilA))))) (varM 11))))) (retV (cM (.bl false))) (skipM)
abbrev u9 : MS := setM 12 (callF m_lot_drawn (consA (varM 0) (consA (varM 1) (consA (cM (.int 0)) (nilA)))))
abbrev u10 : MS := ifS (blM (opM gtV (callF m_degree (consA (varM 3) (consA (callF m_both (consA (varM 7) (consA (varM 12) (nilA)))) (consA (callF m_both (consA (varM 5) (consA (varM 12) (nilA)))) (nilA))))) (varM 9))) (retV (cM (.bl false))) (skipM)
abbrev u11 : MS := setM 13 (makeM 0 m_Table_init (consA (varM 1) (consA (callM tupleAF (consA (lcM (seqA (varM 2)) (nameG 15) [15] (blM (opM gtV (callF m_tossed (consA (varM 0) (consA (cM (.int 3)) (nilA)))) (cM (.int 0)))) (varM 15)) (nilA))) (nilA))))
abbrev u12 : MS := ifS (blM (opM gtV (callF m_degree (consA (varM 13) (consA (varM 7) (consA (varM 5) (nilA))))) (varM 9))) (retV (cM (.bl false))) (skipM)
abbrev u13 : MS := setM 14 (lcM (seqA (propM [(0, m_Table_rows)] (callF m_project (consA (varM 3) (consA (varM 7) (nilA)))))) (nameG 15) [15] (yesT) (callM (lenIF [(0, m_Table_len)]) (consA (callF m_section (consA (varM 3) (consA (varM 7) (consA (varM 15) (nilA))))) (nilA))))
abbrev u14 : MS := ifS (blM (opM (eqV true) (callM max1F (consA (opM addV (lstM (consA (cM (.int 0)) (nilA))) (varM 14)) (nilA))) (callF m_degree (consA (varM 3) (consA (varM 7) (consA (varM 1) (nilA))))))) (retV (cM (.bl false))) (skipM)
abbrev uAll : MS := seqM u0 (seqM u1 (seqM u2 (seqM u3 (seqM u4 (seqM u5 (seqM u6 (seqM u7 (seqM u8 (seqM u9 (seqM u10 (seqM u11 (seqM u12 (seqM u13 (u14))))))))))))))
section
variable {c n : Nat} {lot low mid high more : List Int} {R : List (List Int)} {g : VH} {k : Nat} {v x5 x6 x7 x8 x9 x10 x11 x12 x13 x14 : Slot}
theorem u0_ok (a : At c n lot R g (k + 10)) (f : Fine lot R) : ∃ high g', u0 (SR c lot R n v x5 x6 x7 x8 x9 x10 x11 x12 x13 x14) g = .nx (SR c lot R n v (.val (Kt high)) x6 x7 x8 x9 x10 x11 x12 x13 x14) g' ∧ high ∈ lots ∧ (∀ x ∈ high, x ∈ lot) ∧ At c n lot R g' k := by
  obtain ⟨b, g', e1, e2, e3, e4⟩ := draw_at (least := 0) a (.inr rfl) f.good.inl (Int.le_refl 0) (by omega)
  exact ⟨b, g', set_nx _ (by simp only [fnM, startS, view, Slot.view, List.map_cons, List.map_nil, List.length_cons, List.length_nil, List.replicate, List.cons_append, List.nil_append, Nat.reduceAdd, Nat.reduceSub, reduceIte, retV, andV, notV, callM, callF, consA, nilA, varM, cM, List.getElem?_cons_zero, List.getElem?_cons_succ, Out.bind, opM, Out.toS, Bool.false_eq_true, seqM, setM, dropM, ifS, notT, blM, skipM, List.set_cons_zero, List.set_cons_succ, Bool.not_true, Bool.not_false, e1]), e2, e3, e4⟩
theorem u1_ok (a : At c n lot R g (k + 10)) (hs : high ∈ lots) : ∃ mid g', u1 (SR c lot R n v (.val (Kt high)) x6 x7 x8 x9 x10 x11 x12 x13 x14) g = .nx (SR c lot R n v (.val (Kt high)) (.val (Kt mid)) x7 x8 x9 x10 x11 x12 x13 x14) g' ∧ mid ∈ lots ∧ (∀ x ∈ mid, x ∈ high) ∧ At c n lot R g' k := by
  obtain ⟨b, g', e1, e2, e3, e4⟩ := draw_at (least := 0) a (.inr rfl) hs (Int.le_refl 0) (by omega)
  exact ⟨b, g', set_nx _ (by simp only [fnM, startS, view, Slot.view, List.map_cons, List.map_nil, List.length_cons, List.length_nil, List.replicate, List.cons_append, List.nil_append, Nat.reduceAdd, Nat.reduceSub, reduceIte, retV, andV, notV, callM, callF, consA, nilA, varM, cM, List.getElem?_cons_zero, List.getElem?_cons_succ, Out.bind, opM, Out.toS, Bool.false_eq_true, seqM, setM, dropM, ifS, notT, blM, skipM, List.set_cons_zero, List.set_cons_succ, Bool.not_true, Bool.not_false, e1]), e2, e3, e4⟩
theorem u2_ok (a : At c n lot R g (k + 10)) (hs : mid ∈ lots) : ∃ low g', u2 (SR c lot R n v (.val (Kt high)) (.val (Kt mid)) x7 x8 x9 x10 x11 x12 x13 x14) g = .nx (SR c lot R n v (.val (Kt high)) (.val (Kt mid)) (.val (Kt low)) x8 x9 x10 x11 x12 x13 x14) g' ∧ low ∈ lots ∧ (∀ x ∈ low, x ∈ mid) ∧ At c n lot R g' k := by
  obtain ⟨b, g', e1, e2, e3, e4⟩ := draw_at (least := 0) a (.inr rfl) hs (Int.le_refl 0) (by omega)
  exact ⟨b, g', set_nx _ (by simp only [fnM, startS, view, Slot.view, List.map_cons, List.map_nil, List.length_cons, List.length_nil, List.replicate, List.cons_append, List.nil_append, Nat.reduceAdd, Nat.reduceSub, reduceIte, retV, andV, notV, callM, callF, consA, nilA, varM, cM, List.getElem?_cons_zero, List.getElem?_cons_succ, Out.bind, opM, Out.toS, Bool.false_eq_true, seqM, setM, dropM, ifS, notT, blM, skipM, List.set_cons_zero, List.set_cons_succ, Bool.not_true, Bool.not_false, e1]), e2, e3, e4⟩
theorem u3_ok (a : At c n lot R g k) (f : Fine lot R) (hl : low ∈ lots) (hh : high ∈ lots) (h1 : ∀ x ∈ low, x ∈ high) (h2 : ∀ x ∈ high, x ∈ lot) : ∃ g', u3 (SR c lot R n v (.val (Kt high)) (.val (Kt mid)) (.val (Kt low)) x8 x9 x10 x11 x12 x13 x14) g = .nx (SR c lot R n v (.val (Kt high)) (.val (Kt mid)) (.val (Kt low)) (.val (Dt lot low high R)) x9 x10 x11 x12 x13 x14) g' ∧ At c n lot R g' k := by
  obtain ⟨g', e1, e2⟩ := told_at a f.good hl hh h1 h2
  exact ⟨g', set_nx _ (by simp only [fnM, startS, view, Slot.view, List.map_cons, List.map_nil, List.length_cons, List.length_nil, List.replicate, List.cons_append, List.nil_append, Nat.reduceAdd, Nat.reduceSub, reduceIte, retV, andV, notV, callM, callF, consA, nilA, varM, cM, List.getElem?_cons_zero, List.getElem?_cons_succ, Out.bind, opM, Out.toS, Bool.false_eq_true, seqM, setM, dropM, ifS, notT, blM, skipM, List.set_cons_zero, List.set_cons_succ, Bool.not_true, Bool.not_false, e1]), e2⟩
theorem low_len : ∀ r ∈ low_ lot low high R, r.length = low.length := fun r hr => by
  obtain ⟨q, _, e⟩ := List.mem_map.mp hr
  rw [← e, part_len]
theorem u4_ok (a : At c n lot R g k) (f : Fine lot R) (hl : low ∈ lots) (hh : high ∈ lots) (h1 : ∀ x ∈ low, x ∈ high) (h2 : ∀ x ∈ high, x ∈ lot) : ∃ g', u4 (SR c lot R n v (.val (Kt high)) (.val (Kt mid)) (.val (Kt low)) (.val (Dt lot low high R)) x9 x10 x11 x12 x13 x14) g = .nx (SR c lot R n v (.val (Kt high)) (.val (Kt mid)) (.val (Kt low)) (.val (Dt lot low high R)) x9 x10 x11 x12 x13 x14) g' ∧ At c n lot R g' k := by
  obtain ⟨q, g', e1, e2, e3⟩ := otold_at a f hl hh h1 h2
  obtain ⟨k1, k2⟩ := keys_sorted (h := g') (L := low_ lot low high R) low_len
  have k3 : Mv.eqV true (Rl (sortK (fo (low_ lot low high R)))) (Rl (sortK (fo (low_ lot low high R)))) g' = .ok (.bl false) g' := by simp [Mv.eqV, eqO_Rl]
  have k4 := e3 true
  exact ⟨g', no_nx (by simp only [fnM, startS, view, Slot.view, List.map_cons, List.map_nil, List.length_cons, List.length_nil, List.replicate, List.cons_append, List.nil_append, Nat.reduceAdd, Nat.reduceSub, reduceIte, retV, andV, notV, callM, callF, consA, nilA, varM, cM, List.getElem?_cons_zero, List.getElem?_cons_succ, Out.bind, opM, Out.toS, Bool.false_eq_true, seqM, setM, dropM, ifS, notT, blM, skipM, List.set_cons_zero, List.set_cons_succ, Bool.not_true, Bool.not_false, orT, e1, k1, k2, k3, k4]), e2⟩
theorem u5_ok (a : At c n lot R g k) (f : Fine lot R) (hl : low ∈ lots) (hh : high ∈ lots) (h1 : ∀ x ∈ low, x ∈ high) (h2 : ∀ x ∈ high, x ∈ lot) : ∃ g', u5 (SR c lot R n v (.val (Kt high)) (.val (Kt mid)) (.val (Kt low)) (.val (Dt lot low high R)) x9 x10 x11 x12 x13 x14) g = .nx (SR c lot R n v (.val (Kt high)) (.val (Kt mid)) (.val (Kt low)) (.val (Dt lot low high R)) (.val (.int (deg lot low high R : Nat))) x10 x11 x12 x13 x14) g' ∧ At c n lot R g' k := by
  obtain ⟨g', e1, e2⟩ := deg_at a f.good hl hh h1 h2
  exact ⟨g', set_nx _ (by simp only [fnM, startS, view, Slot.view, List.map_cons, List.map_nil, List.length_cons, List.length_nil, List.replicate, List.cons_append, List.nil_append, Nat.reduceAdd, Nat.reduceSub, reduceIte, retV, andV, notV, callM, callF, consA, nilA, varM, cM, List.getElem?_cons_zero, List.getElem?_cons_succ, Out.bind, opM, Out.toS, Bool.false_eq_true, seqM, setM, dropM, ifS, notT, blM, skipM, List.set_cons_zero, List.set_cons_succ, Bool.not_true, Bool.not_false, e1]), e2⟩
theorem deg_few : deg lot low high R ≤ R.length := Nat.le_trans deg_le proj_few
theorem u6_ok (a : At c n lot R g k) (f : Fine lot R) (hl : low ∈ lots) (hh : high ∈ lots) (h1 : ∀ x ∈ low, x ∈ high) (h2 : ∀ x ∈ high, x ∈ lot) (hm : mid ∈ lots) (h3 : ∀ x ∈ low, x ∈ mid) (h4 : ∀ x ∈ mid, x ∈ high) : ∃ g', u6 (SR c lot R n v (.val (Kt high)) (.val (Kt mid)) (.val (Kt low)) (.val (Dt lot low high R)) (.val (.int (deg lot low high R : Nat))) x10 x11 x12 x13 x14) g = .nx (SR c lot R n v (.val (Kt high)) (.val (Kt mid)) (.val (Kt low)) (.val (Dt lot low high R)) (.val (.int (deg lot low high R : Nat))) x10 x11 x12 x13 x14) g' ∧ At c n lot R g' k := by
  obtain ⟨g1, e1, a1⟩ := odeg_at a f hl hh h1 h2
  obtain ⟨g2, e2, a2⟩ := deg_at a1 f.good hl hm h3 fun x hx => h2 x (h4 x hx)
  obtain ⟨g3, e3, a3⟩ := deg_at a2 f.good hm hh h4 h2
  have fw := f.few
  have d1 : deg lot low mid R ≤ R.length := deg_few
  have d2 : deg lot mid high R ≤ R.length := deg_few
  have k1 : Mv.eqV true (.int (deg lot low high R : Nat)) (.int (deg lot low high R : Nat)) g1 = .ok (.bl false) g1 := ne_no
  have k2 : mulAV (.int (deg lot low mid R : Nat)) (.int (deg lot mid high R : Nat)) g3 = .ok (.int ((deg lot low mid R * deg lot mid high R : Nat) : Int)) g3 := mul_nn (by omega) (by omega)
  have k3 : gtV (.int (deg lot low high R : Nat)) (.int ((deg lot low mid R * deg lot mid high R : Nat) : Int)) g3 = .ok (.bl false) g3 := gt_no (Int.ofNat_le.mpr (deg_mul h3 h4))
  exact ⟨g3, no_nx (by simp only [fnM, startS, view, Slot.view, List.map_cons, List.map_nil, List.length_cons, List.length_nil, List.replicate, List.cons_append, List.nil_append, Nat.reduceAdd, Nat.reduceSub, reduceIte, retV, andV, notV, callM, callF, consA, nilA, varM, cM, List.getElem?_cons_zero, List.getElem?_cons_succ, Out.bind, opM, Out.toS, Bool.false_eq_true, seqM, setM, dropM, ifS, notT, blM, skipM, List.set_cons_zero, List.set_cons_succ, Bool.not_true, Bool.not_false, orT, e1, k1, e2, e3, k2, k3]), a3⟩
theorem u7_ok (a : At c n lot R g k) (f : Fine lot R) (hl : low ∈ lots) (hh : high ∈ lots) (h1 : ∀ x ∈ low, x ∈ high) (h2 : ∀ x ∈ high, x ∈ lot) : ∃ g', u7 (SR c lot R n v (.val (Kt high)) (.val (Kt mid)) (.val (Kt low)) (.val (Dt lot low high R)) (.val (.int (deg lot low high R : Nat))) x10 x11 x12 x13 x14) g = .nx (SR c lot R n v (.val (Kt high)) (.val (Kt mid)) (.val (Kt low)) (.val (Dt lot low high R)) (.val (.int (deg lot low high R : Nat))) (.val (.int ((proj lot low R).length : Nat))) (.val (.int ((proj lot high R).length : Nat))) x12 x13 x14) g' ∧ At c n lot R g' k := by
  obtain ⟨g1, e1, a1⟩ := plen_at (sv := view (SR c lot R n v (.val (Kt high)) (.val (Kt mid)) (.val (Kt low)) (.val (Dt lot low high R)) (.val (.int (deg lot low high R : Nat))) x10 x11 x12 x13 x14)) (m1 := varM 3) (m2 := varM 7) a f.good hl (fun x hx => h2 x (h1 x hx)) rfl rfl
  obtain ⟨g2, e2, a2⟩ := plen_at (sv := view (SR c lot R n v (.val (Kt high)) (.val (Kt mid)) (.val (Kt low)) (.val (Dt lot low high R)) (.val (.int (deg lot low high R : Nat))) x10 x11 x12 x13 x14)) (m1 := varM 3) (m2 := varM 5) a1 f.good hh h2 rfl rfl
  refine ⟨g2, ?_, a2⟩
  have e3 : (consA (callM (lenIF [(0, m_Table_len)]) (consA (callF m_project (consA (varM 3) (consA (varM 7) (nilA)))) (nilA))) (consA (callM (lenIF [(0, m_Table_len)]) (consA (callF m_project (consA (varM 3) (consA (varM 5) (nilA)))) (nilA))) (nilA))) (view (SR c lot R n v (.val (Kt high)) (.val (Kt mid)) (.val (Kt low)) (.val (Dt lot low high R)) (.val (.int (deg lot low high R : Nat))) x10 x11 x12 x13 x14)) g = .ok [.int ((proj lot low R).length : Nat), .int ((proj lot high R).length : Nat)] g2 := by
    rw [consA, e1]
    simp only [Out.bind]
    rw [consA, e2]
    simp only [Out.bind, nilA]
  simp only [u7, parM, e3, Out.toS]
  rfl
theorem u8_ok (a : At c n lot R g k) (f : Fine lot R) (hl : low ∈ lots) (hh : high ∈ lots) (h1 : ∀ x ∈ low, x ∈ high) (h2 : ∀ x ∈ high, x ∈ lot) : ∃ g', u8 (SR c lot R n v (.val (Kt high)) (.val (Kt mid)) (.val (Kt low)) (.val (Dt lot low high R)) (.val (.int (deg lot low high R : Nat))) (.val (.int ((proj lot low R).length : Nat))) (.val (.int ((proj lot high R).length : Nat))) x12 x13 x14) g = .nx (SR c lot R n v (.val (Kt high)) (.val (Kt mid)) (.val (Kt low)) (.val (Dt lot low high R)) (.val (.int (deg lot low high R : Nat))) (.val (.int ((proj lot low R).length : Nat))) (.val (.int ((proj lot high R).length : Nat))) x12 x13 x14) g' ∧ At c n lot R g' k := by
  obtain ⟨g1, e1, a1⟩ := deg_at (low := []) a f.good (by decide +kernel) hh (fun x hx => (by cases hx)) h2
  have fw := f.few
  have p1 : (proj lot low R).length ≤ R.length := proj_few
  have d1 : deg lot low high R ≤ R.length := deg_few
  have f0 : fits 0 = true := rfl
  rw [deg_nil] at e1
  have e1' : m_degree [.ref n, .ktu [], Kt high] g = .ok (.int ((proj lot high R).length : Nat)) g1 := e1
  have k1 : mulAV (.int ((proj lot low R).length : Nat)) (.int (deg lot low high R : Nat)) g = .ok (.int (((proj lot low R).length * deg lot low high R : Nat) : Int)) g := mul_nn (by omega) (by omega)
  have k2 : gtV (.int ((proj lot high R).length : Nat)) (.int (((proj lot low R).length * deg lot low high R : Nat) : Int)) g = .ok (.bl false) g := gt_no (Int.ofNat_le.mpr (proj_le_mul h1))
  have q1 : (proj lot low R).length ≤ (proj lot high R).length := proj_le h1
  have q2 : deg lot low high R ≤ (proj lot high R).length := deg_le
  have k3 : ltV (.int ((proj lot high R).length : Nat)) (.int (if ((deg lot low high R : Nat) : Int) > ((proj lot low R).length : Nat) then ((deg lot low high R : Nat) : Int) else ((proj lot low R).length : Nat))) g = .ok (.bl false) g := lt_no (by split <;> omega)
  have k4 : Mv.eqV true (.int ((proj lot high R).length : Nat)) (.int ((proj lot high R).length : Nat)) g1 = .ok (.bl false) g1 := ne_no
  exact ⟨g1, no_nx (by simp only [fnM, startS, view, Slot.view, List.map_cons, List.map_nil, List.length_cons, List.length_nil, List.replicate, List.cons_append, List.nil_append, Nat.reduceAdd, Nat.reduceSub, reduceIte, retV, andV, notV, callM, callF, consA, nilA, varM, cM, List.getElem?_cons_zero, List.getElem?_cons_succ, Out.bind, opM, Out.toS, Bool.false_eq_true, seqM, setM, dropM, ifS, notT, blM, skipM, List.set_cons_zero, List.set_cons_succ, Bool.not_true, Bool.not_false, orT, ktupM, f0, k1, k2, max_ii, k3, e1', k4]), a1⟩
theorem u9_ok (a : At c n lot R g (k + 10)) (f : Fine lot R) : ∃ more g', u9 (SR c lot R n v (.val (Kt high)) (.val (Kt mid)) (.val (Kt low)) (.val (Dt lot low high R)) (.val (.int (deg lot low high R : Nat))) (.val (.int ((proj lot low R).length : Nat))) (.val (.int ((proj lot high R).length : Nat))) x12 x13 x14) g = .nx (SR c lot R n v (.val (Kt high)) (.val (Kt mid)) (.val (Kt low)) (.val (Dt lot low high R)) (.val (.int (deg lot low high R : Nat))) (.val (.int ((proj lot low R).length : Nat))) (.val (.int ((proj lot high R).length : Nat))) (.val (Kt more)) x13 x14) g' ∧ more ∈ lots ∧ (∀ x ∈ more, x ∈ lot) ∧ At c n lot R g' k := by
  obtain ⟨b, g', e1, e2, e3, e4⟩ := draw_at (least := 0) a (.inr rfl) f.good.inl (Int.le_refl 0) (by omega)
  exact ⟨b, g', set_nx _ (by simp only [fnM, startS, view, Slot.view, List.map_cons, List.map_nil, List.length_cons, List.length_nil, List.replicate, List.cons_append, List.nil_append, Nat.reduceAdd, Nat.reduceSub, reduceIte, retV, andV, notV, callM, callF, consA, nilA, varM, cM, List.getElem?_cons_zero, List.getElem?_cons_succ, Out.bind, opM, Out.toS, Bool.false_eq_true, seqM, setM, dropM, ifS, notT, blM, skipM, List.set_cons_zero, List.set_cons_succ, Bool.not_true, Bool.not_false, e1]), e2, e3, e4⟩
theorem u10_ok (a : At c n lot R g k) (f : Fine lot R) (hl : low ∈ lots) (hh : high ∈ lots) (h1 : ∀ x ∈ low, x ∈ high) (h2 : ∀ x ∈ high, x ∈ lot) (hm : more ∈ lots) (h3 : ∀ x ∈ more, x ∈ lot) : ∃ g', u10 (SR c lot R n v (.val (Kt high)) (.val (Kt mid)) (.val (Kt low)) (.val (Dt lot low high R)) (.val (.int (deg lot low high R : Nat))) (.val (.int ((proj lot low R).length : Nat))) (.val (.int ((proj lot high R).length : Nat))) (.val (Kt more)) x13 x14) g = .nx (SR c lot R n v (.val (Kt high)) (.val (Kt mid)) (.val (Kt low)) (.val (Dt lot low high R)) (.val (.int (deg lot low high R : Nat))) (.val (.int ((proj lot low R).length : Nat))) (.val (.int ((proj lot high R).length : Nat))) (.val (Kt more)) x13 x14) g' ∧ At c n lot R g' k := by
  obtain ⟨g1, e1, a1⟩ := deg_at (low := join low more) (high := join high more) a f.good (join_lots hl hm) (join_lots hh hm) (fun x hx => mem_join.mpr ((mem_join.mp hx).imp (h1 x) id)) (fun x hx => (mem_join.mp hx).elim (h2 x) (h3 x))
  have b1 := both_ok (h := g) hl hm
  have b2 := both_ok (h := g) hh hm
  have k1 : gtV (.int (deg lot (join low more) (join high more) R : Nat)) (.int (deg lot low high R : Nat)) g1 = .ok (.bl false) g1 := gt_no (Int.ofNat_le.mpr (deg_more (more := more) (fun x => mem_join) (fun x => mem_join) h1))
  exact ⟨g1, no_nx (by simp only [fnM, startS, view, Slot.view, List.map_cons, List.map_nil, List.length_cons, List.length_nil, List.replicate, List.cons_append, List.nil_append, Nat.reduceAdd, Nat.reduceSub, reduceIte, retV, andV, notV, callM, callF, consA, nilA, varM, cM, List.getElem?_cons_zero, List.getElem?_cons_succ, Out.bind, opM, Out.toS, Bool.false_eq_true, seqM, setM, dropM, ifS, notT, blM, skipM, List.set_cons_zero, List.set_cons_succ, Bool.not_true, Bool.not_false, b1, b2, e1, k1]), a1⟩
theorem u11_ok (a : At c n lot R g (k + 40)) (f : Fine lot R) : ∃ R2 m g', u11 (SR c lot R n v (.val (Kt high)) (.val (Kt mid)) (.val (Kt low)) (.val (Dt lot low high R)) (.val (.int (deg lot low high R : Nat))) (.val (.int ((proj lot low R).length : Nat))) (.val (.int ((proj lot high R).length : Nat))) (.val (Kt more)) x13 x14) g = .nx (SR c lot R n v (.val (Kt high)) (.val (Kt mid)) (.val (Kt low)) (.val (Dt lot low high R)) (.val (.int (deg lot low high R : Nat))) (.val (.int ((proj lot low R).length : Nat))) (.val (.int ((proj lot high R).length : Nat))) (.val (Kt more)) (.val (.ref m)) x14) g' ∧ (∀ r ∈ R2, r ∈ R) ∧ Good lot R2 ∧ Tab g' m lot R2 ∧ At c n lot R g' k := by
  have fw := f.few
  obtain ⟨R2, g1, e1, s1, a1⟩ := kept_go (i := 15) (k := k) (sv := (view (SR c lot R n v (.val (Kt high)) (.val (Kt mid)) (.val (Kt low)) (.val (Dt lot low high R)) (.val (.int (deg lot low high R : Nat))) (.val (.int ((proj lot low R).length : Nat))) (.val (.int ((proj lot high R).length : Nat))) (.val (Kt more)) x13 x14)).set 15 none) (e0 := rfl) (show 15 < 16 by decide) (by decide) R g (a.less (by omega))
  have sub : ∀ r ∈ R2, r ∈ R := fun r hr => s1.subset hr
  have l2 : R2.length ≤ R.length := s1.length_le
  have g2 : Good lot R2 := ⟨f.good.inl, fun r hr => f.good.len r (sub r hr), by omega, fun r hr => f.good.small r (sub r hr)⟩
  have u2 : uniq R2 = R2 := uniq_id (f.nd.sublist s1) (srtK_sub s1 f.srt)
  have f1 : fits (R.map tupV).length = true := by rw [List.length_map]; exact f.good.fits
  have e2 : lcM (seqA (varM 2)) (nameG 15) [15] (blM (opM gtV (callF m_tossed (consA (varM 0) (consA (cM (.int 3)) (nilA)))) (cM (.int 0)))) (varM 15) (view (SR c lot R n v (.val (Kt high)) (.val (Kt mid)) (.val (Kt low)) (.val (Dt lot low high R)) (.val (.int (deg lot low high R : Nat))) (.val (.int ((proj lot low R).length : Nat))) (.val (.int ((proj lot high R).length : Nat))) (.val (Kt more)) x13 x14)) g = .ok (Rl R2) g1 := by
    have q : seqA (varM 2) (view (SR c lot R n v (.val (Kt high)) (.val (Kt mid)) (.val (Kt low)) (.val (Dt lot low high R)) (.val (.int (deg lot low high R : Nat))) (.val (.int ((proj lot low R).length : Nat))) (.val (.int ((proj lot high R).length : Nat))) (.val (Kt more)) x13 x14)) g = .ok (R.map tupV) g := seq_Rs rfl
    have e1' : lcGo (wipeS (view (SR c lot R n v (.val (Kt high)) (.val (Kt mid)) (.val (Kt low)) (.val (Dt lot low high R)) (.val (.int (deg lot low high R : Nat))) (.val (.int ((proj lot low R).length : Nat))) (.val (.int ((proj lot high R).length : Nat))) (.val (Kt more)) x13 x14)) [15]) (nameG 15) (blM (opM gtV (callF m_tossed (consA (varM 0) (consA (cM (.int 3)) (nilA)))) (cM (.int 0)))) (varM 15) (R.map tupV) g = .ok (R2.map tupV) g1 := e1
    simp only [lcM, q, Out.bind, f1, if_true, e1']
  have t1 : tupleAF [Rl R2] g1 = .ok (Rs R2) g1 := rfl
  have e3 := make_ok (ma := consA (varM 1) (consA (callM tupleAF (consA (lcM (seqA (varM 2)) (nameG 15) [15] (blM (opM gtV (callF m_tossed (consA (varM 0) (consA (cM (.int 3)) (nilA)))) (cM (.int 0)))) (varM 15)) (nilA))) (nilA))) (sv := view (SR c lot R n v (.val (Kt high)) (.val (Kt mid)) (.val (Kt low)) (.val (Dt lot low high R)) (.val (.int (deg lot low high R : Nat))) (.val (.int ((proj lot low R).length : Nat))) (.val (.int ((proj lot high R).length : Nat))) (.val (Kt more)) x13 x14)) (h := g) (h1 := g1) (L := Kt lot) (x := Rs R2) (R := R2) (s := told lot)
    (by rw [consA]; simp only [varM, view, List.map_cons, List.map_nil, Slot.view, List.getElem?_cons_succ, List.getElem?_cons_zero, Out.bind]; rw [consA, callM, consA]; simp only [view, List.map_cons, List.map_nil, Slot.view] at e2; rw [e2]; simp only [Out.bind, nilA, t1])
    (fun h => sortedA_tup g2.len) g2.fits (fun h => told_ok h lot f.good.inl) (fun h => require_ok h lot f.good.inl) (fun h => rows_ok h g2.few fun r hr => ⟨g2.len r hr, g2.small r hr, by rw [g2.len r hr]; exact lots_fits lot f.good.inl⟩)
  rw [u2] at e3
  exact ⟨R2, g1.length + 1, _, set_nx _ e3, sub, g2, Tab.new, a1.app _⟩
theorem u12_ok {m : Nat} {R2 : List (List Int)} (a : At c n lot R g k) (f : Fine lot R) (hl : low ∈ lots) (hh : high ∈ lots) (h1 : ∀ x ∈ low, x ∈ high) (h2 : ∀ x ∈ high, x ∈ lot) (sub : ∀ r ∈ R2, r ∈ R) (g2 : Good lot R2) (t : Tab g m lot R2) : ∃ g', u12 (SR c lot R n v (.val (Kt high)) (.val (Kt mid)) (.val (Kt low)) (.val (Dt lot low high R)) (.val (.int (deg lot low high R : Nat))) (.val (.int ((proj lot low R).length : Nat))) (.val (.int ((proj lot high R).length : Nat))) (.val (Kt more)) (.val (.ref m)) x14) g = .nx (SR c lot R n v (.val (Kt high)) (.val (Kt mid)) (.val (Kt low)) (.val (Dt lot low high R)) (.val (.int (deg lot low high R : Nat))) (.val (.int ((proj lot low R).length : Nat))) (.val (.int ((proj lot high R).length : Nat))) (.val (Kt more)) (.val (.ref m)) x14) g' ∧ At c n lot R g' k := by
  obtain ⟨t', e1⟩ := degree_in_ok t g2 hl hh h1 h2
  have k1 : gtV (.int (deg lot low high R2 : Nat)) (.int (deg lot low high R : Nat)) (g ++ t') = .ok (.bl false) (g ++ t') := gt_no (Int.ofNat_le.mpr (deg_some sub))
  exact ⟨g ++ t', no_nx (by simp only [fnM, startS, view, Slot.view, List.map_cons, List.map_nil, List.length_cons, List.length_nil, List.replicate, List.cons_append, List.nil_append, Nat.reduceAdd, Nat.reduceSub, reduceIte, retV, andV, notV, callM, callF, consA, nilA, varM, cM, List.getElem?_cons_zero, List.getElem?_cons_succ, Out.bind, opM, Out.toS, Bool.false_eq_true, seqM, setM, dropM, ifS, notT, blM, skipM, List.set_cons_zero, List.set_cons_succ, Bool.not_true, Bool.not_false, e1, k1]), a.app _⟩
theorem u13_ok {m : Nat} (a : At c n lot R g k) (f : Fine lot R) (hl : low ∈ lots) (hh : high ∈ lots) (h1 : ∀ x ∈ low, x ∈ high) (h2 : ∀ x ∈ high, x ∈ lot) : ∃ g', u13 (SR c lot R n v (.val (Kt high)) (.val (Kt mid)) (.val (Kt low)) (.val (Dt lot low high R)) (.val (.int (deg lot low high R : Nat))) (.val (.int ((proj lot low R).length : Nat))) (.val (.int ((proj lot high R).length : Nat))) (.val (Kt more)) (.val (.ref m)) x14) g = .nx (SR c lot R n v (.val (Kt high)) (.val (Kt mid)) (.val (Kt low)) (.val (Dt lot low high R)) (.val (.int (deg lot low high R : Nat))) (.val (.int ((proj lot low R).length : Nat))) (.val (.int ((proj lot high R).length : Nat))) (.val (Kt more)) (.val (.ref m)) (.val (.lst ((sects lot low R).map VV.int)))) g' ∧ At c n lot R g' k := by
  have hlo : ∀ x ∈ low, x ∈ lot := fun x hx => h2 x (h1 x hx)
  have e1 := project_ok a.tab f.good hl hlo
  have t : Tab (g ++ tabO g.length (Kt low) (proj lot low R) (told low)) (g.length + 1) low (proj lot low R) := Tab.new
  have q := tab_rows t (a := callF m_project (consA (varM 3) (consA (varM 7) nilA))) (sv := view (SR c lot R n v (.val (Kt high)) (.val (Kt mid)) (.val (Kt low)) (.val (Dt lot low high R)) (.val (.int (deg lot low high R : Nat))) (.val (.int ((proj lot low R).length : Nat))) (.val (.int ((proj lot high R).length : Nat))) (.val (Kt more)) (.val (.ref m)) x14)) (h0 := g) (by simp only [fnM, startS, view, Slot.view, List.map_cons, List.map_nil, List.length_cons, List.length_nil, List.replicate, List.cons_append, List.nil_append, Nat.reduceAdd, Nat.reduceSub, reduceIte, retV, andV, notV, callM, callF, consA, nilA, varM, cM, List.getElem?_cons_zero, List.getElem?_cons_succ, Out.bind, opM, Out.toS, Bool.false_eq_true, seqM, setM, dropM, ifS, notT, blM, skipM, List.set_cons_zero, List.set_cons_succ, Bool.not_true, Bool.not_false, e1])
  have q2 := seq_Rs q
  have fw := f.few
  have pf : (proj lot low R).length ≤ R.length := proj_few
  have f1 : fits ((proj lot low R).map tupV).length = true := by rw [List.length_map]; exact Nat.ble_eq_true_of_le (by omega)
  obtain ⟨g1, e2, a1⟩ := sect_go (i := 15) (sv := (view (SR c lot R n v (.val (Kt high)) (.val (Kt mid)) (.val (Kt low)) (.val (Dt lot low high R)) (.val (.int (deg lot low high R : Nat))) (.val (.int ((proj lot low R).length : Nat))) (.val (.int ((proj lot high R).length : Nat))) (.val (Kt more)) (.val (.ref m)) x14)).set 15 none) rfl rfl (show 15 < 16 by decide) (by decide) (by decide) f.good hl hlo (proj lot low R) _ (fun r hr => by
    obtain ⟨p, hp, e⟩ := mem_proj.mp hr
    rw [← e]
    refine ⟨part_len, fun x hx => ?_⟩
    obtain ⟨y, hy, e⟩ := List.mem_map.mp hx
    have hlt : lot.idxOf y < p.length := by rw [f.good.len p hp]; exact List.idxOf_lt_length_of_mem (hlo y hy)
    rw [← e]
    refine f.good.small p hp _ ?_
    rw [List.getD_eq_getElem?_getD, List.getElem?_eq_getElem hlt]
    exact List.getElem_mem hlt) (a.app (tabO g.length (Kt low) (proj lot low R) (told low)))
  refine ⟨g1, set_nx (.lst ((sects lot low R).map VV.int)) ?_, a1⟩
  have e2' : lcGo (wipeS (view (SR c lot R n v (.val (Kt high)) (.val (Kt mid)) (.val (Kt low)) (.val (Dt lot low high R)) (.val (.int (deg lot low high R : Nat))) (.val (.int ((proj lot low R).length : Nat))) (.val (.int ((proj lot high R).length : Nat))) (.val (Kt more)) (.val (.ref m)) x14)) [15]) (nameG 15) yesT (callM (lenIF [(0, m_Table_len)]) (consA (callF m_section (consA (varM 3) (consA (varM 7) (consA (varM 15) nilA)))) nilA)) ((proj lot low R).map tupV) (g ++ tabO g.length (Kt low) (proj lot low R) (told low)) = .ok ((sects lot low R).map VV.int) g1 := e2
  simp only [lcM, q2, Out.bind, f1, if_true, e2']
theorem u14_ok {m : Nat} (a : At c n lot R g k) (f : Fine lot R) (hl : low ∈ lots) (hh : high ∈ lots) (h1 : ∀ x ∈ low, x ∈ high) (h2 : ∀ x ∈ high, x ∈ lot) : ∃ g', u14 (SR c lot R n v (.val (Kt high)) (.val (Kt mid)) (.val (Kt low)) (.val (Dt lot low high R)) (.val (.int (deg lot low high R : Nat))) (.val (.int ((proj lot low R).length : Nat))) (.val (.int ((proj lot high R).length : Nat))) (.val (Kt more)) (.val (.ref m)) (.val (.lst ((sects lot low R).map VV.int)))) g = .nx (SR c lot R n v (.val (Kt high)) (.val (Kt mid)) (.val (Kt low)) (.val (Dt lot low high R)) (.val (.int (deg lot low high R : Nat))) (.val (.int ((proj lot low R).length : Nat))) (.val (.int ((proj lot high R).length : Nat))) (.val (Kt more)) (.val (.ref m)) (.val (.lst ((sects lot low R).map VV.int)))) g' ∧ At c n lot R g' k := by
  have hlo : ∀ x ∈ low, x ∈ lot := fun x hx => h2 x (h1 x hx)
  obtain ⟨g1, e1, a1⟩ := deg_at (low := low) (high := lot) a f.good hl f.good.inl hlo fun x hx => hx
  have fw := f.few
  have pf : (proj lot low R).length ≤ R.length := proj_few
  have f1 : fits 1 = true := rfl
  have f2 : fits (1 + ((sects lot low R).map VV.int).length) = true := by rw [List.length_map, sects, List.length_map]; exact Nat.ble_eq_true_of_le (by omega)
  have f2' : fits (0 + 1 + ((sects lot low R).map VV.int).length) = true := f2
  have k1 : addV (.lst [.int 0]) (.lst ((sects lot low R).map VV.int)) g = .ok (.lst (.int 0 :: (sects lot low R).map VV.int)) g := by
    simp only [addV, List.length_cons, List.length_nil, Nat.reduceAdd, f2, if_true, List.cons_append, List.nil_append]
  have k2 : max1F [.lst (.int 0 :: (sects lot low R).map VV.int)] g = .ok (.int (deg lot low lot R : Nat)) g := by
    have b1 : allIt (.int 0 :: (sects lot low R).map VV.int) = some (0 :: sects lot low R) := allIt_int (0 :: _)
    have b2 := maxL_top ((proj lot low R).map fun r => (sect lot low (rest lot low) R r).length) 0
    rw [sections_top f.nd f.srt f.good.len (lots_facts lot f.good.inl).1 (fun x => mem_rest), Nat.zero_max, List.map_map] at b2
    simp only [max1F, Mv.listOf, b1]
    rw [show maxL 0 (sects lot low R) = _ from b2]
  have k3 : Mv.eqV true (.int (deg lot low lot R : Nat)) (.int (deg lot low lot R : Nat)) g1 = .ok (.bl false) g1 := ne_no
  exact ⟨g1, no_nx (by simp only [fnM, startS, view, Slot.view, List.map_cons, List.map_nil, List.length_cons, List.length_nil, List.replicate, List.cons_append, List.nil_append, Nat.reduceAdd, Nat.reduceSub, reduceIte, retV, andV, notV, callM, callF, consA, nilA, varM, cM, List.getElem?_cons_zero, List.getElem?_cons_succ, Out.bind, opM, Out.toS, Bool.false_eq_true, seqM, setM, dropM, ifS, notT, blM, skipM, List.set_cons_zero, List.set_cons_succ, Bool.not_true, Bool.not_false, lstM, f1, k1, k2, e1, k3]), a1⟩
end
end K05
set_option Elab.async false
set_option linter.all false
set_option maxRecDepth 100000
namespace K05
open PySem PySem.Spec PyProof.Rows L2 Mv Tb
theorem turn_ok {c n : Nat} {lot : List Int} {R : List (List Int)} {g : VH} {k : Nat} {v x5 x6 x7 x8 x9 x10 x11 x12 x13 x14 : Slot} (a : At c n lot R g (k + 80)) (f : Fine lot R) :
    ∃ y5 y6 y7 y8 y9 y10 y11 y12 y13 y14 g', uAll (SR c lot R n v x5 x6 x7 x8 x9 x10 x11 x12 x13 x14) g = .nx (SR c lot R n v y5 y6 y7 y8 y9 y10 y11 y12 y13 y14) g' ∧ At c n lot R g' k := by
  obtain ⟨high, g0, s0, hh, h2, a0⟩ := u0_ok (k := k + 70) (v := v) (x5 := x5) (x6 := x6) (x7 := x7) (x8 := x8) (x9 := x9) (x10 := x10) (x11 := x11) (x12 := x12) (x13 := x13) (x14 := x14) a f
  obtain ⟨mid, g1, s1, hm, h4, a1⟩ := u1_ok (k := k + 60) (v := v) (x6 := x6) (x7 := x7) (x8 := x8) (x9 := x9) (x10 := x10) (x11 := x11) (x12 := x12) (x13 := x13) (x14 := x14) a0 hh
  obtain ⟨low, g2, s2, hl, h3, a2⟩ := u2_ok (k := k + 50) (high := high) (v := v) (x7 := x7) (x8 := x8) (x9 := x9) (x10 := x10) (x11 := x11) (x12 := x12) (x13 := x13) (x14 := x14) a1 hm
  have h1 : ∀ x ∈ low, x ∈ high := fun x hx => h4 x (h3 x hx)
  obtain ⟨g3, s3, a3⟩ := u3_ok (mid := mid) (v := v) (x8 := x8) (x9 := x9) (x10 := x10) (x11 := x11) (x12 := x12) (x13 := x13) (x14 := x14) a2 f hl hh h1 h2
  obtain ⟨g4, s4, a4⟩ := u4_ok (mid := mid) (v := v) (x9 := x9) (x10 := x10) (x11 := x11) (x12 := x12) (x13 := x13) (x14 := x14) a3 f hl hh h1 h2
  obtain ⟨g5, s5, a5⟩ := u5_ok (mid := mid) (v := v) (x9 := x9) (x10 := x10) (x11 := x11) (x12 := x12) (x13 := x13) (x14 := x14) a4 f hl hh h1 h2
  obtain ⟨g6, s6, a6⟩ := u6_ok (v := v) (x10 := x10) (x11 := x11) (x12 := x12) (x13 := x13) (x14 := x14) a5 f hl hh h1 h2 hm h3 h4
  obtain ⟨g7, s7, a7⟩ := u7_ok (mid := mid) (v := v) (x10 := x10) (x11 := x11) (x12 := x12) (x13 := x13) (x14 := x14) a6 f hl hh h1 h2
  obtain ⟨g8, s8, a8⟩ := u8_ok (mid := mid) (v := v) (x12 := x12) (x13 := x13) (x14 := x14) a7 f hl hh h1 h2
  obtain ⟨more, g9, s9, hmo, h5, a9⟩ := u9_ok (k := k + 40) (low := low) (mid := mid) (high := high) (v := v) (x12 := x12) (x13 := x13) (x14 := x14) a8 f
  obtain ⟨g10, s10, a10⟩ := u10_ok (mid := mid) (v := v) (x13 := x13) (x14 := x14) a9 f hl hh h1 h2 hmo h5
  obtain ⟨R2, m, g11, s11, sub, gd, tb, a11⟩ := u11_ok (k := k) (low := low) (mid := mid) (high := high) (more := more) (v := v) (x13 := x13) (x14 := x14) a10 f
  obtain ⟨g12, s12, a12⟩ := u12_ok (mid := mid) (more := more) (v := v) (x14 := x14) a11 f hl hh h1 h2 sub gd tb
  obtain ⟨g13, s13, a13⟩ := u13_ok (mid := mid) (more := more) (m := m) (v := v) (x14 := x14) a12 f hl hh h1 h2
  obtain ⟨g14, s14, a14⟩ := u14_ok (mid := mid) (more := more) (m := m) (v := v) a13 f hl hh h1 h2
  exact ⟨_, _, _, _, _, _, _, _, _, _, g14, (seqM_nx s0).trans ((seqM_nx s1).trans ((seqM_nx s2).trans ((seqM_nx s3).trans ((seqM_nx s4).trans ((seqM_nx s5).trans ((seqM_nx s6).trans ((seqM_nx s7).trans ((seqM_nx s8).trans ((seqM_nx s9).trans ((seqM_nx s10).trans ((seqM_nx s11).trans ((seqM_nx s12).trans ((seqM_nx s13).trans s14))))))))))))), a14⟩
abbrev r1 : MS := setM 1 (callF m_lot_drawn (consA (varM 0) (consA (tupM (consA (cM (.int 0)) (consA (cM (.int 1)) (consA (cM (.int 2)) (consA (cM (.int 3)) (consA (cM (.int 4)) (consA (cM (.int 5)) (nilA)))))))) (consA (cM (.int 1)) (nilA)))))
abbrev r2 : MS := setM 2 (callM tupleAF (consA (callM sortedSetTF (consA (callF m_rows_drawn (consA (varM 0) (consA (varM 1) (consA (callF m_one_of (consA (varM 0) (consA (lstM (consA (cM (.int 2)) (consA (cM (.int 8)) (consA (cM (.int 20)) (consA (cM (.int 40)) (nilA)))))) (nilA)))) (consA (callF m_one_of (consA (varM 0) (consA (lstM (consA (cM (.int 2)) (consA (cM (.int 3)) (consA (cM (.int 4)) (nilA))))) (nilA)))) (nilA)))))) (nilA))) (nilA)))
abbrev r3 : MS := setM 3 (makeM 0 m_Table_init (consA (varM 1) (consA (varM 2) (nilA))))
theorem right_ok {h : VH} {c k : Nat} (hc : Cup h c (k + 1000)) : ∃ h', m_right [.ref c] h = .ok (.bl true) h' ∧ Cup h' c k := by
  have f6 : fits 6 = true := rfl
  have f4 : fits 4 = true := rfl
  have f3 : fits 3 = true := rfl
  obtain ⟨lot, g1, e1, hl, _, c1, _⟩ := lot_drawn_ok (c := c) (k := k + 990) (L := tupV [0, 1, 2, 3, 4, 5]) (l := [0, 1, 2, 3, 4, 5]) (least := 1) (hc.less (by omega)) (.inl rfl) (by decide +kernel) (by decide) (by decide)
  obtain ⟨most, us, e2, m1, c2⟩ := one_of_ok (items := [.int 2, .int 8, .int 20, .int 40]) (k := k + 989) c1 (by decide) (by decide)
  obtain ⟨g2, eg2⟩ : ∃ g2, g2 = g1.set c (.lst us) := ⟨_, rfl⟩
  rw [← eg2] at e2 c2
  obtain ⟨wide, vs, e3, m2, c3⟩ := one_of_ok (items := [.int 2, .int 3, .int 4]) (k := k + 988) c2 (by decide) (by decide)
  obtain ⟨g3, eg3⟩ : ∃ g3, g3 = g2.set c (.lst vs) := ⟨_, rfl⟩
  rw [← eg3] at e3 c3
  obtain ⟨mo, rfl, mo0, mo1⟩ : ∃ i : Int, most = .int i ∧ 0 ≤ i ∧ i ≤ 40 := by
    simp only [List.mem_cons, List.not_mem_nil, or_false] at m1
    rcases m1 with rfl | rfl | rfl | rfl <;> exact ⟨_, rfl, by decide, by decide⟩
  obtain ⟨wi, rfl, wi0, wi1⟩ : ∃ i : Int, wide = .int i ∧ 0 < i ∧ i < 1000 := by
    simp only [List.mem_cons, List.not_mem_nil, or_false] at m2
    rcases m2 with rfl | rfl | rfl <;> exact ⟨_, rfl, by decide, by decide⟩
  obtain ⟨rows, base, g4, e4, b1, b2, b3, b4, c4, _⟩ := rows_drawn_ok (k := k + 480) hl (c3.less (by omega)) mo0 mo1 wi0 wi1
  have b5 : (dedK rows).length ≤ 40 := Nat.le_trans ((dedK_nodup rows).length_le_of_subset (l₂ := base) fun z hz => b1 z ((mem_dedK z rows).mp hz)) b2
  have b6 : ∀ r ∈ uniq rows, r.length = lot.length ∧ Small r := fun r hr => b3 r (b1 r (mem_uniq.mp hr))
  have b7 : (uniq rows).length = (dedK rows).length := (sortK_perm _).length_eq
  have e5 : sortedSetTF [Rl rows] g4 = .ok (Rl (uniq rows)) g4 := sortedSet_ok (d := lot.length) (fun r hr => (b3 r (b1 r hr)).1) (by omega)
  have e6 : tupleAF [Rl (uniq rows)] g4 = .ok (Rs (uniq rows)) g4 := rfl
  have gd : Good lot (uniq rows) := ⟨hl, fun r hr => (b6 r hr).1, by omega, fun r hr => (b6 r hr).2⟩
  have fn : Fine lot (uniq rows) := ⟨gd, by omega, uniq_nodup _, uniq_sorted _⟩
  have w1 : r1 [.val (.ref c), .no, .no, .no, .no, .no, .no, .no, .no, .no, .no, .no, .no, .no, .no, .no] h = .nx [.val (.ref c), .val (Kt lot), .no, .no, .no, .no, .no, .no, .no, .no, .no, .no, .no, .no, .no, .no] g1 := by
    have e1' : m_lot_drawn [.ref c, .tup [.int 0, .int 1, .int 2, .int 3, .int 4, .int 5], .int 1] h = .ok (Kt lot) g1 := e1
    exact set_nx _ (by simp only [fnM, startS, view, Slot.view, List.map_cons, List.map_nil, List.length_cons, List.length_nil, List.replicate, List.cons_append, List.nil_append, Nat.reduceAdd, Nat.reduceSub, reduceIte, retV, andV, notV, callM, callF, consA, nilA, varM, cM, List.getElem?_cons_zero, List.getElem?_cons_succ, Out.bind, opM, Out.toS, Bool.false_eq_true, seqM, setM, dropM, ifS, notT, blM, skipM, List.set_cons_zero, List.set_cons_succ, Bool.not_true, Bool.not_false, tupM, f6, e1'])
  have w2 : r2 [.val (.ref c), .val (Kt lot), .no, .no, .no, .no, .no, .no, .no, .no, .no, .no, .no, .no, .no, .no] g1 = .nx [.val (.ref c), .val (Kt lot), .val (Rs (uniq rows)), .no, .no, .no, .no, .no, .no, .no, .no, .no, .no, .no, .no, .no] g4 :=
    set_nx _ (by simp only [fnM, startS, view, Slot.view, List.map_cons, List.map_nil, List.length_cons, List.length_nil, List.replicate, List.cons_append, List.nil_append, Nat.reduceAdd, Nat.reduceSub, reduceIte, retV, andV, notV, callM, callF, consA, nilA, varM, cM, List.getElem?_cons_zero, List.getElem?_cons_succ, Out.bind, opM, Out.toS, Bool.false_eq_true, seqM, setM, dropM, ifS, notT, blM, skipM, List.set_cons_zero, List.set_cons_succ, Bool.not_true, Bool.not_false, lstM, f4, f3, e2, e3, e4, e5, e6])
  have mk := make_ok (ma := consA (varM 1) (consA (varM 2) nilA)) (sv := view [.val (.ref c), .val (Kt lot), .val (Rs (uniq rows)), .no, .no, .no, .no, .no, .no, .no, .no, .no, .no, .no, .no, .no]) (h := g4) (h1 := g4) (L := Kt lot) (x := Rs (uniq rows)) (R := uniq rows) (s := told lot) rfl
    (fun h => sortedA_tup gd.len) gd.fits (fun h => told_ok h lot hl) (fun h => require_ok h lot hl) (fun h => rows_ok h gd.few fun r hr => ⟨gd.len r hr, gd.small r hr, by rw [gd.len r hr]; exact lots_fits lot hl⟩)
  rw [uniq_uniq] at mk
  obtain ⟨g5, eg5⟩ : ∃ g5, g5 = g4 ++ tabO g4.length (Kt lot) (uniq rows) (told lot) := ⟨_, rfl⟩
  rw [← eg5] at mk
  have a5 : At c (g4.length + 1) lot (uniq rows) g5 (k + 480) := by rw [eg5]; exact ⟨c4.app _, Tab.new⟩
  have w3 : r3 [.val (.ref c), .val (Kt lot), .val (Rs (uniq rows)), .no, .no, .no, .no, .no, .no, .no, .no, .no, .no, .no, .no, .no] g4 = .nx (SR c lot (uniq rows) (g4.length + 1) .no .no .no .no .no .no .no .no .no .no .no) g5 := set_nx _ mk
  obtain ⟨sl2, h2, kf, _, a6⟩ := for_inv (mg := nameG 4) (body := uAll) (N := 4)
    (fun j sl g => (∃ y4 y5 y6 y7 y8 y9 y10 y11 y12 y13 y14, sl = SR c lot (uniq rows) (g4.length + 1) y4 y5 y6 y7 y8 y9 y10 y11 y12 y13 y14) ∧ At c (g4.length + 1) lot (uniq rows) g (k + 80 * (4 - j)))
    (fun j sl g v hj ⟨⟨y4, y5, y6, y7, y8, y9, y10, y11, y12, y13, y14, es⟩, q⟩ => by
      subst es
      obtain ⟨z5, z6, z7, z8, z9, z10, z11, z12, z13, z14, g', t1, t2⟩ := turn_ok (v := .val v) (x5 := y5) (x6 := y6) (x7 := y7) (x8 := y8) (x9 := y9) (x10 := y10) (x11 := y11) (x12 := y12) (x13 := y13) (x14 := y14) (k := k + 80 * (4 - (j + 1))) (q.less (by omega)) fn
      exact ⟨[(4, v)], _, g', rfl, t1, ⟨_, _, _, _, _, _, _, _, _, _, _, rfl⟩, t2⟩)
    (iota 0 4) 0 (SR c lot (uniq rows) (g4.length + 1) .no .no .no .no .no .no .no .no .no .no .no) g5 (by rw [iota_len, Nat.zero_add]) ⟨⟨_, _, _, _, _, _, _, _, _, _, _, rfl⟩, a5.less (by omega)⟩
  refine ⟨h2, ?_, a6.cup.less (by omega)⟩
  have w4 : (Mv.forM (rangeI (consA (cM (.int 4)) (nilA))) (nameG 4) uAll) (SR c lot (uniq rows) (g4.length + 1) .no .no .no .no .no .no .no .no .no .no .no) g5 = .nx sl2 h2 := by
    have rg : rangeI (consA (cM (.int 4)) (nilA)) (view (SR c lot (uniq rows) (g4.length + 1) .no .no .no .no .no .no .no .no .no .no .no)) g5 = .ok (iota 0 4) g5 := range_ok (j := 4) rfl (by decide) (by decide)
    simp only [Mv.forM, rg, Out.toS, kf]
  have w5 : (retV (cM (.bl true))) sl2 h2 = .rt (.bl true) h2 := rfl
  refine fn_rt (s0 := [.val (.ref c), .no, .no, .no, .no, .no, .no, .no, .no, .no, .no, .no, .no, .no, .no, .no]) rfl rfl ?_
  show seqM r1 (seqM r2 (seqM r3 (seqM _ _))) _ _ = _
  rw [seqM_nx w1, seqM_nx w2, seqM_nx w3, seqM_nx w4, w5]
end K05
set_option Elab.async false
set_option linter.all false
set_option maxRecDepth 100000
namespace K05
open PySem PySem.Spec PyProof.Rows L2 Mv Tb
theorem for_mem {mg : MG} {body : MS} (I : Sl → VH → Prop) : ∀ (items : List VV) (sl : Sl) (h : VH), (∀ v ∈ items, ∀ (sl : Sl) (h : VH), I sl h → ∃ asg sl1 h1, mg v = some asg ∧ body (setsS asg sl) h = .nx sl1 h1 ∧ I sl1 h1) → I sl h → ∃ sl1 h1, forGo mg body items sl h = .nx sl1 h1 ∧ I sl1 h1
  | [], sl, h, _, i => ⟨sl, h, rfl, i⟩
  | v :: r, sl, h, hb, i => by
    obtain ⟨asg, sl1, h1, m1, m2, i1⟩ := hb v List.mem_cons_self sl h i
    obtain ⟨sl2, h2, k, i2⟩ := for_mem I r sl1 h1 (fun u hu => hb u (List.mem_cons_of_mem _ hu)) i1
    exact ⟨sl2, h2, by simp only [forGo, m1, m2, k], i2⟩
theorem mem_iota {v : VV} : ∀ {n : Nat} {lo : Int}, v ∈ iota lo n → ∃ i : Int, v = .int i ∧ lo ≤ i ∧ i < lo + n
  | 0, lo, h => by cases h
  | n + 1, lo, h => by
    rcases List.mem_cons.mp h with e | e
    · exact ⟨lo, e, by omega, by omega⟩
    · obtain ⟨i, e1, e2, e3⟩ := mem_iota e
      exact ⟨i, e1, by omega, by omega⟩
abbrev lBody : MS := seqM (setM 2 (callF m_cup (consA (varM 0) (consA (varM 1) (nilA))))) (forM (rangeI (consA (cM (.int 3)) (nilA))) (nameG 3) (ifS (notT (blM (callF m_right (consA (varM 2) (nilA))))) (retV (cM (.bl false))) (skipM)))
abbrev l1 : MS := setM 2 (callF m_cup (consA (varM 0) (consA (varM 1) (nilA))))
abbrev lTurn : MS := ifS (notT (blM (callF m_right (consA (varM 2) (nilA))))) (retV (cM (.bl false))) (skipM)
abbrev l2 : MS := Mv.forM (rangeI (consA (cM (.int 3)) (nilA))) (nameG 3) lTurn
abbrev lRng : MI := rangeI (consA (callM maxF (consA (cM (.int 1)) (consA (callM minF (consA (cM (.int 3)) (consA (callM lenAF (consA (varM 0) (nilA))) (nilA)))) (nilA)))) (nilA))
abbrev q1 : MS := setM 4 (makeM 0 m_Table_init (consA (ktupM (consA (cM (.int 0)) (consA (cM (.int 2)) (nilA)))) (consA (tupM (consA (tupM (consA (cM (.int 1)) (consA (cM (.int 7)) (nilA)))) (consA (tupM (consA (cM (.int 1)) (consA (cM (.int 5)) (nilA)))) (consA (tupM (consA (cM (.int 3)) (consA (cM (.int 5)) (nilA)))) (nilA))))) (nilA))))
abbrev q2 : MS := setM 5 (lstM (consA (callF m_degree (consA (varM 4) (consA (ktupM (consA (cM (.int 0)) (nilA))) (consA (ktupM (consA (cM (.int 0)) (consA (cM (.int 2)) (nilA)))) (nilA))))) (consA (callF m_degree (consA (varM 4) (consA (ktupM (nilA)) (consA (ktupM (consA (cM (.int 0)) (nilA))) (nilA))))) (consA (callF m_degree (consA (varM 4) (consA (ktupM (consA (cM (.int 2)) (nilA))) (consA (ktupM (consA (cM (.int 2)) (nilA))) (nilA))))) (consA (callF m_degree (consA (makeM 0 m_Table_init (consA (ktupM (consA (cM (.int 0)) (nilA))) (consA (tupM (nilA)) (nilA)))) (consA (ktupM (nilA)) (consA (ktupM (nilA)) (nilA))))) (nilA))))))
abbrev q3 : MS := retV (andV (opM (eqV false) (varM 5) (lstM (consA (cM (.int 2)) (consA (cM (.int 2)) (consA (cM (.int 1)) (consA (cM (.int 0)) (nilA))))))) (andV (opM (eqVP false) (callF m_above (consA (varM 4) (consA (ktupM (consA (cM (.int 0)) (nilA))) (consA (ktupM (consA (cM (.int 0)) (consA (cM (.int 2)) (nilA)))) (nilA))))) (dlitTM [(tupM (consA (cM (.int 1)) (nilA)), cM (.int 2)), (tupM (consA (cM (.int 3)) (nilA)), cM (.int 1))])) (opM (eqVP false) (callF m_above (consA (varM 4) (consA (ktupM (nilA)) (consA (ktupM (nilA)) (nilA))))) (dlitTM [(tupM (nilA), cM (.int 1))]))))
abbrev SW (ns : List Int) (a b d e f : Slot) : Sl := [.val (.rol (ns.map VV.int)), a, b, d, e, f]
theorem cup_turns {ns : List Int} {s : Int} {b d : Slot} {h : VH} (s0 : 0 ≤ s) (s1 : s < 3) : ∃ b' d' h', lBody (SW ns (.val (.int s)) b d .no .no) h = .nx (SW ns (.val (.int s)) b' d' .no .no) h' := by
  obtain ⟨us, e1, c1⟩ := cup_ok (h := h) (ns := ns) s0 s1
  obtain ⟨g1, eg⟩ : ∃ g1, g1 = h ++ [VO.lst us] := ⟨_, rfl⟩
  rw [← eg] at e1 c1
  have w1 : l1 (SW ns (.val (.int s)) b d .no .no) h = .nx (SW ns (.val (.int s)) (.val (.ref h.length)) d .no .no) g1 := set_nx _ (by simp only [fnM, startS, view, Slot.view, List.map_cons, List.map_nil, List.length_cons, List.length_nil, List.replicate, List.cons_append, List.nil_append, Nat.reduceAdd, Nat.reduceSub, reduceIte, retV, andV, notV, callM, callF, consA, nilA, varM, cM, List.getElem?_cons_zero, List.getElem?_cons_succ, Out.bind, opM, Out.toS, Bool.false_eq_true, seqM, setM, dropM, ifS, notT, blM, skipM, List.set_cons_zero, List.set_cons_succ, Bool.not_true, Bool.not_false, e1])
  obtain ⟨sl2, h2, kf, ⟨d', e2⟩, _⟩ := for_inv (mg := nameG 3) (body := lTurn) (N := 3) (fun j sl g => (∃ d' : Slot, sl = SW ns (.val (.int s)) (.val (.ref h.length)) d' .no .no) ∧ Cup g h.length (1000 * (3 - j)))
    (fun j sl g v hj ⟨⟨d', es⟩, q⟩ => by
      subst es
      obtain ⟨g', t1, t2⟩ := right_ok (k := 1000 * (3 - (j + 1))) (q.less (by omega))
      refine ⟨[(3, v)], _, g', rfl, no_nx (h1 := g') ?_, ⟨.val v, rfl⟩, t2⟩
      simp only [setsS, fnM, startS, view, Slot.view, List.map_cons, List.map_nil, List.length_cons, List.length_nil, List.replicate, List.cons_append, List.nil_append, Nat.reduceAdd, Nat.reduceSub, reduceIte, retV, andV, notV, callM, callF, consA, nilA, varM, cM, List.getElem?_cons_zero, List.getElem?_cons_succ, Out.bind, opM, Out.toS, Bool.false_eq_true, seqM, setM, dropM, ifS, notT, blM, skipM, List.set_cons_zero, List.set_cons_succ, Bool.not_true, Bool.not_false, t1])
    (iota 0 3) 0 (SW ns (.val (.int s)) (.val (.ref h.length)) d .no .no) g1 (by rw [iota_len, Nat.zero_add]) ⟨⟨_, rfl⟩, c1.less (by omega)⟩
  have rg : rangeI (consA (cM (.int 3)) (nilA)) (view (SW ns (.val (.int s)) (.val (.ref h.length)) d .no .no)) g1 = .ok (iota 0 3) g1 := range_ok (j := 3) rfl (by decide) (by decide)
  have w2 : l2 (SW ns (.val (.int s)) (.val (.ref h.length)) d .no .no) g1 = .nx sl2 h2 := by
    simp only [l2, Mv.forM, rg, Out.toS, kf]
  rw [e2] at w2
  exact ⟨_, _, h2, (seqM_nx w1).trans w2⟩
theorem all_cups {ns : List Int} {h : VH} (hn : ns.length ≤ 63) : ∃ a b d h', (Mv.forM lRng (nameG 1) lBody) (SW ns .no .no .no .no .no) h = .nx (SW ns a b d .no .no) h' := by
  have ln : lenAF [.rol (ns.map VV.int)] h = .ok (.int (ns.length : Nat)) h := by simp [lenAF, dictT, dictK, lenF]
  obtain ⟨N, eN, hN⟩ : ∃ N : Nat, lRng (view (SW ns .no .no .no .no .no)) h = .ok (iota 0 N) h ∧ N ≤ 3 := by
    have mn : minF [.int 3, .int (ns.length : Nat)] h = .ok (.int (if ((ns.length : Nat) : Int) < 3 then ((ns.length : Nat) : Int) else 3)) h := rfl
    have mx : ∀ x : Int, maxF [.int 1, .int x] h = .ok (.int (if x > 1 then x else 1)) h := fun x => rfl
    obtain ⟨x, ex⟩ : ∃ x : Int, x = (if ((ns.length : Nat) : Int) < 3 then ((ns.length : Nat) : Int) else 3) := ⟨_, rfl⟩
    obtain ⟨y, ey⟩ : ∃ y : Int, y = (if x > 1 then x else 1) := ⟨_, rfl⟩
    have hx : x ≤ 3 := by rw [ex]; split <;> omega
    have hy : 0 ≤ y ∧ y ≤ 3 := by rw [ey]; split <;> omega
    refine ⟨y.toNat, range_ok (j := y) ?_ hy.1 (by omega), by omega⟩
    simp only [fnM, startS, view, Slot.view, List.map_cons, List.map_nil, List.length_cons, List.length_nil, List.replicate, List.cons_append, List.nil_append, Nat.reduceAdd, Nat.reduceSub, reduceIte, retV, andV, notV, callM, callF, consA, nilA, varM, cM, List.getElem?_cons_zero, List.getElem?_cons_succ, Out.bind, opM, Out.toS, Bool.false_eq_true, seqM, setM, dropM, ifS, notT, blM, skipM, List.set_cons_zero, List.set_cons_succ, Bool.not_true, Bool.not_false, ln, mn, ← ex, mx, ← ey]
  obtain ⟨sl2, h2, kf, a, b, d, e⟩ := for_mem (mg := nameG 1) (body := lBody) (fun sl _ => ∃ a b d : Slot, sl = SW ns a b d .no .no) (iota 0 N) (SW ns .no .no .no .no .no) h
    (fun v hv sl g ⟨a, b, d, es⟩ => by
      subst es
      obtain ⟨i, rfl, i0, i1⟩ := mem_iota hv
      obtain ⟨b', d', g', t⟩ := cup_turns (ns := ns) (s := i) (b := b) (d := d) (h := g) i0 (by omega)
      exact ⟨[(1, .int i)], _, g', rfl, t, _, _, _, rfl⟩)
    ⟨_, _, _, rfl⟩
  exact ⟨a, b, d, h2, by rw [← e]; simp only [Mv.forM, eN, Out.toS, kf]⟩
abbrev T0 : List (List Int) := [[1, 7], [1, 5], [3, 5]]
theorem T0_u : uniq T0 = [[1, 5], [1, 7], [3, 5]] := by decide +kernel
theorem last_ok {ns : List Int} {a b d : Slot} {h : VH} : ∃ h', (seqM q1 (seqM q2 q3)) (SW ns a b d .no .no) h = .rt (.bl true) h' := by
  have f0 : fits 0 = true := rfl
  have f1 : fits 1 = true := rfl
  have f2 : fits 2 = true := rfl
  have f3 : fits 3 = true := rfl
  have f4 : fits 4 = true := rfl
  have l0 : ([0, 2] : List Int) ∈ lots := by decide +kernel
  have l1 : ([0] : List Int) ∈ lots := by decide +kernel
  have l2 : ([2] : List Int) ∈ lots := by decide +kernel
  have l3 : ([] : List Int) ∈ lots := by decide +kernel
  have mk := make_ok (ma := consA (ktupM (consA (cM (.int 0)) (consA (cM (.int 2)) (nilA)))) (consA (tupM (consA (tupM (consA (cM (.int 1)) (consA (cM (.int 7)) (nilA)))) (consA (tupM (consA (cM (.int 1)) (consA (cM (.int 5)) (nilA)))) (consA (tupM (consA (cM (.int 3)) (consA (cM (.int 5)) (nilA)))) (nilA))))) (nilA)))
    (sv := view (SW ns a b d .no .no)) (h := h) (h1 := h) (L := Kt [0, 2]) (x := Rs T0) (R := T0) (s := told [0, 2]) rfl
    (fun h => sortedA_tup (d := 2) (by decide)) rfl (fun h => told_ok h _ l0) (fun h => require_ok h _ l0) (fun h => rows_ok h (by decide) fun r hr => ⟨by revert r; decide, by revert r; unfold Small; decide, by revert r; decide⟩)
  rw [T0_u] at mk
  obtain ⟨T, eT⟩ : ∃ T : List (List Int), T = [[1, 5], [1, 7], [3, 5]] := ⟨_, rfl⟩
  rw [← eT] at mk
  obtain ⟨g1, eg1⟩ : ∃ g1, g1 = h ++ tabO h.length (Kt [0, 2]) T (told [0, 2]) := ⟨_, rfl⟩
  rw [← eg1] at mk
  have t1 : Tab g1 (h.length + 1) [0, 2] T := by rw [eg1]; exact Tab.new
  have gd : Good [0, 2] T := by
    rw [eT]
    exact ⟨l0, by decide, by decide, by unfold Small; decide⟩
  obtain ⟨n, en⟩ : ∃ n, n = h.length + 1 := ⟨_, rfl⟩
  rw [← en] at mk t1
  have w1 : q1 (SW ns a b d .no .no) h = .nx (SW ns a b d (.val (.ref n)) .no) g1 := set_nx _ mk
  obtain ⟨t2, e2⟩ := degree_in_ok (low := [0]) (high := [0, 2]) t1 gd l1 l0 (by decide) (by decide)
  obtain ⟨t3, e3⟩ := degree_in_ok (low := []) (high := [0]) (t1.app t2) gd l3 l1 (by decide) (by decide)
  obtain ⟨t4, e4⟩ := degree_in_ok (low := [2]) (high := [2]) ((t1.app t2).app t3) gd l2 l2 (by decide) (by decide)
  obtain ⟨g4, eg4⟩ : ∃ g4, g4 = g1 ++ t2 ++ t3 ++ t4 := ⟨_, rfl⟩
  have t5 : Tab g4 n [0, 2] T := by rw [eg4]; exact ((t1.app t2).app t3).app t4
  rw [← eg4] at e4
  rw [show deg [0, 2] [0] [0, 2] T = 2 by rw [eT]; decide +kernel] at e2
  rw [show deg [0, 2] [] [0] T = 2 by rw [eT]; decide +kernel] at e3
  rw [show deg [0, 2] [2] [2] T = 1 by rw [eT]; decide +kernel] at e4
  have mk2 := make_ok (ma := consA (ktupM (consA (cM (.int 0)) (nilA))) (consA (tupM (nilA)) (nilA)))
    (sv := view (SW ns a b d (.val (.ref n)) .no)) (h := g4) (h1 := g4) (L := Kt [0]) (x := Rs []) (R := []) (s := told [0]) rfl
    (fun h => rfl) rfl (fun h => told_ok h _ l1) (fun h => require_ok h _ l1) (fun h => rows_ok h (by decide) fun r hr => (by cases hr))
  have z0 : uniq [] = [] := rfl
  rw [z0] at mk2
  obtain ⟨g5, eg5⟩ : ∃ g5, g5 = g4 ++ tabO g4.length (Kt [0]) [] (told [0]) := ⟨_, rfl⟩
  have t6 : Tab g5 n [0, 2] T := by rw [eg5]; exact t5.app _
  have t7 : Tab g5 (g4.length + 1) [0] [] := by rw [eg5]; exact Tab.new
  rw [← eg5] at mk2
  obtain ⟨t8, e5⟩ := degree_in_ok (low := []) (high := []) t7 ⟨l1, by decide, by decide, fun r hr => (by cases hr)⟩ l3 l3 (by decide) (by decide)
  rw [show deg [0] [] [] [] = 0 by decide +kernel] at e5
  have t9 : Tab (g5 ++ t8) n [0, 2] T := t6.app t8
  obtain ⟨t10, e6⟩ := above_ok (low := [0]) (high := [0, 2]) t9 gd l1 l0 (by decide) (by decide)
  obtain ⟨t11, e7⟩ := above_ok (low := []) (high := []) (t9.app t10) gd l3 l3 (by decide) (by decide)
  refine ⟨g5 ++ t8 ++ t10 ++ t11, ?_⟩
  have w2 : q2 (SW ns a b d (.val (.ref n)) .no) g1 = .nx (SW ns a b d (.val (.ref n)) (.val (.lst [.int 2, .int 2, .int 1, .int 0]))) (g5 ++ t8) := by
    have e2' : m_degree [.ref n, .ktu [.int 0], .ktu [.int 0, .int 2]] g1 = .ok (.int 2) (g1 ++ t2) := e2
    have e3' : m_degree [.ref n, .ktu [], .ktu [.int 0]] (g1 ++ t2) = .ok (.int 2) (g1 ++ t2 ++ t3) := e3
    have e4' : m_degree [.ref n, .ktu [.int 2], .ktu [.int 2]] (g1 ++ t2 ++ t3) = .ok (.int 1) g4 := e4
    have e5' : m_degree [.ref (g4.length + 1), .ktu [], .ktu []] g5 = .ok (.int 0) (g5 ++ t8) := e5
    refine set_nx _ ?_
    simp only [view, Slot.view, List.map_cons, List.map_nil] at mk2
    simp only [lstM, callF, ktupM, consA, nilA, varM, cM, view, Slot.view, List.map_cons, List.map_nil, List.getElem?_cons_succ, List.getElem?_cons_zero, Out.bind, List.length_cons, List.length_nil, Nat.reduceAdd, f0, f1, f2, f4, if_true, e2', e3', e4'] at mk2 ⊢
    rw [mk2]
    simp only [e5', Out.bind, List.length_cons, List.length_nil, Nat.reduceAdd, f4, if_true]
  have w3 : q3 (SW ns a b d (.val (.ref n)) (.val (.lst [.int 2, .int 2, .int 1, .int 0]))) (g5 ++ t8) = .rt (.bl true) (g5 ++ t8 ++ t10 ++ t11) := by
    have e6' : m_above [.ref n, .ktu [.int 0], .ktu [.int 0, .int 2]] (g5 ++ t8) = .ok (.dtt (ksP (stally (low_ [0, 2] [0] [0, 2] T))) (vsP (stally (low_ [0, 2] [0] [0, 2] T)))) (g5 ++ t8 ++ t10) := e6
    have e7' : m_above [.ref n, .ktu [], .ktu []] (g5 ++ t8 ++ t10) = .ok (.dtt (ksP (stally (low_ [0, 2] [] [] T))) (vsP (stally (low_ [0, 2] [] [] T)))) (g5 ++ t8 ++ t10 ++ t11) := e7
    have k1 : ∀ h, Mv.eqV false (.lst [.int 2, .int 2, .int 1, .int 0]) (.lst [.int 2, .int 2, .int 1, .int 0]) h = .ok (.bl true) h := fun h => by kernel_rfl
    have k2 : ∀ sv h, (dlitTM [(tupM (consA (cM (.int 1)) (nilA)), cM (.int 2)), (tupM (consA (cM (.int 3)) (nilA)), cM (.int 1))]) sv h = .ok (.dtt [.tup [.int 1], .tup [.int 3]] [.int 2, .int 1]) h := fun sv h => by kernel_rfl
    have k3 : ∀ sv h, (dlitTM [(tupM (nilA), cM (.int 1))]) sv h = .ok (.dtt [.tup []] [.int 1]) h := fun sv h => by kernel_rfl
    have k4 : ∀ h, eqVP false (.dtt (ksP (stally (low_ [0, 2] [0] [0, 2] T))) (vsP (stally (low_ [0, 2] [0] [0, 2] T)))) (.dtt [.tup [.int 1], .tup [.int 3]] [.int 2, .int 1]) h = .ok (.bl true) h := fun h => by rw [eT]; kernel_rfl
    have k5 : ∀ h, eqVP false (.dtt (ksP (stally (low_ [0, 2] [] [] T))) (vsP (stally (low_ [0, 2] [] [] T)))) (.dtt [.tup []] [.int 1]) h = .ok (.bl true) h := fun h => by rw [eT]; kernel_rfl
    have p1 : (opM (eqV false) (varM 5) (lstM (consA (cM (.int 2)) (consA (cM (.int 2)) (consA (cM (.int 1)) (consA (cM (.int 0)) (nilA))))))) (view (SW ns a b d (.val (.ref n)) (.val (.lst [.int 2, .int 2, .int 1, .int 0])))) (g5 ++ t8) = .ok (.bl true) (g5 ++ t8) := by
      simp only [opM, lstM, consA, nilA, varM, cM, view, Slot.view, List.map_cons, List.map_nil, List.getElem?_cons_succ, List.getElem?_cons_zero, Out.bind, List.length_cons, List.length_nil, Nat.reduceAdd, f4, if_true, k1]
    have q6 : (callF m_above (consA (varM 4) (consA (ktupM (consA (cM (.int 0)) (nilA))) (consA (ktupM (consA (cM (.int 0)) (consA (cM (.int 2)) (nilA)))) (nilA))))) (view (SW ns a b d (.val (.ref n)) (.val (.lst [.int 2, .int 2, .int 1, .int 0])))) (g5 ++ t8) = .ok (.dtt (ksP (stally (low_ [0, 2] [0] [0, 2] T))) (vsP (stally (low_ [0, 2] [0] [0, 2] T)))) (g5 ++ t8 ++ t10) := by
      simp only [callF, ktupM, consA, nilA, varM, cM, view, Slot.view, List.map_cons, List.map_nil, List.getElem?_cons_succ, List.getElem?_cons_zero, Out.bind, List.length_cons, List.length_nil, Nat.reduceAdd, f0, f1, f2, if_true, e6']
    have p2 : (opM (eqVP false) (callF m_above (consA (varM 4) (consA (ktupM (consA (cM (.int 0)) (nilA))) (consA (ktupM (consA (cM (.int 0)) (consA (cM (.int 2)) (nilA)))) (nilA))))) (dlitTM [(tupM (consA (cM (.int 1)) (nilA)), cM (.int 2)), (tupM (consA (cM (.int 3)) (nilA)), cM (.int 1))])) (view (SW ns a b d (.val (.ref n)) (.val (.lst [.int 2, .int 2, .int 1, .int 0])))) (g5 ++ t8) = .ok (.bl true) (g5 ++ t8 ++ t10) := by
      rw [opM, q6]
      simp only [Out.bind, k2, k4]
    have q7 : (callF m_above (consA (varM 4) (consA (ktupM (nilA)) (consA (ktupM (nilA)) (nilA))))) (view (SW ns a b d (.val (.ref n)) (.val (.lst [.int 2, .int 2, .int 1, .int 0])))) (g5 ++ t8 ++ t10) = .ok (.dtt (ksP (stally (low_ [0, 2] [] [] T))) (vsP (stally (low_ [0, 2] [] [] T)))) (g5 ++ t8 ++ t10 ++ t11) := by
      simp only [callF, ktupM, consA, nilA, varM, cM, view, Slot.view, List.map_cons, List.map_nil, List.getElem?_cons_succ, List.getElem?_cons_zero, Out.bind, List.length_cons, List.length_nil, Nat.reduceAdd, f0, f1, f2, if_true, e7']
    have p3 : (opM (eqVP false) (callF m_above (consA (varM 4) (consA (ktupM (nilA)) (consA (ktupM (nilA)) (nilA))))) (dlitTM [(tupM (nilA), cM (.int 1))])) (view (SW ns a b d (.val (.ref n)) (.val (.lst [.int 2, .int 2, .int 1, .int 0])))) (g5 ++ t8 ++ t10) = .ok (.bl true) (g5 ++ t8 ++ t10 ++ t11) := by
      rw [opM, q7]
      simp only [Out.bind, k3, k5]
    simp only [q3, retV, andV]
    rw [p1]
    simp only [Out.bind]
    rw [p2]
    simp only [Out.bind]
    rw [p3]
    rfl
  rw [seqM_nx w1, seqM_nx w2, w3]
theorem law_true : ∀ ns : List Int, ns.length ≤ 63 → ∃ h, m_law [.rol (ns.map VV.int)] [] = .ok (.bl true) h := by
  intro ns hn
  obtain ⟨a, b, d, h1, e1⟩ := all_cups (ns := ns) (h := []) hn
  obtain ⟨h2, e2⟩ := last_ok (ns := ns) (a := a) (b := b) (d := d) (h := h1)
  exact ⟨h2, fn_rt (s0 := SW ns .no .no .no .no .no) rfl rfl ((seqM_nx e1).trans e2)⟩
end K05
set_option Elab.async false
set_option linter.all false
set_option maxRecDepth 100000
set_option pp.maxSteps 120
set_option pp.deepTerms false
namespace K05
open PySem PySem.Spec PyProof.Rows L2 Mv
set_option maxHeartbeats 0
def top (i : Nat) : Stmt := PySem.Challenge.pw_crestjoin_k05_whole_degrees.main.body.getD i (.Pass ⟨0, 0, 0, 0⟩)
def clsBody (s : Stmt) : List Stmt := match s with
  | .ClassDef _ _ _ b _ _ _ _ _ _ _ => b
  | _ => []
def meth (i j : Nat) : Stmt := (clsBody (top i)).getD j (.Pass ⟨0, 0, 0, 0⟩)
def d_cup : He.DefD := ⟨("_law_cup", none), "_law_cup", "_law_cup", defArgs (top 39), defBody (top 39), defScope (top 39), [], []⟩
theorem s_cup : FnScope ["_law_script", "_law_spot", "_law_cell", "_law_great", "_law_seed"] ["_law_script", "_law_spot"] (defScope (top 39)) := ⟨rfl, rfl, rfl, by decide +kernel, rfl, by decide +kernel, by decide +kernel⟩
def d_tossed : He.DefD := ⟨("_law_tossed", none), "_law_tossed", "_law_tossed", defArgs (top 40), defBody (top 40), defScope (top 40), [], []⟩
theorem s_tossed : FnScope ["_law_cup_here", "_law_total", "_law_found", "_law_one", "_law_two"] ["_law_cup_here", "_law_total"] (defScope (top 40)) := ⟨rfl, rfl, rfl, by decide +kernel, rfl, by decide +kernel, by decide +kernel⟩
def d_lot_drawn : He.DefD := ⟨("_law_lot_drawn", none), "_law_lot_drawn", "_law_lot_drawn", defArgs (top 42), defBody (top 42), defScope (top 42), [], []⟩
theorem s_lot_drawn : FnScope ["_law_cup_here", "_law_lot", "_law_least", "_law_left", "_law_found", "_law_turn"] ["_law_cup_here", "_law_lot", "_law_least"] (defScope (top 42)) := ⟨rfl, rfl, rfl, by decide +kernel, rfl, by decide +kernel, by decide +kernel⟩
def d_one_of : He.DefD := ⟨("_law_one_of", none), "_law_one_of", "_law_one_of", defArgs (top 41), defBody (top 41), defScope (top 41), [], []⟩
theorem s_one_of : FnScope ["_law_cup_here", "_law_items"] ["_law_cup_here", "_law_items"] (defScope (top 41)) := ⟨rfl, rfl, rfl, by decide +kernel, rfl, by decide +kernel, by decide +kernel⟩
def d_rows_drawn : He.DefD := ⟨("_law_rows_drawn", none), "_law_rows_drawn", "_law_rows_drawn", defArgs (top 43), defBody (top 43), defScope (top 43), [], []⟩
theorem s_rows_drawn : FnScope ["_law_cup_here", "_law_lot", "_law_most", "_law_wide", "_law_found", "_law_way", "_law_turn", "_law_row", "_law_letter", "_law_number"] ["_law_cup_here", "_law_lot", "_law_most", "_law_wide"] (defScope (top 43)) := ⟨rfl, rfl, rfl, by decide +kernel, rfl, by decide +kernel, by decide +kernel⟩
def d_is_letter : He.DefD := ⟨("is_letter", none), "is_letter", "is_letter", defArgs (top 7), defBody (top 7), defScope (top 7), [], []⟩
theorem s_is_letter : FnScope ["value"] ["value"] (defScope (top 7)) := ⟨rfl, rfl, rfl, by decide +kernel, rfl, by decide +kernel, by decide +kernel⟩
def d_is_lot : He.DefD := ⟨("is_lot", none), "is_lot", "is_lot", defArgs (top 8), defBody (top 8), defScope (top 8), [], []⟩
theorem s_is_lot : FnScope ["value", "letter", "one", "other"] ["value"] (defScope (top 8)) := ⟨rfl, rfl, rfl, by decide +kernel, rfl, by decide +kernel, by decide +kernel⟩
def d_require_lot : He.DefD := ⟨("require_lot", none), "require_lot", "require_lot", defArgs (top 11), defBody (top 11), defScope (top 11), [], []⟩
theorem s_require_lot : FnScope ["value"] ["value"] (defScope (top 11)) := ⟨rfl, rfl, rfl, by decide +kernel, rfl, by decide +kernel, by decide +kernel⟩
def d_is_whole : He.DefD := ⟨("is_whole", none), "is_whole", "is_whole", defArgs (top 13), defBody (top 13), defScope (top 13), [], []⟩
theorem s_is_whole : FnScope ["value"] ["value"] (defScope (top 13)) := ⟨rfl, rfl, rfl, by decide +kernel, rfl, by decide +kernel, by decide +kernel⟩
def d_is_small : He.DefD := ⟨("is_small", none), "is_small", "is_small", defArgs (top 19), defBody (top 19), defScope (top 19), [], []⟩
theorem s_is_small : FnScope ["value"] ["value"] (defScope (top 19)) := ⟨rfl, rfl, rfl, by decide +kernel, rfl, by decide +kernel, by decide +kernel⟩
def d_is_row_in : He.DefD := ⟨("is_row_in", none), "is_row_in", "is_row_in", defArgs (top 20), defBody (top 20), defScope (top 20), [], []⟩
theorem s_is_row_in : FnScope ["lot", "value", "number"] ["lot", "value"] (defScope (top 20)) := ⟨rfl, rfl, rfl, by decide +kernel, rfl, by decide +kernel, by decide +kernel⟩
def d_are_rows : He.DefD := ⟨("are_rows", none), "are_rows", "are_rows", defArgs (top 21), defBody (top 21), defScope (top 21), [], []⟩
theorem s_are_rows : FnScope ["lot", "value", "row"] ["lot", "value"] (defScope (top 21)) := ⟨rfl, rfl, rfl, by decide +kernel, rfl, by decide +kernel, by decide +kernel⟩
def d_lot_told : He.DefD := ⟨("lot_told", none), "lot_told", "lot_told", defArgs (top 23), defBody (top 23), defScope (top 23), [], []⟩
theorem s_lot_told : FnScope ["lot", "letter"] ["lot"] (defScope (top 23)) := ⟨rfl, rfl, rfl, by decide +kernel, rfl, by decide +kernel, by decide +kernel⟩
def d_Table_keep : He.DefD := ⟨("Table", some "keep"), "keep", "Table.keep", defArgs (meth 22 2), defBody (meth 22 2), defScope (meth 22 2), [], []⟩
theorem s_Table_keep : FnScope ["self", "lot", "rows", "row"] ["self", "lot", "rows"] (defScope (meth 22 2)) := ⟨rfl, rfl, rfl, by decide +kernel, rfl, by decide +kernel, by decide +kernel⟩
def d_Table_init : He.DefD := ⟨("Table", some "__init__"), "__init__", "Table.__init__", defArgs (meth 22 1), defBody (meth 22 1), defScope (meth 22 1), [], []⟩
theorem s_Table_init : FnScope ["self", "lot", "rows"] ["self", "lot", "rows"] (defScope (meth 22 1)) := ⟨rfl, rfl, rfl, by decide +kernel, rfl, by decide +kernel, by decide +kernel⟩
def d_is_table : He.DefD := ⟨("is_table", none), "is_table", "is_table", defArgs (top 29), defBody (top 29), defScope (top 29), [], []⟩
theorem s_is_table : FnScope ["value"] ["value"] (defScope (top 29)) := ⟨rfl, rfl, rfl, by decide +kernel, rfl, by decide +kernel, by decide +kernel⟩
def d_require_table : He.DefD := ⟨("require_table", none), "require_table", "require_table", defArgs (top 30), defBody (top 30), defScope (top 30), [], []⟩
theorem s_require_table : FnScope ["value"] ["value"] (defScope (top 30)) := ⟨rfl, rfl, rfl, by decide +kernel, rfl, by decide +kernel, by decide +kernel⟩
def d_within_in : He.DefD := ⟨("within_in", none), "within_in", "within_in", defArgs (top 10), defBody (top 10), defScope (top 10), [], []⟩
theorem s_within_in : FnScope ["one", "other", "letter"] ["one", "other"] (defScope (top 10)) := ⟨rfl, rfl, rfl, by decide +kernel, rfl, by decide +kernel, by decide +kernel⟩
def d_need_within : He.DefD := ⟨("need_within", none), "need_within", "need_within", defArgs (top 32), defBody (top 32), defScope (top 32), [], []⟩
theorem s_need_within : FnScope ["low", "high"] ["low", "high"] (defScope (top 32)) := ⟨rfl, rfl, rfl, by decide +kernel, rfl, by decide +kernel, by decide +kernel⟩
def d_require_table_and_lots : He.DefD := ⟨("require_table_and_lots", none), "require_table_and_lots", "require_table_and_lots", defArgs (top 33), defBody (top 33), defScope (top 33), [], []⟩
theorem s_require_table_and_lots : FnScope ["table", "low", "high"] ["table", "low", "high"] (defScope (top 33)) := ⟨rfl, rfl, rfl, by decide +kernel, rfl, by decide +kernel, by decide +kernel⟩
def d_places_in : He.DefD := ⟨("places_in", none), "places_in", "places_in", defArgs (top 17), defBody (top 17), defScope (top 17), [], []⟩
theorem s_places_in : FnScope ["lot", "some", "letter"] ["lot", "some"] (defScope (top 17)) := ⟨rfl, rfl, rfl, by decide +kernel, rfl, by decide +kernel, by decide +kernel⟩
def d_part_in : He.DefD := ⟨("part_in", none), "part_in", "part_in", defArgs (top 18), defBody (top 18), defScope (top 18), [], []⟩
theorem s_part_in : FnScope ["row", "places", "place"] ["row", "places"] (defScope (top 18)) := ⟨rfl, rfl, rfl, by decide +kernel, rfl, by decide +kernel, by decide +kernel⟩
def d_made_table : He.DefD := ⟨("made_table", none), "made_table", "made_table", defArgs (top 24), defBody (top 24), defScope (top 24), [], []⟩
theorem s_made_table : FnScope ["lot", "rows", "found"] ["lot", "rows"] (defScope (top 24)) := ⟨rfl, rfl, rfl, by decide +kernel, rfl, by decide +kernel, by decide +kernel⟩
def d_project_in : He.DefD := ⟨("project_in", none), "project_in", "project_in", defArgs (top 25), defBody (top 25), defScope (top 25), [], []⟩
theorem s_project_in : FnScope ["table", "lot", "places", "row"] ["table", "lot"] (defScope (top 25)) := ⟨rfl, rfl, rfl, by decide +kernel, rfl, by decide +kernel, by decide +kernel⟩
def d_above_in : He.DefD := ⟨("above_in", none), "above_in", "above_in", defArgs (top 26), defBody (top 26), defScope (top 26), [], []⟩
theorem s_above_in : FnScope ["table", "low", "high", "places", "found", "row", "below"] ["table", "low", "high"] (defScope (top 26)) := ⟨rfl, rfl, rfl, by decide +kernel, rfl, by decide +kernel, by decide +kernel⟩
def d_above : He.DefD := ⟨("above", none), "above", "above", defArgs (top 36), defBody (top 36), defScope (top 36), [], []⟩
theorem s_above : FnScope ["table", "low", "high"] ["table", "low", "high"] (defScope (top 36)) := ⟨rfl, rfl, rfl, by decide +kernel, rfl, by decide +kernel, by decide +kernel⟩
def d_part : He.DefD := ⟨("_law_part", none), "_law_part", "_law_part", defArgs (top 44), defBody (top 44), defScope (top 44), [], []⟩
theorem s_part : FnScope ["_law_row", "_law_lot", "_law_some", "_law_letter"] ["_law_row", "_law_lot", "_law_some"] (defScope (top 44)) := ⟨rfl, rfl, rfl, by decide +kernel, rfl, by decide +kernel, by decide +kernel⟩
def d_parts : He.DefD := ⟨("_law_parts", none), "_law_parts", "_law_parts", defArgs (top 45), defBody (top 45), defScope (top 45), [], []⟩
theorem s_parts : FnScope ["_law_rows", "_law_lot", "_law_some", "_law_row"] ["_law_rows", "_law_lot", "_law_some"] (defScope (top 45)) := ⟨rfl, rfl, rfl, by decide +kernel, rfl, by decide +kernel, by decide +kernel⟩
def d_own_above : He.DefD := ⟨("_law_above", none), "_law_above", "_law_above", defArgs (top 47), defBody (top 47), defScope (top 47), [], []⟩
theorem s_own_above : FnScope ["_law_rows", "_law_lot", "_law_low", "_law_high", "_law_found", "_law_row", "_law_below"] ["_law_rows", "_law_lot", "_law_low", "_law_high"] (defScope (top 47)) := ⟨rfl, rfl, rfl, by decide +kernel, rfl, by decide +kernel, by decide +kernel⟩
def d_degree_in : He.DefD := ⟨("degree_in", none), "degree_in", "degree_in", defArgs (top 27), defBody (top 27), defScope (top 27), [], []⟩
theorem s_degree_in : FnScope ["table", "low", "high"] ["table", "low", "high"] (defScope (top 27)) := ⟨rfl, rfl, rfl, by decide +kernel, rfl, by decide +kernel, by decide +kernel⟩
def d_degree : He.DefD := ⟨("degree", none), "degree", "degree", defArgs (top 35), defBody (top 35), defScope (top 35), [], []⟩
theorem s_degree : FnScope ["table", "low", "high"] ["table", "low", "high"] (defScope (top 35)) := ⟨rfl, rfl, rfl, by decide +kernel, rfl, by decide +kernel, by decide +kernel⟩
def d_own_degree : He.DefD := ⟨("_law_degree", none), "_law_degree", "_law_degree", defArgs (top 48), defBody (top 48), defScope (top 48), [], []⟩
theorem s_own_degree : FnScope ["_law_rows", "_law_lot", "_law_low", "_law_high"] ["_law_rows", "_law_lot", "_law_low", "_law_high"] (defScope (top 48)) := ⟨rfl, rfl, rfl, by decide +kernel, rfl, by decide +kernel, by decide +kernel⟩
def d_Table_len : He.DefD := ⟨("Table", some "__len__"), "__len__", "Table.__len__", defArgs (meth 22 5), defBody (meth 22 5), defScope (meth 22 5), [], []⟩
theorem s_Table_len : FnScope ["self"] ["self"] (defScope (meth 22 5)) := ⟨rfl, rfl, rfl, by decide +kernel, rfl, by decide +kernel, by decide +kernel⟩
def d_project : He.DefD := ⟨("project", none), "project", "project", defArgs (top 34), defBody (top 34), defScope (top 34), [], []⟩
theorem s_project : FnScope ["table", "lot"] ["table", "lot"] (defScope (top 34)) := ⟨rfl, rfl, rfl, by decide +kernel, rfl, by decide +kernel, by decide +kernel⟩
def d_both : He.DefD := ⟨("_law_both", none), "_law_both", "_law_both", defArgs (top 46), defBody (top 46), defScope (top 46), [], []⟩
theorem s_both : FnScope ["_law_one", "_law_other"] ["_law_one", "_law_other"] (defScope (top 46)) := ⟨rfl, rfl, rfl, by decide +kernel, rfl, by decide +kernel, by decide +kernel⟩
def d_Table_rows : He.DefD := ⟨("Table", some "rows"), "rows", "Table.rows", defArgs (meth 22 4), defBody (meth 22 4), defScope (meth 22 4), [], []⟩
theorem s_Table_rows : FnScope ["self"] ["self"] (defScope (meth 22 4)) := ⟨rfl, rfl, rfl, by decide +kernel, rfl, by decide +kernel, by decide +kernel⟩
def d_require_on : He.DefD := ⟨("require_on", none), "require_on", "require_on", defArgs (top 31), defBody (top 31), defScope (top 31), [], []⟩
theorem s_require_on : FnScope ["lot", "row"] ["lot", "row"] (defScope (top 31)) := ⟨rfl, rfl, rfl, by decide +kernel, rfl, by decide +kernel, by decide +kernel⟩
def d_rest_in : He.DefD := ⟨("rest_in", none), "rest_in", "rest_in", defArgs (top 9), defBody (top 9), defScope (top 9), [], []⟩
theorem s_rest_in : FnScope ["one", "other", "letter"] ["one", "other"] (defScope (top 9)) := ⟨rfl, rfl, rfl, by decide +kernel, rfl, by decide +kernel, by decide +kernel⟩
def d_section_in : He.DefD := ⟨("section_in", none), "section_in", "section_in", defArgs (top 28), defBody (top 28), defScope (top 28), [], []⟩
theorem s_section_in : FnScope ["table", "lot", "row", "rest", "here", "there", "one"] ["table", "lot", "row"] (defScope (top 28)) := ⟨rfl, rfl, rfl, by decide +kernel, rfl, by decide +kernel, by decide +kernel⟩
def d_section : He.DefD := ⟨("section", none), "section", "section", defArgs (top 37), defBody (top 37), defScope (top 37), [], []⟩
theorem s_section : FnScope ["table", "lot", "row"] ["table", "lot", "row"] (defScope (top 37)) := ⟨rfl, rfl, rfl, by decide +kernel, rfl, by decide +kernel, by decide +kernel⟩
def d_right : He.DefD := ⟨("_law_right", none), "_law_right", "_law_right", defArgs (top 49), defBody (top 49), defScope (top 49), [], []⟩
theorem s_right : FnScope ["_law_cup_here", "_law_lot", "_law_rows", "_law_table", "_law_turn", "_law_high", "_law_mid", "_law_low", "_law_told", "_law_many", "_law_here", "_law_there", "_law_more", "_law_some", "_law_sections", "_law_row"] ["_law_cup_here"] (defScope (top 49)) := ⟨rfl, rfl, rfl, by decide +kernel, rfl, by decide +kernel, by decide +kernel⟩
def d_law : He.DefD := ⟨("law", none), "law", "law", defArgs (top 50), defBody (top 50), defScope (top 50), [], []⟩
theorem s_law : FnScope ["_law_script", "_law_spot", "_law_cup_here", "_law_turn", "_law_table", "_law_told"] ["_law_script"] (defScope (top 50)) := ⟨rfl, rfl, rfl, by decide +kernel, rfl, by decide +kernel, by decide +kernel⟩
def gxA (K : PySem.W.Frag) : Nat → Addr := fun n => match n with | 0 => He.ga K "Table" | 1 => He.ga K "InvalidLot" | 2 => He.ga K "InvalidTable" | 3 => He.ga K "InvalidOperation" | _ => 0
def gx (K : PySem.W.Frag) (w : World) : Gx := ⟨gxA K, fun n => match n with  | _ => "", w⟩
def tf : List He.Defn := []
def csK (K : PySem.W.Frag) : List (Addr × Addr) := tf.map (He.cT K)
def fa : List He.Fa := [.free "len", .free "min", .free "max", .free "range", .free "int", .free "abs", .glo "_law_cup", .free "list", .glo "_law_tossed", .free "sorted", .free "tuple", .glo "_law_lot_drawn", .glo "_law_one_of", .glo "_law_rows_drawn", .free "set", .glo "Table", .free "isinstance", .free "bool", .int "LETTERS" 6, .glo "is_letter", .free "all", .free "zip", .glo "is_lot", .glo "InvalidLot", .exc "InvalidLot", .glo "require_lot", .int "MOST_ROWS" 1000, .glo "is_whole", .int "BOUND" 1000000000, .glo "is_small", .glo "is_row_in", .glo "are_rows", .glo "InvalidTable", .exc "InvalidTable", .free "str", .glo "lot_told", .glo "is_table", .glo "require_table", .glo "within_in", .glo "InvalidOperation", .exc "InvalidOperation", .glo "need_within", .glo "require_table_and_lots", .glo "places_in", .glo "part_in", .glo "made_table", .glo "project_in", .glo "above_in", .glo "above", .glo "_law_part", .glo "_law_parts", .glo "_law_above", .glo "degree_in", .glo "degree", .glo "_law_degree", .glo "project", .glo "_law_both", .glo "require_on", .glo "rest_in", .glo "section_in", .glo "section", .glo "_law_right", .glo "law"]
def exs : List (PySem.W.Frag → Bool) := [fun K => ([0] : List Nat).all fun c => clsSB K (gxA K c), fun K => ([0] : List Nat).all fun c => noTyB K (gxA K c), fun K => ([(0, 2)] : List (Nat × Nat)).all fun p => clsSB K (gxA K p.1) && slotB K (gxA K p.1) "own_there" p.2, fun K => ([(0, 3)] : List (Nat × Nat)).all fun p => clsSB K (gxA K p.1) && slotB K (gxA K p.1) "own_told" p.2, fun K => ([(0, 1)] : List (Nat × Nat)).all fun p => clsSB K (gxA K p.1) && slotB K (gxA K p.1) "own_rows" p.2, fun K => ([(0, 0)] : List (Nat × Nat)).all fun p => clsSB K (gxA K p.1) && slotB K (gxA K p.1) "own_lot" p.2, fun K => clsSB K (He.ga K "Table"), fun K => methB K (He.ga K "Table") "keep" (He.fAd K ("Table", some "keep")), fun K => mkB K (He.ga K "Table") (He.fAd K ("Table", some "__init__")), fun K => kitsB K (gxA K) [(0, 0, true)], fun K => methB K (He.ga K "Table") "__len__" (He.fAd K ("Table", some "__len__")), fun K => propB K (He.ga K "Table") "rows" (pgA K ("Table", "rows"))]
abbrev ex : PySem.W.Frag → Bool := exL exs
def fn : List He.DefD := [d_cup, d_tossed, d_lot_drawn, d_one_of, d_rows_drawn, d_is_letter, d_is_lot, d_require_lot, d_is_whole, d_is_small, d_is_row_in, d_are_rows, d_lot_told, d_Table_keep, d_Table_init, d_is_table, d_require_table, d_within_in, d_need_within, d_require_table_and_lots, d_places_in, d_part_in, d_made_table, d_project_in, d_above_in, d_above, d_part, d_parts, d_own_above, d_degree_in, d_degree, d_own_degree, d_Table_len, d_project, d_both, d_require_on, d_rest_in, d_section_in, d_section, d_right, d_law]
def p_Table_rows : PrD := ⟨("Table", "rows"), d_Table_rows⟩
def pn : List PrD := [p_Table_rows]
abbrev HyL := HyP fa fn ex pn
section
variable {P : Program} {w : World} {K : PySem.W.Frag} {mg : Str → Option Value}
theorem w_cup (y : HyL K mg)  : OkF P w K mg (gx K w) 3 (He.ga K "_law_cup") ["_law_script", "_law_spot"] m_cup := by
  obtain ⟨fd, F⟩ := y.c.def_ 0 (d := d_cup) rfl
  refine ⟨fd, fun base => fn_ok F s_cup rfl rfl fun cdv A outer s H E hr => ?_, F.bindsN fun _ _ _ _ _ _ us hl => match us, hl with | [_, _], _ => rfl, F.kp, F.bindsA fun _ _ _ _ _ _ us hl => match us, hl with | [_, _], _ => rfl⟩
  have tk : Takes (cxOf (L2.CX P w) P w K mg base ["_law_script", "_law_spot", "_law_cell", "_law_great", "_law_seed"] "_law_cup" (defScope (top 39)) (He.ga K "_law_cup") cdv A outer s H E) (WK E) := takes_of rfl rfl rfl rfl
  have nd := s_cup.nd
  exact rss_cons (rs_set 2 nd (re_if (rt_cmp op_lt cmpS (re_var 1) (re_callB call_lenA lenAS rfl (y.free 0) boot_len (ra_cons (re_var 0) (ra_nil)))) (re_callTy call_int1 intFS rfl (y.free 4) boot_int (ra_cons (re_ixA hr (re_var 0) (re_var 1)) (ra_nil))) (re_op op_addA addS (re_op op_mulB mulAS (re_int) (re_var 1)) (re_int)))) (rss_cons (rs_set 3 nd (re_op op_mod modS (re_callTy call_int1 intFS rfl (y.free 4) boot_int (ra_cons (re_callB call_abs absS rfl (y.free 5) boot_abs (ra_cons (re_var 2) (ra_nil))) (ra_nil))) (re_op op_powA powS (re_op op_powA powS (re_int) (re_int)) (re_int)))) (rss_cons (rs_set 4 nd (re_callTy call_int1 intFS rfl (y.free 4) boot_int (ra_cons (re_op op_addA addS (re_op op_addA addS (re_op op_addA addS (re_op op_mulB mulAS (re_op op_mod modS (re_var 3) (re_int)) (re_int)) (re_op op_mulB mulAS (re_int) (re_var 1))) (re_op op_mulB mulAS (re_int) (re_callTy call_int1 intFS rfl (y.free 4) boot_int (ra_cons (re_cmp op_lt cmpS (re_var 2) (re_int)) (ra_nil))))) (re_int)) (ra_nil)))) (rss_one (rs_retV (re_new (ra_cons (re_callB (call_max2 rfl) int2S rfl (y.free 2) boot_max (ra_cons (re_int) (ra_cons (re_op op_subA subS (re_var 3) (re_op op_powA powS (re_int) (re_int))) (ra_nil)))) (ra_cons (re_op op_mod modS (re_var 4) (re_int)) (ra_cons (re_int) (ra_nil)))))))))
theorem w_tossed (y : HyL K mg)  : OkF P w K mg (gx K w) 3 (He.ga K "_law_tossed") ["_law_cup_here", "_law_total"] m_tossed := by
  obtain ⟨fd, F⟩ := y.c.def_ 1 (d := d_tossed) rfl
  refine ⟨fd, fun base => fn_ok F s_tossed rfl rfl fun cdv A outer s H E hr => ?_, F.bindsN fun _ _ _ _ _ _ us hl => match us, hl with | [_, _], _ => rfl, F.kp, F.bindsA fun _ _ _ _ _ _ us hl => match us, hl with | [_, _], _ => rfl⟩
  have tk : Takes (cxOf (L2.CX P w) P w K mg base ["_law_cup_here", "_law_total", "_law_found", "_law_one", "_law_two"] "_law_tossed" (defScope (top 40)) (He.ga K "_law_tossed") cdv A outer s H E) (WK E) := takes_of rfl rfl rfl rfl
  have nd := s_tossed.nd
  exact rss_cons (rs_if (rt_cmp op_gt cmpS (re_ixA hr (re_var 0) (re_int)) (re_int)) (rss_cons (rs_set 2 nd (re_op op_mod modS (re_callTy call_int1 intFS rfl (y.free 4) boot_int (ra_cons (re_ixA hr (re_var 0) (re_int)) (ra_nil))) (re_var 1))) (rss_cons (rs_setA hr (re_op op_fdivA fdivS (re_ixA hr (re_var 0) (re_int)) (re_var 1)) (re_var 0) (re_int)) (rss_one (rs_retV (re_var 2))))) (rss_nil)) (rss_cons (rs_setA hr (re_op op_addA addS (re_ixA hr (re_var 0) (re_int)) (re_int)) (re_var 0) (re_int)) (rss_cons (rs_set 3 nd (re_op op_mod modS (re_callTy call_int1 intFS rfl (y.free 4) boot_int (ra_cons (re_op op_addA addS (re_ixA hr (re_var 0) (re_int)) (re_op op_mulB mulAS (re_int) (re_ixA hr (re_var 0) (re_int)))) (ra_nil))) (re_int))) (rss_cons (rs_set 4 nd (re_op op_addA addS (re_op op_addA addS (re_op op_mulB mulAS (re_op op_mod modS (re_callTy call_int1 intFS rfl (y.free 4) boot_int (ra_cons (re_op op_addA addS (re_op op_mulB mulAS (re_var 3) (re_var 3)) (re_int)) (ra_nil))) (re_int)) (re_int)) (re_var 3)) (re_op op_mulB mulAS (re_int) (re_ixA hr (re_var 0) (re_int))))) (rss_one (rs_retV (re_op op_mod modS (re_callTy call_int1 intFS rfl (y.free 4) boot_int (ra_cons (re_op op_fdivA fdivS (re_var 4) (re_int)) (ra_nil))) (re_var 1)))))))
theorem w_lot_drawn (y : HyL K mg) (o_tossed : OkF P w K mg (gx K w) 3 (He.ga K "_law_tossed") ["_law_cup_here", "_law_total"] m_tossed) : OkF P w K mg (gx K w) 4 (He.ga K "_law_lot_drawn") ["_law_cup_here", "_law_lot", "_law_least"] m_lot_drawn := by
  obtain ⟨fd, F⟩ := y.c.def_ 2 (d := d_lot_drawn) rfl
  refine ⟨fd, fun base => fn_ok F s_lot_drawn rfl rfl fun cdv A outer s H E hr => ?_, F.bindsN fun _ _ _ _ _ _ us hl => match us, hl with | [_, _, _], _ => rfl, F.kp, F.bindsA fun _ _ _ _ _ _ us hl => match us, hl with | [_, _, _], _ => rfl⟩
  have tk : Takes (cxOf (L2.CX P w) P w K mg base ["_law_cup_here", "_law_lot", "_law_least", "_law_left", "_law_found", "_law_turn"] "_law_lot_drawn" (defScope (top 42)) (He.ga K "_law_lot_drawn") cdv A outer s H E) (WK E) := takes_of rfl rfl rfl rfl
  have nd := s_lot_drawn.nd
  exact rss_cons (rs_parVL2 3 4 nd (re_callTy (call_list_of) listHS rfl (y.free 7) boot_list (ra_cons (re_var 1) (ra_nil))) (ra_nil)) (rss_cons (rs_for (passes_of rfl) rfl (ri_range rfl (y.free 3) (ra_cons (re_op op_addA addS (re_var 2) (re_callO o_tossed hr (y.glo 8) tk (ra_cons (re_var 0) (ra_cons (re_op op_addA addS (re_op op_subA subS (re_callB call_lenA lenAS rfl (y.free 0) boot_len (ra_cons (re_var 1) (ra_nil))) (re_var 2)) (re_int)) (ra_nil))))) (ra_nil))) (rg_name 5 nd) (rss_one (rs_app 4 (ra_cons (re_popR (re_var 3) (ra_cons (re_callO o_tossed hr (y.glo 8) tk (ra_cons (re_var 0) (ra_cons (re_callB call_lenA lenAS rfl (y.free 0) boot_len (ra_cons (re_var 3) (ra_nil))) (ra_nil)))) (ra_nil))) (ra_nil))))) (rss_one (rs_retF (re_callTy call_tupK tupKS rfl (y.free 10) boot_tuple (ra_cons (re_callB (cr_sortedA rfl (Room.u64 hr)) sortedAS rfl (y.free 9) boot_sorted (ra_cons (re_var 4) (ra_nil))) (ra_nil))))))
theorem w_one_of (y : HyL K mg) (o_tossed : OkF P w K mg (gx K w) 3 (He.ga K "_law_tossed") ["_law_cup_here", "_law_total"] m_tossed) : OkF P w K mg (gx K w) 4 (He.ga K "_law_one_of") ["_law_cup_here", "_law_items"] m_one_of := by
  obtain ⟨fd, F⟩ := y.c.def_ 3 (d := d_one_of) rfl
  refine ⟨fd, fun base => fn_ok F s_one_of rfl rfl fun cdv A outer s H E hr => ?_, F.bindsN fun _ _ _ _ _ _ us hl => match us, hl with | [_, _], _ => rfl, F.kp, F.bindsA fun _ _ _ _ _ _ us hl => match us, hl with | [_, _], _ => rfl⟩
  have tk : Takes (cxOf (L2.CX P w) P w K mg base ["_law_cup_here", "_law_items"] "_law_one_of" (defScope (top 41)) (He.ga K "_law_one_of") cdv A outer s H E) (WK E) := takes_of rfl rfl rfl rfl
  have nd := s_one_of.nd
  exact rss_one (rs_retV (re_ixA hr (re_var 1) (re_callO o_tossed hr (y.glo 8) tk (ra_cons (re_var 0) (ra_cons (re_callB call_lenA lenAS rfl (y.free 0) boot_len (ra_cons (re_var 1) (ra_nil))) (ra_nil))))))
theorem w_rows_drawn (y : HyL K mg) (o_tossed : OkF P w K mg (gx K w) 3 (He.ga K "_law_tossed") ["_law_cup_here", "_law_total"] m_tossed) : OkF P w K mg (gx K w) 4 (He.ga K "_law_rows_drawn") ["_law_cup_here", "_law_lot", "_law_most", "_law_wide"] m_rows_drawn := by
  obtain ⟨fd, F⟩ := y.c.def_ 4 (d := d_rows_drawn) rfl
  refine ⟨fd, fun base => fn_ok F s_rows_drawn rfl rfl fun cdv A outer s H E hr => ?_, F.bindsN fun _ _ _ _ _ _ us hl => match us, hl with | [_, _, _, _], _ => rfl, F.kp, F.bindsA fun _ _ _ _ _ _ us hl => match us, hl with | [_, _, _, _], _ => rfl⟩
  have tk : Takes (cxOf (L2.CX P w) P w K mg base ["_law_cup_here", "_law_lot", "_law_most", "_law_wide", "_law_found", "_law_way", "_law_turn", "_law_row", "_law_letter", "_law_number"] "_law_rows_drawn" (defScope (top 43)) (He.ga K "_law_rows_drawn") cdv A outer s H E) (WK E) := takes_of rfl rfl rfl rfl
  have nd := s_rows_drawn.nd
  exact rss_cons (rs_parLV2 4 5 nd (ra_nil) (re_callO o_tossed hr (y.glo 8) tk (ra_cons (re_var 0) (ra_cons (re_int) (ra_nil))))) (rss_cons (rs_for (passes_of rfl) rfl (ri_range rfl (y.free 3) (ra_cons (re_callO o_tossed hr (y.glo 8) tk (ra_cons (re_var 0) (ra_cons (re_op op_addA addS (re_var 2) (re_int)) (ra_nil)))) (ra_nil))) (rg_name 6 nd) (rss_cons (rs_setLcD 7 (own := [("_law_letter", 8)]) rfl nd (rd_seq (re_var 1)) (blkOk_by (by kernel_rfl)) (inis_name 8) (by decide) (fun _ _ _ _ _ => rg_name 8 nd) (fun _ _ _ _ _ => rts_nil) (fun _ _ _ _ _ => re_callO o_tossed hr (y.glo 8) takes0 (ra_cons (re_var 0) (ra_cons (re_var 3) (ra_nil))))) (rss_cons (rs_if (rt_w (rw_and (rt_cmp (op_eqD (Room.u64 hr)) eqS (re_var 5) (re_int)) (rw_and (rt_cmp (op_neE (Room.u64 hr)) neES (re_var 1) (re_tup (ra_nil))) (rw_and1 (rt_cmp op_gt cmpS (re_callO o_tossed hr (y.glo 8) tk (ra_cons (re_var 0) (ra_cons (re_int) (ra_nil)))) (re_int)))))) (rss_one (rs_setA hr (re_int) (re_var 7) (re_int))) (rss_nil)) (rss_cons (rs_if (rt_cmp (op_eqD (Room.u64 hr)) eqS (re_var 5) (re_int)) (rss_one (rs_setLcD 7 (own := [("_law_number", 9)]) rfl nd (rd_seq (re_var 7)) (blkOk_by (by kernel_rfl)) (inis_name 9) (by decide) (fun _ _ _ _ _ => rg_name 9 nd) (fun _ _ _ _ _ => rts_nil) (fun _ _ _ _ _ => re_if (rt_cmp (op_eqD (Room.u64 hr)) eqS (re_op op_mod modS (re_var 9) (re_int)) (re_int)) (re_op op_subA subS (re_int) (re_var 9)) (re_op op_subA subS (re_int) (re_var 9))))) (rss_nil)) (rss_cons (rs_app 4 (ra_cons (re_callTy (call_tupleA rfl) tupleHS rfl (y.free 10) boot_tuple (ra_cons (re_var 7) (ra_nil))) (ra_nil))) (rss_one (rs_if (rt_cmp (op_eqD (Room.u64 hr)) eqS (re_callO o_tossed hr (y.glo 8) tk (ra_cons (re_var 0) (ra_cons (re_int) (ra_nil)))) (re_int)) (rss_one (rs_app 4 (ra_cons (re_callTy (call_tupleA rfl) tupleHS rfl (y.free 10) boot_tuple (ra_cons (re_var 7) (ra_nil))) (ra_nil)))) (rss_nil)))))))) (rss_one (rs_retF (re_var 4))))
theorem w_is_letter (y : HyL K mg)  : OkF P w K mg (gx K w) 3 (He.ga K "is_letter") ["value"] m_is_letter := by
  obtain ⟨fd, F⟩ := y.c.def_ 5 (d := d_is_letter) rfl
  refine ⟨fd, fun base => fn_ok F s_is_letter rfl rfl fun cdv A outer s H E hr => ?_, F.bindsN fun _ _ _ _ _ _ us hl => match us, hl with | [_], _ => rfl, F.kp, F.bindsA fun _ _ _ _ _ _ us hl => match us, hl with | [_], _ => rfl⟩
  have tk : Takes (cxOf (L2.CX P w) P w K mg base ["value"] "is_letter" (defScope (top 7)) (He.ga K "is_letter") cdv A outer s H E) (WK E) := takes_of rfl rfl rfl rfl
  have nd := s_is_letter.nd
  exact rss_one (rs_retV (re_and (re_callB call_isiY (isiIS (clT_ok (exL_at y.x 0 rfl)) (exL_at y.x 1 rfl)) rfl (y.free 16) boot_isinstance (ra_cons (re_var 0) (ra_cons (re_ty .int rfl (y.free 4) boot_int) (ra_nil)))) (re_and (re_not (re_callB call_isiY (isiIS (clT_ok (exL_at y.x 0 rfl)) (exL_at y.x 1 rfl)) rfl (y.free 16) boot_isinstance (ra_cons (re_var 0) (ra_cons (re_ty .bool rfl (y.free 17) boot_bool) (ra_nil))))) (re_one (re_chain op_le cmpS op_lt cmpS rI0_mono (re_int) (re_var 0) (re_gint rfl (y.int 18)))))))
theorem w_is_lot (y : HyL K mg) (o_is_letter : OkF P w K mg (gx K w) 3 (He.ga K "is_letter") ["value"] m_is_letter) : OkF P w K mg (gx K w) 4 (He.ga K "is_lot") ["value"] m_is_lot := by
  obtain ⟨fd, F⟩ := y.c.def_ 6 (d := d_is_lot) rfl
  refine ⟨fd, fun base => fn_ok F s_is_lot rfl rfl fun cdv A outer s H E hr => ?_, F.bindsN fun _ _ _ _ _ _ us hl => match us, hl with | [_], _ => rfl, F.kp, F.bindsA fun _ _ _ _ _ _ us hl => match us, hl with | [_], _ => rfl⟩
  have tk : Takes (cxOf (L2.CX P w) P w K mg base ["value", "letter", "one", "other"] "is_lot" (defScope (top 8)) (He.ga K "is_lot") cdv A outer s H E) (WK E) := takes_of rfl rfl rfl rfl
  have nd := s_is_lot.nd
  exact rss_cons (rs_if (rt_w (rw_or (rt_not (rt_val (re_callB call_isiY (isiIS (clT_ok (exL_at y.x 0 rfl)) (exL_at y.x 1 rfl)) rfl (y.free 16) boot_isinstance (ra_cons (re_var 0) (ra_cons (re_ty .tuple rfl (y.free 10) boot_tuple) (ra_nil)))))) (rw_or1 (rt_not (rt_val (re_callB (cr_all rfl) allS rfl (y.free 20) boot_all (ra_cons (re_lc (own := [("letter", 1)]) rfl nd (ri_any (re_var 0)) (blkOk_by (by kernel_rfl)) (inis_name 1) (by decide) (fun _ _ _ _ _ => rg_name 1 nd) (fun _ _ _ _ _ => rts_nil) (fun _ _ _ _ _ => re_callO o_is_letter hr (y.glo 19) takes0 (ra_cons (re_var 1) (ra_nil)))) (ra_nil)))))))) (rss_one (rs_retV (re_bl))) (rss_nil)) (rss_one (rs_retV (re_callB (cr_all rfl) allS rfl (y.free 20) boot_all (ra_cons (re_lc (own := [("one", 2), ("other", 3)]) rfl nd (ri_zip rfl (y.free 21) (ra_cons (re_var 0) (ra_cons (re_slice (re_var 0) (ro_some (re_int)) (ro_none)) (ra_nil)))) (blkOk_by (by kernel_rfl)) (inis_tup (iniss_cons (inis_name 2) (iniss_cons (inis_name 3) (iniss_nil)))) (by decide) (fun _ _ _ _ _ => rg_tup (n := 2) rfl (rgs_cons (rg_name 2 nd) (rgs_cons (rg_name 3 nd) (rgs_nil))) (consG_len (consG_len (nilG_len)))) (fun _ _ _ _ _ => rts_nil) (fun _ _ _ _ _ => re_cmp op_lt cmpS (re_var 2) (re_var 3))) (ra_nil)))))
theorem w_require_lot (y : HyL K mg) (o_is_lot : OkF P w K mg (gx K w) 4 (He.ga K "is_lot") ["value"] m_is_lot) : OkF P w K mg (gx K w) 5 (He.ga K "require_lot") ["value"] m_require_lot := by
  obtain ⟨fd, F⟩ := y.c.def_ 7 (d := d_require_lot) rfl
  refine ⟨fd, fun base => fn_ok F s_require_lot rfl rfl fun cdv A outer s H E hr => ?_, F.bindsN fun _ _ _ _ _ _ us hl => match us, hl with | [_], _ => rfl, F.kp, F.bindsA fun _ _ _ _ _ _ us hl => match us, hl with | [_], _ => rfl⟩
  have tk : Takes (cxOf (L2.CX P w) P w K mg base ["value"] "require_lot" (defScope (top 11)) (He.ga K "require_lot") cdv A outer s H E) (WK E) := takes_of rfl rfl rfl rfl
  have nd := s_require_lot.nd
  exact rss_one (rs_if (rt_not (rt_val (re_callO o_is_lot hr (y.glo 22) tk (ra_cons (re_var 0) (ra_nil))))) (rss_one (rs_raise (c := 1) rfl tk (y.err 24) (y.glo 23))) (rss_nil))
theorem w_is_whole (y : HyL K mg)  : OkF P w K mg (gx K w) 3 (He.ga K "is_whole") ["value"] m_is_whole := by
  obtain ⟨fd, F⟩ := y.c.def_ 8 (d := d_is_whole) rfl
  refine ⟨fd, fun base => fn_ok F s_is_whole rfl rfl fun cdv A outer s H E hr => ?_, F.bindsN fun _ _ _ _ _ _ us hl => match us, hl with | [_], _ => rfl, F.kp, F.bindsA fun _ _ _ _ _ _ us hl => match us, hl with | [_], _ => rfl⟩
  have tk : Takes (cxOf (L2.CX P w) P w K mg base ["value"] "is_whole" (defScope (top 13)) (He.ga K "is_whole") cdv A outer s H E) (WK E) := takes_of rfl rfl rfl rfl
  have nd := s_is_whole.nd
  exact rss_one (rs_retV (re_and (re_callB call_isiY (isiIS (clT_ok (exL_at y.x 0 rfl)) (exL_at y.x 1 rfl)) rfl (y.free 16) boot_isinstance (ra_cons (re_var 0) (ra_cons (re_ty .int rfl (y.free 4) boot_int) (ra_nil)))) (re_one (re_not (re_callB call_isiY (isiIS (clT_ok (exL_at y.x 0 rfl)) (exL_at y.x 1 rfl)) rfl (y.free 16) boot_isinstance (ra_cons (re_var 0) (ra_cons (re_ty .bool rfl (y.free 17) boot_bool) (ra_nil))))))))
theorem w_is_small (y : HyL K mg) (o_is_whole : OkF P w K mg (gx K w) 3 (He.ga K "is_whole") ["value"] m_is_whole) : OkF P w K mg (gx K w) 4 (He.ga K "is_small") ["value"] m_is_small := by
  obtain ⟨fd, F⟩ := y.c.def_ 9 (d := d_is_small) rfl
  refine ⟨fd, fun base => fn_ok F s_is_small rfl rfl fun cdv A outer s H E hr => ?_, F.bindsN fun _ _ _ _ _ _ us hl => match us, hl with | [_], _ => rfl, F.kp, F.bindsA fun _ _ _ _ _ _ us hl => match us, hl with | [_], _ => rfl⟩
  have tk : Takes (cxOf (L2.CX P w) P w K mg base ["value"] "is_small" (defScope (top 19)) (He.ga K "is_small") cdv A outer s H E) (WK E) := takes_of rfl rfl rfl rfl
  have nd := s_is_small.nd
  exact rss_one (rs_retV (re_and (re_callO o_is_whole hr (y.glo 27) tk (ra_cons (re_var 0) (ra_nil))) (re_one (re_chain op_lt cmpS op_lt cmpS rI0_mono (re_neg (re_gint rfl (y.int 28))) (re_var 0) (re_gint rfl (y.int 28))))))
theorem w_is_row_in (y : HyL K mg) (o_is_small : OkF P w K mg (gx K w) 4 (He.ga K "is_small") ["value"] m_is_small) : OkF P w K mg (gx K w) 5 (He.ga K "is_row_in") ["lot", "value"] m_is_row_in := by
  obtain ⟨fd, F⟩ := y.c.def_ 10 (d := d_is_row_in) rfl
  refine ⟨fd, fun base => fn_ok F s_is_row_in rfl rfl fun cdv A outer s H E hr => ?_, F.bindsN fun _ _ _ _ _ _ us hl => match us, hl with | [_, _], _ => rfl, F.kp, F.bindsA fun _ _ _ _ _ _ us hl => match us, hl with | [_, _], _ => rfl⟩
  have tk : Takes (cxOf (L2.CX P w) P w K mg base ["lot", "value", "number"] "is_row_in" (defScope (top 20)) (He.ga K "is_row_in") cdv A outer s H E) (WK E) := takes_of rfl rfl rfl rfl
  have nd := s_is_row_in.nd
  exact rss_one (rs_retV (re_and (re_callB call_isiY (isiIS (clT_ok (exL_at y.x 0 rfl)) (exL_at y.x 1 rfl)) rfl (y.free 16) boot_isinstance (ra_cons (re_var 1) (ra_cons (re_ty .tuple rfl (y.free 10) boot_tuple) (ra_nil)))) (re_and (re_cmp (op_eqD (Room.u64 hr)) eqS (re_callB call_lenA lenAS rfl (y.free 0) boot_len (ra_cons (re_var 1) (ra_nil))) (re_callB call_lenA lenAS rfl (y.free 0) boot_len (ra_cons (re_var 0) (ra_nil)))) (re_one (re_callB (cr_all rfl) allS rfl (y.free 20) boot_all (ra_cons (re_lc (own := [("number", 2)]) rfl nd (ri_any (re_var 1)) (blkOk_by (by kernel_rfl)) (inis_name 2) (by decide) (fun _ _ _ _ _ => rg_name 2 nd) (fun _ _ _ _ _ => rts_nil) (fun _ _ _ _ _ => re_callO o_is_small hr (y.glo 29) takes0 (ra_cons (re_var 2) (ra_nil)))) (ra_nil)))))))
theorem w_are_rows (y : HyL K mg) (o_is_row_in : OkF P w K mg (gx K w) 5 (He.ga K "is_row_in") ["lot", "value"] m_is_row_in) : OkF P w K mg (gx K w) 6 (He.ga K "are_rows") ["lot", "value"] m_are_rows := by
  obtain ⟨fd, F⟩ := y.c.def_ 11 (d := d_are_rows) rfl
  refine ⟨fd, fun base => fn_ok F s_are_rows rfl rfl fun cdv A outer s H E hr => ?_, F.bindsN fun _ _ _ _ _ _ us hl => match us, hl with | [_, _], _ => rfl, F.kp, F.bindsA fun _ _ _ _ _ _ us hl => match us, hl with | [_, _], _ => rfl⟩
  have tk : Takes (cxOf (L2.CX P w) P w K mg base ["lot", "value", "row"] "are_rows" (defScope (top 21)) (He.ga K "are_rows") cdv A outer s H E) (WK E) := takes_of rfl rfl rfl rfl
  have nd := s_are_rows.nd
  exact rss_one (rs_retV (re_and (re_callB call_isiY (isiIS (clT_ok (exL_at y.x 0 rfl)) (exL_at y.x 1 rfl)) rfl (y.free 16) boot_isinstance (ra_cons (re_var 1) (ra_cons (re_ty .tuple rfl (y.free 10) boot_tuple) (ra_nil)))) (re_and (re_cmp op_le cmpS (re_callB call_lenA lenAS rfl (y.free 0) boot_len (ra_cons (re_var 1) (ra_nil))) (re_gint rfl (y.int 26))) (re_one (re_callB (cr_all rfl) allS rfl (y.free 20) boot_all (ra_cons (re_lc (own := [("row", 2)]) rfl nd (ri_any (re_var 1)) (blkOk_by (by kernel_rfl)) (inis_name 2) (by decide) (fun _ _ _ _ _ => rg_name 2 nd) (fun _ _ _ _ _ => rts_nil) (fun _ _ _ _ _ => re_callO o_is_row_in hr (y.glo 30) takes0 (ra_cons (re_var 0) (ra_cons (re_var 2) (ra_nil))))) (ra_nil)))))))
theorem w_lot_told (y : HyL K mg)  : OkF P w K mg (gx K w) 3 (He.ga K "lot_told") ["lot"] m_lot_told := by
  obtain ⟨fd, F⟩ := y.c.def_ 12 (d := d_lot_told) rfl
  refine ⟨fd, fun base => fn_ok F s_lot_told rfl rfl fun cdv A outer s H E hr => ?_, F.bindsN fun _ _ _ _ _ _ us hl => match us, hl with | [_], _ => rfl, F.kp, F.bindsA fun _ _ _ _ _ _ us hl => match us, hl with | [_], _ => rfl⟩
  have tk : Takes (cxOf (L2.CX P w) P w K mg base ["lot", "letter"] "lot_told" (defScope (top 23)) (He.ga K "lot_told") cdv A outer s H E) (WK E) := takes_of rfl rfl rfl rfl
  have nd := s_lot_told.nd
  exact rss_one (rs_retV (re_if (rt_cmp (op_neE (Room.u64 hr)) neES (re_var 0) (re_tup (ra_nil))) (re_join (re_str) (re_lc (own := [("letter", 1)]) rfl nd (ri_any (re_var 0)) (blkOk_by (by kernel_rfl)) (inis_name 1) (by decide) (fun _ _ _ _ _ => rg_name 1 nd) (fun _ _ _ _ _ => rts_nil) (fun _ _ _ _ _ => re_callTy call_strA strS rfl (y.free 34) boot_str (ra_cons (re_var 1) (ra_nil))))) (re_str)))
theorem w_Table_keep (y : HyL K mg) (o_lot_told : OkF P w K mg (gx K w) 3 (He.ga K "lot_told") ["lot"] m_lot_told) : OkF P w K mg (gx K w) 4 (He.fAd K ("Table", some "keep")) ["self", "lot", "rows"] m_Table_keep := by
  obtain ⟨fd, F⟩ := y.c.def_ 13 (d := d_Table_keep) rfl
  refine ⟨fd, fun base => fn_ok F s_Table_keep rfl rfl fun cdv A outer s H E hr => ?_, F.bindsN fun _ _ _ _ _ _ us hl => match us, hl with | [_, _, _], _ => rfl, F.kp, F.bindsA fun _ _ _ _ _ _ us hl => match us, hl with | [_, _, _], _ => rfl⟩
  have tk : Takes (cxOf (L2.CX P w) P w K mg base ["self", "lot", "rows", "row"] "Table.keep" (defScope (meth 22 2)) (He.fAd K ("Table", some "keep")) cdv A outer s H E) (WK E) := takes_of rfl rfl rfl rfl
  have nd := s_Table_keep.nd
  exact rss_cons (rs_attr (slT_ok (exL_at y.x 2 rfl)) (re_dcT (own := [("row", 3)]) hr rfl nd (ri_any (re_callB (cr_sortedA rfl (Room.u64 hr)) sortedAS rfl (y.free 9) boot_sorted (ra_cons (re_var 2) (ra_nil)))) (blkOk_by (by kernel_rfl)) (inis_name 3) (by decide) (fun _ _ _ _ _ => rg_name 3 nd) (fun _ _ _ _ _ => rts_nil) (fun _ _ _ _ _ => re_var 3) (fun _ _ _ _ _ => re_bl)) (re_var 0)) (rss_one (rs_attrs rfl (re_tup (ra_cons (re_var 1) (ra_cons (re_callTy (call_tupleA rfl) tupleAS rfl (y.free 10) boot_tuple (ra_cons (re_attr (slT_ok (exL_at y.x 2 rfl)) (re_var 0)) (ra_nil))) (ra_cons (re_callO o_lot_told hr (y.glo 35) tk (ra_cons (re_var 1) (ra_nil))) (ra_nil))))) (rtg_cons (slT_ok (exL_at y.x 5 rfl)) (re_var 0) (rtg_cons (slT_ok (exL_at y.x 4 rfl)) (re_var 0) (rtg_cons (slT_ok (exL_at y.x 3 rfl)) (re_var 0) (rtg_nil))))))
theorem w_Table_init (y : HyL K mg) (o_require_lot : OkF P w K mg (gx K w) 5 (He.ga K "require_lot") ["value"] m_require_lot) (o_are_rows : OkF P w K mg (gx K w) 6 (He.ga K "are_rows") ["lot", "value"] m_are_rows) (o_Table_keep : OkF P w K mg (gx K w) 4 (He.fAd K ("Table", some "keep")) ["self", "lot", "rows"] m_Table_keep) : OkF P w K mg (gx K w) 7 (He.fAd K ("Table", some "__init__")) ["self", "lot", "rows"] m_Table_init := by
  obtain ⟨fd, F⟩ := y.c.def_ 14 (d := d_Table_init) rfl
  refine ⟨fd, fun base => fn_ok F s_Table_init rfl rfl fun cdv A outer s H E hr => ?_, F.bindsN fun _ _ _ _ _ _ us hl => match us, hl with | [_, _, _], _ => rfl, F.kp, F.bindsA fun _ _ _ _ _ _ us hl => match us, hl with | [_, _, _], _ => rfl⟩
  have tk : Takes (cxOf (L2.CX P w) P w K mg base ["self", "lot", "rows"] "Table.__init__" (defScope (meth 22 1)) (He.fAd K ("Table", some "__init__")) cdv A outer s H E) (WK E) := takes_of rfl rfl rfl rfl
  have nd := s_Table_init.nd
  exact rss_cons (rs_expr (re_callO o_require_lot hr (y.glo 25) tk (ra_cons (re_var 1) (ra_nil)))) (rss_cons (rs_if (rt_not (rt_val (re_callO o_are_rows hr (y.glo 31) tk (ra_cons (re_var 1) (ra_cons (re_var 2) (ra_nil)))))) (rss_one (rs_raise (c := 2) rfl tk (y.err 33) (y.glo 32))) (rss_nil)) (rss_one (rs_expr (re_meths (show MethT P w K mg (gx K w) 4 "keep" [(0, m_Table_keep)] from methT_cons (c := 0) o_Table_keep (exL_at y.x 6 rfl) (exL_at y.x 7 rfl) (methT_nil)) hr tk (re_var 0) (ra_cons (re_var 1) (ra_cons (re_var 2) (ra_nil)))))))
theorem w_is_table (y : HyL K mg)  : OkF P w K mg (gx K w) 3 (He.ga K "is_table") ["value"] m_is_table := by
  obtain ⟨fd, F⟩ := y.c.def_ 15 (d := d_is_table) rfl
  refine ⟨fd, fun base => fn_ok F s_is_table rfl rfl fun cdv A outer s H E hr => ?_, F.bindsN fun _ _ _ _ _ _ us hl => match us, hl with | [_], _ => rfl, F.kp, F.bindsA fun _ _ _ _ _ _ us hl => match us, hl with | [_], _ => rfl⟩
  have tk : Takes (cxOf (L2.CX P w) P w K mg base ["value"] "is_table" (defScope (top 29)) (He.ga K "is_table") cdv A outer s H E) (WK E) := takes_of rfl rfl rfl rfl
  have nd := s_is_table.nd
  exact rss_one (rs_retV (re_callB call_isiY (isiCS (clT_ok (exL_at y.x 0 rfl)) (exL_at y.x 9 rfl)) rfl (y.free 16) boot_isinstance (ra_cons (re_var 0) (ra_cons (re_adr rfl (y.glo 15)) (ra_nil)))))
theorem w_require_table (y : HyL K mg) (o_is_table : OkF P w K mg (gx K w) 3 (He.ga K "is_table") ["value"] m_is_table) : OkF P w K mg (gx K w) 4 (He.ga K "require_table") ["value"] m_require_table := by
  obtain ⟨fd, F⟩ := y.c.def_ 16 (d := d_require_table) rfl
  refine ⟨fd, fun base => fn_ok F s_require_table rfl rfl fun cdv A outer s H E hr => ?_, F.bindsN fun _ _ _ _ _ _ us hl => match us, hl with | [_], _ => rfl, F.kp, F.bindsA fun _ _ _ _ _ _ us hl => match us, hl with | [_], _ => rfl⟩
  have tk : Takes (cxOf (L2.CX P w) P w K mg base ["value"] "require_table" (defScope (top 30)) (He.ga K "require_table") cdv A outer s H E) (WK E) := takes_of rfl rfl rfl rfl
  have nd := s_require_table.nd
  exact rss_one (rs_if (rt_not (rt_val (re_callO o_is_table hr (y.glo 36) tk (ra_cons (re_var 0) (ra_nil))))) (rss_one (rs_raise (c := 2) rfl tk (y.err 33) (y.glo 32))) (rss_nil))
theorem w_within_in (y : HyL K mg)  : OkF P w K mg (gx K w) 3 (He.ga K "within_in") ["one", "other"] m_within_in := by
  obtain ⟨fd, F⟩ := y.c.def_ 17 (d := d_within_in) rfl
  refine ⟨fd, fun base => fn_ok F s_within_in rfl rfl fun cdv A outer s H E hr => ?_, F.bindsN fun _ _ _ _ _ _ us hl => match us, hl with | [_, _], _ => rfl, F.kp, F.bindsA fun _ _ _ _ _ _ us hl => match us, hl with | [_, _], _ => rfl⟩
  have tk : Takes (cxOf (L2.CX P w) P w K mg base ["one", "other", "letter"] "within_in" (defScope (top 10)) (He.ga K "within_in") cdv A outer s H E) (WK E) := takes_of rfl rfl rfl rfl
  have nd := s_within_in.nd
  exact rss_one (rs_retV (re_callB (cr_all rfl) allS rfl (y.free 20) boot_all (ra_cons (re_lc (own := [("letter", 2)]) rfl nd (ri_any (re_var 0)) (blkOk_by (by kernel_rfl)) (inis_name 2) (by decide) (fun _ _ _ _ _ => rg_name 2 nd) (fun _ _ _ _ _ => rts_nil) (fun _ _ _ _ _ => re_cmp (op_inA hr) inAS (re_var 2) (re_var 1))) (ra_nil))))
theorem w_need_within (y : HyL K mg) (o_within_in : OkF P w K mg (gx K w) 3 (He.ga K "within_in") ["one", "other"] m_within_in) : OkF P w K mg (gx K w) 4 (He.ga K "need_within") ["low", "high"] m_need_within := by
  obtain ⟨fd, F⟩ := y.c.def_ 18 (d := d_need_within) rfl
  refine ⟨fd, fun base => fn_ok F s_need_within rfl rfl fun cdv A outer s H E hr => ?_, F.bindsN fun _ _ _ _ _ _ us hl => match us, hl with | [_, _], _ => rfl, F.kp, F.bindsA fun _ _ _ _ _ _ us hl => match us, hl with | [_, _], _ => rfl⟩
  have tk : Takes (cxOf (L2.CX P w) P w K mg base ["low", "high"] "need_within" (defScope (top 32)) (He.ga K "need_within") cdv A outer s H E) (WK E) := takes_of rfl rfl rfl rfl
  have nd := s_need_within.nd
  exact rss_one (rs_if (rt_not (rt_val (re_callO o_within_in hr (y.glo 38) tk (ra_cons (re_var 0) (ra_cons (re_var 1) (ra_nil)))))) (rss_one (rs_raise (c := 3) rfl tk (y.err 40) (y.glo 39))) (rss_nil))
theorem w_require_table_and_lots (y : HyL K mg) (o_require_table : OkF P w K mg (gx K w) 4 (He.ga K "require_table") ["value"] m_require_table) (o_require_lot : OkF P w K mg (gx K w) 5 (He.ga K "require_lot") ["value"] m_require_lot) (o_need_within : OkF P w K mg (gx K w) 4 (He.ga K "need_within") ["low", "high"] m_need_within) : OkF P w K mg (gx K w) 6 (He.ga K "require_table_and_lots") ["table", "low", "high"] m_require_table_and_lots := by
  obtain ⟨fd, F⟩ := y.c.def_ 19 (d := d_require_table_and_lots) rfl
  refine ⟨fd, fun base => fn_ok F s_require_table_and_lots rfl rfl fun cdv A outer s H E hr => ?_, F.bindsN fun _ _ _ _ _ _ us hl => match us, hl with | [_, _, _], _ => rfl, F.kp, F.bindsA fun _ _ _ _ _ _ us hl => match us, hl with | [_, _, _], _ => rfl⟩
  have tk : Takes (cxOf (L2.CX P w) P w K mg base ["table", "low", "high"] "require_table_and_lots" (defScope (top 33)) (He.ga K "require_table_and_lots") cdv A outer s H E) (WK E) := takes_of rfl rfl rfl rfl
  have nd := s_require_table_and_lots.nd
  exact rss_cons (rs_expr (re_callO o_require_table hr (y.glo 37) tk (ra_cons (re_var 0) (ra_nil)))) (rss_cons (rs_expr (re_callO o_require_lot hr (y.glo 25) tk (ra_cons (re_var 1) (ra_nil)))) (rss_cons (rs_expr (re_callO o_require_lot hr (y.glo 25) tk (ra_cons (re_var 2) (ra_nil)))) (rss_cons (rs_expr (re_callO o_need_within hr (y.glo 41) tk (ra_cons (re_var 1) (ra_cons (re_var 2) (ra_nil))))) (rss_one (rs_expr (re_callO o_need_within hr (y.glo 41) tk (ra_cons (re_var 2) (ra_cons (re_attr (slT_ok (exL_at y.x 5 rfl)) (re_var 0)) (ra_nil)))))))))
theorem w_places_in (y : HyL K mg)  : OkF P w K mg (gx K w) 3 (He.ga K "places_in") ["lot", "some"] m_places_in := by
  obtain ⟨fd, F⟩ := y.c.def_ 20 (d := d_places_in) rfl
  refine ⟨fd, fun base => fn_ok F s_places_in rfl rfl fun cdv A outer s H E hr => ?_, F.bindsN fun _ _ _ _ _ _ us hl => match us, hl with | [_, _], _ => rfl, F.kp, F.bindsA fun _ _ _ _ _ _ us hl => match us, hl with | [_, _], _ => rfl⟩
  have tk : Takes (cxOf (L2.CX P w) P w K mg base ["lot", "some", "letter"] "places_in" (defScope (top 17)) (He.ga K "places_in") cdv A outer s H E) (WK E) := takes_of rfl rfl rfl rfl
  have nd := s_places_in.nd
  exact rss_one (rs_retV (re_lc (own := [("letter", 2)]) rfl nd (ri_any (re_var 1)) (blkOk_by (by kernel_rfl)) (inis_name 2) (by decide) (fun _ _ _ _ _ => rg_name 2 nd) (fun _ _ _ _ _ => rts_nil) (fun _ _ _ _ _ => re_index (re_var 0) (ra_cons (re_var 2) (ra_nil)))))
theorem w_part_in (y : HyL K mg)  : OkF P w K mg (gx K w) 3 (He.ga K "part_in") ["row", "places"] m_part_in := by
  obtain ⟨fd, F⟩ := y.c.def_ 21 (d := d_part_in) rfl
  refine ⟨fd, fun base => fn_ok F s_part_in rfl rfl fun cdv A outer s H E hr => ?_, F.bindsN fun _ _ _ _ _ _ us hl => match us, hl with | [_, _], _ => rfl, F.kp, F.bindsA fun _ _ _ _ _ _ us hl => match us, hl with | [_, _], _ => rfl⟩
  have tk : Takes (cxOf (L2.CX P w) P w K mg base ["row", "places", "place"] "part_in" (defScope (top 18)) (He.ga K "part_in") cdv A outer s H E) (WK E) := takes_of rfl rfl rfl rfl
  have nd := s_part_in.nd
  exact rss_one (rs_retV (re_callTy (call_tupleA rfl) tupleAS rfl (y.free 10) boot_tuple (ra_cons (re_lc (own := [("place", 2)]) rfl nd (ri_any (re_var 1)) (blkOk_by (by kernel_rfl)) (inis_name 2) (by decide) (fun _ _ _ _ _ => rg_name 2 nd) (fun _ _ _ _ _ => rts_nil) (fun _ _ _ _ _ => re_ixA hr (re_var 0) (re_var 2))) (ra_nil))))
theorem w_made_table (y : HyL K mg) (o_Table_init : OkF P w K mg (gx K w) 7 (He.fAd K ("Table", some "__init__")) ["self", "lot", "rows"] m_Table_init) (o_Table_keep : OkF P w K mg (gx K w) 4 (He.fAd K ("Table", some "keep")) ["self", "lot", "rows"] m_Table_keep) : OkF P w K mg (gx K w) 9 (He.ga K "made_table") ["lot", "rows"] m_made_table := by
  obtain ⟨fd, F⟩ := y.c.def_ 22 (d := d_made_table) rfl
  refine ⟨fd, fun base => fn_ok F s_made_table rfl rfl fun cdv A outer s H E hr => ?_, F.bindsN fun _ _ _ _ _ _ us hl => match us, hl with | [_, _], _ => rfl, F.kp, F.bindsA fun _ _ _ _ _ _ us hl => match us, hl with | [_, _], _ => rfl⟩
  have tk : Takes (cxOf (L2.CX P w) P w K mg base ["lot", "rows", "found"] "made_table" (defScope (top 24)) (He.ga K "made_table") cdv A outer s H E) (WK E) := takes_of rfl rfl rfl rfl
  have nd := s_made_table.nd
  exact rss_cons (rs_set 2 nd (re_make (c := 0) o_Table_init (mkB_ok (exL_at y.x 8 rfl)) hr (y.glo 15) tk (ra_cons (re_tup (ra_nil)) (ra_cons (re_tup (ra_nil)) (ra_nil))))) (rss_cons (rs_expr (re_meths (show MethT P w K mg (gx K w) 4 "keep" [(0, m_Table_keep)] from methT_cons (c := 0) o_Table_keep (exL_at y.x 6 rfl) (exL_at y.x 7 rfl) (methT_nil)) hr tk (re_var 2) (ra_cons (re_var 0) (ra_cons (re_var 1) (ra_nil))))) (rss_one (rs_retV (re_var 2))))
theorem w_project_in (y : HyL K mg) (o_places_in : OkF P w K mg (gx K w) 3 (He.ga K "places_in") ["lot", "some"] m_places_in) (o_part_in : OkF P w K mg (gx K w) 3 (He.ga K "part_in") ["row", "places"] m_part_in) (o_made_table : OkF P w K mg (gx K w) 9 (He.ga K "made_table") ["lot", "rows"] m_made_table) : OkF P w K mg (gx K w) 10 (He.ga K "project_in") ["table", "lot"] m_project_in := by
  obtain ⟨fd, F⟩ := y.c.def_ 23 (d := d_project_in) rfl
  refine ⟨fd, fun base => fn_ok F s_project_in rfl rfl fun cdv A outer s H E hr => ?_, F.bindsN fun _ _ _ _ _ _ us hl => match us, hl with | [_, _], _ => rfl, F.kp, F.bindsA fun _ _ _ _ _ _ us hl => match us, hl with | [_, _], _ => rfl⟩
  have tk : Takes (cxOf (L2.CX P w) P w K mg base ["table", "lot", "places", "row"] "project_in" (defScope (top 25)) (He.ga K "project_in") cdv A outer s H E) (WK E) := takes_of rfl rfl rfl rfl
  have nd := s_project_in.nd
  exact rss_cons (rs_set 2 nd (re_callO o_places_in hr (y.glo 43) tk (ra_cons (re_attr (slT_ok (exL_at y.x 5 rfl)) (re_var 0)) (ra_cons (re_var 1) (ra_nil))))) (rss_one (rs_retV (re_callO o_made_table hr (y.glo 45) tk (ra_cons (re_var 1) (ra_cons (re_lc (own := [("row", 3)]) rfl nd (ri_any (re_attr (slT_ok (exL_at y.x 4 rfl)) (re_var 0))) (blkOk_by (by kernel_rfl)) (inis_name 3) (by decide) (fun _ _ _ _ _ => rg_name 3 nd) (fun _ _ _ _ _ => rts_nil) (fun _ _ _ _ _ => re_callO o_part_in hr (y.glo 44) takes0 (ra_cons (re_var 3) (ra_cons (re_var 2) (ra_nil))))) (ra_nil))))))
theorem w_above_in (y : HyL K mg) (o_places_in : OkF P w K mg (gx K w) 3 (He.ga K "places_in") ["lot", "some"] m_places_in) (o_project_in : OkF P w K mg (gx K w) 10 (He.ga K "project_in") ["table", "lot"] m_project_in) (o_part_in : OkF P w K mg (gx K w) 3 (He.ga K "part_in") ["row", "places"] m_part_in) : OkF P w K mg (gx K w) 11 (He.ga K "above_in") ["table", "low", "high"] m_above_in := by
  obtain ⟨fd, F⟩ := y.c.def_ 24 (d := d_above_in) rfl
  refine ⟨fd, fun base => fn_ok F s_above_in rfl rfl fun cdv A outer s H E hr => ?_, F.bindsN fun _ _ _ _ _ _ us hl => match us, hl with | [_, _, _], _ => rfl, F.kp, F.bindsA fun _ _ _ _ _ _ us hl => match us, hl with | [_, _, _], _ => rfl⟩
  have tk : Takes (cxOf (L2.CX P w) P w K mg base ["table", "low", "high", "places", "found", "row", "below"] "above_in" (defScope (top 26)) (He.ga K "above_in") cdv A outer s H E) (WK E) := takes_of rfl rfl rfl rfl
  have nd := s_above_in.nd
  exact rss_cons (rs_asg (re_tup (ra_cons (re_callO o_places_in hr (y.glo 43) tk (ra_cons (re_var 2) (ra_cons (re_var 1) (ra_nil)))) (ra_cons (re_newDT) (ra_nil)))) (rg_tup (n := 2) rfl (rgs_cons (rg_name 3 nd) (rgs_cons (rg_name 4 nd) (rgs_nil))) (consG_len (consG_len (nilG_len))))) (rss_cons (rs_for (passes_of rfl) rfl (ri_any (re_attr (slT_ok (exL_at y.x 4 rfl)) (re_callO o_project_in hr (y.glo 46) tk (ra_cons (re_var 0) (ra_cons (re_var 2) (ra_nil)))))) (rg_name 5 nd) (rss_cons (rs_set 6 nd (re_callO o_part_in hr (y.glo 44) tk (ra_cons (re_var 5) (ra_cons (re_var 3) (ra_nil))))) (rss_one (rs_setA hr (re_op op_addA addS (re_get hr (re_var 4) (re_var 6) (re_int) ⟨rfl, rfl, rfl, rfl⟩) (re_int)) (re_var 4) (re_var 6))))) (rss_one (rs_retV (re_dcT (own := [("row", 5)]) hr rfl nd (ri_any (re_callB (cr_sortedA rfl (Room.u64 hr)) sortedAS rfl (y.free 9) boot_sorted (ra_cons (re_var 4) (ra_nil)))) (blkOk_by (by kernel_rfl)) (inis_name 5) (by decide) (fun _ _ _ _ _ => rg_name 5 nd) (fun _ _ _ _ _ => rts_nil) (fun _ _ _ _ _ => re_var 5) (fun _ _ _ _ _ => re_ixA hr (re_var 4) (re_var 5))))))
theorem w_above (y : HyL K mg) (o_require_table_and_lots : OkF P w K mg (gx K w) 6 (He.ga K "require_table_and_lots") ["table", "low", "high"] m_require_table_and_lots) (o_above_in : OkF P w K mg (gx K w) 11 (He.ga K "above_in") ["table", "low", "high"] m_above_in) : OkF P w K mg (gx K w) 12 (He.ga K "above") ["table", "low", "high"] m_above := by
  obtain ⟨fd, F⟩ := y.c.def_ 25 (d := d_above) rfl
  refine ⟨fd, fun base => fn_ok F s_above rfl rfl fun cdv A outer s H E hr => ?_, F.bindsN fun _ _ _ _ _ _ us hl => match us, hl with | [_, _, _], _ => rfl, F.kp, F.bindsA fun _ _ _ _ _ _ us hl => match us, hl with | [_, _, _], _ => rfl⟩
  have tk : Takes (cxOf (L2.CX P w) P w K mg base ["table", "low", "high"] "above" (defScope (top 36)) (He.ga K "above") cdv A outer s H E) (WK E) := takes_of rfl rfl rfl rfl
  have nd := s_above.nd
  exact rss_cons (rs_expr (re_callO o_require_table_and_lots hr (y.glo 42) tk (ra_cons (re_var 0) (ra_cons (re_var 1) (ra_cons (re_var 2) (ra_nil)))))) (rss_one (rs_retV (re_callO o_above_in hr (y.glo 47) tk (ra_cons (re_var 0) (ra_cons (re_var 1) (ra_cons (re_var 2) (ra_nil)))))))
theorem w_part (y : HyL K mg)  : OkF P w K mg (gx K w) 3 (He.ga K "_law_part") ["_law_row", "_law_lot", "_law_some"] m_part := by
  obtain ⟨fd, F⟩ := y.c.def_ 26 (d := d_part) rfl
  refine ⟨fd, fun base => fn_ok F s_part rfl rfl fun cdv A outer s H E hr => ?_, F.bindsN fun _ _ _ _ _ _ us hl => match us, hl with | [_, _, _], _ => rfl, F.kp, F.bindsA fun _ _ _ _ _ _ us hl => match us, hl with | [_, _, _], _ => rfl⟩
  have tk : Takes (cxOf (L2.CX P w) P w K mg base ["_law_row", "_law_lot", "_law_some", "_law_letter"] "_law_part" (defScope (top 44)) (He.ga K "_law_part") cdv A outer s H E) (WK E) := takes_of rfl rfl rfl rfl
  have nd := s_part.nd
  exact rss_one (rs_retV (re_callTy (call_tupleA rfl) tupleAS rfl (y.free 10) boot_tuple (ra_cons (re_lc (own := [("_law_letter", 3)]) rfl nd (ri_any (re_var 2)) (blkOk_by (by kernel_rfl)) (inis_name 3) (by decide) (fun _ _ _ _ _ => rg_name 3 nd) (fun _ _ _ _ _ => rts_nil) (fun _ _ _ _ _ => re_ixA hr (re_var 0) (re_index (re_var 1) (ra_cons (re_var 3) (ra_nil))))) (ra_nil))))
theorem w_parts (y : HyL K mg) (o_part : OkF P w K mg (gx K w) 3 (He.ga K "_law_part") ["_law_row", "_law_lot", "_law_some"] m_part) : OkF P w K mg (gx K w) 4 (He.ga K "_law_parts") ["_law_rows", "_law_lot", "_law_some"] m_parts := by
  obtain ⟨fd, F⟩ := y.c.def_ 27 (d := d_parts) rfl
  refine ⟨fd, fun base => fn_ok F s_parts rfl rfl fun cdv A outer s H E hr => ?_, F.bindsN fun _ _ _ _ _ _ us hl => match us, hl with | [_, _, _], _ => rfl, F.kp, F.bindsA fun _ _ _ _ _ _ us hl => match us, hl with | [_, _, _], _ => rfl⟩
  have tk : Takes (cxOf (L2.CX P w) P w K mg base ["_law_rows", "_law_lot", "_law_some", "_law_row"] "_law_parts" (defScope (top 45)) (He.ga K "_law_parts") cdv A outer s H E) (WK E) := takes_of rfl rfl rfl rfl
  have nd := s_parts.nd
  exact rss_one (rs_retV (re_callTy (call_tupleA rfl) tupleAS rfl (y.free 10) boot_tuple (ra_cons (re_sortedSetT rfl hr rfl (y.free 9) rfl (y.free 14) (ra_cons (re_lc (own := [("_law_row", 3)]) rfl nd (ri_any (re_var 0)) (blkOk_by (by kernel_rfl)) (inis_name 3) (by decide) (fun _ _ _ _ _ => rg_name 3 nd) (fun _ _ _ _ _ => rts_nil) (fun _ _ _ _ _ => re_callO o_part hr (y.glo 49) takes0 (ra_cons (re_var 3) (ra_cons (re_var 1) (ra_cons (re_var 2) (ra_nil)))))) (ra_nil))) (ra_nil))))
theorem w_own_above (y : HyL K mg) (o_parts : OkF P w K mg (gx K w) 4 (He.ga K "_law_parts") ["_law_rows", "_law_lot", "_law_some"] m_parts) (o_part : OkF P w K mg (gx K w) 3 (He.ga K "_law_part") ["_law_row", "_law_lot", "_law_some"] m_part) : OkF P w K mg (gx K w) 5 (He.ga K "_law_above") ["_law_rows", "_law_lot", "_law_low", "_law_high"] m_own_above := by
  obtain ⟨fd, F⟩ := y.c.def_ 28 (d := d_own_above) rfl
  refine ⟨fd, fun base => fn_ok F s_own_above rfl rfl fun cdv A outer s H E hr => ?_, F.bindsN fun _ _ _ _ _ _ us hl => match us, hl with | [_, _, _, _], _ => rfl, F.kp, F.bindsA fun _ _ _ _ _ _ us hl => match us, hl with | [_, _, _, _], _ => rfl⟩
  have tk : Takes (cxOf (L2.CX P w) P w K mg base ["_law_rows", "_law_lot", "_law_low", "_law_high", "_law_found", "_law_row", "_law_below"] "_law_above" (defScope (top 47)) (He.ga K "_law_above") cdv A outer s H E) (WK E) := takes_of rfl rfl rfl rfl
  have nd := s_own_above.nd
  exact rss_cons (rs_set 4 nd (re_newDT)) (rss_cons (rs_for (passes_of rfl) rfl (ri_any (re_callO o_parts hr (y.glo 50) tk (ra_cons (re_var 0) (ra_cons (re_var 1) (ra_cons (re_var 3) (ra_nil)))))) (rg_name 5 nd) (rss_cons (rs_set 6 nd (re_callO o_part hr (y.glo 49) tk (ra_cons (re_var 5) (ra_cons (re_var 3) (ra_cons (re_var 2) (ra_nil)))))) (rss_one (rs_setA hr (re_op op_addA addS (re_get hr (re_var 4) (re_var 6) (re_int) ⟨rfl, rfl, rfl, rfl⟩) (re_int)) (re_var 4) (re_var 6))))) (rss_one (rs_retV (re_var 4))))
theorem w_degree_in (y : HyL K mg) (o_above_in : OkF P w K mg (gx K w) 11 (He.ga K "above_in") ["table", "low", "high"] m_above_in) : OkF P w K mg (gx K w) 12 (He.ga K "degree_in") ["table", "low", "high"] m_degree_in := by
  obtain ⟨fd, F⟩ := y.c.def_ 29 (d := d_degree_in) rfl
  refine ⟨fd, fun base => fn_ok F s_degree_in rfl rfl fun cdv A outer s H E hr => ?_, F.bindsN fun _ _ _ _ _ _ us hl => match us, hl with | [_, _, _], _ => rfl, F.kp, F.bindsA fun _ _ _ _ _ _ us hl => match us, hl with | [_, _, _], _ => rfl⟩
  have tk : Takes (cxOf (L2.CX P w) P w K mg base ["table", "low", "high"] "degree_in" (defScope (top 27)) (He.ga K "degree_in") cdv A outer s H E) (WK E) := takes_of rfl rfl rfl rfl
  have nd := s_degree_in.nd
  exact rss_one (rs_retV (re_maxD rfl rfl (y.free 2) (re_listVals rfl (re_callO o_above_in hr (y.glo 47) tk (ra_cons (re_var 0) (ra_cons (re_var 1) (ra_cons (re_var 2) (ra_nil))))) rfl (y.free 7)) (re_int)))
theorem w_degree (y : HyL K mg) (o_require_table_and_lots : OkF P w K mg (gx K w) 6 (He.ga K "require_table_and_lots") ["table", "low", "high"] m_require_table_and_lots) (o_degree_in : OkF P w K mg (gx K w) 12 (He.ga K "degree_in") ["table", "low", "high"] m_degree_in) : OkF P w K mg (gx K w) 13 (He.ga K "degree") ["table", "low", "high"] m_degree := by
  obtain ⟨fd, F⟩ := y.c.def_ 30 (d := d_degree) rfl
  refine ⟨fd, fun base => fn_ok F s_degree rfl rfl fun cdv A outer s H E hr => ?_, F.bindsN fun _ _ _ _ _ _ us hl => match us, hl with | [_, _, _], _ => rfl, F.kp, F.bindsA fun _ _ _ _ _ _ us hl => match us, hl with | [_, _, _], _ => rfl⟩
  have tk : Takes (cxOf (L2.CX P w) P w K mg base ["table", "low", "high"] "degree" (defScope (top 35)) (He.ga K "degree") cdv A outer s H E) (WK E) := takes_of rfl rfl rfl rfl
  have nd := s_degree.nd
  exact rss_cons (rs_expr (re_callO o_require_table_and_lots hr (y.glo 42) tk (ra_cons (re_var 0) (ra_cons (re_var 1) (ra_cons (re_var 2) (ra_nil)))))) (rss_one (rs_retV (re_callO o_degree_in hr (y.glo 52) tk (ra_cons (re_var 0) (ra_cons (re_var 1) (ra_cons (re_var 2) (ra_nil)))))))
theorem w_own_degree (y : HyL K mg) (o_own_above : OkF P w K mg (gx K w) 5 (He.ga K "_law_above") ["_law_rows", "_law_lot", "_law_low", "_law_high"] m_own_above) : OkF P w K mg (gx K w) 6 (He.ga K "_law_degree") ["_law_rows", "_law_lot", "_law_low", "_law_high"] m_own_degree := by
  obtain ⟨fd, F⟩ := y.c.def_ 31 (d := d_own_degree) rfl
  refine ⟨fd, fun base => fn_ok F s_own_degree rfl rfl fun cdv A outer s H E hr => ?_, F.bindsN fun _ _ _ _ _ _ us hl => match us, hl with | [_, _, _, _], _ => rfl, F.kp, F.bindsA fun _ _ _ _ _ _ us hl => match us, hl with | [_, _, _, _], _ => rfl⟩
  have tk : Takes (cxOf (L2.CX P w) P w K mg base ["_law_rows", "_law_lot", "_law_low", "_law_high"] "_law_degree" (defScope (top 48)) (He.ga K "_law_degree") cdv A outer s H E) (WK E) := takes_of rfl rfl rfl rfl
  have nd := s_own_degree.nd
  exact rss_one (rs_retV (re_callB (cr_max rfl) max1S rfl (y.free 2) boot_max (ra_cons (re_op op_addA addS (re_lst (ra_cons (re_int) (ra_nil))) (re_listVals rfl (re_callO o_own_above hr (y.glo 51) tk (ra_cons (re_var 0) (ra_cons (re_var 1) (ra_cons (re_var 2) (ra_cons (re_var 3) (ra_nil)))))) rfl (y.free 7))) (ra_nil))))
theorem w_Table_len (y : HyL K mg)  : OkF P w K mg (gx K w) 3 (He.fAd K ("Table", some "__len__")) ["self"] m_Table_len := by
  obtain ⟨fd, F⟩ := y.c.def_ 32 (d := d_Table_len) rfl
  refine ⟨fd, fun base => fn_ok F s_Table_len rfl rfl fun cdv A outer s H E hr => ?_, F.bindsN fun _ _ _ _ _ _ us hl => match us, hl with | [_], _ => rfl, F.kp, F.bindsA fun _ _ _ _ _ _ us hl => match us, hl with | [_], _ => rfl⟩
  have tk : Takes (cxOf (L2.CX P w) P w K mg base ["self"] "Table.__len__" (defScope (meth 22 5)) (He.fAd K ("Table", some "__len__")) cdv A outer s H E) (WK E) := takes_of rfl rfl rfl rfl
  have nd := s_Table_len.nd
  exact rss_one (rs_retV (re_callB call_lenA lenAS rfl (y.free 0) boot_len (ra_cons (re_attr (slT_ok (exL_at y.x 4 rfl)) (re_var 0)) (ra_nil))))
theorem w_project (y : HyL K mg) (o_require_table : OkF P w K mg (gx K w) 4 (He.ga K "require_table") ["value"] m_require_table) (o_require_lot : OkF P w K mg (gx K w) 5 (He.ga K "require_lot") ["value"] m_require_lot) (o_need_within : OkF P w K mg (gx K w) 4 (He.ga K "need_within") ["low", "high"] m_need_within) (o_project_in : OkF P w K mg (gx K w) 10 (He.ga K "project_in") ["table", "lot"] m_project_in) : OkF P w K mg (gx K w) 11 (He.ga K "project") ["table", "lot"] m_project := by
  obtain ⟨fd, F⟩ := y.c.def_ 33 (d := d_project) rfl
  refine ⟨fd, fun base => fn_ok F s_project rfl rfl fun cdv A outer s H E hr => ?_, F.bindsN fun _ _ _ _ _ _ us hl => match us, hl with | [_, _], _ => rfl, F.kp, F.bindsA fun _ _ _ _ _ _ us hl => match us, hl with | [_, _], _ => rfl⟩
  have tk : Takes (cxOf (L2.CX P w) P w K mg base ["table", "lot"] "project" (defScope (top 34)) (He.ga K "project") cdv A outer s H E) (WK E) := takes_of rfl rfl rfl rfl
  have nd := s_project.nd
  exact rss_cons (rs_expr (re_callO o_require_table hr (y.glo 37) tk (ra_cons (re_var 0) (ra_nil)))) (rss_cons (rs_expr (re_callO o_require_lot hr (y.glo 25) tk (ra_cons (re_var 1) (ra_nil)))) (rss_cons (rs_expr (re_callO o_need_within hr (y.glo 41) tk (ra_cons (re_var 1) (ra_cons (re_attr (slT_ok (exL_at y.x 5 rfl)) (re_var 0)) (ra_nil))))) (rss_one (rs_retV (re_callO o_project_in hr (y.glo 46) tk (ra_cons (re_var 0) (ra_cons (re_var 1) (ra_nil))))))))
theorem w_both (y : HyL K mg)  : OkF P w K mg (gx K w) 3 (He.ga K "_law_both") ["_law_one", "_law_other"] m_both := by
  obtain ⟨fd, F⟩ := y.c.def_ 34 (d := d_both) rfl
  refine ⟨fd, fun base => fn_ok F s_both rfl rfl fun cdv A outer s H E hr => ?_, F.bindsN fun _ _ _ _ _ _ us hl => match us, hl with | [_, _], _ => rfl, F.kp, F.bindsA fun _ _ _ _ _ _ us hl => match us, hl with | [_, _], _ => rfl⟩
  have tk : Takes (cxOf (L2.CX P w) P w K mg base ["_law_one", "_law_other"] "_law_both" (defScope (top 46)) (He.ga K "_law_both") cdv A outer s H E) (WK E) := takes_of rfl rfl rfl rfl
  have nd := s_both.nd
  exact rss_one (rs_retV (re_callTy call_tupK tupKS rfl (y.free 10) boot_tuple (ra_cons (re_sortedSetT rfl hr rfl (y.free 9) rfl (y.free 14) (ra_cons (re_op op_addA addKS (re_var 0) (re_var 1)) (ra_nil))) (ra_nil))))
theorem w_Table_rows (y : HyL K mg)  : OkF P w K mg (gx K w) 3 (pgA K ("Table", "rows")) ["self"] m_Table_rows := by
  obtain ⟨fd, F⟩ := y.p.def_ 0 (p := p_Table_rows) rfl
  refine ⟨fd, fun base => fn_ok F s_Table_rows rfl rfl fun cdv A outer s H E hr => ?_, F.bindsN fun _ _ _ _ _ _ us hl => match us, hl with | [_], _ => rfl, F.kp, F.bindsA fun _ _ _ _ _ _ us hl => match us, hl with | [_], _ => rfl⟩
  have tk : Takes (cxOf (L2.CX P w) P w K mg base ["self"] "Table.rows" (defScope (meth 22 4)) (pgA K ("Table", "rows")) cdv A outer s H E) (WK E) := takes_of rfl rfl rfl rfl
  have nd := s_Table_rows.nd
  exact rss_one (rs_retV (re_attr (slT_ok (exL_at y.x 4 rfl)) (re_var 0)))
theorem w_require_on (y : HyL K mg) (o_is_row_in : OkF P w K mg (gx K w) 5 (He.ga K "is_row_in") ["lot", "value"] m_is_row_in) : OkF P w K mg (gx K w) 6 (He.ga K "require_on") ["lot", "row"] m_require_on := by
  obtain ⟨fd, F⟩ := y.c.def_ 35 (d := d_require_on) rfl
  refine ⟨fd, fun base => fn_ok F s_require_on rfl rfl fun cdv A outer s H E hr => ?_, F.bindsN fun _ _ _ _ _ _ us hl => match us, hl with | [_, _], _ => rfl, F.kp, F.bindsA fun _ _ _ _ _ _ us hl => match us, hl with | [_, _], _ => rfl⟩
  have tk : Takes (cxOf (L2.CX P w) P w K mg base ["lot", "row"] "require_on" (defScope (top 31)) (He.ga K "require_on") cdv A outer s H E) (WK E) := takes_of rfl rfl rfl rfl
  have nd := s_require_on.nd
  exact rss_one (rs_if (rt_not (rt_val (re_callO o_is_row_in hr (y.glo 30) tk (ra_cons (re_var 0) (ra_cons (re_var 1) (ra_nil)))))) (rss_one (rs_raise (c := 2) rfl tk (y.err 33) (y.glo 32))) (rss_nil))
theorem w_rest_in (y : HyL K mg)  : OkF P w K mg (gx K w) 3 (He.ga K "rest_in") ["one", "other"] m_rest_in := by
  obtain ⟨fd, F⟩ := y.c.def_ 36 (d := d_rest_in) rfl
  refine ⟨fd, fun base => fn_ok F s_rest_in rfl rfl fun cdv A outer s H E hr => ?_, F.bindsN fun _ _ _ _ _ _ us hl => match us, hl with | [_, _], _ => rfl, F.kp, F.bindsA fun _ _ _ _ _ _ us hl => match us, hl with | [_, _], _ => rfl⟩
  have tk : Takes (cxOf (L2.CX P w) P w K mg base ["one", "other", "letter"] "rest_in" (defScope (top 9)) (He.ga K "rest_in") cdv A outer s H E) (WK E) := takes_of rfl rfl rfl rfl
  have nd := s_rest_in.nd
  exact rss_one (rs_retV (re_callTy call_tupK tupKS rfl (y.free 10) boot_tuple (ra_cons (re_lc (own := [("letter", 2)]) rfl nd (ri_any (re_var 0)) (blkOk_by (by kernel_rfl)) (inis_name 2) (by decide) (fun _ _ _ _ _ => rg_name 2 nd) (fun _ _ _ _ _ => rts_one (rt_cmp (op_notInA hr) inAS (re_var 2) (re_var 1))) (fun _ _ _ _ _ => re_var 2)) (ra_nil))))
theorem w_section_in (y : HyL K mg) (o_rest_in : OkF P w K mg (gx K w) 3 (He.ga K "rest_in") ["one", "other"] m_rest_in) (o_places_in : OkF P w K mg (gx K w) 3 (He.ga K "places_in") ["lot", "some"] m_places_in) (o_part_in : OkF P w K mg (gx K w) 3 (He.ga K "part_in") ["row", "places"] m_part_in) (o_made_table : OkF P w K mg (gx K w) 9 (He.ga K "made_table") ["lot", "rows"] m_made_table) : OkF P w K mg (gx K w) 10 (He.ga K "section_in") ["table", "lot", "row"] m_section_in := by
  obtain ⟨fd, F⟩ := y.c.def_ 37 (d := d_section_in) rfl
  refine ⟨fd, fun base => fn_ok F s_section_in rfl rfl fun cdv A outer s H E hr => ?_, F.bindsN fun _ _ _ _ _ _ us hl => match us, hl with | [_, _, _], _ => rfl, F.kp, F.bindsA fun _ _ _ _ _ _ us hl => match us, hl with | [_, _, _], _ => rfl⟩
  have tk : Takes (cxOf (L2.CX P w) P w K mg base ["table", "lot", "row", "rest", "here", "there", "one"] "section_in" (defScope (top 28)) (He.ga K "section_in") cdv A outer s H E) (WK E) := takes_of rfl rfl rfl rfl
  have nd := s_section_in.nd
  exact rss_cons (rs_set 3 nd (re_callO o_rest_in hr (y.glo 58) tk (ra_cons (re_attr (slT_ok (exL_at y.x 5 rfl)) (re_var 0)) (ra_cons (re_var 1) (ra_nil))))) (rss_cons (rs_asg (re_tup (ra_cons (re_callO o_places_in hr (y.glo 43) tk (ra_cons (re_attr (slT_ok (exL_at y.x 5 rfl)) (re_var 0)) (ra_cons (re_var 1) (ra_nil)))) (ra_cons (re_callO o_places_in hr (y.glo 43) tk (ra_cons (re_attr (slT_ok (exL_at y.x 5 rfl)) (re_var 0)) (ra_cons (re_var 3) (ra_nil)))) (ra_nil)))) (rg_tup (n := 2) rfl (rgs_cons (rg_name 4 nd) (rgs_cons (rg_name 5 nd) (rgs_nil))) (consG_len (consG_len (nilG_len))))) (rss_one (rs_retV (re_callO o_made_table hr (y.glo 45) tk (ra_cons (re_var 3) (ra_cons (re_lc (own := [("one", 6)]) rfl nd (ri_any (re_attr (slT_ok (exL_at y.x 4 rfl)) (re_var 0))) (blkOk_by (by kernel_rfl)) (inis_name 6) (by decide) (fun _ _ _ _ _ => rg_name 6 nd) (fun _ _ _ _ _ => rts_one (rt_cmp (op_eqD (Room.u64 hr)) eqS (re_callO o_part_in hr (y.glo 44) takes0 (ra_cons (re_var 6) (ra_cons (re_var 4) (ra_nil)))) (re_var 2))) (fun _ _ _ _ _ => re_callO o_part_in hr (y.glo 44) takes0 (ra_cons (re_var 6) (ra_cons (re_var 5) (ra_nil))))) (ra_nil)))))))
theorem w_section (y : HyL K mg) (o_require_table : OkF P w K mg (gx K w) 4 (He.ga K "require_table") ["value"] m_require_table) (o_require_lot : OkF P w K mg (gx K w) 5 (He.ga K "require_lot") ["value"] m_require_lot) (o_need_within : OkF P w K mg (gx K w) 4 (He.ga K "need_within") ["low", "high"] m_need_within) (o_require_on : OkF P w K mg (gx K w) 6 (He.ga K "require_on") ["lot", "row"] m_require_on) (o_section_in : OkF P w K mg (gx K w) 10 (He.ga K "section_in") ["table", "lot", "row"] m_section_in) : OkF P w K mg (gx K w) 11 (He.ga K "section") ["table", "lot", "row"] m_section := by
  obtain ⟨fd, F⟩ := y.c.def_ 38 (d := d_section) rfl
  refine ⟨fd, fun base => fn_ok F s_section rfl rfl fun cdv A outer s H E hr => ?_, F.bindsN fun _ _ _ _ _ _ us hl => match us, hl with | [_, _, _], _ => rfl, F.kp, F.bindsA fun _ _ _ _ _ _ us hl => match us, hl with | [_, _, _], _ => rfl⟩
  have tk : Takes (cxOf (L2.CX P w) P w K mg base ["table", "lot", "row"] "section" (defScope (top 37)) (He.ga K "section") cdv A outer s H E) (WK E) := takes_of rfl rfl rfl rfl
  have nd := s_section.nd
  exact rss_cons (rs_expr (re_callO o_require_table hr (y.glo 37) tk (ra_cons (re_var 0) (ra_nil)))) (rss_cons (rs_expr (re_callO o_require_lot hr (y.glo 25) tk (ra_cons (re_var 1) (ra_nil)))) (rss_cons (rs_expr (re_callO o_need_within hr (y.glo 41) tk (ra_cons (re_var 1) (ra_cons (re_attr (slT_ok (exL_at y.x 5 rfl)) (re_var 0)) (ra_nil))))) (rss_cons (rs_expr (re_callO o_require_on hr (y.glo 57) tk (ra_cons (re_var 1) (ra_cons (re_var 2) (ra_nil))))) (rss_one (rs_retV (re_callO o_section_in hr (y.glo 59) tk (ra_cons (re_var 0) (ra_cons (re_var 1) (ra_cons (re_var 2) (ra_nil))))))))))
theorem w_right (y : HyL K mg) (o_lot_drawn : OkF P w K mg (gx K w) 4 (He.ga K "_law_lot_drawn") ["_law_cup_here", "_law_lot", "_law_least"] m_lot_drawn) (o_one_of : OkF P w K mg (gx K w) 4 (He.ga K "_law_one_of") ["_law_cup_here", "_law_items"] m_one_of) (o_rows_drawn : OkF P w K mg (gx K w) 4 (He.ga K "_law_rows_drawn") ["_law_cup_here", "_law_lot", "_law_most", "_law_wide"] m_rows_drawn) (o_Table_init : OkF P w K mg (gx K w) 7 (He.fAd K ("Table", some "__init__")) ["self", "lot", "rows"] m_Table_init) (o_above : OkF P w K mg (gx K w) 12 (He.ga K "above") ["table", "low", "high"] m_above) (o_own_above : OkF P w K mg (gx K w) 5 (He.ga K "_law_above") ["_law_rows", "_law_lot", "_law_low", "_law_high"] m_own_above) (o_degree : OkF P w K mg (gx K w) 13 (He.ga K "degree") ["table", "low", "high"] m_degree) (o_own_degree : OkF P w K mg (gx K w) 6 (He.ga K "_law_degree") ["_law_rows", "_law_lot", "_law_low", "_law_high"] m_own_degree) (o_Table_len : OkF P w K mg (gx K w) 3 (He.fAd K ("Table", some "__len__")) ["self"] m_Table_len) (o_project : OkF P w K mg (gx K w) 11 (He.ga K "project") ["table", "lot"] m_project) (o_both : OkF P w K mg (gx K w) 3 (He.ga K "_law_both") ["_law_one", "_law_other"] m_both) (o_tossed : OkF P w K mg (gx K w) 3 (He.ga K "_law_tossed") ["_law_cup_here", "_law_total"] m_tossed) (o_Table_rows : OkF P w K mg (gx K w) 3 (pgA K ("Table", "rows")) ["self"] m_Table_rows) (o_section : OkF P w K mg (gx K w) 11 (He.ga K "section") ["table", "lot", "row"] m_section) : OkF P w K mg (gx K w) 14 (He.ga K "_law_right") ["_law_cup_here"] m_right := by
  obtain ⟨fd, F⟩ := y.c.def_ 39 (d := d_right) rfl
  refine ⟨fd, fun base => fn_ok F s_right rfl rfl fun cdv A outer s H E hr => ?_, F.bindsN fun _ _ _ _ _ _ us hl => match us, hl with | [_], _ => rfl, F.kp, F.bindsA fun _ _ _ _ _ _ us hl => match us, hl with | [_], _ => rfl⟩
  have tk : Takes (cxOf (L2.CX P w) P w K mg base ["_law_cup_here", "_law_lot", "_law_rows", "_law_table", "_law_turn", "_law_high", "_law_mid", "_law_low", "_law_told", "_law_many", "_law_here", "_law_there", "_law_more", "_law_some", "_law_sections", "_law_row"] "_law_right" (defScope (top 49)) (He.ga K "_law_right") cdv A outer s H E) (WK E) := takes_of rfl rfl rfl rfl
  have nd := s_right.nd
  exact rss_cons (rs_set 1 nd (re_callO o_lot_drawn hr (y.glo 11) tk (ra_cons (re_var 0) (ra_cons (re_tup (ra_cons (re_int) (ra_cons (re_int) (ra_cons (re_int) (ra_cons (re_int) (ra_cons (re_int) (ra_cons (re_int) (ra_nil)))))))) (ra_cons (re_int) (ra_nil)))))) (rss_cons (rs_set 2 nd (re_callTy (call_tupleA rfl) tupleAS rfl (y.free 10) boot_tuple (ra_cons (re_sortedSetT rfl hr rfl (y.free 9) rfl (y.free 14) (ra_cons (re_callO o_rows_drawn hr (y.glo 13) tk (ra_cons (re_var 0) (ra_cons (re_var 1) (ra_cons (re_callO o_one_of hr (y.glo 12) tk (ra_cons (re_var 0) (ra_cons (re_lst (ra_cons (re_int) (ra_cons (re_int) (ra_cons (re_int) (ra_cons (re_int) (ra_nil)))))) (ra_nil)))) (ra_cons (re_callO o_one_of hr (y.glo 12) tk (ra_cons (re_var 0) (ra_cons (re_lst (ra_cons (re_int) (ra_cons (re_int) (ra_cons (re_int) (ra_nil))))) (ra_nil)))) (ra_nil)))))) (ra_nil))) (ra_nil)))) (rss_cons (rs_set 3 nd (re_make (c := 0) o_Table_init (mkB_ok (exL_at y.x 8 rfl)) hr (y.glo 15) tk (ra_cons (re_var 1) (ra_cons (re_var 2) (ra_nil))))) (rss_cons (rs_for (passes_of rfl) rfl (ri_range rfl (y.free 3) (ra_cons (re_int) (ra_nil))) (rg_name 4 nd) (rss_cons (rs_set 5 nd (re_callO o_lot_drawn hr (y.glo 11) tk (ra_cons (re_var 0) (ra_cons (re_var 1) (ra_cons (re_int) (ra_nil)))))) (rss_cons (rs_set 6 nd (re_callO o_lot_drawn hr (y.glo 11) tk (ra_cons (re_var 0) (ra_cons (re_var 5) (ra_cons (re_int) (ra_nil)))))) (rss_cons (rs_set 7 nd (re_callO o_lot_drawn hr (y.glo 11) tk (ra_cons (re_var 0) (ra_cons (re_var 6) (ra_cons (re_int) (ra_nil)))))) (rss_cons (rs_set 8 nd (re_callO o_above hr (y.glo 48) tk (ra_cons (re_var 3) (ra_cons (re_var 7) (ra_cons (re_var 5) (ra_nil)))))) (rss_cons (rs_if (rt_w (rw_or (rt_cmp (op_neP hr) eqPS (re_var 8) (re_callO o_own_above hr (y.glo 51) tk (ra_cons (re_var 2) (ra_cons (re_var 1) (ra_cons (re_var 7) (ra_cons (re_var 5) (ra_nil))))))) (rw_or1 (rt_cmp (op_neD (Room.u64 hr)) neS (re_callTy (call_listDT rfl) listDS rfl (y.free 7) boot_list (ra_cons (re_var 8) (ra_nil))) (re_callB (cr_sortedA rfl (Room.u64 hr)) sortedAS rfl (y.free 9) boot_sorted (ra_cons (re_var 8) (ra_nil))))))) (rss_one (rs_retV (re_bl))) (rss_nil)) (rss_cons (rs_set 9 nd (re_callO o_degree hr (y.glo 53) tk (ra_cons (re_var 3) (ra_cons (re_var 7) (ra_cons (re_var 5) (ra_nil)))))) (rss_cons (rs_if (rt_w (rw_or (rt_cmp (op_neD (Room.u64 hr)) neS (re_var 9) (re_callO o_own_degree hr (y.glo 54) tk (ra_cons (re_var 2) (ra_cons (re_var 1) (ra_cons (re_var 7) (ra_cons (re_var 5) (ra_nil))))))) (rw_or1 (rt_cmp op_gt cmpS (re_var 9) (re_op op_mulB mulAS (re_callO o_degree hr (y.glo 53) tk (ra_cons (re_var 3) (ra_cons (re_var 7) (ra_cons (re_var 6) (ra_nil))))) (re_callO o_degree hr (y.glo 53) tk (ra_cons (re_var 3) (ra_cons (re_var 6) (ra_cons (re_var 5) (ra_nil)))))))))) (rss_one (rs_retV (re_bl))) (rss_nil)) (rss_cons (rs_par 10 11 rfl nd (ra_cons (re_callB (call_lenI (g := gx K w) (j := 3) hr) (lenIS (show MethT P w K mg (gx K w) 3 "__len__" [(0, m_Table_len)] from methT_cons (c := 0) o_Table_len (exL_at y.x 6 rfl) (exL_at y.x 10 rfl) (methT_nil))) rfl (y.free 0) boot_len (ra_cons (re_callO o_project hr (y.glo 55) tk (ra_cons (re_var 3) (ra_cons (re_var 7) (ra_nil)))) (ra_nil))) (ra_cons (re_callB (call_lenI (g := gx K w) (j := 3) hr) (lenIS (show MethT P w K mg (gx K w) 3 "__len__" [(0, m_Table_len)] from methT_cons (c := 0) o_Table_len (exL_at y.x 6 rfl) (exL_at y.x 10 rfl) (methT_nil))) rfl (y.free 0) boot_len (ra_cons (re_callO o_project hr (y.glo 55) tk (ra_cons (re_var 3) (ra_cons (re_var 5) (ra_nil)))) (ra_nil))) (ra_nil)))) (rss_cons (rs_if (rt_w (rw_or (rt_cmp op_gt cmpS (re_var 11) (re_op op_mulB mulAS (re_var 10) (re_var 9))) (rw_or (rt_cmp op_lt cmpS (re_var 11) (re_callB (call_max2 rfl) int2S rfl (y.free 2) boot_max (ra_cons (re_var 10) (ra_cons (re_var 9) (ra_nil))))) (rw_or1 (rt_cmp (op_neD (Room.u64 hr)) neS (re_callO o_degree hr (y.glo 53) tk (ra_cons (re_var 3) (ra_cons (re_ktup (ra_nil)) (ra_cons (re_var 5) (ra_nil))))) (re_var 11)))))) (rss_one (rs_retV (re_bl))) (rss_nil)) (rss_cons (rs_set 12 nd (re_callO o_lot_drawn hr (y.glo 11) tk (ra_cons (re_var 0) (ra_cons (re_var 1) (ra_cons (re_int) (ra_nil)))))) (rss_cons (rs_if (rt_cmp op_gt cmpS (re_callO o_degree hr (y.glo 53) tk (ra_cons (re_var 3) (ra_cons (re_callO o_both hr (y.glo 56) tk (ra_cons (re_var 7) (ra_cons (re_var 12) (ra_nil)))) (ra_cons (re_callO o_both hr (y.glo 56) tk (ra_cons (re_var 5) (ra_cons (re_var 12) (ra_nil)))) (ra_nil))))) (re_var 9)) (rss_one (rs_retV (re_bl))) (rss_nil)) (rss_cons (rs_set 13 nd (re_make (c := 0) o_Table_init (mkB_ok (exL_at y.x 8 rfl)) hr (y.glo 15) tk (ra_cons (re_var 1) (ra_cons (re_callTy (call_tupleA rfl) tupleAS rfl (y.free 10) boot_tuple (ra_cons (re_lc (own := [("_law_row", 15)]) rfl nd (ri_any (re_var 2)) (blkOk_by (by kernel_rfl)) (inis_name 15) (by decide) (fun _ _ _ _ _ => rg_name 15 nd) (fun _ _ _ _ _ => rts_one (rt_cmp op_gt cmpS (re_callO o_tossed hr (y.glo 8) takes0 (ra_cons (re_var 0) (ra_cons (re_int) (ra_nil)))) (re_int))) (fun _ _ _ _ _ => re_var 15)) (ra_nil))) (ra_nil))))) (rss_cons (rs_if (rt_cmp op_gt cmpS (re_callO o_degree hr (y.glo 53) tk (ra_cons (re_var 13) (ra_cons (re_var 7) (ra_cons (re_var 5) (ra_nil))))) (re_var 9)) (rss_one (rs_retV (re_bl))) (rss_nil)) (rss_cons (rs_setLc 14 (own := [("_law_row", 15)]) rfl nd (ri_any (re_prop (show PropT P w K mg (gx K w) 3 "rows" [(0, m_Table_rows)] from propT_cons (c := 0) o_Table_rows (exL_at y.x 6 rfl) (exL_at y.x 11 rfl) (propT_nil)) hr (re_callO o_project hr (y.glo 55) tk (ra_cons (re_var 3) (ra_cons (re_var 7) (ra_nil)))))) (blkOk_by (by kernel_rfl)) (inis_name 15) (by decide) (fun _ _ _ _ _ => rg_name 15 nd) (fun _ _ _ _ _ => rts_nil) (fun _ _ _ _ _ => re_callB (call_lenI (g := gx K w) (j := 3) hr) (lenIS (show MethT P w K mg (gx K w) 3 "__len__" [(0, m_Table_len)] from methT_cons (c := 0) o_Table_len (exL_at y.x 6 rfl) (exL_at y.x 10 rfl) (methT_nil))) rfl (y.free 0) boot_len (ra_cons (re_callO o_section hr (y.glo 60) takes0 (ra_cons (re_var 3) (ra_cons (re_var 7) (ra_cons (re_var 15) (ra_nil))))) (ra_nil)))) (rss_one (rs_if (rt_cmp (op_neD (Room.u64 hr)) neS (re_callB (cr_max rfl) max1S rfl (y.free 2) boot_max (ra_cons (re_op op_addA addS (re_lst (ra_cons (re_int) (ra_nil))) (re_var 14)) (ra_nil))) (re_callO o_degree hr (y.glo 53) tk (ra_cons (re_var 3) (ra_cons (re_var 7) (ra_cons (re_var 1) (ra_nil)))))) (rss_one (rs_retV (re_bl))) (rss_nil)))))))))))))))))) (rss_one (rs_retV (re_bl))))))
theorem w_law (y : HyL K mg) (o_cup : OkF P w K mg (gx K w) 3 (He.ga K "_law_cup") ["_law_script", "_law_spot"] m_cup) (o_right : OkF P w K mg (gx K w) 14 (He.ga K "_law_right") ["_law_cup_here"] m_right) (o_Table_init : OkF P w K mg (gx K w) 7 (He.fAd K ("Table", some "__init__")) ["self", "lot", "rows"] m_Table_init) (o_degree : OkF P w K mg (gx K w) 13 (He.ga K "degree") ["table", "low", "high"] m_degree) (o_above : OkF P w K mg (gx K w) 12 (He.ga K "above") ["table", "low", "high"] m_above) : OkF P w K mg (gx K w) 15 (He.ga K "law") ["_law_script"] m_law := by
  obtain ⟨fd, F⟩ := y.c.def_ 40 (d := d_law) rfl
  refine ⟨fd, fun base => fn_ok F s_law rfl rfl fun cdv A outer s H E hr => ?_, F.bindsN fun _ _ _ _ _ _ us hl => match us, hl with | [_], _ => rfl, F.kp, F.bindsA fun _ _ _ _ _ _ us hl => match us, hl with | [_], _ => rfl⟩
  have tk : Takes (cxOf (L2.CX P w) P w K mg base ["_law_script", "_law_spot", "_law_cup_here", "_law_turn", "_law_table", "_law_told"] "law" (defScope (top 50)) (He.ga K "law") cdv A outer s H E) (WK E) := takes_of rfl rfl rfl rfl
  have nd := s_law.nd
  exact rss_cons (rs_for (passes_of rfl) rfl (ri_range rfl (y.free 3) (ra_cons (re_callB (call_max2 rfl) int2S rfl (y.free 2) boot_max (ra_cons (re_int) (ra_cons (re_callB (call_min2 rfl) int2S rfl (y.free 1) boot_min (ra_cons (re_int) (ra_cons (re_callB call_lenA lenAS rfl (y.free 0) boot_len (ra_cons (re_var 0) (ra_nil))) (ra_nil)))) (ra_nil)))) (ra_nil))) (rg_name 1 nd) (rss_cons (rs_set 2 nd (re_callO o_cup hr (y.glo 6) tk (ra_cons (re_var 0) (ra_cons (re_var 1) (ra_nil))))) (rss_one (rs_for (passes_of rfl) rfl (ri_range rfl (y.free 3) (ra_cons (re_int) (ra_nil))) (rg_name 3 nd) (rss_one (rs_if (rt_not (rt_val (re_callO o_right hr (y.glo 61) tk (ra_cons (re_var 2) (ra_nil))))) (rss_one (rs_retV (re_bl))) (rss_nil))))))) (rss_cons (rs_set 4 nd (re_make (c := 0) o_Table_init (mkB_ok (exL_at y.x 8 rfl)) hr (y.glo 15) tk (ra_cons (re_ktup (ra_cons (re_int) (ra_cons (re_int) (ra_nil)))) (ra_cons (re_tup (ra_cons (re_tup (ra_cons (re_int) (ra_cons (re_int) (ra_nil)))) (ra_cons (re_tup (ra_cons (re_int) (ra_cons (re_int) (ra_nil)))) (ra_cons (re_tup (ra_cons (re_int) (ra_cons (re_int) (ra_nil)))) (ra_nil))))) (ra_nil))))) (rss_cons (rs_set 5 nd (re_lst (ra_cons (re_callO o_degree hr (y.glo 53) tk (ra_cons (re_var 4) (ra_cons (re_ktup (ra_cons (re_int) (ra_nil))) (ra_cons (re_ktup (ra_cons (re_int) (ra_cons (re_int) (ra_nil)))) (ra_nil))))) (ra_cons (re_callO o_degree hr (y.glo 53) tk (ra_cons (re_var 4) (ra_cons (re_ktup (ra_nil)) (ra_cons (re_ktup (ra_cons (re_int) (ra_nil))) (ra_nil))))) (ra_cons (re_callO o_degree hr (y.glo 53) tk (ra_cons (re_var 4) (ra_cons (re_ktup (ra_cons (re_int) (ra_nil))) (ra_cons (re_ktup (ra_cons (re_int) (ra_nil))) (ra_nil))))) (ra_cons (re_callO o_degree hr (y.glo 53) tk (ra_cons (re_make (c := 0) o_Table_init (mkB_ok (exL_at y.x 8 rfl)) hr (y.glo 15) tk (ra_cons (re_ktup (ra_cons (re_int) (ra_nil))) (ra_cons (re_tup (ra_nil)) (ra_nil)))) (ra_cons (re_ktup (ra_nil)) (ra_cons (re_ktup (ra_nil)) (ra_nil))))) (ra_nil))))))) (rss_one (rs_retV (re_and (re_cmp (op_eqD (Room.u64 hr)) eqS (re_var 5) (re_lst (ra_cons (re_int) (ra_cons (re_int) (ra_cons (re_int) (ra_cons (re_int) (ra_nil))))))) (re_and (re_cmp (op_eqP hr) eqPS (re_callO o_above hr (y.glo 48) tk (ra_cons (re_var 4) (ra_cons (re_ktup (ra_cons (re_int) (ra_nil))) (ra_cons (re_ktup (ra_cons (re_int) (ra_cons (re_int) (ra_nil)))) (ra_nil))))) (re_dlitT hr (rp_cons (re_tup (ra_cons (re_int) (ra_nil))) (re_int) (rp_cons (re_tup (ra_cons (re_int) (ra_nil))) (re_int) (rp_nil))))) (re_one (re_cmp (op_eqP hr) eqPS (re_callO o_above hr (y.glo 48) tk (ra_cons (re_var 4) (ra_cons (re_ktup (ra_nil)) (ra_cons (re_ktup (ra_nil)) (ra_nil))))) (re_dlitT hr (rp_cons (re_tup (ra_nil)) (re_int) (rp_nil)))))))))))
theorem w_all (y : HyL K mg) : OkF P w K mg (gx K w) 15 (He.ga K "law") ["_law_script"] m_law := by
  have o_cup := w_cup (P := P) (w := w) y 
  have o_tossed := w_tossed (P := P) (w := w) y 
  have o_lot_drawn := w_lot_drawn (P := P) (w := w) y o_tossed
  have o_one_of := w_one_of (P := P) (w := w) y o_tossed
  have o_rows_drawn := w_rows_drawn (P := P) (w := w) y o_tossed
  have o_is_letter := w_is_letter (P := P) (w := w) y 
  have o_is_lot := w_is_lot (P := P) (w := w) y o_is_letter
  have o_require_lot := w_require_lot (P := P) (w := w) y o_is_lot
  have o_is_whole := w_is_whole (P := P) (w := w) y 
  have o_is_small := w_is_small (P := P) (w := w) y o_is_whole
  have o_is_row_in := w_is_row_in (P := P) (w := w) y o_is_small
  have o_are_rows := w_are_rows (P := P) (w := w) y o_is_row_in
  have o_lot_told := w_lot_told (P := P) (w := w) y 
  have o_Table_keep := w_Table_keep (P := P) (w := w) y o_lot_told
  have o_Table_init := w_Table_init (P := P) (w := w) y o_require_lot o_are_rows o_Table_keep
  have o_is_table := w_is_table (P := P) (w := w) y 
  have o_require_table := w_require_table (P := P) (w := w) y o_is_table
  have o_within_in := w_within_in (P := P) (w := w) y 
  have o_need_within := w_need_within (P := P) (w := w) y o_within_in
  have o_require_table_and_lots := w_require_table_and_lots (P := P) (w := w) y o_require_table o_require_lot o_need_within
  have o_places_in := w_places_in (P := P) (w := w) y 
  have o_part_in := w_part_in (P := P) (w := w) y 
  have o_made_table := w_made_table (P := P) (w := w) y o_Table_init o_Table_keep
  have o_project_in := w_project_in (P := P) (w := w) y o_places_in o_part_in o_made_table
  have o_above_in := w_above_in (P := P) (w := w) y o_places_in o_project_in o_part_in
  have o_above := w_above (P := P) (w := w) y o_require_table_and_lots o_above_in
  have o_part := w_part (P := P) (w := w) y 
  have o_parts := w_parts (P := P) (w := w) y o_part
  have o_own_above := w_own_above (P := P) (w := w) y o_parts o_part
  have o_degree_in := w_degree_in (P := P) (w := w) y o_above_in
  have o_degree := w_degree (P := P) (w := w) y o_require_table_and_lots o_degree_in
  have o_own_degree := w_own_degree (P := P) (w := w) y o_own_above
  have o_Table_len := w_Table_len (P := P) (w := w) y 
  have o_project := w_project (P := P) (w := w) y o_require_table o_require_lot o_need_within o_project_in
  have o_both := w_both (P := P) (w := w) y 
  have o_Table_rows := w_Table_rows (P := P) (w := w) y 
  have o_require_on := w_require_on (P := P) (w := w) y o_is_row_in
  have o_rest_in := w_rest_in (P := P) (w := w) y 
  have o_section_in := w_section_in (P := P) (w := w) y o_rest_in o_places_in o_part_in o_made_table
  have o_section := w_section (P := P) (w := w) y o_require_table o_require_lot o_need_within o_require_on o_section_in
  have o_right := w_right (P := P) (w := w) y o_lot_drawn o_one_of o_rows_drawn o_Table_init o_above o_own_above o_degree o_own_degree o_Table_len o_project o_both o_tossed o_Table_rows o_section
  have o_law := w_law (P := P) (w := w) y o_cup o_right o_Table_init o_degree o_above
  exact o_law
end
end K05
set_option Elab.async false
set_option linter.all false
set_option maxRecDepth 100000
set_option pp.maxSteps 120
set_option pp.deepTerms false
namespace K05
open PySem PySem.Spec PyProof.Rows L2 Mv
set_option maxHeartbeats 0
def lo0 : List Str := ["CrestError", "InvalidLot", "InvalidTable", "InvalidOperation", "LETTERS", "is_letter", "is_lot", "rest_in", "within_in", "require_lot", "is_whole", "MOST_ROWS", "BOUND", "places_in", "part_in", "is_small", "is_row_in", "are_rows", "Table", "lot_told", "made_table", "project_in", "above_in", "degree_in", "section_in", "is_table", "require_table", "require_on", "need_within", "require_table_and_lots"]
def lo1 : List Str := ["project", "degree", "above", "section", "_law_cup", "_law_tossed", "_law_one_of", "_law_lot_drawn", "_law_rows_drawn", "_law_part", "_law_parts", "_law_both", "_law_above", "_law_degree", "_law_right"]
def lo : List Str := lo0 ++ lo1
abbrev R : PySem.W.OpenRow := PySem.W.OpenLaw.row PySem.Challenge.rw_crestjoin_k05_whole_degrees
abbrev hk : PySem.W.Hook := Mv.hookP 5 fa fn tf ex pn
def ob (s : PySem.W.SharedT) : He.AlX × AlP := Mv.obsP 5 fa fn tf ex pn (HandSHeadRun.getT s)
theorem ob_eq (s : PySem.W.SharedT) : ob s = hk.obs s.abs := Mv.obsP_eq (HandSHeadRun.getT_eq s)
abbrev qv : Program := PySem.W.view R.prog [50]
theorem run (w : World) : HandSHeadRun.RunEq R qv hk ob 6000 lo w := by
  intro os
  kernel_rfl
end K05
set_option Elab.async false
set_option linter.all false
set_option maxRecDepth 100000
set_option pp.maxSteps 120
set_option pp.deepTerms false
namespace K05
open PySem PySem.Spec PyProof.Rows L2 Mv
end K05
open PySem PySem.W PySem.Calls PyProof.Rows
set_option maxHeartbeats 0
theorem PySem.Challenge.cw_crestjoin_k05_whole_degrees_holds : PySem.Challenge.rw_crestjoin_k05_whole_degrees.Holds := by
  w_on; o_law
  refine HandSHeadRun.head_any (r := OpenLaw.row PySem.Challenge.rw_crestjoin_k05_whole_degrees) (q := K05.qv) (H := K05.hk) (ob := K05.ob) (M := 6000) (loose := K05.lo) (d := HandSHeadRun.topDef (OpenLaw.row PySem.Challenge.rw_crestjoin_k05_whole_degrees).prog 50) (kwd := []) K05.ob_eq (by kernel_rfl) (fun s => by kernel_rfl) K05.run (by kernel_rfl) (by kernel_rfl) (by kernel_rfl) (by rfl) (by first | assumption | decide +kernel) (by decide +kernel) ⟨rfl, rfl, rfl, rfl, rfl, by decide +kernel⟩ ?hw ?hc
  case hw => w_witness2
  case hc =>
    refine Mv.walk_mv (l := PySem.Challenge.rw_crestjoin_k05_whole_degrees) (n := 63) (k := 15) (x := "_law_script") (mf := K05.m_law) rfl (by decide) (by kernel_rfl) ⟨rfl, by decide, by decide⟩ (fun w mg f h Y G e => ?_) K05.law_true
    obtain ⟨K, KX, c, cp⟩ := Y
    have en : (HandSHeadRun.topDef (OpenLaw.row PySem.Challenge.rw_crestjoin_k05_whole_degrees).prog 50).name = ("law" : PySem.Str) := by kernel_rfl
    rw [en] at e
    have y : K05.HyL K mg := ⟨⟨c.t.d, c.more, h, KX, G⟩, cp⟩
    have e2 := e.symm.trans (y.glo 62)
    cases e2
    exact ⟨K, K05.gx K w, KX, K05.w_all y⟩
