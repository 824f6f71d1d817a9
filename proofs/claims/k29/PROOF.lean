import PyProof.Rows.All
import Wide.All
import OpenK.AllK
import Wide.FinOn
import HandS.ForMost
import KE.KeyNested
import HandS.TupAny
import HandS.TupMul
import HandS.Wide
import HandS.IsInst
import HandS.NoneIn
import KE.GoesNew
import HandS.Star
import HandS.Style
import KE.KDictDisplayH
import HandS.Lambda
import KE.DataMinMax
import KE.SortData
import PyProof.P3In
import HandS.Dict
import HandS.Small
import HandS.ExcInit
import HandS.ExcField
import HandS.ExcIs
import HandS.ExcOwn
import HandS.Exc
import KE.KTupSum
import HandS.Conv
import HandS.TupLen
import HandS.TupSets
import KE.OsSortAny
import HandS.Gcd
import KE.KMathGC
import KE.KDictWalk
import HandS.Iter
import PyProof.DictWalks
import KE.LtData
import KE.SortCalls
import KE.SortKeyHeap
import KE.DataEq
import HandS.SortKw
import KE.KSortKey
import PyProof.StrBlock2
import PyProof.EqKinds
import HandS.Strs
import KE.KDictList
import PyProof.Rows.IntBool
import PyProof.NeKinds
import HandS.Nested
import KE.KDictZip
import KE.KNestM
import HandS.EndTab
import HandS.TryMany
import HandS.Deep
import HandS.SetTxt0
import HandS.SetFor
import HandS.Set
import KE.KEqDict
import KE.DataFind
import PySem.Challenge.RW_onlyhigher_k29_whole_rooms_exchanged
set_option Elab.async false
set_option linter.all false
set_option maxRecDepth 100000
/-! Cl: a clean layer over HandS: values as data trees, local lists by value, frozen data, a typed region. -/
namespace Cl
open PySem PySem.Spec PyProof.Rows L2

abbrev St := L2.St
/-- the module's fragment and the world -/
structure KW where
  F : PySem.W.Frag
  w : World
instance : CoeOut KW PySem.W.Frag := ⟨KW.F⟩
abbrev _root_.L2.Cx.kw (X : L2.Cx) : KW := ⟨X.K, X.w⟩

/-- an object of the frame's own: a list, a dict whose keys are tuples of ints and texts -/
inductive OwnC where
  | lst (xs : List PyData)
  | dct (kvs : List (List Key × PyData))
  /-- a dict with keys of any kind -/
  | gdc (kvs : List (PyData × PyData))
/-- a closure: where it lies, what lies there, its code object and that one's kind, what it captured -/
structure LamV where
  f : Addr
  u : HO
  c : Addr
  ct : Nat
  ws : List V
  ds : List PyData
/-- an entry of a shared object: data, or another shared object -/
inductive MV where
  | dat (d : PyData)
  | ptr (a : Addr)
/-- what a shared object holds -/
inductive Cell where
  | lst (xs : List MV)
  | dic (kvs : List (PyData × MV))
  | ins (nm : Str) (dx : Addr) (fs : List (Str × MV))
/-- the shared objects, by their addresses -/
abbrev Store := Addr → Option Cell
/-- the addresses of a store: its objects and the dicts of its instances -/
def Store.ft (W : Store) (a : Addr) : Prop := W a ≠ none ∨ ∃ p C fs, W p = some (.ins C a fs)
def Store.put (W : Store) (a : Addr) (c : Cell) : Store := fun b => if b = a then some c else W b
inductive SV where
  | dat (d : PyData)
  | obj (o : OwnC)
  | raw (t : Nat)
  | scr (ns : List Int)
  /-- a caught exception: its address, its class by number, its dict, its fields -/
  | exc (a : Addr) (n : Nat) (d : Option Addr) (fs : List (Str × PyData))
  | fnv (L : LamV)
  /-- a shared object of the store that another slot carries -/
  | ptr (a : Addr)
  /-- a shared object, and the store -/
  | stp (a : Addr) (W : Store)
  /-- what a def returns that has been handed a store -/
  | rtd (m : MV) (W : Store)

abbrev SV.own (xs : List PyData) : SV := .obj (.lst xs)
abbrev SV.gd (kvs : List (PyData × PyData)) : SV := .obj (.gdc kvs)
abbrev SV.dic (kvs : List (List Key × PyData)) : SV := .obj (.dct kvs)
abbrev CS := List (Option SV)

structure GW where
  fz : Addr → Prop
  zs : Addr → Option Nat

/-- the entries of a dict at a -/
def DictHas (a : Addr) (ep : Nat) (es : List DictEntry) (h : Heap) : Prop :=
  a ≠ sysModules ∧ ∃ o, h.get? a = some o ∧ o.ExactDict ∧ o.data = .dict es.toArray ep

mutual
/-- the key that data is, up to == -/
def nkey : PyData → Option NestedKey
  | .none => some .none
  | .bool b => some (.num (if b = true then 1 else 0))
  | .int i => some (.num i)
  | .str x => some (.text x)
  | .tuple ds => (nkeys ds).map .tup
  | .list _ => none
  | .dict _ => none
def nkeys : List PyData → Option (List NestedKey)
  | [] => some []
  | d :: ds => match nkey d, nkeys ds with
    | some k, some ks => some (k :: ks)
    | _, _ => none
end
/-- the entries keep their keys' hashes; no key stands twice, none is deep -/
def Hashed (w : World) (ds : List PyData) (es : List DictEntry) : Prop :=
  ∃ ks, nkeys ds = some ks ∧ ks.Nodup ∧ (∀ k ∈ ks, k.depth ≤ 8) ∧ es.map (·.hash) = ks.map (NestedKey.hash w)
/-- a new tuple's object, and what the heap tells of it -/
abbrev tobj (its : Array Value) (n : Nat := 0) : Obj := { cls := .type "tuple", data := .seq its n }
abbrev tfz (its : List Value) (xs : List V) : HO := .frz (tobj its.toArray) (.tup xs)
/-- at a stands a tuple without a dict of its own -/
def TP (H : Hp) (a : Addr) (xs : List V) : Prop := ∃ (its : Array Value) (n : Nat), H a = some (.frz (tobj its n) (.tup xs))
section
variable {H H' : Hp} {a p : Addr} {xs ys : List V} {o : HO}
theorem TP.go (h : TP H a xs) (k : ∀ u, H a = some u → H' a = some u) : TP H' a xs := let ⟨ob, d, e⟩ := h; ⟨ob, d, k _ e⟩
theorem TP.ne (h : TP H a xs) (n : a ≠ p) : TP (upd H p o) a xs := h.go fun u e => by rw [upd_ne n]; exact e
theorem TP.laid (h : TP H a xs) (hp : H p = none) : TP (upd H p o) a xs := h.ne fun z => by
  obtain ⟨ob, _, e⟩ := h
  rw [z, hp] at e; cases e
theorem TP.some (h : TP H a xs) : ∃ u, H a = some u := let ⟨_, _, e⟩ := h; ⟨_, e⟩
theorem TP.sq {K : PySem.W.Frag} (h : TP H a xs) : SqT K H a xs := let ⟨ob, n, e⟩ := h; .inl (.inr ⟨_, e⟩)
theorem TP.not (h : TP H a xs) {u : HO} (e : H a = Option.some u) (n : ∀ ob ys, u ≠ .frz ob (.tup ys)) : False := by
  obtain ⟨ob, m, q⟩ := h
  rw [e] at q
  exact n _ xs (Option.some.inj q)
theorem TP.new {its : List Value} : TP (upd H a (tfz its xs)) a xs := ⟨_, _, upd_same⟩
theorem tpn {u : HO} (e : H a = Option.some u) (n : ∀ ob ys, u ≠ .frz ob (.tup ys)) : ∀ xs, ¬ TP H a xs := fun _ q => q.not e n
end
section
variable {X : Cx} {pins : List (Addr × Obj)} {σ : L2.St} {H : Hp} {s : Shared}
theorem Inv.tnew {its : List Value} {ys : List V} {t' : Nat} (I : Inv X pins σ H s) (hv : Vals ys its) (hz : ys.length ≤ sizeLine) :
    Inv X pins σ (upd H s.heap.objs.size (tfz its ys)) { s with heap := s.heap.push (tobj its.toArray), toks := t' } :=
  I.laid (fun _ _ q => Heap.get?_push_of_some _ q) (Nat.le_refl _) ⟨Heap.get?_push_size _ rfl, hz, its, hv, IsTup.new _ _⟩
theorem Inv.tpat {a : Addr} {xs : List V} (I : Inv X pins σ H s) (h : TP H a xs) : xs.length ≤ sizeLine ∧ ∃ (its : List Value) (n : Nat), Vals xs its ∧ s.heap.get? a = some (tobj its.toArray n) := by
  obtain ⟨its, n, e⟩ := h
  obtain ⟨q, z, us, r, o, ho, hc, m, hd⟩ := I.hok a _ e
  rw [q] at ho; cases ho
  simp only [tobj, Data.seq.injEq] at hd
  obtain ⟨rfl, rfl⟩ := hd
  exact ⟨z, us, n, r, q⟩
end
mutual
inductive Rp (K : KW) (H : Hp) (fz : Addr → Prop) : PyData → V → Prop
  | non : Rp K H fz .none .non
  | bl (b : Bool) : Rp K H fz (.bool b) (.bl b)
  | int (i : Int) : Rp K H fz (.int i) (.int i)
  | str (x : Str) : Rp K H fz (.str x) (.str x)
  | lst {a : Addr} {xs : List V} {ds : List PyData} : fz a → H a = some (.lst xs) → RpAll K H fz ds xs → Rp K H fz (.list ds) (.ref a)
  | tup {a : Addr} {xs : List V} {ds : List PyData} : TP H a xs → RpAll K H fz ds xs → Rp K H fz (.tuple ds) (.ref a)
  | dct {a : Addr} {ep : Nat} {es : List DictEntry} {ks vs : List V} {kvs : List (PyData × PyData)} : fz a → H a = some (.ext (DictHas a ep es)) →
      Vals ks (es.map (·.key)) → Vals vs (es.map (·.val)) → RpAll K H fz (kvs.map (·.1)) ks → RpAll K H fz (kvs.map (·.2)) vs → Hashed K.w (kvs.map (·.1)) es → Rp K H fz (.dict kvs) (.ref a)
inductive RpAll (K : KW) (H : Hp) (fz : Addr → Prop) : List PyData → List V → Prop
  | nil : RpAll K H fz [] []
  | cons {v : V} {vs : List V} {d : PyData} {ds : List PyData} : Rp K H fz d v → RpAll K H fz ds vs → RpAll K H fz (d :: ds) (v :: vs)
end

section
variable {K : KW} {H H' : Hp} {fz fz' : Addr → Prop}
theorem Rd.go {a : Addr} {u : HO} (h : ∀ o, H a = some o → H' a = some o) (q : Rd H a u) : Rd H' a u := by
  rcases q with q | ⟨o, q⟩
  · exact .inl (h _ q)
  · exact .inr ⟨o, h _ q⟩
mutual
theorem Rp.go (m : ∀ a, fz a → fz' a) (k : ∀ a o, fz a → H a = some o → H' a = some o) (t : ∀ a xs, TP H a xs → TP H' a xs) :
    ∀ {d : PyData} {v : V}, Rp K H fz d v → Rp K H' fz' d v
  | _, _, .non => .non
  | _, _, .bl b => .bl b
  | _, _, .int i => .int i
  | _, _, .str x => .str x
  | _, _, .lst h q r => .lst (m _ h) (k _ _ h q) (RpAll.go m k t r)
  | _, _, .tup q r => .tup (t _ _ q) (RpAll.go m k t r)
  | _, _, .dct h q k1 v1 r1 r2 hh => .dct (m _ h) (k _ _ h q) k1 v1 (RpAll.go m k t r1) (RpAll.go m k t r2) hh
theorem RpAll.go (m : ∀ a, fz a → fz' a) (k : ∀ a o, fz a → H a = some o → H' a = some o) (t : ∀ a xs, TP H a xs → TP H' a xs) :
    ∀ {ds : List PyData} {vs : List V}, RpAll K H fz ds vs → RpAll K H' fz' ds vs
  | _, _, .nil => .nil
  | _, _, .cons r s => .cons (Rp.go m k t r) (RpAll.go m k t s)
end
theorem RpAll.length : ∀ {ds : List PyData} {vs : List V}, RpAll K H fz ds vs → ds.length = vs.length
  | _, _, .nil => rfl
  | _, _, .cons _ s => by simp [RpAll.length s]
theorem RpAll.append : ∀ {ds es : List PyData} {vs ws : List V}, RpAll K H fz ds vs → RpAll K H fz es ws → RpAll K H fz (ds ++ es) (vs ++ ws)
  | _, _, _, _, .nil, s => s
  | _, _, _, _, .cons r t, s => .cons r (RpAll.append t s)
theorem RpAll.get : ∀ {ds : List PyData} {vs : List V} {i : Nat} {v : V}, RpAll K H fz ds vs → vs[i]? = some v → ∃ d, ds[i]? = some d ∧ Rp K H fz d v
  | _, _, _, _, .nil, e => by simp at e
  | _, _, 0, _, .cons r _, e => by simp at e; subst e; exact ⟨_, rfl, r⟩
  | _, _, i + 1, v, .cons _ t, e => by
    obtain ⟨d, h1, h2⟩ := RpAll.get (i := i) (v := v) t (by simpa using e)
    exact ⟨d, by simpa using h1, h2⟩
theorem RpAll.get' : ∀ {ds : List PyData} {vs : List V} {i : Nat} {d : PyData}, RpAll K H fz ds vs → ds[i]? = some d → ∃ v, vs[i]? = some v ∧ Rp K H fz d v
  | _, _, _, _, .nil, e => by simp at e
  | _, _, 0, _, .cons r _, e => by simp at e; subst e; exact ⟨_, rfl, r⟩
  | _, _, i + 1, v, .cons _ t, e => by
    obtain ⟨d, h1, h2⟩ := RpAll.get' (i := i) (d := v) t (by simpa using e)
    exact ⟨d, by simpa using h1, h2⟩
theorem RpAll.drop : ∀ {ds : List PyData} {vs : List V} (n : Nat), RpAll K H fz ds vs → RpAll K H fz (ds.drop n) (vs.drop n)
  | _, _, 0, r => r
  | _, _, _ + 1, .nil => .nil
  | _, _, n + 1, .cons _ t => RpAll.drop n t
theorem RpAll.take : ∀ {ds : List PyData} {vs : List V} (n : Nat), RpAll K H fz ds vs → RpAll K H fz (ds.take n) (vs.take n)
  | _, _, 0, _ => .nil
  | _, _, _ + 1, .nil => .nil
  | _, _, n + 1, .cons r t => .cons r (RpAll.take n t)
theorem RpAll.set {d : PyData} {v : V} (r : Rp K H fz d v) : ∀ {ds : List PyData} {vs : List V} (i : Nat), RpAll K H fz ds vs → RpAll K H fz (ds.set i d) (vs.set i v)
  | _, _, _, .nil => .nil
  | _, _, 0, .cons _ t => .cons r t
  | _, _, i + 1, .cons q t => .cons q (RpAll.set r i t)
theorem RpAll.ints : ∀ (ns : List Int), RpAll K H fz (ns.map PyData.int) (ns.map V.int)
  | [] => .nil
  | n :: ns => .cons (.int n) (RpAll.ints ns)
end

/-- the fields of an exception -/
def ExF (K : KW) (g : GW) (H : Hp) (d : Option Addr) (fs : List (Str × PyData)) : Prop :=
  (d = none ∧ fs = []) ∨ ∃ dx vs, d = some dx ∧ H dx = some (.xd ((fs.map (·.1)).zip vs)) ∧ g.fz dx ∧ RpAll K H g.fz (fs.map (·.2)) vs
theorem ExF.go {K : KW} {g g' : GW} {H H' : Hp} {d : Option Addr} {fs : List (Str × PyData)} (m : ∀ a, g.fz a → g'.fz a) (k : ∀ a o, g.fz a → H a = some o → H' a = some o) (t : ∀ a xs, TP H a xs → TP H' a xs) (r : ExF K g H d fs) : ExF K g' H' d fs := by
  rcases r with h | ⟨dx, vs, e1, e2, e3, e4⟩
  · exact .inl h
  · exact .inr ⟨dx, vs, e1, k dx _ e3 e2, m dx e3, RpAll.go m k t e4⟩
/-- at a stands a dict that holds kvs -/
def GD (K : KW) (H : Hp) (fz : Addr → Prop) (a : Addr) (kvs : List (PyData × PyData)) : Prop :=
  ∃ (ep : Nat) (es : List DictEntry) (ks vs : List V), H a = some (.ext (DictHas a ep es)) ∧ Vals ks (es.map (·.key)) ∧ Vals vs (es.map (·.val)) ∧ RpAll K H fz (kvs.map (·.1)) ks ∧ RpAll K H fz (kvs.map (·.2)) vs ∧ Hashed K.w (kvs.map (·.1)) es
theorem GD.go {K : KW} {H H' : Hp} {fz fz' : Addr → Prop} {a : Addr} {kvs : List (PyData × PyData)} (m : ∀ a, fz a → fz' a) (k : ∀ a o, fz a → H a = some o → H' a = some o) (t : ∀ a xs, TP H a xs → TP H' a xs)
    (e : ∀ u, H a = some u → H' a = some u) (r : GD K H fz a kvs) : GD K H' fz' a kvs := by
  obtain ⟨ep, es, ks, vs, q, k1, v1, r1, r2, hh⟩ := r
  exact ⟨ep, es, ks, vs, e _ q, k1, v1, RpAll.go m k t r1, RpAll.go m k t r2, hh⟩
def MR (K : KW) (H : Hp) (fz : Addr → Prop) : MV → V → Prop
  | .dat d, v => Rp K H fz d v
  | .ptr a, v => v = .ref a
abbrev MRs (K : KW) (H : Hp) (fz : Addr → Prop) : List MV → List V → Prop := Paired (MR K H fz)
theorem MR.go {K : KW} {H H' : Hp} {fz fz' : Addr → Prop} {d : MV} {v : V} (m : ∀ a, fz a → fz' a) (k : ∀ a o, fz a → H a = some o → H' a = some o) (t : ∀ a xs, TP H a xs → TP H' a xs) (r : MR K H fz d v) : MR K H' fz' d v := by
  cases d with
  | dat d => exact Rp.go m k t r
  | ptr a => exact r
theorem MRs.go {K : KW} {H H' : Hp} {fz fz' : Addr → Prop} (m : ∀ a, fz a → fz' a) (k : ∀ a o, fz a → H a = some o → H' a = some o) (t : ∀ a xs, TP H a xs → TP H' a xs) {ds : List MV} {vs : List V} (r : MRs K H fz ds vs) : MRs K H' fz' ds vs :=
  Paired.mapP r fun _ _ q => MR.go m k t q
/-- what stands at the address of a shared object -/
def CellOk (K : KW) (g : GW) (H : Hp) (W : Store) (a : Addr) : Cell → Prop
  | .lst xs => ∃ vs, H a = some (.lst vs) ∧ MRs K H g.fz xs vs
  | .dic kvs => ∃ (ep : Nat) (es : List DictEntry) (ks vs : List V), H a = some (.ext (DictHas a ep es)) ∧ Vals ks (es.map (·.key)) ∧ Vals vs (es.map (·.val)) ∧ RpAll K H g.fz (kvs.map (·.1)) ks ∧ MRs K H g.fz (kvs.map (·.2)) vs ∧ Hashed K.w (kvs.map (·.1)) es
  | .ins nm dx fs => ∃ vs, (∃ C, PySem.W.nsIn K.F mainGlobals nm = some (some (.ref C)) ∧ H a = some (.ins C dx ((fs.map (·.1)).zip vs))) ∧ MRs K H g.fz (fs.map (·.2)) vs ∧ H dx = some (.own a) ∧ ¬ g.fz dx ∧ g.zs dx = none ∧ W dx = none
def StoOk (K : KW) (g : GW) (H : Hp) (W : Store) : Prop := ∀ a c, W a = some c → ¬ g.fz a ∧ g.zs a = none ∧ CellOk K g H W a c
/-- what a slot's content stands for -/
def RS (K : KW) (g : GW) (H : Hp) : SV → V → Prop
  | .dat d, v => Rp K H g.fz d v
  | .obj (.lst xs), v => ∃ a vs, v = .ref a ∧ H a = some (.lst vs) ∧ ¬ g.fz a ∧ g.zs a = none ∧ RpAll K H g.fz xs vs
  | .obj (.dct kvs), v => ∃ a vs, v = .ref a ∧ H a = some (.dT ((kvs.map (·.1)).zip vs)) ∧ ¬ g.fz a ∧ g.zs a = none ∧ RpAll K H g.fz (kvs.map (·.2)) vs
  | .obj (.gdc kvs), v => ∃ a, v = .ref a ∧ ¬ g.fz a ∧ g.zs a = none ∧ GD K H g.fz a kvs
  | .raw t, v => ∃ a, v = .ref a ∧ g.zs a = some t
  | .scr ns, v => ∃ a, v = .ref a ∧ ((g.fz a ∧ ∃ o, H a = some (.frz o (.lst (ns.map V.int)))) ∨
      ∃ (o : Obj) (its : Array Value) (n : Nat), K.F.lookup a = some o ∧ o.cls = .type "list" ∧ o.dict = none ∧ o.data = .seq its n ∧ its.size ≤ sizeLine ∧ Vals (ns.map V.int) its.toList)
  | .exc a _ d fs, v => v = .ref a ∧ ExF K g H d fs
  | .fnv L, v => v = .ref L.f ∧ g.fz L.f ∧ H L.f = some L.u ∧ g.zs L.c = some L.ct ∧ RpAll K H g.fz L.ds L.ws
  | .ptr a, v => v = .ref a
  | .stp a W, v => v = .ref a ∧ StoOk K g H W
  | .rtd m W, v => MR K H g.fz m v ∧ StoOk K g H W

/-- the addresses of which a value is the only owner -/
def Foot (sv : SV) (v : V) (a : Addr) : Prop := match sv with
  | .obj _ => v = .ref a
  | .stp _ W => W.ft a
  | .rtd _ W => W.ft a
  | _ => False
def ow (cs : CS) (σ : St) (a : Addr) : Prop := ∃ (i : Nat) (sv : SV) (v : V), cs[i]? = some (some sv) ∧ σ[i]? = some (some v) ∧ Foot sv v a

/-- a step: what is kept -/
structure Frm (w : Addr → Prop) (g : GW) (H : Hp) (g' : GW) (H' : Hp) : Prop where
  keep : ∀ a o, H a = some o → g.zs a = none → ¬ w a → H' a = some o
  fzm : ∀ a, g.fz a → g'.fz a
  zsm : ∀ a t, g.zs a = some t → g'.zs a = some t
  fzn : ∀ a o, H a = some o → ¬ w a → g'.fz a → g.fz a
  zsn : ∀ a o, H a = some o → g.zs a = none → g'.zs a = none
  tups : ∀ a xs, TP H a xs → TP H' a xs
  any : ∀ a o, H a = some o → ∃ o', H' a = some o'

/-- a def's start: the heap, the ghost, the addresses that it may change -/
structure Bs where
  fst : Hp
  snd : GW
  w : Addr → Prop
abbrev ZF := Nat → (Addr → Option Nat) → HO → Prop
/-- the region's law; what is told of the start -/
structure ZT where
  zp : ZF
  bs : Bs → Prop

/-- what is told of the region's tables; it stays as the region grows -/
def TabZ (zp : ZF) (zs : Addr → Option Nat) : Prop := ∃ z0, zp 0 z0 (.lst []) ∧ ∀ a t, z0 a = some t → zs a = some t
theorem TabZ.mono {zp : ZF} {zs zs' : Addr → Option Nat} (h : TabZ zp zs) (m : ∀ a t, zs a = some t → zs' a = some t) : TabZ zp zs' := by
  obtain ⟨z0, h1, h2⟩ := h
  exact ⟨z0, h1, fun a t e => m a t (h2 a t e)⟩
structure Rel (K : KW) (ZP : ZT) (B : Bs) (g : GW) (H : Hp) (cs : CS) (σ : St) : Prop where
  len : cs.length = σ.length
  slot : ∀ (i : Nat) (sv : SV), cs[i]? = some (some sv) → ∃ v, σ[i]? = some (some v) ∧ RS K g H sv v
  sep : ∀ (i j : Nat) (sv sw : SV) (v u : V) (a : Addr), cs[i]? = some (some sv) → cs[j]? = some (some sw) → σ[i]? = some (some v) → σ[j]? = some (some u) → Foot sv v a → Foot sw u a → i = j
  zok : ∀ a t, g.zs a = some t → ∃ o, H a = some o ∧ ZP.zp t g.zs o
  fzok : ∀ a, g.fz a → (∃ o, H a = some o) ∧ g.zs a = none
  base : Frm B.w B.2 B.1 g H
  fresh : ∀ a, ow cs σ a → B.1 a = none ∨ B.w a
  bs : ZP.bs B ∧ TabZ ZP.zp B.2.zs ∧ ∀ a, B.2.fz a → ¬ B.w a

abbrev TD := CS → (SV → CS → Prop) → Prop
abbrev TTD := CS → (Bool → CS → Prop) → Prop
/-- a temporary list of its own -/
def Tmp (H : Hp) (cs : CS) (σ : St) (sv : SV) (v : V) : Prop := ∀ a, Foot sv v a → ¬ ow cs σ a ∧ H a = none

def tD (K : KW) (ZP : ZT) (t : TD) : TE := fun σ H Q => ∃ B cs g, Rel K ZP B g H cs σ ∧ ∃ Q', t cs Q' ∧
  ∀ sv cs' v g' H', Q' sv cs' → Rel K ZP B g' H' cs' σ → RS K g' H' sv v → Tmp H cs' σ sv v → (∀ a, ow cs' σ a → ow cs σ a) → Frm (ow cs σ) g H g' H' → Q v H'
def tT (K : KW) (ZP : ZT) (t : TTD) : TT := fun σ H Q => ∃ B cs g, Rel K ZP B g H cs σ ∧ ∃ Q', t cs Q' ∧
  ∀ b cs' g' H', Q' b cs' → Rel K ZP B g' H' cs' σ → (∀ a, ow cs' σ a → ow cs σ a) → Frm (ow cs σ) g H g' H' → Q b H'

structure DE (X : Cx) (ZP : ZT) (e : Expr) (t : TD) : Prop where
  pe : PE X e (tD X.kw ZP t)
structure DT (X : Cx) (ZP : ZT) (e : Expr) (t : TTD) : Prop where
  pt : PT X e (tT X.kw ZP t)

section
variable {X : Cx} {e : Expr}
theorem PE.imp {t t' : TE} (h : PE X e t) (m : ∀ σ H Q, t' σ H Q → t σ H Q) : PE X e t' := ⟨fun pins s σ H Q I q => h.run pins s σ H Q I (m _ _ _ q)⟩
theorem PT.imp {t t' : TT} (h : PT X e t) (m : ∀ σ H Q, t' σ H Q → t σ H Q) : PT X e t' := ⟨fun pins s σ H Q I q => h.run pins s σ H Q I (m _ _ _ q)⟩
theorem PS.imp {st : Stmt} {t t' : TS} (h : PS X st t) (m : ∀ D σ H, t' D σ H → t D σ H) : PS X st t' := ⟨fun pins s σ H D I q => h.run pins s σ H D I (m _ _ _ q)⟩
theorem PSs.imp {st : List Stmt} {t t' : TS} (h : PSs X st t) (m : ∀ D σ H, t' D σ H → t D σ H) : PSs X st t' := ⟨fun pins s σ H D I q => h.run pins s σ H D I (m _ _ _ q)⟩
end

/-! ### frames -/
section
variable {K : KW} {ZP : ZT} {B : Bs} {g g' g2 : GW} {H H' H2 : Hp} {cs cs' : CS} {σ : St} {w w' : Addr → Prop} {p : Addr} {o : HO}
theorem Frm.refl : Frm w g H g H := ⟨fun _ _ e _ _ => e, fun _ h => h, fun _ _ h => h, fun _ _ _ _ h => h, fun _ _ _ h => h, fun _ _ h => h, fun _ o e => ⟨o, e⟩⟩
theorem Frm.mono (f : Frm w g H g' H') (h : ∀ a o, H a = some o → w a → w' a) : Frm w' g H g' H' :=
  ⟨fun a o e z n => f.keep a o e z fun q => n (h a o e q), f.fzm, f.zsm, fun a o e n q => f.fzn a o e (fun r => n (h a o e r)) q, f.zsn, f.tups, f.any⟩
theorem Frm.trans (f : Frm w g H g' H') (f2 : Frm w g' H' g2 H2) : Frm w g H g2 H2 where
  keep := fun a o e z n => f2.keep a o (f.keep a o e z n) (f.zsn a o e z) n
  fzm := fun a h => f2.fzm a (f.fzm a h)
  zsm := fun a t h => f2.zsm a t (f.zsm a t h)
  fzn := fun a o e n h => by
    obtain ⟨o', e'⟩ := f.any a o e
    exact f.fzn a o e n (f2.fzn a o' e' n h)
  zsn := fun a o e z => by
    obtain ⟨o', e'⟩ := f.any a o e
    exact f2.zsn a o' e' (f.zsn a o e z)
  tups := fun a xs h => f2.tups a xs (f.tups a xs h)
  any := fun a o e => by
    obtain ⟨o', e'⟩ := f.any a o e
    exact f2.any a o' e'
/-- a new object -/
theorem Frm.laid (hp : H p = none) : Frm w g H g (upd H p o) where
  keep := fun a u e _ _ => by rw [upd_ne (ne_of_none e hp)]; exact e
  fzm := fun _ h => h
  zsm := fun _ _ h => h
  fzn := fun _ _ _ _ h => h
  zsn := fun _ _ _ h => h
  tups := fun a xs h => h.laid hp
  any := fun a u e => ⟨u, by rw [upd_ne (ne_of_none e hp)]; exact e⟩
theorem Rp.frm {d : PyData} {v : V} (f : Frm w g H g' H') (hw : ∀ a, g.fz a → g.zs a = none ∧ ¬ w a) (r : Rp K H g.fz d v) : Rp K H' g'.fz d v :=
  Rp.go f.fzm (fun a o h e => f.keep a o e (hw a h).1 (hw a h).2) f.tups r
theorem RpAll.frm {ds : List PyData} {vs : List V} (f : Frm w g H g' H') (hw : ∀ a, g.fz a → g.zs a = none ∧ ¬ w a) (r : RpAll K H g.fz ds vs) : RpAll K H' g'.fz ds vs :=
  RpAll.go f.fzm (fun a o h e => f.keep a o e (hw a h).1 (hw a h).2) f.tups r
theorem RS.ownAt {o : OwnC} {v : V} (r : RS K g H (.obj o) v) : ∃ a u, v = .ref a ∧ H a = some u ∧ ¬ g.fz a ∧ g.zs a = none ∧ ∀ ob xs, u ≠ .frz ob (.tup xs) := by
  cases o with
  | lst xs =>
    obtain ⟨a, vs, e, h, n1, n2, _⟩ := r
    exact ⟨a, _, e, h, n1, n2, fun _ _ z => nomatch z⟩
  | dct xs =>
    obtain ⟨a, vs, e, h, n1, n2, _⟩ := r
    exact ⟨a, _, e, h, n1, n2, fun _ _ z => nomatch z⟩
  | gdc xs =>
    obtain ⟨a, e, n1, n2, ep, es, ks, vs, h, _⟩ := r
    exact ⟨a, _, e, h, n1, n2, fun _ _ z => nomatch z⟩
theorem RS.objGo {g' : GW} {H' : Hp} {o : OwnC} {v : V} (r : RS K g H (.obj o) v) (m : ∀ a, g.fz a → g'.fz a) (k : ∀ a o, g.fz a → H a = some o → H' a = some o) (t : ∀ a xs, TP H a xs → TP H' a xs)
    (ha : ∀ a u, v = .ref a → H a = some u → ¬ g.fz a → g.zs a = none → H' a = some u ∧ ¬ g'.fz a ∧ g'.zs a = none) : RS K g' H' (.obj o) v := by
  cases o with
  | lst xs =>
    obtain ⟨a, vs, e, h, n1, n2, q⟩ := r
    obtain ⟨h1, h2, h3⟩ := ha a _ e h n1 n2
    exact ⟨a, vs, e, h1, h2, h3, RpAll.go m k t q⟩
  | dct xs =>
    obtain ⟨a, vs, e, h, n1, n2, q⟩ := r
    obtain ⟨h1, h2, h3⟩ := ha a _ e h n1 n2
    exact ⟨a, vs, e, h1, h2, h3, RpAll.go m k t q⟩
  | gdc xs =>
    obtain ⟨a, e, n1, n2, q⟩ := r
    obtain ⟨ep, es, ks, vs, h, _⟩ := id q
    obtain ⟨h1, h2, h3⟩ := ha a _ e h n1 n2
    exact ⟨a, e, h2, h3, q.go m k t fun u z => by rw [h] at z; cases z; exact h1⟩
theorem StoOk.go {g' : GW} {H' : Hp} {W : Store} (r : StoOk K g H W) (m : ∀ a, g.fz a → g'.fz a) (k : ∀ a o, g.fz a → H a = some o → H' a = some o) (t : ∀ a xs, TP H a xs → TP H' a xs)
    (ha : ∀ a u, W.ft a → H a = some u → ¬ g.fz a → g.zs a = none → H' a = some u ∧ ¬ g'.fz a ∧ g'.zs a = none) : StoOk K g' H' W := fun a c e => by
  obtain ⟨n1, n2, q⟩ := r a c e
  have hf : W.ft a := .inl (by rw [e]; exact fun z => nomatch z)
  cases c with
  | lst xs =>
    obtain ⟨vs, h, q⟩ := q
    obtain ⟨h1, h2, h3⟩ := ha a _ hf h n1 n2
    exact ⟨h2, h3, vs, h1, MRs.go m k t q⟩
  | dic kvs =>
    obtain ⟨ep, es, ks, vs, h, k1, k2, r1, r2, hh⟩ := q
    obtain ⟨h1, h2, h3⟩ := ha a _ hf h n1 n2
    exact ⟨h2, h3, ep, es, ks, vs, h1, k1, k2, RpAll.go m k t r1, MRs.go m k t r2, hh⟩
  | ins C dx fs =>
    obtain ⟨vs, ⟨C0, hC, h⟩, q, hd, d1, d2, d3⟩ := q
    obtain ⟨h1, h2, h3⟩ := ha a _ hf h n1 n2
    obtain ⟨h4, h5, h6⟩ := ha dx _ (.inr ⟨_, _, _, e⟩) hd d1 d2
    exact ⟨h2, h3, vs, ⟨C0, hC, h1⟩, MRs.go m k t q, h4, h5, h6, d3⟩
theorem StoOk.frm {W : Store} (f : Frm w g H g' H') (hw : ∀ a, g.fz a → g.zs a = none ∧ ¬ w a) (ho : ∀ a, W.ft a → ¬ w a) (r : StoOk K g H W) : StoOk K g' H' W := fun a c e => by
  obtain ⟨n1, n2, q⟩ := r a c e
  have nw := ho a (.inl (by rw [e]; exact fun z => nomatch z))
  have m : ∀ {ms vs}, MRs K H g.fz ms vs → MRs K H' g'.fz ms vs := fun q => MRs.go f.fzm (fun a o h e => f.keep a o e (hw a h).1 (hw a h).2) f.tups q
  cases c with
  | lst xs =>
    obtain ⟨vs, h, q⟩ := q
    exact ⟨fun z => n1 (f.fzn a _ h nw z), f.zsn a _ h n2, vs, f.keep a _ h n2 nw, m q⟩
  | dic kvs =>
    obtain ⟨ep, es, ks, vs, h, k1, k2, r1, r2, hh⟩ := q
    exact ⟨fun z => n1 (f.fzn a _ h nw z), f.zsn a _ h n2, ep, es, ks, vs, f.keep a _ h n2 nw, k1, k2, r1.frm f hw, m r2, hh⟩
  | ins C dx fs =>
    obtain ⟨vs, ⟨C0, hC, h⟩, q, hd, d1, d2, d3⟩ := q
    have nd := ho dx (.inr ⟨_, _, _, e⟩)
    exact ⟨fun z => n1 (f.fzn a _ h nw z), f.zsn a _ h n2, vs, ⟨C0, hC, f.keep a _ h n2 nw⟩, m q, f.keep dx _ hd d2 nd, fun z => d1 (f.fzn dx _ hd nd z), f.zsn dx _ hd d2, d3⟩
theorem RS.frm {sv : SV} {v : V} (f : Frm w g H g' H') (hw : ∀ a, g.fz a → g.zs a = none ∧ ¬ w a) (ho : ∀ a, Foot sv v a → ¬ w a) (r : RS K g H sv v) : RS K g' H' sv v := by
  cases sv with
  | dat d => exact Rp.frm f hw r
  | obj xs =>
    cases xs with
    | lst xs =>
      obtain ⟨a, vs, rfl, h, n1, n2, q⟩ := r
      have nw := ho a rfl
      exact ⟨a, vs, rfl, f.keep a _ h n2 nw, fun z => n1 (f.fzn a _ h nw z), f.zsn a _ h n2, q.frm f hw⟩
    | dct xs =>
      obtain ⟨a, vs, rfl, h, n1, n2, q⟩ := r
      have nw := ho a rfl
      exact ⟨a, vs, rfl, f.keep a _ h n2 nw, fun z => n1 (f.fzn a _ h nw z), f.zsn a _ h n2, q.frm f hw⟩
    | gdc xs =>
      obtain ⟨a, rfl, n1, n2, q⟩ := r
      obtain ⟨ep, es, ks, vs, h, _⟩ := id q
      have nw := ho a rfl
      exact ⟨a, rfl, fun z => n1 (f.fzn a _ h nw z), f.zsn a _ h n2, q.go f.fzm (fun a o h e => f.keep a o e (hw a h).1 (hw a h).2) f.tups fun u e => f.keep a u e n2 nw⟩
  | raw t =>
    obtain ⟨a, rfl, h⟩ := r
    exact ⟨a, rfl, f.zsm a t h⟩
  | scr ns =>
    obtain ⟨a, rfl, h⟩ := r
    refine ⟨a, rfl, ?_⟩
    rcases h with ⟨h1, o, h2⟩ | h
    · exact .inl ⟨f.fzm a h1, o, f.keep a _ h2 (hw a h1).1 (hw a h1).2⟩
    · exact .inr h
  | exc a n d fs =>
    obtain ⟨e, h⟩ := r
    refine ⟨e, ?_⟩
    rcases h with h | ⟨dx, vs, e1, e2, e3, e4⟩
    · exact .inl h
    · exact .inr ⟨dx, vs, e1, f.keep dx _ e2 (hw dx e3).1 (hw dx e3).2, f.fzm dx e3, e4.frm f hw⟩
  | fnv L =>
    obtain ⟨e, h1, h2, h3, h4⟩ := r
    exact ⟨e, f.fzm _ h1, f.keep _ _ h2 (hw _ h1).1 (hw _ h1).2, f.zsm _ _ h3, h4.frm f hw⟩
  | ptr a => exact r
  | stp a W =>
    obtain ⟨e, q⟩ := r
    exact ⟨e, q.frm f hw ho⟩
  | rtd m W =>
    obtain ⟨e, q⟩ := r
    exact ⟨MR.go f.fzm (fun a o h e => f.keep a o e (hw a h).1 (hw a h).2) f.tups e, q.frm f hw ho⟩
/-- an address of a store stands there -/
theorem StoOk.there {W : Store} (r : StoOk K g H W) {a : Addr} (h : W.ft a) : ∃ u, H a = some u ∧ ¬ g.fz a ∧ g.zs a = none ∧ ∀ ob xs, u ≠ .frz ob (.tup xs) := by
  rcases h with h | ⟨p, C, fs, e⟩
  · cases e : W a with
    | none => exact absurd e h
    | some c =>
      obtain ⟨n1, n2, q⟩ := r a c e
      cases c with
      | lst xs => obtain ⟨vs, h, _⟩ := q; exact ⟨_, h, n1, n2, fun _ _ z => nomatch z⟩
      | dic kvs => obtain ⟨ep, es, ks, vs, h, _⟩ := q; exact ⟨_, h, n1, n2, fun _ _ z => nomatch z⟩
      | ins C dx fs => obtain ⟨vs, ⟨_, _, h⟩, _⟩ := q; exact ⟨_, h, n1, n2, fun _ _ z => nomatch z⟩
  · obtain ⟨_, _, vs, _, q, hd, d1, d2, _⟩ := r p _ e
    exact ⟨_, hd, d1, d2, fun _ _ z => nomatch z⟩
theorem RS.there {sv : SV} {v : V} (r : RS K g H sv v) {a : Addr} (h : Foot sv v a) : ∃ u, H a = some u ∧ ¬ g.fz a ∧ g.zs a = none ∧ ∀ ob xs, u ≠ .frz ob (.tup xs) := by
  cases sv with
  | obj o =>
    obtain ⟨b, u, e, q⟩ := r.ownAt
    cases e.symm.trans h
    exact ⟨u, q⟩
  | stp b W => exact r.2.there h
  | rtd b W => exact r.2.there h
  | dat _ => exact h.elim
  | raw _ => exact h.elim
  | scr _ => exact h.elim
  | exc _ _ _ _ => exact h.elim
  | fnv _ => exact h.elim
  | ptr _ => exact h.elim
theorem Rel.fzow (R : Rel K ZP B g H cs σ) : ∀ a, g.fz a → g.zs a = none ∧ ¬ ow cs σ a := fun a h => by
  refine ⟨(R.fzok a h).2, ?_⟩
  rintro ⟨i, sv, v, e1, e2, ft⟩
  obtain ⟨v, e3, r⟩ := R.slot i _ e1
  rw [e2] at e3; cases e3
  obtain ⟨u, _, n, _⟩ := r.there ft
  exact n h
theorem Rel.tab (R : Rel K ZP B g H cs σ) : TabZ ZP.zp g.zs := R.bs.2.1.mono R.base.zsm
theorem Rel.bnone (R : Rel K ZP B g H cs σ) {a : Addr} (h : H a = none) : B.1 a = none := by
  cases e : B.1 a with
  | none => rfl
  | some o =>
    obtain ⟨o', e'⟩ := R.base.any a o e
    rw [h] at e'; cases e'
theorem Rel.owsome (R : Rel K ZP B g H cs σ) {a : Addr} (h : ow cs σ a) : ∃ u, H a = some u := by
  obtain ⟨i, sv, v, e1, e2, ft⟩ := h
  obtain ⟨v, e3, r⟩ := R.slot i _ e1
  rw [e2] at e3; cases e3
  obtain ⟨u, h, _⟩ := r.there ft
  exact ⟨u, h⟩
/-- a slot's own list or dict -/
theorem ow_obj {i : Nat} {xs : OwnC} {a : Addr} (e1 : cs[i]? = some (some (SV.obj xs))) (e2 : σ[i]? = some (some (.ref a))) : ow cs σ a := ⟨i, _, _, e1, e2, rfl⟩
/-- a step that leaves the slots' own lists -/
theorem Rel.go (R : Rel K ZP B g H cs σ) (f : Frm (fun _ => False) g H g' H') (z : ∀ a t, g'.zs a = some t → ∃ o, H' a = some o ∧ ZP.zp t g'.zs o) (fz : ∀ a, g'.fz a → (∃ o, H' a = some o) ∧ g'.zs a = none) : Rel K ZP B g' H' cs σ where
  len := R.len
  slot := fun i sv e => by
    obtain ⟨v, e1, r⟩ := R.slot i sv e
    exact ⟨v, e1, r.frm f (fun a h => ⟨(R.fzow a h).1, fun z => z⟩) fun _ _ z => z⟩
  sep := R.sep
  zok := z
  fzok := fz
  base := R.base.trans (f.mono fun _ _ _ z => z.elim)
  fresh := R.fresh
  bs := R.bs
theorem Rel.laid (R : Rel K ZP B g H cs σ) (hp : H p = none) : Rel K ZP B g (upd H p o) cs σ :=
  R.go (Frm.laid hp) (fun a t h => by
    obtain ⟨u, e, q⟩ := R.zok a t h
    exact ⟨u, by rw [upd_ne (ne_of_none e hp)]; exact e, q⟩) fun a h => by
    obtain ⟨⟨u, e⟩, q⟩ := R.fzok a h
    exact ⟨⟨u, by rw [upd_ne (ne_of_none e hp)]; exact e⟩, q⟩
theorem Rel.nofz (R : Rel K ZP B g H cs σ) (hp : H p = none) : ¬ g.fz p ∧ g.zs p = none := by
  refine ⟨fun h => ?_, ?_⟩
  · obtain ⟨⟨u, e⟩, _⟩ := R.fzok p h
    rw [hp] at e; cases e
  · cases z : g.zs p with
    | none => rfl
    | some t =>
      obtain ⟨u, e, _⟩ := R.zok p t z
      rw [hp] at e; cases e
/-- one more address frozen -/
def GW.freeze (g : GW) (a : Addr) : GW := { g with fz := fun b => g.fz b ∨ b = a }
theorem Frm.freeze {a : Addr} (n : ∀ o, H a = some o → w a) : Frm w g H (g.freeze a) H where
  keep := fun _ _ e _ _ => e
  fzm := fun _ h => .inl h
  zsm := fun _ _ h => h
  fzn := fun b o e nw h => by
    rcases h with h | h
    · exact h
    · subst h; exact absurd (n o e) nw
  zsn := fun _ _ _ h => h
  tups := fun _ _ h => h
  any := fun _ o e => ⟨o, e⟩
end
end Cl

namespace Cl
open PySem PySem.Spec PyProof.Rows L2

/-- read as data: the top may be a list of the frame's own -/
def RB (K : KW) (H : Hp) (fz : Addr → Prop) : PyData → V → Prop
  | .list ds, v => ∃ a vs, v = .ref a ∧ H a = some (.lst vs) ∧ RpAll K H fz ds vs
  | .dict kvs, v => ∃ (a : Addr) (ep : Nat) (es : List DictEntry) (ks vs : List V), v = .ref a ∧ H a = some (.ext (DictHas a ep es)) ∧ Vals ks (es.map (·.key)) ∧ Vals vs (es.map (·.val)) ∧
      RpAll K H fz (kvs.map (·.1)) ks ∧ RpAll K H fz (kvs.map (·.2)) vs ∧ Hashed K.w (kvs.map (·.1)) es
  | d, v => Rp K H fz d v
theorem Rp.rb {K : KW} {H : Hp} {fz : Addr → Prop} {d : PyData} {v : V} (r : Rp K H fz d v) : RB K H fz d v := by
  cases r with
  | non => exact .non
  | bl b => exact .bl b
  | int i => exact .int i
  | str x => exact .str x
  | lst h q r => exact ⟨_, _, rfl, q, r⟩
  | tup q r => exact .tup q r
  | dct h q k1 v1 r1 r2 hh => exact ⟨_, _, _, _, _, rfl, q, k1, v1, r1, r2, hh⟩

/-- a result: a thing that is there, or a new tuple, or a new list -/
inductive Res (K : KW) (H : Hp) (fz : Addr → Prop) : SV → V → Hp → Prop
  | same {d : PyData} {z : V} : Rp K H fz d z → Res K H fz (.dat d) z H
  | tup {ds : List PyData} {vs : List V} {p : Addr} : H p = none → RpAll K H fz ds vs → ∀ {its : List Value}, Res K H fz (.dat (.tuple ds)) (.ref p) (upd H p (tfz its vs))
  | lst {ds : List PyData} {vs : List V} {p : Addr} : H p = none → RpAll K H fz ds vs → Res K H fz (.own ds) (.ref p) (upd H p (.lst vs))

section
variable {K : KW} {ZP : ZT} {B : Bs} {g g' g2 : GW} {H H' H2 : Hp} {cs cs' : CS} {σ : St} {w w' : Addr → Prop} {p : Addr} {o : HO}
theorem RpAll.laid {fz : Addr → Prop} (n : ∀ a, fz a → a ≠ p) (hp : H p = none) {ds : List PyData} {vs : List V} (r : RpAll K H fz ds vs) : RpAll K (upd H p o) fz ds vs :=
  RpAll.go (fun _ h => h) (fun a u h e => by rw [upd_ne (n a h)]; exact e) (fun a xs h => h.laid hp) r
theorem Rel.fzne (R : Rel K ZP B g H cs σ) (hp : H p = none) : ∀ a, g.fz a → a ≠ p := fun a h e => by
  subst e; exact (R.nofz hp).1 h
theorem Res.fin {sv : SV} {z : V} (R : Rel K ZP B g H cs σ) (r : Res K H g.fz sv z H') : Rel K ZP B g H' cs σ ∧ RS K g H' sv z ∧ Tmp H cs σ sv z ∧ Frm (ow cs σ) g H g H' := by
  cases r with
  | same r => exact ⟨R, r, (fun _ h => h.elim), .refl⟩
  | @tup ds vs p hp r its =>
    exact ⟨R.laid hp, .tup .new (r.laid (R.fzne hp) hp), (fun _ h => h.elim), .laid hp⟩
  | @lst ds vs p hp r =>
    have n := R.nofz hp
    refine ⟨R.laid hp, ⟨_, _, rfl, upd_same, n.1, n.2, r.laid (R.fzne hp) hp⟩, fun a e2 => ?_, .laid hp⟩
    cases (show V.ref p = V.ref a from e2)
    refine ⟨fun h => ?_, hp⟩
    obtain ⟨vs, e⟩ := R.owsome h
    rw [hp] at e; cases e
/-- a temporary list is frozen -/
theorem Rel.freezeTmp {xs : List PyData} {a : Addr} (R : Rel K ZP B g H cs σ) (r : RS K g H (.own xs) (.ref a)) (n : ¬ ow cs σ a) (hb : B.1 a = none) :
    Rel K ZP B (g.freeze a) H cs σ ∧ Rp K H (g.freeze a).fz (.list xs) (.ref a) := by
  obtain ⟨b, vs, e, h, n1, n2, q⟩ := r
  cases e
  have f : Frm (fun b => b = a) g H (g.freeze a) H := .freeze fun _ _ => rfl
  have q' : RpAll K H (g.freeze a).fz xs vs := RpAll.go (fun _ h => .inl h) (fun _ _ _ e => e) (fun _ _ e => e) q
  refine ⟨⟨R.len, fun i sv e => ?_, R.sep, R.zok, fun b hb => ?_, ?_, R.fresh, R.bs⟩, .lst (.inr rfl) h q'⟩
  · obtain ⟨v, e1, r⟩ := R.slot i sv e
    refine ⟨v, e1, r.frm f (fun b hf => ⟨(R.fzow b hf).1, fun z => ?_⟩) fun b ft e4 => ?_⟩
    · have z : b = a := z
      subst z; exact n1 hf
    · have e4 : b = a := e4
      subst e4
      exact n ⟨i, _, _, e, e1, ft⟩
  · rcases hb with hb | hb
    · exact R.fzok b hb
    · subst hb; exact ⟨⟨_, h⟩, n2⟩
  · refine ⟨R.base.keep, fun b h => .inl (R.base.fzm b h), R.base.zsm, fun b o e nw h => ?_, R.base.zsn, R.base.tups, R.base.any⟩
    rcases h with h | h
    · exact R.base.fzn b o e nw h
    · subst h; rw [hb] at e; cases e
theorem Frm.freezeTmp {a : Addr} (f : Frm w g H g' H') (h : H a = none) : Frm w g H (g'.freeze a) H' where
  keep := f.keep
  fzm := fun b h => .inl (f.fzm b h)
  zsm := f.zsm
  fzn := fun b o e nw q => by
    rcases q with q | q
    · exact f.fzn b o e nw q
    · subst q; rw [h] at e; cases e
  zsn := f.zsn
  tups := f.tups
  any := f.any
/-- a slot's own list is frozen -/
theorem Rel.freezeSlot {i : Nat} {xs : List PyData} {a : Addr} (R : Rel K ZP B g H cs σ) (e1 : cs[i]? = some (some (.own xs))) (e2 : σ[i]? = some (some (.ref a))) :
    Rel K ZP B (g.freeze a) H (cs.set i (some (.dat (.list xs)))) σ ∧ Rp K H (g.freeze a).fz (.list xs) (.ref a) ∧ Frm (ow cs σ) g H (g.freeze a) H ∧ ∀ b, ow (cs.set i (some (.dat (.list xs)))) σ b → ow cs σ b := by
  obtain ⟨v, e3, b, vs, e, h, n1, n2, q⟩ := R.slot i _ e1
  rw [e2] at e3; cases e3
  cases e
  have f : Frm (fun b => b = a) g H (g.freeze a) H := .freeze fun _ _ => rfl
  have q' : RpAll K H (g.freeze a).fz xs vs := RpAll.go (fun _ h => .inl h) (fun _ _ _ e => e) (fun _ _ e => e) q
  have rp : Rp K H (g.freeze a).fz (.list xs) (.ref a) := .lst (.inr rfl) h q'
  have hi : i < cs.length := (List.getElem?_eq_some_iff.mp e1).1
  have hset : ∀ (j : Nat) (sv : SV), (cs.set i (some (.dat (.list xs))))[j]? = some (some sv) → (j = i ∧ sv = .dat (.list xs)) ∨ (j ≠ i ∧ cs[j]? = some (some sv)) := fun j sv e => by
    by_cases hj : j = i
    · subst hj
      rw [List.getElem?_set_self hi] at e
      cases e; exact .inl ⟨rfl, rfl⟩
    · rw [List.getElem?_set_ne (Ne.symm hj)] at e
      exact .inr ⟨hj, e⟩
  have sub : ∀ b, ow (cs.set i (some (.dat (.list xs)))) σ b → ow cs σ b := fun b ⟨j, ys, u, h1, h2, ft⟩ => by
    rcases hset j _ h1 with ⟨_, z⟩ | ⟨_, z⟩
    · subst z; exact ft.elim
    · exact ⟨j, ys, u, z, h2, ft⟩
  have hb : B.1 a = none ∨ B.w a := R.fresh a (ow_obj e1 e2)
  refine ⟨⟨by rw [List.length_set]; exact R.len, fun j sv e => ?_, fun j k ys zs u1 u2 b h1 h2 h3 h4 f1 f2 => ?_, R.zok, fun b hb => ?_, ?_, fun b hb => R.fresh b (sub b hb), R.bs⟩, rp, .freeze fun _ _ => ow_obj e1 e2, sub⟩
  · rcases hset j sv e with ⟨rfl, rfl⟩ | ⟨hj, e⟩
    · exact ⟨_, e2, rp⟩
    · obtain ⟨v, e3, r⟩ := R.slot j sv e
      refine ⟨v, e3, r.frm f (fun b hf => ⟨(R.fzow b hf).1, fun z => ?_⟩) fun b ft e6 => ?_⟩
      · have z : b = a := z
        subst z; exact n1 hf
      · have e6 : b = a := e6
        subst e6
        exact hj (R.sep j i _ _ _ _ b e e1 e3 e2 ft rfl)
  · rcases hset j _ h1 with ⟨_, z⟩ | ⟨_, z1⟩
    · subst z; exact f1.elim
    · rcases hset k _ h2 with ⟨_, z⟩ | ⟨_, z2⟩
      · subst z; exact f2.elim
      · exact R.sep j k ys zs u1 u2 b z1 z2 h3 h4 f1 f2
  · rcases hb with hb | hb
    · exact R.fzok b hb
    · subst hb; exact ⟨⟨_, h⟩, n2⟩
  · refine ⟨R.base.keep, fun b h => .inl (R.base.fzm b h), R.base.zsm, fun b o e nw h => ?_, R.base.zsn, R.base.tups, R.base.any⟩
    rcases h with h | h
    · exact R.base.fzn b o e nw h
    · subst h
      rcases hb with hb | hb
      · rw [hb] at e; cases e
      · exact absurd hb nw
/-- a temporary dict is frozen -/
theorem Rel.freezeTmpG {xs : List (PyData × PyData)} {a : Addr} (R : Rel K ZP B g H cs σ) (r : RS K g H (.gd xs) (.ref a)) (n : ¬ ow cs σ a) (hb : B.1 a = none) :
    Rel K ZP B (g.freeze a) H cs σ ∧ Rp K H (g.freeze a).fz (.dict xs) (.ref a) := by
  obtain ⟨b, e, n1, n2, ep, es, ks, vs, h, k1, v1, q1, q2, hh⟩ := r
  cases e
  have f : Frm (fun b => b = a) g H (g.freeze a) H := .freeze fun _ _ => rfl
  have q' : ∀ {ds us}, RpAll K H g.fz ds us → RpAll K H (g.freeze a).fz ds us := fun q => RpAll.go (fun _ h => .inl h) (fun _ _ _ e => e) (fun _ _ e => e) q
  refine ⟨⟨R.len, fun i sv e => ?_, R.sep, R.zok, fun b hb => ?_, ?_, R.fresh, R.bs⟩, .dct (.inr rfl) h k1 v1 (q' q1) (q' q2) hh⟩
  · obtain ⟨v, e1, r⟩ := R.slot i sv e
    refine ⟨v, e1, r.frm f (fun b hf => ⟨(R.fzow b hf).1, fun z => ?_⟩) fun b ft e4 => ?_⟩
    · have z : b = a := z
      subst z; exact n1 hf
    · have e4 : b = a := e4
      subst e4
      exact n ⟨i, _, _, e, e1, ft⟩
  · rcases hb with hb | hb
    · exact R.fzok b hb
    · subst hb; exact ⟨⟨_, h⟩, n2⟩
  · refine ⟨R.base.keep, fun b h => .inl (R.base.fzm b h), R.base.zsm, fun b o e nw h => ?_, R.base.zsn, R.base.tups, R.base.any⟩
    rcases h with h | h
    · exact R.base.fzn b o e nw h
    · subst h; rw [hb] at e; cases e
/-- a slot's own dict is frozen -/
theorem Rel.freezeSlotG {i : Nat} {xs : List (PyData × PyData)} {a : Addr} (R : Rel K ZP B g H cs σ) (e1 : cs[i]? = some (some (.gd xs))) (e2 : σ[i]? = some (some (.ref a))) :
    Rel K ZP B (g.freeze a) H (cs.set i (some (.dat (.dict xs)))) σ ∧ Rp K H (g.freeze a).fz (.dict xs) (.ref a) ∧ Frm (ow cs σ) g H (g.freeze a) H ∧ ∀ b, ow (cs.set i (some (.dat (.dict xs)))) σ b → ow cs σ b := by
  obtain ⟨v, e3, b, e, n1, n2, ep, es, ks, vs, h, k1, v1, q1, q2, hh⟩ := R.slot i _ e1
  rw [e2] at e3; cases e3
  cases e
  have f : Frm (fun b => b = a) g H (g.freeze a) H := .freeze fun _ _ => rfl
  have q' : ∀ {ds us}, RpAll K H g.fz ds us → RpAll K H (g.freeze a).fz ds us := fun q => RpAll.go (fun _ h => .inl h) (fun _ _ _ e => e) (fun _ _ e => e) q
  have rp : Rp K H (g.freeze a).fz (.dict xs) (.ref a) := .dct (.inr rfl) h k1 v1 (q' q1) (q' q2) hh
  have hi : i < cs.length := (List.getElem?_eq_some_iff.mp e1).1
  have hset : ∀ (j : Nat) (sv : SV), (cs.set i (some (.dat (.dict xs))))[j]? = some (some sv) → (j = i ∧ sv = .dat (.dict xs)) ∨ (j ≠ i ∧ cs[j]? = some (some sv)) := fun j sv e => by
    by_cases hj : j = i
    · subst hj
      rw [List.getElem?_set_self hi] at e
      cases e; exact .inl ⟨rfl, rfl⟩
    · rw [List.getElem?_set_ne (Ne.symm hj)] at e
      exact .inr ⟨hj, e⟩
  have sub : ∀ b, ow (cs.set i (some (.dat (.dict xs)))) σ b → ow cs σ b := fun b ⟨j, ys, u, h1, h2, ft⟩ => by
    rcases hset j _ h1 with ⟨_, z⟩ | ⟨_, z⟩
    · subst z; exact ft.elim
    · exact ⟨j, ys, u, z, h2, ft⟩
  have hb : B.1 a = none ∨ B.w a := R.fresh a (ow_obj e1 e2)
  refine ⟨⟨by rw [List.length_set]; exact R.len, fun j sv e => ?_, fun j k ys zs u1 u2 b h1 h2 h3 h4 f1 f2 => ?_, R.zok, fun b hb => ?_, ?_, fun b hb => R.fresh b (sub b hb), R.bs⟩, rp, .freeze fun _ _ => ow_obj e1 e2, sub⟩
  · rcases hset j sv e with ⟨rfl, rfl⟩ | ⟨hj, e⟩
    · exact ⟨_, e2, rp⟩
    · obtain ⟨v, e3, r⟩ := R.slot j sv e
      refine ⟨v, e3, r.frm f (fun b hf => ⟨(R.fzow b hf).1, fun z => ?_⟩) fun b ft e6 => ?_⟩
      · have z : b = a := z
        subst z; exact n1 hf
      · have e6 : b = a := e6
        subst e6
        exact hj (R.sep j i _ _ _ _ b e e1 e3 e2 ft rfl)
  · rcases hset j _ h1 with ⟨_, z⟩ | ⟨_, z1⟩
    · subst z; exact f1.elim
    · rcases hset k _ h2 with ⟨_, z⟩ | ⟨_, z2⟩
      · subst z; exact f2.elim
      · exact R.sep j k ys zs u1 u2 b z1 z2 h3 h4 f1 f2
  · rcases hb with hb | hb
    · exact R.fzok b hb
    · subst hb; exact ⟨⟨_, h⟩, n2⟩
  · refine ⟨R.base.keep, fun b h => .inl (R.base.fzm b h), R.base.zsm, fun b o e nw h => ?_, R.base.zsn, R.base.tups, R.base.any⟩
    rcases h with h | h
    · exact R.base.fzn b o e nw h
    · subst h
      rcases hb with hb | hb
      · rw [hb] at e; cases e
      · exact absurd hb nw
end

/-! ### judgements for data -/
abbrev TVD := CS → (PyData → CS → Prop) → Prop
/-- a left side: data, or a slot that is read when the right side is there -/
inductive LV where
  | now (d : PyData)
  | slot (i : Nat)
  /-- a shared object at b, in the store that slot i carries -/
  | cel (i : Nat) (b : Addr)
abbrev TLD := CS → (LV → CS → Prop) → Prop
def SV.view : SV → Option PyData
  | .dat d => some d
  | .obj (.lst xs) => some (.list xs)
  | .obj (.dct _) => none
  | .obj (.gdc kvs) => some (.dict kvs)
  | .raw _ => none
  | .scr _ => none
  | .exc _ _ _ _ => none
  | .fnv _ => none
  | .ptr _ => none
  | .stp _ _ => none
  | .rtd _ _ => none
def CS.at_ (cs : CS) (i : Nat) : Option PyData := match cs[i]? with
  | some (some sv) => sv.view
  | _ => none
/-- entries that are data -/
def mdat : MV → Option PyData
  | .dat d => some d
  | .ptr _ => none
def mdats : List MV → Option (List PyData)
  | [] => some []
  | m :: ms => match mdat m, mdats ms with
    | some d, some ds => some (d :: ds)
    | _, _ => none
def Cell.view : Cell → Option PyData
  | .lst xs => (mdats xs).map .list
  | .dic kvs => (mdats (kvs.map (·.2))).map fun ds => .dict ((kvs.map (·.1)).zip ds)
  | .ins _ _ _ => none
def stoAt (cs : CS) (i : Nat) : Option Store := match cs[i]? with
  | some (some (.stp _ W)) => some W
  | _ => none
def celAt (cs : CS) (i : Nat) (b : Addr) : Option Cell := match stoAt cs i with
  | some W => W b
  | none => none
def LV.get (l : LV) (cs : CS) : Option PyData := match l with
  | .now d => some d
  | .slot i => cs.at_ i
  | .cel i b => match celAt cs i b with
    | some c => c.view
    | none => none
def LOk (K : KW) (g : GW) (H : Hp) (σ : St) : LV → V → Prop
  | .now d, v => Rp K H g.fz d v
  | .slot i, v => σ[i]? = some (some v)
  | .cel _ b, v => v = .ref b

def tV (K : KW) (ZP : ZT) (t : TVD) : TE := fun σ H Q => ∃ B cs g, Rel K ZP B g H cs σ ∧ ∃ Q', t cs Q' ∧
  ∀ d cs' v g' H', Q' d cs' → Rel K ZP B g' H' cs' σ → Rp K H' g'.fz d v → (∀ a, ow cs' σ a → ow cs σ a) → Frm (ow cs σ) g H g' H' → Q v H'
def tLt (K : KW) (ZP : ZT) (t : TLD) : TE := fun σ H Q => ∃ B cs g, Rel K ZP B g H cs σ ∧ ∃ Q', t cs Q' ∧
  ∀ l cs' v g' H', Q' l cs' → Rel K ZP B g' H' cs' σ → LOk K g' H' σ l v → (∀ a, ow cs' σ a → ow cs σ a) → Frm (ow cs σ) g H g' H' → Q v H'
structure DV (X : Cx) (ZP : ZT) (e : Expr) (t : TVD) : Prop where
  pe : PE X e (tV X.kw ZP t)
structure DL (X : Cx) (ZP : ZT) (e : Expr) (t : TLD) : Prop where
  pe : PE X e (tLt X.kw ZP t)

section
variable {X : Cx} {ZP : ZT} {e a b : Expr} {pos : Pos}
def t_v (t : TVD) : TD := fun cs Q => t cs fun d cs' => Q (.dat d) cs'
theorem de_v {t : TVD} (h : DV X ZP e t) : DE X ZP e (t_v t) := ⟨PE.imp h.pe fun σ H Q ⟨B, cs, g, R, Q', q, k⟩ =>
  ⟨B, cs, g, R, _, q, fun d cs' v g' H' q' R' r s f => k (.dat d) cs' v g' H' q' R' r (fun _ h => h.elim) s f⟩⟩
def t_f (t : TD) : TVD := fun cs Q => t cs fun sv cs' => match sv.view with
  | some d => Q d cs'
  | none => False
theorem dv_e {t : TD} (h : DE X ZP e t) : DV X ZP e (t_f t) := by
  refine ⟨PE.imp h.pe ?_⟩
  rintro σ H Q ⟨B, cs, g, R, Q', q, k⟩
  refine ⟨B, cs, g, R, _, q, fun sv cs' v g' H' q' R' r tm s f => ?_⟩
  cases sv with
  | dat d => exact k d cs' v g' H' q' R' r s f
  | raw t => exact q'.elim
  | scr t => exact q'.elim
  | exc _ _ _ _ => exact q'.elim
  | fnv _ => exact q'.elim
  | ptr _ => exact q'.elim
  | stp _ _ => exact q'.elim
  | rtd _ _ => exact q'.elim
  | obj o =>
    cases o with
    | dct _ => exact q'.elim
    | gdc xs =>
      obtain ⟨a, rfl, _⟩ := id r
      obtain ⟨n, hn⟩ := tm a rfl
      obtain ⟨R2, r2⟩ := R'.freezeTmpG r n (R.bnone hn)
      exact k (.dict xs) cs' (.ref a) (g'.freeze a) H' q' R2 r2 s (f.freezeTmp hn)
    | lst xs =>
    obtain ⟨a, vs, rfl, h, _⟩ := id r
    obtain ⟨n, hn⟩ := tm a rfl
    obtain ⟨R2, r2⟩ := R'.freezeTmp r n (R.bnone hn)
    exact k (.list xs) cs' (.ref a) (g'.freeze a) H' q' R2 r2 s (f.freezeTmp hn)
def t_l (t : TVD) : TLD := fun cs Q => t cs fun d cs' => Q (.now d) cs'
theorem dl_v {t : TVD} (h : DV X ZP e t) : DL X ZP e (t_l t) := ⟨PE.imp h.pe fun σ H Q ⟨B, cs, g, R, Q', q, k⟩ =>
  ⟨B, cs, g, R, _, q, fun d cs' v g' H' q' R' r s f => k (.now d) cs' v g' H' q' R' r s f⟩⟩

/-! ### names -/
def t_lname (i : Nat) : TLD := fun cs Q => (∃ sv, cs[i]? = some (some sv)) ∧ Q (.slot i) cs
theorem dl_name {i : Nat} {x : Str} (hN : X.N[i]? = some x) (hv : Vis X.env.scope x) (hd : (x == ("__debug__" : Str)) = false := by decide) (hcd : (x == ("__classdict__" : Str)) = false := by decide) : DL X ZP (.Name x pos) (t_lname i) := by
  refine ⟨PE.imp (pe_var hN hv hd hcd) ?_⟩
  rintro σ H Q ⟨B, cs, g, R, Q', ⟨⟨sv, e⟩, q⟩, k⟩
  obtain ⟨v, e1, r⟩ := R.slot i sv e
  exact ⟨v, e1, k _ cs v g H q R e1 (fun _ h => h) .refl⟩
def t_name (i : Nat) : TD := fun cs Q => match cs[i]? with
  | some (some (.obj (.lst xs))) => Q (.dat (.list xs)) (cs.set i (some (.dat (.list xs))))
  | some (some (.obj (.dct _))) => False
  | some (some (.obj (.gdc xs))) => Q (.dat (.dict xs)) (cs.set i (some (.dat (.dict xs))))
  | some (some (.stp p _)) => Q (.ptr p) cs
  | some (some (.rtd _ _)) => False
  | some (some sv) => Q sv cs
  | _ => False
theorem de_name {i : Nat} {x : Str} (hN : X.N[i]? = some x) (hv : Vis X.env.scope x) (hd : (x == ("__debug__" : Str)) = false := by decide) (hcd : (x == ("__classdict__" : Str)) = false := by decide) : DE X ZP (.Name x pos) (t_name i) := by
  refine ⟨PE.imp (pe_var hN hv hd hcd) ?_⟩
  rintro σ H Q ⟨B, cs, g, R, Q', q, k⟩
  unfold t_name at q
  cases e : cs[i]? with
  | none => rw [e] at q; exact q.elim
  | some osv =>
    rw [e] at q
    cases osv with
    | none => exact q.elim
    | some sv =>
      obtain ⟨v, e1, r⟩ := R.slot i sv e
      cases sv with
      | dat d => exact ⟨v, e1, k _ cs v g H q R r (fun _ h => h.elim) (fun _ h => h) .refl⟩
      | raw t => exact ⟨v, e1, k _ cs v g H q R r (fun _ h => h.elim) (fun _ h => h) .refl⟩
      | scr t => exact ⟨v, e1, k _ cs v g H q R r (fun _ h => h.elim) (fun _ h => h) .refl⟩
      | exc _ _ _ _ => exact ⟨v, e1, k _ cs v g H q R r (fun _ h => h.elim) (fun _ h => h) .refl⟩
      | fnv _ => exact ⟨v, e1, k _ cs v g H q R r (fun _ h => h.elim) (fun _ h => h) .refl⟩
      | ptr _ => exact ⟨v, e1, k _ cs v g H q R r (fun _ h => h.elim) (fun _ h => h) .refl⟩
      | stp p W => exact ⟨v, e1, k (.ptr p) cs v g H q R r.1 (fun _ h => h.elim) (fun _ h => h) .refl⟩
      | rtd _ _ => exact q.elim
      | obj o =>
        cases o with
        | dct _ => exact q.elim
        | gdc xs =>
          obtain ⟨a, rfl, _⟩ := id r
          obtain ⟨R2, r2, f2, s2⟩ := R.freezeSlotG e e1
          exact ⟨_, e1, k _ _ _ _ H q R2 r2 (fun _ h => h.elim) s2 f2⟩
        | lst xs =>
        obtain ⟨a, vs, rfl, _⟩ := id r
        obtain ⟨R2, r2, f2, s2⟩ := R.freezeSlot e e1
        exact ⟨_, e1, k _ _ _ _ H q R2 r2 (fun _ h => h.elim) s2 f2⟩

/-! ### constants -/
def t_c (d : PyData) : TVD := fun cs Q => Q d cs
theorem dv_int {i : Int} {j : Nat} : DV X ZP (.Constant (.int i) j pos) (t_c (.int i)) := ⟨PE.imp pe_int fun σ H Q ⟨B, cs, g, R, Q', q, k⟩ => k _ cs _ g H q R (.int i) (fun _ h => h) .refl⟩
theorem dv_bl {b : Bool} {j : Nat} : DV X ZP (.Constant (.bool b) j pos) (t_c (.bool b)) := ⟨PE.imp pe_bl fun σ H Q ⟨B, cs, g, R, Q', q, k⟩ => k _ cs _ g H q R (.bl b) (fun _ h => h) .refl⟩
end

section
variable {K : KW} {ZP : ZT} {B : Bs} {g g1 g2 : GW} {H H1 H2 : Hp} {cs cs1 cs2 : CS} {σ : St}
theorem RS.rb {sv : SV} {v : V} {d : PyData} (r : RS K g H sv v) (e : sv.view = some d) : RB K H g.fz d v := by
  cases sv with
  | dat c => cases e; exact Rp.rb r
  | obj o =>
    cases o with
    | dct _ => cases e
    | gdc kvs =>
      cases e
      obtain ⟨a, rfl, _, _, ep, es, ks, vs, q⟩ := r
      exact ⟨a, ep, es, ks, vs, rfl, q⟩
    | lst xs =>
    cases e
    obtain ⟨a, vs, rfl, h, _, _, q⟩ := r
    exact ⟨a, vs, rfl, h, q⟩
  | raw t => cases e
  | scr t => cases e
  | exc _ _ _ _ => cases e
  | fnv _ => cases e
  | ptr _ => cases e
  | stp _ _ => cases e
  | rtd _ _ => cases e
theorem mdats_rp {K : KW} {H : Hp} {fz : Addr → Prop} : ∀ {ms : List MV} {ds : List PyData} {vs : List V}, MRs K H fz ms vs → mdats ms = some ds → RpAll K H fz ds vs
  | [], ds, _, .nil, e => by cases e; exact .nil
  | m :: ms, ds, _, .cons r t, e => by
    cases m with
    | ptr a => simp [mdats, mdat] at e
    | dat d =>
      unfold mdats at e
      simp only [mdat] at e
      cases e1 : mdats ms with
      | none => rw [e1] at e; cases e
      | some ds' => rw [e1] at e; cases e; exact .cons r (mdats_rp t e1)
theorem mdats_len : ∀ {ms : List MV} {ds : List PyData}, mdats ms = some ds → ds.length = ms.length
  | [], ds, e => by cases e; rfl
  | m :: ms, ds, e => by
    unfold mdats at e
    cases e0 : mdat m with
    | none => rw [e0] at e; cases e
    | some d =>
      rw [e0] at e
      cases e1 : mdats ms with
      | none => rw [e1] at e; cases e
      | some ds' => rw [e1] at e; cases e; rw [List.length_cons, List.length_cons, mdats_len e1]
theorem CellOk.rb {W : Store} {b : Addr} {c : Cell} {d : PyData} (q : CellOk K g H W b c) (e : c.view = some d) : RB K H g.fz d (.ref b) := by
  cases c with
  | lst xs =>
    obtain ⟨vs, h, q⟩ := q
    have e : (mdats xs).map PyData.list = some d := e
    cases e1 : mdats xs with
    | none => rw [e1] at e; cases e
    | some ds => rw [e1] at e; cases e; exact ⟨b, vs, rfl, h, mdats_rp q e1⟩
  | dic kvs =>
    obtain ⟨ep, es, ks, vs, h, k1, k2, r1, r2, hh⟩ := q
    have e : (mdats (kvs.map (·.2))).map (fun ds => PyData.dict ((kvs.map (·.1)).zip ds)) = some d := e
    cases e1 : mdats (kvs.map (·.2)) with
    | none => rw [e1] at e; cases e
    | some ds =>
      rw [e1] at e; cases e
      have l := mdats_len e1
      have m1 : (((kvs.map (·.1)).zip ds).map (·.1)) = kvs.map (·.1) := List.map_fst_zip (by rw [l]; simp)
      have m2 : (((kvs.map (·.1)).zip ds).map (·.2)) = ds := List.map_snd_zip (by rw [l]; simp)
      exact ⟨b, ep, es, ks, vs, rfl, h, k1, k2, by rw [m1]; exact r1, by rw [m2]; exact mdats_rp r2 e1, by rw [m1]; exact hh⟩
  | ins nm dx fs => cases e
theorem celAt_some {i : Nat} {b : Addr} {c : Cell} (e : celAt cs i b = some c) : ∃ p W, cs[i]? = some (some (.stp p W)) ∧ W b = some c := by
  unfold celAt stoAt at e
  cases e1 : cs[i]? with
  | none => rw [e1] at e; cases e
  | some o =>
    rw [e1] at e
    match o, e1, e with
    | some (.stp p W), e1, e => exact ⟨p, W, rfl, e⟩
theorem Rel.cel (R : Rel K ZP B g H cs σ) {i : Nat} {b : Addr} {c : Cell} (e : celAt cs i b = some c) : ∃ p W, cs[i]? = some (some (.stp p W)) ∧ W b = some c ∧ σ[i]? = some (some (.ref p)) ∧ StoOk K g H W := by
  obtain ⟨p, W, e1, e2⟩ := celAt_some e
  obtain ⟨v, e3, rfl, q⟩ := R.slot i _ e1
  exact ⟨p, W, e1, e2, e3, q⟩
theorem LOk.rb {l : LV} {v : V} {d : PyData} (R2 : Rel K ZP B g2 H2 cs2 σ) (r : LOk K g2 H2 σ l v) (e : l.get cs2 = some d) : RB K H2 g2.fz d v := by
  cases l with
  | now c => cases e; exact Rp.rb r
  | slot i =>
    unfold LV.get CS.at_ at e
    simp only at e
    cases e1 : cs2[i]? with
    | none => rw [e1] at e; cases e
    | some osv =>
      cases osv with
      | none => rw [e1] at e; cases e
      | some sv =>
        rw [e1] at e
        obtain ⟨u, e2, q⟩ := R2.slot i sv e1
        have r : σ[i]? = some (some v) := r
        rw [e2] at r; cases r
        exact q.rb e
  | cel i b =>
    unfold LV.get at e
    simp only at e
    cases e1 : celAt cs2 i b with
    | none => rw [e1] at e; cases e
    | some c =>
      rw [e1] at e
      obtain ⟨p, W, _, e2, _, q⟩ := R2.cel e1
      cases (show v = .ref b from r)
      exact (q b c e2).2.2.rb e
theorem LOk.frm {l : LV} {v : V} (R1 : Rel K ZP B g1 H1 cs1 σ) (f : Frm (ow cs1 σ) g1 H1 g2 H2) (r : LOk K g1 H1 σ l v) : LOk K g2 H2 σ l v := by
  cases l with
  | now c => exact Rp.frm f R1.fzow r
  | slot i => exact r
  | cel i b => exact r
end

/-! ### operations of two values -/
abbrev OpX := PyData → PyData → (SV → Prop) → Prop
def rO (K : KW) (o : OpX) : R2 := fun x y H Q => ∃ fz d e, RB K H fz d x ∧ RB K H fz e y ∧ ∃ Q', o d e Q' ∧ ∀ sv z H', Q' sv → Res K H fz sv z H' → Q z H'
def t_op (o : OpX) (ta tb : TLD) : TD := fun cs Q => ta cs fun l cs1 => tb cs1 fun m cs2 => match l.get cs2, m.get cs2 with
  | some d, some e => o d e fun sv => Q sv cs2
  | _, _ => False
section
variable {X : Cx} {ZP : ZT} {a b : Expr} {pos : Pos} {ta tb : TLD} {o : OpX}
theorem op_core {σ : St} {H : Hp} {Q : VK} (h : tD X.kw ZP (t_op o ta tb) σ H Q) : tOp (rO X.kw o) (tLt X.kw ZP ta) (tLt X.kw ZP tb) σ H Q := by
  obtain ⟨B, cs, g, R, Q', q, k⟩ := h
  refine ⟨B, cs, g, R, _, q, fun l cs1 v g1 H1 q1 R1 r1 s1 f1 => ?_⟩
  refine ⟨B, cs1, g1, R1, _, q1, fun m cs2 u g2 H2 q2 R2 r2 s2 f2 => ?_⟩
  have r1' := r1.frm R1 f2
  cases e1 : l.get cs2 with
  | none => rw [e1] at q2; exact q2.elim
  | some d =>
    cases e2 : m.get cs2 with
    | none => rw [e1, e2] at q2; exact q2.elim
    | some e =>
      rw [e1, e2] at q2
      refine ⟨g2.fz, d, e, r1'.rb R2 e1, r2.rb R2 e2, _, q2, fun sv z H' q3 rz => ?_⟩
      obtain ⟨R3, r3, t3, f3⟩ := rz.fin R2
      have f12 : Frm (ow cs σ) g H g2 H2 := f1.trans (f2.mono fun a _ _ h => s1 a h)
      have f3' : Frm (ow cs σ) g2 H2 g2 H' := f3.mono fun a _ _ h => s1 a (s2 a h)
      refine k sv cs2 z g2 H' q3 R3 r3 (fun a e3 => ?_) (fun a h => s1 a (s2 a h)) (f12.trans f3')
      obtain ⟨n1, n2⟩ := t3 a e3
      refine ⟨n1, ?_⟩
      cases e5 : H a with
      | none => rfl
      | some u =>
        obtain ⟨u', e6⟩ := f12.any a u e5
        rw [n2] at e6; cases e6
theorem de_op {op : Operator} (ho : OpR X (binaryOp op) (rO X.kw o)) (ha : DL X ZP a ta) (hb : DL X ZP b tb) : DE X ZP (.BinOp a op b pos) (t_op o ta tb) :=
  ⟨PE.imp (pe_op ho ha.pe hb.pe) fun σ H Q h => op_core h⟩
theorem de_cmp {op : CmpOp} (ho : OpR X (compareOp op) (rO X.kw o)) (ha : DL X ZP a ta) (hb : DL X ZP b tb) (hm : behindInMarks op b = false := by first | exact nomark _ | with_unfolding_all rfl) : DE X ZP (.Compare a [op] [b] pos) (t_op o ta tb) :=
  ⟨PE.imp (pe_cmpR ho ha.pe hb.pe hm) fun σ H Q h => op_core h⟩
def t_tst (t : TD) : TTD := fun cs Q => t cs fun sv cs' => match sv with
  | .dat (.bool b) => Q b cs'
  | _ => False
theorem dt_cmp {op : CmpOp} (ho : OpR X (compareOp op) (rO X.kw o)) (ha : DL X ZP a ta) (hb : DL X ZP b tb) (hm : behindInMarks op b = false := by first | exact nomark _ | with_unfolding_all rfl) : DT X ZP (.Compare a [op] [b] pos) (t_tst (t_op o ta tb)) := by
  refine ⟨PT.imp (pt_cmpR ho ha.pe hb.pe hm) ?_⟩
  rintro σ H Q ⟨B, cs, g, R, Q', q, k⟩
  refine op_core (ZP := ZP) ⟨B, cs, g, R, _, q, fun sv cs' v g' H' q' R' r tm s f => ?_⟩
  cases sv with
  | dat d =>
    cases d with
    | bool b => cases r; exact ⟨b, rfl, k b cs' g' H' q' R' s f⟩
    | _ => exact q'.elim
  | _ => exact q'.elim
theorem dt_val {e : Expr} {t : TD} (h : DE X ZP e t) (he : ∀ whole, isTrue e X.env whole = (do let v ← whole; standAt e.pos; holding [v] (truthy v)) := by intro _; rfl) : DT X ZP e (t_tst t) := by
  refine ⟨PT.imp (pt_val h.pe he) ?_⟩
  rintro σ H Q ⟨B, cs, g, R, Q', q, k⟩
  refine ⟨B, cs, g, R, _, q, fun sv cs' v g' H' q' R' r tm s f => ?_⟩
  cases sv with
  | dat d =>
    cases d with
    | bool b => cases r; exact ⟨b, rfl, k b cs' g' H' q' R' s f⟩
    | _ => exact q'.elim
  | _ => exact q'.elim
end

/-! ### and, or, not -/
structure DW (X : Cx) (ZP : ZT) (e : Expr) (t : TTD) : Prop where
  pw : PW X e (tT X.kw ZP t)
section
variable {X : Cx} {ZP : ZT} {e a b : Expr} {pos : Pos} {ta tb : TTD} {rest : List Expr}
theorem PW.imp {t t' : TT} (h : PW X e t) (m : ∀ σ H Q, t' σ H Q → t σ H Q) : PW X e t' := ⟨fun wh pins s σ H Q I q => h.run wh pins s σ H Q I (m _ _ _ q)⟩
theorem dt_w (h : DW X ZP e ta) : DT X ZP e ta := ⟨h.pw.pt⟩
theorem dw_or1 (h : DT X ZP a ta) : DW X ZP (.BoolOp .Or [a] pos) ta := ⟨pw_or1 h.pt⟩
def t_and (ta tb : TTD) : TTD := fun cs Q => ta cs fun c cs1 => if c = true then tb cs1 Q else Q false cs1
def t_or (ta tb : TTD) : TTD := fun cs Q => ta cs fun c cs1 => if c = true then Q true cs1 else tb cs1 Q
def t_not (ta : TTD) : TTD := fun cs Q => ta cs fun c cs1 => Q (!c) cs1
theorem dw_or (h : DT X ZP a ta) (h2 : DW X ZP (.BoolOp .Or (b :: rest) pos) tb) : DW X ZP (.BoolOp .Or (a :: b :: rest) pos) (t_or ta tb) := by
  refine ⟨PW.imp (pw_or h.pt h2.pw) ?_⟩
  rintro σ H Q ⟨B, cs, g, R, Q', q, k⟩
  refine ⟨B, cs, g, R, _, q, fun c cs1 g1 H1 q1 R1 s1 f1 => ?_⟩
  cases c with
  | false =>
    rw [if_neg Bool.false_ne_true] at q1 ⊢
    exact ⟨B, cs1, g1, R1, _, q1, fun c2 cs2 g2 H2 q2 R2 s2 f2 => k c2 cs2 g2 H2 q2 R2 (fun a h => s1 a (s2 a h)) (f1.trans (f2.mono fun a _ _ h => s1 a h))⟩
  | true =>
    rw [if_pos rfl] at q1 ⊢
    exact k true cs1 g1 H1 q1 R1 s1 f1
theorem dt_not (h : DT X ZP a ta) : DT X ZP (.UnaryOp .Not a pos) (t_not ta) := by
  refine ⟨PT.imp (pt_not h.pt) ?_⟩
  rintro σ H Q ⟨B, cs, g, R, Q', q, k⟩
  exact ⟨B, cs, g, R, _, q, fun c cs1 g1 H1 q1 R1 s1 f1 => k (!c) cs1 g1 H1 q1 R1 s1 f1⟩
/-- .. as values -/
def t_andV (ta : TVD) (tb : TVD) : TVD := fun cs Q => ta cs fun d cs1 => match d with
  | .bool true => tb cs1 Q
  | .bool false => Q (.bool false) cs1
  | _ => False
def t_orV (ta : TVD) (tb : TVD) : TVD := fun cs Q => ta cs fun d cs1 => match d with
  | .bool false => tb cs1 Q
  | .bool true => Q (.bool true) cs1
  | _ => False
def t_notV (ta : TVD) : TVD := fun cs Q => ta cs fun d cs1 => match d with
  | .bool b => Q (.bool (!b)) cs1
  | _ => False
variable {va vb : TVD}
/-- a if t else b -/
def t_ifx (c : TTD) (ta tb : TD) : TD := fun cs Q => c cs fun b cs1 => if b = true then ta cs1 Q else tb cs1 Q
theorem de_if {c : Expr} {tc : TTD} {da db : TD} (hc : DT X ZP c tc) (ha : DE X ZP a da) (hb : DE X ZP b db) : DE X ZP (.IfExp c a b pos) (t_ifx tc da db) := by
  refine ⟨PE.imp (pe_ifExp hc.pt ha.pe hb.pe) ?_⟩
  rintro σ H Q ⟨B, cs, g, R, Q', q, k⟩
  refine ⟨B, cs, g, R, _, q, fun c cs1 g1 H1 q1 R1 s1 f1 => ?_⟩
  have go : ∀ sv cs2 v g2 H2, Q' sv cs2 → Rel X.kw ZP B g2 H2 cs2 σ → RS X.kw g2 H2 sv v → Tmp H1 cs2 σ sv v → (∀ a, ow cs2 σ a → ow cs1 σ a) → Frm (ow cs1 σ) g1 H1 g2 H2 → Q v H2 := fun sv cs2 v g2 H2 q2 R2 r2 t2 s2 f2 => by
    refine k sv cs2 v g2 H2 q2 R2 r2 (fun a e3 => ?_) (fun a h => s1 a (s2 a h)) (f1.trans (f2.mono fun a _ _ h => s1 a h))
    obtain ⟨n1, n2⟩ := t2 a e3
    refine ⟨n1, ?_⟩
    cases e5 : H a with
    | none => rfl
    | some u =>
      obtain ⟨u', e6⟩ := f1.any a u e5
      rw [n2] at e6; cases e6
  cases c with
  | true =>
    rw [if_pos rfl] at q1
    show tD X.kw ZP da σ H1 Q
    exact ⟨B, cs1, g1, R1, _, q1, go⟩
  | false =>
    rw [if_neg Bool.false_ne_true] at q1
    show tD X.kw ZP db σ H1 Q
    exact ⟨B, cs1, g1, R1, _, q1, go⟩
end
end Cl

namespace Cl
open PySem PySem.Spec PyProof.Rows L2

section
variable {K : KW} {H : Hp} {fz : Addr → Prop} {v : V}
theorem RB.non (r : RB K H fz .none v) : v = .non := by
  have r : Rp K H fz .none v := r
  cases r; rfl
theorem RB.bl {b : Bool} (r : RB K H fz (.bool b) v) : v = .bl b := by
  have r : Rp K H fz (.bool b) v := r
  cases r; rfl
theorem RB.int {i : Int} (r : RB K H fz (.int i) v) : v = .int i := by
  have r : Rp K H fz (.int i) v := r
  cases r; rfl
theorem RB.str {x : Str} (r : RB K H fz (.str x) v) : v = .str x := by
  have r : Rp K H fz (.str x) v := r
  cases r; rfl
theorem RB.tup {ds : List PyData} (r : RB K H fz (.tuple ds) v) : ∃ a xs, v = .ref a ∧ TP H a xs ∧ RpAll K H fz ds xs := by
  have r : Rp K H fz (.tuple ds) v := r
  cases r with
  | tup q r2 => exact ⟨_, _, rfl, q, r2⟩
theorem RB.lst {ds : List PyData} (r : RB K H fz (.list ds) v) : ∃ a xs, v = .ref a ∧ H a = some (.lst xs) ∧ RpAll K H fz ds xs := r
theorem RpAll.nil_iff {ds : List PyData} {vs : List V} (r : RpAll K H fz ds vs) : vs = [] ↔ ds = [] := by
  cases r <;> simp
end

/-! ### reading data for the library's rules -/
mutual
def listFree : PyData → Bool
  | .none | .bool _ | .int _ | .str _ => true
  | .list _ => false
  | .tuple xs => listFreeAll xs
  | .dict kvs => listFreeKv kvs
def listFreeAll : List PyData → Bool
  | [] => true
  | x :: xs => listFree x && listFreeAll xs
def listFreeKv : List (PyData × PyData) → Bool
  | [] => true
  | (k, v) :: r => listFree k && listFree v && listFreeKv r
end
section
variable {X : Cx} {pins : List (Addr × Obj)} {σ : L2.St} {H : Hp} {s : Shared} {fz : Addr → Prop}
theorem Inv.lstR {l : Addr} {xs : List V} (I : Inv X pins σ H s) (h : H l = some (.lst xs)) :
    xs.length ≤ sizeLine ∧ ∃ (its : List Value) (n : Nat), Vals xs its ∧ s.heap.get? l = some { cls := .type "list", data := .seq its.toArray n } := by
  obtain ⟨z, its, n, r, e⟩ := I.hok l _ h
  exact ⟨z, its, n, r, e⟩
mutual
theorem Rp.reads (I : Inv X pins σ H s) : ∀ (d : PyData) (v : V) (u : Value), Rp X.kw H fz d v → RelV v u → ∃ as, Reads s.heap u d as ∧ (listFree d = true → sysModules ∉ as)
  | .none, _, _, h, r => by cases h; cases r; exact ⟨_, .none, fun _ => by simp⟩
  | .bool b, _, _, h, r => by cases h; cases r; exact ⟨_, .bool b, fun _ => by simp⟩
  | .int i, _, _, h, r => by cases h; obtain ⟨t, rfl⟩ := r; exact ⟨_, .int i t, fun _ => by simp⟩
  | .str x, _, _, h, r => by cases h; obtain ⟨t, rfl⟩ := r; exact ⟨_, .str x t, fun _ => by simp⟩
  | .list ds, _, _, h, r => by
    cases h with
    | @lst a xs _ hf hq ha =>
      cases r
      obtain ⟨_, its, n, rv, e⟩ := Inv.lstR I hq
      obtain ⟨as, hr, hz⟩ := Rp.readsAll I ds _ its ha rv
      exact ⟨_, .list e rfl rfl hr, fun z => by simp [listFree] at z⟩
  | .tuple ds, _, _, h, r => by
    cases h with
    | tup hq ha =>
      cases r
      obtain ⟨its, rv, ⟨o, ho, hc, n, hd⟩, _⟩ := I.tuple hq.sq
      obtain ⟨as, hr, hz⟩ := Rp.readsAll I ds _ its ha rv
      exact ⟨_, .tuple ho hc hd hr, fun z => hz (by simpa [listFree] using z)⟩
  | .dict kvs, _, _, h, r => by
    cases h with
    | @dct a ep es ks vs _ hf hq k1 v1 r1 r2 _ =>
      cases r
      obtain ⟨⟨hs, o, ho, hex, hd⟩, _⟩ := I.hok a _ hq
      obtain ⟨as, q1, z1⟩ := Rp.readsAllK I kvs _ _ r1 k1
      obtain ⟨bs, q2, z2⟩ := Rp.readsAllV I kvs _ _ r2 v1
      refine ⟨_, .dict (es := es.toArray) ho hex.1 hd q1 q2, fun z hm => ?_⟩
      have z : listFreeKv kvs = true := by simpa [listFree] using z
      rcases List.mem_append.mp hm with hm | hm
      · rcases List.mem_cons.mp hm with hm | hm
        · exact hs hm.symm
        · exact z1 z hm
      · exact z2 z hm
theorem Rp.readsAll (I : Inv X pins σ H s) : ∀ (ds : List PyData) (vs : List V) (us : List Value), RpAll X.kw H fz ds vs → Vals vs us → ∃ as, ReadsAll s.heap us ds as ∧ (listFreeAll ds = true → sysModules ∉ as)
  | [], _, _, h, r => by cases h; cases r; exact ⟨_, .nil, fun _ => by simp⟩
  | d :: ds, _, _, h, r => by
    cases h with
    | cons h1 h2 =>
      cases r with
      | cons r1 r2 =>
        obtain ⟨as, q1, z1⟩ := Rp.reads I d _ _ h1 r1
        obtain ⟨bs, q2, z2⟩ := Rp.readsAll I ds _ _ h2 r2
        refine ⟨_, .cons q1 q2, fun z hm => ?_⟩
        have z : listFree d = true ∧ listFreeAll ds = true := by simpa [listFreeAll] using z
        rcases List.mem_append.mp hm with hm | hm
        · exact z1 z.1 hm
        · exact z2 z.2 hm
theorem Rp.readsAllK (I : Inv X pins σ H s) : ∀ (kvs : List (PyData × PyData)) (vs : List V) (us : List Value), RpAll X.kw H fz (kvs.map (·.1)) vs → Vals vs us → ∃ as, ReadsAll s.heap us (kvs.map (·.1)) as ∧ (listFreeKv kvs = true → sysModules ∉ as)
  | [], _, _, h, r => by cases h; cases r; exact ⟨_, .nil, fun _ => by simp⟩
  | (d, e) :: ds, _, _, h, r => by
    cases h with
    | cons h1 h2 =>
      cases r with
      | cons r1 r2 =>
        obtain ⟨as, q1, z1⟩ := Rp.reads I d _ _ h1 r1
        obtain ⟨bs, q2, z2⟩ := Rp.readsAllK I ds _ _ h2 r2
        refine ⟨_, .cons q1 q2, fun z hm => ?_⟩
        have z : (listFree d = true ∧ listFree e = true) ∧ listFreeKv ds = true := by simpa [listFreeKv] using z
        rcases List.mem_append.mp hm with hm | hm
        · exact z1 z.1.1 hm
        · exact z2 z.2 hm
theorem Rp.readsAllV (I : Inv X pins σ H s) : ∀ (kvs : List (PyData × PyData)) (vs : List V) (us : List Value), RpAll X.kw H fz (kvs.map (·.2)) vs → Vals vs us → ∃ as, ReadsAll s.heap us (kvs.map (·.2)) as ∧ (listFreeKv kvs = true → sysModules ∉ as)
  | [], _, _, h, r => by cases h; cases r; exact ⟨_, .nil, fun _ => by simp⟩
  | (e, d) :: ds, _, _, h, r => by
    cases h with
    | cons h1 h2 =>
      cases r with
      | cons r1 r2 =>
        obtain ⟨as, q1, z1⟩ := Rp.reads I d _ _ h1 r1
        obtain ⟨bs, q2, z2⟩ := Rp.readsAllV I ds _ _ h2 r2
        refine ⟨_, .cons q1 q2, fun z hm => ?_⟩
        have z : (listFree e = true ∧ listFree d = true) ∧ listFreeKv ds = true := by simpa [listFreeKv] using z
        rcases List.mem_append.mp hm with hm | hm
        · exact z1 z.1.2 hm
        · exact z2 z.2 hm
end
theorem RB.reads (I : Inv X pins σ H s) {d : PyData} {v : V} {u : Value} (h : RB X.kw H fz d v) (r : RelV v u) : ∃ as, Reads s.heap u d as ∧ (listFree d = true → sysModules ∉ as) := by
  cases d with
  | list ds =>
    obtain ⟨a, xs, rfl, hq, ha⟩ := h
    cases r
    obtain ⟨_, its, n, rv, e⟩ := Inv.lstR I hq
    obtain ⟨as, hr, hz⟩ := Rp.readsAll I ds _ its ha rv
    exact ⟨_, .list e rfl rfl hr, fun z => by simp [listFree] at z⟩
  | dict kvs =>
    obtain ⟨a, ep, es, ks, vs, rfl, hq, k1, v1, r1, r2, hh⟩ := h
    exact Rp.reads (fz := fun b => fz b ∨ b = a) I _ _ _ (.dct (.inr rfl) hq k1 v1 (RpAll.go (fun _ h => .inl h) (fun _ _ _ e => e) (fun _ _ e => e) r1) (RpAll.go (fun _ h => .inl h) (fun _ _ _ e => e) (fun _ _ e => e) r2) hh) r
  | none => exact Rp.reads I _ _ _ h r
  | bool b => exact Rp.reads I _ _ _ h r
  | int b => exact Rp.reads I _ _ _ h r
  | str b => exact Rp.reads I _ _ _ h r
  | tuple b => exact Rp.reads I _ _ _ h r
end

/-! ### operators -/
def addX : OpX := fun x y Q => match x, y with
  | .int i, .int j => Q (.dat (.int (i + j)))
  | .str a, .str b => a.length + b.length ≤ sizeLine ∧ Q (.dat (.str (a ++ b)))
  | .tuple xs, .tuple ys => xs.length + ys.length ≤ sizeLine ∧ Q (.dat (.tuple (xs ++ ys)))
  | .list xs, .list ys => xs.length + ys.length ≤ sizeLine ∧ Q (.own (xs ++ ys))
  | _, _ => False
def subX : OpX := fun x y Q => match x, y with
  | .int i, .int j => Q (.dat (.int (i - j)))
  | _, _ => False
def mulX : OpX := fun x y Q => match x, y with
  | .int i, .int j => IntMulOk i j ∧ Q (.dat (.int (i * j)))
  | .tuple xs, .int k => xs ≠ [] ∧ 2 ≤ k ∧ k ≤ 1000 ∧ xs.length ≤ 1000 ∧ Q (.dat (.tuple (List.replicate k.toNat xs).flatten))
  | .list xs, .int k => -(2 ^ 63) ≤ k ∧ k < 2 ^ 63 ∧ xs.length * k.toNat ≤ sizeLine ∧ Q (.own (List.replicate k.toNat xs).flatten)
  | _, _ => False
def modX : OpX := fun x y Q => match x, y with
  | .int i, .int j => 0 < j ∧ Q (.dat (.int (i % j)))
  | _, _ => False
def fdivX : OpX := fun x y Q => match x, y with
  | .int i, .int j => 0 < j ∧ j.natAbs < 2 ^ 9000 ∧ Q (.dat (.int (i / j)))
  | _, _ => False
def powX : OpX := fun x y Q => match x, y with
  | .int i, .int j => 0 ≤ j ∧ j ≤ 1000000 ∧ i.natAbs < 2 ^ 64 ∧ Q (.dat (.int (i ^ j.toNat)))
  | _, _ => False
def ltX : OpX := fun x y Q => match x, y with
  | .int i, .int j => Q (.dat (.bool (decide (i < j))))
  | _, _ => False
def leX : OpX := fun x y Q => match x, y with
  | .int i, .int j => Q (.dat (.bool (decide (i ≤ j))))
  | _, _ => False
def gtX : OpX := fun x y Q => match x, y with
  | .int i, .int j => Q (.dat (.bool (decide (j < i))))
  | _, _ => False
def geX : OpX := fun x y Q => match x, y with
  | .int i, .int j => Q (.dat (.bool (decide (j ≤ i))))
  | _, _ => False
def eqX : OpX := fun x y Q => SeqAt.shaped x = true ∧ SeqAt.shaped y = true ∧ Q (.dat (.bool (PyData.eqv x y)))
def neX : OpX := fun x y Q => SeqAt.shaped x = true ∧ SeqAt.shaped y = true ∧ Q (.dat (.bool (!PyData.eqv x y)))

section
variable {X : Cx}
theorem RpAll.rep {K : KW} {H : Hp} {fz : Addr → Prop} {ds : List PyData} {vs : List V} (r : RpAll K H fz ds vs) : ∀ n : Nat, RpAll K H fz (List.replicate n ds).flatten (List.replicate n vs).flatten
  | 0 => .nil
  | n + 1 => by
    rw [List.replicate_succ, List.replicate_succ, List.flatten_cons, List.flatten_cons]
    exact r.append (RpAll.rep r n)
theorem ox_add : OpR X (binaryOp .Add) (rO X.kw addX) := by
  rintro pins s σ H x y v u Q I rx ry ⟨fz, d, e, hd, he, Q', q, k⟩
  cases d with
  | int i =>
    cases e with
    | int j =>
      cases hd.int; cases he.int
      exact op_add pins s σ H _ _ v u Q I rx ry ⟨i, j, rfl, rfl, k _ _ _ q (.same (.int _))⟩
    | _ => exact q.elim
  | str a =>
    cases e with
    | str b =>
      cases hd.str; cases he.str
      exact op_add_str pins s σ H _ _ v u Q I rx ry ⟨a, b, rfl, rfl, q.1, k _ _ _ q.2 (.same (.str _))⟩
    | _ => exact q.elim
  | tuple xs =>
    cases e with
    | tuple ys =>
      obtain ⟨a, vs, rfl, ha, ra⟩ := hd.tup
      obtain ⟨b, ws, rfl, hb, rb⟩ := he.tup
      by_cases both : vs ≠ [] ∧ ws ≠ []
      · cases rx; cases ry
        obtain ⟨_, its, n, r1, e1⟩ := Inv.tpat I ha
        obtain ⟨_, its2, n2, r2, e2⟩ := Inv.tpat I hb
        have q1 := q.1
        have l1 := r1.length
        have l2 := r2.length
        have m1 := ra.length
        have m2 := rb.length
        have some_of : ∀ {us : List V} {ks : List Value}, Vals us ks → us ≠ [] → ¬ ks.toArray.isEmpty = true := fun {us ks} r n z => by
          cases ks with
          | nil => exact n (List.eq_nil_of_length_eq_zero r.length)
          | cons a b => simp at z
        refine PySem.P.add_tuple e1 e2 (some_of r1 both.1) (some_of r2 both.2) ?_ (by simp only [List.size_toArray]; omega)
        rw [show its.toArray ++ its2.toArray = (its ++ its2).toArray by simp]
        exact ⟨.ref _, _, Inv.tnew (t' := s.toks) I (r1.append r2) (by rw [List.length_append]; omega), rfl, k _ _ _ q.2 (.tup I.fresh (ra.append rb))⟩
      refine op_catA pins s σ H _ _ v u Q I rx ry ⟨a, b, vs, ws, rfl, rfl, ha.sq, hb.sq, ?_, fun e => ?_, fun n e => ?_, fun n m => absurd ⟨n, m⟩ both⟩
      · rw [← ra.length, ← rb.length]; exact q.1
      · rw [ra.nil_iff] at e; subst e
        exact k _ _ _ q.2 (.same (.tup hb rb))
      · rw [rb.nil_iff] at e; subst e
        have q2 := q.2
        rw [List.append_nil] at q2
        exact k _ _ _ q2 (.same (.tup ha ra))
    | _ => exact q.elim
  | list xs =>
    cases e with
    | list ys =>
      obtain ⟨a, vs, rfl, ha, ra⟩ := hd.lst
      obtain ⟨b, ws, rfl, hb, rb⟩ := he.lst
      cases rx; cases ry
      obtain ⟨z1, its, n, r1, e1⟩ := Inv.lstR I ha
      obtain ⟨z2, its2, n2, r2, e2⟩ := Inv.lstR I hb
      have l1 := r1.length
      have l2 := r2.length
      have m1 := ra.length
      have m2 := rb.length
      have q1 := q.1
      refine PySem.P.add_list e1 e2 ?_ (by simp only [List.size_toArray]; omega)
      rw [show its.toArray ++ its2.toArray = (its ++ its2).toArray by simp]
      refine ⟨.ref _, _, I.lnew (t' := s.toks) (r1.append r2) (by rw [List.length_append]; omega), rfl, k _ _ _ q.2 (.lst I.fresh (ra.append rb))⟩
    | _ => exact q.elim
  | _ => cases e <;> exact q.elim
theorem ox_sub : OpR X (binaryOp .Sub) (rO X.kw subX) := by
  rintro pins s σ H x y v u Q I rx ry ⟨fz, d, e, hd, he, Q', q, k⟩
  cases d with
  | int i =>
    cases e with
    | int j =>
      cases hd.int; cases he.int
      exact op_sub pins s σ H _ _ v u Q I rx ry ⟨i, j, rfl, rfl, k _ _ _ q (.same (.int _))⟩
    | _ => exact q.elim
  | _ => cases e <;> exact q.elim
def rRepW (K : PySem.W.Frag) : R2 := fun x y H Q => ∃ l k xs, x = .ref l ∧ y = .int k ∧ TP H l xs ∧ xs ≠ [] ∧ 2 ≤ k ∧ k ≤ 1000000 ∧ k.toNat * xs.length ≤ 1000000 ∧ ∀ p its, H p = none → Q (.ref p) (upd H p (tfz its (List.replicate k.toNat xs).flatten))
theorem op_repW : OpR X (binaryOp .Mult) (rRepW X.K) := by
  intro pins s σ H x y v u Q I rx ry h
  obtain ⟨l, k, xs, rfl, rfl, hT, hne, h1, h2, hz, q⟩ := h
  cases rx
  obtain ⟨t, rfl⟩ := ry
  obtain ⟨hs, its, n, r, ho⟩ := Inv.tpat I hT
  have hle : its.length = xs.length := r.length.symm
  have hn : its ≠ [] := fun e => hne (by
    rw [e] at hle
    exact List.eq_nil_of_length_eq_zero hle.symm)
  have hi : its.toArray.isEmpty = false := by
    cases its with
    | nil => exact absurd rfl hn
    | cons a b => rfl
  have hsz0 : its.toArray.size = xs.length := by rw [List.size_toArray, hle]
  have hm : ((its.toArray.size : Nat) : Int) * k ≤ 1000000 := by
    rw [hsz0]
    have a0 : (k.toNat : Int) = k := by omega
    have a1 : ((k.toNat * xs.length : Nat) : Int) ≤ 1000000 := by omega
    rw [Int.natCast_mul, a0, Int.mul_comm] at a1
    exact a1
  have flen : (List.replicate k.toNat its).flatten.length ≤ sizeLine := by
    rw [PyProof.Rows.lm_len_rep_flat, hle, sizeLine_eq]
    omega
  have c0 : (decide (k < -(2 ^ 63)) || decide (k ≥ 2 ^ 63)) = false := by
    rw [decide_eq_false (by omega), decide_eq_false (by omega)] <;> rfl
  have c1 : (its.toArray.isEmpty || k == 1) = false := by
    rw [hi, Bool.false_or]
    exact beq_eq_false_iff_ne.mpr (by omega)
  have c2 : (decide (k ≤ 0) || its.toArray.isEmpty) = false := by
    rw [hi, Bool.or_false]
    exact decide_eq_false (by omega)
  have c4 : Builtin.Tuple.tupleTooMany (((its.toArray.size : Nat) : Int) * k) = false := by
    unfold Builtin.Tuple.tupleTooMany
    rw [sizeLine_eq]
    exact decide_eq_false (by omega)
  refine wpAny_binaryOp_repeat_ref (T := "tuple") (U := "int") (by decide) ⟨_, ho, rfl⟩ (fun s' => typeIs_int s' k t) noFill_tuple_mul F.fills_int_mul F.slot_int_rmul repeat_tuple F.slot_int_index.lookup
    (call_meets F.slot_int_rmul (typeIs_int s k t) F.entry_int_rmul (F.args_int_rmul_2 _ _) (int_rmul_tuple k t l its.toArray n none #[])
      ⟨ho, rfl, ⟨_, ho, rfl⟩, call_meets F.slot_tuple_mul ⟨_, ho, rfl⟩ F.entry_tuple_mul (F.args_tuple_mul_2 _ _) (tuple_mulW l its.toArray n none #[] k t c0 c1 c2 (by omega) c4 (by rw [size_rep, List.size_toArray]; exact flen)) ⟨ho, ?_⟩⟩)
  rw [size_rep]
  exact ⟨.ref s.heap.objs.size, _, Inv.tnew (t' := s.toks) I (r.rep k.toNat) (by rw [PyProof.Rows.lm_len_rep_flat, sizeLine_eq]; omega), rfl, q _ _ (I.hok.fresh (Nat.le_refl _))⟩
theorem ox_mul : OpR X (binaryOp .Mult) (rO X.kw mulX) := by
  rintro pins s σ H x y v u Q I rx ry ⟨fz, d, e, hd, he, Q', q, k⟩
  cases d with
  | int i =>
    cases e with
    | int j =>
      cases hd.int; cases he.int
      obtain ⟨t, rfl⟩ := rx
      obtain ⟨t', rfl⟩ := ry
      exact mul_int ⟨.int (i * j), H, I.tok _, ⟨_, rfl⟩, k _ _ _ q.2 (.same (.int _))⟩ q.1
    | _ => exact q.elim
  | tuple xs =>
    cases e with
    | int j =>
      obtain ⟨a, vs, rfl, ha, ra⟩ := hd.tup
      cases he.int
      obtain ⟨q1, q2, q3, q4, q5⟩ := q
      have hm : j.toNat * vs.length ≤ 1000000 := by
        rw [← ra.length]
        exact Nat.le_trans (Nat.mul_le_mul (show j.toNat ≤ 1000 by omega) q4) (by decide)
      exact op_repW pins s σ H _ _ v u Q I rx ry ⟨a, j, vs, rfl, rfl, ha, fun e => q1 (ra.nil_iff.mp e), q2, by omega, hm, fun p its hp => k _ _ _ q5 (.tup hp (ra.rep _))⟩
    | _ => exact q.elim
  | list xs =>
    cases e with
    | int j =>
      obtain ⟨a, vs, rfl, ha, ra⟩ := hd.lst
      cases he.int
      obtain ⟨q1, q2, q3, q4⟩ := q
      exact op_rep pins s σ H _ _ v u Q I rx ry ⟨a, j, vs, rfl, rfl, ha, q1, q2, by rw [← ra.length]; exact q3, fun p hp => k _ _ _ q4 (.lst hp (ra.rep _))⟩
    | _ => exact q.elim
  | _ => cases e <;> exact q.elim
end
end Cl

namespace Cl
open PySem PySem.Spec PyProof.Rows L2
section
variable {X : Cx}
theorem ox_mod : OpR X (binaryOp .Mod) (rO X.kw modX) := by
  rintro pins s σ H x y v u Q I rx ry ⟨fz, d, e, hd, he, Q', q, k⟩
  cases d with
  | int i =>
    cases e with
    | int j =>
      cases hd.int; cases he.int
      exact op_mod pins s σ H _ _ v u Q I rx ry ⟨i, j, rfl, rfl, q.1, k _ _ _ q.2 (.same (.int _))⟩
    | _ => exact q.elim
  | _ => cases e <;> exact q.elim
theorem ox_fdiv : OpR X (binaryOp .FloorDiv) (rO X.kw fdivX) := by
  rintro pins s σ H x y v u Q I rx ry ⟨fz, d, e, hd, he, Q', q, k⟩
  cases d with
  | int i =>
    cases e with
    | int j =>
      cases hd.int; cases he.int
      exact op_fdivW pins s σ H _ _ v u Q I rx ry ⟨i, j, rfl, rfl, wide_div q.1 q.2.1 (by decide) (Nat.le_refl _), k _ _ _ q.2.2 (.same (.int _))⟩
    | _ => exact q.elim
  | _ => cases e <;> exact q.elim
theorem ox_pow : OpR X (binaryOp .Pow) (rO X.kw powX) := by
  rintro pins s σ H x y v u Q I rx ry ⟨fz, d, e, hd, he, Q', q, k⟩
  cases d with
  | int i =>
    cases e with
    | int j =>
      cases hd.int; cases he.int
      exact op_pow pins s σ H _ _ v u Q I rx ry ⟨i, j, rfl, rfl, ⟨q.1, q.2.1, q.2.2.1⟩, k _ _ _ q.2.2.2 (.same (.int _))⟩
    | _ => exact q.elim
  | _ => cases e <;> exact q.elim
theorem ox_le : OpR X (compareOp .LtE) (rO X.kw leX) := by
  rintro pins s σ H x y v u Q I rx ry ⟨fz, d, e, hd, he, Q', q, k⟩
  cases d with
  | int i =>
    cases e with
    | int j =>
      cases hd.int; cases he.int
      exact op_le pins s σ H _ _ v u Q I rx ry ⟨i, j, rfl, rfl, k _ _ _ q (.same (.bl _))⟩
    | _ => exact q.elim
  | _ => cases e <;> exact q.elim
theorem ox_ge : OpR X (compareOp .GtE) (rO X.kw geX) := by
  rintro pins s σ H x y v u Q I rx ry ⟨fz, d, e, hd, he, Q', q, k⟩
  cases d with
  | int i =>
    cases e with
    | int j =>
      cases hd.int; cases he.int
      exact op_ge pins s σ H _ _ v u Q I rx ry ⟨i, j, rfl, rfl, k _ _ _ q (.same (.bl _))⟩
    | _ => exact q.elim
  | _ => cases e <;> exact q.elim
theorem ox_eq (hu : X.A.units + 64 < cLine) : OpR X (compareOp .Eq) (rO X.kw eqX) := by
  rintro pins s σ H x y v u Q I rx ry ⟨fz, d, e, hd, he, Q', ⟨q1, q2, q⟩, k⟩
  obtain ⟨as, r1, _⟩ := RB.reads I hd rx
  obtain ⟨bs, r2, _⟩ := RB.reads I he ry
  exact SeqAt.compareEq_shaped r1 r2 q1 q2 hu ⟨.bl _, H, I, rfl, k _ _ _ q (.same (.bl _))⟩
theorem ox_ne (hu : X.A.units + 64 < cLine) : OpR X (compareOp .NotEq) (rO X.kw neX) := by
  rintro pins s σ H x y v u Q I rx ry ⟨fz, d, e, hd, he, Q', ⟨q1, q2, q⟩, k⟩
  obtain ⟨as, r1, _⟩ := RB.reads I hd rx
  obtain ⟨bs, r2, _⟩ := RB.reads I he ry
  exact SeqAt.compareNe_shaped r1 r2 q1 q2 hu ⟨.bl _, H, I, rfl, k _ _ _ q (.same (.bl _))⟩
end

/-! ### is None -/
def isNoneD : PyData → Bool
  | .none => true
  | _ => false
def isX : OpX := fun x y Q => y = .none ∧ Q (.dat (.bool (isNoneD x)))
def isnX : OpX := fun x y Q => y = .none ∧ Q (.dat (.bool (!isNoneD x)))
section
variable {X : Cx}
end

/-! ### a chain of two comparisons -/
section
variable {X : Cx} {ZP : ZT} {a b c : Expr} {pos : Pos} {ta tb tc : TLD} {o o' : OpX}
/-- the general form: both sides by LV.get -/
def t_chain' (o o' : OpX) (ta tb tc : TLD) : TD := fun cs Q => ta cs fun l cs1 => tb cs1 fun m cs2 => ∃ d e, l.get cs2 = some d ∧ m.get cs2 = some e ∧
  o d e fun sv => (sv = .dat (.bool false) ∧ Q (.dat (.bool false)) cs2) ∨ (sv = .dat (.bool true) ∧
    tc cs2 fun n cs3 => ∃ e' f, m.get cs3 = some e' ∧ n.get cs3 = some f ∧ o' e' f fun sv' => (∃ b, sv' = .dat (.bool b)) ∧ Q sv' cs3)
end

/-! ### calls of a built-in -/
abbrev C1X := PyData → (SV → Prop) → Prop
def rC1 (K : KW) (o : C1X) : List V → Hp → VK → Prop := fun xs H Q => ∃ x fz d, xs = [x] ∧ RB K H fz d x ∧ ∃ Q', o d Q' ∧ ∀ sv z H', Q' sv → Res K H fz sv z H' → Q z H'
def rC2 (K : KW) (o : OpX) : List V → Hp → VK → Prop := fun xs H Q => ∃ x y fz d e, xs = [x, y] ∧ RB K H fz d x ∧ RB K H fz e y ∧ ∃ Q', o d e Q' ∧ ∀ sv z H', Q' sv → Res K H fz sv z H' → Q z H'
def t_c1 (o : C1X) (ta : TLD) : TD := fun cs Q => ta cs fun l cs1 => match l.get cs1 with
  | some d => o d fun sv => Q sv cs1
  | none => False
section
variable {X : Cx} {ZP : ZT} {a b : Expr} {pos p : Pos} {ta tb : TLD} {o : C1X} {o2 : OpX} {x : Str} {id T : String}
theorem c1_core {σ : L2.St} {H : Hp} {Q : VK} (h : tD X.kw ZP (t_c1 o ta) σ H Q) : tCB (rC1 X.kw o) (tCons (tLt X.kw ZP ta) tNil) σ H Q := by
  obtain ⟨B, cs, g, R, Q', q, k⟩ := h
  refine ⟨B, cs, g, R, _, q, fun l cs1 v g1 H1 q1 R1 r1 s1 f1 => ?_⟩
  cases e1 : l.get cs1 with
  | none => rw [e1] at q1; exact q1.elim
  | some d =>
    rw [e1] at q1
    refine ⟨v, g1.fz, d, rfl, r1.rb R1 e1, _, q1, fun sv z H' q3 rz => ?_⟩
    obtain ⟨R3, r3, t3, f3⟩ := rz.fin R1
    refine k sv cs1 z g1 H' q3 R3 r3 (fun a e4 => ?_) s1 (f1.trans (f3.mono fun a _ _ h => s1 a h))
    obtain ⟨n1, n2⟩ := t3 a e4
    refine ⟨n1, ?_⟩
    cases e5 : H a with
    | none => rfl
    | some u =>
      obtain ⟨u', e6⟩ := f1.any a u e5
      rw [n2] at e6; cases e6
theorem de_b1 (hc : CallR X (.builtin id) (rC1 X.kw o)) (hg : Gl X x) (hm : X.mg x = none) (hv : bootBuiltins x = some (.builtin id)) (ha : DL X ZP a ta) (hn : x ≠ "__name__" := by decide) (hdb : (x == ("__debug__" : Str)) = false := by decide)
    (he : starEach [a] X.env = (false, eval a X.env) :: starEach [] X.env := by rfl) : DE X ZP (.Call (.Name x p) [a] [] pos) (t_c1 o ta) :=
  ⟨PE.imp (pe_callB hc hg hm hv (pa_cons ha.pe pa_nil he) hn hdb he rfl) fun σ H Q h => c1_core h⟩
theorem de_t1 (hc : CallR X (.type T) (rC1 X.kw o)) (hg : Gl X x) (hm : X.mg x = none) (hv : bootBuiltins x = some (.type T)) (ha : DL X ZP a ta) (hn : x ≠ "__name__" := by decide) (hdb : (x == ("__debug__" : Str)) = false := by decide)
    (he : starEach [a] X.env = (false, eval a X.env) :: starEach [] X.env := by rfl) : DE X ZP (.Call (.Name x p) [a] [] pos) (t_c1 o ta) :=
  ⟨PE.imp (pe_callTy hc hg hm hv (pa_cons ha.pe pa_nil he) hn hdb he rfl) fun σ H Q h => c1_core h⟩
theorem c2_core {σ : L2.St} {H : Hp} {Q : VK} (h : tD X.kw ZP (t_op o2 ta tb) σ H Q) : tCB (rC2 X.kw o2) (tCons (tLt X.kw ZP ta) (tCons (tLt X.kw ZP tb) tNil)) σ H Q := by
  have h := op_core (X := X) h
  obtain ⟨B, cs, g, R, Q', q, k⟩ := h
  refine ⟨B, cs, g, R, Q', q, fun l cs1 v g1 H1 q1 R1 r1 s1 f1 => ?_⟩
  obtain ⟨B', cs', g', R', Q2, q2, k2⟩ := k l cs1 v g1 H1 q1 R1 r1 s1 f1
  refine ⟨B', cs', g', R', Q2, q2, fun m cs2 u g2 H2 q3 R2 r2 s2 f2 => ?_⟩
  obtain ⟨fz, d, e, hd, he, z⟩ := k2 m cs2 u g2 H2 q3 R2 r2 s2 f2
  exact ⟨v, u, fz, d, e, rfl, hd, he, z⟩
theorem de_b2 (hc : CallR X (.builtin id) (rC2 X.kw o2)) (hg : Gl X x) (hm : X.mg x = none) (hv : bootBuiltins x = some (.builtin id)) (ha : DL X ZP a ta) (hb : DL X ZP b tb) (hn : x ≠ "__name__" := by decide) (hdb : (x == ("__debug__" : Str)) = false := by decide)
    (he : starEach [a, b] X.env = (false, eval a X.env) :: starEach [b] X.env := by rfl) (he2 : starEach [b] X.env = (false, eval b X.env) :: starEach [] X.env := by rfl) (hpl : (backTo pos (starEach [b] X.env)).any (·.1) = false := by rfl) : DE X ZP (.Call (.Name x p) [a, b] [] pos) (t_op o2 ta tb) :=
  ⟨PE.imp (pe_callB hc hg hm hv (pa_cons ha.pe (pa_cons hb.pe pa_nil he2) he) hn hdb he hpl) fun σ H Q h => c2_core h⟩
end

/-! ### isinstance -/
def isT (d : PyData) (T : String) : Bool := match d with
  | .none => T == "NoneType"
  | .bool _ => T == "bool" || T == "int"
  | .int _ => T == "int"
  | .str _ => T == "str"
  | .list _ => T == "list"
  | .tuple _ => T == "tuple"
  | .dict _ => T == "dict"
def tyD : PyData → String
  | .none => "NoneType"
  | .bool _ => "bool"
  | .int _ => "int"
  | .str _ => "str"
  | .list _ => "list"
  | .tuple _ => "tuple"
  | .dict _ => "dict"
theorem kit_data {K : KW} {h : Heap} {u : Value} {d : PyData} {as : List Addr} (r : Reads h u d as) : ∃ P : Heap → Prop, PySem.W.KitX K u (.type (tyD d)) P ∧ P h ∧ u ≠ .builtin "__main__.__loader__#opaque" := by
  cases r with
  | none => exact ⟨_, PySem.W.kitx_none, True.intro, fun z => nomatch z⟩
  | bool b => exact ⟨_, PySem.W.kitx_bool, True.intro, fun z => nomatch z⟩
  | int i t => exact ⟨_, PySem.W.kitx_int, True.intro, fun z => nomatch z⟩
  | str x t => exact ⟨_, PySem.W.kitx_str, True.intro, fun z => nomatch z⟩
  | list h1 h2 _ _ => exact ⟨_, PySem.W.kitx_list, ⟨_, h1, h2⟩, fun z => nomatch z⟩
  | tuple h1 h2 _ _ => exact ⟨_, PySem.W.kitx_tuple, ⟨_, h1, h2⟩, fun z => nomatch z⟩
  | dict h1 h2 _ _ _ => exact ⟨_, PySem.W.kitx_dict, ⟨_, h1, h2⟩, fun z => nomatch z⟩
def isTy (T : String) : Prop := ∀ d : PyData, kitB (tyD d) T = some (isT d T)
def isTs (t T : String) : Bool := if t == "bool" then (T == "bool" || T == "int") else T == t
theorem isT_ts (d : PyData) (T : String) : isT d T = isTs (tyD d) T := by cases d <;> rfl
theorem isTy_of {T : String} (h : ∀ t ∈ ["NoneType", "bool", "int", "str", "list", "tuple", "dict"], kitB t T = some (isTs t T)) : isTy T := fun d => by
  rw [isT_ts]
  exact h (tyD d) (by cases d <;> simp [tyD])
theorem isTy_tuple : isTy "tuple" := isTy_of (by decide +kernel)
def rIsD (K : KW) (T : String) : List V → Hp → VK → Prop := fun xs H Q => ∃ x fz d, xs = [x, .ty T] ∧ RB K H fz d x ∧ Q (.bl (isT d T)) H
def t_isi (T : String) (ta : TLD) : TVD := fun cs Q => ta cs fun l cs1 => match l.get cs1 with
  | some d => Q (.bool (isT d T)) cs1
  | none => False
section
variable {X : Cx} {ZP : ZT} {a : Expr} {pos p p2 : Pos} {ta : TLD} {x : Str} {T : String}
theorem cr_isD (ht : isTy T) : CallR X (.builtin "isinstance") (rIsD X.kw T) := by
  rintro pins s σ H xs us Q I r ⟨x, fz, d, rfl, hd, q⟩
  obtain ⟨u1, u2, rfl, r1, r2⟩ := vals2 r
  cases (show u2 = Value.type T from r2)
  obtain ⟨as, rd, _⟩ := RB.reads I hd r1
  obtain ⟨P, Z, p, hx⟩ := kit_data (K := X.kw) rd
  exact PySem.W.kia_one Z I.kIn p (kit_ty (ht d)) hx fun tk => ⟨.bl _, H, I.tok tk, rfl, q⟩
theorem dv_isi (ht : isTy T) (hg : Gl X "isinstance") (hm : X.mg "isinstance" = none) (hg2 : Gl X x) (hm2 : X.mg x = none) (hv2 : bootBuiltins x = some (.type T)) (ha : DL X ZP a ta) (hn : x ≠ "__name__" := by decide) (hdb : (x == ("__debug__" : Str)) = false := by decide)
    (he : starEach [a, .Name x p2] X.env = (false, eval a X.env) :: starEach [.Name x p2] X.env := by rfl) : DV X ZP (.Call (.Name "isinstance" p) [a, .Name x p2] [] pos) (t_isi T ta) := by
  refine ⟨PE.imp (pe_callB (cr_isD ht) hg hm (by decide +kernel) (pa_cons ha.pe (pa_cons (pe_bltn (v := .ty T) hg2 hm2 hv2 rfl hn hdb) pa_nil) he) (by decide) (by decide) he rfl) ?_⟩
  rintro σ H Q ⟨B, cs, g, R, Q', q, k⟩
  refine ⟨B, cs, g, R, _, q, fun l cs1 v g1 H1 q1 R1 r1 s1 f1 => ?_⟩
  cases e1 : l.get cs1 with
  | none => rw [e1] at q1; exact q1.elim
  | some d =>
    rw [e1] at q1
    exact ⟨v, g1.fz, d, rfl, r1.rb R1 e1, k _ cs1 _ g1 H1 q1 R1 (.bl _) s1 f1⟩
end
end Cl

/-! a def's promise where nothing is being shown (the guards are empty): repr of containers is allowed there -/
namespace Cl
open PySem PySem.Spec PyProof.Rows L2

structure FnG (P : Program) (w : World) (K : PySem.W.Frag) (mg : Str → Option Value) (base : Heap) (CX : CXT) (k : Nat) (f : Addr) (fd : FuncData) (ps : List Str) (sp : Sp) : Prop where
  len : ∀ vs H Q E, sp vs H Q E → vs.length = ps.length
  run : ∀ (A : Around) (outer : List Env) (s : Shared) (H : Hp) (args : Args) (us : List Value) (vs : List V) (Q : VK) (E : XK), A.guards = some [] → Room k A →
    Env0 P w K mg base A outer s H → BindsTo s fd args (ps.zip us) → Vals vs us → sp vs H Q E → codeAny (model P w) A (.call (.ref f) args) (CR CX outer P w H s Q E) s

theorem FnG.mono {P : Program} {w : World} {K : PySem.W.Frag} {mg : Str → Option Value} {base : Heap} {CX : CXT} {j k : Nat} {f : Addr} {fd : FuncData} {ps : List Str} {sp : Sp}
    (F : FnG P w K mg base CX j f fd ps sp) (h : j ≤ k) : FnG P w K mg base CX k f fd ps sp :=
  ⟨F.len, fun A o s H a us vs Q E hg hr => F.run A o s H a us vs Q E hg (hr.mono h)⟩
theorem FnG.imp {P : Program} {w : World} {K : PySem.W.Frag} {mg : Str → Option Value} {base : Heap} {CX : CXT} {k : Nat} {f : Addr} {fd : FuncData} {ps : List Str} {sp sp' : Sp}
    (F : FnG P w K mg base CX k f fd ps sp) (h : ∀ vs H Q E, sp' vs H Q E → sp vs H Q E) : FnG P w K mg base CX k f fd ps sp' :=
  ⟨fun vs H Q E q => F.len vs H Q E (h _ _ _ _ q), fun A o s H a us vs Q E hg hr he hb hv hs => F.run A o s H a us vs Q E hg hr he hb hv (h _ _ _ _ hs)⟩

theorem fnG_of {CX : CXT} {P : Program} {w : World} {K : PySem.W.Frag} {mg : Str → Option Value} {base : Heap} {k : Nat} {f : Addr} {name qual : Str} {params : Arguments} {body : List Stmt} {scope : Scope}
    {dV kV doc pm cdv ct oc : Value} {an od : Option Addr} {osl : Array (Option Value)} {N ps : List Str} {sp : Sp}
    (lk : K.lookup f = some ⟨oc, od, .func (PySem.W.fnOf name qual params body scope dV kV doc pm an cdv ct), osl⟩) (cdk : PySem.W.codeIn K cdv qual = true) (S : FnScope N ps scope)
    (len : ∀ vs H Q E, sp vs H Q E → vs.length = ps.length)
    (bod : ∀ (A : Around) (outer : List Env) (s : Shared) (H : Hp) (vs : List V) (Q : VK) (E : XK), A.guards = some [] →
      Room k (A.deeper (envOfC qual scope s.heap.objs.size f cdv)) → sp vs H Q E →
      ∃ t, PSs (cxOf CX P w K mg base N qual scope f cdv A outer s H E) body t ∧ t { nx := fun _ H' => Q .non H', rt := Q } (L2.start N vs) H) :
    FnG P w K mg base CX (k + 1) f (PySem.W.fnOf name qual params body scope dV kV doc pm an cdv ct) ps sp := by
  refine ⟨len, fun A outer s H args us vs Q E hg hr e0 bind rel want => ?_⟩
  have nl := len _ _ _ _ want
  have inK : K.In s.heap := e0.mod.kin.keeps fun c ob => fun z => (e0.bs c ob z).1
  have noLim : s.heap.NoLimit := e0.mod.nolimit.keeps fun c ob => fun z => (e0.bs c ob z).1
  have kinds : ∀ y ∈ ps.zip us, scope.names.lookup y.1 = some .local ∨
      (scope.names.lookup y.1 = some .cell ∧ ((cellsFrom (s.heap.objs.size + 1) scope.names []).lookup y.1).isSome = true) := by
    rintro ⟨n, v⟩ hy
    have hn : n ∈ ps := (List.of_mem_zip hy).1
    rcases S.par n hn with c | c
    · exact Or.inl c
    · exact Or.inr ⟨c, PySem.W.cellsFrom_some _ _ _ (Or.inl c)⟩
  refine codeAny_call_function hr.depth (inK _ _ lk) rfl S.co S.gen rfl (PySem.W.codeRec_of inK cdk) (bind _ _ _ _ ?_)
  refine wpAny_newFunctionEnv_cells S.kind kinds fun env eqE st inC => ?_
  subst eqE
  refine ⟨noLim.keeps inC.toInCall.keep, codeAny_func ?_⟩
  obtain ⟨t, ht, wt⟩ := bod A outer s H vs Q E hg (hr.deeper _) want
  have J0 := inv_start (CX := CX) (P := P) (w := w) (K := K) (mg := mg) (base := base) (E := E) S hr.hd e0 nl rel inC
  refine wpAny_mono (ht.run [] st (L2.start N vs) H _ J0 wt) ?_ fun e s' z => z
  intro fl s' res
  cases fl with
  | ret u =>
    obtain ⟨v, σ', H', J, rv, q⟩ := res
    exact ⟨v, H', J.os, J.bare, J.base, J.hok, rv, q⟩
  | next =>
    obtain ⟨σ', H', J, q⟩ := res
    exact ⟨.non, H', J.os, J.bare, J.base, J.hok, rfl, q⟩
  | brk => exact res.elim fun _ z => z.elim fun _ z => z.2.elim
  | cont => exact res.elim fun _ z => z.elim fun _ z => z.2.elim

section
variable {P : Program} {w : World} {K : PySem.W.Frag} {mg : Str → Option Value} {base : Heap}
/-- a def of the text, no exception leaves it -/
theorem funG {x qual : Str} {st : Stmt} {f : Addr} {fd : FuncData} {N ps : List Str} {k : Nat} {sp : Sp} (F : Fun K x qual st f fd) (S : FnScope N ps (defScope st))
    (len : ∀ vs H Q E, sp vs H Q E → vs.length = ps.length)
    (bod : ∀ (cdv : Value) (A : Around) (outer : List Env) (s : Shared) (H : Hp) (vs : List V) (Q : VK) (E : XK), A.guards = some [] →
      Room k (A.deeper (envOfC qual (defScope st) s.heap.objs.size f cdv)) → sp vs H Q E →
      ∃ t, PSs (cxOf CX0 P w K mg base N qual (defScope st) f cdv A outer s H E).nox (defBody st) t ∧ t { nx := fun _ H' => Q .non H', rt := Q } (L2.start N vs) H) :
    FnG P w K mg base CX0 (k + 1) f fd ps sp := by
  obtain ⟨oc, od, kV, doc, pm, an, cdv, ct, osl, rfl, lk, cdk⟩ := F.ex
  refine fnG_of lk cdk S len fun A outer s H vs Q E hg hr want => ?_
  obtain ⟨t, h, q⟩ := bod cdv A outer s H vs Q E hg hr want
  exact ⟨t, PSs.nox h, q⟩
end

section
variable {X : Cx} {CX : CXT} {k : Nat} {f : Addr} {fd : FuncData} {ps ks : List Str} {sp : Sp} {E : XK} {x : Str} {p pos : Pos} {e : Expr} {es : List Expr} {kws : List Keyword} {t tk : TA}
theorem run_G {pins : List (Addr × Obj)} {σ : L2.St} {H : Hp} {s : Shared} {Q : VK} {args : Args} {us : List Value} {vs : List V} (F : FnG X.prog X.w X.K X.mg X.base CX k f fd ps sp) (hg : X.A.guards = some []) (hr : Room k X.A) (hx : Passes CX X E)
    (I : Inv X pins σ H s) (hb : BindsTo s fd args (ps.zip us)) (r : Vals vs us) (h : sp vs H Q E) : wpAny (model X.prog X.w) X.A (call (.ref f) args.pos args.kw) (EP X pins σ Q) X.xe s := by
  refine wpAny_call (codeAny_mono (F.run X.A X.stack s H args us vs Q E hg hr I.env0 hb r h) ?_)
  intro res s' z
  cases res with
  | error e => exact hx pins σ H s e s' I z
  | ok fl =>
    cases fl with
    | ret u => exact I.after z
    | next => exact z.elim
    | brk => exact z.elim
    | cont => exact z.elim
/-- f(e, ..), every parameter given by its place -/
def tCallG (sp : Sp) (E : XK) (t : TA) : TE := fun σ H Q => t σ H fun vs H1 => sp vs H1 Q E
theorem pe_callG1 (F : FnG X.prog X.w X.K X.mg X.base CX k f fd ps sp) (hgd : X.A.guards = some []) (hr : Room k X.A) (hg : Gl X x) (hm : X.mg x = some (.ref f)) (hk : PySem.W.keepIn X.K (.ref f) = true) (hb : Binds X.K fd ps []) (hx : Passes CX X E)
    (ha : PA X (e :: es) t) (hdb : (x == ("__debug__" : Str)) = false := by decide) (he : starEach (e :: es) X.env = (false, eval e X.env) :: starEach es X.env := by rfl) (hpl : (backTo pos (starEach es X.env)).any (·.1) = false := by rfl) :
    PE X (.Call (.Name x p) (e :: es) [] pos) (tCallG sp E t) := by
  constructor
  intro pins s σ H Q I h
  refine wpAny_Call_Name_kw (ld_glob I hg hm ?_ hdb)
  refine PySem.W.callWith_K (h₀ := X.base) I.ok.mod.kin hk (thn (ha.run pos pins s σ H _ I h) ?_) he hpl
  rintro us s1 ⟨vs, H1, I1, r, q⟩
  refine ⟨I1.kIn, ?_⟩
  have hl : us.length = ps.length := by rw [← r.length]; exact F.len _ _ _ _ q
  have b := hb s1 us I1.kIn (by rw [List.append_nil]; exact hl)
  rw [List.append_nil] at b
  exact run_G (args := ⟨us, []⟩) F hgd hr hx I1 b r q
end
end Cl

namespace Cl
open PySem PySem.Spec PyProof.Rows L2

/-- how a call with n places and the keywords ks binds -/
def KBd (K : PySem.W.Frag) (fd : FuncData) (ps ks : List Str) (n : Nat) (g : List Value → List Value → List Value) : Prop :=
  ∀ (s : Shared) (us ws : List Value), K.In s.heap → us.length = n → ws.length = ks.length → BindsTo s fd ⟨us, ks.zip ws⟩ (ps.zip (g us ws))
def KRel (gV : List V → List V → List V) (g : List Value → List Value → List Value) : Prop :=
  ∀ (vs : List V) (us : List Value) (zs : List V) (ws : List Value), Vals vs us → Vals zs ws → Vals (gV vs zs) (g us ws)
theorem kbd {K : PySem.W.Frag} {x qual : Str} {st : Stmt} {f : Addr} {fd : FuncData} {ps ks : List Str} {n : Nat} {g : List Value → List Value → List Value} (F : Fun K x qual st f fd)
    (h : ∀ (kV doc pm : Value) (an : Option Addr) (cdv ct : Value) (us ws : List Value), us.length = n → ws.length = ks.length →
      bindArgs (PySem.W.fnOf x qual (defArgs st) (defBody st) (defScope st) .none kV doc pm an cdv ct) ⟨us, ks.zip ws⟩ = pure (ps.zip (g us ws))) : KBd K fd ps ks n g := by
  obtain ⟨oc, od, kV, doc, pm, an, cdv, ct, osl, rfl, lk, cdk⟩ := F.ex
  exact fun s us ws _ h1 h2 => .of_eq (h kV doc pm an cdv ct us ws h1 h2)
section
variable {X : Cx} {CX : CXT} {k n : Nat} {f : Addr} {fd : FuncData} {ps ks : List Str} {sp : Sp} {E : XK} {x : Str} {p pos : Pos} {e : Expr} {es : List Expr} {kws : List Keyword} {t tk : TA}
variable {g : List Value → List Value → List Value} {gV : List V → List V → List V}
def tCallGK (n m : Nat) (sp : Sp) (gV : List V → List V → List V) (E : XK) (t tk : TA) : TE := fun σ H Q => t σ H fun vs H1 => tk σ H1 fun zs H2 => vs.length = n ∧ zs.length = m ∧ sp (gV vs zs) H2 Q E
theorem pe_callGK0 (F : FnG X.prog X.w X.K X.mg X.base CX k f fd ps sp) (hgd : X.A.guards = some []) (hr : Room k X.A) (hg : Gl X x) (hm : X.mg x = some (.ref f)) (hk : PySem.W.keepIn X.K (.ref f) = true) (hb : KBd X.K fd ps ks 0 g) (hrel : KRel gV g) (hx : Passes CX X E)
    (hkw : PK X kws tk) (hall : (backToKw pos (keywordEach kws X.env)).all (·.1.isSome) = true := by rfl) (hks : (backToKw pos (keywordEach kws X.env)).filterMap (·.1) = ks := by rfl)
    (hdb : (x == ("__debug__" : Str)) = false := by decide)
    (hpl : ((backTo pos (starEach [] X.env)).any (·.1) || (backToKw pos (keywordEach kws X.env)).any (·.1.isNone)) = false := by rfl) :
    PE X (.Call (.Name x p) [] kws pos) (tCallGK 0 ks.length sp gV E tNil tk) := by
  constructor
  intro pins s σ H Q I h
  refine wpAny_Call_Name_kw (ld_glob I hg hm ?_ hdb)
  refine PySem.W.callWith_KW0 (h₀ := X.base) I.ok.mod.kin hk hall ?_ hpl
  refine thn (hkw.run pos pins s σ H _ I h) ?_
  rintro ws s2 ⟨zs, H2, I2, rz, l1, l2, q2⟩
  refine ⟨I2.kIn, ?_⟩
  rw [hks]
  exact run_G (args := ⟨[], ks.zip ws⟩) F hgd hr hx I2 (hb s2 [] ws I2.kIn rfl (rz.length.symm.trans l2)) (hrel _ _ _ _ .nil rz) q2
end

/-! ### the law's end -/
theorem lawG {P : Program} {w : World} {K : PySem.W.Frag} {mg mb : Str → Option Value} {CX : CXT} {k : Nat} {fa a : Addr} {fd : FuncData} {x : Str} {sp : Sp} {s1 : Shared} {vs : List Value} {ns : List Int}
    (inK : K.In s1.heap) (gm : s1.heap.Ns mainGlobals mg) (gb : s1.heap.Ns builtinsNs mb) (blt : ∀ y : Str, y ≠ "__name__" → mb y = bootBuiltins y) (nol : s1.heap.NoLimit) (ge : s1.gens = #[])
    (ha : s1.heap.get? a = some { cls := .type "list", data := .seq vs.toArray }) (hi : IntsAre vs ns) (hl : ns.length ≤ sizeLine) (hr : Room k callerA)
    (F : ∀ base : Heap, K.In base → base.Ns mainGlobals mg → FnG P w K mg base CX k fa fd [x] sp) (bind : ∀ (s : Shared) (u : Value), BindsTo s fd ⟨[u], []⟩ [(x, u)])
    (want : ∀ H : Hp, Only H → SqL K H a (ns.map V.int) → sp [.ref a] H (fun v _ => v = .bl true) fun _ _ _ => False)
    (noX : ∀ H e s', CX [] H s1 (fun _ _ _ => False) e s' → False) :
    codeAny (model P w) callerA (.call (.ref fa) ⟨[.ref a], []⟩) (fun r s' => r = .ok (.ret (.bool true)) ∧ OldK s1.heap s'.heap ∧ s'.os = s1.os ∧ AllBare s'.gens) s1 := by
  have rel := vals_ints hi
  have len := hi.length
  have main : ∀ H : Hp, Only H → SqL K H a (ns.map V.int) → HOk P w H s1.heap → (∀ b, H b ≠ none → b = a) → (H a ≠ none → K.lookup a = none) →
      codeAny (model P w) callerA (.call (.ref fa) ⟨[.ref a], []⟩) (fun r s' => r = .ok (.ret (.bool true)) ∧ OldK s1.heap s'.heap ∧ s'.os = s1.os ∧ AllBare s'.gens) s1 := by
    intro H only seq hok onlyA freeK
    have low : ∀ {b : Addr} {o : Obj}, s1.heap.get? b = some o → (H b ≠ none → False) → (hidT s1.heap H).get? b = some o := fun {b o} e n => hidT_get e (by
      cases z : H b with
      | none => rfl
      | some u => exact (n (by simp [z])).elim)
    have dictNot : ∀ {b : Addr} {o : Obj} {es : Array DictEntry} {ep : Nat}, s1.heap.get? b = some o → o.data = .dict es ep → H b ≠ none → False := fun {b o es ep} e d n => by
      have := onlyA b n
      subst this
      rw [ha] at e; cases e
      exact absurd d (fun z => nomatch (show Data.seq vs.toArray _ = Data.dict es ep from z))
    have nsLow : ∀ {b : Addr} {m : Str → Option Value}, s1.heap.Ns b m → (hidT s1.heap H).Ns b m := fun {b m} z => by
      obtain ⟨o, es, ep, e, d, r⟩ := z
      exact ⟨o, es, ep, low e (dictNot e d), d, r⟩
    have kLow : K.In (hidT s1.heap H) := fun b o e => low (inK b o e) fun n => by
      have := onlyA b n
      subst this
      rw [freeK n] at e; cases e
    obtain ⟨mc, c1, c2⟩ := nol
    have hM : Mod K mg (hidT s1.heap H) := ⟨kLow, nsLow gm, ⟨mb, nsLow gb, blt⟩, ⟨mc, nsLow c1, c2⟩⟩
    have start0 : Env0 P w K mg (hidT s1.heap H) callerA [] s1 H :=
      ⟨rfl, hM, fun b o e => of_hidT e, Nat.le_of_eq (hidT_size _ _), trivial, (fun b z => absurd (show b ∈ ([] : List Addr) from z) (by simp)), hok, .of_eq ge⟩
    refine codeAny_mono ((F _ kLow (nsLow gm)).run callerA [] s1 H ⟨[.ref a], []⟩ [.ref a] [.ref a] _ _ rfl hr start0 (bind s1 (.ref a)) (.cons rfl .nil) (want H only seq)) ?_
    intro r s' z
    cases r with
    | error e => exact (noX H e s' z).elim
    | ok fl =>
      cases fl with
      | next => exact z.elim
      | brk => exact z.elim
      | cont => exact z.elim
      | ret u =>
        obtain ⟨v, H', os, bare, un, hok2, rv, q⟩ := z
        have q : v = V.bl true := q
        subst q
        cases (show u = Value.bool true from rv)
        refine ⟨rfl, OldK.of_keep fun b o e => ?_, os, bare⟩
        cases hb : H b with
        | none => exact un.keep b o e hb (fun z => absurd (show b ∈ ([] : List Addr) from z) (by simp)) (by simp)
        | some u =>
          rcases only b with z | ⟨ob, xs, z⟩
          · rw [hb] at z; cases z
          · have z2 := un.frzs b ob _ z
            have g1 := (hok b _ z).1
            have g2 := (hok2 b _ z2).1
            rw [e] at g1; cases g1
            exact g2
  cases hk : K.lookup a with
  | some o =>
    have e := inK a o hk
    rw [ha] at e
    cases e
    refine main (fun _ => none) (fun _ => Or.inl rfl) (Or.inr ⟨_, vs.toArray, _, hk, rfl, rfl, rfl, ?_, ?_⟩) ?_ ?_ ?_
    · rw [List.size_toArray, len]; exact hl
    · simpa using rel
    · intro b u z; exact nomatch (show (none : Option HO) = some u from z)
    · intro b z; exact (z rfl).elim
    · intro z; exact (z rfl).elim
  | none =>
    have at_a : ∀ b, (if b = a then some (HO.frz { cls := .type "list", data := .seq vs.toArray } (.lst (ns.map V.int))) else none) ≠ none → b = a := fun b z => by
      by_cases hb : b = a
      · exact hb
      · rw [if_neg hb] at z; exact (z rfl).elim
    refine main (fun b => if b = a then some (HO.frz { cls := .type "list", data := .seq vs.toArray } (.lst (ns.map V.int))) else none) (fun b => ?_) (Or.inl (Or.inr ⟨{ cls := .type "list", data := .seq vs.toArray }, if_pos rfl⟩)) (fun b u z => ?_) at_a fun _ => hk
    · by_cases hb : b = a
      · exact Or.inr ⟨_, _, if_pos hb⟩
      · exact Or.inl (if_neg hb)
    · have z : (if b = a then some (HO.frz { cls := .type "list", data := .seq vs.toArray } (.lst (ns.map V.int))) else none) = some u := z
      have hb := at_a b (fun q => by rw [q] at z; cases z)
      subst hb
      rw [if_pos rfl] at z; cases z
      refine ⟨ha, ?_, vs, _, rel, ha⟩
      rw [List.length_map]; exact hl
theorem walkG {l : PySem.W.OpenLaw} {n k : Nat} {q : Program} {loose : List Str} {XP : (Str → Option Value) → Heap → Prop} {YP : World → Heap → Prop} {d : DefRec} {K : Params → PySem.W.Frag} {CX : World → CXT} {sp : World → Sp} {x : Str}
    (hn : l.most = some n) (hn2 : n ≤ sizeLine) (hdf : d.params.defaults = []) (hr : Room k callerA)
    (hY : ∀ (w : World) (h : Heap), YP w h → (K w.params).In h)
    (F : ∀ (w : World) (mg : Str → Option Value) (fa : Addr) (h : Heap), (K w.params).In h → h.Ns mainGlobals mg → mg d.name = some (.ref fa) →
      ∃ fd : FuncData, (∀ (s : Shared) (u : Value), BindsTo s fd ⟨[u], []⟩ [(x, u)]) ∧
        ∀ base : Heap, (K w.params).In base → base.Ns mainGlobals mg → FnG l.prog w (K w.params) mg base (CX w) k fa fd [x] (sp w))
    (want : ∀ (w : World) (H : Hp) (a : Addr) (ns : List Int), ns.length ≤ n → Only H → SqL (K w.params) H a (ns.map V.int) → sp w [.ref a] H (fun v _ => v = .bl true) fun _ _ _ => False)
    (noX : ∀ (w : World) (H : Hp) (s : Shared) (e : Value) (s' : Shared), CX w [] H s (fun _ _ _ => False) e s' → False) :
    PySem.W.WalkO q loose XP YP l.row.toRowW d [] (fun f vs => PySem.call f vs) := by
  refine Att.attach_call hn hdf ?_
  intro w s₀ s1 mg mb fa o pm cd doc a vs ns G Y ho hd hcd hmg hobj hints hlen hgs
  have inK := hY w _ Y
  obtain ⟨fd, hb, hF⟩ := F w mg fa _ inK G.T.g hmg
  exact lawG inK G.T.g G.T.b G.T.builtins G.T.nolimit hgs hobj hints (Nat.le_trans hlen hn2) hr hF hb (fun H hO hS => want w H a ns hlen hO hS) fun H e s' => noX w H s1 e s'
end Cl

namespace Cl
open PySem PySem.Spec PyProof.Rows L2

/-! ### built-ins of one argument -/
def lenX : C1X := fun d Q => match d with
  | .str s => s.length ≤ sizeLine ∧ Q (.dat (.int s.length))
  | .list xs => Q (.dat (.int xs.length))
  | .tuple xs => Q (.dat (.int xs.length))
  | _ => False
def listX : C1X := fun d Q => match d with
  | .list xs => Q (.own xs)
  | .tuple xs => Q (.own xs)
  | _ => False
def tupleX : C1X := fun d Q => match d with
  | .list xs => Q (.dat (.tuple xs))
  | .tuple xs => Q (.dat (.tuple xs))
  | _ => False
def reprOk (d : PyData) : Prop := d.showable = true ∧ (d.hasDict = true → listFree d = true) ∧ d.depth ≤ 60 ∧ d.shown.length ≤ sizeLine
def intX : C1X := fun d Q => match d with
  | .int i => Q (.dat (.int i))
  | .bool b => Q (.dat (.int (if b then 1 else 0)))
  | _ => False
def boolsD : List PyData → Option (List Bool)
  | [] => some []
  | .bool b :: r => (boolsD r).map (b :: ·)
  | _ :: _ => none
def intsD : List PyData → Option (List Int)
  | [] => some []
  | .int b :: r => (intsD r).map (b :: ·)
  | _ :: _ => none
def allX : C1X := fun d Q => match d with
  | .list xs => (match boolsD xs with
    | some bs => Q (.dat (.bool (bs.all id)))
    | none => False)
  | _ => False
def sumX : C1X := fun d Q => match d with
  | .list xs => (match intsD xs with
    | some ns => Q (.dat (.int ns.sum))
    | none => False)
  | _ => False
def absX : C1X := fun d Q => match d with
  | .int i => Q (.dat (.int (if i < 0 then -i else i)))
  | _ => False
section
variable {K : KW} {H : Hp} {fz : Addr → Prop}
theorem RpAll.intsOf : ∀ {ds : List PyData} {vs : List V} {bs : List Int}, RpAll K H fz ds vs → intsD ds = some bs → vs = bs.map V.int
  | [], _, bs, .nil, e => by simp [intsD] at e; subst e; rfl
  | d :: ds, _, bs, .cons r s, e => by
    cases d with
    | int b =>
      simp only [intsD, Option.map_eq_some_iff] at e
      obtain ⟨cs, e1, rfl⟩ := e
      cases r
      rw [RpAll.intsOf s e1]; rfl
    | _ => simp [intsD] at e
end
section
variable {X : Cx}
theorem c_len : CallR X (.builtin "len") (rC1 X.kw lenX) := by
  rintro pins s σ H xs us Q I r ⟨x, fz, d, rfl, hd, Q', q, k⟩
  cases d with
  | str z => cases hd.str; exact call_len_str pins s σ H _ us Q I r ⟨z, rfl, q.1, k _ _ _ q.2 (.same (.int _))⟩
  | list ds =>
    obtain ⟨a, vs, rfl, h, ra⟩ := hd.lst
    refine call_len_seq pins s σ H _ us Q I r ⟨a, vs, rfl, .inl (SqL.of h), ?_⟩
    rw [← ra.length]; exact k _ _ _ q (.same (.int _))
  | tuple ds =>
    obtain ⟨a, vs, rfl, h, ra⟩ := hd.tup
    refine call_len_seq pins s σ H _ us Q I r ⟨a, vs, rfl, .inr (h.sq), ?_⟩
    rw [← ra.length]; exact k _ _ _ q (.same (.int _))
  | _ => exact q.elim
theorem c_list : CallR X (.type "list") (rC1 X.kw listX) := by
  rintro pins s σ H xs us Q I r ⟨x, fz, d, rfl, hd, Q', q, k⟩
  cases d with
  | list ds =>
    obtain ⟨a, vs, rfl, h, ra⟩ := hd.lst
    exact call_list_of pins s σ H _ us Q I r ⟨a, vs, rfl, .inl (SqL.of h), fun l hl => k _ _ _ q (.lst hl ra)⟩
  | tuple ds =>
    obtain ⟨a, vs, rfl, h, ra⟩ := hd.tup
    exact call_list_of pins s σ H _ us Q I r ⟨a, vs, rfl, .inr (h.sq), fun l hl => k _ _ _ q (.lst hl ra)⟩
  | _ => exact q.elim
theorem c_tuple : CallR X (.type "tuple") (rC1 X.kw tupleX) := by
  rintro pins s σ H xs us Q I r ⟨x, fz, d, rfl, hd, Q', q, k⟩
  cases d with
  | list ds =>
    obtain ⟨a, vs, rfl, h, ra⟩ := hd.lst
    obtain ⟨w, rfl, rw1⟩ := vals1 r
    cases rw1
    obtain ⟨its, ri, pl, zz⟩ := I.list (SqL.of h)
    have ll := ri.length
    refine call_tuple_list pl.isList (fun h2 kp => ?_) (by simp only [List.size_toArray]; omega)
    have I1 := I.kept (t' := s.toks) kp
    exact ⟨.ref h2.objs.size, _, Inv.tnew (t' := s.toks) I1 ri zz, rfl, k _ _ _ q (.tup (I1.hok.fresh (Nat.le_refl _)) ra)⟩
  | tuple ds =>
    obtain ⟨a, vs, rfl, h, ra⟩ := hd.tup
    exact call_tuple_of pins s σ H _ us Q I r ⟨a, vs, rfl, .inr ⟨h.sq, k _ _ _ q (.same (.tup h ra))⟩⟩
  | _ => exact q.elim
theorem c_int : CallR X (.type "int") (rC1 X.kw intX) := by
  rintro pins s σ H xs us Q I r ⟨x, fz, d, rfl, hd, Q', q, k⟩
  cases d with
  | int i => cases hd.int; exact call_int1 pins s σ H _ us Q I r (.inl ⟨i, rfl, k _ _ _ q (.same (.int _))⟩)
  | bool b => cases hd.bl; exact call_int1 pins s σ H _ us Q I r (.inr ⟨b, rfl, k _ _ _ q (.same (.int _))⟩)
  | _ => exact q.elim
theorem c_sum (hc : X.calm = true) : CallR X (.builtin "sum") (rC1 X.kw sumX) := by
  rintro pins s σ H xs us Q I r ⟨x, fz, d, rfl, hd, Q', q, k⟩
  cases d with
  | list ds =>
    obtain ⟨a, vs, rfl, h, ra⟩ := hd.lst
    cases e : intsD ds with
    | none => simp only [sumX, e] at q
    | some bs =>
      simp only [sumX, e] at q
      exact cr_sum hc pins s σ H _ us Q I r ⟨a, bs, rfl, SqL.of (by rw [← ra.intsOf e]; exact h), k _ _ _ q (.same (.int _))⟩
  | _ => exact q.elim
end

/-! ### items and slices -/
def ixX : OpX := fun x y Q => match x, y with
  | .list xs, .int i => (match atI xs i with
    | some d => Q (.dat d)
    | none => False)
  | .tuple xs, .int i => (match atI xs i with
    | some d => Q (.dat d)
    | none => False)
  | .str z, .int i => z.length ≤ sizeLine ∧ (match atI z.cps.toList i with
    | some c => Q (.dat (.str ⟨#[c]⟩))
    | none => False)
  | _, _ => False
theorem RpAll.at_ {K : KW} {H : Hp} {fz : Addr → Prop} {ds : List PyData} {vs : List V} {i : Int} {d : PyData} (r : RpAll K H fz ds vs) (e : atI ds i = some d) : ∃ v, atI vs i = some v ∧ Rp K H fz d v := by
  unfold atI at e ⊢
  rw [← r.length]
  cases e1 : ixN ds.length i with
  | none => rw [e1] at e; cases e
  | some j =>
    rw [e1] at e
    exact r.get' e
def cutD (xs : List PyData) (lo hi : Option Int) : List PyData := (xs.drop (HT.sIx xs.length 0 lo)).take (HT.sIx xs.length xs.length hi - HT.sIx xs.length 0 lo)
theorem RpAll.cut {K : KW} {H : Hp} {fz : Addr → Prop} {ds : List PyData} {vs : List V} (r : RpAll K H fz ds vs) (lo hi : Option Int) : RpAll K H fz (cutD ds lo hi) (cutV vs lo hi) := by
  unfold cutD cutV
  rw [← r.length]
  exact (r.drop _).take _
theorem cutD_whole {xs : List PyData} {lo hi : Option Int} (h : HT.sIx xs.length 0 lo = 0 ∧ HT.sIx xs.length xs.length hi = xs.length) : cutD xs lo hi = xs := by
  unfold cutD
  rw [h.1, h.2]
  simp
section
variable {X : Cx}
theorem ix_data : IxR X (rO X.kw ixX) := by
  rintro value slice pins s σ H x y v u Q I rx ry ⟨fz, d, e, hd, he, Q', q, k⟩ hs
  cases d with
  | list ds =>
    cases e with
    | int i =>
      obtain ⟨a, vs, rfl, h, ra⟩ := hd.lst
      cases he.int
      cases e1 : atI ds i with
      | none => simp only [ixX, e1] at q
      | some c =>
        simp only [ixX, e1] at q
        obtain ⟨w, e2, rw_⟩ := ra.at_ e1
        exact ix_list value slice pins s σ H _ _ v u Q I rx ry ⟨a, vs, i, w, rfl, rfl, SqL.of h, e2, k _ _ _ q (.same rw_)⟩ hs
    | _ => exact q.elim
  | tuple ds =>
    cases e with
    | int i =>
      obtain ⟨a, vs, rfl, h, ra⟩ := hd.tup
      cases he.int
      cases e1 : atI ds i with
      | none => simp only [ixX, e1] at q
      | some c =>
        simp only [ixX, e1] at q
        obtain ⟨w, e2, rw_⟩ := ra.at_ e1
        exact ix_tup value slice pins s σ H _ _ v u Q I rx ry ⟨a, vs, i, w, rfl, rfl, h.sq, e2, k _ _ _ q (.same rw_)⟩ hs
    | _ => exact q.elim
  | str z =>
    cases e with
    | int i =>
      cases hd.str
      cases he.int
      obtain ⟨q1, q⟩ := q
      cases e1 : atI z.cps.toList i with
      | none => simp only [e1] at q
      | some c =>
        simp only [e1] at q
        exact ix_str value slice pins s σ H _ _ v u Q I rx ry ⟨z, i, c, rfl, rfl, q1, e1, k _ _ _ q (.same (.str _))⟩ hs
    | _ => exact q.elim
  | _ => cases e <;> exact q.elim
variable {ZP : ZT} {a b : Expr} {pos : Pos} {ta tb : TLD}
end
/-- an optional part of a slice -/
abbrev TOD := CS → (Option Int → CS → Prop) → Prop
def tOp_ (K : KW) (ZP : ZT) (t : TOD) : TO := fun σ H Q => ∃ B cs g, Rel K ZP B g H cs σ ∧ ∃ Q', t cs Q' ∧
  ∀ o cs' g' H', Q' o cs' → Rel K ZP B g' H' cs' σ → (∀ a, ow cs' σ a → ow cs σ a) → Frm (ow cs σ) g H g' H' → Q o H'
structure DO (X : Cx) (ZP : ZT) (e : Option Expr) (t : TOD) : Prop where
  po : PO X e (tOp_ X.kw ZP t)
def t_no : TOD := fun cs Q => Q none cs
def t_some (t : TVD) : TOD := fun cs Q => t cs fun d cs' => match d with
  | .int i => Q (some i) cs'
  | _ => False
theorem PO.imp {X : Cx} {e : Option Expr} {t t' : TO} (h : PO X e t) (m : ∀ σ H Q, t' σ H Q → t σ H Q) : PO X e t' := ⟨fun pins s σ H Q I q => h.run pins s σ H Q I (m _ _ _ q)⟩
theorem do_none {X : Cx} {ZP : ZT} : DO X ZP none t_no := ⟨PO.imp po_none fun σ H Q ⟨B, cs, g, R, Q', q, k⟩ => k none cs g H q R (fun _ h => h) .refl⟩
theorem do_some {X : Cx} {ZP : ZT} {e : Expr} {t : TVD} (h : DV X ZP e t) : DO X ZP (some e) (t_some t) := by
  refine ⟨PO.imp (po_some h.pe) ?_⟩
  rintro σ H Q ⟨B, cs, g, R, Q', q, k⟩
  refine ⟨B, cs, g, R, _, q, fun d cs1 v g1 H1 q1 R1 r1 s1 f1 => ?_⟩
  cases d with
  | int i => cases r1; exact ⟨i, rfl, k _ cs1 g1 H1 q1 R1 s1 f1⟩
  | _ => exact q1.elim
def slX (d : PyData) (lo hi : Option Int) (Q : SV → Prop) : Prop := match d with
  | .list xs => Q (.own (cutD xs lo hi))
  | .tuple xs => Q (.dat (.tuple (cutD xs lo hi)))
  | .str z => z.length ≤ sizeLine ∧ Q (.dat (.str (cutS z lo hi)))
  | _ => False
def rSlD (K : KW) : V → Option Int → Option Int → Hp → VK → Prop := fun x lo hi H Q => ∃ fz d, RB K H fz d x ∧ ∃ Q', slX d lo hi Q' ∧ ∀ sv z H', Q' sv → Res K H fz sv z H' → Q z H'
theorem sl_data {X : Cx} : SlR X (rSlD X.kw) := by
  rintro pins s σ H x v vl vu lo hi sl Q I rx hs pl pu ⟨fz, d, hd, Q', q, k⟩
  cases d with
  | list ds =>
    obtain ⟨a, vs, rfl, h, ra⟩ := hd.lst
    exact sl_list pins s σ H _ v vl vu lo hi sl Q I rx hs pl pu ⟨a, vs, rfl, SqL.of h, fun p hp => k _ _ _ q (.lst hp (ra.cut lo hi))⟩
  | tuple ds =>
    obtain ⟨a, vs, rfl, h, ra⟩ := hd.tup
    by_cases hw : HT.sIx vs.length 0 lo = 0 ∧ HT.sIx vs.length vs.length hi = vs.length
    case neg =>
      cases rx
      obtain ⟨zz, its, n, r, ho⟩ := Inv.tpat I h
      have tt : IsTup s.heap a its.toArray := ⟨_, ho, rfl, n, rfl⟩
      have ll : its.toArray.size = vs.length := by rw [List.size_toArray]; exact r.length.symm
      refine ⟨"tuple", _, PyProof.Rows.slot_tuple_getitem.lookup, tt.typeIs, HT.getItem_tuple_cut tt hs pl pu (by rw [ll]; exact hw) ?_ (by rw [ll]; exact zz)⟩
      rw [ll]
      exact ⟨.ref s.heap.objs.size, _, Inv.tnew (t' := s.toks) I ((r.drop (HT.sIx vs.length 0 lo)).take (HT.sIx vs.length vs.length hi - HT.sIx vs.length 0 lo)) (Nat.le_trans (cutV_length vs lo hi) zz), rfl, k _ _ _ q (.tup I.fresh (ra.cut lo hi))⟩
    refine sl_tupA pins s σ H _ v vl vu lo hi sl Q I rx hs pl pu ⟨a, vs, rfl, h.sq, fun e => ?_, fun n => absurd hw n⟩
    rw [← ra.length] at e
    have q : Q' (.dat (.tuple (cutD ds lo hi))) := q
    rw [cutD_whole e] at q
    exact k _ _ _ q (.same (.tup h ra))
  | str z => cases hd.str; exact sl_str pins s σ H _ v vl vu lo hi sl Q I rx hs pl pu ⟨z, rfl, q.1, k _ _ _ q.2 (.same (.str _))⟩
  | _ => exact q.elim
def t_slice (ta : TLD) (tl th : TOD) : TD := fun cs Q => ta cs fun l cs1 => tl cs1 fun lo cs2 => th cs2 fun hi cs3 => match l.get cs3 with
  | some d => slX d lo hi fun sv => Q sv cs3
  | none => False
section
variable {X : Cx} {ZP : ZT} {a : Expr} {lo hi : Option Expr} {pos p2 : Pos} {ta : TLD} {tl th : TOD}
theorem Tmp.back {H H1 : Hp} {cs : CS} {σ : L2.St} {sv : SV} {v : V} {w : Addr → Prop} {g g1 : GW} (f : Frm w g H g1 H1) (t : Tmp H1 cs σ sv v) : Tmp H cs σ sv v := fun a e4 => by
  obtain ⟨n1, n2⟩ := t a e4
  refine ⟨n1, ?_⟩
  cases e5 : H a with
  | none => rfl
  | some u =>
    obtain ⟨u', e6⟩ := f.any a u e5
    rw [n2] at e6; cases e6
theorem de_slice (ha : DL X ZP a ta) (hl : DO X ZP lo tl) (hh : DO X ZP hi th) : DE X ZP (.Subscript a (.Slice lo hi none p2) pos) (t_slice ta tl th) := by
  refine ⟨PE.imp (pe_slice sl_data ha.pe hl.po hh.po) ?_⟩
  rintro σ H Q ⟨B, cs, g, R, Q', q, k⟩
  refine ⟨B, cs, g, R, _, q, fun l cs1 v g1 H1 q1 R1 r1 s1 f1 => ?_⟩
  refine ⟨B, cs1, g1, R1, _, q1, fun o1 cs2 g2 H2 q2 R2 s2 f2 => ?_⟩
  refine ⟨B, cs2, g2, R2, _, q2, fun o2 cs3 g3 H3 q3 R3 s3 f3 => ?_⟩
  have r3 := (r1.frm R1 f2).frm R2 f3
  cases e1 : l.get cs3 with
  | none => rw [e1] at q3; exact q3.elim
  | some d =>
    rw [e1] at q3
    refine ⟨g3.fz, d, r3.rb R3 e1, _, q3, fun sv z H' q4 rz => ?_⟩
    obtain ⟨R4, r4, t4, f4⟩ := rz.fin R3
    have f13 : Frm (ow cs σ) g H g3 H3 := (f1.trans (f2.mono fun a _ _ h => s1 a h)).trans (f3.mono fun a _ _ h => s1 a (s2 a h))
    exact k sv cs3 z g3 H' q4 R4 r4 (t4.back f13) (fun a h => s1 a (s2 a (s3 a h))) (f13.trans (f4.mono fun a _ _ h => s1 a (s2 a (s3 a h))))
end
end Cl

namespace Cl
open PySem PySem.Spec PyProof.Rows L2

/-! ### arguments -/
def settled : SV → Bool
  | .obj _ => false
  | .stp _ _ => false
  | .rtd _ _ => false
  | _ => true
theorem settled_foot {sv : SV} {v : V} {a : Addr} (h : settled sv = true) : ¬ Foot sv v a := by
  cases sv <;> first | (intro q; exact q) | cases h
abbrev RSs (K : KW) (g : GW) (H : Hp) : List SV → List V → Prop := Paired (RS K g H)
abbrev TSA := CS → (List SV → CS → Prop) → Prop
def tA (K : KW) (ZP : ZT) (t : TSA) : TA := fun σ H Q => ∃ B cs g, Rel K ZP B g H cs σ ∧ ∃ Q', t cs Q' ∧
  ∀ svs cs' vs g' H', Q' svs cs' → Rel K ZP B g' H' cs' σ → RSs K g' H' svs vs → (∀ sv ∈ svs, settled sv = true) → (∀ a, ow cs' σ a → ow cs σ a) → Frm (ow cs σ) g H g' H' → Q vs H'
structure DA (X : Cx) (ZP : ZT) (es : List Expr) (t : TSA) : Prop where
  pa : PA X es (tA X.kw ZP t)
structure DK (X : Cx) (ZP : ZT) (kws : List Keyword) (t : TSA) : Prop where
  pk : PK X kws (tA X.kw ZP t)
section
variable {X : Cx} {ZP : ZT} {e : Expr} {es : List Expr} {kws : List Keyword} {pos kpos : Pos} {tv : TVD} {td : TD} {ts : TSA} {nm : Option Str}
theorem PA.imp {t t' : TA} (h : PA X es t) (m : ∀ σ H Q, t' σ H Q → t σ H Q) : PA X es t' := ⟨fun pos pins s σ H Q I q => h.run pos pins s σ H Q I (m _ _ _ q)⟩
theorem PK.imp {t t' : TA} (h : PK X kws t) (m : ∀ σ H Q, t' σ H Q → t σ H Q) : PK X kws t' := ⟨fun pos pins s σ H Q I q => h.run pos pins s σ H Q I (m _ _ _ q)⟩
theorem RSs.frm {K : KW} {g g' : GW} {H H' : Hp} {w : Addr → Prop} (f : Frm w g H g' H') (hw : ∀ a, g.fz a → g.zs a = none ∧ ¬ w a) : ∀ {svs : List SV} {vs : List V}, (∀ sv ∈ svs, settled sv = true) → RSs K g H svs vs → RSs K g' H' svs vs
  | _, _, _, .nil => .nil
  | sv :: _, _, h, .cons r t => .cons (r.frm f hw fun a e => absurd e (settled_foot (h sv List.mem_cons_self))) (RSs.frm f hw (fun sv hm => h sv (List.mem_cons_of_mem _ hm)) t)
def t_anil : TSA := fun cs Q => Q [] cs
def t_acons (t : TVD) (u : TSA) : TSA := fun cs Q => t cs fun d cs1 => u cs1 fun svs cs2 => Q (.dat d :: svs) cs2
/-- an argument that may be a thing of the typed region, or the script -/
def t_aconsR (t : TD) (u : TSA) : TSA := fun cs Q => t cs fun sv cs1 => settled sv = true ∧ u cs1 fun svs cs2 => Q (sv :: svs) cs2
theorem da_nil : DA X ZP [] t_anil := ⟨PA.imp pa_nil fun σ H Q ⟨B, cs, g, R, Q', q, k⟩ => k [] cs [] g H q R .nil (fun _ z => by cases z) (fun _ h => h) .refl⟩
theorem acons_core {tr : TA} {σ : L2.St} {H : Hp} {Q : List V → Hp → Prop} (h : tA X.kw ZP (t_aconsR td ts) σ H Q) : tCons (tD X.kw ZP td) (tA X.kw ZP ts) σ H Q := by
  obtain ⟨B, cs, g, R, Q', q, k⟩ := h
  refine ⟨B, cs, g, R, _, q, fun sv cs1 v g1 H1 q1 R1 r1 t1 s1 f1 => ?_⟩
  obtain ⟨hs, q1⟩ := q1
  refine ⟨B, cs1, g1, R1, _, q1, fun svs cs2 vs g2 H2 q2 R2 r2 st s2 f2 => ?_⟩
  refine k (sv :: svs) cs2 (v :: vs) g2 H2 q2 R2 (.cons (r1.frm f2 R1.fzow fun a e => absurd e (settled_foot hs)) r2) (fun sv' hm => ?_) (fun a h => s1 a (s2 a h)) (f1.trans (f2.mono fun a _ _ h => s1 a h))
  · rcases List.mem_cons.mp hm with rfl | hm
    · exact hs
    · exact st sv' hm
theorem da_consR (h : DE X ZP e td) (r : DA X ZP es ts) (hs : starEach (e :: es) X.env = (false, eval e X.env) :: starEach es X.env := by rfl) : DA X ZP (e :: es) (t_aconsR td ts) :=
  ⟨PA.imp (pa_cons h.pe r.pa hs) fun σ H Q q => acons_core (tr := tNil) q⟩
theorem acons_v {σ : L2.St} {H : Hp} {Q : List V → Hp → Prop} (h : tA X.kw ZP (t_acons tv ts) σ H Q) : tCons (tV X.kw ZP tv) (tA X.kw ZP ts) σ H Q := by
  obtain ⟨B, cs, g, R, Q', q, k⟩ := h
  refine ⟨B, cs, g, R, _, q, fun d cs1 v g1 H1 q1 R1 r1 s1 f1 => ?_⟩
  refine ⟨B, cs1, g1, R1, _, q1, fun svs cs2 vs g2 H2 q2 R2 r2 st s2 f2 => ?_⟩
  refine k (.dat d :: svs) cs2 (v :: vs) g2 H2 q2 R2 (.cons (Rp.frm f2 R1.fzow r1) r2) (fun sv' hm => ?_) (fun a h => s1 a (s2 a h)) (f1.trans (f2.mono fun a _ _ h => s1 a h))
  rcases List.mem_cons.mp hm with rfl | hm
  · rfl
  · exact st sv' hm
theorem da_cons (h : DV X ZP e tv) (r : DA X ZP es ts) (hs : starEach (e :: es) X.env = (false, eval e X.env) :: starEach es X.env := by rfl) : DA X ZP (e :: es) (t_acons tv ts) :=
  ⟨PA.imp (pa_cons h.pe r.pa hs) fun σ H Q q => acons_v q⟩
theorem dk_nil : DK X ZP [] t_anil := ⟨PK.imp pk_nil fun σ H Q ⟨B, cs, g, R, Q', q, k⟩ => k [] cs [] g H q R .nil (fun _ z => by cases z) (fun _ h => h) .refl⟩
theorem dk_cons (h : DV X ZP e tv) (r : DK X ZP kws ts) : DK X ZP (⟨nm, e, kpos⟩ :: kws) (t_acons tv ts) := ⟨PK.imp (pk_cons h.pe r.pk) fun σ H Q q => acons_v q⟩
end

/-! ### displays -/
def datsOf : List SV → Option (List PyData)
  | [] => some []
  | .dat d :: r => (datsOf r).map (d :: ·)
  | _ :: _ => none
theorem RSs.dats {K : KW} {g : GW} {H : Hp} : ∀ {svs : List SV} {vs : List V} {ds : List PyData}, RSs K g H svs vs → datsOf svs = some ds → RpAll K H g.fz ds vs
  | [], _, _, .nil, e => by simp [datsOf] at e; subst e; exact .nil
  | sv :: _, _, _, .cons r t, e => by
    cases sv with
    | dat d =>
      simp only [datsOf, Option.map_eq_some_iff] at e
      obtain ⟨ds, e1, rfl⟩ := e
      exact .cons r (RSs.dats t e1)
    | _ => simp [datsOf] at e
def t_tupd (t : TSA) : TVD := fun cs Q => t cs fun svs cs1 => match datsOf svs with
  | some ds => ds.length ≤ sizeLine ∧ Q (.tuple ds) cs1
  | none => False
def t_lstd (t : TSA) : TD := fun cs Q => t cs fun svs cs1 => match datsOf svs with
  | some ds => ds.length ≤ sizeLine ∧ Q (.own ds) cs1
  | none => False
section
variable {X : Cx} {ZP : ZT} {es : List Expr} {pos : Pos} {x1 : Nat} {ts : TSA}
/-- a displayed tuple -/
def tTupF (t : L2.TA) : TE := fun σ H Q => t σ H fun xs H1 => xs.length ≤ sizeLine ∧ ∀ p its, H1 p = none → Q (.ref p) (upd H1 p (tfz its xs))
theorem pe_tupF {t : L2.TA} (h : PA X es t) : PE X (.Tuple es x1 pos) (tTupF t) := by
  refine ⟨fun pn s0 σ0 H0 Q0 I0 q0 => wpAny_Tuple_spliced (thn (h.run pos pn s0 σ0 H0 _ I0 q0) fun ks s1 ⟨xs, H1, I1, r, z, q⟩ => ⟨by rw [← r.length]; exact z, ?_⟩)⟩
  exact ⟨.ref s1.heap.objs.size, _, Inv.tnew (t' := s1.toks) I1 r z, rfl, q _ _ I1.fresh⟩
theorem dv_tup (h : DA X ZP es ts) : DV X ZP (.Tuple es x1 pos) (t_tupd ts) := by
  refine ⟨PE.imp (pe_tupF h.pa) ?_⟩
  rintro σ H Q ⟨B, cs, g, R, Q', q, k⟩
  refine ⟨B, cs, g, R, _, q, fun svs cs1 vs g1 H1 q1 R1 r1 st s1 f1 => ?_⟩
  cases e : datsOf svs with
  | none => rw [e] at q1; exact q1.elim
  | some ds =>
    rw [e] at q1
    have ra := r1.dats e
    refine ⟨by rw [← ra.length]; exact q1.1, fun p its hp => ?_⟩
    obtain ⟨R3, r3, t3, f3⟩ := (Res.tup (its := its) hp ra).fin R1
    exact k _ cs1 _ g1 _ q1.2 R3 r3 s1 (f1.trans (f3.mono fun a _ _ h => s1 a h))
theorem de_lst (h : DA X ZP es ts) : DE X ZP (.List es pos) (t_lstd ts) := by
  refine ⟨PE.imp (pe_lst h.pa) ?_⟩
  rintro σ H Q ⟨B, cs, g, R, Q', q, k⟩
  refine ⟨B, cs, g, R, _, q, fun svs cs1 vs g1 H1 q1 R1 r1 st s1 f1 => ?_⟩
  cases e : datsOf svs with
  | none => rw [e] at q1; exact q1.elim
  | some ds =>
    rw [e] at q1
    have ra := r1.dats e
    refine ⟨by rw [← ra.length]; exact q1.1, fun p hp => ?_⟩
    obtain ⟨R3, r3, t3, f3⟩ := (Res.lst hp ra).fin R1
    exact k _ cs1 _ g1 _ q1.2 R3 r3 (t3.back f1) s1 (f1.trans (f3.mono fun a _ _ h => s1 a h))
end

/-! ### a def's contract, its call -/
abbrev TF := List SV → (SV → Prop) → Prop
structure GOk (ZP : ZF) (g : GW) (H : Hp) : Prop where
  zok : ∀ a t, g.zs a = some t → ∃ o, H a = some o ∧ ZP t g.zs o
  fzok : ∀ a, g.fz a → (∃ o, H a = some o) ∧ g.zs a = none
  tab : TabZ ZP g.zs
def spD (K : KW) (ZP : ZF) (n : Nat) (C : TF) : Sp := fun vs H Q _ => vs.length = n ∧ ∃ svs g, RSs K g H svs vs ∧ (∀ sv ∈ svs, settled sv = true) ∧ GOk ZP g H ∧ ∃ Q', C svs Q' ∧
  ∀ sv v g' H', Q' sv → GOk ZP g' H' → RS K g' H' sv v → (∀ a, Foot sv v a → H a = none) → Frm (fun _ => False) g H g' H' → Q v H'
def t_call (C : TF) (t : TSA) : TD := fun cs Q => t cs fun svs cs1 => C svs fun sv => Q sv cs1
section
variable {X : Cx} {ZP : ZT} {k n : Nat} {f : Addr} {fd : FuncData} {ps : List Str} {x : Str} {p pos : Pos} {e : Expr} {es : List Expr} {C : TF} {t tk : TSA}
theorem call_fin {B : Bs} {cs : CS} {g : GW} {H : Hp} {σ : L2.St} {svs : List SV} {vs : List V} {Q : VK} {Q' : SV → Prop} (R : Rel X.kw ZP B g H cs σ) (r : RSs X.kw g H svs vs) (st : ∀ sv ∈ svs, settled sv = true) (hl : vs.length = n) (q : C svs Q')
    (h : ∀ sv v g' H', Q' sv → Rel X.kw ZP B g' H' cs σ → RS X.kw g' H' sv v → Tmp H cs σ sv v → Frm (fun _ => False) g H g' H' → Q v H') (E : XK) : spD X.kw ZP.zp n C vs H Q E := by
  refine ⟨hl, svs, g, r, st, ⟨R.zok, R.fzok, R.tab⟩, _, q, fun sv v g' H' q' G' r' fr f' => ?_⟩
  refine h sv v g' H' q' (R.go f' G'.zok G'.fzok) r' (fun a e2 => ⟨fun ho => ?_, fr a e2⟩) f'
  obtain ⟨vs, ho⟩ := R.owsome ho
  rw [fr a e2] at ho; cases ho
theorem de_call (F : FnG X.prog X.w X.kw X.mg X.base CX0 k f fd ps (spD X.kw ZP.zp n C)) (hgd : X.A.guards = some []) (hr : Room k X.A) (hg : Gl X x) (hm : X.mg x = some (.ref f)) (hk : PySem.W.keepIn X.kw (.ref f) = true) (hb : Binds X.kw fd ps [])
    (hC : ∀ svs Q, C svs Q → svs.length = n)
    (ha : DA X ZP (e :: es) t) (hdb : (x == ("__debug__" : Str)) = false := by decide) (he : starEach (e :: es) X.env = (false, eval e X.env) :: starEach es X.env := by rfl) (hpl : (backTo pos (starEach es X.env)).any (·.1) = false := by rfl) :
    DE X ZP (.Call (.Name x p) (e :: es) [] pos) (t_call C t) := by
  refine ⟨PE.imp (pe_callG1 F hgd hr hg hm hk hb pass0 ha.pa hdb he hpl) ?_⟩
  rintro σ H Q ⟨B, cs, g, R, Q', q, k⟩
  refine ⟨B, cs, g, R, _, q, fun svs cs1 vs g1 H1 q1 R1 r1 st s1 f1 => ?_⟩
  refine call_fin R1 r1 st (by rw [← hC _ _ q1]; exact (Paired.length r1).symm) q1 (fun sv v g' H' q' R' r' t' f' => ?_) _
  exact k sv cs1 v g' H' q' R' r' (t'.back f1) s1 (f1.trans (f'.mono fun _ _ _ z => z.elim))
end

/-! ### statements -/
structure DEnds where
  nx : CS → Prop
  rt : SV → Prop
  bk : CS → Prop := fun _ => False
  ct : CS → Prop := fun _ => False
abbrev TSD := DEnds → CS → Prop
/-- what is frozen stays as it is -/
structure Stay (g : GW) (H : Hp) (g' : GW) (H' : Hp) : Prop where
  fzm : ∀ a, g.fz a → g'.fz a
  keep : ∀ a o, g.fz a → H a = some o → H' a = some o
  tups : ∀ a xs, TP H a xs → TP H' a xs
theorem Stay.refl {g : GW} {H : Hp} : Stay g H g H := ⟨fun _ h => h, fun _ _ _ e => e, fun _ _ h => h⟩
theorem Stay.trans {g g1 g2 : GW} {H H1 H2 : Hp} (a : Stay g H g1 H1) (b : Stay g1 H1 g2 H2) : Stay g H g2 H2 :=
  ⟨fun c h => b.fzm c (a.fzm c h), fun c o h e => b.keep c o (a.fzm c h) (a.keep c o h e), fun c xs h => b.tups c xs (a.tups c xs h)⟩
theorem Frm.stay {w : Addr → Prop} {g g' : GW} {H H' : Hp} (f : Frm w g H g' H') (hw : ∀ a, g.fz a → g.zs a = none ∧ ¬ w a) : Stay g H g' H' :=
  ⟨f.fzm, fun a o h e => f.keep a o e (hw a h).1 (hw a h).2, f.tups⟩
theorem Stay.rp {K : KW} {g g' : GW} {H H' : Hp} {d : PyData} {v : V} (f : Stay g H g' H') (r : Rp K H g.fz d v) : Rp K H' g'.fz d v := Rp.go f.fzm f.keep f.tups r
theorem Stay.rps {K : KW} {g g' : GW} {H H' : Hp} {d : List PyData} {v : List V} (f : Stay g H g' H') (r : RpAll K H g.fz d v) : RpAll K H' g'.fz d v := RpAll.go f.fzm f.keep f.tups r
structure SPost (K : KW) (ZP : ZT) (B : Bs) (g : GW) (H : Hp) (D' : DEnds) (D : Ends) : Prop where
  nx : ∀ cs' σ' g' H', Rel K ZP B g' H' cs' σ' → Stay g H g' H' → D'.nx cs' → D.nx σ' H'
  bk : ∀ cs' σ' g' H', Rel K ZP B g' H' cs' σ' → Stay g H g' H' → D'.bk cs' → D.bk σ' H'
  ct : ∀ cs' σ' g' H', Rel K ZP B g' H' cs' σ' → Stay g H g' H' → D'.ct cs' → D.ct σ' H'
  rt : ∀ sv v cs' σ' g' H', Rel K ZP B g' H' cs' σ' → Stay g H g' H' → RS K g' H' sv v → (∀ a, Foot sv v a → B.1 a = none ∨ B.w a) → D'.rt sv → D.rt v H'
theorem SPost.from {K : KW} {ZP : ZT} {B : Bs} {g g1 : GW} {H H1 : Hp} {D' : DEnds} {D : Ends} (p : SPost K ZP B g H D' D) (s : Stay g H g1 H1) : SPost K ZP B g1 H1 D' D :=
  ⟨fun a b c d r t => p.nx a b c d r (s.trans t), fun a b c d r t => p.bk a b c d r (s.trans t), fun a b c d r t => p.ct a b c d r (s.trans t), fun a b c d e f r t => p.rt a b c d e f r (s.trans t)⟩
def tS (K : KW) (ZP : ZT) (t : TSD) : TS := fun D σ H => ∃ B cs g, Rel K ZP B g H cs σ ∧ ∃ D', t D' cs ∧ SPost K ZP B g H D' D
structure DS (X : Cx) (ZP : ZT) (st : Stmt) (t : TSD) : Prop where
  ps : PS X st (tS X.kw ZP t)
structure DSs (X : Cx) (ZP : ZT) (st : List Stmt) (t : TSD) : Prop where
  pss : PSs X st (tS X.kw ZP t)
section
variable {X : Cx} {ZP : ZT} {st : Stmt} {rest : List Stmt} {t u : TSD} {pos : Pos} {e : Expr}
def t_next : TSD := fun D cs => D.nx cs
def t_seq (t u : TSD) : TSD := fun D cs => t { D with nx := u D } cs
theorem dss_nil : DSs X ZP [] t_next := ⟨PSs.imp pss_nil fun D σ H ⟨B, cs, g, R, D', q, p⟩ => p.nx cs σ g H R .refl q⟩
theorem dss_one (h : DS X ZP st t) : DSs X ZP [st] t := ⟨pss_one h.ps⟩
theorem dss_cons (h : DS X ZP st t) (h2 : DSs X ZP rest u) : DSs X ZP (st :: rest) (t_seq t u) := by
  refine ⟨PSs.imp (pss_cons h.ps h2.pss) ?_⟩
  rintro D σ H ⟨B, cs, g, R, D', q, p⟩
  refine ⟨B, cs, g, R, { D' with nx := u D' }, q, ⟨fun cs1 σ1 g1 H1 R1 s1 q1 => ⟨B, cs1, g1, R1, D', q1, p.from s1⟩, p.bk, p.ct, p.rt⟩⟩
def t_brk : TSD := fun D cs => D.bk cs
theorem ds_break : DS X ZP (.Break pos) t_brk := ⟨PS.imp ps_break fun D σ H ⟨B, cs, g, R, D', q, p⟩ => p.bk cs σ g H R .refl q⟩
def t_if (c : TTD) (t u : TSD) : TSD := fun D cs => c cs fun b cs1 => if b = true then t D cs1 else u D cs1
theorem ds_if {c : Expr} {a b : List Stmt} {tc : TTD} (hc : DT X ZP c tc) (ha : DSs X ZP a t) (hb : DSs X ZP b u) : DS X ZP (.If c a b pos) (t_if tc t u) := by
  refine ⟨PS.imp (ps_if hc.pt ha.pss hb.pss) ?_⟩
  rintro D σ H ⟨B, cs, g, R, D', q, p⟩
  refine ⟨B, cs, g, R, _, q, fun c cs1 g1 H1 q1 R1 s1 f1 => ?_⟩
  have p1 := p.from (f1.stay R.fzow)
  cases c with
  | true =>
    rw [if_pos rfl] at q1
    show tS X.kw ZP t D σ H1
    exact ⟨B, cs1, g1, R1, D', q1, p1⟩
  | false =>
    rw [if_neg Bool.false_ne_true] at q1
    show tS X.kw ZP u D σ H1
    exact ⟨B, cs1, g1, R1, D', q1, p1⟩
def t_ret (t : TD) : TSD := fun D cs => t cs fun sv _ => D.rt sv
theorem ds_ret {td : TD} (h : DE X ZP e td) : DS X ZP (.Return (some e) pos) (t_ret td) := by
  refine ⟨PS.imp (ps_ret h.pe) ?_⟩
  rintro D σ H ⟨B, cs, g, R, D', q, p⟩
  refine ⟨B, cs, g, R, _, q, fun sv cs1 v g1 H1 q1 R1 r1 t1 s1 f1 => ?_⟩
  exact p.rt sv v cs1 σ g1 H1 R1 (f1.stay R.fzow) r1 (fun a e2 => .inl (R.bnone (t1 a e2).2)) q1
/-- return x: the frame's own list is handed on -/
def t_retn (i : Nat) : TSD := fun D cs => match cs[i]? with
  | some (some sv) => D.rt sv
  | _ => False
theorem ds_retn {i : Nat} {x : Str} {p2 : Pos} (hN : X.N[i]? = some x) (hv : Vis X.env.scope x) (hd : (x == ("__debug__" : Str)) = false := by decide) (hcd : (x == ("__classdict__" : Str)) = false := by decide) : DS X ZP (.Return (some (.Name x p2)) pos) (t_retn i) := by
  refine ⟨PS.imp (ps_ret (pe_var hN hv hd hcd)) ?_⟩
  rintro D σ H ⟨B, cs, g, R, D', q, p⟩
  unfold t_retn at q
  cases e1 : cs[i]? with
  | none => rw [e1] at q; exact q.elim
  | some osv =>
    cases osv with
    | none => rw [e1] at q; exact q.elim
    | some sv =>
      rw [e1] at q
      obtain ⟨v, e2, r⟩ := R.slot i sv e1
      exact ⟨v, e2, p.rt sv v cs σ g H R .refl r (fun a e4 => R.fresh a ⟨i, _, _, e1, e2, e4⟩) q⟩
def t_drop (t : TD) : TSD := fun D cs => t cs fun _ cs1 => D.nx cs1
theorem ds_expr {td : TD} (h : DE X ZP e td) (hs : swapsWith e none pos.line X.env = pure false := by rfl) : DS X ZP (.Expr e pos) (t_drop td) := by
  refine ⟨PS.imp (ps_expr h.pe hs) ?_⟩
  rintro D σ H ⟨B, cs, g, R, D', q, p⟩
  refine ⟨B, cs, g, R, _, q, fun sv cs1 v g1 H1 q1 R1 r1 t1 s1 f1 => ?_⟩
  exact p.nx cs1 σ g1 H1 R1 (f1.stay R.fzow) q1
end

/-! ### a slot is stored -/
section
variable {K : KW} {ZP : ZT} {B : Bs} {g : GW} {H : Hp} {cs : CS} {σ : L2.St}
theorem Rel.store {i : Nat} {sv : SV} {v : V} (R : Rel K ZP B g H cs σ) (hi : i < cs.length) (r : RS K g H sv v) (n : ∀ a, Foot sv v a → ¬ ow cs σ a ∧ B.1 a = none) : Rel K ZP B g H (cs.set i (some sv)) (σ.set i (some v)) := by
  have hi2 : i < σ.length := by rw [← R.len]; exact hi
  have c1 : ∀ (j : Nat) (s : SV), (cs.set i (some sv))[j]? = some (some s) → (j = i ∧ s = sv) ∨ (j ≠ i ∧ cs[j]? = some (some s)) := fun j s e => by
    by_cases hj : j = i
    · subst hj
      rw [List.getElem?_set_self hi] at e
      cases e; exact .inl ⟨rfl, rfl⟩
    · rw [List.getElem?_set_ne (Ne.symm hj)] at e
      exact .inr ⟨hj, e⟩
  have c2 : ∀ (j : Nat) (s : V), (σ.set i (some v))[j]? = some (some s) → (j = i ∧ s = v) ∨ (j ≠ i ∧ σ[j]? = some (some s)) := fun j s e => by
    by_cases hj : j = i
    · subst hj
      rw [List.getElem?_set_self hi2] at e
      cases e; exact .inl ⟨rfl, rfl⟩
    · rw [List.getElem?_set_ne (Ne.symm hj)] at e
      exact .inr ⟨hj, e⟩
  have sub : ∀ a, ow (cs.set i (some sv)) (σ.set i (some v)) a → ow cs σ a ∨ Foot sv v a := fun a ⟨j, sw, u, e1, e2, ft⟩ => by
    rcases c1 j _ e1 with ⟨h1, h2⟩ | ⟨h1, h2⟩
    · rcases c2 j _ e2 with ⟨_, h3⟩ | ⟨h3, _⟩
      · subst h2; subst h3; exact .inr ft
      · exact absurd h1 h3
    · rcases c2 j _ e2 with ⟨h3, _⟩ | ⟨_, h3⟩
      · exact absurd h3 h1
      · exact .inl ⟨j, sw, u, h2, h3, ft⟩
  refine ⟨by rw [List.length_set, List.length_set]; exact R.len, fun j s e => ?_, fun j k sw sx u w a e1 e2 e3 e4 ft1 ft2 => ?_, R.zok, R.fzok, R.base, fun a h => ?_, R.bs⟩
  · rcases c1 j s e with ⟨rfl, rfl⟩ | ⟨hj, e⟩
    · exact ⟨v, List.getElem?_set_self hi2, r⟩
    · obtain ⟨w, e1, r1⟩ := R.slot j s e
      exact ⟨w, by rw [List.getElem?_set_ne (Ne.symm hj)]; exact e1, r1⟩
  · rcases c1 j _ e1 with ⟨h1, h2⟩ | ⟨h1, h2⟩
    · rcases c1 k _ e2 with ⟨h3, h4⟩ | ⟨h3, h4⟩
      · rw [h1, h3]
      · exfalso
        rcases c2 j _ e3 with ⟨_, z⟩ | ⟨z, _⟩
        · rcases c2 k _ e4 with ⟨y, _⟩ | ⟨_, y⟩
          · exact h3 y
          · subst h2; subst z; exact (n a ft1).1 ⟨k, _, _, h4, y, ft2⟩
        · exact z h1
    · rcases c1 k _ e2 with ⟨h3, h4⟩ | ⟨h3, h4⟩
      · exfalso
        rcases c2 k _ e4 with ⟨_, z⟩ | ⟨z, _⟩
        · rcases c2 j _ e3 with ⟨y, _⟩ | ⟨_, y⟩
          · exact h1 y
          · subst h4; subst z; exact (n a ft2).1 ⟨j, _, _, h2, y, ft1⟩
        · exact z h3
      · rcases c2 j _ e3 with ⟨z, _⟩ | ⟨_, z⟩
        · exact absurd z h1
        · rcases c2 k _ e4 with ⟨y, _⟩ | ⟨_, y⟩
          · exact absurd y h3
          · exact R.sep j k _ _ _ _ a h2 h4 z y ft1 ft2
  · rcases sub a h with h | h
    · exact R.fresh a h
    · exact .inl (n a h).2
theorem ow_set {i : Nat} {sv : SV} {v : V} (hi : i < cs.length) (hl : cs.length = σ.length) {a : Addr} (h : ow (cs.set i (some sv)) (σ.set i (some v)) a) : ow cs σ a ∨ Foot sv v a := by
  obtain ⟨j, sw, u, e1, e2, ft⟩ := h
  by_cases hj : j = i
  · subst hj
    rw [List.getElem?_set_self hi] at e1
    rw [List.getElem?_set_self (by rw [← hl]; exact hi)] at e2
    cases e1; cases e2
    exact .inr ft
  · rw [List.getElem?_set_ne (Ne.symm hj)] at e1 e2
    exact .inl ⟨j, sw, u, e1, e2, ft⟩
/-- a slot is forgotten -/
theorem Rel.drop {i : Nat} (R : Rel K ZP B g H cs σ) : Rel K ZP B g H (cs.set i none) σ := by
  have c1 : ∀ (j : Nat) (s : SV), (cs.set i none)[j]? = some (some s) → cs[j]? = some (some s) := fun j s e => by
    by_cases hj : j = i
    · subst hj
      by_cases hi : j < cs.length
      · rw [List.getElem?_set_self hi] at e; cases e
      · rw [List.getElem?_eq_none (by rw [List.length_set]; omega)] at e; cases e
    · rw [List.getElem?_set_ne (Ne.symm hj)] at e
      exact e
  refine ⟨by rw [List.length_set]; exact R.len, fun j s e => R.slot j s (c1 j s e), fun j k _ _ _ _ a e1 e2 e3 e4 f1 f2 => R.sep j k _ _ _ _ a (c1 _ _ e1) (c1 _ _ e2) e3 e4 f1 f2, R.zok, R.fzok, R.base, fun a ⟨j, _, _, e1, e2, ft⟩ => R.fresh a ⟨j, _, _, c1 _ _ e1, e2, ft⟩, R.bs⟩
end

/-! ### targets -/
abbrev TGD := SV → CS → (CS → Prop) → Prop
def tG (K : KW) (ZP : ZT) (t : TGD) : TG := fun v σ H Q => ∃ B cs g sv, Rel K ZP B g H cs σ ∧ RS K g H sv v ∧ (∀ a, Foot sv v a → ¬ ow cs σ a ∧ B.1 a = none) ∧ ∃ Q', t sv cs Q' ∧
  ∀ cs' σ' g' H', Q' cs' → Rel K ZP B g' H' cs' σ' → Stay g H g' H' → Q σ' H'
structure DG (X : Cx) (ZP : ZT) (tg : Expr) (t : TGD) : Prop where
  pg : PG X tg (tG X.kw ZP t)
section
variable {X : Cx} {ZP : ZT} {pos : Pos}
theorem PG.imp {tg : Expr} {t t' : TG} (h : PG X tg t) (m : ∀ v σ H Q, t' v σ H Q → t v σ H Q) : PG X tg t' := ⟨fun pins s σ H v u Q I r q => h.run pins s σ H v u Q I r (m _ _ _ _ q)⟩
def g_name (i : Nat) : TGD := fun sv cs Q => i < cs.length ∧ Q (cs.set i (some sv))
theorem dg_name {i : Nat} {x : Str} (hN : X.N.Nodup) (hi : X.N[i]? = some x) (hx : Loc X.env.scope x) (hf : X.fn x = true ∨ X.env.scope.names.lookup x = some .local := by first | exact .inl rfl | exact .inr rfl | assumption) : DG X ZP (.Name x pos) (g_name i) := by
  refine ⟨PG.imp (pg_name hN hi hx hf) ?_⟩
  rintro v σ H Q ⟨B, cs, g, sv, R, r, n, Q', ⟨hl, q⟩, k⟩
  exact k _ _ g H q (R.store hl r n) .refl
/-- a tuple of names -/
structure DGs (X : Cx) (ZP : ZT) (ts : List Expr) (t : List PyData → CS → (CS → Prop) → Prop) : Prop where
  pgs : PGs X ts fun vs σ H Q => ∃ B cs g ds, Rel X.kw ZP B g H cs σ ∧ RpAll X.kw H g.fz ds vs ∧ ∃ Q', t ds cs Q' ∧ ∀ cs' σ' g' H', Q' cs' → Rel X.kw ZP B g' H' cs' σ' → Stay g H g' H' → Q σ' H'
def g_nil : List PyData → CS → (CS → Prop) → Prop := fun ds cs Q => ds = [] ∧ Q cs
def g_cons (t : TGD) (u : List PyData → CS → (CS → Prop) → Prop) : List PyData → CS → (CS → Prop) → Prop := fun ds cs Q => match ds with
  | d :: r => t (.dat d) cs fun cs1 => u r cs1 Q
  | [] => False
theorem PGs.imp {ts : List Expr} {t t' : TGs} (h : PGs X ts t) (m : ∀ v σ H Q, t' v σ H Q → t v σ H Q) : PGs X ts t' := ⟨fun pins s σ H v u Q I r q => h.run pins s σ H v u Q I r (m _ _ _ _ q)⟩
theorem dgs_nil : DGs X ZP [] g_nil := by
  refine ⟨PGs.imp pgs_nil ?_⟩
  rintro vs σ H Q ⟨B, cs, g, ds, R, r, Q', ⟨rfl, q⟩, k⟩
  cases r
  exact ⟨rfl, k _ _ g H q R .refl⟩
theorem dgs_cons {e : Expr} {es : List Expr} {t : TGD} {u : List PyData → CS → (CS → Prop) → Prop} (h : DG X ZP e t) (h2 : DGs X ZP es u)
    (hs : (assignEach (e :: es) X.env).map (·.2) = assign e X.env :: (assignEach es X.env).map (·.2) := by rfl) : DGs X ZP (e :: es) (g_cons t u) := by
  refine ⟨PGs.imp (pgs_cons h.pg h2.pgs hs) ?_⟩
  rintro vs σ H Q ⟨B, cs, g, ds, R, r, Q', q, k⟩
  cases r with
  | nil => exact q.elim
  | @cons v vs d ds r1 r2 =>
    refine ⟨v, vs, rfl, B, cs, g, .dat d, R, r1, (fun _ h => h.elim), _, q, fun cs1 σ1 g1 H1 q1 R1 s1 => ?_⟩
    exact ⟨B, cs1, g1, ds, R1, s1.rps r2, Q', q1, fun cs' σ' g' H' q' R' s' => k cs' σ' g' H' q' R' (s1.trans s')⟩
def g_tup (n : Nat) (t : List PyData → CS → (CS → Prop) → Prop) : TGD := fun sv cs Q => match sv with
  | .dat (.tuple ds) => ds.length = n ∧ t ds cs Q
  | .dat (.list ds) => ds.length = n ∧ t ds cs Q
  | .obj (.lst ds) => ds.length = n ∧ t ds cs Q
  | _ => False
theorem PG.or {tg : Expr} {t t' : TG} (h : PG X tg t) (h' : PG X tg t') : PG X tg (fun v σ H Q => t v σ H Q ∨ t' v σ H Q) :=
  ⟨fun pins s σ H v u Q I r q => q.elim (h.run pins s σ H v u Q I r) (h'.run pins s σ H v u Q I r)⟩
theorem dg_tup {es : List Expr} {k : Nat} {t : List PyData → CS → (CS → Prop) → Prop} {n : Nat} (hc : X.calm = true) (h : DGs X ZP es t)
    (hn : (assignEach es X.env).length = n := by rfl) (hst : (assignEach es X.env).findIdx? (·.1) = none := by rfl) : DG X ZP (.Tuple es k pos) (g_tup n t) := by
  refine ⟨PG.imp (PG.or (pg_tup hc h.pgs hn hst) (pg_unl hc h.pgs hn hst)) ?_⟩
  rintro v σ H Q ⟨B, cs, g, sv, R, r, n, Q', q, k⟩
  cases sv with
  | dat d =>
    cases d with
    | tuple ds =>
      obtain ⟨a, xs, rfl, hq, ra⟩ := (Rp.rb r).tup
      refine .inl ⟨a, xs, rfl, hq.sq, by rw [← ra.length]; exact q.1, B, cs, g, ds, R, ra, Q', q.2, k⟩
    | list ds =>
      obtain ⟨a, xs, rfl, hq, ra⟩ := (Rp.rb r).lst
      exact .inr ⟨a, xs, rfl, .inl (.inl hq), by rw [← ra.length]; exact q.1, B, cs, g, ds, R, ra, Q', q.2, k⟩
    | _ => exact q.elim
  | obj o =>
    cases o with
    | dct _ => exact q.elim
    | gdc _ => exact q.elim
    | lst ds =>
    obtain ⟨a, vs, rfl, h, _, _, ra⟩ := r
    exact .inr ⟨a, vs, rfl, .inl (.inl h), by rw [← ra.length]; exact q.1, B, cs, g, ds, R, ra, Q', q.2, k⟩
  | _ => exact q.elim
/-- target = value -/
def t_asg (t : TD) (g : TGD) : TSD := fun D cs => t cs fun sv cs1 => g sv cs1 D.nx
theorem ds_asg {tg e : Expr} {td : TD} {tg' : TGD} (he : DE X ZP e td) (hg : DG X ZP tg tg') (hs : swapsWithSole [tg] e pos.line X.env = pure false := by rfl) (hw : swappedStores [tg] e X.env = pure none := by rfl)
    (h1 : (assignEach [tg] X.env).map (·.2) = [assign tg X.env] := by rfl) : DS X ZP (.Assign [tg] e pos) (t_asg td tg') := by
  refine ⟨PS.imp (ps_asg he.pe hg.pg hs hw h1) ?_⟩
  rintro D σ H ⟨B, cs, g, R, D', q, p⟩
  refine ⟨B, cs, g, R, _, q, fun sv cs1 v g1 H1 q1 R1 r1 t1 s1 f1 => ?_⟩
  have st := f1.stay R.fzow
  exact ⟨B, cs1, g1, sv, R1, r1, fun a e2 => ⟨(t1 a e2).1, R.bnone (t1 a e2).2⟩, _, q1, fun cs' σ' g' H' q' R' s' => p.nx cs' σ' g' H' R' (st.trans s') q'⟩
end
end Cl

/-! ClHA: rows that enumerate and zip hand out, known to the object -/
namespace Cl
open PySem PySem.Spec PyProof.Rows L2
/-- as GoesN.ofWalksT, the tuple known to the object -/
theorem goesX {prog : Program} {w : World} {A : Around} {it : Addr} {fp wr : List Addr} {n : Nat} {St : Nat → Heap → Prop} {elts : List Expr} {k : Nat} {pos : Pos} {Pt : Nat → Array Value → Prop} {Mid : Nat → Addr → Heap → Prop} (W : WalksT prog w A it fp wr n Pt St Mid)
    (one : ∀ i (s : Shared) (Q : Option Value → Shared → Prop) (E : Value → Shared → Prop), i < n → St i s.heap →
      (∀ T us h2 tk, Pt i us → s.heap.objs.size ≤ T → h2.get? T = some (tobj us) → Mid i T h2 → (∀ b o, b ∉ wr → s.heap.get? b = some o → h2.get? b = some o) → Q (some (.ref T)) { s with heap := h2, toks := tk }) →
      wpAny (model prog w) A (pyNext (.ref it)) Q E s) :
    GoesN prog w A (.Tuple elts k pos) it fp wr n (fun i h0 v h => ∃ T us, v = .ref T ∧ h0.objs.size ≤ T ∧ Pt i us ∧ h.get? T = some (tobj us)) St where
  sub := W.sub
  frame := W.frame
  goes := fun i s Q E hi st hQ => wpAny_with_toks (n := s.toks) (Nat.le_refl _) (one i s _ _ hi st fun T us h2 tk hP new hT hm kp le =>
    ⟨.ref T, rfl, W.go elts k pos i T { s with heap := h2, toks := tk } _ _ hm fun h3 st3 kp3 => hQ (.ref T) h3 tk ⟨T, us, rfl, new, hP, kp3 T _ (W.apart i T h2 hm) hT⟩ st3 (fun b o hb e => kp3 b o hb (kp b o hb e)) le⟩)
  stops := fun s Q E st hQ => wpAny_with_toks (n := s.toks) (Nat.le_refl _) (W.done s _ _ st fun h2 tk kp le => ⟨rfl, hQ h2 tk kp le⟩)
  self := W.self
theorem enumX {prog : Program} {w : World} {A : Around} {elts : List Expr} {x1 : Nat} {pos : Pos} {it : Addr} {fp : List Addr} {n : Nat} {P : Nat → Value → Prop} {St : Nat → Heap → Prop} (k0 : Int) (D : Draws prog w A.in1 it fp n P St) (e : Addr) (n1 : e ≠ it) (n2 : e ∉ fp) (n3 : it ∈ fp) :
    GoesN prog w A (.Tuple elts x1 pos) e (e :: fp) [e, it] n (fun i h0 v h => ∃ T t x, v = .ref T ∧ h0.objs.size ≤ T ∧ P i x ∧ h.get? T = some (tobj #[.int (k0 + (i : Int)) t, x])) (fun i h => (∃ old, IsEnum h e it (k0 + (i : Int)) old) ∧ St i h) := by
  refine (goesX (WalksT.enumFrom k0 D e n1 n2 n3) fun i s Q E hi st hQ => ?_).mono fun i h0 v h _ ⟨T, us, ev, new, ⟨t, x, hx, e1⟩, hT⟩ => ⟨T, t, x, ev, new, hx, e1 ▸ hT⟩
  obtain ⟨⟨old, he⟩, hs⟩ := st
  have l1 := Heap.lt_size he
  obtain ⟨_, y⟩ := D.live _ _ hs
  have l2 := Heap.lt_size y
  exact wpAny_pyNext_enum_itemC D he hs hi n1 n2 fun x h2 tk hP ho hs2 hT _ kp => hQ s.heap.objs.size #[.int (k0 + (i : Int)) tk, x] h2 (tk + 1) ⟨_, _, hP, rfl⟩ (Nat.le_refl _) hT
    ⟨⟨_, ho⟩, hs2, Nat.ne_of_gt l1, Nat.ne_of_gt l2⟩ fun b o hb y => kp b o (fun z => hb (by simp [z])) (fun z => hb (by simp [z])) y
theorem zip2X {prog : Program} {w : World} {A : Around} {elts : List Expr} {x1 : Nat} {pos : Pos} {z TI TO i1 i2 : Addr} {fp1 fp2 : List Addr} {n1 n2 : Nat} {P1 P2 : Nat → Value → Prop} {St1 St2 : Nat → Heap → Prop} (S : ZipSep2 z TI TO i1 i2 fp1 fp2) (D1 : Draws prog w A.in1 i1 fp1 n1 P1 St1) (D2 : Draws prog w A.in1 i2 fp2 n2 P2 St2) :
    GoesN prog w A (.Tuple elts x1 pos) z (z :: TI :: TO :: (fp1 ++ fp2)) [z, TO, i1, i2] (min n1 n2) (fun i h0 v h => ∃ T x y, v = .ref T ∧ h0.objs.size ≤ T ∧ P1 i x ∧ P2 i y ∧ h.get? T = some (tobj #[x, y]))
      (fun i h => IsZip h z TI TO .none ∧ IsTupOf2 h TI (.ref i1) (.ref i2) ∧ (∃ a1 a2, IsTupOf2 h TO a1 a2) ∧ St1 i h ∧ St2 i h) := by
  refine (goesX (WalksT.zipD2 S D1 D2) fun i s Q E hi st hQ => ?_).mono fun i h0 v h _ ⟨T, us, ev, new, ⟨x, y, hx, hy, e1⟩, hT⟩ => ⟨T, x, y, ev, new, hx, hy, e1 ▸ hT⟩
  obtain ⟨hz, hTI, ⟨a1, a2, hTO⟩, s1, s2⟩ := st
  have nw : ∀ {c o}, s.heap.get? c = some o → s.heap.objs.size ≠ c := fun e => Nat.ne_of_gt (Heap.lt_size e)
  obtain ⟨_, y1⟩ := D1.live _ _ s1
  obtain ⟨_, y2⟩ := D2.live _ _ s2
  exact wpAny_pyNext_zipD2_item S D1 D2 hz hTI hTO s1 s2 (by omega) (by omega) fun x1 x2 h2 tk p1 p2 b1 b2 d1 d2 b5 _ kp => hQ s.heap.objs.size #[x1, x2] h2 tk ⟨x1, x2, p1, p2, rfl⟩ (Nat.le_refl _) b5
    ⟨b1, kp _ _ S.TIz S.TITO S.TIi1 S.TIi2 hTI, ⟨_, _, b2⟩, d1, d2, nw hz, nw hTO, nw y1, nw y2⟩
    fun c o hc e => kp c o (fun x => hc (by simp [x])) (fun x => hc (by simp [x])) (fun x => hc (by simp [x])) (fun x => hc (by simp [x])) e
theorem zip3X {prog : Program} {w : World} {A : Around} {elts : List Expr} {x1 : Nat} {pos : Pos} {z TI TO i1 i2 i3 : Addr} {fp1 fp2 fp3 : List Addr} {n1 n2 n3 : Nat} {P1 P2 P3 : Nat → Value → Prop} {St1 St2 St3 : Nat → Heap → Prop} (S : ZipSep3 z TI TO i1 i2 i3 fp1 fp2 fp3)
    (D1 : Draws prog w A.in1 i1 fp1 n1 P1 St1) (D2 : Draws prog w A.in1 i2 fp2 n2 P2 St2) (D3 : Draws prog w A.in1 i3 fp3 n3 P3 St3) :
    GoesN prog w A (.Tuple elts x1 pos) z (z :: TI :: TO :: (fp1 ++ fp2 ++ fp3)) [z, TO, i1, i2, i3] (min (min n1 n2) n3) (fun i h0 v h => ∃ T x y u, v = .ref T ∧ h0.objs.size ≤ T ∧ P1 i x ∧ P2 i y ∧ P3 i u ∧ h.get? T = some (tobj #[x, y, u]))
      (fun i h => IsZip h z TI TO .none ∧ IsTupOf3 h TI (.ref i1) (.ref i2) (.ref i3) ∧ (∃ a1 a2 a3, IsTupOf3 h TO a1 a2 a3) ∧ St1 i h ∧ St2 i h ∧ St3 i h) := by
  refine (goesX (WalksT.zipD3 S D1 D2 D3) fun i s Q E hi st hQ => ?_).mono fun i h0 v h _ ⟨T, us, ev, new, ⟨x, y, u, hx, hy, hu, e1⟩, hT⟩ => ⟨T, x, y, u, ev, new, hx, hy, hu, e1 ▸ hT⟩
  obtain ⟨hz, hTI, ⟨a1, a2, a3, hTO⟩, s1, s2, s3⟩ := st
  have nw : ∀ {c o}, s.heap.get? c = some o → s.heap.objs.size ≠ c := fun e => Nat.ne_of_gt (Heap.lt_size e)
  obtain ⟨_, y1⟩ := D1.live _ _ s1
  obtain ⟨_, y2⟩ := D2.live _ _ s2
  obtain ⟨_, y3⟩ := D3.live _ _ s3
  exact wpAny_pyNext_zipD3_item S D1 D2 D3 hz hTI hTO s1 s2 s3 (by omega) (by omega) (by omega) fun x1 x2 x3 h2 tk p1 p2 p3 b1 b2 d1 d2 d3 b5 _ kp => hQ s.heap.objs.size #[x1, x2, x3] h2 tk ⟨x1, x2, x3, p1, p2, p3, rfl⟩ (Nat.le_refl _) b5
    ⟨b1, kp _ _ S.TIz S.TITO S.TIi1 S.TIi2 S.TIi3 hTI, ⟨_, _, _, b2⟩, d1, d2, d3, nw hz, nw hTO, nw y1, nw y2, nw y3⟩
    fun c o hc e => kp c o (fun x => hc (by simp [x])) (fun x => hc (by simp [x])) (fun x => hc (by simp [x])) (fun x => hc (by simp [x])) (fun x => hc (by simp [x])) e
end Cl

namespace Cl
open PySem PySem.Spec PyProof.Rows L2

/-! ### enumerate of anything that begins -/
set_option maxHeartbeats 1000000 in
theorem meets_enum1 {v : Value} {o : Obj} {G : Heap → Prop} (B : Begins v o G) :
    Meets (Builtin.«enumerate.__new__» ⟨[.type "enumerate", v], []⟩) (fun _ R s => G s.heap ∧
      R (.ok (.ret (.ref (s.heap.push o).objs.size))) { s with heap := (s.heap.push o).push { cls := .type "enumerate", data := .fields #[.none, .bool false, .ref s.heap.objs.size, rawInt 0, .none, .none] } }) := by
  refine .of_wp ?_
  intro prog w A R s h
  obtain ⟨hp, g, d, tk, os⟩ := s
  obtain ⟨h1, h⟩ := h
  have hsub := sub_enumerate
  have qi : ∀ {A' : Around} {E : Value → Shared → Prop} {Q : Value → Shared → Prop}, Q (.ref hp.objs.size) ⟨hp.push o, g, d, tk, os⟩ → wpAny (model prog w) A' (pyIter v) Q E ⟨hp, g, d, tk, os⟩ := by
    intro A' E Q q
    exact B.iter prog w _ _ ⟨hp, g, d, tk, os⟩ _ h1 q
  wp_walk using qi
  refine wpAny_stack_any fun st => ?_
  refine wpAny_pure ?_
  split
  · rename_i c _ _ _ _ _
    cases (c == Value.type "enumerate") <;> (wp_walk using qi; exact ⟨_, rfl, h⟩)
  · wp_walk using qi
    exact ⟨_, rfl, h⟩
theorem enum1_begins {prog : Program} {w : World} {A : Around} {E : Value → Shared → Prop} {s : Shared} {v : Value} {o : Obj} {G : Heap → Prop} {Q : Value → Shared → Prop} (B : Begins v o G) (h1 : G s.heap)
    (h : ∀ h', IsEnum h' (s.heap.objs.size + 1) s.heap.objs.size 0 .none → h'.get? s.heap.objs.size = some o → h'.objs.size = s.heap.objs.size + 2 →
      (∀ b ob, s.heap.get? b = some ob → h'.get? b = some ob) → Q (.ref (s.heap.objs.size + 1)) { s with heap := h' }) :
    wpAny (model prog w) A (call (.type "enumerate") [v]) Q E s := by
  refine callType_new F.called_enumerate (by decide) (F.typeCall_enumerate_1 _) (F.newCall_enumerate_1 _) (fun obj => F.args_object_init_2 obj _) F.entry_enumerate_new (meets_enum1 B) ⟨h1, ?_⟩
  have sz : (s.heap.push o).objs.size = s.heap.objs.size + 1 := by rw [Heap.size_push]
  show _ ∧ _
  rw [sz]
  have new := Heap.get?_push_size (s.heap.push o) (o := { cls := .type "enumerate", data := .fields #[.none, .bool false, .ref s.heap.objs.size, rawInt 0, .none, .none] }) rfl
  rw [sz] at new
  refine ⟨⟨_, new, rfl⟩, h _ new (Heap.get?_push_of_some _ (Heap.get?_push_size _ B.free)) ?_ fun b ob x => Heap.get?_push_of_some _ (Heap.get?_push_of_some _ x)⟩
  rw [Heap.size_push, sz]

/-! ### iterators that hand out new tuples -/
/-- S: the sources stand; rows: what is handed out -/
def ItP (S : Hp → Prop) (rows : List (List V)) : It :=
  ⟨fun i H => S H ∧ i < rows.length, fun i H x H' => ∃ T vs, rows[i]? = some vs ∧ x = .ref T ∧ H T = none ∧ (∃ us, H' = upd H T (tfz us vs)), fun i H => S H ∧ i = rows.length⟩
def YP (rows : List (List V)) : Nat → Heap → Value → Heap → Prop := fun i h0 v h => ∃ T us vs, v = .ref T ∧ h0.objs.size ≤ T ∧ rows[i]? = some vs ∧ Vals vs us ∧ h.get? T = some (tobj us.toArray)
theorem turn_pairs {P : Program} {w : World} {K : PySem.W.Frag} {tg : Expr} {S : Hp → Prop} {rows : List (List V)} {it : Addr} {fp wr : List Addr} {tn : Nat → Heap → Prop}
    (hm : it ∈ fp) (hwr : ∀ b ∈ wr, b ∈ fp) (hsz : ∀ r ∈ rows, r.length ≤ sizeLine)
    (hob : ∀ i h, tn i h → ∀ b ∈ fp, ∃ o, h.get? b = some o ∧ ∀ v, o.data ≠ .cell v)
    (hkeep : ∀ i h h', tn i h → (∀ b ∈ fp, ∀ o, h.get? b = some o → h'.get? b = some o) → tn i h')
    (hG : ∀ (X : Cx), X.prog = P → X.w = w → X.K = K → X.calm = true → ∀ (pins : List (Addr × Obj)) (s : Shared) (σ : L2.St) (H : Hp) (i : Nat), Inv X pins σ H s → (∀ b ∈ fp, FpOk X pins H b) → S H → tn i s.heap →
      ∃ fp0 St, GoesN P w X.A tg it fp0 wr rows.length (YP rows) St ∧ St i s.heap ∧ ∀ j h, St j h → tn j h)
    (hself : ∀ (A : Around) (i : Nat) (s : Shared) (Q : Value → Shared → Prop) (E : Value → Shared → Prop), tn i s.heap → Q (.ref it) s → wpAny (model P w) A (pyIter (.ref it)) Q E s) :
    Turn P w K tg (ItP S rows) fp it tn where
  mem := hm
  obj := hob
  keep := hkeep
  item := by
    intro X hP hw hK hc i pins s σ H E I hf st hg
    obtain ⟨hS, hi⟩ := hg
    obtain ⟨fp0, St, G, st0, hSt⟩ := hG X hP hw hK hc pins s σ H i I hf hS st
    refine G.goes i s _ E hi st0 fun v h' tk Y st' hk _ => ?_
    obtain ⟨T, us, vs, rfl, hT, hr, rv, ht⟩ := Y
    have hl : vs.length ≤ sizeLine := hsz vs (List.mem_of_getElem? hr)
    have I1 := I.turnedNew (t' := tk) (ch := wr) (T := T) (ob := tfz us vs) (fun b o hb e => hk b o hb e) (fun b hb => hf b (hwr b hb)) hT ⟨ht, hl, us, rv, _, ht, rfl, _, rfl⟩
    refine ⟨.ref T, _, I1, rfl, ⟨T, vs, hr, rfl, I.hok.fresh hT, _, rfl⟩, hSt _ _ st', fun b hb => ?_⟩
    obtain ⟨o, e, _⟩ := hob _ _ st b hb
    rw [upd_ne (Nat.ne_of_lt (Nat.lt_of_lt_of_le (Heap.lt_size e) hT))]
    exact (hf b hb).1
  done := by
    intro X hP hw hK hc i pins s σ H E I hf st hg
    obtain ⟨hS, hi⟩ := hg
    subst hi
    obtain ⟨fp0, St, G, st0, hSt⟩ := hG X hP hw hK hc pins s σ H _ I hf hS st
    refine G.stops s (fun s1 => Inv X pins σ H s1) E st0 fun h' tk hk _ => ?_
    refine I.step (h' := h') (t' := tk) (g' := s.gens) (d' := s.drawn) (ch := wr) (fun b hb => ?_) (fun b o _ _ hb e _ => hk b o hb e) (fun b o _ _ hb e _ => ⟨o.slots, hk b o hb e⟩) (fun _ _ _ _ n => n)
      (fun b o hb e => ⟨o, hk b o hb e⟩) (fun _ _ e => e) (fun _ _ _ e => e) (fun b ps e => ⟨#[], by rw [e]; simp⟩) (fun m hm => ?_) (fun b u e => ?_) I.bare
    · obtain ⟨f0, f1, f2, f3, f4, f5⟩ := hf b (hwr b hb)
      exact ⟨f3, f1, f4, f5⟩
    · obtain ⟨o, es, ep, ho, r⟩ := hm
      exact ⟨o, es, ep, hk _ o (fun z => (hf _ (hwr _ z)).2.1 rfl) ho, r⟩
    · have nit : ∀ c y, H c = some y → c ∉ wr := fun c y q z => by
        have := (hf c (hwr c z)).1
        rw [q] at this; cases this
      refine (I.hok b u e).stay (fun c v hcc q => hk c v ?_ q) (fun _ q => q) fun _ _ q => q
      rcases hcc with z | z
      · rw [z]; exact nit b u e
      · exact nit c _ z
  self := hself

/-! ### the sources: a list, a tuple -/
inductive SrcK where
  | lst | tup
def SrcS (K : PySem.W.Frag) (k : SrcK) (a : Addr) (xs : List V) (H : Hp) : Prop := match k with
  | .lst => H a = some (.lst xs)
  | .tup => SqT K H a xs
def srcI (k : SrcK) (a it : Addr) (i : Nat) (h : Heap) : Prop := match k with
  | .lst => h.IsListIter it a i
  | .tup => h.IsTupleIter it a i
def srcO (k : SrcK) (a : Addr) : Obj := match k with
  | .lst => { cls := .type "list_iterator", data := .fields #[.ref a, .int 0 0] }
  | .tup => { cls := .type "tuple_iterator", data := .fields #[.ref a, .int 0 0] }
def srcG (k : SrcK) (a : Addr) (its : Array Value) (h : Heap) : Prop := match k with
  | .lst => h.IsList a its
  | .tup => h.IsTuple a its
section
variable {X : Cx} {pins : List (Addr × Obj)} {σ : L2.St} {H : Hp} {s : Shared} {k : SrcK} {a it : Addr} {xs : List V}
theorem src_its (I : Inv X pins σ H s) (h : SrcS X.K k a xs H) : ∃ its : List Value, Vals xs its ∧ srcG k a its.toArray s.heap ∧ xs.length ≤ sizeLine := by
  cases k with
  | lst =>
    obtain ⟨its, rv, p, z⟩ := I.list (SqL.of h)
    exact ⟨its, rv, p.isList, z⟩
  | tup =>
    obtain ⟨its, rv, p, z⟩ := I.tuple h
    exact ⟨its, rv, p, z⟩
theorem src_begins (k : SrcK) (a : Addr) (its : Array Value) : Begins (.ref a) (srcO k a) (srcG k a its) := by
  cases k with
  | lst => exact begins_list a its
  | tup => exact begins_tuple a its
theorem src_start {h : Heap} (e : h.get? it = some (srcO k a)) : srcI k a it 0 h := by
  cases k with
  | lst => exact ⟨_, e, rfl, rfl⟩
  | tup => exact ⟨_, e, rfl, rfl⟩
theorem src_obj {h : Heap} {i : Nat} (e : srcI k a it i h) : ∃ o, h.get? it = some o ∧ ∀ v, o.data ≠ .cell v := by
  cases k with
  | lst => obtain ⟨o, e, _, d⟩ := e; exact ⟨o, e, fun v z => by rw [d] at z; cases z⟩
  | tup => obtain ⟨o, e, _, d⟩ := e; exact ⟨o, e, fun v z => by rw [d] at z; cases z⟩
theorem src_keep {h h' : Heap} {i : Nat} (e : srcI k a it i h) (hk : ∀ o, h.get? it = some o → h'.get? it = some o) : srcI k a it i h' := by
  cases k with
  | lst => exact e.at hk
  | tup => exact e.at hk
theorem src_ne (I : Inv X pins σ H s) (f : FpOk X pins H it) (h : SrcS X.K k a xs H) : a ≠ it := by
  have tr : ∀ u, H a = some u → a ≠ it := fun u e z => by
    subst z; rw [f.1] at e; cases e
  cases k with
  | lst => exact tr _ h
  | tup =>
    rcases h with (h | ⟨o, h⟩) | ⟨o, its, n, hk, _⟩
    · exact tr _ h
    · exact tr _ h
    · intro z
      subst z
      have e := I.ok.mod.kin a o hk
      rcases f.2.2.2.1 with q | q
      · exact I.ok.noex a o e q
      · have l := Nat.lt_of_lt_of_le (Heap.lt_size e) I.ok.bsz
        exact absurd (Nat.lt_of_lt_of_le l q) (Nat.lt_irrefl _)
theorem src_draws {P : Program} {w : World} {A : Around} (hh : A.handled = none) (hne : a ≠ it) (its : Array Value) : Draws P w A it [it, a] its.size (fun i v => its[i]? = some v) (fun i h => srcI k a it i h ∧ srcG k a its h) := by
  cases k with
  | lst => exact .list hh it a hne its
  | tup => exact .tuple hh it a hne its
end

/-! ### enumerate -/
def enumR : Nat → List V → List (List V)
  | _, [] => []
  | k, x :: xs => [.int (k : Nat), x] :: enumR (k + 1) xs
theorem enumR_len : ∀ (k : Nat) (xs : List V), (enumR k xs).length = xs.length
  | _, [] => rfl
  | k, x :: xs => by simp [enumR, enumR_len (k + 1) xs]
theorem enumR_get : ∀ (xs : List V) (k i : Nat), (enumR k xs)[i]? = (xs[i]?).map fun x => [V.int ((k + i : Nat) : Int), x]
  | [], _, _ => by simp [enumR]
  | x :: xs, k, 0 => by simp [enumR]
  | x :: xs, k, i + 1 => by
    simp only [enumR, List.getElem?_cons_succ]
    rw [enumR_get xs (k + 1) i, show k + 1 + i = k + (i + 1) by omega]
theorem enumR_sz (k : Nat) (xs : List V) : ∀ r ∈ enumR k xs, r.length ≤ sizeLine := by
  induction xs generalizing k with
  | nil => intro r h; cases h
  | cons x xs ih =>
    intro r h
    rcases List.mem_cons.mp h with rfl | h
    · show 2 ≤ sizeLine; decide
    · exact ih _ r h
def iEnumS (K : PySem.W.Frag) (ta : TA) : TI := fun σ H R => ta σ H fun vs H1 => ∃ k a xs, vs = [.ref a] ∧ SrcS K k a xs H1 ∧ R (ItP (SrcS K k a xs) (enumR 0 xs)) H1
theorem turn_enumS {P : Program} {w : World} {K : PySem.W.Frag} {elts : List Expr} {kk : Nat} {tpos : Pos} (k : SrcK) (a e it : Addr) (xs : List V) (hne : e ≠ it) :
    Turn P w K (.Tuple elts kk tpos) (ItP (SrcS K k a xs) (enumR 0 xs)) [e, it] e (fun i h => (∃ old, IsEnum h e it ((i : Nat) : Int) old) ∧ srcI k a it i h) := by
  refine turn_pairs (wr := [e, it]) (by simp) (fun b h => h) (enumR_sz 0 xs) ?_ ?_ ?_ ?_
  · rintro i h ⟨⟨old, he⟩, hi⟩ b hb
    have hb : b = e ∨ b = it := by simpa using hb
    rcases hb with rfl | rfl
    · exact ⟨_, he, fun v z => nomatch z⟩
    · exact src_obj hi
  · rintro i h h' ⟨⟨old, he⟩, hi⟩ hk
    exact ⟨⟨old, hk e (by simp) _ he⟩, src_keep hi fun o q => hk it (by simp) o q⟩
  · rintro X rfl rfl rfl hc pins s σ H i I hf hS ⟨⟨old, he⟩, hi⟩
    obtain ⟨its, rv, g, hz⟩ := src_its I hS
    have f := hf it (by simp)
    have fe := hf e (by simp)
    have n1 := src_ne I f hS
    have n2 := src_ne I fe hS
    have D := src_draws (P := X.prog) (w := X.w) (A := X.A.in1) (k := k) (I.ok.hd hc) n1 its.toArray
    have G := enumX (elts := elts) (x1 := kk) (pos := tpos) 0 D e hne (by simp [hne, n2.symm]) (by simp)
    rw [show its.toArray.size = (enumR 0 xs).length by rw [enumR_len, List.size_toArray, rv.length]] at G
    refine ⟨_, _, G.mono ?_, ⟨⟨old, by rw [Int.zero_add]; exact he⟩, hi, g⟩, ?_⟩
    · rintro j h0 v h hj ⟨T, t, x, rfl, hT, hx, ht⟩
      have hx : its[j]? = some x := by simpa using hx
      have hj2 : j < xs.length := by rw [enumR_len] at hj; exact hj
      obtain ⟨u, hu, ru⟩ := rv.get (List.getElem?_eq_getElem hj2)
      rw [hx] at hu; cases hu
      refine ⟨T, [.int ((j : Nat) : Int) t, x], [.int ((j : Nat) : Int), xs[j]], rfl, hT, ?_, .cons ⟨t, rfl⟩ (.cons ru .nil), ?_⟩
      · rw [enumR_get, List.getElem?_eq_getElem hj2]; simp
      · rw [Int.zero_add] at ht; exact ht
    · rintro j h ⟨⟨old, he⟩, hi, _⟩
      exact ⟨⟨old, by rw [Int.zero_add] at he; exact he⟩, hi⟩
  · rintro A i s Q E ⟨⟨old, he⟩, hi⟩ q
    exact wpAny_pyIter_enum he q
theorem pi_enumS {X : Cx} {e : Expr} {ta : TA} {p pos tpos : Pos} {elts : List Expr} {kk : Nat} (hg : Gl X "enumerate") (hm : X.mg "enumerate" = none) (ha : PA X [e] ta) (hs : starEach [e] X.env = [(false, eval e X.env)] := by rfl) :
    PI X (.Tuple elts kk tpos) (.Call (.Name "enumerate" p) [e] [] pos) (iEnumS X.K ta) := by
  constructor
  intro pins s σ H R I h
  refine Call_ (ld_blt I hg hm boot_enumerate (PyProof.Rows.callWith_type1 (thn (ha.run pos pins s σ H _ I h) ?_) hs rfl))
  rintro us s1 ⟨vs, H1, I1, r1, k, a, xs, rfl, hS, q⟩
  rw [Vals.ref1 r1]
  obtain ⟨its, rv, g, hz⟩ := src_its I1 hS
  refine enum1_begins (src_begins k a its.toArray) g fun h' he hit hsz hk => wpAny_pyIter_enum he ?_
  have I2 : Inv X pins σ H1 { s1 with heap := h' } := I1.kept (t' := s1.toks) hk
  refine ⟨s1.heap.objs.size + 1, [s1.heap.objs.size + 1, s1.heap.objs.size], _, _, H1, rfl, I2, turn_enumS k a (s1.heap.objs.size + 1) s1.heap.objs.size xs (Nat.succ_ne_self _), ⟨⟨.none, he⟩, src_start hit⟩, fun b hb => ?_, q⟩
  have hle : s1.heap.objs.size ≤ b := by
    have hb : b = s1.heap.objs.size + 1 ∨ b = s1.heap.objs.size := by simpa using hb
    rcases hb with rfl | rfl
    · exact Nat.le_add_right _ _
    · exact Nat.le_refl _
  exact I1.fpOk hle (I1.hok.fresh hle)

/-! ### zip of two -/
def zipR : List V → List V → List (List V)
  | x :: xs, y :: ys => [x, y] :: zipR xs ys
  | _, _ => []
theorem zipR_len : ∀ (xs ys : List V), (zipR xs ys).length = min xs.length ys.length
  | [], _ => by simp [zipR]
  | _ :: _, [] => by simp [zipR]
  | x :: xs, y :: ys => by simp [zipR, zipR_len xs ys]
theorem zipR_get : ∀ (xs ys : List V) (i : Nat) (x y : V), xs[i]? = some x → ys[i]? = some y → (zipR xs ys)[i]? = some [x, y]
  | [], _, _, _, _, h, _ => by simp at h
  | _ :: _, [], _, _, _, _, h => by simp at h
  | a :: xs, b :: ys, 0, x, y, h1, h2 => by simp at h1 h2; subst h1 h2; rfl
  | a :: xs, b :: ys, i + 1, x, y, h1, h2 => by
    simp only [zipR, List.getElem?_cons_succ]
    exact zipR_get xs ys i x y (by simpa using h1) (by simpa using h2)
theorem zipR_sz : ∀ (xs ys : List V), ∀ r ∈ zipR xs ys, r.length ≤ sizeLine
  | [], _ => by simp [zipR]
  | _ :: _, [] => by simp [zipR]
  | x :: xs, y :: ys => by
    intro r h
    rcases List.mem_cons.mp h with rfl | h
    · show 2 ≤ sizeLine; decide
    · exact zipR_sz xs ys r h
def ZipA (z TI TO i1 i2 : Addr) : Prop := TI ≠ z ∧ TO ≠ z ∧ TI ≠ TO ∧ TI ≠ i1 ∧ TI ≠ i2 ∧ z ≠ i1 ∧ z ≠ i2 ∧ TO ≠ i1 ∧ TO ≠ i2 ∧ i1 ≠ i2
theorem zipA (n : Nat) : ZipA (n + 4) (n + 2) (n + 3) n (n + 1) := by
  refine ⟨?_, ?_, ?_, ?_, ?_, ?_, ?_, ?_, ?_, ?_⟩ <;> (show (_ : Nat) ≠ _; omega)
end Cl

namespace Cl
open PySem PySem.Spec PyProof.Rows L2

/-! ### what is walked, as data -/
def WalkD (K : KW) (J : It) (g : GW) (H : Hp) (ds : List PyData) : Prop := ∀ g' H', Stay g H g' H' →
  (∀ i d, ds[i]? = some d → J.go i H' ∧ ∀ x H'', J.yld i H' x H'' → Res K H' g'.fz (.dat d) x H'') ∧ J.stop ds.length H'
abbrev TID := CS → (List PyData → CS → Prop) → Prop
def tI (K : KW) (ZP : ZT) (t : TID) : TI := fun σ H R => ∃ B cs g, Rel K ZP B g H cs σ ∧ ∃ Q', t cs Q' ∧
  ∀ ds cs' J g' H', Q' ds cs' → Rel K ZP B g' H' cs' σ → WalkD K J g' H' ds → (∀ a, ow cs' σ a → ow cs σ a) → Frm (ow cs σ) g H g' H' → R J H'
structure DI (X : Cx) (ZP : ZT) (tg iter : Expr) (t : TID) : Prop where
  pi : PI X tg iter (tI X.kw ZP t)
section
variable {X : Cx} {ZP : ZT} {tg e e2 : Expr} {p pos tpos : Pos} {elts : List Expr} {kk : Nat}
theorem PI.imp {iter : Expr} {t t' : TI} (h : PI X tg iter t) (m : ∀ σ H R, t' σ H R → t σ H R) : PI X tg iter t' := ⟨fun pins s σ H R I q => h.run pins s σ H R I (m _ _ _ q)⟩
/-- a list (frozen by the walk) -/
def t_wlist (t : TVD) : TID := fun cs Q => t cs fun d cs1 => match d with
  | .list ds => Q ds cs1
  | _ => False
def t_wtup (t : TVD) : TID := fun cs Q => t cs fun d cs1 => match d with
  | .tuple ds => Q ds cs1
  | _ => False
def t_wstr (t : TVD) : TID := fun cs Q => t cs fun d cs1 => match d with
  | .str z => Q (z.cps.toList.map fun c => .str ⟨#[c]⟩) cs1
  | _ => False
/-- range(n), range(a, b) -/
def rangeD (lo hi : Int) : List PyData := (List.range (hi - lo).toNat).map fun i => .int (lo + (i : Nat))
def t_wrng1 (t : TSA) : TID := fun cs Q => t cs fun svs cs1 => match svs with
  | [.dat (.int j)] => -(2 ^ 62) ≤ j ∧ j < 2 ^ 62 ∧ Q (rangeD 0 j) cs1
  | _ => False
def t_wrng2 (t : TSA) : TID := fun cs Q => t cs fun svs cs1 => match svs with
  | [.dat (.int i), .dat (.int j)] => (-(2 ^ 62) ≤ i ∧ i < 2 ^ 62 ∧ -(2 ^ 62) ≤ j ∧ j < 2 ^ 62) ∧ Q (rangeD i j) cs1
  | _ => False
theorem walk_rng (K : KW) (g : GW) (H : Hp) (lo hi : Int) : WalkD K (Itr lo (hi - lo).toNat) g H (rangeD lo hi) := fun g2 H2 st => by
  refine ⟨fun i d hd => ?_, ?_⟩
  · unfold rangeD at hd
    rw [List.getElem?_map] at hd
    cases e1 : (List.range (hi - lo).toNat)[i]? with
    | none => rw [e1] at hd; cases hd
    | some c =>
      rw [e1] at hd
      cases hd
      obtain ⟨hi, e2⟩ := List.getElem?_eq_some_iff.mp e1
      rw [List.getElem_range] at e2
      subst e2
      rw [List.length_range] at hi
      refine ⟨hi, fun x H'' hy => ?_⟩
      obtain ⟨rfl, rfl⟩ := hy
      exact .same (.int _)
  · show (hi - lo).toNat ≤ (rangeD lo hi).length
    unfold rangeD
    rw [List.length_map, List.length_range]
    exact Nat.le_refl _
theorem di_range1 {t : TSA} (hg : Gl X "range") (hm : X.mg "range" = none) (ha : DA X ZP [e] t) (hs : starEach [e] X.env = [(false, eval e X.env)] := by rfl) : DI X ZP tg (.Call (.Name "range" p) [e] [] pos) (t_wrng1 t) := by
  refine ⟨PI.imp (pi_range1 hg hm ha.pa hs) ?_⟩
  rintro σ H R ⟨B, cs, g, Re, Q', q, k⟩
  refine ⟨B, cs, g, Re, _, q, fun svs cs1 vs g1 H1 q1 R1 r1 st s1 f1 => ?_⟩
  match svs, r1, q1 with
  | [.dat (.int j)], .cons r .nil, q1 =>
    cases r
    refine ⟨j, rfl, q1.1, q1.2.1, k _ cs1 _ g1 H1 q1.2.2 R1 ?_ s1 f1⟩
    have := walk_rng X.kw g1 H1 0 j
    rw [Int.sub_zero] at this
    exact this
theorem di_range2 {t : TSA} (hg : Gl X "range") (hm : X.mg "range" = none) (ha : DA X ZP [e, e2] t) (hs : starEach [e, e2] X.env = [(false, eval e X.env), (false, eval e2 X.env)] := by rfl) (hs2 : starEach [e2] X.env = [(false, eval e2 X.env)] := by rfl) : DI X ZP tg (.Call (.Name "range" p) [e, e2] [] pos) (t_wrng2 t) := by
  refine ⟨PI.imp (pi_range2 hg hm ha.pa hs hs2) ?_⟩
  rintro σ H R ⟨B, cs, g, Re, Q', q, k⟩
  refine ⟨B, cs, g, Re, _, q, fun svs cs1 vs g1 H1 q1 R1 r1 st s1 f1 => ?_⟩
  match svs, r1, q1 with
  | [.dat (.int i), .dat (.int j)], .cons r (.cons r' .nil), q1 =>
    cases r; cases r'
    exact ⟨i, j, rfl, q1.1, k _ cs1 _ g1 H1 q1.2 R1 (walk_rng X.kw g1 H1 i j) s1 f1⟩
/-- the items of a list or a tuple -/
def seqOf : PyData → Option (List PyData)
  | .list ds => some ds
  | .tuple ds => some ds
  | _ => none
theorem Rp.src {K : KW} {H : Hp} {g : GW} {d : PyData} {v : V} {ds : List PyData} (r : Rp K H g.fz d v) (e : seqOf d = some ds) :
    ∃ k a xs, v = .ref a ∧ RpAll K H g.fz ds xs ∧ SrcS K k a xs H ∧ ∀ g' H', Stay g H g' H' → SrcS K k a xs H' := by
  cases r with
  | @lst a xs _ hf ha ra => cases e; exact ⟨.lst, a, xs, rfl, ra, ha, fun g' H' st => st.keep a _ hf ha⟩
  | @tup a xs _ ha ra => cases e; exact ⟨.tup, a, xs, rfl, ra, ha.sq, fun g' H' st => (st.tups _ _ ha).sq⟩
  | _ => cases e
def rowsD (rows : List (List PyData)) : List PyData := rows.map .tuple
/-- the rows of an ItP as data -/
theorem walk_pairs {K : KW} {S : Hp → Prop} {rows : List (List V)} {g : GW} {H : Hp} {rs : List (List PyData)} (hS : ∀ g' H', Stay g H g' H' → S H') (hl : rs.length = rows.length)
    (hr : ∀ (i : Nat) (r : List PyData) (vs : List V), rs[i]? = some r → rows[i]? = some vs → RpAll K H g.fz r vs) : WalkD K (ItP S rows) g H (rowsD rs) := fun g2 H2 st => by
  refine ⟨fun i d hd => ?_, hS _ _ st, by unfold rowsD; rw [List.length_map]; exact hl⟩
  unfold rowsD at hd
  rw [List.getElem?_map] at hd
  cases e1 : rs[i]? with
  | none => rw [e1] at hd; cases hd
  | some r =>
    rw [e1] at hd
    cases hd
    have hi : i < rows.length := by rw [← hl]; exact (List.getElem?_eq_some_iff.mp e1).1
    refine ⟨⟨hS _ _ st, hi⟩, fun x H'' hy => ?_⟩
    obtain ⟨T, vs, e2, rfl, hT, us, rfl⟩ := hy
    exact .tup hT (st.rps (hr i r vs e1 e2))
def enumRs : Nat → List PyData → List (List PyData)
  | _, [] => []
  | k, d :: ds => [.int (k : Nat), d] :: enumRs (k + 1) ds
theorem enumRs_ok {K : KW} {H : Hp} {fz : Addr → Prop} : ∀ {ds : List PyData} {vs : List V} (k : Nat), RpAll K H fz ds vs → (enumRs k ds).length = (enumR k vs).length ∧ ∀ (i : Nat) (r : List PyData) (us : List V), (enumRs k ds)[i]? = some r → (enumR k vs)[i]? = some us → RpAll K H fz r us
  | [], _, k, .nil => ⟨rfl, fun i r us h => by simp [enumRs] at h⟩
  | d :: ds, _, k, .cons r t => by
    obtain ⟨h1, h2⟩ := enumRs_ok (k + 1) t
    refine ⟨by simp [enumRs, enumR, h1], fun i r' us e1 e2 => ?_⟩
    cases i with
    | zero => simp [enumRs, enumR] at e1 e2; subst e1 e2; exact .cons (.int _) (.cons r .nil)
    | succ i => exact h2 i r' us (by simpa [enumRs] using e1) (by simpa [enumR] using e2)
def zipRs : List PyData → List PyData → List (List PyData)
  | x :: xs, y :: ys => [x, y] :: zipRs xs ys
  | _, _ => []
theorem zipRs_ok {K : KW} {H : Hp} {fz : Addr → Prop} : ∀ {ds es : List PyData} {vs ws : List V}, RpAll K H fz ds vs → RpAll K H fz es ws → (zipRs ds es).length = (zipR vs ws).length ∧ ∀ (i : Nat) (r : List PyData) (us : List V), (zipRs ds es)[i]? = some r → (zipR vs ws)[i]? = some us → RpAll K H fz r us
  | [], _, _, _, .nil, _ => ⟨rfl, fun i r us h => by simp [zipRs] at h⟩
  | _ :: _, [], _, _, .cons _ _, .nil => ⟨rfl, fun i r us h => by simp [zipRs] at h⟩
  | d :: ds, e :: es, _, _, .cons r t, .cons r' t' => by
    obtain ⟨h1, h2⟩ := zipRs_ok t t'
    refine ⟨by simp [zipRs, zipR, h1], fun i q us e1 e2 => ?_⟩
    cases i with
    | zero => simp [zipRs, zipR] at e1 e2; subst e1 e2; exact .cons r (.cons r' .nil)
    | succ i => exact h2 i q us (by simpa [zipRs] using e1) (by simpa [zipR] using e2)
def t_wenum (t : TSA) : TID := fun cs Q => t cs fun svs cs1 => match svs with
  | [.dat d] => (match seqOf d with
    | some ds => Q (rowsD (enumRs 0 ds)) cs1
    | none => False)
  | _ => False
def t_wzip (t : TSA) : TID := fun cs Q => t cs fun svs cs1 => match svs with
  | [.dat d, .dat e] => (match seqOf d, seqOf e with
    | some ds, some es => Q (rowsD (zipRs ds es)) cs1
    | _, _ => False)
  | _ => False
theorem di_enum {t : TSA} (hg : Gl X "enumerate") (hm : X.mg "enumerate" = none) (ha : DA X ZP [e] t) (hs : starEach [e] X.env = [(false, eval e X.env)] := by rfl) : DI X ZP (.Tuple elts kk tpos) (.Call (.Name "enumerate" p) [e] [] pos) (t_wenum t) := by
  refine ⟨PI.imp (pi_enumS hg hm ha.pa hs) ?_⟩
  rintro σ H R ⟨B, cs, g, Re, Q', q, k⟩
  refine ⟨B, cs, g, Re, _, q, fun svs cs1 vs g1 H1 q1 R1 r1 st s1 f1 => ?_⟩
  match svs, r1, q1 with
  | [.dat d], .cons r .nil, q1 =>
    cases e1 : seqOf d with
    | none => simp only [e1] at q1
    | some ds =>
      simp only [e1] at q1
      obtain ⟨kk, a, xs, rfl, ra, hS, hst⟩ := Rp.src r e1
      obtain ⟨h1, h2⟩ := enumRs_ok 0 ra
      exact ⟨kk, a, xs, rfl, hS, k _ cs1 _ g1 H1 q1 R1 (walk_pairs hst h1 h2) s1 f1⟩
end

/-! ### for -/
def forD (gt : TGD) (tb : TSD) (D : DEnds) : List PyData → CS → Prop
  | [], cs => D.nx cs
  | d :: ds, cs => gt (.dat d) cs fun cs1 => tb { nx := forD gt tb D ds, rt := D.rt, bk := D.nx, ct := forD gt tb D ds } cs1
def t_for (ti : TID) (gt : TGD) (tb : TSD) : TSD := fun D cs => ti cs fun ds cs1 => forD gt tb D ds cs1
section
variable {X : Cx} {ZP : ZT} {tg iter : Expr} {body : List Stmt} {pos : Pos} {ti : TID} {gt : TGD} {tb : TSD}
theorem ds_for (hp : PassesOwn (model X.prog X.w) X.A X.env X.xe) (hc : X.calm = true) (hi : DI X ZP tg iter ti) (hg : DG X ZP tg gt) (hb : DSs X ZP body tb)
    (hs : ∀ x, foldedSetIterable iter X.env x = pure x := by intro _; rfl) : DS X ZP (.For tg iter body [] pos) (t_for ti gt tb) := by
  refine ⟨PS.imp (ps_for hp hc hi.pi hg.pg hb.pss hs) ?_⟩
  rintro D σ H ⟨B, cs, g, R, D', q, p⟩
  refine ⟨B, cs, g, R, _, q, fun ds cs1 J g1 H1 q1 R1 wk s1 f1 => ?_⟩
  have p1 := p.from (f1.stay R.fzow)
  refine ⟨fun i m σ H => m + i = ds.length ∧ ∃ cs g, Rel X.kw ZP B g H cs σ ∧ Stay g1 H1 g H ∧ forD gt tb D' (ds.drop i) cs, ⟨ds.length, rfl, cs1, g1, R1, .refl, q1⟩, ?_⟩
  rintro i m σ2 H2 ⟨hm, cs2, g2, R2, st2, q2⟩
  obtain ⟨w1, w2⟩ := wk g2 H2 st2
  by_cases hlt : i < ds.length
  · have e1 : ds[i]? = some ds[i] := List.getElem?_eq_getElem hlt
    obtain ⟨go, hy⟩ := w1 i _ e1
    rw [List.drop_eq_getElem_cons hlt] at q2
    refine .inr ⟨go, fun σ' H' => ∃ cs g, Rel X.kw ZP B g H' cs σ' ∧ Stay g1 H1 g H' ∧ forD gt tb D' (ds.drop (i + 1)) cs, fun σ' H' ⟨cs, g, a, b, c⟩ => ⟨m - 1, by omega, by omega, cs, g, a, b, c⟩, fun x H3 y => ?_⟩
    obtain ⟨R3, r3, t3, f3⟩ := (hy x H3 y).fin R2
    have st3 := f3.stay R2.fzow
    refine ⟨B, cs2, g2, _, R3, r3, (fun _ h => h.elim), _, q2, fun cs4 σ4 g4 H4 q4 R4 st4 => ?_⟩
    have st : Stay g1 H1 g4 H4 := (st2.trans st3).trans st4
    refine ⟨B, cs4, g4, R4, _, q4, ⟨fun cs' σ' g' H' R' s' q' => ⟨cs', g', R', st.trans s', q'⟩, fun cs' σ' g' H' R' s' q' => p1.nx cs' σ' g' H' R' (st.trans s') q', fun cs' σ' g' H' R' s' q' => ⟨cs', g', R', st.trans s', q'⟩,
      fun sv v cs' σ' g' H' R' s' r' t' q' => p1.rt sv v cs' σ' g' H' R' (st.trans s') r' t' q'⟩⟩
  · have e : i = ds.length := by omega
    subst e
    rw [List.drop_length] at q2
    exact .inl ⟨w2, p1.nx cs2 σ2 g2 H2 R2 st2 q2⟩
end
end Cl

namespace Cl
open PySem PySem.Spec PyProof.Rows L2

/-! ### a comprehension's slots -/
def wipeC (cs : CS) : List Nat → CS
  | [] => cs
  | v :: vs => (wipeC cs vs).set v none
theorem wipeC_length (cs : CS) : ∀ vs : List Nat, (wipeC cs vs).length = cs.length
  | [] => rfl
  | v :: vs => by unfold wipeC; rw [List.length_set, wipeC_length cs vs]
theorem wipeC_some {cs : CS} {i : Nat} {x : SV} : ∀ {vs : List Nat}, (wipeC cs vs)[i]? = some (some x) → cs[i]? = some (some x) ∧ i ∉ vs
  | [], h => ⟨h, by simp⟩
  | v :: vs, h => by
    unfold wipeC at h
    by_cases hi : v = i
    · subst hi
      by_cases hv : v < (wipeC cs vs).length
      · rw [List.getElem?_set_self hv] at h; cases h
      · rw [List.getElem?_eq_none (by rw [List.length_set]; omega)] at h; cases h
    · rw [List.getElem?_set_ne hi] at h
      obtain ⟨h1, h2⟩ := wipeC_some h
      exact ⟨h1, by simp [h2]; exact Ne.symm hi⟩
theorem wipe_notin {σ : L2.St} {i : Nat} : ∀ {vs : List Nat}, i ∉ vs → (wipe σ vs)[i]? = σ[i]?
  | [], _ => rfl
  | v :: vs, h => by
    unfold wipe
    rw [List.getElem?_set_ne (fun e => h (by simp [e])), wipe_notin fun z => h (by simp [z])]
theorem wipe_set_in {σ : L2.St} {i : Nat} {x : Option V} : ∀ {vs : List Nat}, i ∈ vs → wipe (σ.set i x) vs = wipe σ vs
  | [], h => by cases h
  | v :: vs, h => by
    unfold wipe
    by_cases hv : i ∈ vs
    · rw [wipe_set_in hv]
    · have hi : i = v := by
        rcases List.mem_cons.mp h with h | h
        · exact h
        · exact absurd h hv
      subst hi
      have key : ∀ (us : List Nat), wipe (σ.set i x) us = (wipe σ us).set i x ∨ i ∈ us := fun us => by
        induction us with
        | nil => exact .inl rfl
        | cons u us ih =>
          by_cases hu : i = u
          · exact .inr (by simp [hu])
          · rcases ih with ih | ih
            · left
              unfold wipe
              rw [ih, List.set_comm _ _ hu]
            · exact .inr (by simp [ih])
      rcases key vs with e | e
      · rw [e, List.set_set]
      · exact absurd e hv
theorem wipe_in {σ : L2.St} {i : Nat} : ∀ {vs : List Nat}, i ∈ vs → i < σ.length → (L2.wipe σ vs)[i]? = some none
  | [], h, _ => by cases h
  | v :: vs, h, hl => by
    unfold L2.wipe
    by_cases hv : v = i
    · subst hv
      rw [List.getElem?_set_self (by rw [wipe_length]; exact hl)]
    · rw [List.getElem?_set_ne hv]
      refine wipe_in ?_ hl
      rcases List.mem_cons.mp h with h | h
      · exact absurd h.symm hv
      · exact h
theorem wipe_idem (σ : L2.St) (vs : List Nat) : L2.wipe (L2.wipe σ vs) vs = L2.wipe σ vs := by
  apply List.ext_getElem?
  intro i
  by_cases hi : i ∈ vs
  · by_cases hl : i < σ.length
    · rw [wipe_in hi hl, wipe_in hi (by rw [wipe_length]; exact hl)]
    · rw [List.getElem?_eq_none (by rw [wipe_length, wipe_length]; omega), List.getElem?_eq_none (by rw [wipe_length]; omega)]
  · rw [wipe_notin hi]
section
variable {K : KW} {ZP : ZT} {B : Bs} {g g1 : GW} {H H1 : Hp} {cs cs1 csb : CS} {σ : L2.St}
theorem Rel.wipe (R : Rel K ZP B g H cs σ) (vs : List Nat) : Rel K ZP B g H (wipeC cs vs) (L2.wipe σ vs) where
  len := by rw [wipeC_length, wipe_length]; exact R.len
  slot := fun i sv e => by
    obtain ⟨e1, n⟩ := wipeC_some e
    obtain ⟨v, e2, r⟩ := R.slot i sv e1
    exact ⟨v, by rw [wipe_notin n]; exact e2, r⟩
  sep := fun i j sv sw v u a e1 e2 e3 e4 f1 f2 => by
    obtain ⟨h1, n1⟩ := wipeC_some e1
    obtain ⟨h2, n2⟩ := wipeC_some e2
    rw [wipe_notin n1] at e3
    rw [wipe_notin n2] at e4
    exact R.sep i j _ _ _ _ a h1 h2 e3 e4 f1 f2
  zok := R.zok
  fzok := R.fzok
  base := R.base
  fresh := fun a ⟨i, sv, v, e1, e2, ft⟩ => by
    obtain ⟨h1, n1⟩ := wipeC_some e1
    rw [wipe_notin n1] at e2
    exact R.fresh a ⟨i, sv, v, h1, e2, ft⟩
  bs := R.bs
theorem ow_wipe {vs : List Nat} {a : Addr} (h : ow (wipeC cs vs) (L2.wipe σ vs) a) : ow cs σ a := by
  obtain ⟨i, sv, v, e1, e2, ft⟩ := h
  obtain ⟨h1, n1⟩ := wipeC_some e1
  rw [wipe_notin n1] at e2
  exact ⟨i, sv, v, h1, e2, ft⟩
/-- the outer frame's values of those slots are put back -/
def restC (vs : List Nat) (cs1 csb : CS) : CS := csb.mapIdx fun j x => if j ∈ vs then cs1.getD j none else x
theorem restC_some {vs : List Nat} {j : Nat} {sv : SV} (e : (restC vs cs1 csb)[j]? = some (some sv)) : (j ∈ vs ∧ cs1[j]? = some (some sv)) ∨ (j ∉ vs ∧ csb[j]? = some (some sv)) := by
  unfold restC at e
  rw [List.getElem?_mapIdx] at e
  cases e1 : csb[j]? with
  | none => rw [e1] at e; cases e
  | some x =>
    rw [e1] at e
    by_cases hj : j ∈ vs
    · simp only [hj, if_true, Option.map_some, Option.some.injEq] at e
      left
      refine ⟨hj, ?_⟩
      rw [List.getD_eq_getElem?_getD] at e
      cases e2 : cs1[j]? with
      | none => rw [e2] at e; cases e
      | some y => rw [e2] at e; simp at e; rw [e]
    · simp only [hj, if_false, Option.map_some, Option.some.injEq] at e
      subst e
      exact .inr ⟨hj, rfl⟩
theorem Rel.rest {vs : List Nat} (R1 : Rel K ZP B g1 H1 cs1 σ) (R : Rel K ZP B g H csb (L2.wipe σ vs)) (f : Frm (ow (wipeC cs1 vs) (L2.wipe σ vs)) g1 H1 g H) (sub : ∀ a, ow csb (L2.wipe σ vs) a → ow (wipeC cs1 vs) (L2.wipe σ vs) a) :
    Rel K ZP B g H (restC vs cs1 csb) σ ∧ ∀ a, ow (restC vs cs1 csb) σ a → ow cs1 σ a := by
  have own1 : ∀ (j : Nat) (sv : SV) (v : V) (a : Addr), j ∈ vs → cs1[j]? = some (some sv) → σ[j]? = some (some v) → Foot sv v a → ¬ ow (wipeC cs1 vs) (L2.wipe σ vs) a := fun j sv v a hj e1 e2 ft ⟨k, sw, u, e3, e4, fu⟩ => by
    obtain ⟨h1, n1⟩ := wipeC_some e3
    rw [wipe_notin n1] at e4
    have := R1.sep j k _ _ _ _ a e1 h1 e2 e4 ft fu
    subst this
    exact n1 hj
  have back : ∀ (j : Nat) (v : V), j ∉ vs → (L2.wipe σ vs)[j]? = some (some v) → σ[j]? = some (some v) := fun j v hj e => by rw [wipe_notin hj] at e; exact e
  have sub2 : ∀ a, ow (restC vs cs1 csb) σ a → ow cs1 σ a := fun a ⟨j, sv, v, e1, e2, ft⟩ => by
    rcases restC_some e1 with ⟨hj, e⟩ | ⟨hj, e⟩
    · exact ⟨j, sv, v, e, e2, ft⟩
    · exact ow_wipe (sub a ⟨j, sv, v, e, by rw [wipe_notin hj]; exact e2, ft⟩)
  refine ⟨⟨?_, fun j sv e => ?_, fun j k sv sw v u a e1 e2 e3 e4 fv fu => ?_, R.zok, R.fzok, R.base, fun a h => R1.fresh a (sub2 a h), R.bs⟩, sub2⟩
  · unfold restC
    rw [List.length_mapIdx]
    have := R.len
    rw [wipe_length] at this
    exact this
  · rcases restC_some e with ⟨hj, e⟩ | ⟨hj, e⟩
    · obtain ⟨v, e1, r⟩ := R1.slot j sv e
      refine ⟨v, e1, r.frm f (fun a h => ⟨(R1.fzow a h).1, fun z => (R1.fzow a h).2 (ow_wipe z)⟩) fun a e3 => own1 j sv v a hj e e1 e3⟩
    · obtain ⟨v, e1, r⟩ := R.slot j sv e
      exact ⟨v, back j v hj e1, r⟩
  · rcases restC_some e1 with ⟨hj, h1⟩ | ⟨hj, h1⟩
    · rcases restC_some e2 with ⟨hk, h2⟩ | ⟨hk, h2⟩
      · exact R1.sep j k _ _ _ _ a h1 h2 e3 e4 fv fu
      · exact absurd (sub a ⟨k, _, _, h2, by rw [wipe_notin hk]; exact e4, fu⟩) (own1 j _ _ a hj h1 e3 fv)
    · rcases restC_some e2 with ⟨hk, h2⟩ | ⟨hk, h2⟩
      · exact absurd (sub a ⟨j, _, _, h1, by rw [wipe_notin hj]; exact e3, fv⟩) (own1 k _ _ a hk h2 e4 fu)
      · exact R.sep j k _ _ _ _ a h1 h2 (by rw [wipe_notin hj]; exact e3) (by rw [wipe_notin hk]; exact e4) fv fu
/-- a temporary list is changed -/
theorem Rel.updTmp {p : Addr} {vs ws : List V} (R : Rel K ZP B g H cs σ) (h : H p = some (.lst vs)) (n1 : ¬ g.fz p) (n2 : g.zs p = none) (n3 : ¬ ow cs σ p) (hb : B.1 p = none) : Rel K ZP B g (upd H p (.lst ws)) cs σ ∧ Frm (fun a => a = p) g H g (upd H p (.lst ws)) := by
  have tups : ∀ a xs, TP H a xs → TP (upd H p (.lst ws)) a xs := fun a xs q => by
    have hne : a ≠ p := fun e => by
      subst e
      exact q.not h fun _ _ z => nomatch z
    exact q.ne hne
  have any : ∀ a o, H a = some o → ∃ o', upd H p (.lst ws) a = some o' := fun a o e => by
    by_cases hp : a = p
    · subst hp; exact ⟨_, upd_same⟩
    · exact ⟨o, by rw [upd_ne hp]; exact e⟩
  have f : Frm (fun a => a = p) g H g (upd H p (.lst ws)) :=
    ⟨fun a o e _ n => by rw [upd_ne n]; exact e, fun _ h => h, fun _ _ h => h, fun _ _ _ _ h => h, fun _ _ _ h => h, tups, any⟩
  refine ⟨⟨R.len, fun i sv e => ?_, R.sep, fun a t z => ?_, fun a z => ?_, ?_, R.fresh, R.bs⟩, f⟩
  · obtain ⟨v, e1, r⟩ := R.slot i sv e
    refine ⟨v, e1, r.frm f (fun a z => ⟨(R.fzow a z).1, fun q => ?_⟩) fun a e3 q => ?_⟩
    · have q : a = p := q
      subst q; exact n1 z
    · have q : a = p := q
      subst q
      exact n3 ⟨i, _, _, e, e1, e3⟩
  · obtain ⟨o, e, q⟩ := R.zok a t z
    refine ⟨o, ?_, q⟩
    rw [upd_ne (fun e => by subst e; rw [n2] at z; cases z)]
    exact e
  · obtain ⟨⟨o, e⟩, q⟩ := R.fzok a z
    exact ⟨any a o e, q⟩
  · have nb : ∀ a o, B.1 a = some o → a ≠ p := fun a o e z => by subst z; rw [hb] at e; cases e
    refine ⟨fun a o e z n => ?_, R.base.fzm, R.base.zsm, R.base.fzn, R.base.zsn, fun a xs q => tups a xs (R.base.tups a xs q), fun a o e => ?_⟩
    · rw [upd_ne (nb a o e)]; exact R.base.keep a o e z n
    · obtain ⟨o', e'⟩ := R.base.any a o e
      exact any a o' e'
end

/-! ### targets of a comprehension: names of its own -/
def tGN (K : KW) (ZP : ZT) (vs : List Nat) (t : TGD) : TG := fun v σ H Q => ∃ B cs g sv, Rel K ZP B g H cs σ ∧ RS K g H sv v ∧ settled sv = true ∧ ∃ Q', t sv cs Q' ∧
  ∀ cs' σ', Q' cs' → Rel K ZP B g H cs' σ' → L2.wipe σ' vs = L2.wipe σ vs → (∀ a, ow cs' σ' a → ow cs σ a) → Q σ' H
structure DGN (X : Cx) (ZP : ZT) (vs : List Nat) (tg : Expr) (t : TGD) : Prop where
  pg : PG X tg (tGN X.kw ZP vs t)
structure DGNs (X : Cx) (ZP : ZT) (vs : List Nat) (ts : List Expr) (t : List PyData → CS → (CS → Prop) → Prop) : Prop where
  pgs : PGs X ts fun ws σ H Q => ∃ B cs g ds, Rel X.kw ZP B g H cs σ ∧ RpAll X.kw H g.fz ds ws ∧ ∃ Q', t ds cs Q' ∧ ∀ cs' σ', Q' cs' → Rel X.kw ZP B g H cs' σ' → L2.wipe σ' vs = L2.wipe σ vs → (∀ a, ow cs' σ' a → ow cs σ a) → Q σ' H
section
variable {X : Cx} {ZP : ZT} {vs : List Nat} {pos : Pos}
theorem ow_store {cs : CS} {σ : L2.St} {i : Nat} {sv : SV} {v : V} (hs : settled sv = true) (hl : cs.length = σ.length) : ∀ a, ow (cs.set i (some sv)) (σ.set i (some v)) a → ow cs σ a := fun a ⟨j, sw, u, e1, e2, ft⟩ => by
  by_cases hj : j = i
  · subst hj
    by_cases hi : j < cs.length
    · rw [List.getElem?_set_self hi] at e1
      cases e1; exact absurd ft (settled_foot hs)
    · rw [List.getElem?_eq_none (by rw [List.length_set]; omega)] at e1; cases e1
  · rw [List.getElem?_set_ne (Ne.symm hj)] at e1 e2
    exact ⟨j, sw, u, e1, e2, ft⟩
theorem dgn_name {i : Nat} {x : Str} (hv : i ∈ vs) (hN : X.N.Nodup) (hi : X.N[i]? = some x) (hx : Loc X.env.scope x) (hf : X.fn x = true ∨ X.env.scope.names.lookup x = some .local := by first | exact .inl rfl | exact .inr rfl | assumption) : DGN X ZP vs (.Name x pos) (g_name i) := by
  refine ⟨PG.imp (pg_name hN hi hx hf) ?_⟩
  rintro v σ H Q ⟨B, cs, g, sv, R, r, n, Q', ⟨hl, q⟩, k⟩
  refine k _ _ q (R.store hl r fun a e => absurd e (settled_foot n)) (wipe_set_in hv) (ow_store n R.len)
theorem dgns_nil : DGNs X ZP vs [] g_nil := by
  refine ⟨PGs.imp pgs_nil ?_⟩
  rintro ws σ H Q ⟨B, cs, g, ds, R, r, Q', ⟨rfl, q⟩, k⟩
  cases r
  exact ⟨rfl, k _ _ q R rfl fun _ h => h⟩
theorem dgns_cons {e : Expr} {es : List Expr} {t : TGD} {u : List PyData → CS → (CS → Prop) → Prop} (h : DGN X ZP vs e t) (h2 : DGNs X ZP vs es u)
    (hs : (assignEach (e :: es) X.env).map (·.2) = assign e X.env :: (assignEach es X.env).map (·.2) := by rfl) : DGNs X ZP vs (e :: es) (g_cons t u) := by
  refine ⟨PGs.imp (pgs_cons h.pg h2.pgs hs) ?_⟩
  rintro ws σ H Q ⟨B, cs, g, ds, R, r, Q', q, k⟩
  cases r with
  | nil => exact q.elim
  | @cons v ws d ds r1 r2 =>
    refine ⟨v, ws, rfl, B, cs, g, .dat d, R, r1, rfl, _, q, fun cs1 σ1 q1 R1 w1 s1 => ?_⟩
    exact ⟨B, cs1, g, ds, R1, r2, Q', q1, fun cs' σ' q' R' w' s' => k cs' σ' q' R' (w'.trans w1) fun a h => s1 a (s' a h)⟩
theorem dgn_tup {es : List Expr} {k : Nat} {t : List PyData → CS → (CS → Prop) → Prop} {n : Nat} (hc : X.calm = true) (h : DGNs X ZP vs es t)
    (hn : (assignEach es X.env).length = n := by rfl) (hst : (assignEach es X.env).findIdx? (·.1) = none := by rfl) : DGN X ZP vs (.Tuple es k pos) (g_tup n t) := by
  refine ⟨PG.imp (PG.or (pg_tup hc h.pgs hn hst) (pg_unl hc h.pgs hn hst)) ?_⟩
  rintro v σ H Q ⟨B, cs, g, sv, R, r, n, Q', q, k⟩
  cases sv with
  | dat d =>
    cases d with
    | tuple ds =>
      obtain ⟨a, xs, rfl, hq, ra⟩ := (Rp.rb r).tup
      exact .inl ⟨a, xs, rfl, hq.sq, by rw [← ra.length]; exact q.1, B, cs, g, ds, R, ra, Q', q.2, k⟩
    | list ds =>
      obtain ⟨a, xs, rfl, hq, ra⟩ := (Rp.rb r).lst
      exact .inr ⟨a, xs, rfl, .inl (.inl hq), by rw [← ra.length]; exact q.1, B, cs, g, ds, R, ra, Q', q.2, k⟩
    | _ => exact q.elim
  | obj o =>
    cases o with
    | dct _ => exact q.elim
    | gdc _ => exact q.elim
    | lst ds =>
    obtain ⟨a, vs, rfl, h, _, _, ra⟩ := r
    exact .inr ⟨a, vs, rfl, .inl (.inl h), by rw [← ra.length]; exact q.1, B, cs, g, ds, R, ra, Q', q.2, k⟩
  | _ => exact q.elim
end
/-- the tests -/
structure DTs (X : Cx) (ZP : ZT) (ifs : List Expr) (t : TTD) : Prop where
  pts : PTs X ifs (tT X.kw ZP t)
def t_yes : TTD := fun cs Q => Q true cs
theorem PTs.imp {X : Cx} {ifs : List Expr} {t t' : TT} (h : PTs X ifs t) (m : ∀ σ H Q, t' σ H Q → t σ H Q) : PTs X ifs t' := ⟨fun pins s σ H Q I q => h.run pins s σ H Q I (m _ _ _ q)⟩
theorem dts_nil {X : Cx} {ZP : ZT} : DTs X ZP [] t_yes := ⟨PTs.imp pts_nil fun σ H Q ⟨B, cs, g, R, Q', q, k⟩ => k true cs g H q R (fun _ h => h) .refl⟩
theorem dts_one {X : Cx} {ZP : ZT} {c : Expr} {t : TTD} (h : DT X ZP c t) : DTs X ZP [c] t := ⟨pts_one h.pt⟩

/-! ### the comprehension -/
def lcD (vs : List Nat) (gt : TGD) (tt : TTD) (te : TVD) (Q : List PyData → CS → Prop) : List PyData → List PyData → CS → Prop
  | [], acc, cs => Q acc cs
  | d :: ds, acc, cs => gt (.dat d) cs fun cs1 => tt cs1 fun b cs2 => if b = true then te cs2 fun y cs3 => acc.length < sizeLine ∧ lcD vs gt tt te Q ds (acc ++ [y]) (wipeC cs3 vs) else lcD vs gt tt te Q ds acc (wipeC cs2 vs)
def t_lc (vs : List Nat) (ti : TID) (gt : TGD) (tt : TTD) (te : TVD) : TD := fun cs Q => ti cs fun ds cs1 => lcD vs gt tt te (fun acc csb => Q (.own acc) (restC vs cs1 csb)) ds [] (wipeC cs1 vs)
section
variable {X : Cx} {ZP : ZT} {elt tg iter : Expr} {ifs : List Expr} {scope : Scope} {own : List (Str × Nat)} {pos : Pos} {ti : TID} {gt : TGD} {tt : TTD} {te : TVD} {vs : List Nat}
theorem lc_core' {K : KW} {σ : L2.St} {H : Hp} {Q : VK} (h : tD K ZP (t_lc vs ti gt tt te) σ H Q) : tLc (tI K ZP ti) (tGN K ZP vs gt) (tT K ZP tt) (tV K ZP te) vs σ H Q := by
  obtain ⟨B, cs, g, R, Q', q, k⟩ := h
  refine ⟨B, cs, g, R, _, q, fun ds cs1 J g1 H1 q1 R1 wk s1 f1 => ?_⟩
  intro D hD
  have hB : B.1 D = none := R1.bnone hD
  refine ⟨fun i m H => m + i = ds.length ∧ ∃ csb g acc vacc, Rel K ZP B g H csb (L2.wipe σ vs) ∧ Frm (ow (wipeC cs1 vs) (L2.wipe σ vs)) g1 H1 g H ∧ (∀ a, ow csb (L2.wipe σ vs) a → ow (wipeC cs1 vs) (L2.wipe σ vs) a) ∧
    H D = some (.lst vacc) ∧ RpAll K H g.fz acc vacc ∧ ¬ g.fz D ∧ g.zs D = none ∧ lcD vs gt tt te (fun acc csb => Q' (.own acc) (restC vs cs1 csb)) (ds.drop i) acc csb, ⟨ds.length, rfl, wipeC cs1 vs, g1, [], [], (R1.laid hD).wipe vs, .laid hD, fun _ h => h, upd_same, .nil, (R1.nofz hD).1, (R1.nofz hD).2, q1⟩, ?_⟩
  rintro i m H2 ⟨hm, csb, g2, acc, vacc, R2, f2, s2, hD2, ra, n1, n2, q2⟩
  have st2 : Stay g1 H1 g2 H2 := f2.stay fun a h => ⟨(R1.fzow a h).1, fun z => (R1.fzow a h).2 (ow_wipe z)⟩
  have nD : ∀ {cs : CS} {σ' : L2.St}, (∀ a, ow cs σ' a → ow csb (L2.wipe σ vs) a) → ¬ ow cs σ' D := fun hs z => by
    have z2 := ow_wipe (s2 D (hs D z))
    obtain ⟨ws, e⟩ := R1.owsome z2
    rw [hD] at e; cases e
  obtain ⟨w1, w2⟩ := wk g2 H2 st2
  by_cases hlt : i < ds.length
  · have e1 : ds[i]? = some ds[i] := List.getElem?_eq_getElem hlt
    obtain ⟨go, hy⟩ := w1 i _ e1
    rw [List.drop_eq_getElem_cons hlt] at q2
    refine .inr ⟨go, fun H' => ∃ csb g acc vacc, Rel K ZP B g H' csb (L2.wipe σ vs) ∧ Frm (ow (wipeC cs1 vs) (L2.wipe σ vs)) g1 H1 g H' ∧ (∀ a, ow csb (L2.wipe σ vs) a → ow (wipeC cs1 vs) (L2.wipe σ vs) a) ∧
      H' D = some (.lst vacc) ∧ RpAll K H' g.fz acc vacc ∧ ¬ g.fz D ∧ g.zs D = none ∧ lcD vs gt tt te (fun acc csb => Q' (.own acc) (restC vs cs1 csb)) (ds.drop (i + 1)) acc csb, fun H' z => ⟨m - 1, by omega, by omega, z⟩, fun x H3 y => ?_⟩
    obtain ⟨R3, r3, t3, f3⟩ := (hy x H3 y).fin R2
    refine ⟨B, csb, g2, _, R3, r3, rfl, _, q2, fun cs4 σ4 q4 R4 we4 s4 => ?_⟩
    rw [wipe_idem] at we4
    refine ⟨we4, B, cs4, g2, R4, _, q4, fun b cs5 g5 H5 q5 R5 s5 f5 => ?_⟩
    have f35 : Frm (ow csb (L2.wipe σ vs)) g2 H2 g5 H5 := f3.trans (f5.mono fun a _ _ h => s4 a h)
    have nDb := nD (cs := csb) (σ' := L2.wipe σ vs) fun _ h => h
    -- the new list and what it holds, behind a step
    have keepD : ∀ {g' : GW} {H' : Hp}, Frm (ow csb (L2.wipe σ vs)) g2 H2 g' H' → H' D = some (.lst vacc) ∧ RpAll K H' g'.fz acc vacc ∧ ¬ g'.fz D ∧ g'.zs D = none := fun {g' H'} f =>
      ⟨f.keep D _ hD2 n2 nDb, ra.frm f R2.fzow, fun z => n1 (f.fzn D _ hD2 nDb z), f.zsn D _ hD2 n2⟩
    have wipeOk : ∀ {cs' : CS} {g' : GW} {H' : Hp}, Rel K ZP B g' H' cs' σ4 → Rel K ZP B g' H' (wipeC cs' vs) (L2.wipe σ vs) := fun {cs' g' H'} R' => by
      have := R'.wipe vs
      rw [we4] at this
      exact this
    have owOk : ∀ {cs' : CS}, (∀ a, ow cs' σ4 a → ow cs4 σ4 a) → ∀ a, ow (wipeC cs' vs) (L2.wipe σ vs) a → ow (wipeC cs1 vs) (L2.wipe σ vs) a := fun {cs'} hs a h => by
      rw [← we4] at h
      exact s2 a (s4 a (hs a (ow_wipe h)))
    cases b with
    | false =>
      rw [if_neg Bool.false_ne_true] at q5
      refine iteF ?_
      obtain ⟨k1, k2, k3, k4⟩ := keepD f35
      exact ⟨_, g5, acc, vacc, wipeOk R5, f2.trans (f35.mono fun a _ _ h => s2 a h), owOk s5, k1, k2, k3, k4, q5⟩
    | true =>
      rw [if_pos rfl] at q5
      refine iteT ?_
      refine ⟨B, cs5, g5, R5, _, q5, fun d cs6 v g6 H6 q6 R6 r6 s6 f6 => ?_⟩
      have f36 : Frm (ow csb (L2.wipe σ vs)) g2 H2 g6 H6 := f35.trans (f6.mono fun a _ _ h => s4 a (s5 a h))
      obtain ⟨k1, k2, k3, k4⟩ := keepD f36
      refine ⟨vacc, k1, by rw [← k2.length]; exact q6.1, ?_⟩
      have nD6 := nD (cs := cs6) (σ' := σ4) fun a h => s4 a (s5 a (s6 a h))
      obtain ⟨R7, f7⟩ := R6.updTmp (ws := vacc ++ [v]) k1 k3 k4 nD6 hB
      have hne : ∀ a, g6.fz a → g6.zs a = none ∧ ¬ a = D := fun a h => ⟨(R6.fzow a h).1, fun z => by subst z; exact k3 h⟩
      refine ⟨_, g6, acc ++ [d], vacc ++ [v], wipeOk R7, ?_, owOk fun a h => s5 a (s6 a h), upd_same, (k2.frm f7 hne).append (.cons (Rp.frm f7 hne r6) .nil), k3, k4, q6.2⟩
      have ff : Frm (ow (wipeC cs1 vs) (L2.wipe σ vs)) g1 H1 g6 H6 := f2.trans (f36.mono fun a _ _ h => s2 a h)
      refine ⟨fun a o e z n => ?_, ff.fzm, ff.zsm, ff.fzn, ff.zsn, fun a xs q => f7.tups a xs (ff.tups a xs q), fun a o e => ?_⟩
      · rw [upd_ne (fun z => by subst z; rw [hD] at e; cases e)]
        exact ff.keep a o e z n
      · obtain ⟨o', e'⟩ := ff.any a o e
        exact f7.any a o' e'
  · have e : i = ds.length := by omega
    subst e
    rw [List.drop_length] at q2
    refine .inl ⟨w2, ?_⟩
    obtain ⟨R3, sub⟩ := R1.rest R2 f2 s2
    have fo : Frm (ow cs1 σ) g1 H1 g2 H2 := f2.mono fun a _ _ h => ow_wipe h
    refine k (.own acc) _ (.ref D) g2 H2 q2 R3 ⟨D, vacc, rfl, hD2, n1, n2, ra⟩ (Tmp.back f1 (fun a e2 => ?_)) (fun a h => s1 a (sub a h)) (f1.trans (fo.mono fun a _ _ h => s1 a h))
    cases e2
    refine ⟨fun z => ?_, hD⟩
    obtain ⟨ws, e⟩ := R1.owsome (sub D z)
    rw [hD] at e; cases e
theorem de_lc (hc : X.calm = true) (hN : X.N.Nodup) (hi : DI X ZP tg iter ti) (ok : BlkOk X.N X.env.scope scope own) (hvs : own.map (·.2) = vs)
    (hg : ∀ (s : Shared) (H : Hp) (C : Addr) (cl : List (Str × Addr)) (fp : List Addr), DGN (X.blk s H scope (compEnvC scope cl C X.env) fp) ZP vs tg gt) (ht : ∀ (s : Shared) (H : Hp) (C : Addr) (cl : List (Str × Addr)) (fp : List Addr), DTs (X.blk s H scope (compEnvC scope cl C X.env) fp) ZP ifs tt)
    (he : ∀ (s : Shared) (H : Hp) (C : Addr) (cl : List (Str × Addr)) (fp : List Addr), DV (X.blk s H scope (compEnvC scope cl C X.env) fp) ZP elt te) (hs : ∀ x, foldedSetIterable iter X.env x = pure x := by intro _; rfl) :
    DE X ZP (.ListComp elt [⟨tg, iter, ifs, 0⟩] scope pos) (t_lc vs ti gt tt te) := by
  subst hvs
  exact ⟨PE.imp (pe_lc hc hN hi.pi ok (fun s H C cl fp => (hg s H C cl fp).pg) (fun s H C cl fp => (ht s H C cl fp).pts) (fun s H C cl fp => (he s H C cl fp).pe) hs) fun σ H Q h => lc_core' h⟩
/-- name = [..] on one line -/
theorem ds_setLc {i : Nat} {y : Str} {py : Pos} {spos : Pos} (hc : X.calm = true) (hN : X.N.Nodup) (hy : X.N[i]? = some y) (hyl : X.env.scope.names.lookup y = some .local)
    (hsw : swapsWith (.ListComp elt [⟨tg, iter, ifs, 0⟩] scope pos) (some (.Name y py)) spos.line X.env = pure true) (hi : DI X ZP tg iter ti) (ok : BlkOk X.N X.env.scope scope own) (hvs : own.map (·.2) = vs)
    (hg : ∀ (s : Shared) (H : Hp) (C : Addr) (cl : List (Str × Addr)) (fp : List Addr), DGN (X.blk s H scope (compEnvC scope cl C X.env) fp) ZP vs tg gt) (ht : ∀ (s : Shared) (H : Hp) (C : Addr) (cl : List (Str × Addr)) (fp : List Addr), DTs (X.blk s H scope (compEnvC scope cl C X.env) fp) ZP ifs tt)
    (he : ∀ (s : Shared) (H : Hp) (C : Addr) (cl : List (Str × Addr)) (fp : List Addr), DV (X.blk s H scope (compEnvC scope cl C X.env) fp) ZP elt te) (hs : ∀ x, foldedSetIterable iter X.env x = pure x := by intro _; rfl) :
    DS X ZP (.Assign [.Name y py] (.ListComp elt [⟨tg, iter, ifs, 0⟩] scope pos) spos) (t_asg (t_lc vs ti gt tt te) (g_name i)) := by
  subst hvs
  refine ⟨PS.imp (ps_setLc (i := i) (wi := tI X.kw ZP ti) (g := tGN X.kw ZP (own.map (·.2)) gt) (tt := tT X.kw ZP tt) (te := tV X.kw ZP te) hc hN hy hyl hsw hi.pi ok (fun s H C cl fp => (hg s H C cl fp).pg) (fun s H C cl fp => (ht s H C cl fp).pts) (fun s H C cl fp => (he s H C cl fp).pe) hs) ?_⟩
  rintro D σ H ⟨B, cs, g, R, D', q, p⟩
  refine lc_core' (ZP := ZP) ⟨B, cs, g, R, _, q, fun sv cs1 v g1 H1 q1 R1 r1 t1 s1 f1 => ?_⟩
  exact p.nx _ _ g1 H1 (R1.store q1.1 r1 fun a e2 => ⟨(t1 a e2).1, R.bnone (t1 a e2).2⟩) (f1.stay R.fzow) q1.2
end
end Cl

namespace Cl
open PySem PySem.Spec PyProof.Rows L2

/-! ### a def -/
def initC (N : List Str) (svs : List SV) : CS := svs.map some ++ List.replicate (N.length - svs.length) none
def runD (t : TSD) (N : List Str) (n : Nat) : TF := fun svs Q => svs.length = n ∧ t { nx := fun _ => Q (.dat .none), rt := Q } (initC N svs)
section
variable {P : Program} {w : World} {K : KW} {mg : Str → Option Value} {base : Heap} {ZP : ZT}
theorem GOk.rel {g : GW} {H : Hp} {N : List Str} {svs : List SV} {vs : List V} (G : GOk ZP.zp g H) (hb : ZP.bs ⟨H, g, fun _ => False⟩) (r : RSs K g H svs vs) (st : ∀ sv ∈ svs, settled sv = true) : Rel K ZP ⟨H, g, fun _ => False⟩ g H (initC N svs) (L2.start N vs) := by
  have hl := Paired.length r
  have get : ∀ (i : Nat) (sv : SV), (initC N svs)[i]? = some (some sv) → svs[i]? = some sv := fun i sv e => by
    unfold initC at e
    by_cases hi : i < svs.length
    · rw [List.getElem?_append_left (by simpa using hi), List.getElem?_map] at e
      cases e1 : svs[i]? with
      | none => rw [e1] at e; cases e
      | some x => rw [e1] at e; cases e; rfl
    · rw [List.getElem?_append_right (by simpa using hi), List.getElem?_replicate] at e
      split at e <;> cases e
  have noOwn : ∀ (i : Nat) (sv : SV) (v : V) (a : Addr), (initC N svs)[i]? = some (some sv) → ¬ Foot sv v a := fun i sv v a e => settled_foot (st _ (List.mem_of_getElem? (get i _ e)))
  have pget : ∀ {svs : List SV} {vs : List V} {i : Nat} {sv : SV}, RSs K g H svs vs → svs[i]? = some sv → ∃ v, vs[i]? = some v ∧ RS K g H sv v := by
    intro svs vs i sv r
    induction r generalizing i with
    | nil => intro e; simp at e
    | cons r t ih =>
      intro e
      cases i with
      | zero => simp at e; subst e; exact ⟨_, rfl, r⟩
      | succ i => obtain ⟨v, h1, h2⟩ := ih (by simpa using e); exact ⟨v, by simpa using h1, h2⟩
  refine ⟨?_, fun i sv e => ?_, fun i j sv sw v u a e _ _ _ ft _ => absurd ft (noOwn i sv v a e), G.zok, G.fzok, .refl, fun a ⟨i, sv, v, e, _, ft⟩ => absurd ft (noOwn i sv v a e), hb, G.tab, fun _ _ z => z⟩
  · unfold initC L2.start
    simp [hl]
  · obtain ⟨v, e1, r1⟩ := pget r (get i sv e)
    refine ⟨v, ?_, r1⟩
    have hi : i < vs.length := (List.getElem?_eq_some_iff.mp e1).1
    unfold L2.start
    rw [List.getElem?_append_left (by simpa using hi), List.getElem?_map, e1]
    rfl
theorem fnD {K : PySem.W.Frag} {zp : ZF} {x qual : Str} {st : Stmt} {f : Addr} {fd : FuncData} {N ps : List Str} {k : Nat} {t : TSD} (F : Fun K x qual st f fd) (S : FnScope N ps (defScope st))
    (bod : ∀ (cdv : Value) (A : Around) (outer : List Env) (s : Shared) (H : Hp) (E : XK), A.guards = some [] → Room k (A.deeper (envOfC qual (defScope st) s.heap.objs.size f cdv)) →
      DSs (cxOf CX0 P w K mg base N qual (defScope st) f cdv A outer s H E).nox ⟨zp, fun B => ∀ a, ¬ B.w a⟩ (defBody st) t) :
    FnG P w K mg base CX0 (k + 1) f fd ps (spD ⟨K, w⟩ zp ps.length (runD t N ps.length)) := by
  refine funG F S (fun vs H Q E h => h.1) fun cdv A outer s H vs Q E hg hr h => ?_
  refine ⟨_, (bod cdv A outer s H E hg hr).pss, ?_⟩
  obtain ⟨hl, svs, g, r, st, G, Q', ⟨_, q⟩, k⟩ := h
  refine ⟨⟨H, g, fun _ => False⟩, initC N svs, g, G.rel (ZP := ⟨zp, fun B => ∀ a, ¬ B.w a⟩) (fun _ z => z) r st, _, q, ⟨fun cs' σ' g' H' R' s' q' => ?_, fun _ _ _ _ _ _ z => z.elim, fun _ _ _ _ _ _ z => z.elim, fun sv v cs' σ' g' H' R' s' r' t' q' => ?_⟩⟩
  · exact k _ .non g' H' q' ⟨R'.zok, R'.fzok, R'.tab⟩ .non (fun _ h => h.elim) R'.base
  · exact k sv v g' H' q' ⟨R'.zok, R'.fzok, R'.tab⟩ r' (fun a h => (t' a h).elim id fun z => z.elim) R'.base
end

/-! ### a slot's own list is changed -/
section
variable {K : KW} {ZP : ZT} {B : Bs} {g : GW} {H : Hp} {cs : CS} {σ : L2.St}
/-- an object is changed in place -/
theorem Rel.updAt {a : Addr} {o o' : HO} {w : Addr → Prop} (R : Rel K ZP B g H cs σ) (h : H a = some o) (ht : ∀ xs, ¬ TP H a xs) (n1 : ¬ g.fz a) (n2 : g.zs a = none) (hw : w a) :
    Frm w g H g (upd H a o') ∧ (∀ b, g.fz b → (∃ o, upd H a o' b = some o) ∧ g.zs b = none) ∧ ∀ b t, g.zs b = some t → ∃ o, upd H a o' b = some o ∧ ZP.zp t g.zs o := by
  have tups : ∀ c zs, TP H c zs → TP (upd H a o') c zs := fun c zs q => by
    have hne : c ≠ a := fun e => by
      subst e
      exact ht _ q
    exact q.ne hne
  have any : ∀ c o, H c = some o → ∃ o2, upd H a o' c = some o2 := fun c o e => by
    by_cases hp : c = a
    · subst hp; exact ⟨_, upd_same⟩
    · exact ⟨o, by rw [upd_ne hp]; exact e⟩
  refine ⟨⟨fun c o e _ n => by rw [upd_ne (fun z => n (by rw [z]; exact hw))]; exact e, fun _ h => h, fun _ _ h => h, fun _ _ _ _ h => h, fun _ _ _ h => h, tups, any⟩, fun c z => ?_, fun c t z => ?_⟩
  · obtain ⟨⟨o, e⟩, q⟩ := R.fzok c z
    exact ⟨any c o e, q⟩
  · obtain ⟨o, e, q⟩ := R.zok c t z
    refine ⟨o, ?_, q⟩
    rw [upd_ne (fun e => by subst e; rw [n2] at z; cases z)]
    exact e
/-- what a slot owns is changed -/
theorem Rel.upd1 {i : Nat} {sv sv' : SV} {v : V} {g' : GW} {H' : Hp} (R : Rel K ZP B g H cs σ) (e1 : cs[i]? = some (some sv)) (e2 : σ[i]? = some (some v)) (f : Frm (Foot sv v) g H g' H')
    (r : RS K g' H' sv' v) (zo : ∀ a t, g'.zs a = some t → ∃ o, H' a = some o ∧ ZP.zp t g'.zs o) (fz : ∀ a, g'.fz a → (∃ o, H' a = some o) ∧ g'.zs a = none) (hs : ∀ a, Foot sv' v a → Foot sv v a) :
    Rel K ZP B g' H' (cs.set i (some sv')) σ ∧ Frm (ow cs σ) g H g' H' ∧ (∀ b, ow (cs.set i (some sv')) σ b → ow cs σ b) := by
  have hi : i < cs.length := (List.getElem?_eq_some_iff.mp e1).1
  have hset : ∀ (j : Nat) (sw : SV), (cs.set i (some sv'))[j]? = some (some sw) → (j = i ∧ sw = sv') ∨ (j ≠ i ∧ cs[j]? = some (some sw)) := fun j sw e => by
    by_cases hj : j = i
    · subst hj
      rw [List.getElem?_set_self hi] at e
      cases e; exact .inl ⟨rfl, rfl⟩
    · rw [List.getElem?_set_ne (Ne.symm hj)] at e
      exact .inr ⟨hj, e⟩
  have own2 : ∀ (j : Nat) (sw : SV) (u : V) (a : Addr), (cs.set i (some sv'))[j]? = some (some sw) → σ[j]? = some (some u) → Foot sw u a → ∃ sx, cs[j]? = some (some sx) ∧ Foot sx u a := fun j sw u a h1 h2 ft => by
    rcases hset j _ h1 with ⟨rfl, rfl⟩ | ⟨_, e⟩
    · rw [e2] at h2; cases h2
      exact ⟨_, e1, hs a ft⟩
    · exact ⟨sw, e, ft⟩
  have sub : ∀ c, ow (cs.set i (some sv')) σ c → ow cs σ c := fun c ⟨j, sw, u, h1, h2, ft⟩ => by
    obtain ⟨sx, h3, h4⟩ := own2 j sw u c h1 h2 ft
    exact ⟨j, sx, u, h3, h2, h4⟩
  have hfz : ∀ c, g.fz c → g.zs c = none ∧ ¬ Foot sv v c := fun c z => ⟨(R.fzow c z).1, fun q => (R.fzow c z).2 ⟨i, _, _, e1, e2, q⟩⟩
  refine ⟨⟨by rw [List.length_set]; exact R.len, fun j sw e => ?_, fun j k sw sx u w c h1 h2 h3 h4 f1 f2 => ?_, zo, fz, ?_, fun c z => R.fresh c (sub c z), R.bs⟩, f.mono fun c o _ z => ⟨i, _, _, e1, e2, z⟩, sub⟩
  · rcases hset j sw e with ⟨rfl, rfl⟩ | ⟨hj, e⟩
    · exact ⟨_, e2, r⟩
    · obtain ⟨u, e3, r1⟩ := R.slot j sw e
      exact ⟨u, e3, r1.frm f hfz fun c ft q => hj (R.sep j i _ _ _ _ c e e1 e3 e2 ft q)⟩
  · obtain ⟨s1, h5, h6⟩ := own2 j sw u c h1 h3 f1
    obtain ⟨s2, h7, h8⟩ := own2 k sx w c h2 h4 f2
    exact R.sep j k _ _ _ _ c h5 h7 h3 h4 h6 h8
  · have nb : ∀ c o, B.1 c = some o → Foot sv v c → B.w c := fun c o e z => by
      rcases R.fresh c ⟨i, _, _, e1, e2, z⟩ with q | q
      · rw [q] at e; cases e
      · exact q
    refine ⟨fun c o e z n => ?_, fun a h => f.fzm a (R.base.fzm a h), fun a t h => f.zsm a t (R.base.zsm a t h), fun a o e n h => ?_, fun a o e z => ?_, fun c zs q => f.tups c zs (R.base.tups c zs q), fun c o e => ?_⟩
    · exact f.keep c o (R.base.keep c o e z n) (R.base.zsn c o e z) fun q => n (nb c o e q)
    · obtain ⟨o', e'⟩ := R.base.any a o e
      exact R.base.fzn a o e n (f.fzn a o' e' (fun q => n (nb a o e q)) h)
    · obtain ⟨o', e'⟩ := R.base.any a o e
      exact f.zsn a o' e' (R.base.zsn a o e z)
    · obtain ⟨o', e'⟩ := R.base.any c o e
      exact f.any c o' e'
theorem Rel.updOwn {i : Nat} {xs ys : List PyData} {a : Addr} {ws : List V} (R : Rel K ZP B g H cs σ) (e1 : cs[i]? = some (some (.own xs))) (e2 : σ[i]? = some (some (.ref a))) (r : RpAll K H g.fz ys ws) :
    Rel K ZP B g (upd H a (.lst ws)) (cs.set i (some (.own ys))) σ ∧ Frm (ow cs σ) g H g (upd H a (.lst ws)) ∧ (∀ b, ow (cs.set i (some (.own ys))) σ b → ow cs σ b) := by
  obtain ⟨v, e3, b, vs, e, h, n1, n2, q⟩ := R.slot i _ e1
  rw [e2] at e3; cases e3
  cases e
  have hfz : ∀ c, g.fz c → g.zs c = none ∧ ¬ Foot (.own xs) (.ref a) c := fun c z => ⟨(R.fzow c z).1, fun q => (R.fzow c z).2 ⟨i, _, _, e1, e2, q⟩⟩
  obtain ⟨f, fz, zo⟩ := R.updAt (o' := .lst ws) (w := Foot (.own xs) (.ref a)) h (fun xs z => by first | exact z.not h (fun _ _ z => nomatch z) | (rw [h] at z; cases z)) n1 n2 rfl
  exact R.upd1 e1 e2 f ⟨a, ws, rfl, upd_same, n1, n2, r.frm f hfz⟩ zo fz fun _ h => h
end

/-! ### methods of a slot's list -/
section
variable {X : Cx} {ZP : ZT} {e : Expr} {x : Str} {xpos apos cpos pos : Pos} {i : Nat} {te : TVD}
def t_append (i : Nat) (te : TVD) : TVD := fun cs Q => (∃ xs, cs[i]? = some (some (.own xs))) ∧ te cs fun d cs1 => match cs1[i]? with
  | some (some (.obj (.lst xs))) => xs.length < sizeLine ∧ Q .none (cs1.set i (some (.own (xs ++ [d]))))
  | _ => False
theorem ty_own {K : KW} {B : Bs} {g : GW} {H : Hp} {cs : CS} {σ : L2.St} {xs : List PyData} {v : V} (R : Rel K ZP B g H cs σ) (e1 : cs[i]? = some (some (.own xs))) (e2 : σ[i]? = some (some v)) : tyV K "list" v H ∧ ∃ a vs, v = .ref a ∧ H a = some (.lst vs) ∧ RpAll K H g.fz xs vs := by
  obtain ⟨w, e3, a, vs, rfl, h, _, _, q⟩ := R.slot i _ e1
  rw [e2] at e3; cases e3
  exact ⟨.inl ⟨rfl, vs, SqL.of h⟩, a, vs, rfl, h, q⟩
theorem dv_append (hN : X.N[i]? = some x) (hv : Vis X.env.scope x) (h : DV X ZP e te) (hd : (x == ("__debug__" : Str)) = false := by decide) (hcd : (x == ("__classdict__" : Str)) = false := by decide)
    (hst : starEach [e] X.env = (false, eval e X.env) :: starEach [] X.env := by rfl) (hbase : attributeBase (.Name x xpos) "append" X.env (eval (.Name x xpos) X.env) = eval (.Name x xpos) X.env := by rfl) (hfew : ((backTo cpos (starEach [e] X.env)).all (fun x => !x.1) && (backToKw cpos (keywordEach [] X.env)).all (fun x => x.1.isSome)
      && decide (([e] : List Expr).length + ([] : List Keyword).length + (if ([] : List Keyword).isEmpty then 0 else 1) < 30)) = true := by rfl) (hline : (apos.endLine == cpos.line) = true := by rfl) :
    DV X ZP (.Call (.Attribute (.Name x xpos) "append" apos) [e] [] cpos) (t_append i te) := by
  refine ⟨PE.imp (pe_bm PySem.F.plainAttrs_list PySem.F.slot_list_append PySem.F.type_list_append mt_append (pe_var hN hv hd hcd) (pa_cons h.pe pa_nil hst) hbase hfew hline hst rfl) ?_⟩
  rintro σ H Q ⟨B, cs, g, R, Q', ⟨⟨xs, e1⟩, q⟩, k⟩
  obtain ⟨v, e2, _⟩ := R.slot i _ e1
  refine ⟨v, e2, (ty_own R e1 e2).1, B, cs, g, R, _, q, fun d cs1 u g1 H1 q1 R1 r1 s1 f1 => ?_⟩
  cases e3 : cs1[i]? with
  | none => rw [e3] at q1; exact q1.elim
  | some osv =>
    rw [e3] at q1
    match osv, e3, q1 with
    | some (.obj (.lst ys)), e3, q1 =>
      obtain ⟨_, a, vs, rfl, ha, ra⟩ := ty_own R1 e3 e2
      refine ⟨a, vs, u, rfl, rfl, ha, by rw [← ra.length]; exact q1.1, ?_⟩
      obtain ⟨R2, f2, s2⟩ := R1.updOwn e3 e2 (ra.append (.cons r1 .nil))
      exact k _ _ .non g1 _ q1.2 R2 .non (fun b h => s1 b (s2 b h)) (f1.trans (f2.mono fun b _ _ h => s1 b h))
def t_extend (i : Nat) (te : TVD) : TVD := fun cs Q => (∃ xs, cs[i]? = some (some (.own xs))) ∧ te cs fun d cs1 => match cs1[i]?, d with
  | some (some (.obj (.lst xs))), .list ds => xs.length + ds.length ≤ sizeLine ∧ Q .none (cs1.set i (some (.own (xs ++ ds))))
  | _, _ => False
theorem dv_extend (hN : X.N[i]? = some x) (hv : Vis X.env.scope x) (h : DV X ZP e te) (hd : (x == ("__debug__" : Str)) = false := by decide) (hcd : (x == ("__classdict__" : Str)) = false := by decide)
    (hst : starEach [e] X.env = (false, eval e X.env) :: starEach [] X.env := by rfl) (hbase : attributeBase (.Name x xpos) "extend" X.env (eval (.Name x xpos) X.env) = eval (.Name x xpos) X.env := by rfl) (hfew : ((backTo cpos (starEach [e] X.env)).all (fun x => !x.1) && (backToKw cpos (keywordEach [] X.env)).all (fun x => x.1.isSome)
      && decide (([e] : List Expr).length + ([] : List Keyword).length + (if ([] : List Keyword).isEmpty then 0 else 1) < 30)) = true := by rfl) (hline : (apos.endLine == cpos.line) = true := by rfl) :
    DV X ZP (.Call (.Attribute (.Name x xpos) "extend" apos) [e] [] cpos) (t_extend i te) := by
  refine ⟨PE.imp (pe_bm PySem.F.plainAttrs_list PySem.F.slot_list_extend PySem.F.type_list_extend mt_extend (pe_var hN hv hd hcd) (pa_cons h.pe pa_nil hst) hbase hfew hline hst rfl) ?_⟩
  rintro σ H Q ⟨B, cs, g, R, Q', ⟨⟨xs, e1⟩, q⟩, k⟩
  obtain ⟨v, e2, _⟩ := R.slot i _ e1
  refine ⟨v, e2, (ty_own R e1 e2).1, B, cs, g, R, _, q, fun d cs1 u g1 H1 q1 R1 r1 s1 f1 => ?_⟩
  cases e3 : cs1[i]? with
  | none => rw [e3] at q1; exact q1.elim
  | some osv =>
    rw [e3] at q1
    match osv, d, e3, q1, r1 with
    | some (.obj (.lst ys)), .list ds, e3, q1, r1 =>
      obtain ⟨_, a, vs, rfl, ha, ra⟩ := ty_own R1 e3 e2
      cases r1 with
      | @lst b zs _ hf hb rb =>
        refine ⟨a, b, vs, zs, rfl, rfl, ha, hb, by rw [← ra.length, ← rb.length]; exact q1.1, ?_⟩
        obtain ⟨R2, f2, s2⟩ := R1.updOwn e3 e2 (ra.append rb)
        exact k _ _ .non g1 _ q1.2 R2 .non (fun b h => s1 b (s2 b h)) (f1.trans (f2.mono fun b _ _ h => s1 b h))
theorem RpAll.dropLast {K : KW} {H : Hp} {fz : Addr → Prop} {ds : List PyData} {vs : List V} (r : RpAll K H fz ds vs) : RpAll K H fz ds.dropLast vs.dropLast := by
  rw [List.dropLast_eq_take, List.dropLast_eq_take, ← r.length]
  exact r.take _
def t_pop (i : Nat) : TVD := fun cs Q => match cs[i]? with
  | some (some (.obj (.lst xs))) => (match xs.getLast? with
    | some d => Q d (cs.set i (some (.own xs.dropLast)))
    | none => False)
  | _ => False
end
/-! x[i] = e -/
section
variable {X : Cx} {ZP : ZT} {ie : Expr} {x : Str} {xpos pos : Pos} {i : Nat} {ti : TVD}
def g_setix (i : Nat) (ti : TVD) : TGD := fun sv cs Q => (∃ xs, cs[i]? = some (some (.own xs))) ∧ match sv with
  | .dat d => ti cs fun iv cs1 => (match cs1[i]?, iv with
    | some (some (.obj (.lst xs))), .int k => (match ixN xs.length k with
      | some j => Q (cs1.set i (some (.own (xs.set j d))))
      | none => False)
    | _, _ => False)
  | _ => False
theorem dg_setix (hN : X.N[i]? = some x) (hv : Vis X.env.scope x) (h : DV X ZP ie ti) (hd : (x == ("__debug__" : Str)) = false := by decide) (hcd : (x == ("__classdict__" : Str)) = false := by decide)
    (ha : ∀ v, assign (.Subscript (.Name x xpos) ie pos) X.env v = (do
      let ov ← holding [v] (eval (.Name x xpos) X.env)
      let iv ← holding [v, ov] (eval ie X.env)
      standAt pos
      holding [v, ov, iv] (setItem ov iv v)
      release [v, ov, iv] []) := by intro _; rfl) : DG X ZP (.Subscript (.Name x xpos) ie pos) (g_setix i ti) := by
  refine ⟨PG.imp (pg_sub (pe_var hN hv hd hcd) h.pe set_list ha) ?_⟩
  rintro v σ H Q ⟨B, cs, g, sv, R, r, n, Q', ⟨⟨xs0, e0⟩, q⟩, k⟩
  cases sv with
  | obj _ => exact q.elim
  | raw _ => exact q.elim
  | scr _ => exact q.elim
  | exc _ _ _ _ => exact q.elim
  | fnv _ => exact q.elim
  | ptr _ => exact q.elim
  | stp _ _ => exact q.elim
  | rtd _ _ => exact q.elim
  | dat d =>
    obtain ⟨u, e2, _⟩ := R.slot i _ e0
    refine ⟨u, e2, B, cs, g, R, _, q, fun iv cs1 w g1 H1 q1 R1 r1 s1 f1 => ?_⟩
    cases e3 : cs1[i]? with
    | none => rw [e3] at q1; exact q1.elim
    | some osv =>
      rw [e3] at q1
      match osv, iv, e3, q1, r1 with
      | some (.obj (.lst ys)), .int kk, e3, q1, r1 =>
        obtain ⟨_, a, vs, rfl, ha, ra⟩ := ty_own R1 e3 e2
        cases r1
        cases e4 : ixN ys.length kk with
        | none => simp only [e4] at q1
        | some j =>
          simp only [e4] at q1
          refine ⟨a, vs, kk, j, rfl, rfl, ha, by rw [← ra.length]; exact e4, ?_⟩
          obtain ⟨R2, f2, s2⟩ := R1.updOwn e3 e2 (RpAll.set (Rp.frm f1 R.fzow r) j ra)
          exact k _ σ g1 _ q1 R2 ((f1.stay R.fzow).trans (f2.stay R1.fzow))
end

/-! ### while -/
section
variable {X : Cx} {ZP : ZT} {c : Expr} {body : List Stmt} {pos : Pos} {tc : TTD} {tb : TSD}
end

/-! ### calls with keywords -/
section
variable {X : Cx} {ZP : ZT} {k n : Nat} {f : Addr} {fd : FuncData} {ps ks : List Str} {x : Str} {p pos : Pos} {e : Expr} {es : List Expr} {kws : List Keyword} {C : TF} {t tk : TSA}
variable {gg : List Value → List Value → List Value} {gV : List V → List V → List V} {gS : List SV → List SV → List SV}
def t_callK (gS : List SV → List SV → List SV) (m mk : Nat) (C : TF) (t tk : TSA) : TD := fun cs Q => t cs fun svs cs1 => tk cs1 fun zvs cs2 => (svs.length = m ∧ zvs.length = mk) ∧ C (gS svs zvs) fun sv => Q sv cs2
/-- how data goes to the parameters -/
def SRel (gV : List V → List V → List V) (gS : List SV → List SV → List SV) : Prop := ∀ (K : KW) (g : GW) (H : Hp) (svs zvs : List SV) (vs zs : List V), RSs K g H svs vs → RSs K g H zvs zs →
  RSs K g H (gS svs zvs) (gV vs zs) ∧ ((∀ sv ∈ svs, settled sv = true) → (∀ sv ∈ zvs, settled sv = true) → ∀ sv ∈ gS svs zvs, settled sv = true)
theorem de_callK0 (F : FnG X.prog X.w X.kw X.mg X.base CX0 k f fd ps (spD X.kw ZP.zp n C)) (hgd : X.A.guards = some []) (hr : Room k X.A) (hg : Gl X x) (hm : X.mg x = some (.ref f)) (hk : PySem.W.keepIn X.kw (.ref f) = true)
    (hb : KBd X.kw fd ps ks 0 gg) (hrel : KRel gV gg) (hS : SRel gV gS) (hn : ∀ zs : List V, zs.length = ks.length → (gV [] zs).length = n)
    (hkw : DK X ZP kws tk) (hall : (backToKw pos (keywordEach kws X.env)).all (·.1.isSome) = true := by rfl) (hks : (backToKw pos (keywordEach kws X.env)).filterMap (·.1) = ks := by rfl)
    (hdb : (x == ("__debug__" : Str)) = false := by decide)
    (hpl : ((backTo pos (starEach [] X.env)).any (·.1) || (backToKw pos (keywordEach kws X.env)).any (·.1.isNone)) = false := by rfl) :
    DE X ZP (.Call (.Name x p) [] kws pos) (t_callK gS 0 ks.length C t_anil tk) := by
  refine ⟨PE.imp (pe_callGK0 F hgd hr hg hm hk hb hrel pass0 hkw.pk hall hks hdb hpl) ?_⟩
  rintro σ H Q ⟨B, cs, g, R, Q', q, kk⟩
  show tA X.kw ZP tk σ H _
  refine ⟨B, cs, g, R, _, q, fun svs cs1 vs g1 H1 q1 R1 r1 st s1 f1 => ?_⟩
  have hl : vs.length = ks.length := by rw [← Paired.length r1]; exact q1.1.2
  obtain ⟨r2, st2⟩ := hS X.kw g1 H1 [] svs [] vs .nil r1
  refine ⟨rfl, hl, ?_⟩
  refine call_fin R1 r2 (st2 (fun _ z => by cases z) st) (hn vs hl) q1.2 (fun sv v g' H' q' R' r' t' f' => ?_) _
  exact kk sv cs1 v g' H' q' R' r' (t'.back f1) s1 (f1.trans (f'.mono fun _ _ _ z => z.elim))
end
end Cl

/-! the rules with their side conditions filled in -/
namespace Cl
open PySem PySem.Spec PyProof.Rows L2
section
variable {X : Cx} {ZP : ZT} {x : Str} {pos : Pos}
theorem dln (i : Nat) (hN : X.N[i]? = some x := by rfl) (hv : Vis X.env.scope x := by first | exact Or.inl rfl | exact Or.inr (Or.inl rfl) | exact Or.inr (Or.inr rfl)) (hd : (x == ("__debug__" : Str)) = false := by decide)
    (hcd : (x == ("__classdict__" : Str)) = false := by decide) : DL X ZP (.Name x pos) (t_lname i) := dl_name hN hv hd hcd
theorem den (i : Nat) (hN : X.N[i]? = some x := by rfl) (hv : Vis X.env.scope x := by first | exact Or.inl rfl | exact Or.inr (Or.inl rfl) | exact Or.inr (Or.inr rfl)) (hd : (x == ("__debug__" : Str)) = false := by decide)
    (hcd : (x == ("__classdict__" : Str)) = false := by decide) : DE X ZP (.Name x pos) (t_name i) := de_name hN hv hd hcd
theorem dsrn {p2 : Pos} (i : Nat) (hN : X.N[i]? = some x := by rfl) (hv : Vis X.env.scope x := by first | exact Or.inl rfl | exact Or.inr (Or.inl rfl) | exact Or.inr (Or.inr rfl)) (hd : (x == ("__debug__" : Str)) = false := by decide)
    (hcd : (x == ("__classdict__" : Str)) = false := by decide) : DS X ZP (.Return (some (.Name x p2)) pos) (t_retn i) := ds_retn hN hv hd hcd
theorem dgm (i : Nat) (hN : X.N.Nodup) (hi : X.N[i]? = some x := by rfl) (hx : Loc X.env.scope x := by first | exact Or.inl rfl | exact Or.inr rfl) (hf : X.fn x = true ∨ X.env.scope.names.lookup x = some .local := by first | exact .inl rfl | exact .inr rfl) : DG X ZP (.Name x pos) (g_name i) := dg_name hN hi hx hf
theorem dgb (i : Nat) {vs : List Nat} (hN : X.N.Nodup) (hv : i ∈ vs := by decide) (hi : X.N[i]? = some x := by rfl) (hx : Loc X.env.scope x := by first | exact Or.inl rfl | exact Or.inr rfl) (hf : X.fn x = true ∨ X.env.scope.names.lookup x = some .local := by first | exact .inl rfl | exact .inr rfl) : DGN X ZP vs (.Name x pos) (g_name i) := dgn_name hv hN hi hx hf
variable {e : Expr} {te : TVD} {xpos apos cpos : Pos}
theorem dvap (i : Nat) (h : DV X ZP e te) (hN : X.N[i]? = some x := by rfl) (hv : Vis X.env.scope x := by first | exact Or.inl rfl | exact Or.inr (Or.inl rfl) | exact Or.inr (Or.inr rfl)) (hd : (x == ("__debug__" : Str)) = false := by decide)
    (hcd : (x == ("__classdict__" : Str)) = false := by decide) (hst : starEach [e] X.env = (false, eval e X.env) :: starEach [] X.env := by rfl) (hbase : attributeBase (.Name x xpos) "append" X.env (eval (.Name x xpos) X.env) = eval (.Name x xpos) X.env := by rfl)
    (hfew : ((backTo cpos (starEach [e] X.env)).all (fun x => !x.1) && (backToKw cpos (keywordEach [] X.env)).all (fun x => x.1.isSome)
      && decide (([e] : List Expr).length + ([] : List Keyword).length + (if ([] : List Keyword).isEmpty then 0 else 1) < 30)) = true := by rfl) (hline : (apos.endLine == cpos.line) = true := by rfl) :
    DV X ZP (.Call (.Attribute (.Name x xpos) "append" apos) [e] [] cpos) (t_append i te) := dv_append hN hv h hd hcd hst hbase hfew hline
theorem dvex (i : Nat) (h : DV X ZP e te) (hN : X.N[i]? = some x := by rfl) (hv : Vis X.env.scope x := by first | exact Or.inl rfl | exact Or.inr (Or.inl rfl) | exact Or.inr (Or.inr rfl)) (hd : (x == ("__debug__" : Str)) = false := by decide)
    (hcd : (x == ("__classdict__" : Str)) = false := by decide) (hst : starEach [e] X.env = (false, eval e X.env) :: starEach [] X.env := by rfl) (hbase : attributeBase (.Name x xpos) "extend" X.env (eval (.Name x xpos) X.env) = eval (.Name x xpos) X.env := by rfl)
    (hfew : ((backTo cpos (starEach [e] X.env)).all (fun x => !x.1) && (backToKw cpos (keywordEach [] X.env)).all (fun x => x.1.isSome)
      && decide (([e] : List Expr).length + ([] : List Keyword).length + (if ([] : List Keyword).isEmpty then 0 else 1) < 30)) = true := by rfl) (hline : (apos.endLine == cpos.line) = true := by rfl) :
    DV X ZP (.Call (.Attribute (.Name x xpos) "extend" apos) [e] [] cpos) (t_extend i te) := dv_extend hN hv h hd hcd hst hbase hfew hline
end
end Cl

namespace Cl
open PySem PySem.Spec PyProof.Rows L2

/-! ### -x -/
section
variable {X : Cx} {ZP : ZT} {e e2 : Expr} {pos : Pos} {ta tb : TLD} {va vb : TVD}
def t_neg (ta : TLD) : TVD := fun cs Q => ta cs fun l cs1 => match l.get cs1 with
  | some (.int i) => Q (.int (-i)) cs1
  | _ => False
theorem dv_neg (h : DL X ZP e ta) : DV X ZP (.UnaryOp .USub e pos) (t_neg ta) := by
  refine ⟨PE.imp (pe_un un_neg h.pe) ?_⟩
  rintro σ H Q ⟨B, cs, g, R, Q', q, k⟩
  refine ⟨B, cs, g, R, _, q, fun l cs1 v g1 H1 q1 R1 r1 s1 f1 => ?_⟩
  cases e1 : l.get cs1 with
  | none => rw [e1] at q1; exact q1.elim
  | some d =>
    rw [e1] at q1
    cases d with
    | int i => exact ⟨i, (r1.rb R1 e1).int, k _ cs1 _ g1 H1 q1 R1 (.int _) s1 f1⟩
    | _ => exact q1.elim

/-! ### ( *a, b) -/
def t_star1 (va vb : TVD) : TVD := fun cs Q => va cs fun d cs1 => match seqOf d with
  | some ds => vb cs1 fun e cs2 => ds.length < sizeLine ∧ Q (.tuple (ds ++ [e])) cs2
  | none => False
theorem dv_star1 {p : Pos} {k : Nat} (ha : DV X ZP e va) (hb : DV X ZP e2 vb) (hs : starEach [.Starred e p, e2] X.env = (true, eval e X.env) :: starEach [e2] X.env := by rfl) (hs2 : starEach [e2] X.env = (false, eval e2 X.env) :: starEach [] X.env := by rfl) :
    DV X ZP (.Tuple [.Starred e p, e2] k pos) (t_star1 va vb) := by
  refine ⟨PE.imp (pe_tupF (StX.pa_star ha.pe (pa_cons hb.pe pa_nil hs2) hs)) ?_⟩
  rintro σ H Q ⟨B, cs, g, R, Q', q, k⟩
  refine ⟨B, cs, g, R, _, q, fun d cs1 v g1 H1 q1 R1 r1 s1 f1 => ?_⟩
  cases e1 : seqOf d with
  | none => rw [e1] at q1; exact q1.elim
  | some ds =>
    rw [e1] at q1
    obtain ⟨kk, a, xs, rfl, ra, hS, hst⟩ := Rp.src r1 e1
    refine ⟨a, xs, rfl, ?_, B, cs1, g1, R1, _, q1, fun d2 cs2 u g2 H2 q2 R2 r2 s2 f2 => ?_⟩
    · cases kk with
      | lst => exact .inr (SqL.of hS)
      | tup => exact .inl hS
    · have ra2 := ra.frm f2 R1.fzow
      refine ⟨by rw [List.length_append, ← ra2.length]; exact q2.1, fun p its hp => ?_⟩
      obtain ⟨R3, r3, t3, f3⟩ := (Res.tup (its := its) hp (ra2.append (.cons r2 .nil))).fin R2
      exact k _ cs2 _ g2 _ q2.2 R3 r3 (fun a h => s1 a (s2 a h)) ((f1.trans (f2.mono fun a _ _ h => s1 a h)).trans (f3.mono fun a _ _ h => s1 a (s2 a h)))

/-! ### a, b = x, y -/
def t_par (i j : Nat) (ta tb : TD) : TSD := fun D cs => ta cs fun sv cs1 => tb cs1 fun sw cs2 => i < cs2.length ∧ j < cs2.length ∧ D.nx ((cs2.set i (some sv)).set j (some sw))
theorem ds_par {i j : Nat} {x y : Str} {a b : Expr} {td te : TD} {px py pt : Pos} {kt k2 : Nat} {pt2 : Pos} (hc : X.calm = true) (hN : X.N.Nodup) (hi : X.N[i]? = some x) (hj : X.N[j]? = some y) (hij : i ≠ j)
    (hx : X.env.scope.names.lookup x = some .local) (hy : X.env.scope.names.lookup y = some .local) (ha : DE X ZP a td) (hb : DE X ZP b te)
    (hw : swappedStores [.Tuple [.Name x px, .Name y py] kt pt] (.Tuple [a, b] k2 pt2) X.env = pure (some [x, y]) := by rfl)
    (hs : swapsWithSole [.Tuple [.Name x px, .Name y py] kt pt] (.Tuple [a, b] k2 pt2) pos.line X.env = pure false := by rfl)
    (hs1 : starEach [a, b] X.env = (false, eval a X.env) :: starEach [b] X.env := by rfl) (hs2 : starEach [b] X.env = (false, eval b X.env) :: starEach [] X.env := by rfl) :
    DS X ZP (.Assign [.Tuple [.Name x px, .Name y py] kt pt] (.Tuple [a, b] k2 pt2) pos) (t_par i j td te) := by
  refine ⟨PS.imp (ps_par hc hN hi hj hij hx hy (pa_cons ha.pe (pa_cons hb.pe pa_nil hs2) hs1) hw hs) ?_⟩
  rintro D σ H ⟨B, cs, g, R, D', q, p⟩
  refine ⟨B, cs, g, R, _, q, fun sv cs1 v g1 H1 q1 R1 r1 t1 s1 f1 => ?_⟩
  refine ⟨B, cs1, g1, R1, _, q1, fun sw cs2 u g2 H2 q2 R2 r2 t2 s2 f2 => ?_⟩
  obtain ⟨l1, l2, q2⟩ := q2
  refine ⟨v, u, rfl, ?_⟩
  have n1 : ∀ a, Foot sv v a → ¬ ow cs1 σ a := fun a e2 => (t1 a e2).1
  have R3 := R2.store l1 (r1.frm f2 R1.fzow n1) fun a e2 => ⟨fun z => n1 a e2 (s2 a z), R.bnone (t1 a e2).2⟩
  have R4 := R3.store (i := j) (by rw [List.length_set]; exact l2) r2 fun a e2 => ⟨fun z => ?_, R1.bnone (t2 a e2).2⟩
  · exact p.nx _ _ g2 H2 R4 ((f1.stay R.fzow).trans (f2.stay R1.fzow)) q2
  · obtain ⟨n2, n3⟩ := t2 a e2
    rcases ow_set l1 R2.len z with z | z
    · exact n2 z
    · obtain ⟨o, h, _⟩ := r1.there z
      rw [n3] at h; cases h
end

/-! ### str(x) -/
def strX : C1X := fun d Q => match d with
  | .str s => Q (.dat (.str s))
  | .none => False
  | .bool _ => False
  | d => reprOk d ∧ Q (.dat (.str d.shown))
section
variable {X : Cx}
end
end Cl

namespace Cl
open PySem PySem.Spec PyProof.Rows L2

section
variable {K : KW} {ZP : ZT} {B : Bs} {g : GW} {H : Hp} {cs : CS} {σ : L2.St} {w : Addr → Prop} {p : Addr} {o : HO}
end
section
variable {K : KW} {ZP : ZT} {B : Bs} {g : GW} {H : Hp} {cs : CS} {σ : L2.St} {p : Addr} {o o' : HO}
end
/-! ### {} -/
section
variable {X : Cx} {ZP : ZT} {pos : Pos}
theorem ext_dict {P : Program} {w : World} {H : Hp} {h : Heap} {a : Addr} {ep : Nat} {es : List DictEntry} (d : DictHas a ep es h) : ObjOk P w H h a (.ext (DictHas a ep es)) :=
  ⟨d, let ⟨_, o, e, _⟩ := d; ⟨o, e⟩, fun h1 h2 ⟨n, o, e, r⟩ k => ⟨n, o, k o e, r⟩⟩
def t_dict0 : TVD := fun cs Q => Q (.dict []) cs
end

/-! ### {t: v}, t a tuple of ints -/
section
variable {prog : Program} {w : World} {K : Type} [DecidableEq K] {knd : HeapKind prog w K} {A : Around} {E : Value → Shared → Prop} {s : Shared}
end
section
variable {X : Cx} {ZP : ZT} {pos : Pos} {ke ve : Expr} {tk tv : TVD}
theorem rps_ints {K : KW} {H : Hp} {fz : Addr → Prop} : ∀ {ns : List Int} {vs : List V}, RpAll K H fz (ns.map .int) vs → vs = ns.map V.int
  | [], _, .nil => rfl
  | n :: ns, _, .cons r t => by
    cases r
    rw [rps_ints t]; rfl
end

/-! ### t[::-1] -/
section
variable {prog : Program} {w : World} {A : Around} {E : Value → Shared → Prop} {s : Shared}
end
section
variable {X : Cx} {ZP : ZT} {e : Expr} {te : TE} {ta : TLD} {k : Nat} {p1 p2 p3 pos : Pos}
theorem RpAll.reverse {K : KW} {H : Hp} {fz : Addr → Prop} : ∀ {ds : List PyData} {vs : List V}, RpAll K H fz ds vs → RpAll K H fz ds.reverse vs.reverse
  | _, _, .nil => .nil
  | _, _, .cons r t => by
    rw [List.reverse_cons, List.reverse_cons]
    exact (RpAll.reverse t).append (.cons r .nil)
def t_rev (ta : TLD) : TVD := fun cs Q => ta cs fun l cs1 => match l.get cs1 with
  | some (.tuple ds) => Q (.tuple ds.reverse) cs1
  | _ => False
end
end Cl

namespace Cl
open PySem PySem.Spec PyProof.Rows L2

/-! ### the script -/
section
variable {X : Cx} {ZP : ZT} {pos p p2 p3 : Pos} {x : Str} {i : Nat}
theorem scr_sq {K : KW} {g : GW} {H : Hp} {ns : List Int} {v : V} (r : RS K g H (.scr ns) v) : ∃ a, v = .ref a ∧ SqL K H a (ns.map V.int) := by
  obtain ⟨a, rfl, h⟩ := r
  refine ⟨a, rfl, ?_⟩
  rcases h with ⟨_, o, h⟩ | h
  · exact .inl (.inr ⟨o, h⟩)
  · exact .inr h
theorem RpAll.ints' {K : KW} {H : Hp} {fz : Addr → Prop} (ns : List Int) : RpAll K H fz (ns.map PyData.int) (ns.map V.int) := RpAll.ints ns
def t_sliceScr (i : Nat) (tl th : TOD) : TD := fun cs Q => match cs[i]? with
  | some (some (.scr ns)) => tl cs fun lo cs2 => th cs2 fun hi cs3 => Q (.own (cutD (ns.map .int) lo hi)) cs3
  | _ => False
theorem de_sliceScr {lo hi : Option Expr} {tl th : TOD} (i : Nat) (hl : DO X ZP lo tl) (hh : DO X ZP hi th) (hN : X.N[i]? = some x := by rfl) (hv : Vis X.env.scope x := by first | exact Or.inl rfl | exact Or.inr (Or.inl rfl) | exact Or.inr (Or.inr rfl)) (hd : (x == ("__debug__" : Str)) = false := by decide)
    (hcd : (x == ("__classdict__" : Str)) = false := by decide) : DE X ZP (.Subscript (.Name x p) (.Slice lo hi none p2) pos) (t_sliceScr i tl th) := by
  refine ⟨PE.imp (pe_slice sl_list (pe_var hN hv hd hcd) hl.po hh.po) ?_⟩
  rintro σ H Q ⟨B, cs, g, R, Q', q, k⟩
  unfold t_sliceScr at q
  cases e1 : cs[i]? with
  | none => rw [e1] at q; exact q.elim
  | some osv =>
    rw [e1] at q
    rcases osv with _ | sv
    · exact q.elim
    · cases sv with
      | dat d => exact q.elim
      | obj d => exact q.elim
      | raw d => exact q.elim
      | exc _ _ _ _ => exact q.elim
      | fnv _ => exact q.elim
      | ptr _ => exact q.elim
      | stp _ _ => exact q.elim
      | rtd _ _ => exact q.elim
      | scr ns =>
      obtain ⟨v, e2, r⟩ := R.slot i _ e1
      refine ⟨v, e2, B, cs, g, R, _, q, fun o1 cs2 g2 H2 q2 R2 s2 f2 => ?_⟩
      refine ⟨B, cs2, g2, R2, _, q2, fun o2 cs3 g3 H3 q3 R3 s3 f3 => ?_⟩
      have r3 : RS X.kw g3 H3 (.scr ns) v := (RS.frm (sv := .scr ns) f2 R.fzow (fun _ h => h.elim) r).frm f3 R2.fzow (fun _ h => h.elim)
      obtain ⟨a, rfl, hs⟩ := scr_sq r3
      refine ⟨a, _, rfl, hs, fun p hp => ?_⟩
      obtain ⟨R4, r4, t4, f4⟩ := (Res.lst hp ((RpAll.ints' ns).cut o1 o2)).fin R3
      have f13 : Frm (ow cs σ) g H g3 H3 := f2.trans (f3.mono fun a _ _ h => s2 a h)
      exact k _ cs3 _ g3 _ q3 R4 r4 (t4.back f13) (fun a h => s2 a (s3 a h)) (f13.trans (f4.mono fun a _ _ h => s2 a (s3 a h)))
end

/-! ### boxes: what a law's draws work on -/
inductive RF where
  | l (t : Nat)
  | i
/-- 2: a list of ints; 3: .. that is not empty; 1: [2, 3, int, int]; 4: [2, int, int] -/
def shp : Nat → Option (List RF)
  | 1 => some [.l 2, .l 3, .i, .i]
  | 4 => some [.l 2, .i, .i]
  | _ => none
/-- dicts with texts as keys -/
def dshp : Nat → Option (List Str × List RF)
  | 5 => some (["great", "stirred", "count"], [.l 2, .i, .i])
  | 6 => some (["far", "cells", "sum", "count"], [.l 2, .l 3, .i, .i])
  | 7 => some (["deep", "state"], [.l 2, .i])
  | _ => none
def Fld (zs : Addr → Option Nat) : List RF → List V → Prop
  | [], [] => True
  | .l t :: fs, .ref a :: vs => zs a = some t ∧ Fld zs fs vs
  | .i :: fs, .int _ :: vs => Fld zs fs vs
  | _, _ => False
def ZP0 : ZF := fun t zs o => (t = 2 ∧ ∃ ns : List Int, ns.length ≤ 1000 ∧ o = .lst (ns.map V.int)) ∨ (t = 3 ∧ ∃ ns : List Int, ns ≠ [] ∧ o = .lst (ns.map V.int)) ∨ (∃ fs vs, shp t = some fs ∧ o = .lst vs ∧ Fld zs fs vs) ∨
  ∃ ks fs vs, dshp t = some (ks, fs) ∧ o = .dK ((ks.map Sum.inr).zip vs) ∧ Fld zs fs vs
/-- the names of the lambdas' code objects -/
def lamN : List Str := ["strengths.<locals>.<lambda>", "lot_strengths.<locals>.<lambda>", "kind_strengths.<locals>.<lambda>"]
/-- tables of code objects, code objects -/
def ZPl (T : List (Addr × Nat)) : ZF := fun t zs o => (t = 0 ∧ ∀ p ∈ T, zs p.1 = some (40 + p.2)) ∨
  (∃ i, t = 40 + i ∧ i < 8 ∧ ∃ ps : Array Value, o = .tbl ps ∧ TriplesOk ps.toList ∧ ∀ (pos : Pos) (cv : Value), codeAmong pos ps.toList = some cv → ∃ c, cv = .ref c ∧ zs c = some (1000 + 8 * c + i)) ∨
  ∃ c i q, t = 1000 + 8 * c + i ∧ i < 8 ∧ lamN[i]? = some q ∧ o = LamX.CodeO c q
theorem ZPl.big {T : List (Addr × Nat)} {t : Nat} {zs : Addr → Option Nat} {o : HO} (h : ZPl T t zs o) : t = 0 ∨ 40 ≤ t := by
  rcases h with ⟨h, _⟩ | ⟨i, h, _⟩ | ⟨c, i, q, h, _⟩
  · exact .inl h
  · exact .inr (by omega)
  · exact .inr (by omega)
theorem shp_big {t : Nat} (h : t = 0 ∨ 40 ≤ t) : shp t = none := by
  unfold shp
  split <;> first | omega | rfl
def ZPu (T : List (Addr × Nat)) : ZF := fun t zs o => ZP0 t zs o ∨ ZPl T t zs o
/-- the things of a box -/
def BoxOk : List RF → List SV → Prop
  | [], [] => True
  | .l t :: fs, .obj (.lst xs) :: svs => (∃ ns : List Int, xs = ns.map .int ∧ ((t = 2 ∧ ns.length ≤ 1000) ∨ (t = 3 ∧ ns ≠ []))) ∧ BoxOk fs svs
  | .i :: fs, .dat (.int _) :: svs => BoxOk fs svs
  | _, _ => False
def typ : List RF → List V → Addr → Option Nat
  | .l t :: fs, .ref b :: vs, a => if a = b then some t else typ fs vs a
  | .i :: fs, _ :: vs, a => typ fs vs a
  | _, _, _ => none
/-- arguments, own lists among them -/
def tX (K : KW) (ZP : ZT) (t : TSA) : TA := fun σ H Q => ∃ B cs g, Rel K ZP B g H cs σ ∧ ∃ Q', t cs Q' ∧
  ∀ svs cs' vs g' H', Q' svs cs' → Rel K ZP B g' H' cs' σ → RSs K g' H' svs vs → (∀ (i : Nat) (xs : OwnC) (a : Addr), svs[i]? = some (.obj xs) → vs[i]? = some (.ref a) → ¬ ow cs' σ a ∧ H a = none) →
    (∀ (i j : Nat) (xs ys : OwnC) (a : Addr), svs[i]? = some (.obj xs) → svs[j]? = some (.obj ys) → vs[i]? = some (.ref a) → vs[j]? = some (.ref a) → i = j) → (∀ a, ow cs' σ a → ow cs σ a) → Frm (ow cs σ) g H g' H' → Q vs H'
structure DX (X : Cx) (ZP : ZT) (es : List Expr) (t : TSA) : Prop where
  pa : PA X es (tX X.kw ZP t)
def t_xcons (t : TD) (u : TSA) : TSA := fun cs Q => t cs fun sv cs1 => u cs1 fun svs cs2 => Q (sv :: svs) cs2
section
variable {X : Cx} {ZP : ZT} {e : Expr} {es : List Expr} {td : TD} {ts : TSA}
theorem dx_nil : DX X ZP [] t_anil := ⟨PA.imp pa_nil fun σ H Q ⟨B, cs, g, R, Q', q, k⟩ => k [] cs [] g H q R .nil (fun i xs a e => by simp at e) (fun i j xs ys a e => by simp at e) (fun _ h => h) .refl⟩
theorem dx_cons (h : DE X ZP e td) (r : DX X ZP es ts) (hs : starEach (e :: es) X.env = (false, eval e X.env) :: starEach es X.env := by rfl) : DX X ZP (e :: es) (t_xcons td ts) := by
  refine ⟨PA.imp (pa_cons h.pe r.pa hs) ?_⟩
  rintro σ H Q ⟨B, cs, g, R, Q', q, k⟩
  refine ⟨B, cs, g, R, _, q, fun sv cs1 v g1 H1 q1 R1 r1 t1 s1 f1 => ?_⟩
  refine ⟨B, cs1, g1, R1, _, q1, fun svs cs2 vs g2 H2 q2 R2 r2 t2 d2 s2 f2 => ?_⟩
  have old : ∀ xs a, sv = .obj xs → v = .ref a → ∃ o, H1 a = some o := fun xs a e1 e2 => by
    subst e1; subst e2
    obtain ⟨b, ws, e, h, _⟩ := r1.ownAt
    cases e; exact ⟨_, h⟩
  refine k (sv :: svs) cs2 (v :: vs) g2 H2 q2 R2 (.cons (r1.frm f2 R1.fzow fun a e => (t1 a e).1) r2) (fun i xs a e1 e2 => ?_) (fun i j xs ys a e1 e2 e3 e4 => ?_) (fun a h => s1 a (s2 a h)) (f1.trans (f2.mono fun a _ _ h => s1 a h))
  · cases i with
    | zero =>
      simp only [List.getElem?_cons_zero, Option.some.injEq] at e1 e2
      subst e1; subst e2
      obtain ⟨n1, n2⟩ := t1 a rfl
      exact ⟨fun z => n1 (s2 a z), n2⟩
    | succ i =>
      simp only [List.getElem?_cons_succ] at e1 e2
      obtain ⟨n1, n2⟩ := t2 i xs a e1 e2
      refine ⟨n1, ?_⟩
      cases e5 : H a with
      | none => rfl
      | some u =>
        obtain ⟨u', e6⟩ := f1.any a u e5
        rw [n2] at e6; cases e6
  · cases i with
    | zero =>
      cases j with
      | zero => rfl
      | succ j =>
        simp only [List.getElem?_cons_succ, List.getElem?_cons_zero, Option.some.injEq] at e1 e2 e3 e4
        obtain ⟨o, h⟩ := old xs a e1 e3
        rw [(t2 j ys a e2 e4).2] at h; cases h
    | succ i =>
      cases j with
      | zero =>
        simp only [List.getElem?_cons_succ, List.getElem?_cons_zero, Option.some.injEq] at e1 e2 e3 e4
        obtain ⟨o, h⟩ := old ys a e2 e4
        rw [(t2 i xs a e1 e3).2] at h; cases h
      | succ j =>
        simp only [List.getElem?_cons_succ] at e1 e2 e3 e4
        rw [d2 i j xs ys a e1 e2 e3 e4]
end
section
variable {K : KW} {g : GW} {H : Hp}
theorem typ_some : ∀ {fs : List RF} {svs : List SV} {vs : List V} {a : Addr} {t : Nat}, BoxOk fs svs → RSs K g H svs vs → typ fs vs a = some t →
    ∃ (i : Nat) (ns : List Int), svs[i]? = some (.own (ns.map .int)) ∧ vs[i]? = some (.ref a) ∧ H a = some (.lst (ns.map V.int)) ∧ ¬ g.fz a ∧ g.zs a = none ∧ ((t = 2 ∧ ns.length ≤ 1000) ∨ (t = 3 ∧ ns ≠ []))
  | [], svs, vs, a, t, _, _, e => by cases vs <;> simp [typ] at e
  | .l t0 :: fs, [], _, a, t, b, _, e => b.elim
  | .l t0 :: fs, sv :: svs, _, a, t, b, .cons r rs, e => by
    cases sv with
    | obj o =>
      cases o with
      | dct _ => exact b.elim
      | gdc _ => exact b.elim
      | lst xs =>
      obtain ⟨⟨ns, rfl, ht⟩, b⟩ := b
      obtain ⟨c, ws, rfl, h, n1, n2, q⟩ := r
      cases rps_ints q
      unfold typ at e
      by_cases hac : a = c
      · rw [if_pos hac] at e
        cases e; subst hac
        exact ⟨0, ns, rfl, rfl, h, n1, n2, ht⟩
      · rw [if_neg hac] at e
        obtain ⟨i, ms, h1, h2, h3⟩ := typ_some b rs e
        exact ⟨i + 1, ms, by simpa using h1, by simpa using h2, h3⟩
    | dat d => exact b.elim
    | raw d => exact b.elim
    | scr d => exact b.elim
    | exc _ _ _ _ => exact b.elim
    | fnv _ => exact b.elim
    | ptr _ => exact b.elim
    | stp _ _ => exact b.elim
    | rtd _ _ => exact b.elim
  | .i :: fs, [], _, a, t, b, _, e => b.elim
  | .i :: fs, sv :: svs, _, a, t, b, .cons r rs, e => by
    cases sv with
    | dat d =>
      cases d with
      | int n =>
        cases r
        have b : BoxOk fs svs := b
        unfold typ at e
        obtain ⟨i, ms, h1, h2, h3⟩ := typ_some b rs e
        exact ⟨i + 1, ms, by simpa using h1, by simpa using h2, h3⟩
      | _ => exact b.elim
    | obj d => exact b.elim
    | raw d => exact b.elim
    | scr d => exact b.elim
    | exc _ _ _ _ => exact b.elim
    | fnv _ => exact b.elim
    | ptr _ => exact b.elim
    | stp _ _ => exact b.elim
    | rtd _ _ => exact b.elim
theorem fld_of : ∀ {fs : List RF} {svs : List SV} {vs : List V} {zs : Addr → Option Nat}, BoxOk fs svs → RSs K g H svs vs →
    (∀ (i j : Nat) (xs ys : OwnC) (a : Addr), svs[i]? = some (.obj xs) → svs[j]? = some (.obj ys) → vs[i]? = some (.ref a) → vs[j]? = some (.ref a) → i = j) →
    (∀ a t, typ fs vs a = some t → zs a = some t) → Fld zs fs vs
  | [], [], _, zs, _, .nil, _, _ => True.intro
  | [], _ :: _, _, zs, b, _, _, _ => b.elim
  | .l t0 :: fs, [], _, zs, b, _, _, _ => b.elim
  | .l t0 :: fs, sv :: svs, _, zs, b, .cons r rs, d, h => by
    cases sv with
    | obj o =>
      cases o with
      | dct _ => exact b.elim
      | gdc _ => exact b.elim
      | lst xs =>
      obtain ⟨⟨ns, rfl, ht⟩, b⟩ := b
      obtain ⟨c, ws, rfl, hc, n1, n2, q⟩ := r
      refine ⟨h c t0 (by unfold typ; rw [if_pos rfl]), fld_of b rs (fun i j xs ys a e1 e2 e3 e4 => ?_) fun a t e => h a t ?_⟩
      · have := d (i + 1) (j + 1) xs ys a (by simpa using e1) (by simpa using e2) (by simpa using e3) (by simpa using e4)
        omega
      · unfold typ
        by_cases hac : a = c
        · subst hac
          exfalso
          obtain ⟨i, ms, e1, e2, _⟩ := typ_some b rs e
          have := d 0 (i + 1) _ _ a rfl (by simpa using e1) rfl (by simpa using e2)
          omega
        · rw [if_neg hac]; exact e
    | dat d => exact b.elim
    | raw d => exact b.elim
    | scr d => exact b.elim
    | exc _ _ _ _ => exact b.elim
    | fnv _ => exact b.elim
    | ptr _ => exact b.elim
    | stp _ _ => exact b.elim
    | rtd _ _ => exact b.elim
  | .i :: fs, [], _, zs, b, _, _, _ => b.elim
  | .i :: fs, sv :: svs, _, zs, b, .cons r rs, d, h => by
    cases sv with
    | dat dd =>
      cases dd with
      | int n =>
        cases r
        have b : BoxOk fs svs := b
        refine fld_of (fs := fs) b rs (fun i j xs ys a e1 e2 e3 e4 => ?_) fun a t e => h a t (by unfold typ; exact e)
        have := d (i + 1) (j + 1) xs ys a (by simpa using e1) (by simpa using e2) (by simpa using e3) (by simpa using e4)
        omega
      | _ => exact b.elim
    | obj d => exact b.elim
    | raw d => exact b.elim
    | scr d => exact b.elim
    | exc _ _ _ _ => exact b.elim
    | fnv _ => exact b.elim
    | ptr _ => exact b.elim
    | stp _ _ => exact b.elim
    | rtd _ _ => exact b.elim
theorem Fld.mono {zs zs' : Addr → Option Nat} (m : ∀ a t, zs a = some t → zs' a = some t) : ∀ {fs : List RF} {vs : List V}, Fld zs fs vs → Fld zs' fs vs
  | [], [], _ => True.intro
  | .l t :: fs, .ref a :: vs, h => ⟨m _ _ h.1, Fld.mono m h.2⟩
  | .i :: fs, .int _ :: vs, h => by
    have h : Fld zs fs vs := h
    exact Fld.mono (fs := fs) m h
theorem ZP0.mono {zs zs' : Addr → Option Nat} {t : Nat} {o : HO} (m : ∀ a t, zs a = some t → zs' a = some t) (h : ZP0 t zs o) : ZP0 t zs' o := by
  rcases h with h | h | ⟨fs, vs, e1, e2, h⟩ | ⟨ks, fs, vs, e1, e2, h⟩
  · exact .inl h
  · exact .inr (.inl h)
  · exact .inr (.inr (.inl ⟨fs, vs, e1, e2, h.mono m⟩))
  · exact .inr (.inr (.inr ⟨ks, fs, vs, e1, e2, h.mono m⟩))
theorem ZPl.mono {T : List (Addr × Nat)} {zs zs' : Addr → Option Nat} {t : Nat} {o : HO} (m : ∀ a t, zs a = some t → zs' a = some t) (h : ZPl T t zs o) : ZPl T t zs' o := by
  rcases h with ⟨h, h2⟩ | ⟨i, h, hi, ps, h1, h2, h3⟩ | h
  · exact .inl ⟨h, fun p hp => m _ _ (h2 p hp)⟩
  · exact .inr (.inl ⟨i, h, hi, ps, h1, h2, fun pos cv e => let ⟨c, e1, e2⟩ := h3 pos cv e; ⟨c, e1, m _ _ e2⟩⟩)
  · exact .inr (.inr h)
theorem ZPu.mono {T : List (Addr × Nat)} {zs zs' : Addr → Option Nat} {t : Nat} {o : HO} (m : ∀ a t, zs a = some t → zs' a = some t) (h : ZPu T t zs o) : ZPu T t zs' o := by
  rcases h with h | h
  · exact .inl (h.mono m)
  · exact .inr (h.mono m)
theorem BoxOk.length : ∀ {fs : List RF} {svs : List SV}, BoxOk fs svs → fs.length = svs.length
  | [], [], _ => rfl
  | .l t :: fs, .obj (.lst xs) :: svs, h => by simp [BoxOk.length h.2]
  | .i :: fs, .dat (.int _) :: svs, h => by
    have h : BoxOk fs svs := h
    simp [BoxOk.length h]
end
/-- return [..], a box of kind t -/
def t_retbox (t : Nat) (ts : TSA) : TSD := fun D cs => ts cs fun svs _ => ∃ fs, shp t = some fs ∧ svs.length ≤ sizeLine ∧ BoxOk fs svs ∧ D.rt (.raw t)
section
variable {X : Cx} {es : List Expr} {ts : TSA} {p pos : Pos} {t : Nat}
theorem ds_retbox {T : List (Addr × Nat)} {bs : Bs → Prop} (h : DX X ⟨ZPu T, bs⟩ es ts) : DS X ⟨ZPu T, bs⟩ (.Return (some (.List es p)) pos) (t_retbox t ts) := by
  refine ⟨PS.imp (ps_ret (pe_lst h.pa)) ?_⟩
  rintro D σ H ⟨B, cs, g, R, D', q, pp⟩
  refine ⟨B, cs, g, R, _, q, fun svs cs1 vs g1 H1 q1 R1 r1 t1 d1 s1 f1 => ?_⟩
  obtain ⟨fs, hsh, hl, hb, hrt⟩ := q1
  refine ⟨by rw [← Paired.length r1]; exact hl, fun p hp => ?_⟩
  have np := R1.nofz hp
  -- the new region
  let zs' : Addr → Option Nat := fun a => if a = p then some t else match typ fs vs a with
    | some u => some u
    | none => g1.zs a
  have tf : ∀ a u, typ fs vs a = some u → H a = none ∧ ¬ ow cs1 σ a ∧ ¬ g1.fz a ∧ g1.zs a = none ∧ a ≠ p ∧ ∃ ns : List Int, H1 a = some (.lst (ns.map V.int)) ∧ ((u = 2 ∧ ns.length ≤ 1000) ∨ (u = 3 ∧ ns ≠ [])) := fun a u e => by
    obtain ⟨i, ns, e1, e2, h1, n1, n2, ht⟩ := typ_some hb r1 e
    obtain ⟨m1, m2⟩ := t1 i _ a e1 e2
    exact ⟨m2, m1, n1, n2, (fun z => by subst z; rw [hp] at h1; cases h1), ns, h1, ht⟩
  have zm : ∀ a u, g1.zs a = some u → zs' a = some u := fun a u e => by
    have hne : a ≠ p := fun z => by subst z; rw [np.2] at e; cases e
    show (if a = p then some t else _) = _
    rw [if_neg hne]
    cases e1 : typ fs vs a with
    | none => exact e
    | some u' => rw [(tf a u' e1).2.2.2.1] at e; cases e
  have zn : ∀ a, a ≠ p → typ fs vs a = none → zs' a = g1.zs a := fun a h1 h2 => by
    show (if a = p then some t else _) = _
    rw [if_neg h1, h2]
  have zt : ∀ a u, typ fs vs a = some u → zs' a = some u := fun a u e => by
    show (if a = p then some t else _) = _
    rw [if_neg (tf a u e).2.2.2.2.1, e]
  have f2 : Frm (ow cs1 σ) g1 H1 { g1 with zs := zs' } (upd H1 p (.lst vs)) → True := fun _ => True.intro
  have keep : ∀ a o, H1 a = some o → upd H1 p (.lst vs) a = some o := fun a o e => by rw [upd_ne (ne_of_none e hp)]; exact e
  have R2 : Rel X.kw ⟨ZPu T, bs⟩ B { g1 with zs := zs' } (upd H1 p (.lst vs)) cs1 σ := by
    refine ⟨R1.len, fun i sv e => ?_, R1.sep, fun a u z => ?_, fun a z => ?_, ?_, R1.fresh, R1.bs⟩
    · obtain ⟨v, e1, r⟩ := R1.slot i sv e
      refine ⟨v, e1, ?_⟩
      cases sv with
      | dat d => exact Rp.go (fun _ h => h) (fun a o _ e => keep a o e) (fun a xs h => h.laid hp) r
      | obj xs =>
        refine r.objGo (fun _ h => h) (fun a o _ e => keep a o e) (fun a xs h => h.laid hp) fun a u e3 h m1 m2 => ⟨keep _ _ h, m1, ?_⟩
        subst e3
        show zs' a = none
        rw [zn a (ne_of_none h hp) ?_]
        · exact m2
        · cases e2 : typ fs vs a with
          | none => rfl
          | some u => exact absurd (ow_obj e e1) (tf a u e2).2.1
      | raw u => obtain ⟨a, rfl, h⟩ := r; exact ⟨a, rfl, zm a u h⟩
      | exc a n d fs => exact ⟨r.1, r.2.go (fun _ h => h) (fun a o _ e => keep a o e) (fun a xs h => h.laid hp)⟩
      | fnv L => exact ⟨r.1, r.2.1, keep _ _ r.2.2.1, zm _ _ r.2.2.2.1, RpAll.go (fun _ h => h) (fun a o _ e => keep a o e) (fun a xs h => h.laid hp) r.2.2.2.2⟩
      | ptr _ => exact r
      | stp p0 W =>
        refine ⟨r.1, r.2.go (fun _ h => h) (fun a o _ e => keep a o e) (fun a xs h => h.laid hp) fun a u ft h m1 m2 => ⟨keep _ _ h, m1, ?_⟩⟩
        show zs' a = none
        rw [zn a (ne_of_none h hp) ?_]
        · exact m2
        · cases e2 : typ fs vs a with
          | none => rfl
          | some u => exact absurd ⟨i, _, _, e, e1, ft⟩ (tf a u e2).2.1
      | rtd m W =>
        refine ⟨MR.go (fun _ h => h) (fun a o _ e => keep a o e) (fun a xs h => h.laid hp) r.1, r.2.go (fun _ h => h) (fun a o _ e => keep a o e) (fun a xs h => h.laid hp) fun a u ft h m1 m2 => ⟨keep _ _ h, m1, ?_⟩⟩
        show zs' a = none
        rw [zn a (ne_of_none h hp) ?_]
        · exact m2
        · cases e2 : typ fs vs a with
          | none => rfl
          | some u => exact absurd ⟨i, _, _, e, e1, ft⟩ (tf a u e2).2.1
      | scr ns =>
        obtain ⟨a, rfl, h⟩ := r
        refine ⟨a, rfl, ?_⟩
        rcases h with ⟨h1, o, h2⟩ | h
        · exact .inl ⟨h1, o, keep _ _ h2⟩
        · exact .inr h
    · have z : zs' a = some u := z
      by_cases hap : a = p
      · subst hap
        have : zs' a = some t := by show (if a = a then some t else _) = _; rw [if_pos rfl]
        rw [this] at z; cases z
        exact ⟨_, upd_same, .inl (.inr (.inr (.inl ⟨fs, vs, hsh, rfl, fld_of hb r1 d1 zt⟩)))⟩
      · cases e1 : typ fs vs a with
        | some u' =>
          rw [zt a u' e1] at z; cases z
          obtain ⟨_, _, _, _, hne, ns, h1, ht⟩ := tf a u e1
          refine ⟨_, keep _ _ h1, ?_⟩
          rcases ht with ⟨rfl, hn⟩ | ⟨rfl, hn⟩
          · exact .inl (.inl ⟨rfl, ns, hn, rfl⟩)
          · exact .inl (.inr (.inl ⟨rfl, ns, hn, rfl⟩))
        | none =>
          rw [zn a hap e1] at z
          obtain ⟨o, e, q⟩ := R1.zok a u z
          exact ⟨o, keep _ _ e, q.mono zm⟩
    · obtain ⟨⟨o, e⟩, h⟩ := R1.fzok a z
      refine ⟨⟨o, keep _ _ e⟩, ?_⟩
      show zs' a = none
      rw [zn a (ne_of_none e hp) ?_]
      · exact h
      · cases e2 : typ fs vs a with
        | none => rfl
        | some u => exact absurd z (tf a u e2).2.2.1
    · have bn : ∀ a o, B.1 a = some o → a ≠ p ∧ typ fs vs a = none := fun a o e => by
        refine ⟨fun z => ?_, ?_⟩
        · subst z; rw [R1.bnone hp] at e; cases e
        · cases e2 : typ fs vs a with
          | none => rfl
          | some u => rw [R.bnone (tf a u e2).1] at e; cases e
      refine ⟨fun a o e z n => keep _ _ (R1.base.keep a o e z n), R1.base.fzm, fun a u z => zm a u (R1.base.zsm a u z), R1.base.fzn, fun a o e z => ?_, fun a xs h => (R1.base.tups a xs h).laid hp, fun a o e => ?_⟩
      · show zs' a = none
        rw [zn a (bn a o e).1 (bn a o e).2]
        exact R1.base.zsn a o e z
      · obtain ⟨o', e'⟩ := R1.base.any a o e
        exact ⟨o', keep _ _ e'⟩
  have st : Stay g H { g1 with zs := zs' } (upd H1 p (.lst vs)) := by
    have st1 := f1.stay R.fzow
    exact ⟨st1.fzm, fun a o h e => keep _ _ (st1.keep a o h e), fun a xs h => (st1.tups a xs h).laid hp⟩
  refine pp.rt (.raw t) (.ref p) cs1 σ _ _ R2 st ⟨p, rfl, ?_⟩ (fun _ h => h.elim) hrt
  show (if p = p then some t else _) = _
  rw [if_pos rfl]
end
end Cl

namespace Cl
open PySem PySem.Spec PyProof.Rows L2

/-! ### a thing of the region is changed -/
section
variable {T : List (Addr × Nat)} {g : GW} {H H1 H2 : Hp} {p : Addr} {t : Nat} {o o' : HO}
structure Step (T : List (Addr × Nat)) (g : GW) (H H' : Hp) : Prop where
  ok : GOk (ZPu T) g H'
  fr : Frm (fun _ => False) g H g H'
theorem Step.refl (G : GOk (ZPu T) g H) : Step T g H H := ⟨G, .refl⟩
theorem Step.trans (a : Step T g H H1) (b : Step T g H1 H2) : Step T g H H2 := ⟨b.ok, a.fr.trans b.fr⟩
theorem Step.region' (G : GOk (ZPu T) g H) (hz : g.zs p = some t) {o : HO} (h : H p = some o) (ht : ∀ xs, o ≠ .tup xs) (hf : ∀ b u, o ≠ .frz b u) (n : (ZPu T) t g.zs o') : Step T g H (upd H p o') := by
  have any : ∀ a u, H a = some u → ∃ u', upd H p o' a = some u' := fun a u e => by
    by_cases hp : a = p
    · subst hp; exact ⟨_, upd_same⟩
    · exact ⟨u, by rw [upd_ne hp]; exact e⟩
  refine ⟨⟨fun a u z => ?_, fun a z => ?_, G.tab⟩, ⟨fun a u e z _ => ?_, fun _ h => h, fun _ _ h => h, fun _ _ _ _ h => h, fun _ _ _ h => h, fun a xs q => ?_, any⟩⟩
  · by_cases hp : a = p
    · subst hp; rw [hz] at z; cases z; exact ⟨_, upd_same, n⟩
    · rw [upd_ne hp]; exact G.zok a u z
  · obtain ⟨⟨u, e⟩, q⟩ := G.fzok a z
    exact ⟨any a u e, q⟩
  · rw [upd_ne (fun q => by subst q; rw [hz] at z; cases z)]; exact e
  · have hne : a ≠ p := fun e => by
      subst e
      exact q.not h fun ob ys => hf ob _
    exact q.ne hne
theorem Step.region (G : GOk (ZPu T) g H) (hz : g.zs p = some t) {vs : List V} (h : H p = some (.lst vs)) (n : (ZPu T) t g.zs o') : Step T g H (upd H p o') :=
  Step.region' G hz h (fun _ e => by cases e) (fun _ _ e => by cases e) n
theorem Step.laid (G : GOk (ZPu T) g H) (hp : H p = none) : Step T g H (upd H p o) := by
  refine ⟨⟨fun a u z => ?_, fun a z => ?_, G.tab⟩, .laid hp⟩
  · obtain ⟨w, e, q⟩ := G.zok a u z
    exact ⟨w, by rw [upd_ne (ne_of_none e hp)]; exact e, q⟩
  · obtain ⟨⟨w, e⟩, q⟩ := G.fzok a z
    exact ⟨⟨w, by rw [upd_ne (ne_of_none e hp)]; exact e⟩, q⟩
theorem ints_of_two (G : GOk (ZPu T) g H) (h : g.zs p = some 2) : ∃ ns : List Int, ns.length ≤ 1000 ∧ H p = some (.lst (ns.map V.int)) := by
  obtain ⟨o, e, (h | h | ⟨fs, vs, e1, _⟩ | ⟨ks, fs, vs, e1, _⟩) | h⟩ := G.zok p 2 h
  · obtain ⟨_, ns, hn, rfl⟩ := h; exact ⟨ns, hn, e⟩
  · obtain ⟨h, _⟩ := h; cases h
  · cases e1
  · cases e1
  · have := h.big; omega
theorem ints_of_three (G : GOk (ZPu T) g H) (h : g.zs p = some 3) : ∃ ns : List Int, ns ≠ [] ∧ H p = some (.lst (ns.map V.int)) := by
  obtain ⟨o, e, (h | h | ⟨fs, vs, e1, _⟩ | ⟨ks, fs, vs, e1, _⟩) | h⟩ := G.zok p 3 h
  · obtain ⟨h, _⟩ := h; cases h
  · obtain ⟨_, ns, hn, rfl⟩ := h; exact ⟨ns, hn, e⟩
  · cases e1
  · cases e1
  · have := h.big; omega
theorem box_of {fs : List RF} (G : GOk (ZPu T) g H) (h : g.zs p = some t) (e : shp t = some fs) (hd : dshp t = none := by rfl) : ∃ vs, H p = some (.lst vs) ∧ Fld g.zs fs vs := by
  obtain ⟨o, e0, (h | h | ⟨fs', vs, e1, rfl, f⟩ | ⟨ks, fs', vs, e1, _⟩) | h⟩ := G.zok p t h
  · obtain ⟨rfl, _⟩ := h; cases e
  · obtain ⟨rfl, _⟩ := h; cases e
  · rw [e] at e1; cases e1; exact ⟨vs, e0, f⟩
  · rw [hd] at e1; cases e1
  · rw [shp_big h.big] at e; cases e
end

/-! ### ints, told at once -/
section
variable {K : KW} {H : Hp} {Q : VK} {o : OpX} {c : C1X} {i j k : Int} {b : Bool}
theorem rOi (k : Int) (h : ∀ Q' : SV → Prop, Q' (.dat (.int k)) → o (.int i) (.int j) Q') (q : Q (.int k) H) : rO K o (.int i) (.int j) H Q :=
  ⟨fun _ => False, .int i, .int j, Rp.rb (.int i), Rp.rb (.int j), (fun sv => sv = .dat (.int k)), h _ rfl, fun sv z H' e r => by
    subst e
    cases r with
    | same r => cases r; exact q⟩
theorem rOb (b : Bool) (h : ∀ Q' : SV → Prop, Q' (.dat (.bool b)) → o (.int i) (.int j) Q') (q : Q (.bl b) H) : rO K o (.int i) (.int j) H Q :=
  ⟨fun _ => False, .int i, .int j, Rp.rb (.int i), Rp.rb (.int j), (fun sv => sv = .dat (.bool b)), h _ rfl, fun sv z H' e r => by
    subst e
    cases r with
    | same r => cases r; exact q⟩
theorem rCi (k : Int) (h : ∀ Q' : SV → Prop, Q' (.dat (.int k)) → c (.int i) Q') (q : Q (.int k) H) : rC1 K c [.int i] H Q :=
  ⟨_, fun _ => False, .int i, rfl, Rp.rb (.int i), (fun sv => sv = .dat (.int k)), h _ rfl, fun sv z H' e r => by
    subst e
    cases r with
    | same r => cases r; exact q⟩
theorem rClen {a : Addr} {ns : List Int} (h : H a = some (.lst (ns.map V.int))) (q : Q (.int (ns.length : Nat)) H) : rC1 K lenX [.ref a] H Q :=
  ⟨_, fun _ => False, .list (ns.map .int), rfl, ⟨a, _, rfl, h, RpAll.ints ns⟩, (fun sv => sv = .dat (.int (ns.length : Nat))), by show _ = _; rw [List.length_map], fun sv z H' e r => by
    subst e
    cases r with
    | same r => cases r; exact q⟩
theorem canInts : ∀ ns : List Int, PyData.canLayAll0 (ns.map .int) = true
  | [] => by simp [PyData.canLayAll0]
  | n :: ns => by simp [PyData.canLayAll0, PyData.canLay0, canInts ns]
theorem depInts : ∀ ns : List Int, PyData.depthAll (ns.map .int) ≤ 1
  | [] => by simp [PyData.depthAll]
  | n :: ns => by have := depInts ns; simp [PyData.depthAll, PyData.depth]; omega
theorem shaped_ints (ns : List Int) : SeqAt.shaped (.list (ns.map .int)) = true := by
  unfold SeqAt.shaped
  have := depInts ns
  simp [PyData.canLay0, canInts, PyData.depth]
  omega
theorem rNeNil {a p : Addr} {ns : List Int} (h : H a = some (.lst (ns.map V.int))) (hp : H p = some (.lst [])) (q : Q (.bl (!ns.isEmpty)) H) : rO K neX (.ref a) (.ref p) H Q := by
  refine ⟨fun _ => False, .list (ns.map .int), .list [], ⟨a, _, rfl, h, RpAll.ints ns⟩, ⟨p, _, rfl, hp, .nil⟩, (fun sv => sv = .dat (.bool (!ns.isEmpty))), ⟨shaped_ints ns, shaped_ints [], ?_⟩, fun sv z H' e r => by
    subst e
    cases r with
    | same r => cases r; exact q⟩
  cases ns <;> rfl
theorem rIx0 {K : PySem.W.Frag} {a : Addr} {xs : List V} {v : V} (h : H a = some (.lst xs)) (i : Int) (e : atI xs i = some v) (q : Q v H) : rIxL K (.ref a) (.int i) H Q := ⟨a, xs, i, v, rfl, rfl, SqL.of h, e, q⟩
end
section
variable {X : Cx} {x : Str} {pos : Pos}
theorem pvn (i : Nat) (hN : X.N[i]? = some x := by rfl) (hv : Vis X.env.scope x := by first | exact Or.inl rfl | exact Or.inr (Or.inl rfl) | exact Or.inr (Or.inr rfl)) (hd : (x == ("__debug__" : Str)) = false := by decide)
    (hcd : (x == ("__classdict__" : Str)) = false := by decide) : PE X (.Name x pos) (tVar i) := pe_var hN hv hd hcd
theorem pgn (i : Nat) (hN : X.N.Nodup) (hi : X.N[i]? = some x := by rfl) (hx : Loc X.env.scope x := by first | exact Or.inl rfl | exact Or.inr rfl) (hf : X.fn x = true ∨ X.env.scope.names.lookup x = some .local := by first | exact .inl rfl | exact .inr rfl) : PG X (.Name x pos) (gName i) := pg_name hN hi hx hf
end
theorem atInt {ns : List Int} {i : Int} (h1 : 0 ≤ i) (h2 : i < (ns.length : Nat)) : ∃ c, atI (ns.map V.int) i = some (.int c) := by
  have h : i.toNat < ns.length := by omega
  refine ⟨ns[i.toNat], ?_⟩
  unfold atI ixN
  rw [List.length_map]
  rw [if_pos h1, if_pos h2]
  simp [h]
theorem fdiv_small {n : Int} (h : n < 2 ^ 60) (h0 : 0 < n := by first | assumption | decide) : n.natAbs < 2 ^ 9000 :=
  Nat.lt_of_lt_of_le (show n.natAbs < 2 ^ 60 by omega) (Nat.pow_le_pow_right (by decide) (by decide))
theorem mulOk_r {a b : Int} (h1 : -(2 ^ 64) < b) (h2 : b < 2 ^ 64) : IntMulOk a b := IntMulOk.of_right (intBits_le_64 h1 h2)
theorem mulOk_l {a b : Int} (h1 : -(2 ^ 64) < a) (h2 : a < 2 ^ 64) : IntMulOk a b := IntMulOk.of_left (intBits_le_64 h1 h2)
/-- the contract of a draw: any number below the size -/
def drawC (t : Nat) : TF := fun svs Q => svs.length = 2 ∧ ∃ n : Int, svs = [.raw t, .dat (.int n)] ∧ 0 < n ∧ n < 2 ^ 60 ∧ ∀ r : Int, 0 ≤ r → r < n → Q (.dat (.int r))
theorem draw_in {T : List (Addr × Nat)} {K : KW} {t : Nat} {vs : List V} {H : Hp} {Q : VK} {E : XK} (h : spD K (ZPu T) 2 (drawC t) vs H Q E) :
    ∃ (a : Addr) (n : Int) (g : GW), vs = [.ref a, .int n] ∧ g.zs a = some t ∧ GOk (ZPu T) g H ∧ 0 < n ∧ n < 2 ^ 60 ∧ ∀ r H', 0 ≤ r → r < n → Step T g H H' → Q (.int r) H' := by
  obtain ⟨hl, svs, g, r, st, G, Q', ⟨_, n, rfl, h1, h2, q⟩, k⟩ := h
  cases r with
  | cons r r2 =>
    cases r2 with
    | cons r2 r3 =>
      cases r3
      obtain ⟨a, rfl, hz⟩ := r
      cases r2
      refine ⟨a, n, g, rfl, hz, G, h1, h2, fun r H' h3 h4 s => k _ _ g H' (q r h3 h4) s.ok (.int r) (fun _ h => h.elim) s.fr⟩
section
variable {X : Cx} {ZP : ZT} {pos : Pos}
theorem dspar {x y : Str} {a b : Expr} {td te : TD} {px py pt : Pos} {kt k2 : Nat} {pt2 : Pos} (i j : Nat) (hN : X.N.Nodup) (ha : DE X ZP a td) (hb : DE X ZP b te) (hc : X.calm = true := by rfl) (hi : X.N[i]? = some x := by rfl) (hj : X.N[j]? = some y := by rfl) (hij : i ≠ j := by decide)
    (hx : X.env.scope.names.lookup x = some .local := by rfl) (hy : X.env.scope.names.lookup y = some .local := by rfl)
    (hw : swappedStores [.Tuple [.Name x px, .Name y py] kt pt] (.Tuple [a, b] k2 pt2) X.env = pure (some [x, y]) := by rfl)
    (hs : swapsWithSole [.Tuple [.Name x px, .Name y py] kt pt] (.Tuple [a, b] k2 pt2) pos.line X.env = pure false := by rfl)
    (hs1 : starEach [a, b] X.env = (false, eval a X.env) :: starEach [b] X.env := by rfl) (hs2 : starEach [b] X.env = (false, eval b X.env) :: starEach [] X.env := by rfl) :
    DS X ZP (.Assign [.Tuple [.Name x px, .Name y py] kt pt] (.Tuple [a, b] k2 pt2) pos) (t_par i j td te) := ds_par hc hN hi hj hij hx hy ha hb hw hs hs1 hs2
end
end Cl

namespace Cl
open PySem PySem.Spec PyProof.Rows L2

/-! ### repr of data that hold lists and dicts -/
section
variable {X : Cx} {pins : List (Addr × Obj)} {σ : L2.St} {H : Hp} {s : Shared} {fz : Addr → Prop}
def RK (X : Cx) (s : Shared) (d : PyData) (u : Value) : Prop := ∃ B, ReadAtMost s.heap d.depth B ∧ ReprK X.prog X.w B s.heap d.depth u d.shown
def RKs (X : Cx) (s : Shared) (ds : List PyData) (us : List Value) : Prop := ∃ B, ReadAtMost s.heap (PyData.depthAll ds) B ∧ ReprAllK X.prog X.w B s.heap (PyData.depthAll ds) us (PyData.shownAll ds)
theorem rks_nil : RKs X s [] [] := ⟨[], (fun _ z => by cases z), by simp only [PyData.shownAll]; exact ReprAllK.nil⟩
theorem rks_cons {d : PyData} {ds : List PyData} {u : Value} {us : List Value} (h1 : RK X s d u) (h2 : RKs X s ds us) : RKs X s (d :: ds) (u :: us) := by
  obtain ⟨B1, a1, k1⟩ := h1
  obtain ⟨B2, a2, k2⟩ := h2
  refine ⟨B1 ++ B2, fun b hb => ?_, ?_⟩
  · simp only [PyData.depthAll]
    rcases List.mem_append.mp hb with hb | hb
    · obtain ⟨e, as, r, le⟩ := a1 b hb
      exact ⟨e, as, r, by omega⟩
    · obtain ⟨e, as, r, le⟩ := a2 b hb
      exact ⟨e, as, r, by omega⟩
  · simp only [PyData.depthAll, PyData.shownAll]
    have m1 : PyData.depth d ≤ max (PyData.depth d) (PyData.depthAll ds) := Nat.le_max_left _ _
    have m2 : PyData.depthAll ds ≤ max (PyData.depth d) (PyData.depthAll ds) := Nat.le_max_right _ _
    exact .cons ((k1.more fun b z => List.mem_append_left _ z).level_le m1) (k2.more_le (fun b z => List.mem_append_right _ z) m2)
theorem rk_list {a : Addr} {ds : List PyData} {its : List Value} {n : Nat} {as : List Addr} (e : s.heap.get? a = some { cls := .type "list", data := .seq its.toArray n }) (hr : Reads s.heap (.ref a) (.list ds) as) (h : RKs X s ds its) : RK X s (.list ds) (.ref a) := by
  obtain ⟨B, hb, hk⟩ := h
  have no : a ∉ B := not_mem_of_deeper hr (show PyData.depthAll ds < _ by simp only [PyData.depth]; omega) hb
  refine ⟨a :: B, ReadAtMost.cons hr (Nat.le_refl _) (fun b z => let ⟨d, as, r, q⟩ := hb b z; ⟨d, as, r, by simp only [PyData.depth]; omega⟩), ?_⟩
  simp only [PyData.depth, PyData.shown]
  cases its with
  | nil =>
    cases hr with
    | list g1 g2 g3 g4 =>
      rw [e] at g1; cases g1
      cases g3
      cases g4
      simp only [PyData.shownAll, listText_nil]
      exact ReprK.listEmpty e rfl rfl
  | cons x l => exact ReprK.list e rfl rfl no (by simpa using hk.length_eq) (fun i y z => hk.item i y (by simpa using z))
theorem rk_tuple {a : Addr} {ds : List PyData} {its : List Value} {as : List Addr} (e : IsTup s.heap a its.toArray) (hr : Reads s.heap (.ref a) (.tuple ds) as) (h : RKs X s ds its) : RK X s (.tuple ds) (.ref a) := by
  obtain ⟨B, hb, hk⟩ := h
  obtain ⟨o, g1, g2, n, g3⟩ := e
  have no : a ∉ B := not_mem_of_deeper hr (show PyData.depthAll ds < _ by simp only [PyData.depth]; omega) hb
  refine ⟨a :: B, ReadAtMost.cons hr (Nat.le_refl _) (fun b z => let ⟨d, as, r, q⟩ := hb b z; ⟨d, as, r, by simp only [PyData.depth]; omega⟩), ?_⟩
  simp only [PyData.depth, PyData.shown]
  exact ReprK.tuple g1 g2 g3 no hk
theorem rk_dict {a : Addr} {kvs : List (PyData × PyData)} {es : List DictEntry} {as : List Addr} {ep : Nat} (e : DictHas a ep es s.heap) (hr : Reads s.heap (.ref a) (.dict kvs) as)
    (h1 : RKs X s (kvs.map (·.1)) (es.map (·.key))) (h2 : RKs X s (kvs.map (·.2)) (es.map (·.val))) : RK X s (.dict kvs) (.ref a) := by
  obtain ⟨ne, o, g1, g2, g3⟩ := e
  obtain ⟨B1, a1, k1⟩ := h1
  obtain ⟨B2, a2, k2⟩ := h2
  have hb : ReadAtMost s.heap (PyData.depthKv kvs) (B1 ++ B2) := (a1.mono (PyData.depthAll_keys_le kvs)).append (a2.mono (PyData.depthAll_vals_le kvs))
  have no : a ∉ B1 ++ B2 := not_mem_of_deeper hr (show PyData.depthKv kvs < _ by simp only [PyData.depth]; omega) hb
  refine ⟨a :: (B1 ++ B2), ReadAtMost.cons hr (Nat.le_refl _) (fun b z => let ⟨d, as, r, q⟩ := hb b z; ⟨d, as, r, by simp only [PyData.depth]; omega⟩), ?_⟩
  simp only [PyData.depth, PyData.shown, PyData.shownKv_eq]
  exact ReprK.dict g1 g2.1 g3 (beq_eq_false_iff_ne.mpr ne) no (ReprEntriesK.of_two es _ _ (k1.more_le (fun b z => List.mem_append_left _ z) (PyData.depthAll_keys_le kvs)) (k2.more_le (fun b z => List.mem_append_right _ z) (PyData.depthAll_vals_le kvs)))
theorem rk_flat {d : PyData} {u : Value} (h : ReprIs X.prog X.w u d.shown) : RK X s d u := ⟨[], (fun _ z => by cases z), .of_is h _ _ _⟩
theorem szL {ds : List PyData} (h : (PyData.shown (.list ds)).length ≤ sizeLine) : ∀ t ∈ PyData.shownAll ds, t.length ≤ sizeLine := fun t ht => by
  simp only [PyData.shown] at h
  exact Nat.le_trans (listText_mem_le ht) h
theorem szT {ds : List PyData} (h : (PyData.shown (.tuple ds)).length ≤ sizeLine) : ∀ t ∈ PyData.shownAll ds, t.length ≤ sizeLine := fun t ht => by
  simp only [PyData.shown] at h
  exact Nat.le_trans (tupleText_mem_le ht) h
theorem szD {kvs : List (PyData × PyData)} (h : (PyData.shown (.dict kvs)).length ≤ sizeLine) : (∀ t ∈ PyData.shownAll (kvs.map (·.1)), t.length ≤ sizeLine) ∧ ∀ t ∈ PyData.shownAll (kvs.map (·.2)), t.length ≤ sizeLine := by
  simp only [PyData.shown] at h
  refine ⟨fun t ht => ?_, fun t ht => ?_⟩
  · obtain ⟨p, h1, h2⟩ := PyData.shownKv_key_le kvs t ht
    have := dictText_mem_le h1; omega
  · obtain ⟨p, h1, h2⟩ := PyData.shownKv_val_le kvs t ht
    have := dictText_mem_le h1; omega
mutual
theorem Rp.rk (I : L2.Inv X pins σ H s) : ∀ (d : PyData) (v : V) (u : Value), Rp X.kw H fz d v → RelV v u → d.showable = true → d.shown.length ≤ sizeLine → RK X s d u
  | .none, _, _, h, r, hs, hz => by cases h; cases r; exact rk_flat (by simp only [PyData.shown]; exact ReprIs.none)
  | .bool b, _, _, h, r, hs, hz => by cases h; cases r; exact rk_flat (by simp only [PyData.shown]; exact ReprIs.bool b)
  | .int i, _, _, h, r, hs, hz => by cases h; obtain ⟨t, rfl⟩ := r; exact rk_flat (by simp only [PyData.shown]; exact ReprIs.int t (by simpa [PyData.showable] using hs))
  | .str x, _, _, h, r, hs, hz => by cases h; obtain ⟨t, rfl⟩ := r; exact rk_flat (by simp only [PyData.shown] at hz ⊢; exact ReprIs.str x t hz)
  | .list ds, v, u, h, r, hs, hz => by
    have h0 := h
    cases h with
    | @lst a xs _ hf hq ha =>
      cases r
      obtain ⟨_, its, n, rv, e⟩ := Inv.lstR I hq
      obtain ⟨as, hr, _⟩ := Rp.reads I (.list ds) _ (.ref a) h0 rfl
      exact rk_list e hr (Rp.rks I ds _ its ha rv (by simpa [PyData.showable] using hs) (szL hz))
  | .tuple ds, v, u, h, r, hs, hz => by
    have h0 := h
    cases h with
    | @tup a xs _ hq ha =>
      cases r
      obtain ⟨its, rv, ht, _⟩ := I.tuple (hq.sq)
      obtain ⟨as, hr, _⟩ := Rp.reads I (.tuple ds) _ (.ref a) h0 rfl
      exact rk_tuple ht hr (Rp.rks I ds _ its ha rv (by simpa [PyData.showable] using hs) (szT hz))
  | .dict kvs, v, u, h, r, hs, hz => by
    have h0 := h
    cases h with
    | @dct a ep es ks vs _ hf hq k1 v1 r1 r2 _ =>
      cases r
      obtain ⟨hd, _⟩ := I.hok a _ hq
      obtain ⟨as, hr, _⟩ := Rp.reads I (.dict kvs) _ (.ref a) h0 rfl
      obtain ⟨hs1, hs2⟩ := PyData.showableKv_split kvs (by simpa [PyData.showable] using hs)
      obtain ⟨z1, z2⟩ := szD hz
      exact rk_dict hd hr (Rp.rkKey I kvs _ _ r1 k1 hs1 z1) (Rp.rkVal I kvs _ _ r2 v1 hs2 z2)
theorem Rp.rks (I : L2.Inv X pins σ H s) : ∀ (ds : List PyData) (vs : List V) (us : List Value), RpAll X.kw H fz ds vs → Vals vs us → PyData.showableAll ds = true → (∀ t ∈ PyData.shownAll ds, t.length ≤ sizeLine) → RKs X s ds us
  | [], _, _, h, r, _, _ => by cases h; cases r; exact rks_nil
  | d :: ds, _, _, h, r, hs, hz => by
    cases h with
    | cons h1 h2 =>
      cases r with
      | cons r1 r2 =>
        have hs : d.showable = true ∧ PyData.showableAll ds = true := by simpa [PyData.showableAll] using hs
        have z : ∀ t ∈ d.shown :: PyData.shownAll ds, t.length ≤ sizeLine := by simpa only [PyData.shownAll] using hz
        exact rks_cons (Rp.rk I d _ _ h1 r1 hs.1 (z _ List.mem_cons_self)) (Rp.rks I ds _ _ h2 r2 hs.2 fun t ht => z t (List.mem_cons_of_mem _ ht))
theorem Rp.rkKey (I : L2.Inv X pins σ H s) : ∀ (kvs : List (PyData × PyData)) (vs : List V) (us : List Value), RpAll X.kw H fz (kvs.map (·.1)) vs → Vals vs us → PyData.showableAll (kvs.map (·.1)) = true → (∀ t ∈ PyData.shownAll (kvs.map (·.1)), t.length ≤ sizeLine) → RKs X s (kvs.map (·.1)) us
  | [], _, _, h, r, _, _ => by cases h; cases r; exact rks_nil
  | (d, e) :: ds, _, _, h, r, hs, hz => by
    cases h with
    | cons h1 h2 =>
      cases r with
      | cons r1 r2 =>
        have hs : d.showable = true ∧ PyData.showableAll (ds.map (·.1)) = true := by simpa [PyData.showableAll] using hs
        have z : ∀ t ∈ d.shown :: PyData.shownAll (ds.map (·.1)), t.length ≤ sizeLine := by simpa only [PyData.shownAll, List.map_cons] using hz
        exact rks_cons (Rp.rk I d _ _ h1 r1 hs.1 (z _ List.mem_cons_self)) (Rp.rkKey I ds _ _ h2 r2 hs.2 fun t ht => z t (List.mem_cons_of_mem _ ht))
theorem Rp.rkVal (I : L2.Inv X pins σ H s) : ∀ (kvs : List (PyData × PyData)) (vs : List V) (us : List Value), RpAll X.kw H fz (kvs.map (·.2)) vs → Vals vs us → PyData.showableAll (kvs.map (·.2)) = true → (∀ t ∈ PyData.shownAll (kvs.map (·.2)), t.length ≤ sizeLine) → RKs X s (kvs.map (·.2)) us
  | [], _, _, h, r, _, _ => by cases h; cases r; exact rks_nil
  | (e, d) :: ds, _, _, h, r, hs, hz => by
    cases h with
    | cons h1 h2 =>
      cases r with
      | cons r1 r2 =>
        have hs : d.showable = true ∧ PyData.showableAll (ds.map (·.2)) = true := by simpa [PyData.showableAll] using hs
        have z : ∀ t ∈ d.shown :: PyData.shownAll (ds.map (·.2)), t.length ≤ sizeLine := by simpa only [PyData.shownAll, List.map_cons] using hz
        exact rks_cons (Rp.rk I d _ _ h1 r1 hs.1 (z _ List.mem_cons_self)) (Rp.rkVal I ds _ _ h2 r2 hs.2 fun t ht => z t (List.mem_cons_of_mem _ ht))
end
/-- how the top of it is shown -/
theorem shows_list {a : Addr} {ds : List PyData} {its : List Value} {n : Nat} {as : List Addr} (e : s.heap.get? a = some { cls := .type "list", data := .seq its.toArray n }) (hr : Reads s.heap (.ref a) (.list ds) as) (h : RKs X s ds its)
    (hz : (PyData.shown (.list ds)).length ≤ sizeLine) : ShowsBy X.prog X.w s.heap a (.list ds) "list" "list.__repr__" := by
  obtain ⟨B, hb, hk⟩ := h
  have no : a ∉ B := not_mem_of_deeper hr (show PyData.depthAll ds < _ by simp only [PyData.depth]; omega) hb
  refine { slotRepr := F.slot_list_repr.toG, slotStr := F.slot_list_str, slotFmt := F.slot_list_format, typeIs := fun s' k => ⟨_, k _ _ e, rfl⟩, call := fun A E s' Q hg hu k0 q => ?_ }
  simp only [PyData.depth] at hu
  simp only [PyData.shown] at q hz
  cases its with
  | nil =>
    cases hr with
    | list g1 g2 g3 g4 =>
      rw [e] at g1; cases g1
      cases g3
      cases g4
      simp only [PyData.shownAll, listText_nil] at q
      exact call_list_repr_empty ⟨_, k0 _ _ e, rfl⟩ (k0 _ _ e) rfl (q s'.heap _ _ fun _ _ z => z)
  | cons x l => exact call_list_reprK e rfl rfl no (by simpa using hk.length_eq) (fun i y z => hk.item i y (by simpa using z)) hg (fun b _ => Clear.nil b) hu k0 q hz
theorem shows_tuple {a : Addr} {ds : List PyData} {its : List Value} {as : List Addr} (e : IsTup s.heap a its.toArray) (hr : Reads s.heap (.ref a) (.tuple ds) as) (h : RKs X s ds its)
    (hz : (PyData.shown (.tuple ds)).length ≤ sizeLine) : ShowsBy X.prog X.w s.heap a (.tuple ds) "tuple" "tuple.__repr__" := by
  obtain ⟨B, hb, hk⟩ := h
  obtain ⟨o, g1, g2, n, g3⟩ := e
  have no : a ∉ B := not_mem_of_deeper hr (show PyData.depthAll ds < _ by simp only [PyData.depth]; omega) hb
  refine { slotRepr := F.slot_tuple_repr, slotStr := F.slot_tuple_str, slotFmt := F.slot_tuple_format, typeIs := fun s' k => ⟨o, k _ _ g1, g2⟩, call := fun A E s' Q hg hu k0 q => ?_ }
  simp only [PyData.depth] at hu
  simp only [PyData.shown] at q hz
  exact call_tuple_reprK g1 g2 g3 no hk hg (fun b _ => Clear.nil b) hu k0 q hz
theorem shows_dict {a : Addr} {kvs : List (PyData × PyData)} {es : List DictEntry} {as : List Addr} {ep : Nat} (e : DictHas a ep es s.heap) (hr : Reads s.heap (.ref a) (.dict kvs) as)
    (h1 : RKs X s (kvs.map (·.1)) (es.map (·.key))) (h2 : RKs X s (kvs.map (·.2)) (es.map (·.val))) (hz : (PyData.shown (.dict kvs)).length ≤ sizeLine) : ShowsBy X.prog X.w s.heap a (.dict kvs) "dict" "dict.__repr__" := by
  obtain ⟨ne, o, g1, g2, g3⟩ := e
  obtain ⟨B1, a1, k1⟩ := h1
  obtain ⟨B2, a2, k2⟩ := h2
  have hb : ReadAtMost s.heap (PyData.depthKv kvs) (B1 ++ B2) := (a1.mono (PyData.depthAll_keys_le kvs)).append (a2.mono (PyData.depthAll_vals_le kvs))
  have no : a ∉ B1 ++ B2 := not_mem_of_deeper hr (show PyData.depthKv kvs < _ by simp only [PyData.depth]; omega) hb
  refine { slotRepr := F.slot_dict_repr, slotStr := F.slot_dict_str, slotFmt := F.slot_dict_format, typeIs := fun s' k => ⟨o, k _ _ g1, g2.1⟩, call := fun A E s' Q hg hu k0 q => ?_ }
  simp only [PyData.depth] at hu
  simp only [PyData.shown, PyData.shownKv_eq] at q
  simp only [PyData.shown] at hz
  exact call_dict_reprK g1 g2.1 g3 (beq_eq_false_iff_ne.mpr ne) no (ReprEntriesK.of_two es _ _ (k1.more_le (fun b z => List.mem_append_left _ z) (PyData.depthAll_keys_le kvs))
    (k2.more_le (fun b z => List.mem_append_right _ z) (PyData.depthAll_vals_le kvs))) hg (fun b _ => Clear.nil b) hu k0 q (by rw [← PyData.shownKv_eq]; exact hz)
theorem RB.shows (I : L2.Inv X pins σ H s) {d : PyData} {a : Addr} (h : RB X.kw H fz d (.ref a)) (hs : d.showable = true) (hz : d.shown.length ≤ sizeLine) : ∃ T idr, ShowsBy X.prog X.w s.heap a d T idr := by
  obtain ⟨as, hr, _⟩ := RB.reads I (u := .ref a) h rfl
  cases d with
  | list ds =>
    obtain ⟨b, xs, e, hq, ha⟩ := h.lst
    cases e
    obtain ⟨_, its, n, rv, e⟩ := Inv.lstR I hq
    exact ⟨_, _, shows_list e hr (Rp.rks I ds _ its ha rv (by simpa [PyData.showable] using hs) (szL hz)) hz⟩
  | tuple ds =>
    obtain ⟨b, xs, e, hq, ha⟩ := h.tup
    cases e
    obtain ⟨its, rv, ht, _⟩ := I.tuple (hq.sq)
    exact ⟨_, _, shows_tuple ht hr (Rp.rks I ds _ its ha rv (by simpa [PyData.showable] using hs) (szT hz)) hz⟩
  | dict kvs =>
    obtain ⟨b, ep, es, ks, vs, e, hq, k1, v1, r1, r2, _⟩ := h
    cases e
    obtain ⟨hd, _⟩ := I.hok a _ hq
    obtain ⟨hs1, hs2⟩ := PyData.showableKv_split kvs (by simpa [PyData.showable] using hs)
    obtain ⟨z1, z2⟩ := szD hz
    exact ⟨_, _, shows_dict hd hr (Rp.rkKey I kvs _ _ r1 k1 hs1 z1) (Rp.rkVal I kvs _ _ r2 v1 hs2 z2) hz⟩
  | none => cases h.non
  | bool b => cases h.bl
  | int b => cases h.int
  | str b => cases h.str
end

def shOk (d : PyData) : Prop := d.showable = true ∧ d.depth ≤ 60 ∧ d.shown.length ≤ sizeLine
def shX : C1X := fun d Q => shOk d ∧ Q (.dat (.str d.shown))
section
variable {X : Cx}
theorem c_show (hg : X.A.guards = some []) (hu : X.A.units + 64 < cLine) : CallR X (.builtin "repr") (rC1 X.kw shX) := by
  rintro pins s σ H xs us Q I r ⟨x, fz, d, rfl, hd, Q', ⟨⟨z1, z3, z4⟩, q⟩, k⟩
  obtain ⟨u, rfl, ru⟩ := vals1 r
  have done : ∀ (h' : Heap) (t tk : Nat), (∀ b o, s.heap.get? b = some o → h'.get? b = some o) → EP X pins σ Q (.str d.shown t) { s with heap := h', toks := tk } := fun h' t tk hk =>
    ⟨.str _, H, I.kept hk, ⟨t, rfl⟩, k _ _ _ q (.same (.str _))⟩
  have ref : ∀ a, x = V.ref a → wpAny (model X.prog X.w) X.A (call (.builtin "repr") [u]) (EP X pins σ Q) X.xe s := fun a e => by
    subst e
    cases ru
    obtain ⟨T, idr, S⟩ := RB.shows I hd z1 z4
    exact call_repr_slot (by omega) (S.typeIs s fun _ _ e => e) S.slotRepr (S.call X.A.in1 _ s _ hg (by show X.A.units + 1 + d.depth < cLine; omega) (fun _ _ e => e) fun h' u tk hk => ⟨_, _, rfl, done h' u tk hk⟩)
  cases d with
  | none => cases hd.non; cases ru; exact PySem.P.repr_of_none (done s.heap _ _ fun _ _ e => e)
  | bool b => cases hd.bl; cases ru; exact PySem.P.repr_of_bool (done s.heap _ _ fun _ _ e => e)
  | int i =>
    cases hd.int
    obtain ⟨t, rfl⟩ := ru
    exact PySem.P.repr_of_int (by simpa [PyData.showable] using z1) (done s.heap _ _ fun _ _ e => e)
  | str x =>
    cases hd.str
    obtain ⟨t, rfl⟩ := ru
    exact PySem.P.repr_of_str (done s.heap _ _ fun _ _ e => e) z4
  | list ds => obtain ⟨a, vs, e, _⟩ := id hd.lst; exact ref a e
  | tuple ds => obtain ⟨a, vs, e, _⟩ := id hd.tup; exact ref a e
  | dict ds => obtain ⟨a, ep, es, ks, vs, e, _⟩ := id hd; exact ref a e
end
end Cl

namespace Cl
open PySem PySem.Spec PyProof.Rows L2

/-- ==, texts and ints without a condition -/
def eqY : OpX := fun x y Q => match x, y with
  | .str a, .str b => Q (.dat (.bool (decide (a = b))))
  | .int a, .int b => Q (.dat (.bool (decide (a = b))))
  | x, y => eqX x y Q
def neY : OpX := fun x y Q => match x, y with
  | .str a, .str b => Q (.dat (.bool (!decide (a = b))))
  | .int a, .int b => Q (.dat (.bool (!decide (a = b))))
  | x, y => neX x y Q
theorem oy_eq {X : Cx} (hu : X.A.units + 64 < cLine) : OpR X (compareOp .Eq) (rO X.kw eqY) := by
  rintro pins s σ H x y v u Q I rx ry ⟨fz, d, e, hd, he, Q', q, k⟩
  have old : eqX d e Q' → wpAny (model X.prog X.w) X.A (compareOp .Eq v u) (EP X pins σ Q) X.xe s := fun q => ox_eq hu pins s σ H x y v u Q I rx ry ⟨fz, d, e, hd, he, Q', q, k⟩
  cases d with
  | str a =>
    cases e with
    | str b =>
      cases hd.str; cases he.str
      refine op_eq pins s σ H _ _ v u Q I rx ry ⟨rfl, k _ _ _ q ?_⟩
      rw [show decide (V.str a = V.str b) = decide (a = b) by simp]
      exact .same (.bl _)
    | _ => exact old q
  | int a =>
    cases e with
    | int b =>
      cases hd.int; cases he.int
      refine op_eq pins s σ H _ _ v u Q I rx ry ⟨rfl, k _ _ _ q ?_⟩
      rw [show decide (V.int a = V.int b) = decide (a = b) by simp]
      exact .same (.bl _)
    | _ => exact old q
  | _ => cases e <;> exact old q
theorem oy_ne {X : Cx} (hu : X.A.units + 64 < cLine) : OpR X (compareOp .NotEq) (rO X.kw neY) := by
  rintro pins s σ H x y v u Q I rx ry ⟨fz, d, e, hd, he, Q', q, k⟩
  have old : neX d e Q' → wpAny (model X.prog X.w) X.A (compareOp .NotEq v u) (EP X pins σ Q) X.xe s := fun q => ox_ne hu pins s σ H x y v u Q I rx ry ⟨fz, d, e, hd, he, Q', q, k⟩
  cases d with
  | str a =>
    cases e with
    | str b =>
      cases hd.str; cases he.str
      refine op_ne pins s σ H _ _ v u Q I rx ry ⟨rfl, k _ _ _ q ?_⟩
      rw [show decide (V.str a = V.str b) = decide (a = b) by simp]
      exact .same (.bl _)
    | _ => exact old q
  | int a =>
    cases e with
    | int b =>
      cases hd.int; cases he.int
      refine op_ne pins s σ H _ _ v u Q I rx ry ⟨rfl, k _ _ _ q ?_⟩
      rw [show decide (V.int a = V.int b) = decide (a = b) by simp]
      exact .same (.bl _)
    | _ => exact old q
  | _ => cases e <;> exact old q

/-! ### tame data -/
structure Tm (W D : Nat) (d : PyData) : Prop where
  lv : d.leavesShort 200 = true
  sh : d.showable = true
  wt : d.weight ≤ W
  dp : d.depth ≤ D
structure TmA (W D : Nat) (ds : List PyData) : Prop where
  lv : PyData.leavesShortAll 200 ds = true
  sh : PyData.showableAll ds = true
  wt : PyData.weightAll ds ≤ W
  dp : PyData.depthAll ds ≤ D
theorem TmA.nil {W D : Nat} : TmA W D [] := ⟨by simp [PyData.leavesShortAll], by simp [PyData.showableAll], by simp [PyData.weightAll], by simp [PyData.depthAll]⟩
theorem TmA.cons {W V D : Nat} {d : PyData} {ds : List PyData} (h : Tm W D d) (r : TmA V D ds) : TmA (W + 1 + V) D (d :: ds) := by
  refine ⟨by simp [PyData.leavesShortAll, h.lv, r.lv], by simp [PyData.showableAll, h.sh, r.sh], ?_, ?_⟩
  · have := h.wt; have := r.wt; simp only [PyData.weightAll]; omega
  · have := h.dp; have := r.dp; simp only [PyData.depthAll]; omega
theorem TmA.of {W D : Nat} : ∀ {ds : List PyData}, (∀ d ∈ ds, Tm W D d) → TmA (ds.length * (W + 1)) D ds
  | [], _ => TmA.nil
  | d :: ds, h => by
    have := TmA.cons (h d List.mem_cons_self) (TmA.of fun x hx => h x (List.mem_cons_of_mem _ hx))
    rw [List.length_cons, Nat.succ_mul, Nat.add_comm]
    exact this
theorem Tm.mono {W D W' D' : Nat} {d : PyData} (h : Tm W D d) (h1 : W ≤ W') (h2 : D ≤ D') : Tm W' D' d := ⟨h.lv, h.sh, Nat.le_trans h.wt h1, Nat.le_trans h.dp h2⟩
theorem TmA.mono {W D W' D' : Nat} {d : List PyData} (h : TmA W D d) (h1 : W ≤ W') (h2 : D ≤ D') : TmA W' D' d := ⟨h.lv, h.sh, Nat.le_trans h.wt h1, Nat.le_trans h.dp h2⟩
theorem TmA.tup {W D : Nat} {ds : List PyData} (h : TmA W D ds) : Tm W (D + 1) (.tuple ds) :=
  ⟨by simpa [PyData.leavesShort] using h.lv, by simpa [PyData.showable] using h.sh, by simpa [PyData.weight] using h.wt, by have := h.dp; simp only [PyData.depth]; omega⟩
theorem TmA.lst {W D : Nat} {ds : List PyData} (h : TmA W D ds) : Tm W (D + 1) (.list ds) :=
  ⟨by simpa [PyData.leavesShort] using h.lv, by simpa [PyData.showable] using h.sh, by simpa [PyData.weight] using h.wt, by have := h.dp; simp only [PyData.depth]; omega⟩
theorem Tm.tupOf {W D n : Nat} {ds : List PyData} (h : ∀ d ∈ ds, Tm W D d) (hn : ds.length ≤ n) : Tm (n * (W + 1)) (D + 1) (.tuple ds) :=
  ((TmA.of h).mono (Nat.mul_le_mul_right _ hn) (Nat.le_refl _)).tup
theorem Tm.lstOf {W D n : Nat} {ds : List PyData} (h : ∀ d ∈ ds, Tm W D d) (hn : ds.length ≤ n) : Tm (n * (W + 1)) (D + 1) (.list ds) :=
  ((TmA.of h).mono (Nat.mul_le_mul_right _ hn) (Nat.le_refl _)).lst
theorem Tm.ok {W D : Nat} {d : PyData} (h : Tm W D d) (h1 : W ≤ 80000 := by decide) (h2 : D ≤ 60 := by decide) : shOk d := by
  refine ⟨h.sh, Nat.le_trans h.dp h2, ?_⟩
  have e := PyData.shown_le 200 (by decide) d h.lv
  have w := h.wt
  rw [sizeLine_eq]
  omega
theorem Tm.int {i : Int} (h0 : -190 < i) (h1 : i < 190) : Tm 10 0 (.int i) := by
  have hl := len_str_of_int i
  have hb : i.natAbs < 2 ^ 8 := by omega
  have h8 : i.natAbs.log2 < 8 := PySem.Flt.log2_lt_of (by decide) hb
  refine ⟨?_, ?_, ?_, by simp [PyData.depth]⟩
  · have hl2 : ((Str.ofString (toString i)).length : Int) ≤ 200 := by omega
    have hl3 : (Str.ofString (toString i)).length ≤ 200 := Int.ofNat_le.mp hl2
    exact (show PyData.leavesShort 200 (.int i) = decide ((Str.ofString (toString i)).length ≤ 200) by simp only [PyData.leavesShort, PyData.shown]; rfl) ▸ decide_eq_true hl3
  · simp only [PyData.showable, decide_eq_true_eq]
    omega
  · simp only [PyData.weight]
    split <;> omega

/-! ### loops -/
theorem forD_ind {gt : TGD} {tb : TSD} {D : DEnds} (I : List PyData → CS → Prop) (h0 : ∀ cs, I [] cs → D.nx cs)
    (hs : ∀ d ds cs (N : CS → Prop), (∀ cs', I ds cs' → N cs') → I (d :: ds) cs → gt (.dat d) cs fun cs1 => tb { nx := N, rt := D.rt, bk := D.nx, ct := N } cs1) : ∀ ds cs, I ds cs → forD gt tb D ds cs
  | [], cs, h => h0 cs h
  | d :: ds, cs, h => hs d ds cs _ (fun cs' z => forD_ind I h0 hs ds cs' z) h
theorem lcD_ind {vs : List Nat} {gt : TGD} {tt : TTD} {te : TVD} {Q : List PyData → CS → Prop} (I : List PyData → List PyData → CS → Prop) (h0 : ∀ acc cs, I [] acc cs → Q acc cs)
    (hs : ∀ d ds acc cs (N : List PyData → CS → Prop), (∀ acc' cs', I ds acc' cs' → N acc' cs') → I (d :: ds) acc cs →
      gt (.dat d) cs fun cs1 => tt cs1 fun b cs2 => if b = true then te cs2 fun y cs3 => acc.length < sizeLine ∧ N (acc ++ [y]) (wipeC cs3 vs) else N acc (wipeC cs2 vs)) : ∀ ds acc cs, I ds acc cs → lcD vs gt tt te Q ds acc cs
  | [], acc, cs, h => h0 acc cs h
  | d :: ds, acc, cs, h => hs d ds acc cs _ (fun acc' cs' z => lcD_ind I h0 hs ds acc' cs' z) h

theorem seq_step {a b : TSD} {D : DEnds} {cs : CS} (P : CS → Prop) (h : ∀ N : CS → Prop, (∀ cs', P cs' → N cs') → a { D with nx := N } cs) (h2 : ∀ cs', P cs' → b D cs') : t_seq a b D cs := h _ h2
theorem cut_take (xs : List PyData) (k : Nat) : cutD xs none (some (k : Nat)) = xs.take k := by
  unfold cutD
  rw [HT.sIx_none, HT.sIx_nat, List.drop_zero, Nat.sub_zero]
  by_cases h : k ≤ xs.length
  · rw [Nat.min_eq_left h]
  · rw [Nat.min_eq_right (by omega), List.take_length, List.take_of_length_le (by omega)]
theorem cut_drop (xs : List PyData) (k : Nat) : cutD xs (some (k : Nat)) none = xs.drop k := by
  unfold cutD
  rw [HT.sIx_none, HT.sIx_nat]
  by_cases h : k ≤ xs.length
  · rw [Nat.min_eq_left h, List.take_of_length_le (by simp)]
  · rw [Nat.min_eq_right (by omega), List.drop_length, List.drop_of_length_le (by omega)]
    simp

theorem lcD_filter {vs : List Nat} {gt : TGD} {tt : TTD} {te : TVD} {Q : List PyData → CS → Prop} (p : PyData → Bool) (f : PyData → PyData) (S : CS) : ∀ (ds acc : List PyData), acc.length + ds.length ≤ sizeLine →
    (∀ d ∈ ds, ∀ (K : PyData → CS → Prop) (N : CS → Prop), (p d = true → K (f d) S) → (p d = false → N S) → gt (.dat d) S fun cs1 => tt cs1 fun b cs2 => if b = true then te cs2 (fun y cs3 => K y (wipeC cs3 vs)) else N (wipeC cs2 vs)) →
    Q (acc ++ (ds.filter p).map f) S → lcD vs gt tt te Q ds acc S
  | [], acc, _, _, h => by
    simp only [List.filter_nil, List.map_nil, List.append_nil] at h
    exact h
  | d :: ds, acc, hl, hs, h => by
    rw [List.length_cons] at hl
    refine hs d List.mem_cons_self (fun y cs => acc.length < sizeLine ∧ lcD vs gt tt te Q ds (acc ++ [y]) cs) (fun cs => lcD vs gt tt te Q ds acc cs) (fun hp => ⟨by omega, ?_⟩) fun hp => ?_
    · refine lcD_filter p f S ds (acc ++ [f d]) (by rw [List.length_append, List.length_singleton]; omega) (fun x hx => hs x (List.mem_cons_of_mem _ hx)) ?_
      rw [List.filter_cons_of_pos hp, List.map_cons] at h
      simpa using h
    · refine lcD_filter p f S ds acc (by omega) (fun x hx => hs x (List.mem_cons_of_mem _ hx)) ?_
      rw [List.filter_cons_of_neg (by simp [hp])] at h
      exact h
theorem lcD_map {vs : List Nat} {gt : TGD} {tt : TTD} {te : TVD} {Q : List PyData → CS → Prop} (f : PyData → PyData) (S : CS) (ds : List PyData) (hl : ds.length ≤ sizeLine)
    (hs : ∀ d ∈ ds, ∀ (K : PyData → CS → Prop) (N : CS → Prop), K (f d) S → gt (.dat d) S fun cs1 => tt cs1 fun b cs2 => if b = true then te cs2 (fun y cs3 => K y (wipeC cs3 vs)) else N (wipeC cs2 vs)) (h : Q (ds.map f) S) : lcD vs gt tt te Q ds [] S :=
  lcD_filter (fun _ => true) f S ds [] (by simpa using hl) (fun d hd K N h1 _ => hs d hd K N (h1 rfl)) (by rw [List.nil_append, List.filter_eq_self.mpr (fun _ _ => rfl)]; exact h)
theorem rangeD_len {n : Int} : (rangeD 0 n).length = n.toNat := by simp [rangeD]
end Cl

namespace Cl
open PySem PySem.Spec PyProof.Rows L2
/-- the law at a script -/
theorem law_want {K : KW} {C : TF} {H : Hp} {a : Addr} {ns : List Int} (only : Only H) (hS : SqL K H a (ns.map V.int)) (hC : C [.scr ns] fun sv => sv = .dat (.bool true)) :
    spD K (ZPu []) 1 C [.ref a] H (fun v _ => v = .bl true) fun _ _ _ => False := by
  refine ⟨rfl, [.scr ns], ⟨fun b => ∃ o, H b = some o, fun _ => none⟩, .cons ⟨a, rfl, ?_⟩ .nil, fun sv hm => ?_, ⟨fun b t e => (by cases e), (fun b h => ⟨h, rfl⟩), fun _ => none, .inr (.inl ⟨rfl, fun p hp => by cases hp⟩), fun _ _ e => e⟩, _, hC, fun sv v g' H' e _ r _ _ => ?_⟩
  · rcases hS with h | h
    · rcases h with h | ⟨o, h⟩
      · rcases only a with z | ⟨ob, xs, z⟩
        · rw [h] at z; cases z
        · rw [h] at z; cases z
      · exact .inl ⟨⟨_, h⟩, o, h⟩
    · exact .inr h
  · rw [List.mem_singleton] at hm; subst hm; rfl
  · subst e
    cases r
    rfl
end Cl

namespace Cl
open PySem PySem.Spec PyProof.Rows L2

/-! ### order of data that are alike -/
def alk (x y : PyData) : Prop := PySem.W.alike x y = true ∧ x ≠ .none ∧ min x.depth y.depth ≤ 60
def ltY : OpX := fun x y Q => match x, y with
  | .int i, .int j => Q (.dat (.bool (decide (i < j))))
  | x, y => alk x y ∧ Q (.dat (.bool (PySem.W.dataLt x y)))
def gtY : OpX := fun x y Q => match x, y with
  | .int i, .int j => Q (.dat (.bool (decide (j < i))))
  | x, y => alk x y ∧ Q (.dat (.bool (PySem.W.dataLt y x)))
section
variable {X : Cx}
theorem oy_gt (hu : X.A.units + 64 < cLine) : OpR X (compareOp .Gt) (rO X.kw gtY) := by
  rintro pins s σ H x y v u Q I rx ry ⟨fz, d, e, hd, he, Q', q, k⟩
  have gen : alk d e ∧ Q' (.dat (.bool (PySem.W.dataLt e d))) → wpAny (model X.prog X.w) X.A (compareOp .Gt v u) (EP X pins σ Q) X.xe s := fun ⟨⟨a1, a2, a3⟩, q⟩ => by
    obtain ⟨as, r1, _⟩ := RB.reads I hd rx
    obtain ⟨bs, r2, _⟩ := RB.reads I he ry
    exact PySem.W.gt_data r1 r2 a1 a2 (by omega) ⟨.bl _, H, I, rfl, k _ _ _ q (.same (.bl _))⟩
  cases d with
  | int i =>
    cases e with
    | int j =>
      cases hd.int; cases he.int
      exact op_gt pins s σ H _ _ v u Q I rx ry ⟨i, j, rfl, rfl, k _ _ _ q (.same (.bl _))⟩
    | _ => exact gen q
  | _ => cases e <;> exact gen q
end

/-! ### x in l, x not in l -/
def inB (d : PyData) (ds : List PyData) : Bool := ds.any fun z => PyData.eqv z d
def inOk (d : PyData) (ds : List PyData) : Prop := PyData.canLayAll0 ds = true ∧ d.canLay0 = true ∧ min (PyData.depthAll ds) d.depth ≤ 60
def inX : OpX := fun x y Q => match y with
  | .list ds => inOk x ds ∧ Q (.dat (.bool (inB x ds)))
  | .tuple ds => inOk x ds ∧ Q (.dat (.bool (inB x ds)))
  | .str z => ∃ c, x = .str ⟨#[c]⟩ ∧ Q (.dat (.bool (decide (c ∈ z.cps.toList))))
  | _ => False
def notinX : OpX := fun x y Q => match y with
  | .list ds => inOk x ds ∧ Q (.dat (.bool (!inB x ds)))
  | .tuple ds => inOk x ds ∧ Q (.dat (.bool (!inB x ds)))
  | .str z => ∃ c, x = .str ⟨#[c]⟩ ∧ Q (.dat (.bool (!decide (c ∈ z.cps.toList))))
  | _ => False
section
variable {X : Cx}
end

/-! ### ord, bool -/
def ordX : C1X := fun d Q => match d with
  | .str z => z.length = 1 ∧ Q (.dat (.int (z.cps.getD 0 0 : Nat)))
  | _ => False
def boolX : C1X := fun d Q => match d with
  | .int i => Q (.dat (.bool (i != 0)))
  | .bool b => Q (.dat (.bool b))
  | _ => False
section
variable {X : Cx}
end
end Cl

namespace Cl
open PySem PySem.Spec PyProof.Rows L2

/-! ### a dict display as a box -/
structure DXP (X : Cx) (ZP : ZT) (pos : Pos) (keys : List (Option Expr)) (values : List Expr) (ks : List Str) (t : TSA) : Prop where
  ex : ∃ trs, PPs X pos keys values trs ∧ ∀ σ H Q, tX X.kw ZP t σ H (fun vs H' => vs.length = ks.length ∧ Q ((ks.map V.str).zip vs) H') → tPairs trs σ H Q
section
variable {X : Cx} {ZP : ZT} {pos kpos : Pos} {keys : List (Option Expr)} {values : List Expr} {ks : List Str} {ts : TSA} {td : TD} {e : Expr} {x : Str} {j : Nat}
end
section
variable {X : Cx} {keys : List (Option Expr)} {es : List Expr} {ks : List Str} {ts : TSA} {p pos : Pos} {t : Nat}
def t_retdbox (t : Nat) (fs : List RF) (ts : TSA) : TSD := fun D cs => ts cs fun svs _ => BoxOk fs svs ∧ D.rt (.raw t)
end
end Cl

/-! exceptions of the program's own classes -/
namespace Cl
open PySem PySem.Spec PyProof.Rows L2

/-! ### Base.__init__(self, ..), Base a class of the program over ValueError -/
structure BaseC (K : PySem.W.Frag) (C0 : Addr) : Prop where
  sp : PySem.W.specialIn K (.ref C0) "__getattribute__" = some (some (.builtin "type.__getattribute__"))
  rd : PySem.W.readsIn K C0 (.type "type") = true
  ini : PySem.W.findCls K (.ref C0) (.type "type") "__init__" = some (.val (.builtin "ValueError.__init__"))
section
variable {X : Cx} {e : Expr} {es : List Expr} {ta : TA} {x : Str} {C0 : Addr} {p1 p2 pos : Pos}
end
end Cl

namespace Cl
open PySem PySem.Spec PyProof.Rows L2

/-! ### __init__(self, given): Base.__init__(self, text); self.f = given -/
def spI (C : Addr) (f : Str) : Sp := fun vs H Q _ => ∃ a v, vs = [.ref a, v] ∧ H a = some (exo a C none) ∧ ∀ dx, H dx = none → dx ≠ a → Q .non (upd (upd H dx (exd dx [(f, v)])) a (exo a C (some dx)))
section
variable {X : Cx} {x f : Str} {C C0 : Addr} {self given : Str} {m : Str} {p1 p2 p3 p4 p5 p6 p7 p8 p9 : Pos} {j : Nat}
end
/-- the class whose __init__ is that -/
structure Exc1 (X : Cx) (x f : Str) (C : Addr) (k : Nat) : Prop where
  T : OexC X.kw C
  fI : ∃ (fi : Addr) (fd : FuncData), PySem.W.findIn X.kw (.ref C) "__init__" = some (some (.ref fi)) ∧ PySem.W.typeIn X.kw (.ref fi) = some (.type "function") ∧ FnOk X.prog X.w X.kw X.mg X.base CX0 k fi fd ["self", f] (spI C f) ∧ Binds X.kw fd ["self", f] []
  g : X.mg x = some (.ref C)
section
variable {X : Cx} {x f : Str} {C : Addr} {k : Nat} {e : Expr} {te : TE} {p pos : Pos}
end

/-! ### exceptions by value: the class by its number -/
structure EV where
  cls : Nat
  fs : List (Str × PyData)
section
variable {X : Cx} {ca : Nat → Addr} {ZP : ZT} {x f : Str} {n : Nat} {k : Nat} {e : Expr} {tv : TVD} {p pos pos' : Pos} {E : EV → CS → Prop}
def t_raise1 (E : EV → CS → Prop) (n : Nat) (f : Str) (tv : TVD) : TSD := fun _ cs => tv cs fun d cs1 => E ⟨n, [(f, d)]⟩ cs1
end

/-! ### contracts with exceptions -/
abbrev TX := List SV → (SV → Prop) → (EV → Prop) → Prop
/-- f(e, ..), f may raise -/
def t_callX (E : EV → CS → Prop) (C : TX) (t : TSA) : TD := fun cs Q => t cs fun svs cs1 => C svs (fun sv => Q sv cs1) fun ev => E ev cs1
section
variable {X : Cx} {ca : Nat → Addr} {ZP : ZT} {k n m : Nat} {f : Addr} {fd : FuncData} {ps ks : List Str} {x : Str} {p pos : Pos} {e : Expr} {es : List Expr} {kw : Keyword} {kws : List Keyword} {C : TX} {t tk : TSA} {E : EV → CS → Prop}
  {gg : List Value → List Value → List Value} {gV : List V → List V → List V} {gS : List SV → List SV → List SV}
end
end Cl

namespace Cl
open PySem PySem.Spec PyProof.Rows L2

/-! ### calls with keywords of a def that may raise -/
section
variable {X : Cx} {ca : Nat → Addr} {ZP : ZT} {k n m : Nat} {f : Addr} {fd : FuncData} {ps ks : List Str} {sp : Sp} {W : WX} {x : Str} {p pos : Pos} {e : Expr} {es : List Expr} {kws : List Keyword} {C : TX} {ta tka : TA} {t tk : TSA} {E : EV → CS → Prop}
  {gg : List Value → List Value → List Value} {gV : List V → List V → List V} {gS : List SV → List SV → List SV}
def t_callKX (E : EV → CS → Prop) (gS : List SV → List SV → List SV) (m mk : Nat) (C : TX) (t tk : TSA) : TD := fun cs Q => t cs fun svs cs1 => tk cs1 fun zvs cs2 => (svs.length = m ∧ zvs.length = mk) ∧ C (gS svs zvs) (fun sv => Q sv cs2) fun ev => E ev cs2
end

/-! ### statements at a def's top: what comes behind is told from the def's start -/
def tS0 (K : KW) (ZP : ZT) (t : TSD) : TS := fun D σ H => ∃ B cs g, Rel K ZP B g H cs σ ∧ ∃ D', t D' cs ∧ SPost K ZP B B.2 B.1 D' D
structure DS0 (X : Cx) (ZP : ZT) (st : Stmt) (t : TSD) : Prop where
  ps : PS X st (tS0 X.kw ZP t)
structure DSs0 (X : Cx) (ZP : ZT) (st : List Stmt) (t : TSD) : Prop where
  pss : PSs X st (tS0 X.kw ZP t)
section
variable {X : Cx} {ZP : ZT} {st : Stmt} {sts rest : List Stmt} {t u : TSD}
end

/-! ### a def that may raise -/
def runX (t : (EV → CS → Prop) → TSD) (N : List Str) (n : Nat) : TX := fun svs Q E => svs.length = n ∧ t (fun ev _ => E ev) { nx := fun _ => Q (.dat .none), rt := Q } (initC N svs)
section
variable {P : Program} {w : World} {K : KW} {mg : Str → Option Value} {base : Heap} {zp : ZF} {ca : Nat → Addr}
end
end Cl

/-! try, the caught exception's fields, its classes -/
namespace Cl
open PySem PySem.Spec PyProof.Rows L2

/-! ### try: body, except x as e: suite -/
section
variable {X : Cx} {ca : Nat → Addr} {ZP : ZT} {x nm : Str} {c : Value} {i : Nat} {sub : Nat → Option Bool} {body suite : List Stmt} {b₀ : Stmt} {np pos pos' : Pos} {tb : (EV → CS → Prop) → TSD} {th : Addr → Nat → Option Addr → TSD} {E : EV → CS → Prop}
end

/-! ### e.f in the suite -/
def t_xf (n0 : Nat) (a : Addr) (n : Nat) (d : Option Addr) (f : Str) (i : Nat) : TVD := fun cs Q => n = n0 ∧ ∃ fs v, cs[i]? = some (some (.exc a n d fs)) ∧ fs.lookup f = some v ∧ Q v cs
section
variable {X : Cx} {ca : Nat → Addr} {ZP : ZT} {a : Addr} {oe : Obj} {n n0 : Nat} {d : Option Addr} {pn : List (Addr × Obj)} {x f : Str} {i : Nat} {pos p2 : Pos}
end
/-! ### isinstance of a caught exception that has fields: a twin for any dict -/
section
open PySem.W PySem.Calls
variable {prog : Program} {w : World} {A : Around} {E : Value → Shared → Prop} {s : Shared} {K : PySem.W.Frag} {x D : Addr} {ox : Obj} {od : Option Obj}
end
def t_isx (sub : Nat → Option Bool) (a : Addr) (n : Nat) (d : Option Addr) (i : Nat) : TVD := fun cs Q => ∃ b fs, sub n = some b ∧ cs[i]? = some (some (.exc a n d fs)) ∧ Q (.bool b) cs
section
variable {X : Cx} {ca : Nat → Addr} {ZP : ZT} {a : Addr} {oe : Obj} {n : Nat} {d : Option Addr} {pn : List (Addr × Obj)} {x y : Str} {i : Nat} {pos p2 p3 p : Pos} {sub : Nat → Option Bool} {v : V} {cv : Value}
end
end Cl

/-! len of the script; x[i] = e with its side conditions -/
namespace Cl
open PySem PySem.Spec PyProof.Rows L2
section
variable {X : Cx} {ZP : ZT} {pos p p2 : Pos} {x : Str}
def t_lenScr (i : Nat) : TVD := fun cs Q => ∃ ns, cs[i]? = some (some (.scr ns)) ∧ Q (.int ns.length) cs
variable {ie : Expr} {ti : TVD} {xpos : Pos}
theorem dgix (i : Nat) (h : DV X ZP ie ti) (hN : X.N[i]? = some x := by rfl) (hv : Vis X.env.scope x := by first | exact Or.inl rfl | exact Or.inr (Or.inl rfl) | exact Or.inr (Or.inr rfl)) (hd : (x == ("__debug__" : Str)) = false := by decide)
    (hcd : (x == ("__classdict__" : Str)) = false := by decide)
    (ha : ∀ v, assign (.Subscript (.Name x xpos) ie pos) X.env v = (do
      let ov ← holding [v] (eval (.Name x xpos) X.env)
      let iv ← holding [v, ov] (eval ie X.env)
      standAt pos
      holding [v, ov, iv] (setItem ov iv v)
      release [v, ov, iv] []) := by intro _; rfl) : DG X ZP (.Subscript (.Name x xpos) ie pos) (g_setix i ti) := dg_setix hN hv h hd hcd ha
end
end Cl

/-! tuple * 1; a def that may raise, but does not; the law's end for it -/
namespace Cl
open PySem PySem.Spec PyProof.Rows L2
theorem mul_one {l : Addr} {its : Array Value} {n : Nat} {dd : Option Addr} {sl : Array (Option Value)} {u : Tok} :
    Meets (Builtin.«tuple.__mul__» ⟨[.ref l, .int 1 u], []⟩) (fun _ R s => s.heap.get? l = some { cls := .type "tuple", dict := dd, data := .seq its n, slots := sl } ∧ R (.ok (.ret (Value.ref l))) s) :=
  .of_wp fun prog w A R s h => by
    obtain ⟨hp, g, d, tk, os⟩ := s
    obtain ⟨hl, h⟩ := h
    have f1 := AutoSeq1.idx_int
    wp_walk using wpAny_loadPart' hl
    repeat (first
      | (refine wpAny_ite_false (by decide) ?_; wp_walk using wpAny_loadPart' hl)
      | (refine wpAny_ite_true (by simp) ?_; wp_walk using wpAny_loadPart' hl))
    exact ⟨_, rfl, h⟩
theorem op_rep1 {X : Cx} : OpR X (binaryOp .Mult) (fun x y H Q => ∃ l xs, x = .ref l ∧ y = .int 1 ∧ SqT X.kw H l xs ∧ Q (.ref l) H) := by
  rintro pins s σ H x y v u Q I rx ry ⟨l, xs, rfl, rfl, hT, q⟩
  cases rx
  obtain ⟨t, rfl⟩ := ry
  obtain ⟨its, r, ⟨⟨cls, dd, data, sl⟩, ho, hc, n, hd⟩, hs⟩ := I.tuple hT
  simp only at hc hd
  subst hc hd
  exact wpAny_binaryOp_repeat_ref (T := "tuple") (U := "int") (by decide) ⟨_, ho, rfl⟩ (fun s' => typeIs_int s' 1 t) noFill_tuple_mul F.fills_int_mul F.slot_int_rmul repeat_tuple F.slot_int_index.lookup
    (call_meets F.slot_int_rmul (typeIs_int s 1 t) F.entry_int_rmul (F.args_int_rmul_2 _ _) (int_rmul_tuple 1 t l its.toArray n dd sl)
      ⟨ho, rfl, ⟨_, ho, rfl⟩, call_meets F.slot_tuple_mul ⟨_, ho, rfl⟩ F.entry_tuple_mul (F.args_tuple_mul_2 _ _) mul_one ⟨ho, ⟨.ref l, H, I, rfl, q⟩⟩⟩)
/-- *, a tuple once too -/
def mulY : OpX := fun x y Q => match x, y with
  | .tuple xs, .int k => if k = 1 then Q (.dat (.tuple xs)) else mulX (.tuple xs) (.int k) Q
  | x, y => mulX x y Q
theorem oy_mul {X : Cx} : OpR X (binaryOp .Mult) (rO X.kw mulY) := by
  rintro pins s σ H x y v u Q I rx ry ⟨fz, d, e, hd, he, Q', q, k⟩
  have old : mulX d e Q' → wpAny (model X.prog X.w) X.A (binaryOp .Mult v u) (EP X pins σ Q) X.xe s := fun q => ox_mul pins s σ H x y v u Q I rx ry ⟨fz, d, e, hd, he, Q', q, k⟩
  cases d with
  | tuple xs =>
    cases e with
    | int j =>
      have q : (if j = 1 then Q' (.dat (.tuple xs)) else mulX (.tuple xs) (.int j) Q') := q
      by_cases hj : j = 1
      · rw [if_pos hj] at q
        subst hj
        obtain ⟨a, vs, rfl, ha, ra⟩ := hd.tup
        cases he.int
        exact op_rep1 pins s σ H _ _ v u Q I rx ry ⟨a, vs, rfl, rfl, ha.sq, k _ _ _ q (.same (.tup ha ra))⟩
      · rw [if_neg hj] at q
        exact old q
    | _ => exact old q
  | _ => cases e <;> exact old q
end Cl

/-! sum of a tuple, min and max of ints -/
namespace Cl
open PySem PySem.Spec PyProof.Rows L2
def sumY : C1X := fun d Q => match d with
  | .tuple xs => (match intsD xs with
    | some ns => Q (.dat (.int ns.sum))
    | none => False)
  | d => sumX d Q
theorem c_sumY {X : Cx} (hc : X.calm = true) : CallR X (.builtin "sum") (rC1 X.kw sumY) := by
  rintro pins s σ H xs us Q I r ⟨x, fz, d, rfl, hd, Q', q, k⟩
  cases d with
  | tuple ds =>
    obtain ⟨a, vs, rfl, h, ra⟩ := hd.tup
    cases e : intsD ds with
    | none => simp only [sumY, e] at q
    | some ns =>
      simp only [sumY, e] at q
      have hv := ra.intsOf e
      rw [hv] at h
      obtain ⟨its, rv, ht, _⟩ := I.tuple (h.sq)
      rw [Vals.ref1 r]
      have hi : IntsAre its ns := rv.ints
      obtain ⟨ys, ey⟩ := hi.allInts.items
      have hn : numsOf (intItems ys).toList = ns := by rw [← ey]; exact hi.numsOf
      rw [nums_intItems] at hn
      rw [ey] at ht
      refine PySem.W.ktm_sumG (I.ok.hd hc) ht fun h' tk t' hk => ?_
      rw [preSum_eq, List.take_of_length_le (by simp), hn]
      exact ⟨.int _, H, I.kept hk, ⟨_, rfl⟩, k _ _ _ q (.same (.int _))⟩
  | _ => exact c_sum hc pins s σ H _ us Q I r ⟨x, fz, _, rfl, hd, Q', q, k⟩
/-- the greatest, the least of some ints -/
def maxX : C1X := fun d Q => match d with
  | .list xs => (match intsD xs with
    | some ns => 0 < ns.length ∧ ∀ m, m ∈ ns → (∀ y, y ∈ ns → y ≤ m) → Q (.dat (.int m))
    | none => False)
  | _ => False
def minX : C1X := fun d Q => match d with
  | .list xs => (match intsD xs with
    | some ns => 0 < ns.length ∧ ∀ m, m ∈ ns → (∀ y, y ∈ ns → m ≤ y) → Q (.dat (.int m))
    | none => False)
  | _ => False
theorem c_min {X : Cx} (hc : X.calm = true) : CallR X (.builtin "min") (rC1 X.kw minX) := by
  rintro pins s σ H xs us Q I r ⟨x, fz, d, rfl, hd, Q', q, k⟩
  cases d with
  | list ds =>
    obtain ⟨a, vs, rfl, h, ra⟩ := hd.lst
    cases e : intsD ds with
    | none => simp only [minX, e] at q
    | some bs =>
      simp only [minX, e] at q
      exact cr_min hc pins s σ H _ us Q I r ⟨a, bs, rfl, SqL.of (by rw [← ra.intsOf e]; exact h), q.1, fun m h1 h2 => k _ _ _ (q.2 m h1 h2) (.same (.int _))⟩
  | _ => exact q.elim
end Cl

/-! what the top says of the classes of errors -/
namespace Cl
open PySem PySem.Spec PyProof.Rows L2
end Cl

/-! dicts of the frame's own whose keys are tuples of ints and texts -/
namespace Cl
open PySem PySem.Spec PyProof.Rows L2

/-! ### keys -/
def keyOf : PyData → Option Key
  | .int i => some (.inl i)
  | .str x => some (.inr x)
  | _ => none
def keysOf : List PyData → Option (List Key)
  | [] => some []
  | d :: ds => match keyOf d, keysOf ds with
    | some k, some ks => some (k :: ks)
    | _, _ => none
def keyD : PyData → Option (List Key)
  | .tuple ds => keysOf ds
  | _ => none
def datK : Key → PyData
  | .inl i => .int i
  | .inr x => .str x
/-! ### what a dict holds -/
abbrev KD := List (List Key × PyData)
def getP (kvs : KD) (k : List Key) : Option PyData := (kvs.find? fun kv => decide (kv.1 = k)).map (·.2)
def putP (kvs : KD) (k : List Key) (d : PyData) : KD :=
  if (kvs.any fun kv => decide (kv.1 = k)) = true then kvs.map (fun kv => if kv.1 = k then (kv.1, d) else kv) else kvs ++ [(k, d)]
section
variable {K : KW} {H : Hp} {fz : Addr → Prop}
end

/-! ### an own object is changed -/
section
variable {K : KW} {ZP : ZT} {B : Bs} {g : GW} {H : Hp} {cs : CS} {σ : L2.St}
theorem Rel.updObj {i : Nat} {o o2 : OwnC} {a : Addr} {u : HO} (R : Rel K ZP B g H cs σ) (e1 : cs[i]? = some (some (.obj o))) (e2 : σ[i]? = some (some (.ref a)))
    (r : RS K g (upd H a u) (.obj o2) (.ref a)) : Rel K ZP B g (upd H a u) (cs.set i (some (.obj o2))) σ ∧ Frm (ow cs σ) g H g (upd H a u) ∧ (∀ b, ow (cs.set i (some (.obj o2))) σ b → ow cs σ b) := by
  obtain ⟨v, e3, r1⟩ := R.slot i _ e1
  rw [e2] at e3; cases e3
  obtain ⟨b, u0, eb, h, n1, n2, nt⟩ := r1.ownAt
  cases eb
  obtain ⟨f, fz, zo⟩ := R.updAt (o' := u) (w := Foot (.obj o) (.ref a)) h (tpn h nt) n1 n2 rfl
  exact R.upd1 e1 e2 f r zo fz fun _ h => h
end

/-! ### the rules -/
section
variable {X : Cx} {ZP : ZT} {x : Str} {pos xpos apos cpos pos' : Pos} {i : Nat} {e f : Expr} {tk tx : TVD}
def t_dnew : TD := fun cs Q => Q (.dic []) cs
/-- d.get(k, x) -/
def t_dget2 (i : Nat) (tk tx : TVD) : TVD := fun cs Q => (∃ kvs, cs[i]? = some (some (.dic kvs))) ∧ tk cs fun k cs1 => tx cs1 fun d cs2 => ∃ kvs ks, cs2[i]? = some (some (.dic kvs)) ∧ keyD k = some ks ∧ Q ((getP kvs ks).getD d) cs2
/-- k in d, k not in d -/
def t_din (b : Bool) (i : Nat) (tk : TVD) : TD := fun cs Q => tk cs fun k cs1 => ∃ kvs ks, cs1[i]? = some (some (.dic kvs)) ∧ keyD k = some ks ∧ Q (.dat (.bool (if b then (getP kvs ks).isSome else !(getP kvs ks).isSome))) cs1
/-- list(d), d a slot -/
def t_dlist (i : Nat) : TD := fun cs Q => ∃ kvs, cs[i]? = some (some (.dic kvs)) ∧ Q (.own (kvs.map fun kv => .tuple (kv.1.map datK))) cs
/-- d[k] = e -/
def t_dput (i : Nat) (tk tx : TVD) : TSD := fun D cs => tx cs fun d cs1 => (∃ kvs, cs1[i]? = some (some (.dic kvs))) ∧ tk cs1 fun k cs2 => ∃ kvs ks, cs2[i]? = some (some (.dic kvs)) ∧ keyD k = some ks ∧ kvs.length < sizeLine ∧ D.nx (cs2.set i (some (.dic (putP kvs ks d))))
end
end Cl

/-! starred arguments, sorted of data that are alike, len of a set of tuples, three names at once -/
namespace Cl
open PySem PySem.Spec PyProof.Rows L2
section
variable {X : Cx} {ZP : ZT} {e : Expr} {es : List Expr} {p pos : Pos} {va : TVD} {ts : TSA}
/-! ### f( *a, ..), [ *a, ..], ( *a, ..) -/
def t_astar (va : TVD) (u : TSA) : TSA := fun cs Q => va cs fun d cs1 => match seqOf d with
  | some ds => u cs1 fun svs cs2 => Q (ds.map .dat ++ svs) cs2
  | none => False
theorem rss_dat {K : KW} {g : GW} {H : Hp} : ∀ {ds : List PyData} {vs : List V}, RpAll K H g.fz ds vs → RSs K g H (ds.map .dat) vs
  | [], _, .nil => .nil
  | _ :: _, _, .cons r rs => .cons r (rss_dat rs)
theorem rss_append {K : KW} {g : GW} {H : Hp} : ∀ {a b : List SV} {vs ws : List V}, RSs K g H a vs → RSs K g H b ws → RSs K g H (a ++ b) (vs ++ ws)
  | _, _, _, _, .nil, s => s
  | _, _, _, _, .cons r t, s => .cons r (rss_append t s)
theorem da_star (h : DV X ZP e va) (r : DA X ZP es ts) (hs : starEach (.Starred e p :: es) X.env = (true, eval e X.env) :: starEach es X.env := by rfl) : DA X ZP (.Starred e p :: es) (t_astar va ts) := by
  refine ⟨PA.imp (StX.pa_star h.pe r.pa hs) ?_⟩
  rintro σ H Q ⟨B, cs, g, R, Q', q, k⟩
  refine ⟨B, cs, g, R, _, q, fun d cs1 v g1 H1 q1 R1 r1 s1 f1 => ?_⟩
  cases e1 : seqOf d with
  | none => rw [e1] at q1; exact q1.elim
  | some ds =>
    rw [e1] at q1
    obtain ⟨kk, a, xs, rfl, ra, hS, hst⟩ := Rp.src r1 e1
    refine ⟨a, xs, rfl, ?_, B, cs1, g1, R1, _, q1, fun svs cs2 vs g2 H2 q2 R2 r2 st s2 f2 => ?_⟩
    · cases kk with
      | lst => exact .inr (SqL.of hS)
      | tup => exact .inl hS
    · have ra2 := ra.frm f2 R1.fzow
      refine k _ cs2 _ g2 H2 q2 R2 (rss_append (rss_dat ra2) r2) (fun sv hm => ?_) (fun a h => s1 a (s2 a h)) (f1.trans (f2.mono fun a _ _ h => s1 a h))
      rcases List.mem_append.mp hm with hm | hm
      · obtain ⟨d, _, rfl⟩ := List.mem_map.mp hm
        rfl
      · exact st sv hm
end
theorem datsOf_app : ∀ (ds : List PyData) (svs : List SV), datsOf (ds.map .dat ++ svs) = (datsOf svs).map (ds ++ ·)
  | [], svs => by cases h : datsOf svs <;> simp [h]
  | d :: ds, svs => by
    show (datsOf (ds.map .dat ++ svs)).map (d :: ·) = _
    rw [datsOf_app ds svs]
    cases datsOf svs <;> rfl
/-! ### sorted(xs) -/
def sortOk (ds : List PyData) : Prop := PySem.W.AllAlike ds ∧ PySem.W.Sortable ds ∧ ds.length ≤ sizeLine ∧ ∀ d ∈ ds, d.depth ≤ 60
def sortD (ds : List PyData) : List PyData := ds.mergeSort (PySem.W.dataLe false fun d => d)
def sortedX : C1X := fun d Q => match d with
  | .list ds => sortOk ds ∧ Q (.own (sortD ds))
  | _ => False
/-! ### a, b, c = x, y, z -/
def t_par3 (i j l : Nat) (ta tb tc : TD) : TSD := fun D cs => ta cs fun sv cs1 => tb cs1 fun sw cs2 => tc cs2 fun sx cs3 => i < cs3.length ∧ j < cs3.length ∧ l < cs3.length ∧ D.nx (((cs3.set i (some sv)).set j (some sw)).set l (some sx))
section
variable {X : Cx} {ZP : ZT}
end
/-! ### len(set(xs)), xs a list of tuples of ints -/
section
variable {X : Cx} {ZP : ZT} {a : Expr} {ta : TE} {tl : TLD} {p p2 q pos : Pos}
def t_lenset (t : TLD) : TVD := fun cs Q => t cs fun l cs1 => ∃ nss : List (List Int), l.get cs1 = some (.list (nss.map fun ns => .tuple (ns.map .int))) ∧ nss.length < 64 ∧ ∀ L : List (List Int), L.Nodup → (∀ x ∈ L, x ∈ nss) → (∀ x ∈ nss, x ∈ L) → Q (.int L.length) cs1
end
end Cl

/-! zip of three; a, b = x, y with names that a comprehension uses -/
namespace Cl
open PySem PySem.Spec PyProof.Rows L2
def zipR3 : List V → List V → List V → List (List V)
  | x :: xs, y :: ys, w :: ws => [x, y, w] :: zipR3 xs ys ws
  | _, _, _ => []
theorem zipR3_len : ∀ (xs ys ws : List V), (zipR3 xs ys ws).length = min (min xs.length ys.length) ws.length
  | [], _, _ => by simp [zipR3]
  | _ :: _, [], _ => by simp [zipR3]
  | _ :: _, _ :: _, [] => by simp [zipR3]
  | x :: xs, y :: ys, w :: ws => by
    simp only [zipR3, List.length_cons, zipR3_len xs ys ws]
    omega
theorem zipR3_get : ∀ (xs ys ws : List V) (i : Nat) (x y w : V), xs[i]? = some x → ys[i]? = some y → ws[i]? = some w → (zipR3 xs ys ws)[i]? = some [x, y, w]
  | [], _, _, _, _, _, _, h, _, _ => by simp at h
  | _ :: _, [], _, _, _, _, _, _, h, _ => by simp at h
  | _ :: _, _ :: _, [], _, _, _, _, _, _, h => by simp at h
  | a :: xs, b :: ys, c :: ws, 0, x, y, w, h1, h2, h3 => by simp at h1 h2 h3; subst h1 h2 h3; rfl
  | a :: xs, b :: ys, c :: ws, i + 1, x, y, w, h1, h2, h3 => by
    simp only [zipR3, List.getElem?_cons_succ]
    exact zipR3_get xs ys ws i x y w (by simpa using h1) (by simpa using h2) (by simpa using h3)
theorem zipR3_sz : ∀ (xs ys ws : List V), ∀ r ∈ zipR3 xs ys ws, r.length ≤ sizeLine
  | [], _, _ => by simp [zipR3]
  | _ :: _, [], _ => by simp [zipR3]
  | _ :: _, _ :: _, [] => by simp [zipR3]
  | x :: xs, y :: ys, w :: ws => by
    intro r h
    rcases List.mem_cons.mp h with rfl | h
    · show 3 ≤ sizeLine; decide
    · exact zipR3_sz xs ys ws r h
theorem turn_zip3S {P : Program} {w : World} {K : PySem.W.Frag} {elts : List Expr} {kk : Nat} {tpos : Pos} (k1 k2 k3 : SrcK) (a b c : Addr) (n : Nat) (xs ys ws : List V) :
    Turn P w K (.Tuple elts kk tpos) (ItP (fun H => SrcS K k1 a xs H ∧ SrcS K k2 b ys H ∧ SrcS K k3 c ws H) (zipR3 xs ys ws)) [n + 5, n + 3, n + 4, n, n + 1, n + 2] (n + 5)
      (fun i h => IsZip h (n + 5) (n + 3) (n + 4) .none ∧ IsTupOf3 h (n + 3) (.ref n) (.ref (n + 1)) (.ref (n + 2)) ∧ (∃ x y z, IsTupOf3 h (n + 4) x y z) ∧ srcI k1 a n i h ∧ srcI k2 b (n + 1) i h ∧ srcI k3 c (n + 2) i h) := by
  refine turn_pairs (wr := [n + 5, n + 4, n, n + 1, n + 2]) (by simp) (fun b h => ?_) (zipR3_sz xs ys ws) ?_ ?_ ?_ ?_
  · have h : b = n + 5 ∨ b = n + 4 ∨ b = n ∨ b = n + 1 ∨ b = n + 2 := by simpa using h
    rcases h with rfl | rfl | rfl | rfl | rfl <;> simp
  · rintro i h ⟨hz, hT, ⟨x, y, z, hO⟩, h1, h2, h3⟩ c hc
    have hc : c = n + 5 ∨ c = n + 3 ∨ c = n + 4 ∨ c = n ∨ c = n + 1 ∨ c = n + 2 := by simpa using hc
    rcases hc with rfl | rfl | rfl | rfl | rfl | rfl
    · exact ⟨_, hz, fun v z => nomatch z⟩
    · exact ⟨_, hT, fun v z => nomatch z⟩
    · exact ⟨_, hO, fun v z => nomatch z⟩
    · exact src_obj h1
    · exact src_obj h2
    · exact src_obj h3
  · rintro i h h' ⟨hz, hT, ⟨x, y, z, hO⟩, h1, h2, h3⟩ hk
    exact ⟨hk (n + 5) (by simp) _ hz, hk (n + 3) (by simp) _ hT, ⟨x, y, z, hk (n + 4) (by simp) _ hO⟩, src_keep h1 fun o q => hk n (by simp) o q, src_keep h2 fun o q => hk (n + 1) (by simp) o q, src_keep h3 fun o q => hk (n + 2) (by simp) o q⟩
  · rintro X rfl rfl rfl hc pins s σ H i I hf ⟨hS1, hS2, hS3⟩ ⟨hz, hT, hO, h1, h2, h3⟩
    obtain ⟨its1, rv1, g1, _⟩ := src_its I hS1
    obtain ⟨its2, rv2, g2, _⟩ := src_its I hS2
    obtain ⟨its3, rv3, g3, _⟩ := src_its I hS3
    have fz := hf (n + 5) (by simp)
    have fTO := hf (n + 4) (by simp)
    have f1 := hf n (by simp)
    have f2 := hf (n + 1) (by simp)
    have f3 := hf (n + 2) (by simp)
    have D1 := src_draws (P := X.prog) (w := X.w) (A := X.A.in1) (k := k1) (I.ok.hd hc) (src_ne I f1 hS1) its1.toArray
    have D2 := src_draws (P := X.prog) (w := X.w) (A := X.A.in1) (k := k2) (I.ok.hd hc) (src_ne I f2 hS2) its2.toArray
    have D3 := src_draws (P := X.prog) (w := X.w) (A := X.A.in1) (k := k3) (I.ok.hd hc) (src_ne I f3 hS3) its3.toArray
    have q : ∀ (i j : Nat), i ≠ j → n + i ≠ n + j := fun i j h => by omega
    have ne : ∀ {x y : Addr}, (show Nat from x) ≠ (show Nat from y) → x ≠ y := fun h => h
    have Z : ZipSep3 (n + 5) (n + 3) (n + 4) n (n + 1) (n + 2) [n, a] [n + 1, b] [n + 2, c] :=
      { TIz := ne (show n + 3 ≠ n + 5 by omega), TOz := ne (show n + 4 ≠ n + 5 by omega), TITO := ne (show n + 3 ≠ n + 4 by omega),
        TIi1 := ne (show n + 3 ≠ n by omega), mem1 := by simp, zf1 := by
          rw [List.mem_cons, List.mem_singleton, not_or]; exact ⟨ne (show n + 5 ≠ n by omega), (src_ne I fz hS1).symm⟩
        Tf1 := by rw [List.mem_cons, List.mem_singleton, not_or]; exact ⟨ne (show n + 4 ≠ n by omega), (src_ne I fTO hS1).symm⟩
        TIi2 := ne (show n + 3 ≠ n + 1 by omega), mem2 := by simp, zf2 := by
          rw [List.mem_cons, List.mem_singleton, not_or]; exact ⟨ne (show n + 5 ≠ n + 1 by omega), (src_ne I fz hS2).symm⟩
        Tf2 := by rw [List.mem_cons, List.mem_singleton, not_or]; exact ⟨ne (show n + 4 ≠ n + 1 by omega), (src_ne I fTO hS2).symm⟩
        TIi3 := ne (show n + 3 ≠ n + 2 by omega), mem3 := by simp, zf3 := by
          rw [List.mem_cons, List.mem_singleton, not_or]; exact ⟨ne (show n + 5 ≠ n + 2 by omega), (src_ne I fz hS3).symm⟩
        Tf3 := by rw [List.mem_cons, List.mem_singleton, not_or]; exact ⟨ne (show n + 4 ≠ n + 2 by omega), (src_ne I fTO hS3).symm⟩
        sep1_2 := by rw [List.mem_cons, List.mem_singleton, not_or]; exact ⟨ne (show n ≠ n + 1 by omega), (src_ne I f1 hS2).symm⟩
        sep1_3 := by rw [List.mem_cons, List.mem_singleton, not_or]; exact ⟨ne (show n ≠ n + 2 by omega), (src_ne I f1 hS3).symm⟩
        sep2_1 := by rw [List.mem_cons, List.mem_singleton, not_or]; exact ⟨ne (show n + 1 ≠ n by omega), (src_ne I f2 hS1).symm⟩
        sep2_3 := by rw [List.mem_cons, List.mem_singleton, not_or]; exact ⟨ne (show n + 1 ≠ n + 2 by omega), (src_ne I f2 hS3).symm⟩
        sep3_1 := by rw [List.mem_cons, List.mem_singleton, not_or]; exact ⟨ne (show n + 2 ≠ n by omega), (src_ne I f3 hS1).symm⟩
        sep3_2 := by rw [List.mem_cons, List.mem_singleton, not_or]; exact ⟨ne (show n + 2 ≠ n + 1 by omega), (src_ne I f3 hS2).symm⟩ }
    have G := zip3X (elts := elts) (x1 := kk) (pos := tpos) Z D1 D2 D3
    rw [show min (min its1.toArray.size its2.toArray.size) its3.toArray.size = (zipR3 xs ys ws).length by rw [zipR3_len, List.size_toArray, List.size_toArray, List.size_toArray, rv1.length, rv2.length, rv3.length]] at G
    refine ⟨_, _, G.mono ?_, ⟨hz, hT, hO, ⟨h1, g1⟩, ⟨h2, g2⟩, h3, g3⟩, ?_⟩
    · rintro j h0 v h hj ⟨T, x, y, u, rfl, hT, hx, hy, hu, ht⟩
      have hx : its1[j]? = some x := by simpa using hx
      have hy : its2[j]? = some y := by simpa using hy
      have hu : its3[j]? = some u := by simpa using hu
      rw [zipR3_len] at hj
      have hj1 : j < xs.length := by omega
      have hj2 : j < ys.length := by omega
      have hj3 : j < ws.length := by omega
      obtain ⟨u1, e1, ru1⟩ := rv1.get (List.getElem?_eq_getElem hj1)
      obtain ⟨u2, e2, ru2⟩ := rv2.get (List.getElem?_eq_getElem hj2)
      obtain ⟨u3, e3, ru3⟩ := rv3.get (List.getElem?_eq_getElem hj3)
      rw [hx] at e1; cases e1
      rw [hy] at e2; cases e2
      rw [hu] at e3; cases e3
      exact ⟨T, [x, y, u], [xs[j], ys[j], ws[j]], rfl, hT, zipR3_get xs ys ws j _ _ _ (List.getElem?_eq_getElem hj1) (List.getElem?_eq_getElem hj2) (List.getElem?_eq_getElem hj3), .cons ru1 (.cons ru2 (.cons ru3 .nil)), ht⟩
    · rintro j h ⟨hz, hT, hO, ⟨h1, _⟩, ⟨h2, _⟩, h3, _⟩
      exact ⟨hz, hT, hO, h1, h2, h3⟩
  · rintro A i s Q E ⟨hz, _⟩ q
    exact wpAny_pyIter_zip hz q
def iZip3S (K : PySem.W.Frag) (ta : TA) : TI := fun σ H R => ta σ H fun vs H1 => ∃ k1 k2 k3 a b c xs ys ws, vs = [.ref a, .ref b, .ref c] ∧ SrcS K k1 a xs H1 ∧ SrcS K k2 b ys H1 ∧ SrcS K k3 c ws H1 ∧ R (ItP (fun H => SrcS K k1 a xs H ∧ SrcS K k2 b ys H ∧ SrcS K k3 c ws H) (zipR3 xs ys ws)) H1
theorem three_of {x y z : V} {us : List Value} (r : Vals [x, y, z] us) : ∃ u w t, us = [u, w, t] ∧ RelV x u ∧ RelV y w ∧ RelV z t := by
  cases r with
  | cons p q =>
    cases q with
    | cons p' q' =>
      cases q' with
      | cons p'' q'' =>
        cases q''
        exact ⟨_, _, _, rfl, p, p', p''⟩
theorem pi_zip3S {X : Cx} {e e2 e3 : Expr} {ta : TA} {p pos tpos : Pos} {elts : List Expr} {kk : Nat} (hg : Gl X "zip") (hm : X.mg "zip" = none) (ha : PA X [e, e2, e3] ta)
    (hs : starEach [e, e2, e3] X.env = (false, eval e X.env) :: starEach [e2, e3] X.env := by rfl) (hpl : (backTo pos (starEach [e2, e3] X.env)).any (·.1) = false := by rfl) :
    PI X (.Tuple elts kk tpos) (.Call (.Name "zip" p) [e, e2, e3] [] pos) (iZip3S X.K ta) := by
  constructor
  intro pins s σ H R I h
  refine Call_ (ld_blt I hg hm PyProof.Rows.boot_zip (PyProof.Rows.callWith_type1 (thn (ha.run pos pins s σ H _ I h) ?_) hs hpl))
  rintro us s1 ⟨vs, H1, I1, r1, k1, k2, k3, a, b, c, xs, ys, ws, rfl, hS1, hS2, hS3, q⟩
  obtain ⟨u1, u2, u3, rfl, q1, q2, q3⟩ := three_of r1
  cases q1; cases q2; cases q3
  obtain ⟨its1, rv1, g1, _⟩ := src_its I1 hS1
  obtain ⟨its2, rv2, g2, _⟩ := src_its I1 hS2
  obtain ⟨its3, rv3, g3, _⟩ := src_its I1 hS3
  refine zip_begins3 (src_begins k1 a its1.toArray) (src_begins k2 b its2.toArray) (src_begins k3 c its3.toArray) g1 g2 g3 fun h' hz hTI hTO e1 e2 e3 hsz hk => wpAny_pyIter_zip hz ?_
  have I2 : Inv X pins σ H1 { s1 with heap := h' } := I1.kept (t' := s1.toks) hk
  refine ⟨s1.heap.objs.size + 5, [s1.heap.objs.size + 5, s1.heap.objs.size + 3, s1.heap.objs.size + 4, s1.heap.objs.size, s1.heap.objs.size + 1, s1.heap.objs.size + 2], _, _, H1, rfl, I2, turn_zip3S k1 k2 k3 a b c s1.heap.objs.size xs ys ws, ⟨hz, hTI, ⟨_, _, _, hTO⟩, src_start e1, src_start e2, src_start e3⟩, fun c hc => ?_, q⟩
  have hle : s1.heap.objs.size ≤ c := by
    have hc : c = s1.heap.objs.size + 5 ∨ c = s1.heap.objs.size + 3 ∨ c = s1.heap.objs.size + 4 ∨ c = s1.heap.objs.size ∨ c = s1.heap.objs.size + 1 ∨ c = s1.heap.objs.size + 2 := by simpa using hc
    rcases hc with rfl | rfl | rfl | rfl | rfl | rfl
    · exact Nat.le_add_right _ _
    · exact Nat.le_add_right _ _
    · exact Nat.le_add_right _ _
    · exact Nat.le_refl _
    · exact Nat.le_add_right _ _
    · exact Nat.le_add_right _ _
  exact I1.fpOk hle (I1.hok.fresh hle)
def zipRs3 : List PyData → List PyData → List PyData → List (List PyData)
  | x :: xs, y :: ys, w :: ws => [x, y, w] :: zipRs3 xs ys ws
  | _, _, _ => []
theorem zipRs3_ok {K : KW} {H : Hp} {fz : Addr → Prop} : ∀ {ds es fs : List PyData} {vs ws us : List V}, RpAll K H fz ds vs → RpAll K H fz es ws → RpAll K H fz fs us → (zipRs3 ds es fs).length = (zipR3 vs ws us).length ∧
    ∀ (i : Nat) (r : List PyData) (us' : List V), (zipRs3 ds es fs)[i]? = some r → (zipR3 vs ws us)[i]? = some us' → RpAll K H fz r us'
  | [], _, _, _, _, _, .nil, _, _ => ⟨rfl, fun i r us h => by simp [zipRs3] at h⟩
  | _ :: _, [], _, _, _, _, .cons _ _, .nil, _ => ⟨rfl, fun i r us h => by simp [zipRs3] at h⟩
  | _ :: _, _ :: _, [], _, _, _, .cons _ _, .cons _ _, .nil => ⟨rfl, fun i r us h => by simp [zipRs3] at h⟩
  | d :: ds, e :: es, f :: fs, _, _, _, .cons r t, .cons r' t', .cons r'' t'' => by
    obtain ⟨h1, h2⟩ := zipRs3_ok t t' t''
    refine ⟨by simp [zipRs3, zipR3, h1], fun i q us e1 e2 => ?_⟩
    cases i with
    | zero => simp [zipRs3, zipR3] at e1 e2; subst e1 e2; exact .cons r (.cons r' (.cons r'' .nil))
    | succ i => exact h2 i q us (by simpa [zipRs3] using e1) (by simpa [zipR3] using e2)
def t_wzip3 (t : TSA) : TID := fun cs Q => t cs fun svs cs1 => match svs with
  | [.dat d, .dat e, .dat f] => (match seqOf d, seqOf e, seqOf f with
    | some ds, some es, some fs => Q (rowsD (zipRs3 ds es fs)) cs1
    | _, _, _ => False)
  | _ => False
theorem di_zip3 {X : Cx} {ZP : ZT} {e e2 e3 : Expr} {p pos tpos : Pos} {elts : List Expr} {kk : Nat} {t : TSA} (hg : Gl X "zip") (hm : X.mg "zip" = none) (ha : DA X ZP [e, e2, e3] t) (hs : starEach [e, e2, e3] X.env = (false, eval e X.env) :: starEach [e2, e3] X.env := by rfl) (hpl : (backTo pos (starEach [e2, e3] X.env)).any (·.1) = false := by rfl) : DI X ZP (.Tuple elts kk tpos) (.Call (.Name "zip" p) [e, e2, e3] [] pos) (t_wzip3 t) := by
  refine ⟨PI.imp (pi_zip3S hg hm ha.pa hs hpl) ?_⟩
  rintro σ H R ⟨B, cs, g, Re, Q', q, k⟩
  refine ⟨B, cs, g, Re, _, q, fun svs cs1 vs g1 H1 q1 R1 r1 st s1 f1 => ?_⟩
  match svs, r1, q1 with
  | [.dat d, .dat d2, .dat d3], .cons r (.cons r' (.cons r'' .nil)), q1 =>
    cases e1 : seqOf d with
    | none => simp only [e1] at q1
    | some ds =>
      cases e2 : seqOf d2 with
      | none => simp only [e1, e2] at q1
      | some es =>
        cases e3 : seqOf d3 with
        | none => simp only [e1, e2, e3] at q1
        | some fs =>
          simp only [e1, e2, e3] at q1
          obtain ⟨k1, a, xs, rfl, ra, hS, hst⟩ := Rp.src r e1
          obtain ⟨k2, b, ys, rfl, rb, hS2, hst2⟩ := Rp.src r' e2
          obtain ⟨k3, c, ws, rfl, rc, hS3, hst3⟩ := Rp.src r'' e3
          obtain ⟨h1, h2⟩ := zipRs3_ok ra rb rc
          exact ⟨k1, k2, k3, a, b, c, xs, ys, ws, rfl, hS, hS2, hS3, k _ cs1 _ g1 H1 q1 R1 (walk_pairs (fun g' H' s => ⟨hst g' H' s, hst2 g' H' s, hst3 g' H' s⟩) h1 h2) s1 f1⟩

/-! ### a, b = x, y with names that a comprehension uses: by the tuple -/
section
variable {X : Cx} {ZP : ZT}
theorem dsparC (i j : Nat) {x y : Str} {a b : Expr} {td te : TD} {px py pt pos : Pos} {kt k2 : Nat} {pt2 : Pos} (hN : X.N.Nodup) (ha : DE X ZP a td) (hb : DE X ZP b te) (hc : X.calm = true := by rfl) (hi : X.N[i]? = some x := by rfl) (hj : X.N[j]? = some y := by rfl)
    (hx : Loc X.env.scope x := by first | exact Or.inl rfl | exact Or.inr rfl) (hfx : X.fn x = true ∨ X.env.scope.names.lookup x = some .local := by first | exact .inl rfl | exact .inr rfl)
    (hy : Loc X.env.scope y := by first | exact Or.inl rfl | exact Or.inr rfl) (hfy : X.fn y = true ∨ X.env.scope.names.lookup y = some .local := by first | exact .inl rfl | exact .inr rfl)
    (hn : (assignEach [.Name x px, .Name y py] X.env).length = 2 := by rfl) (hst : (assignEach [.Name x px, .Name y py] X.env).findIdx? (·.1) = none := by rfl)
    (hs : swapsWithSole [.Tuple [.Name x px, .Name y py] kt pt] (.Tuple [a, b] k2 pt2) pos.line X.env = pure false := by rfl) (hw : swappedStores [.Tuple [.Name x px, .Name y py] kt pt] (.Tuple [a, b] k2 pt2) X.env = pure none := by rfl)
    (hs1 : starEach [a, b] X.env = (false, eval a X.env) :: starEach [b] X.env := by rfl) (hs2 : starEach [b] X.env = (false, eval b X.env) :: starEach [] X.env := by rfl) :
    DS X ZP (.Assign [.Tuple [.Name x px, .Name y py] kt pt] (.Tuple [a, b] k2 pt2) pos) (t_par i j td te) := by
  refine ⟨PS.imp (ps_asg (pe_tup (pa_cons ha.pe (pa_cons hb.pe pa_nil hs2) hs1)) (pg_tup hc (pgs_cons (pg_name hN hi hx hfx) (pgs_cons (pg_name hN hj hy hfy) pgs_nil)) hn hst) hs hw) ?_⟩
  rintro D σ H ⟨B, cs, g, R, D', q, p⟩
  refine ⟨B, cs, g, R, _, q, fun sv cs1 v g1 H1 q1 R1 r1 t1 s1 f1 => ?_⟩
  refine ⟨B, cs1, g1, R1, _, q1, fun sw cs2 u g2 H2 q2 R2 r2 t2 s2 f2 => ?_⟩
  obtain ⟨l1, l2, q2⟩ := q2
  refine ⟨by show 2 ≤ sizeLine; decide, fun pp hp => ?_⟩
  refine ⟨pp, [v, u], rfl, SqT.of upd_same, rfl, ?_⟩
  have n1 : ∀ a, Foot sv v a → ¬ ow cs1 σ a := fun a e2 => (t1 a e2).1
  have r1b := r1.frm f2 R1.fzow n1
  have R2' := R2.laid (o := .tup [v, u]) hp
  have fl : Frm (fun _ => False) g2 H2 g2 (upd H2 pp (.tup [v, u])) := Frm.laid hp
  have r1c := r1b.frm fl (fun a h => ⟨(R2.fzow a h).1, fun z => z⟩) (fun _ _ z => z)
  have r2c := r2.frm fl (fun a h => ⟨(R2.fzow a h).1, fun z => z⟩) (fun _ _ z => z)
  have at1 : ∀ a, Foot sv v a → ∃ o, H1 a = some o := fun a e2 => by
    obtain ⟨o, h, _⟩ := r1.there e2
    exact ⟨o, h⟩
  have R3 := R2'.store l1 r1c fun a e2 => ⟨fun z => n1 a e2 (s2 a z), R.bnone (t1 a e2).2⟩
  have R4 := R3.store (i := j) (by rw [List.length_set]; exact l2) r2c fun a e2 => by
    refine ⟨fun z => ?_, R1.bnone (t2 a e2).2⟩
    rcases ow_set l1 R2'.len z with z | eo
    · exact (t2 a e2).1 z
    · obtain ⟨o2, h⟩ := at1 a eo
      rw [(t2 a e2).2] at h; cases h
  refine ⟨v, [u], rfl, u, [], rfl, rfl, ?_⟩
  exact p.nx _ _ g2 _ R4 (((f1.stay R.fzow).trans (f2.stay R1.fzow)).trans (fl.stay fun a h => ⟨(R2.fzow a h).1, fun z => z⟩)) q2
theorem dspar3C (i j l : Nat) {x y z : Str} {a b c : Expr} {td te tf : TD} {px py pz pt pos : Pos} {kt k2 : Nat} {pt2 : Pos} (hN : X.N.Nodup) (ha : DE X ZP a td) (hb : DE X ZP b te) (hcc : DE X ZP c tf) (hc : X.calm = true := by rfl) (hi : X.N[i]? = some x := by rfl) (hj : X.N[j]? = some y := by rfl) (hl : X.N[l]? = some z := by rfl)
    (hx : Loc X.env.scope x := by first | exact Or.inl rfl | exact Or.inr rfl) (hfx : X.fn x = true ∨ X.env.scope.names.lookup x = some .local := by first | exact .inl rfl | exact .inr rfl)
    (hy : Loc X.env.scope y := by first | exact Or.inl rfl | exact Or.inr rfl) (hfy : X.fn y = true ∨ X.env.scope.names.lookup y = some .local := by first | exact .inl rfl | exact .inr rfl)
    (hz : Loc X.env.scope z := by first | exact Or.inl rfl | exact Or.inr rfl) (hfz : X.fn z = true ∨ X.env.scope.names.lookup z = some .local := by first | exact .inl rfl | exact .inr rfl)
    (hn : (assignEach [.Name x px, .Name y py, .Name z pz] X.env).length = 3 := by rfl) (hst : (assignEach [.Name x px, .Name y py, .Name z pz] X.env).findIdx? (·.1) = none := by rfl)
    (hs : swapsWithSole [.Tuple [.Name x px, .Name y py, .Name z pz] kt pt] (.Tuple [a, b, c] k2 pt2) pos.line X.env = pure false := by rfl) (hw : swappedStores [.Tuple [.Name x px, .Name y py, .Name z pz] kt pt] (.Tuple [a, b, c] k2 pt2) X.env = pure none := by rfl)
    (hs1 : starEach [a, b, c] X.env = (false, eval a X.env) :: starEach [b, c] X.env := by rfl) (hs2 : starEach [b, c] X.env = (false, eval b X.env) :: starEach [c] X.env := by rfl) (hs3 : starEach [c] X.env = (false, eval c X.env) :: starEach [] X.env := by rfl) :
    DS X ZP (.Assign [.Tuple [.Name x px, .Name y py, .Name z pz] kt pt] (.Tuple [a, b, c] k2 pt2) pos) (t_par3 i j l td te tf) := by
  refine ⟨PS.imp (ps_asg (pe_tup (pa_cons ha.pe (pa_cons hb.pe (pa_cons hcc.pe pa_nil hs3) hs2) hs1)) (pg_tup hc (pgs_cons (pg_name hN hi hx hfx) (pgs_cons (pg_name hN hj hy hfy) (pgs_cons (pg_name hN hl hz hfz) pgs_nil))) hn hst) hs hw) ?_⟩
  rintro D σ H ⟨B, cs, g, R, D', q, p⟩
  refine ⟨B, cs, g, R, _, q, fun sv cs1 v g1 H1 q1 R1 r1 t1 s1 f1 => ?_⟩
  refine ⟨B, cs1, g1, R1, _, q1, fun sw cs2 u g2 H2 q2 R2 r2 t2 s2 f2 => ?_⟩
  refine ⟨B, cs2, g2, R2, _, q2, fun sx cs3 w g3 H3 q3 R3 r3 t3 s3 f3 => ?_⟩
  obtain ⟨l1, l2, l3, q3⟩ := q3
  refine ⟨by show 3 ≤ sizeLine; decide, fun pp hp => ?_⟩
  refine ⟨pp, [v, u, w], rfl, SqT.of upd_same, rfl, ?_⟩
  have n1 : ∀ a, Foot sv v a → ¬ ow cs1 σ a := fun a e2 => (t1 a e2).1
  have n2 : ∀ a, Foot sw u a → ¬ ow cs2 σ a := fun a e2 => (t2 a e2).1
  have fl : Frm (fun _ => False) g3 H3 g3 (upd H3 pp (.tup [v, u, w])) := Frm.laid hp
  have ff : ∀ a, g3.fz a → g3.zs a = none ∧ ¬ (fun _ => False) a := fun a h => ⟨(R3.fzow a h).1, fun z => z⟩
  have r1c := ((r1.frm f2 R1.fzow n1).frm f3 R2.fzow fun a e2 z => n1 a e2 (s2 a z)).frm fl ff (fun _ _ z => z)
  have r2c := (r2.frm f3 R2.fzow n2).frm fl ff (fun _ _ z => z)
  have r3c := r3.frm fl ff (fun _ _ z => z)
  have R3' := R3.laid (o := .tup [v, u, w]) hp
  have at1 : ∀ a, Foot sv v a → ∃ o, H1 a = some o := fun a e2 => by
    obtain ⟨o, h, _⟩ := r1.there e2
    exact ⟨o, h⟩
  have at2 : ∀ a, Foot sw u a → ∃ o, H2 a = some o := fun a e2 => by
    obtain ⟨o, h, _⟩ := r2.there e2
    exact ⟨o, h⟩
  have R4 := R3'.store l1 r1c fun a e2 => ⟨fun z => n1 a e2 (s2 a (s3 a z)), R.bnone (t1 a e2).2⟩
  have R5 := R4.store (i := j) (by rw [List.length_set]; exact l2) r2c fun a e2 => by
    refine ⟨fun z => ?_, R1.bnone (t2 a e2).2⟩
    rcases ow_set l1 R3'.len z with z | eo
    · exact n2 a e2 (s3 a z)
    · obtain ⟨o2, h⟩ := at1 a eo
      rw [(t2 a e2).2] at h; cases h
  have R6 := R5.store (i := l) (by rw [List.length_set, List.length_set]; exact l3) r3c fun a e2 => by
    obtain ⟨m1, m2⟩ := t3 a e2
    refine ⟨fun z => ?_, R2.bnone m2⟩
    rcases ow_set (by rw [List.length_set]; exact l2) R4.len z with z | eo
    · rcases ow_set l1 R3'.len z with z | eo
      · exact m1 z
      · obtain ⟨o2, h⟩ := at1 a eo
        obtain ⟨o3, h3⟩ := f2.any a o2 h
        rw [m2] at h3; cases h3
    · obtain ⟨o2, h⟩ := at2 a eo
      rw [m2] at h; cases h
  refine ⟨v, [u, w], rfl, u, [w], rfl, w, [], rfl, rfl, ?_⟩
  exact p.nx _ _ g3 _ R6 ((((f1.stay R.fzow).trans (f2.stay R1.fzow)).trans (f3.stay R2.fzow)).trans (fl.stay ff)) q3
end

/-! ### k in d, k not in d as tests -/
section
variable {X : Cx} {ZP : ZT} {e : Expr} {tk : TVD} {x : Str} {xpos pos : Pos}
end

/-! ### the block of a comprehension in a comprehension -/
/-! ### for x in a list or a tuple -/
section
variable {X : Cx} {ZP : ZT} {tg e : Expr}
def t_wseq (t : TVD) : TID := fun cs Q => t cs fun d cs1 => match seqOf d with
  | some ds => Q ds cs1
  | none => False
end
end Cl

/-! loops and comprehensions over a mapped list; numbers as data; sorted rows -/
namespace Cl
open PySem PySem.Spec PyProof.Rows L2
theorem forD_A {α : Type} {gt : TGD} {tb : TSD} {D : DEnds} (e : α → PyData) (I : List α → CS → Prop) (xs : List α) (h0 : ∀ cs, I xs cs → D.nx cs)
    (hs : ∀ done x todo cs (N : CS → Prop), xs = done ++ x :: todo → (∀ cs', I (done ++ [x]) cs' → N cs') → I done cs → gt (.dat (e x)) cs fun cs1 => tb { nx := N, rt := D.rt, bk := D.nx, ct := N } cs1) {cs : CS} (h : I [] cs) : forD gt tb D (xs.map e) cs := by
  refine forD_ind (I := fun ds cs => ∃ done todo, xs = done ++ todo ∧ ds = todo.map e ∧ I done cs) ?_ ?_ _ _ ⟨[], xs, rfl, rfl, h⟩
  · rintro cs ⟨done, todo, e1, e2, h⟩
    cases todo with
    | nil => rw [List.append_nil] at e1; subst e1; exact h0 _ h
    | cons => cases e2
  · rintro d ds cs N hN ⟨done, todo, e1, e2, h⟩
    cases todo with
    | nil => cases e2
    | cons x todo =>
      cases e2
      exact hs done x todo cs N e1 (fun cs' z => hN cs' ⟨done ++ [x], todo, by rw [e1]; simp, rfl, z⟩) h
theorem lcD_A {α : Type} {vs : List Nat} {gt : TGD} {tt : TTD} {te : TVD} {Q : List PyData → CS → Prop} (e f : α → PyData) (p : α → Bool) (S : CS) : ∀ (xs : List α) (acc : List PyData), acc.length + xs.length ≤ sizeLine →
    (∀ x ∈ xs, ∀ (K : PyData → CS → Prop) (N : CS → Prop), (p x = true → K (f x) S) → (p x = false → N S) → gt (.dat (e x)) S fun cs1 => tt cs1 fun b cs2 => if b = true then te cs2 (fun y cs3 => K y (wipeC cs3 vs)) else N (wipeC cs2 vs)) →
    Q (acc ++ (xs.filter p).map f) S → lcD vs gt tt te Q (xs.map e) acc S
  | [], acc, _, _, h => by
    simp only [List.filter_nil, List.map_nil, List.append_nil] at h
    exact h
  | d :: ds, acc, hl, hs, h => by
    rw [List.length_cons] at hl
    refine hs d List.mem_cons_self (fun y cs => acc.length < sizeLine ∧ lcD vs gt tt te Q (ds.map e) (acc ++ [y]) cs) (fun cs => lcD vs gt tt te Q (ds.map e) acc cs) (fun hp => ⟨by omega, ?_⟩) fun hp => ?_
    · refine lcD_A e f p S ds (acc ++ [f d]) (by rw [List.length_append, List.length_singleton]; omega) (fun x hx => hs x (List.mem_cons_of_mem _ hx)) ?_
      rw [List.filter_cons_of_pos hp, List.map_cons] at h
      simpa using h
    · refine lcD_A e f p S ds acc (by omega) (fun x hx => hs x (List.mem_cons_of_mem _ hx)) ?_
      rw [List.filter_cons_of_neg (by simp [hp])] at h
      exact h
theorem lcD_M {α : Type} {vs : List Nat} {gt : TGD} {tt : TTD} {te : TVD} {Q : List PyData → CS → Prop} (e f : α → PyData) (S : CS) (xs : List α) (hl : xs.length ≤ sizeLine)
    (hs : ∀ x ∈ xs, ∀ (K : PyData → CS → Prop) (N : CS → Prop), K (f x) S → gt (.dat (e x)) S fun cs1 => tt cs1 fun b cs2 => if b = true then te cs2 (fun y cs3 => K y (wipeC cs3 vs)) else N (wipeC cs2 vs)) (h : Q (xs.map f) S) : lcD vs gt tt te Q (xs.map e) [] S :=
  lcD_A e f (fun _ => true) S xs [] (by simpa using hl) (fun d hd K N h1 _ => hs d hd K N (h1 rfl)) (by rw [List.nil_append, List.filter_eq_self.mpr (fun _ _ => rfl)]; exact h)
theorem zip3_rows {α β γ : Type} (f : α → PyData) (g : β → PyData) (h : γ → PyData) : ∀ (as : List α) (bs : List β) (cs : List γ), rowsD (zipRs3 (as.map f) (bs.map g) (cs.map h)) = (as.zip (bs.zip cs)).map fun p => .tuple [f p.1, g p.2.1, h p.2.2]
  | [], _, _ => rfl
  | _ :: _, [], _ => rfl
  | _ :: _, _ :: _, [] => rfl
  | a :: as, b :: bs, c :: cs => by
    show _ :: rowsD (zipRs3 (as.map f) (bs.map g) (cs.map h)) = _ :: _
    rw [zip3_rows f g h as bs cs]
    rfl
theorem range_nat (n : Nat) : rangeD 0 (n : Nat) = (List.range n).map fun (k : Nat) => .int (k : Nat) := by
  unfold rangeD
  refine List.map_congr_left fun a _ => ?_
  congr 1
  omega
def iN (xs : List Nat) : List PyData := xs.map fun n => .int (n : Nat)
abbrev tN (xs : List Nat) : PyData := .tuple (iN xs)
theorem iN_len (xs : List Nat) : (iN xs).length = xs.length := by simp [iN]
theorem iN_append (a b : List Nat) : iN (a ++ b) = iN a ++ iN b := List.map_append
theorem iN_cons (a : Nat) (b : List Nat) : iN (a :: b) = .int (a : Nat) :: iN b := rfl
theorem iN_ints (xs : List Nat) : iN xs = (xs.map fun n => ((n : Nat) : Int)).map PyData.int := by simp [iN, Function.comp_def]
theorem can_iN : ∀ a : List Nat, PyData.canLayAll0 (iN a) = true
  | [] => by simp [iN, PyData.canLayAll0]
  | x :: a => by
    have ih := can_iN a
    rw [iN_cons]
    simp [PyData.canLayAll0, PyData.canLay0, ih]
theorem depth_iN (a : List Nat) : PyData.depthAll (iN a) = 0 := by rw [iN_ints]; exact PySem.W.depth_ints _
/-! ### keys of rows of numbers -/
/-! ### sorted rows -/
theorem restC_self (vs : List Nat) (cs : CS) : restC vs cs cs = cs := by
  unfold restC
  apply List.ext_getElem?
  intro j
  rw [List.getElem?_mapIdx]
  cases h : cs[j]? with
  | none => rfl
  | some x =>
    show some (if j ∈ vs then cs.getD j none else x) = some x
    split
    · rw [List.getD_eq_getElem?_getD, h]; rfl
    · rfl
theorem wipeC_len2 (cs : CS) : ∀ vs : List Nat, (wipeC cs vs).length = cs.length
  | [] => rfl
  | v :: vs => by show ((wipeC cs vs).set v none).length = cs.length; rw [List.length_set, wipeC_len2 cs vs]
theorem wipeC_get (cs : CS) : ∀ (vs : List Nat) (j : Nat), j ∉ vs → (wipeC cs vs)[j]? = cs[j]?
  | [], _, _ => rfl
  | v :: vs, j, h => by
    show ((wipeC cs vs).set v none)[j]? = cs[j]?
    rw [List.getElem?_set_ne (fun e => h (by rw [e]; exact List.mem_cons_self)), wipeC_get cs vs j (fun z => h (List.mem_cons_of_mem _ z))]
theorem restC_wipe (vs : List Nat) (cs : CS) : restC vs cs (wipeC cs vs) = cs := by
  unfold restC
  apply List.ext_getElem?
  intro j
  rw [List.getElem?_mapIdx]
  by_cases hj : j ∈ vs
  · by_cases hl : j < cs.length
    · rw [List.getElem?_eq_getElem (by rw [wipeC_len2]; exact hl), List.getElem?_eq_getElem hl]
      show some (if j ∈ vs then cs.getD j none else _) = _
      rw [if_pos hj, List.getD_eq_getElem?_getD, List.getElem?_eq_getElem hl]
      rfl
    · rw [List.getElem?_eq_none (by rw [wipeC_len2]; omega), List.getElem?_eq_none (by omega)]
      rfl
  · rw [wipeC_get cs vs j hj]
    cases h : cs[j]? with
    | none => rfl
    | some x =>
      show some (if j ∈ vs then cs.getD j none else x) = some x
      rw [if_neg hj]
end Cl

/-! {t: v} as a dict of one's own -/
namespace Cl
open PySem PySem.Spec PyProof.Rows L2
section
variable {K : KW} {ZP : ZT} {B : Bs} {g : GW} {H : Hp} {cs : CS} {σ : L2.St} {p : Addr} {o o' : HO}
end
section
variable {X : Cx} {ZP : ZT} {pos : Pos} {ke ve : Expr}
variable {tk tx : TVD}
def t_dnew1 (tk tx : TVD) : TD := fun cs Q => tk cs fun kd cs1 => tx cs1 fun d cs2 => ∃ ks, keyD kd = some ks ∧ Q (.dic [(ks, d)]) cs2
end
end Cl

/-! lcm(a, b) -/
namespace Cl
open PySem PySem.Spec PyProof.Rows L2
section
variable {X : Cx} {ZP : ZT} {es : List Expr} {e : Expr} {pos p : Pos} {x : Str} {t : TSA}
end
end Cl

/-! b is True, b is not True, b a bool -/
namespace Cl
open PySem PySem.Spec PyProof.Rows L2
def isY : OpX := fun x y Q => match x, y with
  | .bool a, .bool b => Q (.dat (.bool (a == b)))
  | _, _ => False
def isnY : OpX := fun x y Q => match x, y with
  | .bool a, .bool b => Q (.dat (.bool (!(a == b))))
  | _, _ => False
section
variable {X : Cx}
end
end Cl

/-! f(stock, xs), xs a list of one's own that the callee only reads: it stays one's own -/
namespace Cl
open PySem PySem.Spec PyProof.Rows L2
def atom : PyData → Prop
  | .none => True
  | .bool _ => True
  | .int _ => True
  | .str _ => True
  | _ => False
def flat : PyData → Prop
  | .tuple ds => ∀ d ∈ ds, atom d
  | d => atom d
section
variable {K : KW} {H : Hp} {fz fz' : Addr → Prop}
theorem Rp.atom {d : PyData} {v : V} (h : atom d) (r : Rp K H fz d v) : Rp K H fz' d v := by
  cases r with
  | non => exact .non
  | bl b => exact .bl b
  | int i => exact .int i
  | str x => exact .str x
  | _ => exact h.elim
theorem RpAll.atoms : ∀ {ds : List PyData} {vs : List V}, (∀ d ∈ ds, Cl.atom d) → RpAll K H fz ds vs → RpAll K H fz' ds vs
  | [], _, _, .nil => .nil
  | d :: ds, _, h, .cons r t => .cons (Rp.atom (h d List.mem_cons_self) r) (RpAll.atoms (fun x hx => h x (List.mem_cons_of_mem _ hx)) t)
theorem Rp.flat {d : PyData} {v : V} (h : flat d) (r : Rp K H fz d v) : Rp K H fz' d v := by
  cases d with
  | tuple ds =>
    cases r with
    | tup q ra => exact .tup q (RpAll.atoms h ra)
  | _ => exact Rp.atom h r
end
def t_callB (C : TF) (i j : Nat) : TD := fun cs Q => ∃ t xs, cs[i]? = some (some (.raw t)) ∧ cs[j]? = some (some (.own xs)) ∧ C [.raw t, .dat (.list xs)] fun sv => ∃ d, sv = .dat d ∧ flat d ∧ Q (.dat d) cs
section
variable {X : Cx} {ZP : ZT} {k : Nat} {f : Addr} {fd : FuncData} {ps : List Str} {x y z : Str} {p pos p1 p2 : Pos} {C : TF}
end
end Cl

/-! dicts with keys of any kind: tables of entries by what the keys stand for -/
namespace Cl
open PySem PySem.Spec PyProof.Rows L2

def KeyIs (h : Heap) (k : NestedKey) (u : Value) : Prop := NestedIs h k u ∧ k.depth ≤ 8
/-- the entries' keys are ks -/
def Tab (w : World) (h : Heap) : List NestedKey → List DictEntry → Prop := Paired fun k e => KeyIs h k e.key ∧ e.hash = k.hash w
def spotN (ks : List NestedKey) (k : NestedKey) : Option Nat := ks.findIdx? fun x => decide (x = k)
section
variable {w : World} {h h' : Heap}
theorem Tab.at {ks : List NestedKey} {es : List DictEntry} (t : Tab w h ks es) {i : Nat} {e : DictEntry} (he : es[i]? = some e) : ∃ k, ks[i]? = some k ∧ KeyIs h k e.key ∧ e.hash = k.hash w := by
  induction t generalizing i with
  | nil => simp at he
  | cons r _ ih =>
    cases i with
    | zero => simp at he; subst he; exact ⟨_, rfl, r⟩
    | succ i => simpa using ih (i := i) (by simpa using he)
theorem Tab.at' {ks : List NestedKey} {es : List DictEntry} (t : Tab w h ks es) {i : Nat} {k : NestedKey} (hk : ks[i]? = some k) : ∃ e, es[i]? = some e ∧ KeyIs h k e.key ∧ e.hash = k.hash w := by
  induction t generalizing i with
  | nil => simp at hk
  | cons r _ ih =>
    cases i with
    | zero => simp at hk; subst hk; exact ⟨_, rfl, r⟩
    | succ i => simpa using ih (i := i) (by simpa using hk)
theorem Tab.len {ks : List NestedKey} {es : List DictEntry} (t : Tab w h ks es) : ks.length = es.length := Paired.length t
theorem Tab.mono {ks : List NestedKey} {es : List DictEntry} (t : Tab w h ks es) (f : ∀ k u, KeyIs h k u → KeyIs h' k u) : Tab w h' ks es := Paired.mapP t fun _ _ r => ⟨f _ _ r.1, r.2⟩
theorem spotN_some {ks : List NestedKey} (hn : ks.Nodup) {k : NestedKey} {j : Nat} (e : ks[j]? = some k) : spotN ks k = some j := by
  obtain ⟨hj, rfl⟩ := List.getElem?_eq_some_iff.mp e
  refine List.findIdx?_eq_some_iff_getElem.mpr ⟨hj, by simp, fun i hi => ?_⟩
  have : ks[i]'(Nat.lt_trans hi hj) ≠ ks[j] := fun z => by
    have := (List.getElem_inj hn).mp z
    omega
  simpa using this
theorem spotN_none {ks : List NestedKey} {k : NestedKey} (e : ∀ j : Nat, ks[j]? ≠ some k) : spotN ks k = none := by
  refine List.findIdx?_eq_none_iff.mpr fun x hx => ?_
  obtain ⟨j, hj⟩ := List.mem_iff_getElem?.mp hx
  exact decide_eq_false fun z => e j (by rw [hj, z])
theorem spotN_get {ks : List NestedKey} {k : NestedKey} {j : Nat} (e : spotN ks k = some j) : ks[j]? = some k := by
  obtain ⟨hj, h1, _⟩ := List.findIdx?_eq_some_iff_getElem.mp e
  rw [List.getElem?_eq_getElem hj]
  exact congrArg some (of_decide_eq_true h1)
end

section
variable {prog : Program} {w : World} {A : Around} {E : Value → Shared → Prop} {s : Shared}
theorem tells_not {u : Value} {k : NestedKey} {st : List Value} {Q : Bool → Shared → Prop} (hk : KeyIs s.heap k u) (hs : ∀ v ∈ st, ∃ k', KeyIs s.heap k' v) (h : Q false s) :
    wpAny (model prog w) A (tableMayTell u st) Q E s := by
  unfold tableMayTell
  by_cases he : st.isEmpty = true
  · rw [if_pos he]; exact wpAny_pure h
  · rw [if_neg he]
    refine wpAny_bind (quiet_key k u 8 s hk.1 hk.2 _ _ _ ?_)
    rw [if_neg (by decide)]
    refine wpAny_bind (wpAny_forIn_list _ (fun r b t => t = s ∧ b = (none, ()) ∧ ∀ v ∈ r, ∃ k', KeyIs s.heap k' v) _ (fun x r b t hI => ?_) (fun b t hI => ?_) _ _ ⟨rfl, rfl, hs⟩)
    · obtain ⟨rfl, rfl, hr⟩ := hI
      obtain ⟨k', hx⟩ := hr x List.mem_cons_self
      refine wpAny_bind (quiet_key k' x 8 t hx.1 hx.2 _ _ _ ?_)
      rw [if_neg (by decide)]
      exact wpAny_pure ⟨rfl, rfl, fun v hv => hr v (List.mem_cons_of_mem _ hv)⟩
    · obtain ⟨rfl, rfl, _⟩ := hI
      exact wpAny_pure h
theorem same_key {k k' : NestedKey} {u v : Value} {Q : Bool → Shared → Prop} (hu : A.units + 8 < cLine) (h1 : KeyIs s.heap k' v) (h2 : KeyIs s.heap k u) (h : Q (decide (k' = k)) s) : wpAny (model prog w) A (eqBool v u) Q E s := by
  have e := eqAt_key k' k A s v u h1.1 h2.1 (by have := h1.2; omega)
  rw [NestedKey.decide_eq] at h
  exact e _ _ _ _ h
/-- where the key stands -/
theorem find_key {d : Addr} {o : Obj} {es : List DictEntry} {ep : Nat} {ks : List NestedKey} {k : NestedKey} {u : Value} {Q : Option Nat → Shared → Prop} (hu : A.units + 8 < cLine) (hk : KeyIs s.heap k u)
    (ho : s.heap.get? d = some o) (hd : o.data = .dict es.toArray ep) (t : Tab w s.heap ks es) (hn : ks.Nodup) (h : Q (spotN ks k) s) : wpAny (model prog w) A (dictFind d u (k.hash w)) Q E s := by
  have noe : ∀ {i : Nat} {e : DictEntry}, es.toArray[i]? = some e → es[i]? = some e := fun z => by simpa using z
  have epoch : ∀ {R : Nat → Shared → Prop}, R ep s → wpAny (model prog w) A (dictEpoch d (keyPart u)) R E s := fun r => wpAny_dictEpoch ho hd r
  unfold dictFind
  try with_reducible refine wpAny_holding ?_
  refine wpAny_bind (wpAny_dictEntries ho hd ?_)
  have hpl : ∀ j, ks[j]? = some k → j ∈ placesWithHash es.toArray.size (fun i => es.toArray[i]?.map (·.hash)) (k.hash w) := fun j hj => by
    obtain ⟨e, he, _, hh⟩ := t.at' hj
    refine List.mem_filter.mpr ⟨List.mem_range.mpr (by simpa using (List.getElem?_eq_some_iff.mp he).1), ?_⟩
    have : es.toArray[j]? = some e := by simpa using he
    show (es.toArray[j]?.map (·.hash) == some (k.hash w)) = true
    rw [this]
    simp [hh]
  have hnd : (placesWithHash es.toArray.size (fun i => es.toArray[i]?.map (·.hash)) (k.hash w)).Nodup := List.nodup_range.filter _
  have hst : ∀ v ∈ (placesWithHash es.toArray.size (fun i => es.toArray[i]?.map (·.hash)) (k.hash w)).filterMap (fun i => es.toArray[i]?.map (·.key)), ∃ k', KeyIs s.heap k' v := fun v hv => by
    obtain ⟨i, _, hi⟩ := List.mem_filterMap.mp hv
    obtain ⟨e, he, rfl⟩ := Option.map_eq_some_iff.mp hi
    obtain ⟨k', _, q, _⟩ := t.at (noe he)
    exact ⟨k', q⟩
  generalize placesWithHash es.toArray.size (fun i => es.toArray[i]?.map (·.hash)) (k.hash w) = pl at hpl hnd hst
  have plain : wpAny (model prog w) A (dictWalkPlain d u (k.hash w) es.toArray pl) Q E s := by
    unfold dictWalkPlain
    refine wpAny_bind (wpAny_forIn_list _ (fun r b t => t = s ∧ b = (none, ()) ∧ ∀ j, ks[j]? = some k → j ∈ r) _ (fun i r b t' hI => ?_) (fun b t' hI => ?_) _ _ ⟨rfl, rfl, hpl⟩)
    · obtain ⟨rfl, rfl, hr⟩ := hI
      have skip : ks[i]? ≠ some k → ∀ j, ks[j]? = some k → j ∈ r := fun z j hj => by
        rcases List.mem_cons.mp (hr j hj) with rfl | q
        · exact absurd hj z
        · exact q
      cases he : es.toArray[i]? with
      | none => exact wpAny_pure ⟨rfl, rfl, skip fun z => by obtain ⟨e, q, _⟩ := t.at' z; rw [show es.toArray[i]? = some e by simpa using q] at he; cases he⟩
      | some e =>
        obtain ⟨k', hk', q, hh⟩ := t.at (noe he)
        dsimp only
        by_cases hb : (e.hash == k.hash w) = true
        · rw [if_pos hb]
          refine wpAny_bind (epoch (wpAny_bind (same_key hu q hk (wpAny_bind (epoch ?_)))))
          rw [if_neg (by simp)]
          by_cases hkk : k' = k
          · subst hkk
            rw [decide_eq_true rfl, if_pos rfl]
            refine wpAny_bind (wpAny_rule (wpAny_pure ?_))
            rw [spotN_some hn hk'] at h
            exact wpAny_pure h
          · rw [decide_eq_false hkk, if_neg Bool.false_ne_true]
            exact wpAny_bind (wpAny_rule (wpAny_pure ⟨rfl, rfl, skip fun z => hkk (by rw [hk'] at z; exact Option.some.inj z)⟩))
        · rw [if_neg hb]
          exact wpAny_pure ⟨rfl, rfl, skip fun z => hb (by rw [hk'] at z; cases z; simp [hh])⟩
    · obtain ⟨rfl, rfl, hr⟩ := hI
      rw [spotN_none fun j hj => nomatch hr j hj] at h
      exact wpAny_pure h
  have txts : ∀ (jp : Sem (Option Nat)), wpAny (model prog w) A jp Q E s → wpAny (model prog w) A (match u with
      | .str y _ => if (es.toArray.all fun e => isExactStrKey e.key) = true then foundByValue d u es.toArray y else jp
      | _ => jp) Q E s := fun jp hj => by
    split
    · rename_i y tk
      split
      · rename_i hall
        obtain ⟨hk1, hk2⟩ := hk
        cases hk1 with
        | text _ _ =>
        have all' : ∀ (i : Nat) (e : DictEntry), es[i]? = some e → ∃ (z : Str) (v : Tok), e.key = Value.str z v ∧ ks[i]? = some (NestedKey.text z) := fun i e he => by
          obtain ⟨k', e1, ⟨e2, _⟩, _⟩ := t.at he
          have e3 : isExactStrKey e.key = true := by
            rw [← Array.all_toList, List.all_eq_true] at hall
            exact hall e (List.mem_of_getElem? he)
          cases hz : e.key with
          | str z v => rw [hz] at e2; cases e2; exact ⟨z, v, rfl, e1⟩
          | _ => rw [hz] at e3; cases e3
        have eqf : (es.findIdx? fun e => e.key.isStr y) = spotN ks (.text y) := by
          cases hs : spotN ks (.text y) with
          | none =>
            refine List.findIdx?_eq_none_iff.mpr fun e he => ?_
            obtain ⟨i, hi⟩ := List.mem_iff_getElem?.mp he
            obtain ⟨z, v, e1, e2⟩ := all' i e hi
            rw [e1]
            by_cases hz : z = y
            · subst hz; rw [spotN_some hn e2] at hs; cases hs
            · simp [Value.isStr, hz]
          | some j =>
            have hj := spotN_get hs
            obtain ⟨e, he, _⟩ := t.at' hj
            obtain ⟨hjl, hje⟩ := List.getElem?_eq_some_iff.mp he
            refine List.findIdx?_eq_some_iff_getElem.mpr ⟨hjl, ?_, fun i hi => ?_⟩
            · obtain ⟨z, v, e1, e2⟩ := all' j e he
              rw [hj] at e2; cases e2
              rw [hje, e1]; simp [Value.isStr]
            · obtain ⟨z, v, e1, e2⟩ := all' i _ (List.getElem?_eq_getElem (Nat.lt_trans hi hjl))
              rw [e1]
              have : z ≠ y := fun q => by subst q; rw [spotN_some hn e2] at hs; cases hs; omega
              simp [Value.isStr, this]
        unfold foundByValue
        rw [show (es.toArray.findIdx? fun e => e.key.isStr y) = es.findIdx? fun e => e.key.isStr y by simp, eqf]
        cases hs : spotN ks (.text y) with
        | none => rw [hs] at h; exact wpAny_pure h
        | some j =>
          rw [hs] at h
          obtain ⟨e, he, q, _⟩ := t.at' (spotN_get hs)
          dsimp only
          rw [show es.toArray[j]? = some e by simpa using he]
          refine wpAny_bind (epoch (wpAny_bind (same_key hu q ⟨.text y tk, hk2⟩ (wpAny_bind (epoch ?_)))))
          rw [if_neg (by simp), decide_eq_true rfl, if_pos rfl]
          exact wpAny_bind (wpAny_rule (wpAny_pure h))
      · exact hj
    · exact hj
  have refs : ∀ (jp : Sem (Option Nat)) (bad : Sem (Option Nat)), wpAny (model prog w) A jp Q E s → wpAny (model prog w) A (match u with
      | .ref _ => if (es.toArray.any fun e => e.key == u && e.hash != k.hash w) = true then bad else jp
      | _ => jp) Q E s := fun jp bad hj => by
    split
    · rename_i a
      rw [if_neg ?_]
      · exact hj
      · rw [← Array.any_toList, List.any_eq_true]
        rintro ⟨e, he, hc⟩
        simp only [Bool.and_eq_true, beq_iff_eq, bne_iff_ne, ne_eq] at hc
        obtain ⟨i, hi⟩ := List.mem_iff_getElem?.mp he
        obtain ⟨k', _, q, hh⟩ := t.at hi
        rw [hc.1] at q
        exact hc.2 (by rw [hh, NestedIs.inj _ _ _ q.1 hk.1])
    · exact hj
  have both : ∀ (c : Bool) (jp : Bool → Sem (Option Nat)) (st : List Value), (∀ v ∈ st, ∃ k', KeyIs s.heap k' v) → wpAny (model prog w) A (jp false) Q E s →
      wpAny (model prog w) A (if c = true then (pure false >>= jp) else (tableMayTell u st >>= jp)) Q E s := fun c jp st hs hj => by
    split
    · exact wpAny_bind (wpAny_pure hj)
    · exact wpAny_bind (tells_not hk hs hj)
  refine txts _ ?_
  by_cases hcv : (u :: pl.filterMap fun i => es.toArray[i]?.map (·.key)).all carriedByValue = true
  · rw [if_pos hcv]; exact plain
  rw [if_neg hcv]
  refine refs _ _ ?_
  refine both _ _ _ hst ?_
  dsimp only
  rw [if_neg (by simp)]
  refine wpAny_bind (wpAny_forIn_list _ (fun r b t => t = s ∧ r.Nodup ∧ ∃ hit, b = (none, hit) ∧ ((hit = none ∧ ∀ j, ks[j]? = some k → j ∈ r) ∨ ∃ j, hit = some j ∧ ks[j]? = some k ∧ ∀ i ∈ r, ks[i]? ≠ some k)) _ (fun i r b t' hI => ?_) (fun b t' hI => ?_) _ _ ⟨rfl, hnd, none, rfl, .inl ⟨rfl, hpl⟩⟩)
  · obtain ⟨rfl, hr, hit, rfl, hH⟩ := hI
    rw [List.nodup_cons] at hr
    have skip : ks[i]? ≠ some k → ((hit = none ∧ ∀ j, ks[j]? = some k → j ∈ r) ∨ ∃ j, hit = some j ∧ ks[j]? = some k ∧ ∀ i ∈ r, ks[i]? ≠ some k) := fun z => by
      rcases hH with ⟨e1, e2⟩ | ⟨j, e1, e2, e3⟩
      · refine .inl ⟨e1, fun j hj => ?_⟩
        rcases List.mem_cons.mp (e2 j hj) with rfl | q
        · exact absurd hj z
        · exact q
      · exact .inr ⟨j, e1, e2, fun x hx => e3 x (List.mem_cons_of_mem _ hx)⟩
    cases he : es.toArray[i]? with
    | none => exact wpAny_pure ⟨rfl, hr.2, hit, rfl, skip fun z => by obtain ⟨e, q, _⟩ := t.at' z; rw [show es.toArray[i]? = some e by simpa using q] at he; cases he⟩
    | some e =>
      obtain ⟨k', hk', q, hh⟩ := t.at (noe he)
      dsimp only
      by_cases hb : (e.hash == k.hash w) = true
      · rw [if_pos hb]
        refine wpAny_bind (epoch (wpAny_bind (same_key hu q hk (wpAny_bind (epoch ?_)))))
        rw [if_neg (by simp)]
        by_cases hkk : k' = k
        · subst hkk
          rw [decide_eq_true rfl, if_pos rfl]
          rcases hH with ⟨e1, e2⟩ | ⟨j, e1, e2, e3⟩
          · subst e1
            rw [if_neg (by simp)]
            refine wpAny_bind (wpAny_rule ?_)
            split
            · rw [spotN_some hn hk'] at h
              exact wpAny_pure (wpAny_pure h)
            · refine wpAny_pure ⟨rfl, hr.2, some i, rfl, .inr ⟨i, rfl, hk', fun x hx z => hr.1 ?_⟩⟩
              have := (List.getElem?_inj (List.getElem?_eq_some_iff.mp hk').1 hn).mp (hk'.trans z.symm)
              rw [this]; exact hx
          · exact absurd hk' (e3 i List.mem_cons_self)
        · rw [decide_eq_false hkk, if_neg Bool.false_ne_true]
          refine wpAny_bind (wpAny_rule ?_)
          first | rw [if_neg (by simp)] | skip
          exact wpAny_pure ⟨rfl, hr.2, hit, rfl, skip fun z => hkk (by rw [hk'] at z; exact Option.some.inj z)⟩
      · rw [if_neg hb]
        exact wpAny_pure ⟨rfl, hr.2, hit, rfl, skip fun z => hb (by rw [hk'] at z; cases z; simp [hh])⟩
  · obtain ⟨rfl, _, hit, rfl, hH⟩ := hI
    rcases hH with ⟨rfl, e2⟩ | ⟨j, rfl, e2, _⟩
    · rw [spotN_none fun j hj => nomatch e2 j hj] at h
      exact wpAny_pure h
    · rw [spotN_some hn e2] at h
      exact wpAny_pure h
/-- the dict at d has the entries es -/
def DAt (h : Heap) (d : Addr) (es : List DictEntry) : Prop := ∃ ep, DictHas d ep es h
def valE (es : List DictEntry) : Option Nat → Option Value
  | some i => (es[i]?).map (·.val)
  | none => none
def setE (w : World) (es : List DictEntry) (k : NestedKey) (u v : Value) : Option Nat → List DictEntry
  | some i => es.modify i fun e => { e with val := v }
  | none => es ++ [⟨k.hash w, u, v⟩]
variable {d : Addr} {es : List DictEntry} {ks : List NestedKey} {k : NestedKey} {u : Value}
theorem DAt.typeIs (h : DAt s.heap d es) : s.TypeIs (.ref d) "dict" := let ⟨_, _, o, ho, hc, _⟩ := h; ⟨o, ho, hc.1⟩
theorem DAt.ne (h : DAt s.heap d es) : (d == sysModules) = false := let ⟨_, h⟩ := h; beq_eq_false_iff_ne.mpr h.1
theorem DAt.bare (h : DAt s.heap d es) : ∀ a, Value.ref d = .ref a → ∃ ob, s.heap.get? a = some ob ∧ ob.dict = none := fun a e => by
  cases e
  obtain ⟨_, _, o, ho, hc, _⟩ := h
  exact ⟨o, ho, hc.2.1⟩
theorem get_at {Q : Option Value → Shared → Prop} (hu : A.units + 8 < cLine) (hk : KeyIs s.heap k u) (D : DAt s.heap d es) (t : Tab w s.heap ks es) (hn : ks.Nodup) (h : ∀ tk, Q (valE es (spotN ks k)) { s with toks := tk }) :
    wpAny (model prog w) A (dictGet d u) Q E s := by
  obtain ⟨ep, _, o, ho, _, hd⟩ := D
  unfold dictGet
  try with_reducible refine wpAny_holding ?_
  refine wpAny_bind (pyHash_key k u A s _ hk.1 (by have := hk.2; omega) (wpAny_bind ?_))
  refine find_key (s := { s with toks := s.toks + k.draws }) hu hk ho hd t hn ?_
  have h := h (s.toks + k.draws)
  cases e : spotN ks k with
  | none => rw [e] at h; exact wpAny_pure h
  | some i =>
    rw [e] at h
    refine wpAny_bind (wpAny_dictEntries (s := { s with toks := s.toks + k.draws }) ho hd (wpAny_pure ?_))
    show Q ((es.toArray[i]?).map (·.val)) _
    rw [show es.toArray[i]? = es[i]? by simp]
    exact h
theorem set_at {v : Value} {Q : Unit → Shared → Prop} (hu : A.units + 8 < cLine) (hk : KeyIs s.heap k u) (D : DAt s.heap d es) (t : Tab w s.heap ks es) (hn : ks.Nodup) (hz : es.length ≤ sizeLine)
    (h : ∀ h' tk, DAt h' d (setE w es k u v (spotN ks k)) → Heap.SameBut d s.heap h' → Q () { s with heap := h', toks := tk }) : wpAny (model prog w) A (dictSet d u v) Q E s := by
  obtain ⟨ep, hs, o, ho, hx, hd⟩ := D
  unfold dictSet
  try with_reducible refine wpAny_holding ?_
  refine wpAny_bind (pyHash_key k u A s _ hk.1 (by have := hk.2; omega) ?_)
  unfold dictSetHashed
  try with_reducible refine wpAny_holding ?_
  refine wpAny_bind ?_
  refine find_key (s := { s with toks := s.toks + k.draws }) hu hk ho hd t hn ?_
  cases e : spotN ks k with
  | none =>
    rw [e] at h
    refine wpAny_bind (wpAny_rule (wpAny_updateDictKeys (hz := by simpa using hz) (s := { s with toks := s.toks + k.draws }) ho hd (h _ _ ⟨ep + 1, hs, _, Heap.get?_update_self _ ho (Obj.isFreed_of_dict (Obj.data_mapDictKeys hd _)), hx.mapDictKeys _, ?_⟩ (Heap.SameBut.update ..))))
    rw [Obj.data_mapDictKeys hd]
    simp [setE]
  | some i =>
    rw [e] at h
    refine wpAny_bind (wpAny_rule (wpAny_bind (wpAny_updateDict (s := { s with toks := s.toks + k.draws }) ho hd (wpAny_point (h _ _ ⟨ep, hs, _, Heap.get?_update_self _ ho (Obj.isFreed_of_dict (Obj.data_mapDict hd _)), hx.mapDict _, ?_⟩ (Heap.SameBut.update ..))))))
    rw [Obj.data_mapDict hd]
    simp [setE]
/-- d[k] -/
theorem item_at {v : Value} {Q : Value → Shared → Prop} (hu : A.units + 9 < cLine) (hk : KeyIs s.heap k u) (D : DAt s.heap d es) (t : Tab w s.heap ks es) (hn : ks.Nodup) (hv : valE es (spotN ks k) = some v) (h : ∀ tk, Q v { s with toks := tk }) :
    wpAny (model prog w) A (getItem (.ref d) u) Q E s := by
  unfold getItem
  try with_reducible refine wpAny_holding ?_
  refine wpAny_bind (wpAny_sequenceKey D.typeIs (by decide) ?_)
  refine wpAny_bind (wpAny_callSpecial?_slot (name := Str.ofString "__getitem__") D.typeIs slot_dict_getitem (wpAny_call_entry slot_dict_getitem D.typeIs entry_dict_getitem ?_ (args_dict_getitem _ _)))
  show wpAny _ _ (dictGet d u >>= _) _ _ s
  refine wpAny_bind (get_at (by simp only [Around.in1_units]; omega) hk D t hn fun tk => ?_)
  rw [hv]
  exact wpAny_pure ⟨v, rfl, wpAny_pure (h tk)⟩
/-- d[k] = v -/
theorem put_at {v : Value} {Q : Unit → Shared → Prop} (hu : A.units + 9 < cLine) (hk : KeyIs s.heap k u) (D : DAt s.heap d es) (t : Tab w s.heap ks es) (hn : ks.Nodup) (hz : es.length ≤ sizeLine)
    (h : ∀ h' tk, DAt h' d (setE w es k u v (spotN ks k)) → Heap.SameBut d s.heap h' → Q () { s with heap := h', toks := tk }) : wpAny (model prog w) A (setItem (.ref d) u v) Q E s := by
  unfold setItem
  try with_reducible refine wpAny_holding ?_
  refine wpAny_bind (wpAny_sequenceKey D.typeIs (by decide) ?_)
  refine wpAny_bind (wpAny_callSpecial?_slot (name := Str.ofString "__setitem__") D.typeIs slot_dict_setitem (wpAny_call_entry slot_dict_setitem D.typeIs entry_dict_setitem ?_ (args_dict_setitem _ _ _)))
  show wpAny _ _ (Builtin.Dict.notOrdered "__setitem__" ⟨[.ref d, u, v], []⟩ >>= _) _ _ s
  refine wpAny_bind (wpAny_notOrdered_dict D.typeIs ?_)
  show wpAny _ _ (dictSet d u v >>= _) _ _ s
  exact wpAny_bind (set_at (by simp only [Around.in1_units]; omega) hk D t hn hz fun h' tk h1 h2 => wpAny_pure ⟨.none, rfl, wpAny_pure (h h' tk h1 h2)⟩)
end
end Cl

/-! dicts with keys of any kind, by data -/
namespace Cl
open PySem PySem.Spec PyProof.Rows L2

/-! ### what a dict holds -/
abbrev GKV := List (PyData × PyData)
def sameK (a b : PyData) : Bool := decide (nkey a = nkey b)
def hashK (d : PyData) : Bool := match nkey d with
  | some k => decide (k.depth ≤ 8)
  | none => false
def getG : GKV → PyData → Option PyData
  | [], _ => none
  | (x, y) :: r, d => if sameK x d = true then some y else getG r d
def putG : GKV → PyData → PyData → GKV
  | [], d, e => [(d, e)]
  | (x, y) :: r, d, e => if sameK x d = true then (x, e) :: r else (x, y) :: putG r d e
theorem hashK_of {d : PyData} (h : hashK d = true) : ∃ k, nkey d = some k ∧ k.depth ≤ 8 := by
  unfold hashK at h
  cases e : nkey d with
  | none => rw [e] at h; cases h
  | some k => rw [e] at h; exact ⟨k, rfl, of_decide_eq_true h⟩
theorem nkeys_cons {d : PyData} {ds : List PyData} {ks : List NestedKey} (e : nkeys (d :: ds) = some ks) : ∃ k ks', nkey d = some k ∧ nkeys ds = some ks' ∧ ks = k :: ks' := by
  rw [nkeys] at e
  cases h1 : nkey d with
  | none => rw [h1] at e; cases e
  | some k =>
    cases h2 : nkeys ds with
    | none => rw [h1, h2] at e; cases e
    | some ks' => rw [h1, h2] at e; cases e; exact ⟨k, ks', rfl, rfl, rfl⟩
theorem nkeys_mk {d : PyData} {ds : List PyData} {k : NestedKey} {ks : List NestedKey} (h1 : nkey d = some k) (h2 : nkeys ds = some ks) : nkeys (d :: ds) = some (k :: ks) := by
  rw [nkeys, h1, h2]
theorem sameK_iff {a b : PyData} {x y : NestedKey} (h1 : nkey a = some x) (h2 : nkey b = some y) : sameK a b = decide (x = y) := by
  unfold sameK
  rw [h1, h2]
  by_cases h : x = y
  · subst h; simp
  · rw [decide_eq_false h, decide_eq_false fun z => h (Option.some.inj z)]
/-! ### data as keys of the heap -/
section
variable {X : Cx} {pins : List (Addr × Obj)} {σ : L2.St} {H : Hp} {s : Shared} {fz : Addr → Prop}
mutual
theorem Rp.nested (I : L2.Inv X pins σ H s) : ∀ (d : PyData) (v : V) (u : Value) (k : NestedKey), Rp X.kw H fz d v → RelV v u → nkey d = some k → NestedIs s.heap k u
  | .none, _, _, k, h, r, e => by cases h; cases r; cases e; exact .none
  | .bool b, _, _, k, h, r, e => by cases h; cases r; cases e; exact .bool rfl
  | .int i, _, _, k, h, r, e => by cases h; obtain ⟨t, rfl⟩ := r; cases e; exact .int _ _
  | .str x, _, _, k, h, r, e => by cases h; obtain ⟨t, rfl⟩ := r; cases e; exact .text _ _
  | .list ds, _, _, k, h, r, e => by rw [nkey] at e; cases e
  | .dict ds, _, _, k, h, r, e => by rw [nkey] at e; cases e
  | .tuple ds, _, _, k, h, r, e => by
    rw [nkey, Option.map_eq_some_iff] at e
    obtain ⟨ks, e1, rfl⟩ := e
    cases h with
    | tup hq ra =>
      cases r
      obtain ⟨its, rv, ⟨o, ho, hc, n, hd⟩, _⟩ := I.tuple (hq.sq)
      exact .tup ho hc hd (by simpa using Rp.nestedAll I ds _ its ks ra rv e1)
theorem Rp.nestedAll (I : L2.Inv X pins σ H s) : ∀ (ds : List PyData) (vs : List V) (us : List Value) (ks : List NestedKey), RpAll X.kw H fz ds vs → Vals vs us → nkeys ds = some ks → NestedAll s.heap ks us
  | [], _, _, ks, h, r, e => by cases h; cases r; rw [nkeys] at e; cases e; exact .nil
  | d :: ds, _, _, ks, h, r, e => by
    obtain ⟨k, ks', e1, e2, rfl⟩ := nkeys_cons e
    cases h with
    | cons h1 h2 =>
      cases r with
      | cons r1 r2 => exact .cons (Rp.nested I d _ _ k h1 r1 e1) (Rp.nestedAll I ds _ _ ks' h2 r2 e2)
end
theorem RB.keyIs (I : L2.Inv X pins σ H s) {d : PyData} {v : V} {u : Value} {k : NestedKey} (h : RB X.kw H fz d v) (r : RelV v u) (e : nkey d = some k) (hk : k.depth ≤ 8) : KeyIs s.heap k u := by
  refine ⟨?_, hk⟩
  cases d with
  | list ds => rw [nkey] at e; cases e
  | dict ds => rw [nkey] at e; cases e
  | none => exact Rp.nested I _ _ _ _ h r e
  | bool b => exact Rp.nested I _ _ _ _ h r e
  | int b => exact Rp.nested I _ _ _ _ h r e
  | str b => exact Rp.nested I _ _ _ _ h r e
  | tuple b => exact Rp.nested I _ _ _ _ h r e
theorem tab_of (I : L2.Inv X pins σ H s) : ∀ {ds : List PyData} {ks : List V} {es : List DictEntry} {nks : List NestedKey}, RpAll X.kw H fz ds ks → Vals ks (es.map (·.key)) → nkeys ds = some nks → (∀ k ∈ nks, k.depth ≤ 8) →
    es.map (·.hash) = nks.map (NestedKey.hash X.w) → Tab X.w s.heap nks es
  | [], _, es, nks, .nil, k1, e, _, _ => by
    rw [nkeys] at e; cases e
    cases es with
    | nil => exact .nil
    | cons _ _ => cases k1
  | d :: ds, _, es, nks, .cons r t, k1, e, hd, hh => by
    obtain ⟨k, ks', e1, e2, rfl⟩ := nkeys_cons e
    cases es with
    | nil => cases k1
    | cons e0 es =>
      cases k1 with
      | cons q1 q2 =>
        rw [List.map_cons, List.map_cons, List.cons.injEq] at hh
        exact .cons ⟨⟨Rp.nested I d _ _ k r q1 e1, hd k List.mem_cons_self⟩, hh.1⟩ (tab_of I t q2 e2 (fun k hk => hd k (List.mem_cons_of_mem _ hk)) hh.2)
end
theorem spotN_cons (n : NestedKey) (ns : List NestedKey) (k : NestedKey) : spotN (n :: ns) k = if n = k then some 0 else (spotN ns k).map (· + 1) := by
  unfold spotN
  rw [List.findIdx?_cons]
  by_cases h : n = k
  · subst h; simp
  · simp [h]
section
variable {K : KW} {H : Hp} {fz : Addr → Prop}
theorem getG_at : ∀ {kvs : GKV} {vs : List V} {es : List DictEntry} {nks : List NestedKey} {d : PyData} {k : NestedKey}, RpAll K H fz (kvs.map (·.2)) vs → Vals vs (es.map (·.val)) → nkeys (kvs.map (·.1)) = some nks → nkey d = some k →
    match getG kvs d with
    | some e => ∃ v u, valE es (spotN nks k) = some u ∧ RelV v u ∧ Rp K H fz e v
    | none => spotN nks k = none
  | [], _, es, nks, d, k, .nil, v1, e1, e2 => by
    rw [List.map_nil, nkeys] at e1; cases e1
    rfl
  | (x, y) :: kvs, _, es, nks, d, k, .cons (v := v) r t, v1, e1, e2 => by
    obtain ⟨n, ns, h1, h2, rfl⟩ := nkeys_cons e1
    cases es with
    | nil => cases v1
    | cons e0 es =>
      cases v1 with
      | cons q1 q2 =>
        have ih := getG_at (d := d) t q2 h2 e2
        rw [getG, sameK_iff h1 e2, spotN_cons]
        by_cases h : n = k
        · rw [decide_eq_true h, if_pos rfl, if_pos h]
          exact ⟨v, e0.val, rfl, q1, r⟩
        · rw [decide_eq_false h, if_neg Bool.false_ne_true, if_neg h]
          cases hg : getG kvs d with
          | none => rw [hg] at ih; rw [ih]; rfl
          | some e =>
            rw [hg] at ih
            obtain ⟨v', u, a1, a2, a3⟩ := ih
            refine ⟨v', u, ?_, a2, a3⟩
            cases hs : spotN ns k with
            | none => rw [hs] at a1; cases a1
            | some j => rw [hs] at a1; exact a1
/-- the entries behind a store -/
theorem putG_at {w : World} : ∀ {kvs : GKV} {ks vs : List V} {es : List DictEntry} {nks : List NestedKey} {d e : PyData} {k : NestedKey} {x v : V} {u z : Value}, RpAll K H fz (kvs.map (·.1)) ks → RpAll K H fz (kvs.map (·.2)) vs → Vals ks (es.map (·.key)) → Vals vs (es.map (·.val)) →
    nkeys (kvs.map (·.1)) = some nks → nkey d = some k → es.map (·.hash) = nks.map (NestedKey.hash w) → Rp K H fz d x → Rp K H fz e v → RelV x u → RelV v z →
    ∃ ks' vs' nks', RpAll K H fz ((putG kvs d e).map (·.1)) ks' ∧ RpAll K H fz ((putG kvs d e).map (·.2)) vs' ∧ Vals ks' ((setE w es k u z (spotN nks k)).map (·.key)) ∧ Vals vs' ((setE w es k u z (spotN nks k)).map (·.val)) ∧
      nkeys ((putG kvs d e).map (·.1)) = some nks' ∧ (setE w es k u z (spotN nks k)).map (·.hash) = nks'.map (NestedKey.hash w) ∧ (∀ y, y ∈ nks' ↔ y ∈ nks ∨ y = k) ∧ (nks.Nodup → nks'.Nodup)
  | [], _, _, es, nks, d, e, k, x, v, u, z, .nil, .nil, k1, v1, e1, e2, hh, rx, rv, ru, rz => by
    rw [List.map_nil, nkeys] at e1; cases e1
    cases es with
    | cons _ _ => cases k1
    | nil => exact ⟨[x], [v], [k], .cons rx .nil, .cons rv .nil, .cons ru .nil, .cons rz .nil, nkeys_mk e2 (show nkeys [] = some [] by rw [nkeys]), rfl, fun y => by simp, fun _ => by simp⟩
  | (p, q) :: kvs, _, _, es, nks, d, e, k, x, v, u, z, .cons (v := kp) (vs := kps) rk tk, .cons (v := vp) (vs := vps) rq tq, k1, v1, e1, e2, hh, rx, rv, ru, rz => by
    obtain ⟨n, ns, h1, h2, rfl⟩ := nkeys_cons e1
    cases es with
    | nil => cases k1
    | cons e0 es =>
      cases k1 with
      | cons q1 q2 =>
        cases v1 with
        | cons p1 p2 =>
          rw [List.map_cons, List.map_cons, List.cons.injEq] at hh
          rw [putG, sameK_iff h1 e2, spotN_cons]
          by_cases h : n = k
          · rw [decide_eq_true h, if_pos rfl, if_pos h]
            refine ⟨kp :: kps, v :: vps, n :: ns, .cons rk tk, .cons rv tq, .cons q1 q2, .cons rz p2, nkeys_mk h1 h2, ?_, fun y => ?_, id⟩
            · show e0.hash :: es.map (·.hash) = _
              rw [hh.1, hh.2]; rfl
            · subst h; exact ⟨.inl, fun z => z.elim id fun e => by rw [e]; exact List.mem_cons_self⟩
          · rw [decide_eq_false h, if_neg Bool.false_ne_true, if_neg h]
            obtain ⟨ks', vs', nks', a1, a2, a3, a4, a5, a6, a7, a8⟩ := putG_at tk tq q2 p2 h2 e2 hh.2 rx rv ru rz
            have es_ : setE w (e0 :: es) k u z ((spotN ns k).map (· + 1)) = e0 :: setE w es k u z (spotN ns k) := by
              cases spotN ns k with
              | none => rfl
              | some j => rfl
            rw [es_]
            refine ⟨kp :: ks', vp :: vs', n :: nks', .cons rk a1, .cons rq a2, .cons q1 a3, .cons p1 a4, nkeys_mk h1 a5, ?_, fun y => ?_, fun hn => ?_⟩
            · show e0.hash :: _ = _
              rw [hh.1, a6]; rfl
            · rw [List.mem_cons, a7, List.mem_cons]
              constructor
              · rintro (z | z | z)
                · exact .inl (.inl z)
                · exact .inl (.inr z)
                · exact .inr z
              · rintro ((z | z) | z)
                · exact .inl z
                · exact .inr (.inl z)
                · exact .inr (.inr z)
            · rw [List.nodup_cons] at hn ⊢
              refine ⟨fun hm => ?_, a8 hn.2⟩
              rcases (a7 n).mp hm with z | z
              · exact hn.1 z
              · exact h z
end
end Cl

/-! rules for dicts with keys of any kind -/
namespace Cl
open PySem PySem.Spec PyProof.Rows L2

/-! ### what holds of a dict at every state -/
def KeyV (X : Cx) (H : Hp) (y : V) (k : NestedKey) : Prop := ∀ (pins : List (Addr × Obj)) (σ : L2.St) (s : Shared) (u : Value), L2.Inv X pins σ H s → RelV y u → KeyIs s.heap k u
def GTab (X : Cx) (H : Hp) (nks : List NestedKey) (es : List DictEntry) : Prop := ∀ (pins : List (Addr × Obj)) (σ : L2.St) (s : Shared), L2.Inv X pins σ H s → Tab X.w s.heap nks es
section
variable {X : Cx} {H : Hp} {fz : Addr → Prop}
theorem RB.keyV {d : PyData} {v : V} {k : NestedKey} (h : RB X.kw H fz d v) (e : nkey d = some k) (hk : k.depth ≤ 8) : KeyV X H v k := fun _ _ _ _ I r => RB.keyIs I h r e hk
theorem gtab {ds : List PyData} {ks : List V} {es : List DictEntry} {nks : List NestedKey} (r : RpAll X.kw H fz ds ks) (k1 : Vals ks (es.map (·.key))) (e : nkeys ds = some nks) (hd : ∀ k ∈ nks, k.depth ≤ 8)
    (hh : es.map (·.hash) = nks.map (NestedKey.hash X.w)) : GTab X H nks es := fun _ _ _ I => tab_of I r k1 e hd hh
theorem DAt.of {pins : List (Addr × Obj)} {σ : L2.St} {s : Shared} {a : Addr} {ep : Nat} {es : List DictEntry} (I : L2.Inv X pins σ H s) (e : H a = some (.ext (DictHas a ep es))) : DAt s.heap a es := ⟨ep, (I.hok a _ e).1⟩
end

/-! ### d[k], k in d, d.get -/
def ixG : OpX := fun x y Q => match x with
  | .dict kvs => hashK y = true ∧ ∃ d, getG kvs y = some d ∧ Q (.dat d)
  | _ => ixX x y Q
def inY : OpX := fun x y Q => match y with
  | .dict kvs => hashK x = true ∧ Q (.dat (.bool (getG kvs x).isSome))
  | _ => inX x y Q
def notinY : OpX := fun x y Q => match y with
  | .dict kvs => hashK x = true ∧ Q (.dat (.bool (!(getG kvs x).isSome)))
  | _ => notinX x y Q
def lenY : C1X := fun d Q => match d with
  | .dict kvs => kvs.length ≤ sizeLine ∧ Q (.dat (.int kvs.length))
  | _ => lenX d Q
section
variable {X : Cx}
theorem ix_G (hu : X.A.units + 64 < cLine) : IxR X (rO X.kw ixG) := by
  rintro value slice pins s σ H x y v u Q I rx ry ⟨fz, d, e, hd, he, Q', q, k⟩ hs
  cases d with
  | dict kvs =>
    obtain ⟨hk, r, hg, q⟩ := q
    obtain ⟨nk, e1, e2⟩ := hashK_of hk
    obtain ⟨a, ep, es, ks, vs, rfl, hq, k1, v1, r1, r2, nks, n1, n2, n3, n4⟩ := hd
    cases rx
    have z := getG_at r2 v1 n1 e1
    rw [hg] at z
    obtain ⟨rv, ru, z1, z2, z3⟩ := z
    have D := DAt.of I hq
    refine subscriptTail_builtinR (x := ru) D.typeIs slot_dict_getitem.lookup ?_ hs
    exact item_at (by omega) (RB.keyIs I he ry e1 e2) D (gtab r1 k1 n1 n3 n4 _ _ _ I) n2 z1 fun tk => ⟨rfl, rv, H, I.tok tk, z2, k _ _ _ q (.same z3)⟩
  | _ => exact ix_data value slice pins s σ H x y v u Q I rx ry ⟨fz, _, e, hd, he, Q', q, k⟩ hs
variable {ZP : ZT} {a b : Expr} {pos : Pos} {ta tb : TLD}
theorem de_ixG (hu : X.A.units + 64 < cLine) (ha : DL X ZP a ta) (hb : DL X ZP b tb) (hs : PlainIx b := by exact fun _ _ => rfl) : DE X ZP (.Subscript a b pos) (t_op ixG ta tb) :=
  ⟨PE.imp (pe_ix (ix_G hu) ha.pe hb.pe hs) fun σ H Q h => op_core h⟩
theorem c_lenY : CallR X (.builtin "len") (rC1 X.kw lenY) := by
  rintro pins s σ H xs us Q I r ⟨x, fz, d, rfl, hd, Q', q, k⟩
  cases d with
  | dict kvs =>
    obtain ⟨hz, q⟩ := q
    obtain ⟨a, ep, es, ks, vs, rfl, hq, k1, v1, r1, r2, hh⟩ := hd
    obtain ⟨u, rfl, ru⟩ := vals1 r
    cases ru
    have D := DAt.of I hq
    obtain ⟨ep, _, o, ho, hex, hdd⟩ := id D
    have hl : kvs.length = es.length := by
      have h1 := r1.length
      have h2 := k1.length
      simp only [List.length_map] at h1 h2
      omega
    refine PyProof.Rows.call_len_slot (n := kvs.length) D.typeIs F.slot_dict_len (fun Q'' hq => call_len_raw D.ne ⟨o, ho, hex, hdd⟩ (by rw [show es.toArray.size = kvs.length by simp [hl]]; exact hq)) (by omega) (by rw [sizeLine_eq] at hz; omega) ?_
    exact ⟨.int _, H, I.tok _, ⟨_, rfl⟩, k _ _ _ q (.same (.int _))⟩
  | _ => exact c_len pins s σ H _ us Q I r ⟨x, fz, _, rfl, hd, Q', q, k⟩
end
end Cl

/-! d.get(k), d[k] = v, {k: v, ..}, for k in d -/
namespace Cl
open PySem PySem.Spec PyProof.Rows L2

theorem Frm.skip {w : Addr → Prop} {g g2 : GW} {H H2 H3 : Hp} {p : Addr} {o : HO} (hp : H p = none) (f : Frm w g (upd H p o) g2 H2) (f2 : Frm (fun a => a = p) g2 H2 g2 H3) : Frm w g H g2 H3 := by
  have up : ∀ {a : Addr} {u : HO}, H a = some u → upd H p o a = some u := fun {a u} e => by rw [upd_ne (ne_of_none e hp)]; exact e
  refine ⟨fun a u e z n => f2.keep a u (f.keep a u (up e) z n) (f.zsn a u (up e) z) (ne_of_none e hp), f.fzm, f.zsm, fun a u e n h => f.fzn a u (up e) n h, fun a u e z => f.zsn a u (up e) z, fun a xs h => f2.tups a xs (f.tups a xs (h.go fun _ => up)), fun a u e => ?_⟩
  obtain ⟨u', e'⟩ := f.any a u (up e)
  exact f2.any a u' e'

section
variable {X : Cx} {ZP : ZT} {o e f : Expr} {apos cpos pos pos' : Pos} {to : TLD} {tk tx : TVD}
def t_gget1 (to : TLD) (tk : TVD) : TVD := fun cs Q => to cs fun l cs1 => (∃ kvs, l.get cs1 = some (.dict kvs)) ∧ tk cs1 fun k cs2 => ∃ kvs, l.get cs2 = some (.dict kvs) ∧ hashK k = true ∧ Q ((getG kvs k).getD .none) cs2
def t_gget2 (to : TLD) (tk tx : TVD) : TVD := fun cs Q => to cs fun l cs1 => (∃ kvs, l.get cs1 = some (.dict kvs)) ∧ tk cs1 fun k cs2 => tx cs2 fun d cs3 => ∃ kvs, l.get cs3 = some (.dict kvs) ∧ hashK k = true ∧ Q ((getG kvs k).getD d) cs3
end
end Cl

namespace Cl
open PySem PySem.Spec PyProof.Rows L2

/-! ### d[k] = v -/
def sGPut (X : Cx) (td ty tv : TE) : TS := fun D σ H => tv σ H fun v H1 => td σ H1 fun x H2 => ty σ H2 fun y H3 => ∃ a ep es nks k, x = .ref a ∧ H3 a = some (.ext (DictHas a ep es)) ∧ GTab X H3 nks es ∧ nks.Nodup ∧ KeyV X H3 y k ∧ es.length ≤ sizeLine ∧
  ∀ u z ep', RelV y u → RelV v z → D.nx σ (upd H3 a (.ext (DictHas a ep' (setE X.w es k u z (spotN nks k)))))
section
variable {X : Cx} {o i value : Expr} {pos pos' : Pos} {td ty tv : TE}
theorem ext_write {pins : List (Addr × Obj)} {σ : L2.St} {H : Hp} {s : Shared} {a : Addr} {ep ep' : Nat} {es es' : List DictEntry} {h' : Heap} {tk : Nat} (I : L2.Inv X pins σ H s) (e : H a = some (.ext (DictHas a ep es))) (D : DictHas a ep' es' h') (sb : Heap.SameBut a s.heap h') :
    L2.Inv X pins σ (upd H a (.ext (DictHas a ep' es'))) { s with heap := h', toks := tk } :=
  I.write (t' := tk) (by rw [e]; exact True.intro) (.inl rfl) (fun b u hb q => sb.extBut b u hb q) (let ⟨_, o, ho, _⟩ := D; ⟨o, ho⟩) (ext_dict D)
theorem ps_gput (hu : X.A.units + 64 < cLine) (ho : PE X o td) (hi : PE X i ty) (hv : PE X value tv) (hs : swapsWith value (some (.Subscript o i pos')) pos.line X.env = pure false) :
    PS X (.Assign [.Subscript o i pos'] value pos) (sGPut X td ty tv) := by
  refine ⟨fun pins s σ H D I h => ?_⟩
  refine wpAny_Assign_Subscript (thn (hv.run pins s σ H _ I h) fun r s1 ⟨v, H1, I1, rv, q1⟩ => thn (ho.run pins s1 σ H1 _ I1 q1) fun u s2 ⟨x, H2, I2, rx, q2⟩ => thn (hi.run pins s2 σ H2 _ I2 q2) fun iv s3 ⟨y, H3, I3, ry, a, ep, es, nks, k, ex, hq, ht, hn, hk, hz, q3⟩ => ?_) hs
  subst ex
  obtain rfl : u = Value.ref a := rx
  exact put_at (by omega) (hk _ _ _ _ I3 ry) (DAt.of I3 hq) (ht _ _ _ I3) hn hz fun h' tk ⟨ep', D'⟩ sb => ⟨σ, _, ext_write I3 hq D' sb, q3 _ _ _ ry rv⟩
end
section
variable {X : Cx} {ZP : ZT} {x : Str} {xpos pos pos' : Pos} {e f : Expr} {tk tx : TVD}
def t_gput (i : Nat) (tk tx : TVD) : TSD := fun D cs => tx cs fun d cs1 => (∃ kvs, cs1[i]? = some (some (.gd kvs))) ∧ tk cs1 fun k cs2 => ∃ kvs, cs2[i]? = some (some (.gd kvs)) ∧ hashK k = true ∧ kvs.length < sizeLine ∧ D.nx (cs2.set i (some (.gd (putG kvs k d))))
theorem put_rs {K : KW} {g : GW} {H : Hp} {a : Addr} {ep ep' : Nat} {es : List DictEntry} {ks vs : List V} {nks : List NestedKey} {kvs : GKV} {kd d : PyData} {y v : V} {u z : Value} {nk : NestedKey} (hq : H a = some (.ext (DictHas a ep es))) (nf : ¬ g.fz a) (nz : g.zs a = none)
    (k1 : Vals ks (es.map (·.key))) (v1 : Vals vs (es.map (·.val))) (r1 : RpAll K H g.fz (kvs.map (·.1)) ks) (r2 : RpAll K H g.fz (kvs.map (·.2)) vs) (n1 : nkeys (kvs.map (·.1)) = some nks) (n2 : nks.Nodup) (n3 : ∀ k ∈ nks, k.depth ≤ 8) (n4 : es.map (·.hash) = nks.map (NestedKey.hash K.w))
    (e1 : nkey kd = some nk) (e2 : nk.depth ≤ 8) (rk : Rp K H g.fz kd y) (rd : Rp K H g.fz d v) (ry : RelV y u) (rv : RelV v z) :
    RS K g (upd H a (.ext (DictHas a ep' (setE K.w es nk u z (spotN nks nk))))) (.gd (putG kvs kd d)) (.ref a) := by
  obtain ⟨ks', vs', nks', a1, a2, a3, a4, a5, a6, a7, a8⟩ := putG_at r1 r2 k1 v1 n1 e1 n4 rk rd ry rv
  have fz : ∀ c, g.fz c → c ≠ a := fun c h z => by subst z; exact nf h
  have tn : ∀ c zs, TP H c zs → c ≠ a := fun c zs q z => by subst z; exact q.not hq fun _ _ z => nomatch z
  have go : ∀ {ds us}, RpAll K H g.fz ds us → RpAll K (upd H a (.ext (DictHas a ep' (setE K.w es nk u z (spotN nks nk))))) g.fz ds us := fun r => RpAll.go (fun _ h => h) (fun c o h e => by rw [upd_ne (fz c h)]; exact e) (fun c zs q => q.ne (tn c zs q)) r
  refine ⟨a, rfl, nf, nz, ep', _, ks', vs', upd_same, a3, a4, go a1, go a2, nks', a5, a8 n2, fun k hk => ?_, a6⟩
  rcases (a7 k).mp hk with z | z
  · exact n3 k z
  · rw [z]; exact e2
theorem gd_len {K : KW} {H : Hp} {fz : Addr → Prop} {kvs : GKV} {ks : List V} {es : List DictEntry} (r1 : RpAll K H fz (kvs.map (·.1)) ks) (k1 : Vals ks (es.map (·.key))) : kvs.length = es.length := by
  have h1 := r1.length
  have h2 := k1.length
  simp only [List.length_map] at h1 h2
  omega
theorem ds_gput (hu : X.A.units + 64 < cLine) (i : Nat) (h : DV X ZP e tk) (h2 : DV X ZP f tx) (hN : X.N[i]? = some x := by rfl) (hv : Vis X.env.scope x := by first | exact Or.inl rfl | exact Or.inr (Or.inl rfl) | exact Or.inr (Or.inr rfl)) (hd : (x == ("__debug__" : Str)) = false := by decide)
    (hcd : (x == ("__classdict__" : Str)) = false := by decide) (hs : swapsWith f (some (.Subscript (.Name x xpos) e pos')) pos.line X.env = pure false := by rfl) : DS X ZP (.Assign [.Subscript (.Name x xpos) e pos'] f pos) (t_gput i tk tx) := by
  refine ⟨PS.imp (ps_gput hu (pe_var hN hv hd hcd) h.pe h2.pe hs) ?_⟩
  rintro D σ H ⟨B, cs, g, R, D', q, p⟩
  refine ⟨B, cs, g, R, _, q, fun d cs1 w g1 H1 q1 R1 r1 s1 f1 => ?_⟩
  obtain ⟨⟨kvs0, e0⟩, q1⟩ := q1
  obtain ⟨u, e2, _⟩ := R1.slot i _ e0
  refine ⟨u, e2, B, cs1, g1, R1, _, q1, fun kd cs2 y g2 H2 q2 R2 r2 s2 f2 => ?_⟩
  obtain ⟨kvs, e3, hk, hl, q3⟩ := q2
  obtain ⟨nk, h1, h2⟩ := hashK_of hk
  obtain ⟨u', e2', a, rfl, nf, nz, ep, es, ks, vs, hq, k1, v1, p1, p2, nks, n1, n2, n3, n4⟩ := R2.slot i _ e3
  rw [e2] at e2'; cases e2'
  have rd := Rp.frm f2 R1.fzow r1
  refine ⟨a, ep, es, nks, nk, rfl, hq, gtab p1 k1 n1 n3 n4, n2, (RB.keyV r2.rb h1 h2), by rw [← gd_len p1 k1]; omega, fun u z ep' ry rz => ?_⟩
  obtain ⟨R3, f3, s3⟩ := R2.updObj e3 e2 (put_rs (ep' := ep') hq nf nz k1 v1 p1 p2 n1 n2 n3 n4 h1 h2 r2 rd ry rz)
  exact p.nx _ _ g2 _ R3 (((f1.stay R.fzow).trans (f2.stay R1.fzow)).trans (f3.stay R2.fzow)) q3
end

/-! ### {k: v, ..} -/
def putAll : GKV → GKV → GKV
  | acc, [] => acc
  | acc, (k, v) :: r => putAll (putG acc k v) r
abbrev TPD := CS → (GKV → CS → Prop) → Prop
def tPD (K : KW) (ZP : ZT) (t : TPD) : L2.St → Hp → (List (V × V) → Hp → Prop) → Prop := fun σ H Q => ∃ B cs g, Rel K ZP B g H cs σ ∧ ∃ Q', t cs Q' ∧
  ∀ kvs cs' ps g' H', Q' kvs cs' → Rel K ZP B g' H' cs' σ → RpAll K H' g'.fz (kvs.map (·.1)) (ps.map (·.1)) → RpAll K H' g'.fz (kvs.map (·.2)) (ps.map (·.2)) → (∀ a, ow cs' σ a → ow cs σ a) → Frm (ow cs σ) g H g' H' → Q ps H'
structure DPr (X : Cx) (ZP : ZT) (pos : Pos) (keys : List (Option Expr)) (values : List Expr) (t : TPD) : Prop where
  run : ∀ (pins : List (Addr × Obj)) (s : Shared) (σ : L2.St) (H : Hp) (Q : List (V × V) → Hp → Prop), L2.Inv X pins σ H s → tPD X.kw ZP t σ H Q →
    wpAny (model X.prog X.w) X.A (evalPairs (pairTrees keys values X.env pos)) (fun vs s' => ∃ ps H', L2.Inv X pins σ H' s' ∧ VV ps vs ∧ Q ps H') X.xe s
def t_pnil : TPD := fun cs Q => Q [] cs
def t_pcons (tk tv : TVD) (t : TPD) : TPD := fun cs Q => tk cs fun k cs1 => tv cs1 fun v cs2 => t cs2 fun kvs cs3 => Q ((k, v) :: kvs) cs3
def t_disp (t : TPD) : TD := fun cs Q => t cs fun kvs cs1 => (∀ kv ∈ kvs, hashK kv.1 = true) ∧ kvs.length ≤ 15 ∧ Q (.gd (putAll [] kvs)) cs1
section
variable {X : Cx} {ZP : ZT} {pos : Pos} {keys : List (Option Expr)} {values : List Expr} {ke ve : Expr} {tk tv : TVD} {t : TPD}
end
end Cl

/-! for x in a list, a tuple, a text, a dict -/
namespace Cl
open PySem PySem.Spec PyProof.Rows L2
/-- the keys of a dict at a, as values ks -/
def ItK (a : Addr) (ep : Nat) (es : List DictEntry) (ks : List V) : It :=
  ⟨fun i H => H a = some (.ext (DictHas a ep es)) ∧ ∃ x, ks[i]? = some x, fun i H x H' => H' = H ∧ ks[i]? = some x, fun i H => H a = some (.ext (DictHas a ep es)) ∧ ks.length ≤ i⟩
theorem turn_keys {P : Program} {w : World} {K : PySem.W.Frag} {tg : Expr} (a it : Addr) (ep : Nat) (es : List DictEntry) (ks : List V) (k1 : Vals ks (es.map (·.key))) : Turn P w K tg (ItK a ep es ks) [it] it (fun i h => h.IsKeyIter it a i es.length ep) where
  mem := by simp
  obj := fun i h st b hb => by
    have e : b = it := by simpa using hb
    subst e
    obtain ⟨o, e, c, d⟩ := st
    exact ⟨o, e, fun v z => by rw [d] at z; cases z⟩
  keep := fun i h h' st k => by
    obtain ⟨o, e, c, d⟩ := st
    exact ⟨o, k it (by simp) o e, c, d⟩
  item := by
    intro X hP hw hK hc i pins s σ H E I hf st hg
    subst hP hw hK
    obtain ⟨hq, x, hx⟩ := hg
    obtain ⟨f0, f1, f2, f3, f4, f5⟩ := hf it (by simp)
    obtain ⟨⟨_, o, ho, hex, hd⟩, _⟩ := I.hok a _ hq
    obtain ⟨u, hu, ru⟩ := k1.get hx
    have hl : i < es.toArray.size := by
      have := (List.getElem?_eq_some_iff.mp hu).1
      simpa using this
    have e0 : es.toArray[i].key = u := by
      rw [List.getElem?_map] at hu
      obtain ⟨e1, h1, h2⟩ := Option.map_eq_some_iff.mp hu
      obtain ⟨h3, h4⟩ := List.getElem?_eq_some_iff.mp h1
      rw [← h2, ← h4]; simp
    refine wpAny_pyNext_keys_item_raw (es := es.toArray) (by simpa using st) ⟨o, ho, hex, hd⟩ hl fun h' st' sb => ?_
    rw [e0]
    have I1 : Inv X pins σ H { s with heap := h' } := I.turned (t' := s.toks) (fun b o hb e => (sb.2 b hb).trans e) f0 f1 f3 f4 f5
    obtain ⟨o2, e, c, d⟩ := id st'
    exact ⟨u, rfl, go_of (s := { s with heap := h' }) e c d (by decide) ⟨x, H, I1, ru, ⟨rfl, hx⟩, by simpa using st', fun b hb => (hf b hb).1⟩⟩
  done := by
    intro X hP hw hK hc i pins s σ H E I hf st hg
    subst hP hw hK
    obtain ⟨hq, hx⟩ := hg
    obtain ⟨f0, f1, f2, f3, f4, f5⟩ := hf it (by simp)
    obtain ⟨⟨_, o, ho, hex, hd⟩, _⟩ := I.hok a _ hq
    have hl := k1.length
    rw [List.length_map] at hl
    exact wpAny_pyNext_keys_end_raw (es := es.toArray) (I.ok.hd hc) (by simpa using st) ⟨o, ho, hex, hd⟩ (by simp; omega) fun h' eb => ⟨rfl, I.turned (t' := s.toks) (fun b o hb e => eb b o hb e) f0 f1 f3 f4 f5⟩
  self := fun A i s Q E st h => wpAny_pyIter_keyiter st h

/-- what is walked over -/
def seqY : PyData → Option (List PyData)
  | .list ds => some ds
  | .tuple ds => some ds
  | .str z => some (z.cps.toList.map fun c => .str ⟨#[c]⟩)
  | .dict kvs => some (kvs.map (·.1))
  | _ => none
section
variable {X : Cx} {ZP : ZT} {tg e : Expr}
def iAny (K : PySem.W.Frag) (tl : TE) : TI := fun σ H R => tl σ H fun x H1 => (∃ a, x = .ref a ∧ ((∃ xs, SqL K H1 a xs) ∧ R (Itl K a) H1 ∨ (∃ xs, SqT K H1 a xs) ∧ R (Itt K a) H1)) ∨ (∃ z, x = .str z ∧ R (Its z) H1) ∨
  ∃ a ep es ks, x = .ref a ∧ H1 a = some (.ext (DictHas a ep es)) ∧ Vals ks (es.map (·.key)) ∧ R (ItK a ep es ks) H1
theorem pi_anyS {l : Expr} {tl : TE} (hl : PE X l tl) : PI X tg l (iAny X.K tl) := by
  refine ⟨fun pins s σ H R I h => ?_⟩
  refine thn (hl.run pins s σ H _ I h) fun v s1 ⟨x, H1, I1, r1, q1⟩ => ?_
  have fp : ∀ b ∈ [s1.heap.objs.size], FpOk X pins H1 b := fun b hb => by
    have e : b = s1.heap.objs.size := by simpa using hb
    subst e
    exact I1.fpOk (Nat.le_refl _) (I1.hok.fresh (Nat.le_refl _))
  rcases q1 with ⟨a, e, q⟩ | ⟨z, e, q⟩ | ⟨a, ep, es, ks, e, hq, k1, q⟩
  · subst e
    cases r1
    rcases q with ⟨⟨xs, hq⟩, q⟩ | ⟨⟨xs, hq⟩, q⟩
    · obtain ⟨its, rv, p, hz⟩ := I1.list hq
      refine wpAny_pyIter_list p.isList ?_
      exact ⟨s1.heap.objs.size, [s1.heap.objs.size], _, _, H1, rfl, I1.kept (t' := s1.toks) fun b o e => Heap.get?_push_of_some _ e, turn_list a _, ⟨_, Heap.get?_push_size _ rfl, rfl, rfl⟩, fp, q⟩
    · obtain ⟨its, rv, p, hz⟩ := I1.tuple hq
      refine wpAny_pyIter_tuple (show s1.heap.IsTuple a its.toArray from p) ?_
      exact ⟨s1.heap.objs.size, [s1.heap.objs.size], _, _, H1, rfl, I1.kept (t' := s1.toks) fun b o e => Heap.get?_push_of_some _ e, turn_tuple a _, ⟨_, Heap.get?_push_size _ rfl, rfl, rfl⟩, fp, q⟩
  · subst e
    obtain ⟨t, rfl⟩ := r1
    cases ha : z.cps.all (· < 128)
    · exact wpAny_pyIter_wide ha (pi_one (tk := s1.toks) I1 _ (turn_str _ z t "str_iterator" (.inr rfl)) ⟨_, Heap.get?_push_size _ rfl, rfl, rfl⟩ q)
    · exact wpAny_pyIter_ascii ha (pi_one (tk := s1.toks) I1 _ (turn_str _ z t "str_ascii_iterator" (.inl rfl)) ⟨_, Heap.get?_push_size _ rfl, rfl, rfl⟩ q)
  · subst e
    cases r1
    obtain ⟨⟨hne, o, ho, hex, hd⟩, _⟩ := I1.hok a _ hq
    refine wpAny_pyIter_dict_raw (es := es.toArray) (ep := ep) (beq_eq_false_iff_ne.mpr hne) ⟨o, ho, hex, hd⟩ ?_
    exact ⟨s1.heap.objs.size, [s1.heap.objs.size], _, _, H1, rfl, I1.kept (t' := s1.toks) fun b o e => Heap.get?_push_of_some _ e, turn_keys a _ ep es ks k1, ⟨_, Heap.get?_push_size _ rfl, rfl, by simp [rawInt]⟩, fp, q⟩
def t_wany (t : TVD) : TID := fun cs Q => t cs fun d cs1 => match seqY d with
  | some ds => Q ds cs1
  | none => False
theorem di_any {t : TVD} (h : DV X ZP e t) : DI X ZP tg e (t_wany t) := by
  refine ⟨PI.imp (pi_anyS h.pe) ?_⟩
  rintro σ H R ⟨B, cs, g, Re, Q', q, k⟩
  refine ⟨B, cs, g, Re, _, q, fun d cs1 v g1 H1 q1 R1 r1 s1 f1 => ?_⟩
  cases d with
  | list ds =>
    cases r1 with
    | @lst a xs _ hf ha ra =>
      refine .inl ⟨a, rfl, .inl ⟨⟨xs, SqL.of ha⟩, k ds cs1 _ g1 H1 q1 R1 (fun g2 H2 st => ?_) s1 f1⟩⟩
      have ha2 : H2 a = some (.lst xs) := st.keep a _ hf ha
      have ra2 := st.rps ra
      refine ⟨fun i d hd => ?_, xs, SqL.of ha2, by rw [ra.length]; exact Nat.le_refl _⟩
      obtain ⟨v, hv, rv⟩ := ra2.get' hd
      refine ⟨⟨xs, v, SqL.of ha2, hv⟩, fun x H'' hy => ?_⟩
      obtain ⟨rfl, hx⟩ := hy
      have := hx xs (SqL.of ha2)
      rw [hv] at this; cases this
      exact .same rv
  | tuple ds =>
    cases r1 with
    | @tup a xs _ ha ra =>
      refine .inl ⟨a, rfl, .inr ⟨⟨xs, ha.sq⟩, k ds cs1 _ g1 H1 q1 R1 (fun g2 H2 st => ?_) s1 f1⟩⟩
      have ha2 : SqT X.kw H2 a xs := (st.tups _ _ ha).sq
      have ra2 := st.rps ra
      refine ⟨fun i d hd => ?_, xs, ha2, by rw [ra.length]; exact Nat.le_refl _⟩
      obtain ⟨v, hv, rv⟩ := ra2.get' hd
      refine ⟨⟨xs, v, ha2, hv⟩, fun x H'' hy => ?_⟩
      obtain ⟨rfl, hx⟩ := hy
      have := hx xs ha2
      rw [hv] at this; cases this
      exact .same rv
  | str z =>
    cases r1
    refine .inr (.inl ⟨z, rfl, k _ cs1 _ g1 H1 q1 R1 (fun g2 H2 st => ⟨fun i d hd => ?_, by show z.cps.size ≤ _; simp⟩) s1 f1⟩)
    rw [List.getElem?_map] at hd
    obtain ⟨c, e1, rfl⟩ := Option.map_eq_some_iff.mp hd
    have hi : i < z.cps.size := by
      have := (List.getElem?_eq_some_iff.mp e1).1
      simpa using this
    refine ⟨hi, fun x H'' hy => ?_⟩
    obtain ⟨rfl, c', hc', rfl⟩ := hy
    have : z.cps[i]? = some c := by simpa using e1
    rw [this] at hc'; cases hc'
    exact .same (.str _)
  | dict kvs =>
    cases r1 with
    | @dct a ep es ks vs _ hf hq k1 v1 ra rb hh =>
      refine .inr (.inr ⟨a, ep, es, ks, rfl, hq, k1, k (kvs.map Prod.fst) cs1 _ g1 H1 q1 R1 (fun g2 H2 st => ?_) s1 f1⟩)
      have hq2 : H2 a = some (.ext (DictHas a ep es)) := st.keep a _ hf hq
      have ra2 := st.rps ra
      refine ⟨fun i d hd => ?_, hq2, by rw [ra.length]; exact Nat.le_refl _⟩
      obtain ⟨v, hv, rv⟩ := ra2.get' hd
      refine ⟨⟨hq2, v, hv⟩, fun x H'' hy => ?_⟩
      obtain ⟨rfl, hx⟩ := hy
      rw [hv] at hx; cases hx
      exact .same rv
  | _ => exact q1.elim
end
end Cl

/-! < of tuples whose items need not be alike behind the first place that differs -/
namespace PySem.SeqAt
open AutoSeq1 (wpAny_loadPart')
open MeetsSeq MeetsSeq2 MeetsSeq3 SeqRoads2
theorem tupLess (l b : Addr) (us vs : Array Value) (n m : Nat) (dl db : Option Addr) (sl sb : Array (Option Value)) (e r : Nat → Bool) :
    Meets (Builtin.«tuple.__lt__» ⟨[.ref l, .ref b], []⟩)
      (fun A R s => s.heap.get? l = some { cls := .type "tuple", dict := dl, data := .seq us n, slots := sl } ∧ s.heap.get? b = some { cls := .type "tuple", dict := db, data := .seq vs m, slots := sb } ∧
        (∀ j (h1 : j < us.size) (h2 : j < vs.size), EqAt A.in1 s us[j] vs[j] (e j)) ∧ (∀ j (h1 : j < us.size) (h2 : j < vs.size), (∀ i < j, e i = true) → e j = false → RcLt A.in1 s us[j] vs[j] (r j)) ∧
        R (.ok (.ret (.bool (firstLt e r (decide (us.size < vs.size)) (List.range (min us.size vs.size)))))) s) :=
  .of_wp fun prog w A R s h => by
    obtain ⟨hp, g, d, tk, os⟩ := s; obtain ⟨hl, hb, he, hr, h⟩ := h
    have tt := AutoSeq1.sub_tuple_tuple
    have zl : (us.toList.zip vs.toList).length = min us.size vs.size := by simp
    wp_walk using wpAny_loadPart' hl, wpAny_loadPart' hb, wpAny_forIn_list _ (fun rest b s' => b.1 = none ∧ s' = ⟨hp, g, d, tk, os⟩ ∧ ∃ i, rest = (us.toList.zip vs.toList).drop i ∧ (∀ j < i, e j = true) ∧
      R (.ok (.ret (.bool (firstLt e r (decide (us.size < vs.size)) ((List.range (min us.size vs.size)).drop i))))) ⟨hp, g, d, tk, os⟩) _
    case turn =>
      rintro ⟨y, x⟩ rest b s' ⟨hb', rfl, i, hz, hall, hR⟩
      have il : i < (us.toList.zip vs.toList).length := by
        refine Nat.lt_of_not_le fun q => ?_
        rw [List.drop_of_length_le q] at hz; cases hz
      have im : i < min us.size vs.size := zl ▸ il
      have i1 : i < us.size := Nat.lt_of_lt_of_le im (Nat.min_le_left _ _)
      have i2 : i < vs.size := Nat.lt_of_lt_of_le im (Nat.min_le_right _ _)
      rw [List.drop_eq_getElem_cons il] at hz
      injection hz with yx hrest
      have ey : y = us[i] := by simpa using congrArg Prod.fst yx
      have ex : x = vs[i] := by simpa using congrArg Prod.snd yx
      subst ey ex
      rw [show (List.range (min us.size vs.size)).drop i = i :: (List.range (min us.size vs.size)).drop (i + 1) by simp [List.drop_eq_getElem_cons, im]] at hR
      refine wpAny_bind (he i i1 i2 prog w _ _ ?_)
      cases hi : e i with
      | true =>
        rw [firstLt_yes hi] at hR
        wp_walk
        refine ⟨rfl, rfl, i + 1, hrest, fun j hj => ?_, hR⟩
        rcases Nat.lt_succ_iff_lt_or_eq.mp hj with q | q
        · exact hall j q
        · rw [q]; exact hi
      | false =>
        rw [firstLt_no hi] at hR
        rw [if_pos (by decide)]
        dsimp only
        refine wpAny_bind (wpAny_rule (wpAny_bind (hr i i1 i2 hall hi prog w _ _ ?_)))
        wp_walk
        exact ⟨_, rfl, hR⟩
    case fin =>
      rintro ⟨b1, b2⟩ s' ⟨hb', rfl, i, hz, _, hR⟩
      simp only at hb'
      subst hb'
      have ge : min us.size vs.size ≤ i := by
        refine Nat.le_of_not_lt fun q => ?_
        rw [← zl] at q
        rw [List.drop_eq_getElem_cons q] at hz; cases hz
      rw [List.drop_of_length_le (by simpa using ge)] at hR
      wp_walk
      exact ⟨_, rfl, by simpa [Builtin.Tuple.tupleCompareSizes, firstLt] using hR⟩
    case h =>
      exact ⟨rfl, rfl, 0, rfl, fun j hj => absurd hj (Nat.not_lt_zero j), by simpa using h⟩
theorem RcLt.tupF {A : Around} {s : Shared} {l b : Addr} {us vs : Array Value} {e r : Nat → Bool} (hl : s.heap.IsTuple l us) (hb : s.heap.IsTuple b vs) (hu : A.units < cLine)
    (he : ∀ j (h1 : j < us.size) (h2 : j < vs.size), EqAt A.in1 s us[j] vs[j] (e j)) (hr : ∀ j (h1 : j < us.size) (h2 : j < vs.size), (∀ i < j, e i = true) → e j = false → RcLt A.in1 s us[j] vs[j] (r j)) :
    RcLt A s (.ref l) (.ref b) (firstLt e r (decide (us.size < vs.size)) (List.range (min us.size vs.size))) := fun prog w E Q h => by
  obtain ⟨⟨c1, d1, x1, s1⟩, o1, k1, n1, h1⟩ := id hl
  obtain ⟨⟨c2, d2, x2, s2⟩, o2, k2, n2, h2⟩ := id hb
  simp only at k1 h1 k2 h2
  subst k1 h1 k2 h2
  refine richCompare_meets_room (op := .Lt) ⟨_, o1, rfl⟩ ⟨_, o2, rfl⟩ F.slot_tuple_lt F.entry_tuple_lt (F.args_tuple_lt_2 _ _) (tupLess l b us vs n1 n2 d1 d2 s1 s2 e r) ⟨o1, o2, he, hr, ?_⟩ hu
  exact (show Value.bool (firstLt e r (decide (us.size < vs.size)) (List.range (min us.size vs.size))) ≠ Value.notImplemented ∧ Q (.bool (firstLt e r (decide (us.size < vs.size)) (List.range (min us.size vs.size)))) s from ⟨(fun x => nomatch x), h⟩)
end PySem.SeqAt

/-! < of data that is alike up to the first place that differs; sorting by such keys -/
namespace Cl
open PySem PySem.Spec PyProof.Rows L2 PySem.W PySem.SeqAt

mutual
theorem eqv_beq : ∀ (a b : PyData) (x y : NestedKey), nkey a = some x → nkey b = some y → PyData.eqv a b = NestedKey.beq x y
  | .none, b, x, y, e1, e2 => by
    rw [nkey] at e1; cases e1
    cases b with
    | tuple ds => rw [nkey, Option.map_eq_some_iff] at e2; obtain ⟨ks, _, rfl⟩ := e2; rfl
    | _ => rw [nkey] at e2; first | (cases e2; done) | (cases e2; rfl)
  | .bool c, b, x, y, e1, e2 => by
    rw [nkey] at e1; cases e1
    cases b with
    | tuple ds => rw [nkey, Option.map_eq_some_iff] at e2; obtain ⟨ks, _, rfl⟩ := e2; rfl
    | bool d => rw [nkey] at e2; cases e2; cases c <;> cases d <;> rfl
    | int i => rw [nkey] at e2; cases e2; rw [PyData.eqv, NestedKey.beq]; rfl
    | _ => rw [nkey] at e2; first | (cases e2; done) | (cases e2; rfl)
  | .int i, b, x, y, e1, e2 => by
    rw [nkey] at e1; cases e1
    cases b with
    | tuple ds => rw [nkey, Option.map_eq_some_iff] at e2; obtain ⟨ks, _, rfl⟩ := e2; rfl
    | bool d => rw [nkey] at e2; cases e2; rw [PyData.eqv, NestedKey.beq]; rfl
    | int j => rw [nkey] at e2; cases e2; rfl
    | _ => rw [nkey] at e2; first | (cases e2; done) | (cases e2; rfl)
  | .str z, b, x, y, e1, e2 => by
    rw [nkey] at e1; cases e1
    cases b with
    | tuple ds => rw [nkey, Option.map_eq_some_iff] at e2; obtain ⟨ks, _, rfl⟩ := e2; rfl
    | str z' => rw [nkey] at e2; cases e2; rfl
    | _ => rw [nkey] at e2; first | (cases e2; done) | (cases e2; rfl)
  | .list ds, b, x, y, e1, e2 => by rw [nkey] at e1; cases e1
  | .dict ds, b, x, y, e1, e2 => by rw [nkey] at e1; cases e1
  | .tuple ds, b, x, y, e1, e2 => by
    rw [nkey, Option.map_eq_some_iff] at e1
    obtain ⟨ks, h1, rfl⟩ := e1
    cases b with
    | tuple es =>
      rw [nkey, Option.map_eq_some_iff] at e2
      obtain ⟨js, h2, rfl⟩ := e2
      rw [PyData.eqv, NestedKey.beq]
      exact eqv_beqAll ds es ks js h1 h2
    | _ => rw [nkey] at e2; first | (cases e2; done) | (cases e2; rfl)
theorem eqv_beqAll : ∀ (a b : List PyData) (x y : List NestedKey), nkeys a = some x → nkeys b = some y → PyData.eqvAll a b = NestedKey.beqAll x y
  | [], [], x, y, e1, e2 => by rw [nkeys] at e1 e2; cases e1; cases e2; rfl
  | [], b :: bs, x, y, e1, e2 => by
    obtain ⟨k, ks, _, _, rfl⟩ := nkeys_cons e2
    rw [nkeys] at e1; cases e1; rfl
  | a :: as, [], x, y, e1, e2 => by
    obtain ⟨k, ks, _, _, rfl⟩ := nkeys_cons e1
    rw [nkeys] at e2; cases e2; rfl
  | a :: as, b :: bs, x, y, e1, e2 => by
    obtain ⟨k, ks, h1, h2, rfl⟩ := nkeys_cons e1
    obtain ⟨j, js, h3, h4, rfl⟩ := nkeys_cons e2
    rw [eqv_all_cons, NestedKey.beqAll, eqv_beq a b k j h1 h3, eqv_beqAll as bs ks js h2 h4]
end
mutual
theorem Reads.nested {h : Heap} : ∀ (d : PyData) (v : Value) (as : List Addr) (k : NestedKey), Reads h v d as → nkey d = some k → NestedIs h k v
  | .none, _, _, k, r, e => by cases r; rw [nkey] at e; cases e; exact .none
  | .bool b, _, _, k, r, e => by cases r; rw [nkey] at e; cases e; exact .bool rfl
  | .int i, _, _, k, r, e => by cases r; rw [nkey] at e; cases e; exact .int _ _
  | .str x, _, _, k, r, e => by cases r; rw [nkey] at e; cases e; exact .text _ _
  | .list ds, _, _, k, r, e => by rw [nkey] at e; cases e
  | .dict ds, _, _, k, r, e => by rw [nkey] at e; cases e
  | .tuple ds, _, _, k, r, e => by
    rw [nkey, Option.map_eq_some_iff] at e
    obtain ⟨ks, e1, rfl⟩ := e
    cases r with
    | tuple h1 h2 h3 h4 => exact .tup h1 h2 h3 (Reads.nestedAll ds _ _ ks h4 e1)
theorem Reads.nestedAll {h : Heap} : ∀ (ds : List PyData) (vs : List Value) (as : List Addr) (ks : List NestedKey), ReadsAll h vs ds as → nkeys ds = some ks → NestedAll h ks vs
  | [], _, _, ks, r, e => by cases r; rw [nkeys] at e; cases e; exact .nil
  | d :: ds, _, _, ks, r, e => by
    obtain ⟨k, ks', e1, e2, rfl⟩ := nkeys_cons e
    cases r with
    | cons r1 r2 => exact .cons (Reads.nested d _ _ k r1 e1) (Reads.nestedAll ds _ _ ks' r2 e2)
end
mutual
theorem depth_nkey : ∀ (d : PyData) (k : NestedKey), nkey d = some k → k.depth = d.depth
  | .none, k, e => by rw [nkey] at e; cases e; rfl
  | .bool b, k, e => by rw [nkey] at e; cases e; rfl
  | .int i, k, e => by rw [nkey] at e; cases e; rfl
  | .str x, k, e => by rw [nkey] at e; cases e; rfl
  | .list ds, k, e => by rw [nkey] at e; cases e
  | .dict ds, k, e => by rw [nkey] at e; cases e
  | .tuple ds, k, e => by
    rw [nkey, Option.map_eq_some_iff] at e
    obtain ⟨ks, e1, rfl⟩ := e
    rw [NestedKey.depth, PyData.depth, depth_nkeys ds ks e1]
theorem depth_nkeys : ∀ (ds : List PyData) (ks : List NestedKey), nkeys ds = some ks → NestedKey.depthAll ks = PyData.depthAll ds
  | [], ks, e => by rw [nkeys] at e; cases e; rfl
  | d :: ds, ks, e => by
    obtain ⟨k, ks', e1, e2, rfl⟩ := nkeys_cons e
    rw [NestedKey.depthAll, PyData.depthAll, depth_nkey d k e1, depth_nkeys ds ks' e2]
end
theorem eqAt_nk {da db : PyData} {x y : NestedKey} {A : Around} {s : Shared} {a b : Value} {as bs : List Addr} (ra : Reads s.heap a da as) (rb : Reads s.heap b db bs) (e1 : nkey da = some x) (e2 : nkey db = some y) (hu : A.units + min da.depth db.depth < cLine) :
    EqAt A s a b (PyData.eqv da db) := by
  rw [eqv_beq da db x y e1 e2]
  exact eqAt_key x y A s a b (Reads.nested da a as x ra e1) (Reads.nested db b bs y rb e2) (by rw [depth_nkey da x e1, depth_nkey db y e2]; exact hu)
theorem eqAt_nkAll : ∀ (xs ys : List PyData) (A : Around) (s : Shared) (vs ws : List Value) (as bs : List Addr) (ks js : List NestedKey), ReadsAll s.heap vs xs as → ReadsAll s.heap ws ys bs → nkeys xs = some ks → nkeys ys = some js →
    A.units + min (PyData.depthAll xs) (PyData.depthAll ys) < cLine → ∀ j (h1 : j < vs.length) (h2 : j < ws.length), EqAt A s vs[j] ws[j] (pairEq xs ys j)
  | [], _, _, _, _, _, _, _, _, _, ra, _, _, _, _, j, h1, _ => by cases ra; exact absurd h1 (Nat.not_lt_zero _)
  | _ :: _, [], _, _, _, _, _, _, _, _, _, rb, _, _, _, j, _, h2 => by cases rb; exact absurd h2 (Nat.not_lt_zero _)
  | x :: xs, y :: ys, A, s, _, _, _, _, ks, js, ra, rb, e1, e2, hu, j, h1, h2 => by
    obtain ⟨k, ks', a1, a2, rfl⟩ := nkeys_cons e1
    obtain ⟨i, js', b1, b2, rfl⟩ := nkeys_cons e2
    cases ra with
    | cons r rs =>
      cases rb with
      | cons r' rs' =>
        cases j with
        | zero => exact eqAt_nk r r' a1 b1 (room_head hu)
        | succ j => exact eqAt_nkAll xs ys A s _ _ _ _ ks' js' rs rs' a2 b2 (room_tail hu) j (Nat.lt_of_succ_lt_succ h1) (Nat.lt_of_succ_lt_succ h2)

/-! ### comparable up to the first place that differs -/
mutual
def klike : PyData → PyData → Bool
  | .bool _, .bool _ => true
  | .int _, .int _ => true
  | .str _, .str _ => true
  | .tuple xs, .tuple ys => klikeAll xs ys
  | .list xs, .list ys => klikeAll xs ys
  | _, _ => false
def klikeAll : List PyData → List PyData → Bool
  | x :: xs, y :: ys => if PyData.eqv x y = true then alike x y && klikeAll xs ys else klike x y
  | [], _ => true
  | _ :: _, [] => true
end
abbrev lexT (a b : List (Int ⊕ List Nat)) : Bool := PyProof.Rows.lexLt itemOrd a b
mutual
theorem kl_toks : ∀ (x y : PyData), klike x y = true → PyData.eqv x y = false → ∀ l m, lexT (keyToks x ++ l) (keyToks y ++ m) = lexT (keyToks x) (keyToks y)
  | .tuple xs, y, h, e => by
    cases y with
    | tuple ys =>
      rw [klike] at h
      rw [PyData.eqv] at e
      intro l m
      simp only [keyToks]
      exact kl_toksAll xs ys h e l m
    | _ => simp [klike] at h
  | .none, y, h, _ => by cases y <;> simp [klike] at h
  | .list xs, y, h, e => by
    cases y with
    | list ys =>
      rw [klike] at h
      rw [PyData.eqv] at e
      intro l m
      simp only [keyToks]
      exact kl_toksAll xs ys h e l m
    | _ => simp [klike] at h
  | .dict _, y, h, _ => by cases y <;> simp [klike] at h
  | .bool a, y, h, e => by
    cases y with
    | bool b => exact (toks_eqv (.bool a) (.bool b) rfl).2 e
    | _ => simp [klike] at h
  | .int a, y, h, e => by
    cases y with
    | int b => exact (toks_eqv (.int a) (.int b) rfl).2 e
    | _ => simp [klike] at h
  | .str a, y, h, e => by
    cases y with
    | str b => exact (toks_eqv (.str a) (.str b) rfl).2 e
    | _ => simp [klike] at h
theorem kl_toksAll : ∀ (xs ys : List PyData), klikeAll xs ys = true → PyData.eqvAll xs ys = false → ∀ l m, lexT (keyToksAll xs ++ l) (keyToksAll ys ++ m) = lexT (keyToksAll xs) (keyToksAll ys)
  | [], [], _, e => by simp [PyData.eqvAll] at e
  | [], y :: ys, _, _ => fun l m => by
    simp only [keyToksAll, List.cons_append, List.nil_append]
    exact (lex_atom (by simp) _ _).trans (lex_atom (by simp) _ _).symm
  | x :: xs, [], _, _ => fun l m => by
    simp only [keyToksAll, List.cons_append, List.nil_append]
    exact (lex_atom (by simp) _ _).trans (lex_atom (by simp) _ _).symm
  | x :: xs, y :: ys, h, e => fun l m => by
    rw [klikeAll] at h
    rw [eqv_all_cons] at e
    rw [toks_all_cons, toks_all_cons]
    simp only [List.cons_append, List.append_assoc]
    unfold lexT
    rw [lex_self (O := itemOrd), lex_self (O := itemOrd)]
    cases hx : PyData.eqv x y with
    | true =>
      rw [hx, if_pos rfl, Bool.and_eq_true] at h
      rw [hx, Bool.true_and] at e
      rw [(toks_eqv x y h.1).1 hx, lex_pre, lex_pre]
      exact kl_toksAll xs ys h.2 e l m
    | false =>
      rw [hx, if_neg Bool.false_ne_true] at h
      exact (kl_toks x y h hx _ _).trans (kl_toks x y h hx _ _).symm
end
theorem kl_yes {x y : PyData} {xs ys : List PyData} (h : alike x y = true) (e : PyData.eqv x y = true) : lexT (keyToksAll (x :: xs)) (keyToksAll (y :: ys)) = lexT (keyToksAll xs) (keyToksAll ys) := dataLt_all_yes h e
theorem kl_no {x y : PyData} {xs ys : List PyData} (h : klike x y = true) (e : PyData.eqv x y = false) : lexT (keyToksAll (x :: xs)) (keyToksAll (y :: ys)) = dataLt x y := by
  rw [toks_all_cons, toks_all_cons]
  unfold lexT
  rw [lex_self (O := itemOrd)]
  exact kl_toks x y h e _ _
theorem firstLt_kl : ∀ (xs ys : List PyData), klikeAll xs ys = true →
    firstLt (pairEq xs ys) (fun j => dataLt (xs.getD j .none) (ys.getD j .none)) (decide (xs.length < ys.length)) (List.range (min xs.length ys.length)) = lexT (keyToksAll xs) (keyToksAll ys)
  | [], [], _ => by simp [firstLt, keyToksAll, lex_irrefl]
  | [], y :: ys, _ => by
    rw [toks_all_cons]
    simp only [keyToksAll]
    unfold lexT
    rw [lex_diff (O := itemOrd) (by simp)]
    simp [firstLt, itemLt]
  | x :: xs, [], _ => by
    rw [toks_all_cons]
    simp only [keyToksAll]
    unfold lexT
    rw [lex_diff (O := itemOrd) (by simp)]
    simp [firstLt, itemLt]
  | x :: xs, y :: ys, h => by
    rw [klikeAll] at h
    have em : min (x :: xs).length (y :: ys).length = min xs.length ys.length + 1 := by simp only [List.length_cons]; omega
    have ed : decide ((x :: xs).length < (y :: ys).length) = decide (xs.length < ys.length) := by
      simp only [List.length_cons]
      exact decide_eq_decide.mpr (by omega)
    rw [em, ed, List.range_succ_eq_map]
    cases hx : PyData.eqv x y with
    | true =>
      rw [hx, if_pos rfl, Bool.and_eq_true] at h
      rw [firstLt_yes (show pairEq (x :: xs) (y :: ys) 0 = true from hx), firstLt_map, kl_yes h.1 hx, ← firstLt_kl xs ys h.2]
      rfl
    | false =>
      rw [hx, if_neg Bool.false_ne_true] at h
      rw [firstLt_no (show pairEq (x :: xs) (y :: ys) 0 = false from hx), kl_no h hx]
      rfl
mutual
/-- a < b -/
theorem rcLt_kl : ∀ (da db : PyData) (A : Around) (s : Shared) (a b : Value) (as bs : List Addr) (k j : NestedKey), Reads s.heap a da as → Reads s.heap b db bs → nkey da = some k → nkey db = some j → klike da db = true → A.units + min da.depth db.depth < cLine → RcLt A s a b (dataLt da db)
  | .none, db, _, _, _, _, _, _, _, _, _, _, _, _, h, _ => by cases db <;> simp [klike] at h
  | .list _, db, _, _, _, _, _, _, _, _, _, _, e1, _, h, _ => by rw [nkey] at e1; cases e1
  | .dict _, db, _, _, _, _, _, _, _, _, _, _, _, _, h, _ => by cases db <;> simp [klike] at h
  | .bool x, db, A, s, a, b, as, bs, _, _, ra, rb, _, _, h, hu => by
    cases db with
    | bool y => exact rcLt_alike _ _ A s a b as bs ra rb rfl (by simp) hu
    | _ => simp [klike] at h
  | .int x, db, A, s, a, b, as, bs, _, _, ra, rb, _, _, h, hu => by
    cases db with
    | int y => exact rcLt_alike _ _ A s a b as bs ra rb rfl (by simp) hu
    | _ => simp [klike] at h
  | .str x, db, A, s, a, b, as, bs, _, _, ra, rb, _, _, h, hu => by
    cases db with
    | str y => exact rcLt_alike _ _ A s a b as bs ra rb rfl (by simp) hu
    | _ => simp [klike] at h
  | .tuple xs, db, A, s, a, b, as, bs, k, j, ra, rb, e1, e2, h, hu => by
    cases db with
    | tuple ys =>
      rw [klike] at h
      rw [nkey, Option.map_eq_some_iff] at e1 e2
      obtain ⟨ks, n1, rfl⟩ := e1
      obtain ⟨js, n2, rfl⟩ := e2
      cases ra with
      | @tuple l o vs n _ as₁ h1 h2 h3 h4 =>
        cases rb with
        | @tuple l' o' vs' n' _ bs₁ k1 k2 k3 k4 =>
          have m1 : vs.size = xs.length := by simpa using ReadsAll.length _ _ _ h4
          have m2 : vs'.size = ys.length := by simpa using ReadsAll.length _ _ _ k4
          rw [dataLt_tuple]
          have ef := firstLt_kl xs ys h
          unfold lexT at ef
          rw [← ef, ← m1, ← m2]
          refine RcLt.tupF ⟨_, h1, h2, _, h3⟩ ⟨_, k1, k2, _, k3⟩ (room_here hu) (fun i j1 j2 => ?_) fun i j1 j2 ha hi => ?_
          · have := eqAt_nkAll xs ys A.in1 s vs.toList vs'.toList _ _ ks js h4 k4 n1 n2 (room_in hu) i (by simpa using j1) (by simpa using j2)
            simpa using this
          · have := rcLt_klAll xs ys A.in1 s vs.toList vs'.toList _ _ ks js h4 k4 n1 n2 h (room_in hu) i (by simpa using j1) (by simpa using j2) ha hi
            simpa using this
    | _ => simp [klike] at h
theorem rcLt_klAll : ∀ (xs ys : List PyData) (A : Around) (s : Shared) (vs ws : List Value) (as bs : List Addr) (ks js : List NestedKey), ReadsAll s.heap vs xs as → ReadsAll s.heap ws ys bs → nkeys xs = some ks → nkeys ys = some js → klikeAll xs ys = true →
    A.units + min (PyData.depthAll xs) (PyData.depthAll ys) < cLine → ∀ j (h1 : j < vs.length) (h2 : j < ws.length), (∀ i < j, pairEq xs ys i = true) → pairEq xs ys j = false → RcLt A s vs[j] ws[j] (dataLt (xs.getD j .none) (ys.getD j .none))
  | [], _, _, _, _, _, _, _, _, _, ra, _, _, _, _, _, j, h1, _, _, _ => by cases ra; exact absurd h1 (Nat.not_lt_zero _)
  | _ :: _, [], _, _, _, _, _, _, _, _, _, rb, _, _, _, _, j, _, h2, _, _ => by cases rb; exact absurd h2 (Nat.not_lt_zero _)
  | x :: xs, y :: ys, A, s, _, _, _, _, ks, js, ra, rb, e1, e2, h, hu, j, h1, h2, hall, hj => by
    obtain ⟨k, ks', a1, a2, rfl⟩ := nkeys_cons e1
    obtain ⟨i, js', b1, b2, rfl⟩ := nkeys_cons e2
    rw [klikeAll] at h
    cases ra with
    | cons r rs =>
      cases rb with
      | cons r' rs' =>
        cases j with
        | zero =>
          have hx : PyData.eqv x y = false := hj
          rw [hx, if_neg Bool.false_ne_true] at h
          exact rcLt_kl x y A s _ _ _ _ k i r r' a1 b1 h (room_head hu)
        | succ j =>
          have hx : PyData.eqv x y = true := hall 0 (Nat.succ_pos j)
          rw [hx, if_pos rfl, Bool.and_eq_true] at h
          exact rcLt_klAll xs ys A s _ _ _ _ ks' js' rs rs' a2 b2 h.2 (room_tail hu) j (Nat.lt_of_succ_lt_succ h1) (Nat.lt_of_succ_lt_succ h2) (fun i hi => hall (i + 1) (Nat.succ_lt_succ hi)) hj
end
end Cl

/-! sorting by keys that are alike up to the first place that differs -/
namespace Cl
open PySem PySem.Spec PyProof.Rows L2 PySem.W PySem.SeqAt
section
variable {prog : Program} {w : World} {A : Around} {E : Value → Shared → Prop} {s : Shared}
end
mutual
theorem toks_nkey : ∀ (d e : PyData) (k : NestedKey), nkey d = some k → nkey e = some k → keyToks d = keyToks e
  | .none, e, k, h1, h2 => by
    rw [nkey] at h1; cases h1
    cases e with
    | none => rfl
    | tuple ds => rw [nkey, Option.map_eq_some_iff] at h2; obtain ⟨_, _, z⟩ := h2; cases z
    | _ => rw [nkey] at h2; cases h2
  | .bool b, e, k, h1, h2 => by
    rw [nkey] at h1; cases h1
    cases e with
    | bool c => rw [nkey] at h2; injection h2 with h2; injection h2 with h2; simp only [keyToks, h2]
    | int c => rw [nkey] at h2; injection h2 with h2; injection h2 with h2; simp only [keyToks, h2]
    | tuple ds => rw [nkey, Option.map_eq_some_iff] at h2; obtain ⟨_, _, z⟩ := h2; cases z
    | _ => rw [nkey] at h2; cases h2
  | .int i, e, k, h1, h2 => by
    rw [nkey] at h1; cases h1
    cases e with
    | bool c => rw [nkey] at h2; injection h2 with h2; injection h2 with h2; simp only [keyToks, h2]
    | int c => rw [nkey] at h2; injection h2 with h2; injection h2 with h2; simp only [keyToks, h2]
    | tuple ds => rw [nkey, Option.map_eq_some_iff] at h2; obtain ⟨_, _, z⟩ := h2; cases z
    | _ => rw [nkey] at h2; cases h2
  | .str x, e, k, h1, h2 => by
    rw [nkey] at h1; cases h1
    cases e with
    | str y => rw [nkey] at h2; cases h2; rfl
    | tuple ds => rw [nkey, Option.map_eq_some_iff] at h2; obtain ⟨_, _, z⟩ := h2; cases z
    | _ => rw [nkey] at h2; cases h2
  | .list _, e, k, h1, _ => by rw [nkey] at h1; cases h1
  | .dict _, e, k, h1, _ => by rw [nkey] at h1; cases h1
  | .tuple ds, e, k, h1, h2 => by
    rw [nkey, Option.map_eq_some_iff] at h1
    obtain ⟨ks, a1, rfl⟩ := h1
    cases e with
    | tuple es =>
      rw [nkey, Option.map_eq_some_iff] at h2
      obtain ⟨js, a2, z⟩ := h2
      cases z
      simp only [keyToks]
      exact toks_nkeys ds es ks a1 a2
    | _ => rw [nkey] at h2; cases h2
theorem toks_nkeys : ∀ (ds es : List PyData) (ks : List NestedKey), nkeys ds = some ks → nkeys es = some ks → keyToksAll ds = keyToksAll es
  | [], [], _, _, _ => rfl
  | [], e :: es, ks, h1, h2 => by
    obtain ⟨k, ks', _, _, rfl⟩ := nkeys_cons h2
    rw [nkeys] at h1; cases h1
  | d :: ds, [], ks, h1, h2 => by
    obtain ⟨k, ks', _, _, rfl⟩ := nkeys_cons h1
    rw [nkeys] at h2; cases h2
  | d :: ds, e :: es, ks, h1, h2 => by
    obtain ⟨k, ks', a1, a2, rfl⟩ := nkeys_cons h1
    obtain ⟨j, js', b1, b2, z⟩ := nkeys_cons h2
    cases z
    rw [toks_all_cons, toks_all_cons, toks_nkey d e k a1 b1, toks_nkeys ds es ks' a2 b2]
end
/-- keys that can be sorted -/
structure KSort (ds : List PyData) : Prop where
  key : ∀ d ∈ ds, ∃ k, nkey d = some k
  like : ∀ d ∈ ds, ∀ e ∈ ds, klike d e = true
  form : (∃ T, ∀ d ∈ ds, ∃ x r, d = .tuple (x :: r) ∧ dataType x = T) ∨ ∀ d ∈ ds, ∀ xs, d ≠ .tuple xs
  deep : ∀ d ∈ ds, d.depth ≤ 8
section
variable {prog : Program} {w : World} {A : Around} {s : Shared}
end
end Cl

/-! < of lists whose items need not be alike behind the first place that differs; sorting by such keys -/
namespace PySem.SeqAt
open AutoSeq1 (wpAny_loadPart')
open MeetsSeq MeetsSeq2 MeetsSeq3 SeqRoads2
theorem lstLoop (l b : Addr) (items items2 : Array Value) (n n2 : Nat) (dd dd2 : Option Addr) (sl sl2 : Array (Option Value)) (e r : Nat → Bool) (k : Nat) :
    ∀ i : Nat, min items.size items2.size - i = k → Meets (Builtin.«list.__eq__.loop» ⟨[.ref l, .ref b, rawInt i, rawInt 0], []⟩)
      (fun A R s => s.heap.get? l = some { cls := .type "list", dict := dd, data := .seq items n, slots := sl } ∧ s.heap.get? b = some { cls := .type "list", dict := dd2, data := .seq items2 n2, slots := sl2 } ∧
        (∀ j (h1 : j < items.size) (h2 : j < items2.size), EqAt A.in1 s items[j] items2[j] (e j)) ∧ (∀ j (h1 : j < items.size) (h2 : j < items2.size), (∀ i < j, e i = true) → e j = false → RcLt A.in1 s items[j] items2[j] (r j)) ∧ (∀ j < i, e j = true) ∧
        R (.ok (.ret (.bool (firstLt e r (decide (items.size < items2.size)) ((List.range (min items.size items2.size)).drop i))))) s) := by
  induction k with
  | zero =>
    intro i hk prog w A R s h
    obtain ⟨hp, g, d, tk, os⟩ := s; obtain ⟨hl, hb, he, hr, ha, h⟩ := h
    have hd : (List.range (min items.size items2.size)).drop i = [] := by simp; omega
    rw [hd] at h
    wp_walk using wpAny_loadPart' hl, wpAny_loadPart' hb
    by_cases h1 : items.size ≤ i
    · have hi1 : items[((i : Nat) : Int).toNat]? = none := by simp; omega
      rw [hi1]
      wp_walk using wpAny_loadPart' hl, wpAny_loadPart' hb
      exact h
    · have hlt : i < items.size := by omega
      have hi1 : items[((i : Nat) : Int).toNat]? = some items[i] := by simp [hlt]
      have hi2 : items2[((i : Nat) : Int).toNat]? = none := by simp; omega
      rw [hi1, hi2]
      wp_walk using wpAny_loadPart' hl, wpAny_loadPart' hb
      exact h
  | succ k ih =>
    intro i hk prog w A R s h
    obtain ⟨hp, g, d, tk, os⟩ := s; obtain ⟨hl, hb, he, hr, ha, h⟩ := h
    wp_walk using wpAny_loadPart' hl, wpAny_loadPart' hb
    have hm : i < min items.size items2.size := by omega
    have hlt : i < items.size := Nat.lt_of_lt_of_le hm (Nat.min_le_left _ _)
    have hlt2 : i < items2.size := Nat.lt_of_lt_of_le hm (Nat.min_le_right _ _)
    have hi1 : items[((i : Nat) : Int).toNat]? = some items[i] := by simp [hlt]
    have hi2 : items2[((i : Nat) : Int).toNat]? = some items2[i] := by simp [hlt2]
    have hd : (List.range (min items.size items2.size)).drop i = i :: (List.range (min items.size items2.size)).drop (i + 1) := by simp [List.drop_eq_getElem_cons, hm]
    have hc : ((i : Int) + 1) = ((i + 1 : Nat) : Int) := by push_cast; rfl
    rw [hd] at h
    rw [hi1, hi2]
    refine wpAny_bind (he i hlt hlt2 prog w _ _ ?_)
    cases hb' : e i with
    | true =>
      rw [firstLt_yes hb'] at h
      wp_walk
      rw [hc]
      exact ⟨plainId_quiet plain_eq_loop _, codeAny_builtin entry_eq_loop (by
        rw [Around.under_plainId plain_eq_loop _]
        exact ih (i + 1) (by omega) prog w A R _ ⟨hl, hb, he, hr, (fun j hj => by
          rcases Nat.lt_succ_iff_lt_or_eq.mp hj with q | q
          · exact ha j q
          · rw [q]; exact hb'), h⟩)⟩
    | false =>
      rw [firstLt_no hb'] at h
      wp_walk using wpAny_loadPart' hl, wpAny_loadPart' hb
      rw [hi1, hi2]
      dsimp only
      refine wpAny_bind (hr i hlt hlt2 ha hb' prog w _ _ ?_)
      wp_walk
      exact h
theorem lstLess (l b : Addr) (items items2 : Array Value) (n n2 : Nat) (dd dd2 : Option Addr) (sl sl2 : Array (Option Value)) (e r : Nat → Bool) :
    Meets (Builtin.«list.__lt__» ⟨[.ref l, .ref b], []⟩)
      (fun A R s => s.heap.get? l = some { cls := .type "list", dict := dd, data := .seq items n, slots := sl } ∧ s.heap.get? b = some { cls := .type "list", dict := dd2, data := .seq items2 n2, slots := sl2 } ∧
        (∀ j (h1 : j < items.size) (h2 : j < items2.size), EqAt A.in1 s items[j] items2[j] (e j)) ∧ (∀ j (h1 : j < items.size) (h2 : j < items2.size), (∀ i < j, e i = true) → e j = false → RcLt A.in1 s items[j] items2[j] (r j)) ∧
        R (.ok (.ret (.bool (firstLt e r (decide (items.size < items2.size)) (List.range (min items.size items2.size)))))) s) := by
  intro prog w A R s h
  obtain ⟨hp, g, d, tk, os⟩ := s; obtain ⟨hl, hb, he, hr, h⟩ := h
  have f3 := AutoSeq1.sub_list_list
  wp_walk using wpAny_loadPart' hl, wpAny_loadPart' hb
  exact ⟨plainId_quiet plain_eq_loop _, codeAny_builtin entry_eq_loop (by
    rw [Around.under_plainId plain_eq_loop _]
    exact lstLoop l b items items2 n n2 dd dd2 sl sl2 e r _ 0 rfl prog w A R _ ⟨hl, hb, he, hr, (fun j hj => absurd hj (Nat.not_lt_zero j)), by simpa using h⟩)⟩
theorem RcLt.lstF {A : Around} {s : Shared} {l b : Addr} {items items2 : Array Value} {e r : Nat → Bool} (hl : s.heap.IsList l items) (hb : s.heap.IsList b items2) (hu : A.units < cLine)
    (he : ∀ j (h1 : j < items.size) (h2 : j < items2.size), EqAt A.in1 s items[j] items2[j] (e j)) (hr : ∀ j (h1 : j < items.size) (h2 : j < items2.size), (∀ i < j, e i = true) → e j = false → RcLt A.in1 s items[j] items2[j] (r j)) :
    RcLt A s (.ref l) (.ref b) (firstLt e r (decide (items.size < items2.size)) (List.range (min items.size items2.size))) := fun prog w E Q h => by
  obtain ⟨⟨cls, dd, data, sl⟩, ho, hc, n, hd⟩ := id hl
  obtain ⟨⟨cls2, dd2, data2, sl2⟩, ho2, hc2, n2, hd2⟩ := id hb
  simp only at hc hd hc2 hd2
  subst hc hd hc2 hd2
  exact richCompare_meets_room (op := .Lt) ⟨_, ho, rfl⟩ ⟨_, ho2, rfl⟩ F.slot_list_lt F.entry_list_lt (F.args_list_lt_2 _ _) (lstLess l b items items2 n n2 dd dd2 sl sl2 e r)
    ⟨ho, ho2, he, hr, show Value.bool (firstLt e r (decide (items.size < items2.size)) (List.range (min items.size items2.size))) ≠ Value.notImplemented ∧ Q (.bool (firstLt e r (decide (items.size < items2.size)) (List.range (min items.size items2.size)))) s from ⟨(fun x => nomatch x), h⟩⟩ hu
end PySem.SeqAt
namespace Cl
open PySem PySem.Spec PyProof.Rows L2 PySem.W PySem.SeqAt
mutual
theorem rcLt_pl : ∀ (da db : PyData) (A : Around) (s : Shared) (a b : Value) (as bs : List Addr), Reads s.heap a da as → Reads s.heap b db bs → da.plain = true → db.plain = true → klike da db = true → A.units + min da.depth db.depth < cLine → RcLt A s a b (dataLt da db)
  | .none, db, _, _, _, _, _, _, _, _, _, _, h, _ => by cases db <;> simp [klike] at h
  | .dict _, db, _, _, _, _, _, _, _, _, _, _, h, _ => by cases db <;> simp [klike] at h
  | .bool x, db, A, s, a, b, as, bs, ra, rb, _, _, h, hu => by
    cases db with
    | bool y => exact rcLt_alike _ _ A s a b as bs ra rb rfl (by simp) hu
    | _ => simp [klike] at h
  | .int x, db, A, s, a, b, as, bs, ra, rb, _, _, h, hu => by
    cases db with
    | int y => exact rcLt_alike _ _ A s a b as bs ra rb rfl (by simp) hu
    | _ => simp [klike] at h
  | .str x, db, A, s, a, b, as, bs, ra, rb, _, _, h, hu => by
    cases db with
    | str y => exact rcLt_alike _ _ A s a b as bs ra rb rfl (by simp) hu
    | _ => simp [klike] at h
  | .list xs, db, A, s, a, b, as, bs, ra, rb, e1, e2, h, hu => by
    cases db with
    | list ys =>
      rw [klike] at h
      cases ra with
      | @list l o vs n _ as₁ h1 h2 h3 h4 =>
        cases rb with
        | @list l' o' vs' n' _ bs₁ k1 k2 k3 k4 =>
          have m1 : vs.size = xs.length := by simpa using ReadsAll.length _ _ _ h4
          have m2 : vs'.size = ys.length := by simpa using ReadsAll.length _ _ _ k4
          rw [dataLt_list]
          have ef := firstLt_kl xs ys h
          unfold lexT at ef
          rw [← ef, ← m1, ← m2]
          refine RcLt.lstF ⟨_, h1, h2, _, h3⟩ ⟨_, k1, k2, _, k3⟩ (room_here hu) (fun i j1 j2 => ?_) fun i j1 j2 ha hi => ?_
          · have := eqAt_plainAll xs ys A.in1 s vs.toList vs'.toList _ _ h4 k4 e1 e2 (room_in hu) i (by simpa using j1) (by simpa using j2)
            simpa using this
          · have := rcLt_plAll xs ys A.in1 s vs.toList vs'.toList _ _ h4 k4 e1 e2 h (room_in hu) i (by simpa using j1) (by simpa using j2) ha hi
            simpa using this
    | _ => simp [klike] at h
  | .tuple xs, db, A, s, a, b, as, bs, ra, rb, e1, e2, h, hu => by
    cases db with
    | tuple ys =>
      rw [klike] at h
      cases ra with
      | @tuple l o vs n _ as₁ h1 h2 h3 h4 =>
        cases rb with
        | @tuple l' o' vs' n' _ bs₁ k1 k2 k3 k4 =>
          have m1 : vs.size = xs.length := by simpa using ReadsAll.length _ _ _ h4
          have m2 : vs'.size = ys.length := by simpa using ReadsAll.length _ _ _ k4
          rw [dataLt_tuple]
          have ef := firstLt_kl xs ys h
          unfold lexT at ef
          rw [← ef, ← m1, ← m2]
          refine RcLt.tupF ⟨_, h1, h2, _, h3⟩ ⟨_, k1, k2, _, k3⟩ (room_here hu) (fun i j1 j2 => ?_) fun i j1 j2 ha hi => ?_
          · have := eqAt_plainAll xs ys A.in1 s vs.toList vs'.toList _ _ h4 k4 e1 e2 (room_in hu) i (by simpa using j1) (by simpa using j2)
            simpa using this
          · have := rcLt_plAll xs ys A.in1 s vs.toList vs'.toList _ _ h4 k4 e1 e2 h (room_in hu) i (by simpa using j1) (by simpa using j2) ha hi
            simpa using this
    | _ => simp [klike] at h
theorem rcLt_plAll : ∀ (xs ys : List PyData) (A : Around) (s : Shared) (vs ws : List Value) (as bs : List Addr), ReadsAll s.heap vs xs as → ReadsAll s.heap ws ys bs → PyData.plainAll xs = true → PyData.plainAll ys = true → klikeAll xs ys = true →
    A.units + min (PyData.depthAll xs) (PyData.depthAll ys) < cLine → ∀ j (h1 : j < vs.length) (h2 : j < ws.length), (∀ i < j, pairEq xs ys i = true) → pairEq xs ys j = false → RcLt A s vs[j] ws[j] (dataLt (xs.getD j .none) (ys.getD j .none))
  | [], _, _, _, _, _, _, _, ra, _, _, _, _, _, j, h1, _, _, _ => by cases ra; exact absurd h1 (Nat.not_lt_zero _)
  | _ :: _, [], _, _, _, _, _, _, _, rb, _, _, _, _, j, _, h2, _, _ => by cases rb; exact absurd h2 (Nat.not_lt_zero _)
  | x :: xs, y :: ys, A, s, _, _, _, _, ra, rb, e1, e2, h, hu, j, h1, h2, hall, hj => by
    have e1' : x.plain = true ∧ PyData.plainAll xs = true := by simpa [PyData.plainAll] using e1
    have e2' : y.plain = true ∧ PyData.plainAll ys = true := by simpa [PyData.plainAll] using e2
    rw [klikeAll] at h
    cases ra with
    | cons r rs =>
      cases rb with
      | cons r' rs' =>
        cases j with
        | zero =>
          have hx : PyData.eqv x y = false := hj
          rw [hx, if_neg Bool.false_ne_true] at h
          exact rcLt_pl x y A s _ _ _ _ r r' e1'.1 e2'.1 h (room_head hu)
        | succ j =>
          have hx : PyData.eqv x y = true := hall 0 (Nat.succ_pos j)
          rw [hx, if_pos rfl, Bool.and_eq_true] at h
          exact rcLt_plAll xs ys A s _ _ _ _ rs rs' e1'.2 e2'.2 h.2 (room_tail hu) j (Nat.lt_of_succ_lt_succ h1) (Nat.lt_of_succ_lt_succ h2) (fun i hi => hall (i + 1) (Nat.succ_lt_succ hi)) hj
end
/-- list keys that can be sorted -/
structure PSort (ds : List PyData) : Prop where
  pl : ∀ d ∈ ds, d.plain = true
  like : ∀ d ∈ ds, ∀ e ∈ ds, klike d e = true
  form : ∀ d ∈ ds, ∃ xs, d = .list xs
  deep : ∀ d ∈ ds, d.depth ≤ 8
section
variable {prog : Program} {w : World} {A : Around} {s : Shared}
end
end Cl

/-! sorted(xs, key=f), f a def of the program -/
namespace Cl
open PySem PySem.Spec PyProof.Rows L2 PySem.W

def sortBy (ks ds : List PyData) : List PyData := ((ds.zip ks).mergeSort (dataLe false fun b => b.2)).map (·.1)
section
variable {X : Cx} {ZP : ZT} {B : Bs} {g : GW} {H : Hp} {cs : CS} {σ : L2.St} {pins : List (Addr × Obj)} {s : Shared}
end
end Cl

namespace Cl
open PySem PySem.Spec PyProof.Rows L2 PySem.W
section
variable {X : Cx} {ZP : ZT} {B : Bs} {g : GW} {H : Hp} {cs : CS} {σ : L2.St} {pins : List (Addr × Obj)} {s : Shared}
end
/-- what a key tells: data, or a list of its own -/
def keyR (k : PyData) : SV → Prop := fun sv => sv = .dat k ∨ ∃ xs, sv = .own xs ∧ k = .list xs
def t_sortK (C : TF) (ta : TLD) : TD := fun cs Q => ta cs fun l cs1 => match l.get cs1 with
  | some (.list ds) => ds.length ≤ sizeLine ∧ ∃ ks : List PyData, ks.length = ds.length ∧ (KSort ks ∨ PSort ks) ∧ (∀ (i : Nat) (d k : PyData), ds[i]? = some d → ks[i]? = some k → C [.dat d] (keyR k)) ∧ Q (.own (sortBy ks ds)) cs1
  | _ => False
section
variable {X : Cx} {ZP : ZT} {k : Nat} {f : Addr} {fd : FuncData} {ps : List Str} {x : Str} {p pos p1 kpos : Pos} {e : Expr} {ta : TLD} {C : TF}
end
end Cl

/-! {} as an own dict; xs.pop(i); max(a, b), min(a, b); a contract that is never met -/
namespace Cl
open PySem PySem.Spec PyProof.Rows L2
section
variable {X : Cx} {ZP : ZT} {pos : Pos}
def t_gd0 : TD := fun cs Q => Q (.gd []) cs
theorem de_gd0 : DE X ZP (.Dict [] [] pos) t_gd0 := by
  refine ⟨⟨fun pins s σ H Q I h => ?_⟩⟩
  obtain ⟨B, cs, g, R, Q', q, k⟩ := h
  have hn := I.hok.fresh (Nat.le_refl s.heap.objs.size)
  have hd : DictHas s.heap.objs.size 0 [] (s.heap.push { cls := .type "dict", data := .dict #[] }) := ⟨Ne.symm (Nat.ne_of_lt I.big), _, Heap.get?_push_size _ rfl, ⟨rfl, rfl, rfl⟩, rfl⟩
  have n := R.nofz hn
  refine wpAny_Dict_empty ⟨.ref s.heap.objs.size, _, I.laid (a := s.heap.objs.size) (o := .ext (DictHas s.heap.objs.size 0 [])) (t' := s.toks) (fun _ _ q => Heap.get?_push_of_some _ q) (Nat.le_refl _) (ext_dict hd), rfl, ?_⟩
  refine k (.gd []) cs _ g _ q (R.laid hn) ⟨_, rfl, n.1, n.2, 0, [], [], [], upd_same, .nil, .nil, .nil, .nil, [], rfl, .nil, (fun _ z => nomatch z), rfl⟩ (fun a e2 => ?_) (fun _ h => h) (.laid hn)
  cases e2
  refine ⟨fun h => ?_, hn⟩
  obtain ⟨u, h⟩ := R.owsome h
  rw [hn] at h; cases h
end
/-! ### max, min of two -/
def max2X : OpX := fun x y Q => match x, y with
  | .int i, .int j => Q (.dat (.int (if j > i then j else i)))
  | _, _ => False
def min2X : OpX := fun x y Q => match x, y with
  | .int i, .int j => Q (.dat (.int (if j < i then j else i)))
  | _, _ => False
theorem c_max2 {X : Cx} (hc : X.calm = true) : CallR X (.builtin "max") (rC2 X.kw max2X) := by
  rintro pins s σ H xs us Q I r ⟨x, y, fz, d, e, rfl, hd, he, Q', q, k⟩
  cases d with
  | int i =>
    cases e with
    | int j =>
      cases hd.int; cases he.int
      exact call_max2 hc pins s σ H _ us Q I r ⟨i, j, rfl, k _ _ _ q (.same (.int _))⟩
    | _ => exact q.elim
  | _ => cases e <;> exact q.elim
/-! ### xs.pop(i) -/
theorem RpAll.eraseIdx {K : KW} {H : Hp} {fz : Addr → Prop} : ∀ {ds : List PyData} {vs : List V} (i : Nat), RpAll K H fz ds vs → RpAll K H fz (ds.eraseIdx i) (vs.eraseIdx i)
  | _, _, _, .nil => .nil
  | _, _, 0, .cons _ t => t
  | _, _, i + 1, .cons r t => .cons r (RpAll.eraseIdx i t)
def t_popAt (i : Nat) (te : TVD) : TVD := fun cs Q => (∃ xs, cs[i]? = some (some (.own xs))) ∧ te cs fun d cs1 => match d with
  | .int j => ∃ xs k e, cs1[i]? = some (some (.own xs)) ∧ seqIndex? j xs.length = some k ∧ xs[k]? = some e ∧ -(2 ^ 63) ≤ j ∧ j < 2 ^ 63 ∧ Q e (cs1.set i (some (.own (xs.eraseIdx k))))
  | _ => False
section
variable {X : Cx} {ZP : ZT} {e : Expr} {x : Str} {xpos apos cpos pos : Pos} {te : TVD}
theorem dvpopi (i : Nat) (h : DV X ZP e te) (hN : X.N[i]? = some x := by rfl) (hv : Vis X.env.scope x := by first | exact Or.inl rfl | exact Or.inr (Or.inl rfl) | exact Or.inr (Or.inr rfl)) (hd : (x == ("__debug__" : Str)) = false := by decide) (hcd : (x == ("__classdict__" : Str)) = false := by decide)
    (hst : starEach [e] X.env = (false, eval e X.env) :: starEach [] X.env := by rfl) (hbase : attributeBase (.Name x xpos) "pop" X.env (eval (.Name x xpos) X.env) = eval (.Name x xpos) X.env := by rfl) (hfew : ((backTo cpos (starEach [e] X.env)).all (fun x => !x.1) && (backToKw cpos (keywordEach [] X.env)).all (fun x => x.1.isSome)
      && decide (([e] : List Expr).length + ([] : List Keyword).length + (if ([] : List Keyword).isEmpty then 0 else 1) < 30)) = true := by rfl) (hline : (apos.endLine == cpos.line) = true := by rfl) :
    DV X ZP (.Call (.Attribute (.Name x xpos) "pop" apos) [e] [] cpos) (t_popAt i te) := by
  refine ⟨PE.imp (pe_bm PySem.F.plainAttrs_list PySem.F.slot_list_pop PySem.F.type_list_pop mt_popAt (pe_var hN hv hd hcd) (pa_cons h.pe pa_nil hst) hbase hfew hline hst rfl) ?_⟩
  rintro σ H Q ⟨B, cs, g, R, Q', ⟨⟨xs, e1⟩, q⟩, k⟩
  obtain ⟨v, e2, _⟩ := R.slot i _ e1
  refine ⟨v, e2, (ty_own R e1 e2).1, B, cs, g, R, _, q, fun d cs1 u g1 H1 q1 R1 r1 s1 f1 => ?_⟩
  cases d with
  | int j =>
    obtain ⟨ys, kk, c, e3, hi, hc, b1, b2, q2⟩ := q1
    cases r1
    obtain ⟨_, a, vs, rfl, ha, ra⟩ := ty_own R1 e3 e2
    obtain ⟨y, hy, ry⟩ := ra.get' hc
    refine ⟨a, vs, j, kk, y, rfl, rfl, ha, b1, b2, by rw [← ra.length]; exact hi, hy, ?_⟩
    have n1 := (R1.slot i _ e3)
    obtain ⟨R2, f2, s2⟩ := R1.updOwn e3 e2 (ra.eraseIdx kk)
    have f12 := f1.trans (f2.mono fun b _ _ h => s1 b h)
    exact k c _ y g1 _ q2 R2 (Rp.frm f2 R1.fzow ry) (fun b h => s1 b (s2 b h)) f12
  | _ => exact q1.elim
end
/-! ### a promise that asks too much -/
end Cl

/-! dict(xs), xs a list of pairs -/
namespace Cl
open PySem PySem.Spec PyProof.Rows L2
section
variable {X : Cx} {ZP : ZT} {B : Bs} {g : GW} {cs : CS} {σ : L2.St} {pins : List (Addr × Obj)}
end
/-- the pairs of a list -/
def pairsD : List PyData → Option GKV
  | [] => some []
  | .tuple [k, v] :: ds => (pairsD ds).map ((k, v) :: ·)
  | _ :: _ => none
def t_dictP (ta : TLD) : TD := fun cs Q => ta cs fun l cs1 => match l.get cs1 with
  | some (.list ds) => ds.length ≤ sizeLine ∧ ∃ kvs, pairsD ds = some kvs ∧ (∀ kv ∈ kvs, hashK kv.1 = true) ∧ Q (.gd (putAll [] kvs)) cs1
  | _ => False
section
variable {X : Cx} {ZP : ZT} {p pos : Pos} {e : Expr} {ta : TLD}
end
end Cl

/-! for .. in zip(a, b), a and b lists, tuples or texts -/
namespace Cl
open PySem PySem.Spec PyProof.Rows L2
inductive SQ where
  | lst (a : Addr) | tup (a : Addr) | txt (x : Str) (t : Tok)
def SQ.u : SQ → Value
  | .lst a => .ref a
  | .tup a => .ref a
  | .txt x t => .str x t
def SQ.v : SQ → V
  | .lst a => .ref a
  | .tup a => .ref a
  | .txt x _ => .str x
def SQ.fp : SQ → List Addr
  | .lst a => [a]
  | .tup a => [a]
  | .txt _ _ => []
def signs (x : Str) : List V := x.cps.toList.map fun c => .str ⟨#[c]⟩
/-- the items of a list, a tuple, a text -/
def seqT : PyData → Option (List PyData)
  | .list ds => some ds
  | .tuple ds => some ds
  | .str z => some (z.cps.toList.map fun c => .str ⟨#[c]⟩)
  | _ => none
def SQS (K : PySem.W.Frag) (k : SQ) (xs : List V) (H : Hp) : Prop := match k with
  | .lst a => H a = some (.lst xs)
  | .tup a => SqT K H a xs
  | .txt x _ => xs = signs x
def sqI (k : SQ) (it : Addr) (i : Nat) (h : Heap) : Prop := match k with
  | .lst a => h.IsListIter it a i
  | .tup a => h.IsTupleIter it a i
  | .txt x t => h.IsStrIter it (strIterType x) x t i
def sqO (k : SQ) : Obj := match k with
  | .lst a => { cls := .type "list_iterator", data := .fields #[.ref a, .int 0 0] }
  | .tup a => { cls := .type "tuple_iterator", data := .fields #[.ref a, .int 0 0] }
  | .txt x t => { cls := .type (strIterType x), data := .fields #[.str x t, .int 0 0] }
def sqG (k : SQ) (its : Array Value) (h : Heap) : Prop := match k with
  | .lst a => h.IsList a its
  | .tup a => h.IsTuple a its
  | .txt _ _ => True
def sqP (k : SQ) (its : Array Value) (i : Nat) (v : Value) : Prop := match k with
  | .lst _ => its[i]? = some v
  | .tup _ => its[i]? = some v
  | .txt x _ => ∃ c u, x.cps[i]? = some c ∧ v = .str ⟨#[c]⟩ u
def sqN (k : SQ) (its : Array Value) : Nat := match k with
  | .txt x _ => x.cps.size
  | _ => its.size
section
variable {X : Cx} {pins : List (Addr × Obj)} {σ : L2.St} {H : Hp} {s : Shared} {k : SQ} {it : Addr} {xs : List V}
theorem sq_its (I : Inv X pins σ H s) (h : SQS X.K k xs H) : ∃ its : List Value, sqG k its.toArray s.heap ∧ its.length = xs.length ∧ ∀ i v, sqP k its.toArray i v → ∃ y, xs[i]? = some y ∧ RelV y v := by
  cases k with
  | lst a =>
    obtain ⟨its, rv, p, z⟩ := I.list (SqL.of h)
    refine ⟨its, p.isList, rv.length.symm, fun i v e => ?_⟩
    have e : its[i]? = some v := by simpa [sqP] using e
    have hi : i < xs.length := by rw [rv.length]; exact (List.getElem?_eq_some_iff.mp e).1
    obtain ⟨u, hu, ru⟩ := rv.get (List.getElem?_eq_getElem hi)
    rw [e] at hu; cases hu
    exact ⟨_, List.getElem?_eq_getElem hi, ru⟩
  | tup a =>
    obtain ⟨its, rv, p, z⟩ := I.tuple h
    refine ⟨its, p, rv.length.symm, fun i v e => ?_⟩
    have e : its[i]? = some v := by simpa [sqP] using e
    have hi : i < xs.length := by rw [rv.length]; exact (List.getElem?_eq_some_iff.mp e).1
    obtain ⟨u, hu, ru⟩ := rv.get (List.getElem?_eq_getElem hi)
    rw [e] at hu; cases hu
    exact ⟨_, List.getElem?_eq_getElem hi, ru⟩
  | txt x t =>
    have h : xs = signs x := h
    subst h
    refine ⟨(List.replicate x.cps.size .none), True.intro, by simp [signs], fun i v e => ?_⟩
    obtain ⟨c, u, e, rfl⟩ := e
    refine ⟨.str ⟨#[c]⟩, ?_, u, rfl⟩
    unfold signs
    rw [List.getElem?_map]
    have : x.cps.toList[i]? = some c := by simpa using e
    rw [this]; rfl
theorem sq_begins (k : SQ) (its : Array Value) : Begins k.u (sqO k) (sqG k its) := by
  cases k with
  | lst a => exact begins_list a its
  | tup a => exact begins_tuple a its
  | txt x t => exact begins_text x t
theorem sq_start {h : Heap} (e : h.get? it = some (sqO k)) : sqI k it 0 h := by
  cases k with
  | lst a => exact ⟨_, e, rfl, rfl⟩
  | tup a => exact ⟨_, e, rfl, rfl⟩
  | txt x t => exact ⟨_, e, rfl, rfl⟩
theorem sq_obj {h : Heap} {i : Nat} (e : sqI k it i h) : ∃ o, h.get? it = some o ∧ ∀ v, o.data ≠ .cell v := by
  cases k with
  | lst a => obtain ⟨o, e, _, d⟩ := e; exact ⟨o, e, fun v z => by rw [d] at z; cases z⟩
  | tup a => obtain ⟨o, e, _, d⟩ := e; exact ⟨o, e, fun v z => by rw [d] at z; cases z⟩
  | txt x t => obtain ⟨o, e, _, d⟩ := e; exact ⟨o, e, fun v z => by rw [d] at z; cases z⟩
theorem sq_keep {h h' : Heap} {i : Nat} (e : sqI k it i h) (hk : ∀ o, h.get? it = some o → h'.get? it = some o) : sqI k it i h' := by
  cases k with
  | lst a => exact e.at hk
  | tup a => exact e.at hk
  | txt x t => obtain ⟨o, e, r⟩ := e; exact ⟨o, hk o e, r⟩
theorem sq_ne (I : Inv X pins σ H s) (f : FpOk X pins H it) (h : SQS X.K k xs H) : ∀ a ∈ k.fp, a ≠ it := by
  have tr : ∀ a u, H a = some u → a ≠ it := fun a u e z => by
    subst z; rw [f.1] at e; cases e
  cases k with
  | lst a => intro b hb; rw [List.mem_singleton.mp hb]; exact tr _ _ h
  | tup a =>
    intro b hb
    rw [List.mem_singleton.mp hb]
    exact src_ne (k := .tup) I f h
  | txt x t => intro b hb; cases hb
theorem sq_draws {P : Program} {w : World} {A : Around} (hh : A.handled = none) (hne : ∀ a ∈ k.fp, a ≠ it) (its : Array Value) : ∃ n, (∀ i v, sqP k its i v → True) ∧ Draws P w A it (it :: k.fp) n (sqP k its) (fun i h => sqI k it i h ∧ sqG k its h) ∧ n = sqN k its := by
  cases k with
  | lst a => exact ⟨_, fun _ _ _ => True.intro, .list hh it a (hne a (List.mem_singleton.mpr rfl)) its, rfl⟩
  | tup a => exact ⟨_, fun _ _ _ => True.intro, .tuple hh it a (hne a (List.mem_singleton.mpr rfl)) its, rfl⟩
  | txt x t =>
    refine ⟨x.cps.size, fun _ _ _ => True.intro, ?_, rfl⟩
    have D : Draws P w A it [it] x.cps.size (fun i v => ∃ c u, x.cps[i]? = some c ∧ v = .str ⟨#[c]⟩ u) (fun i h => h.IsStrIter it (strIterType x) x t i) := by
      cases ha : x.cps.all (· < 128)
      · simp only [strIterType, ha, Bool.false_eq_true, if_false]
        exact .strWide hh it x t
      · simp only [strIterType, ha, if_true]
        exact .strAscii hh it x t
    exact ⟨fun i h st => D.live i h st.1, fun i h h' st hk => ⟨D.frame i h h' st.1 hk, True.intro⟩,
      fun i s Q E hi st hQ => D.item i s Q E hi st.1 fun x h' tk p st' sb => hQ x h' tk p ⟨st', True.intro⟩ sb,
      fun s Q E st hE => D.done s Q E st.1 hE⟩
theorem sq_n {its : List Value} (I : Inv X pins σ H s) (h : SQS X.K k xs H) (hl : its.length = xs.length) : sqN k its.toArray = xs.length := by
  cases k with
  | lst a => simpa [sqN] using hl
  | tup a => simpa [sqN] using hl
  | txt x t =>
    have h : xs = signs x := h
    subst h
    simp [signs, sqN]
end
theorem turn_zipQ {P : Program} {w : World} {K : PySem.W.Frag} {elts : List Expr} {kk : Nat} {tpos : Pos} (k1 k2 : SQ) (z TI TO i1 i2 : Addr) (xs ys : List V) (D : ZipA z TI TO i1 i2) :
    Turn P w K (.Tuple elts kk tpos) (ItP (fun H => SQS K k1 xs H ∧ SQS K k2 ys H) (zipR xs ys)) [z, TI, TO, i1, i2] z
      (fun i h => IsZip h z TI TO .none ∧ IsTupOf2 h TI (.ref i1) (.ref i2) ∧ (∃ x y, IsTupOf2 h TO x y) ∧ sqI k1 i1 i h ∧ sqI k2 i2 i h) := by
  obtain ⟨d1, d2, d3, d4, d5, d6, d7, d8, d9, d10⟩ := D
  refine turn_pairs (wr := [z, TO, i1, i2]) (by simp) (fun b h => ?_) (zipR_sz xs ys) ?_ ?_ ?_ ?_
  · have h : b = z ∨ b = TO ∨ b = i1 ∨ b = i2 := by simpa using h
    rcases h with rfl | rfl | rfl | rfl <;> simp
  · rintro i h ⟨hz, hT, ⟨x, y, hO⟩, h1, h2⟩ c hc
    have hc : c = z ∨ c = TI ∨ c = TO ∨ c = i1 ∨ c = i2 := by simpa using hc
    rcases hc with rfl | rfl | rfl | rfl | rfl
    · exact ⟨_, hz, fun v z => nomatch z⟩
    · exact ⟨_, hT, fun v z => nomatch z⟩
    · exact ⟨_, hO, fun v z => nomatch z⟩
    · exact sq_obj h1
    · exact sq_obj h2
  · rintro i h h' ⟨hz, hT, ⟨x, y, hO⟩, h1, h2⟩ hk
    exact ⟨hk z (by simp) _ hz, hk TI (by simp) _ hT, ⟨x, y, hk TO (by simp) _ hO⟩, sq_keep h1 fun o q => hk i1 (by simp) o q, sq_keep h2 fun o q => hk i2 (by simp) o q⟩
  · rintro X rfl rfl rfl hc pins s σ H i I hf ⟨hS1, hS2⟩ ⟨hz, hT, hO, h1, h2⟩
    obtain ⟨its1, g1, l1, p1⟩ := sq_its I hS1
    obtain ⟨its2, g2, l2, p2⟩ := sq_its I hS2
    have fz := hf z (by simp)
    have fTI := hf TI (by simp)
    have fTO := hf TO (by simp)
    have f1 := hf i1 (by simp)
    have f2 := hf i2 (by simp)
    obtain ⟨n1, _, D1, e1⟩ := sq_draws (P := X.prog) (w := X.w) (A := X.A.in1) (k := k1) (I.ok.hd hc) (sq_ne I f1 hS1) its1.toArray
    obtain ⟨n2, _, D2, e2⟩ := sq_draws (P := X.prog) (w := X.w) (A := X.A.in1) (k := k2) (I.ok.hd hc) (sq_ne I f2 hS2) its2.toArray
    have nm : ∀ {k : SQ} {x : Addr} {zs : List V}, FpOk X pins H x → SQS X.K k zs H → x ∉ k.fp := fun f S m => sq_ne I f S _ m rfl
    have Z : ZipSep2 z TI TO i1 i2 (i1 :: k1.fp) (i2 :: k2.fp) :=
      { TIz := d1, TOz := d2, TITO := d3, TIi1 := d4, mem1 := List.mem_cons_self, zf1 := fun m => (List.mem_cons.mp m).elim d6 (nm fz hS1), Tf1 := fun m => (List.mem_cons.mp m).elim d8 (nm fTO hS1),
        TIi2 := d5, mem2 := List.mem_cons_self, zf2 := fun m => (List.mem_cons.mp m).elim d7 (nm fz hS2), Tf2 := fun m => (List.mem_cons.mp m).elim d9 (nm fTO hS2),
        sep1_2 := fun m => (List.mem_cons.mp m).elim d10 (nm f1 hS2), sep2_1 := fun m => (List.mem_cons.mp m).elim d10.symm (nm f2 hS1) }
    have G := zip2X (elts := elts) (x1 := kk) (pos := tpos) Z D1 D2
    rw [show min n1 n2 = (zipR xs ys).length by rw [zipR_len, e1, e2, sq_n I hS1 l1, sq_n I hS2 l2]] at G
    refine ⟨_, _, G.mono ?_, ⟨hz, hT, hO, ⟨h1, g1⟩, h2, g2⟩, ?_⟩
    · rintro j h0 v h hj ⟨T, x, y, rfl, hT, hx, hy, ht⟩
      obtain ⟨u, hu, ru⟩ := p1 _ _ hx
      obtain ⟨u2, hu2, ru2⟩ := p2 _ _ hy
      exact ⟨T, [x, y], [u, u2], rfl, hT, zipR_get xs ys j _ _ hu hu2, .cons ru (.cons ru2 .nil), ht⟩
    · rintro j h ⟨hz, hT, hO, ⟨h1, _⟩, h2, _⟩
      exact ⟨hz, hT, hO, h1, h2⟩
  · rintro A i s Q E ⟨hz, _⟩ q
    exact wpAny_pyIter_zip hz q
theorem SQ.q {k : SQ} {u : Value} (r : RelV k.v u) : ∃ k' : SQ, u = k'.u ∧ ∀ K xs H, SQS K k' xs H = SQS K k xs H := by
  cases k with
  | lst a => cases r; exact ⟨.lst a, rfl, fun _ _ _ => rfl⟩
  | tup a => cases r; exact ⟨.tup a, rfl, fun _ _ _ => rfl⟩
  | txt x t => obtain ⟨t', rfl⟩ := r; exact ⟨.txt x t', rfl, fun _ _ _ => rfl⟩
def iZipQ (K : PySem.W.Frag) (ta : TA) : TI := fun σ H R => ta σ H fun vs H1 => ∃ k1 k2 : SQ, ∃ xs ys, vs = [k1.v, k2.v] ∧ SQS K k1 xs H1 ∧ SQS K k2 ys H1 ∧ R (ItP (fun H => SQS K k1 xs H ∧ SQS K k2 ys H) (zipR xs ys)) H1
theorem pi_zipQ {X : Cx} {e e2 : Expr} {ta : TA} {p pos tpos : Pos} {elts : List Expr} {kk : Nat} (hg : Gl X "zip") (hm : X.mg "zip" = none) (ha : PA X [e, e2] ta)
    (hs : starEach [e, e2] X.env = (false, eval e X.env) :: starEach [e2] X.env := by rfl) (hpl : (backTo pos (starEach [e2] X.env)).any (·.1) = false := by rfl) :
    PI X (.Tuple elts kk tpos) (.Call (.Name "zip" p) [e, e2] [] pos) (iZipQ X.K ta) := by
  constructor
  intro pins s σ H R I h
  refine Call_ (ld_blt I hg hm PyProof.Rows.boot_zip (PyProof.Rows.callWith_type1 (thn (ha.run pos pins s σ H _ I h) ?_) hs hpl))
  rintro us s1 ⟨vs, H1, I1, r1, k1, k2, xs, ys, rfl, hS1, hS2, q⟩
  obtain ⟨u1, u2, rfl, q1, q2⟩ := vals2 r1
  obtain ⟨k1, rfl, f1⟩ := SQ.q q1
  obtain ⟨k2, rfl, f2⟩ := SQ.q q2
  simp only [← f1, ← f2] at hS1 hS2 q
  obtain ⟨its1, g1, l1, p1⟩ := sq_its I1 hS1
  obtain ⟨its2, g2, l2, p2⟩ := sq_its I1 hS2
  refine zip_begins2 (sq_begins k1 its1.toArray) (sq_begins k2 its2.toArray) g1 g2 fun h' hz hTI hTO e1 e2 hsz hk => wpAny_pyIter_zip hz ?_
  have I2 : Inv X pins σ H1 { s1 with heap := h' } := I1.kept (t' := s1.toks) hk
  refine ⟨s1.heap.objs.size + 4, [s1.heap.objs.size + 4, s1.heap.objs.size + 2, s1.heap.objs.size + 3, s1.heap.objs.size, s1.heap.objs.size + 1], _, _, H1, rfl, I2, turn_zipQ k1 k2 _ _ _ _ _ xs ys (zipA _), ⟨hz, hTI, ⟨_, _, hTO⟩, sq_start e1, sq_start e2⟩, fun c hc => ?_, q⟩
  · have hle : s1.heap.objs.size ≤ c := by
      have hc : c = s1.heap.objs.size + 4 ∨ c = s1.heap.objs.size + 2 ∨ c = s1.heap.objs.size + 3 ∨ c = s1.heap.objs.size ∨ c = s1.heap.objs.size + 1 := by simpa using hc
      rcases hc with rfl | rfl | rfl | rfl | rfl
      · exact Nat.le_add_right _ _
      · exact Nat.le_add_right _ _
      · exact Nat.le_add_right _ _
      · exact Nat.le_refl _
      · exact Nat.le_add_right _ _
    exact I1.fpOk hle (I1.hok.fresh hle)
theorem Rp.sq {K : KW} {H : Hp} {g : GW} {d : PyData} {v : V} {ds : List PyData} (r : Rp K H g.fz d v) (e : seqT d = some ds) :
    ∃ k : SQ, ∃ xs, v = k.v ∧ RpAll K H g.fz ds xs ∧ SQS K k xs H ∧ ∀ g' H', Stay g H g' H' → SQS K k xs H' := by
  cases r with
  | @lst a xs _ hf ha ra => cases e; exact ⟨.lst a, xs, rfl, ra, ha, fun g' H' st => st.keep a _ hf ha⟩
  | @tup a xs _ ha ra => cases e; exact ⟨.tup a, xs, rfl, ra, ha.sq, fun g' H' st => (st.tups _ _ ha).sq⟩
  | str z =>
    cases e
    refine ⟨.txt z 0, signs z, rfl, ?_, rfl, fun _ _ _ => rfl⟩
    unfold signs
    induction z.cps.toList with
    | nil => exact .nil
    | cons c cs ih => exact .cons (.str _) ih
  | _ => cases e
def t_wzipT (t : TSA) : TID := fun cs Q => t cs fun svs cs1 => match svs with
  | [.dat d, .dat e] => (match seqT d, seqT e with
    | some ds, some es => Q (rowsD (zipRs ds es)) cs1
    | _, _ => False)
  | _ => False
theorem di_zipT {X : Cx} {ZP : ZT} {e e2 : Expr} {t : TSA} {p pos tpos : Pos} {elts : List Expr} {kk : Nat} (hg : Gl X "zip") (hm : X.mg "zip" = none) (ha : DA X ZP [e, e2] t) (hs : starEach [e, e2] X.env = (false, eval e X.env) :: starEach [e2] X.env := by rfl) (hpl : (backTo pos (starEach [e2] X.env)).any (·.1) = false := by rfl) : DI X ZP (.Tuple elts kk tpos) (.Call (.Name "zip" p) [e, e2] [] pos) (t_wzipT t) := by
  refine ⟨PI.imp (pi_zipQ hg hm ha.pa hs hpl) ?_⟩
  rintro σ H R ⟨B, cs, g, Re, Q', q, k⟩
  refine ⟨B, cs, g, Re, _, q, fun svs cs1 vs g1 H1 q1 R1 r1 st s1 f1 => ?_⟩
  match svs, r1, q1 with
  | [.dat d, .dat d2], .cons r (.cons r' .nil), q1 =>
    cases e1 : seqT d with
    | none => simp only [e1] at q1
    | some ds =>
      cases e2 : seqT d2 with
      | none => simp only [e1, e2] at q1
      | some es =>
        simp only [e1, e2] at q1
        obtain ⟨k1, xs, rfl, ra, hS, hst⟩ := Rp.sq r e1
        obtain ⟨k2, ys, rfl, rb, hS2, hst2⟩ := Rp.sq r' e2
        obtain ⟨h1, h2⟩ := zipRs_ok ra rb
        exact ⟨k1, k2, xs, ys, rfl, hS, hS2, k _ cs1 _ g1 H1 q1 R1 (walk_pairs (fun g' H' s => ⟨hst g' H' s, hst2 g' H' s⟩) h1 h2) s1 f1⟩
end Cl

/-! x < y of data that are alike, or alike up to the first place that differs -/
namespace Cl
open PySem PySem.Spec PyProof.Rows L2
def klk (x y : PyData) : Prop := (∃ k, nkey x = some k) ∧ (∃ k, nkey y = some k) ∧ klike x y = true ∧ min x.depth y.depth ≤ 60
def ltZ : OpX := fun x y Q => match x, y with
  | .int i, .int j => Q (.dat (.bool (decide (i < j))))
  | x, y => (alk x y ∨ klk x y) ∧ Q (.dat (.bool (PySem.W.dataLt x y)))
section
variable {X : Cx}
theorem oz_lt (hu : X.A.units + 64 < cLine) : OpR X (compareOp .Lt) (rO X.kw ltZ) := by
  rintro pins s σ H x y v u Q I rx ry ⟨fz, d, e, hd, he, Q', q, k⟩
  have gen : (alk d e ∨ klk d e) ∧ Q' (.dat (.bool (PySem.W.dataLt d e))) → wpAny (model X.prog X.w) X.A (compareOp .Lt v u) (EP X pins σ Q) X.xe s := fun ⟨a, q⟩ => by
    obtain ⟨as, r1, _⟩ := RB.reads I hd rx
    obtain ⟨bs, r2, _⟩ := RB.reads I he ry
    rcases a with ⟨a1, a2, a3⟩ | ⟨⟨k1, a1⟩, ⟨k2, a2⟩, a3, a4⟩
    · exact PySem.W.lt_data r1 r2 a1 a2 (by omega) ⟨.bl _, H, I, rfl, k _ _ _ q (.same (.bl _))⟩
    · exact rcLt_kl d e X.A s v u as bs k1 k2 r1 r2 a1 a2 a3 (by omega) X.prog X.w X.xe (EP X pins σ Q) ⟨.bl _, H, I, rfl, k _ _ _ q (.same (.bl _))⟩
  cases d with
  | int i =>
    cases e with
    | int j =>
      cases hd.int; cases he.int
      exact op_lt pins s σ H _ _ v u Q I rx ry ⟨i, j, rfl, rfl, k _ _ _ q (.same (.bl _))⟩
    | _ => exact gen q
  | _ => cases e <;> exact gen q
end
/-! text * int -/
def repS (z : Str) (n : Nat) : Str := ⟨(List.replicate n z.cps.toList).flatten.toArray⟩
theorem foldl_app (xs : List (Array Nat)) : ∀ a : Array Nat, (xs.foldl (· ++ ·) a).toList = a.toList ++ (xs.map Array.toList).flatten := by
  induction xs with
  | nil => intro a; simp
  | cons x xs ih => intro a; rw [List.foldl_cons, ih]; simp [List.append_assoc]
theorem mul_rep (x : Str) (n : Int) (h : 0 ≤ n) : Txt.mul x n = repS x n.toNat := by
  unfold Txt.mul
  by_cases h1 : n < 1
  · rw [if_pos h1]
    obtain rfl : n = 0 := by omega
    rfl
  · rw [if_neg h1]
    by_cases h2 : (n == 1 || x.length == 0) = true
    · rw [if_pos h2]
      rw [Bool.or_eq_true, beq_iff_eq, beq_iff_eq] at h2
      have go : x.cps.toList = (List.replicate n.toNat x.cps.toList).flatten → x = repS x n.toNat := fun e => by
        unfold repS
        rw [← e]
      rcases h2 with rfl | h2
      · exact go (by simp [List.replicate])
      · have : x.cps.toList = [] := List.eq_nil_of_length_eq_zero (by rw [Array.length_toList]; exact h2)
        refine go ?_
        rw [this]
        induction n.toNat with
        | zero => rfl
        | succ k ih => rw [List.replicate_succ, List.flatten_cons, ← ih]; rfl
    · rw [if_neg h2]
      unfold repS
      have : (List.foldl (· ++ ·) #[] (List.replicate n.toNat x.cps)).toList = (List.replicate n.toNat x.cps.toList).flatten := by
        rw [foldl_app]
        simp
      rw [← this]
def mulZ : OpX := fun x y Q => match x, y with
  | .str z, .int k => z.length ≤ 1000 ∧ 0 ≤ k ∧ k ≤ 1000 ∧ Q (.dat (.str (repS z k.toNat)))
  | x, y => mulY x y Q
theorem oz_mul {X : Cx} : OpR X (binaryOp .Mult) (rO X.kw mulZ) := by
  rintro pins s σ H x y v u Q I rx ry ⟨fz, d, e, hd, he, Q', q, k⟩
  have old : mulY d e Q' → wpAny (model X.prog X.w) X.A (binaryOp .Mult v u) (EP X pins σ Q) X.xe s := fun q => oy_mul pins s σ H x y v u Q I rx ry ⟨fz, d, e, hd, he, Q', q, k⟩
  cases d with
  | str z =>
    cases e with
    | int j =>
      obtain ⟨h1, h2, h3, q⟩ := q
      cases hd.str; cases he.int
      obtain ⟨t, rfl⟩ := rx
      obtain ⟨t2, rfl⟩ := ry
      have hl : z.length * j.toNat ≤ 1000 * 1000 := Nat.mul_le_mul h1 (by omega)
      refine SB.mul ⟨by simp; omega, fun a _ => ?_, fun _ _ => ?_⟩ fun t' tk => ?_
      · have : (1000 : Int) ≤ (2 ^ 63 - 1) / j := by
          rw [Int.le_ediv_iff_mul_le (by omega)]
          omega
        omega
      · have : ¬ z.length * j.toNat > sizeLine := by rw [sizeLine_eq]; omega
        exact decide_eq_false this
      · rw [mul_rep z j h2]
        exact ⟨.str _, H, I.kept (t' := tk) fun b o e => e, ⟨t', rfl⟩, k _ _ _ q (.same (.str _))⟩
    | _ => exact old q
  | _ => exact old q
end Cl

/-! len(set(list of texts)) -/
namespace Cl
open PySem PySem.Spec PyProof.Rows L2
/-- texts, each once, in the order in which they come first -/
def uniq (xs : List Str) : List Str := xs.foldl (fun acc x => if x ∈ acc then acc else acc ++ [x]) []
section
variable {P : Program} {w : World} {A : Around} {R : Result → Shared → Prop} {J S : Addr} {fp wr : List Addr} {G : Array GenState → Array GenState → Prop} {n : Nat} {Pv : Nat → Value → Prop} {St : Nat → Shared → Prop}
end
section
variable {P : Program} {w : World} {A : Around} {E : Value → Shared → Prop} {s : Shared}
end
section
variable {X : Cx} {ZP : ZT} {a : Expr} {tl : TLD} {p p2 q pos : Pos}
def textsD : List PyData → Option (List Str)
  | [] => some []
  | .str z :: ds => (textsD ds).map (z :: ·)
  | _ :: _ => none
def t_lensetS (t : TLD) : TVD := fun cs Q => t cs fun l cs1 => ∃ ds xs, l.get cs1 = some (.list ds) ∧ textsD ds = some xs ∧ xs.length ≤ 4000 ∧ Q (.int (uniq xs).length) cs1
end
end Cl

/-! list(dict) -/
namespace Cl
open PySem PySem.Spec PyProof.Rows L2
theorem DictHas.same {a : Addr} {ep : Nat} {es : List DictEntry} {h h' : Heap} (x : DictHas a ep es h) (k : ∀ o, h.get? a = some o → h'.get? a = some o) : DictHas a ep es h' :=
  let ⟨n, o, ho, r⟩ := x; ⟨n, o, k o ho, r⟩
theorem keysWalk {P : Program} {w : World} {A : Around} (hh : A.handled = none) (J d : Addr) (hne : d ≠ J) (es : List DictEntry) (ep : Nat) :
    Walks P w A J [J, d] [J] es.length (fun i v => ∃ e, es[i]? = some e ∧ v = e.key) (fun i h => h.IsKeyIter J d i es.length ep ∧ DictHas d ep es h) where
  sub := fun b hb => by rw [List.mem_singleton.mp hb]; exact List.mem_cons_self
  frame := fun _ _ _ st hk => ⟨st.1.at fun o e => hk J (by simp) o e, st.2.same fun o e => hk d (by simp) o e⟩
  item := fun i s Q E hi st hQ => by
    obtain ⟨n, o, ho, hex, hd⟩ := id st.2
    have hl : i < es.toArray.size := by simpa using hi
    refine wpAny_pyNext_keys_item_raw (es := es.toArray) (by simpa using st.1) ⟨o, ho, hex, hd⟩ hl fun h' st' sb => ?_
    exact hQ _ h' s.toks ⟨es[i], by simp [hi], by simp⟩ ⟨by simpa using st', st.2.same fun o e => (sb.2 d hne).trans e⟩ fun b o hb e => (sb.2 b fun z => hb (by simp [z])).trans e
  done := fun s Q E st hQ => by
    obtain ⟨n, o, ho, hex, hd⟩ := id st.2
    exact wpAny_pyNext_keys_end_raw (es := es.toArray) hh (by simpa using st.1) ⟨o, ho, hex, hd⟩ (by simp) fun h' eb => hQ h' s.toks fun b o hb e => eb b o (fun z => hb (by simp [z])) e
  self := fun _ _ _ _ st hQ => wpAny_pyIter_keyiter st.1 hQ
theorem keysSrc {P : Program} {w : World} (d : Addr) (es : List DictEntry) (ep : Nat) (ne : d ≠ sysModules) : PySem.W.KdlSrc P w "dict" d d es.length (fun i v => ∃ e, es[i]? = some e ∧ v = e.key) (fun h => DictHas d ep es h) where
  type := fun s hm => DAt.typeIs (s := s) ⟨ep, hm⟩
  there := fun h hm => by obtain ⟨n, o, ho, r⟩ := hm; exact ⟨Heap.lt_size ho, Heap.lt_size ho⟩
  keep := fun _ _ hm hk => hm.same fun o e => hk d (.inl rfl) o e
  notList := by decide
  notTuple := by decide
  hint := fun _ _ s _ hm hq => PySem.W.kdl_hint_dict (DAt.typeIs (s := s) ⟨ep, hm⟩) hq
  iter := fun A s hh hm => by
    obtain ⟨n, o, ho, hex, hd⟩ := id hm
    exact ⟨_, _, (fun _ _ hq => wpAny_pyIter_dict_raw (es := es.toArray) (ep := ep) (beq_eq_false_iff_ne.mpr ne) ⟨o, ho, hex, hd⟩ hq), keysWalk hh _ d (Nat.ne_of_lt (Heap.lt_size ho)) es ep, ⟨_, Heap.get?_push_size _ rfl, rfl, by simp [rawInt]⟩, hm.same fun o e => Heap.get?_push_of_some _ e⟩
def listY : C1X := fun d Q => match d with
  | .dict kvs => kvs.length ≤ sizeLine ∧ Q (.own (kvs.map (·.1)))
  | _ => listX d Q
theorem vals_of_keys : ∀ {ks : List V} {es : List DictEntry} {its : List Value}, Vals ks (es.map (·.key)) → its.length = es.length → (∀ (j : Nat) (v : Value), its[j]? = some v → ∃ e, es[j]? = some e ∧ v = e.key) → Vals ks its := by
  intro ks es its h hl hat
  have e : its = es.map (·.key) := by
    refine List.ext_getElem? fun j => ?_
    rw [List.getElem?_map]
    by_cases lt : j < its.length
    · obtain ⟨x, e1, e2⟩ := hat j _ (List.getElem?_eq_getElem lt)
      rw [List.getElem?_eq_getElem lt, e1, e2]; rfl
    · rw [List.getElem?_eq_none (by omega), List.getElem?_eq_none (by omega)]; rfl
  rw [e]; exact h
section
variable {X : Cx}
theorem c_listY (hc : X.calm = true) : CallR X (.type "list") (rC1 X.kw listY) := by
  rintro pins s σ H xs us Q I r ⟨x, fz, d, rfl, hd, Q', q, k⟩
  cases d with
  | dict kvs =>
    obtain ⟨hz, q⟩ := q
    obtain ⟨a, ep, es, ks, vs, rfl, hq, k1, v1, r1, r2, hh⟩ := hd
    obtain ⟨u, rfl, ru⟩ := vals1 r
    cases ru
    have hH : DictHas a ep es s.heap := (I.hok a _ hq).1
    have h1 := r1.length
    have h2 := k1.length
    simp only [List.length_map] at h1 h2
    have hl : kvs.length = es.length := by omega
    have hn : H s.heap.objs.size = none := I.hok.fresh (Nat.le_refl _)
    refine PySem.W.kdl_call (keysSrc a es ep hH.1) (I.ok.hd hc) hH (by rw [← hl]; exact hz) fun h' tk acc c hk hS hacc => ?_
    have hv : Vals ks acc.toList := vals_of_keys k1 (by rw [Array.length_toList]; exact hacc.1) fun j v e => hacc.2 j v (by rw [← Array.getElem?_toList]; exact e)
    exact ⟨.ref s.heap.objs.size, upd H s.heap.objs.size (.lst ks), I.laid (t' := tk) hk (Nat.le_refl _) ⟨by rw [← h1]; exact hz, acc.toList, c, hv, hS⟩, rfl, k _ _ _ q (.lst hn r1)⟩
  | list ds => exact c_list pins s σ H _ us Q I r ⟨x, fz, _, rfl, hd, Q', q, k⟩
  | tuple ds => exact c_list pins s σ H _ us Q I r ⟨x, fz, _, rfl, hd, Q', q, k⟩
  | _ => exact q.elim
end
end Cl

/-! True + 1 -/
namespace Cl
open PySem PySem.Spec PyProof.Rows L2
def addZ : OpX := fun x y Q => match x, y with
  | .bool b, .int k => Q (.dat (.int ((if b = true then (1 : Int) else 0) + k)))
  | x, y => addX x y Q
theorem oz_add {X : Cx} : OpR X (binaryOp .Add) (rO X.kw addZ) := by
  rintro pins s σ H x y v u Q I rx ry ⟨fz, d, e, hd, he, Q', q, k⟩
  have old : addX d e Q' → wpAny (model X.prog X.w) X.A (binaryOp .Add v u) (EP X pins σ Q) X.xe s := fun q => ox_add pins s σ H x y v u Q I rx ry ⟨fz, d, e, hd, he, Q', q, k⟩
  cases d with
  | bool b =>
    cases e with
    | int j =>
      cases hd.bl; cases he.int
      cases rx
      obtain ⟨t2, rfl⟩ := ry
      exact PySem.IntBool.add_bool_int ⟨.int _, H, I.tok _, ⟨_, rfl⟩, k _ _ _ q (.same (.int _))⟩
    | _ => exact old q
  | _ => cases e <;> exact old q
end Cl

/-! an expression that only reads what is one's own, and whose value holds none of it: all stays one's own -/
namespace Cl
open PySem PySem.Spec PyProof.Rows L2
def frzO : Option SV → Option SV
  | some (.obj (.lst xs)) => some (.dat (.list xs))
  | some (.obj (.gdc kvs)) => some (.dat (.dict kvs))
  | some (.obj (.dct _)) => none
  | some (.exc _ _ _ _) => none
  | some (.stp _ _) => none
  | some (.rtd _ _) => none
  | o => o
def frzAll (cs : CS) : CS := cs.map frzO
def flatSV : SV → Prop
  | .dat d => flat d
  | .obj (.lst ys) => ∀ d ∈ ys, flat d
  | _ => False
section
variable {K : KW} {ZP : ZT} {B : Bs} {g : GW} {H : Hp} {cs : CS} {σ : L2.St}
end
def t_keep (td : TD) : TD := fun cs Q => td (frzAll cs) fun sv cs' => cs' = frzAll cs ∧ flatSV sv ∧ Q sv cs
section
variable {X : Cx} {ZP : ZT} {e : Expr} {td : TD}
end
end Cl

/-! xs == [], xs != (), whatever stands in xs -/
namespace Cl
open PySem PySem.Spec PyProof.Rows L2 PySem.SeqAt
def eqZ : OpX := fun x y Q => match x, y with
  | .list xs, .list [] => Q (.dat (.bool (decide (xs = []))))
  | .tuple xs, .tuple [] => Q (.dat (.bool (decide (xs = []))))
  | x, y => eqY x y Q
def neZ : OpX := fun x y Q => match x, y with
  | .list xs, .list [] => Q (.dat (.bool (!decide (xs = []))))
  | .tuple xs, .tuple [] => Q (.dat (.bool (!decide (xs = []))))
  | x, y => neY x y Q
section
variable {X : Cx}
theorem lists_nil {A : Around} {s : Shared} {l b : Addr} {us ws : Array Value} (hl : s.heap.IsList l us) (hb : s.heap.IsList b ws) (hw : ws.size = 0) (hu : A.units < cLine) : RcAt A s (.ref l) (.ref b) (decide (us.size = 0)) ∧ RcNeAt A s (.ref l) (.ref b) (!decide (us.size = 0)) := by
  by_cases h : us.size = 0
  · rw [decide_eq_true h]
    have a := RcAt.lists (e := fun _ => true) hl hb (h.trans hw.symm) hu fun j h1 _ => by omega
    have b := RcNeAt.lists (e := fun _ => true) hl hb (h.trans hw.symm) hu fun j h1 _ => by omega
    rw [h] at a b
    exact ⟨a, b⟩
  · rw [decide_eq_false h]
    have z : (us.size != ws.size) = true := by rw [hw]; simpa using h
    exact ⟨RcAt.lists_lengths hl hb z hu, RcNeAt.lists_lengths hl hb z hu⟩
theorem tuples_nil {A : Around} {s : Shared} {l b : Addr} {us ws : Array Value} (hl : s.heap.IsTuple l us) (hb : s.heap.IsTuple b ws) (hw : ws.size = 0) (hu : A.units < cLine) : RcAt A s (.ref l) (.ref b) (decide (us.size = 0)) ∧ RcNeAt A s (.ref l) (.ref b) (!decide (us.size = 0)) := by
  have a := RcAt.tuples (e := fun _ => true) hl hb hu fun j _ h2 => by omega
  have c := RcNeAt.tuples (e := fun _ => true) hl hb hu fun j _ h2 => by omega
  have e : ((List.range (min us.size ws.size)).all (fun _ => true) && us.size == ws.size) = decide (us.size = 0) := by
    rw [hw, Nat.min_zero]
    show (true && us.size == 0) = _
    by_cases h : us.size = 0
    · rw [h]; rfl
    · rw [decide_eq_false h, beq_eq_false_iff_ne.mpr h]; rfl
  rw [e] at a c
  exact ⟨a, c⟩
theorem list_at {H : Hp} {fz : Addr → Prop} {s : Shared} {pins : List (Addr × Obj)} {σ : L2.St} {x : V} {v : Value} {xs : List PyData} (I : L2.Inv X pins σ H s) (rx : RelV x v) (hd : RB X.kw H fz (.list xs) x) : ∃ a us, v = .ref a ∧ s.heap.IsList a us ∧ us.size = xs.length := by
  obtain ⟨a, vs, rfl, h, ra⟩ := hd.lst
  obtain ⟨its, r, p, _⟩ := I.list (SqL.of h)
  exact ⟨a, its.toArray, by cases rx; rfl, p.isList, by rw [List.size_toArray, ← r.length, ra.length]⟩
theorem tup_at {fz : Addr → Prop} {H : Hp} {s : Shared} {pins : List (Addr × Obj)} {σ : L2.St} {x : V} {v : Value} {xs : List PyData} (I : L2.Inv X pins σ H s) (rx : RelV x v) (hd : RB X.kw H fz (.tuple xs) x) : ∃ a us, v = .ref a ∧ s.heap.IsTuple a us ∧ us.size = xs.length := by
  obtain ⟨a, vs, rfl, h, ra⟩ := hd.tup
  obtain ⟨its, r, p, _⟩ := I.tuple (h.sq)
  exact ⟨a, its.toArray, by cases rx; rfl, p, by rw [List.size_toArray, ← r.length, ra.length]⟩
theorem len0 {xs : List PyData} {n : Nat} (h : n = xs.length) : decide (n = 0) = decide (xs = []) := by
  subst h
  cases xs <;> simp
theorem oz_eq (hu : X.A.units + 64 < cLine) : OpR X (compareOp .Eq) (rO X.kw eqZ) := by
  rintro pins s σ H x y v u Q I rx ry ⟨fz, d, e, hd, he, Q', q, k⟩
  have old : eqY d e Q' → wpAny (model X.prog X.w) X.A (compareOp .Eq v u) (EP X pins σ Q) X.xe s := fun q => oy_eq hu pins s σ H x y v u Q I rx ry ⟨fz, d, e, hd, he, Q', q, k⟩
  have hlt : X.A.units < cLine := by omega
  cases d with
  | list xs =>
    cases e with
    | list ys =>
      cases ys with
      | cons => exact old q
      | nil =>
        obtain ⟨a, us, rfl, h1, h2⟩ := list_at I rx hd
        obtain ⟨b, ws, rfl, h3, h4⟩ := list_at I ry he
        have z := (lists_nil h1 h3 h4 hlt).1
        rw [len0 h2] at z
        exact z _ _ _ _ ⟨.bl _, H, I, rfl, k _ _ _ q (.same (.bl _))⟩
    | _ => exact old q
  | tuple xs =>
    cases e with
    | tuple ys =>
      cases ys with
      | cons => exact old q
      | nil =>
        obtain ⟨a, us, rfl, h1, h2⟩ := tup_at I rx hd
        obtain ⟨b, ws, rfl, h3, h4⟩ := tup_at I ry he
        have z := (tuples_nil h1 h3 h4 hlt).1
        rw [len0 h2] at z
        exact z _ _ _ _ ⟨.bl _, H, I, rfl, k _ _ _ q (.same (.bl _))⟩
    | _ => exact old q
  | _ => cases e <;> exact old q
theorem oz_ne (hu : X.A.units + 64 < cLine) : OpR X (compareOp .NotEq) (rO X.kw neZ) := by
  rintro pins s σ H x y v u Q I rx ry ⟨fz, d, e, hd, he, Q', q, k⟩
  have old : neY d e Q' → wpAny (model X.prog X.w) X.A (compareOp .NotEq v u) (EP X pins σ Q) X.xe s := fun q => oy_ne hu pins s σ H x y v u Q I rx ry ⟨fz, d, e, hd, he, Q', q, k⟩
  have hlt : X.A.units < cLine := by omega
  cases d with
  | list xs =>
    cases e with
    | list ys =>
      cases ys with
      | cons => exact old q
      | nil =>
        obtain ⟨a, us, rfl, h1, h2⟩ := list_at I rx hd
        obtain ⟨b, ws, rfl, h3, h4⟩ := list_at I ry he
        have z := (lists_nil h1 h3 h4 hlt).2
        rw [len0 h2] at z
        exact z _ _ _ _ ⟨.bl _, H, I, rfl, k _ _ _ q (.same (.bl _))⟩
    | _ => exact old q
  | tuple xs =>
    cases e with
    | tuple ys =>
      cases ys with
      | cons => exact old q
      | nil =>
        obtain ⟨a, us, rfl, h1, h2⟩ := tup_at I rx hd
        obtain ⟨b, ws, rfl, h3, h4⟩ := tup_at I ry he
        have z := (tuples_nil h1 h3 h4 hlt).2
        rw [len0 h2] at z
        exact z _ _ _ _ ⟨.bl _, H, I, rfl, k _ _ _ q (.same (.bl _))⟩
    | _ => exact old q
  | _ => cases e <;> exact old q
end
end Cl

/-! list(range(n)), tuple(range(n)) -/
namespace Cl
open PySem PySem.Spec PyProof.Rows L2
theorem rp_range {K : KW} {H : Hp} {fz : Addr → Prop} (a b : Int) : RpAll K H fz (rangeD a b) (rgV a b) := by
  unfold rangeD rgV
  generalize List.range (b - a).toNat = l
  induction l with
  | nil => exact .nil
  | cons i l ih => exact .cons (.int _) ih
def t_lrange (ta : TVD) : TD := fun cs Q => ta cs fun d cs1 => match d with
  | .int n => RgOk 0 n ∧ Q (.own (rangeD 0 n)) cs1
  | _ => False
def t_trange (ta : TVD) : TD := fun cs Q => ta cs fun d cs1 => match d with
  | .int n => RgOk 0 n ∧ Q (.dat (.tuple (rangeD 0 n))) cs1
  | _ => False
section
variable {X : Cx} {ZP : ZT} {a : Expr} {ta : TVD} {p p2 q pos : Pos}
theorem de_lrange (hc : X.calm = true) (hg : Gl X "list") (hm : X.mg "list" = none) (hg2 : Gl X "range") (hm2 : X.mg "range" = none) (ha : DV X ZP a ta) (na : starEach [a] X.env = (false, eval a X.env) :: starEach [] X.env := by rfl)
    (nb : starEach [.Call (.Name "range" p2) [a] [] q] X.env = (false, eval (.Call (.Name "range" p2) [a] [] q) X.env) :: starEach [] X.env := by rfl) :
    DE X ZP (.Call (.Name "list" p) [.Call (.Name "range" p2) [a] [] q] [] pos) (t_lrange ta) := by
  refine ⟨PE.imp (pe_listRg hc hg hm (prg_1 hg2 hm2 ha.pe na) nb) ?_⟩
  rintro σ H Q ⟨B, cs, g, R, Q', q, k⟩
  refine ⟨B, cs, g, R, _, q, fun d cs1 v g1 H1 q1 R1 r1 s1 f1 => ?_⟩
  cases d with
  | int n =>
    cases r1
    obtain ⟨ok, q2⟩ := q1
    refine ⟨n, rfl, ok, fun p n0 => ?_⟩
    have nfp := R1.nofz n0
    refine k (.own (rangeD 0 n)) cs1 (.ref p) g1 _ q2 (R1.laid n0) ⟨p, rgV 0 n, rfl, upd_same, nfp.1, nfp.2, rp_range 0 n⟩ (fun b e2 => ?_) s1 (f1.trans (.laid n0))
    cases e2
    refine ⟨fun z => ?_, ?_⟩
    · obtain ⟨u, e⟩ := R1.owsome z
      rw [n0] at e; cases e
    · cases e5 : H p with
      | none => rfl
      | some u =>
        obtain ⟨u', e6⟩ := f1.any p u e5
        rw [n0] at e6; cases e6
  | _ => exact q1.elim
end
end Cl

/-! sorted(set(xs)), xs a list or a tuple of tuples of ints -/
namespace Cl
open PySem PySem.Spec PyProof.Rows L2
section
variable {P : Program} {w : World} {A : Around} {E : Value → Shared → Prop} {s : Shared}
end
section
variable {X : Cx} {ZP : ZT} {a : Expr} {ta : TE} {tl : TLD} {tv : TVD} {p p2 q pos : Pos}
/-- rows of d numbers in [0, B), fewer than 64 -/
def RowsB (nss : List (List Int)) (d : Nat) (B : Int) : Prop := nss.length < 64 ∧ 1 ≤ d ∧ ∀ ns ∈ nss, ns.length = d ∧ TS.Bd B ns
def irow (ns : List Int) : PyData := .tuple (ns.map .int)
def SortedSet (nss L : List (List Int)) (B : Int) : Prop := (∀ x ∈ L, x ∈ nss) ∧ (∀ x ∈ nss, x ∈ L) ∧ L.Nodup ∧ L.Pairwise (fun a b => TS.code B a ≤ TS.code B b)
def t_sortsetL (t : TLD) : TD := fun cs Q => t cs fun l cs1 => ∃ (nss : List (List Int)) (d : Nat) (B : Int), l.get cs1 = some (.list (nss.map irow)) ∧ RowsB nss d B ∧ ∀ L, SortedSet nss L B → Q (.own (L.map irow)) cs1
def t_sortsetT (t : TVD) : TD := fun cs Q => t cs fun x cs1 => ∃ (nss : List (List Int)) (d : Nat) (B : Int), x = .tuple (nss.map irow) ∧ RowsB nss d B ∧ ∀ L, SortedSet nss L B → Q (.own (L.map irow)) cs1
theorem rows_at {K : KW} {H : Hp} {fz : Addr → Prop} : ∀ {nss : List (List Int)} {vs : List V}, RpAll K H fz (nss.map irow) vs → ∃ ks : List (Addr × List Int), vs = ks.map (fun p => V.ref p.1) ∧ (∀ p ∈ ks, SqT K H p.1 (p.2.map V.int) ∧ Rp K H fz (irow p.2) (.ref p.1)) ∧ ks.map (·.2) = nss
  | [], _, .nil => ⟨[], rfl, fun _ h => (by cases h), rfl⟩
  | ns :: nss, _, .cons r rs => by
    obtain ⟨ks, h1, h2, h3⟩ := rows_at rs
    have r0 := r
    cases r with
    | @tup a xs _ hq ra =>
      cases rps_ints ra
      refine ⟨(a, ns) :: ks, by rw [h1]; rfl, fun p hp => ?_, by rw [← h3]; rfl⟩
      rcases List.mem_cons.mp hp with rfl | hp
      · exact ⟨hq.sq, r0⟩
      · exact h2 p hp
end
/-! ### >=, <= of data that are alike -/
def geY : OpX := fun x y Q => match x, y with
  | .int i, .int j => Q (.dat (.bool (decide (j ≤ i))))
  | x, y => alk x y ∧ Q (.dat (.bool (!PySem.W.dataLt x y)))
def leY : OpX := fun x y Q => match x, y with
  | .int i, .int j => Q (.dat (.bool (decide (i ≤ j))))
  | x, y => alk x y ∧ Q (.dat (.bool (!PySem.W.dataLt y x)))
section
variable {X : Cx}
end
end Cl

/-! xs[::-1] of a list -/
namespace Cl
open PySem PySem.Spec PyProof.Rows L2
section
variable {X : Cx} {ZP : ZT} {e : Expr} {ta : TLD} {k : Nat} {p1 p2 p3 pos : Pos}
def t_revL (ta : TLD) : TD := fun cs Q => ta cs fun l cs1 => match l.get cs1 with
  | some (.list ds) => Q (.own ds.reverse) cs1
  | _ => False
end
end Cl

/-! a lambda handed to a def: its promise, the call with it, calls of it -/
namespace Cl
open PySem PySem.Spec PyProof.Rows L2 LamX NdefX

/-! ### the object -/
def LamO (f : Addr) (body : Expr) (F : NF) : HO := .ext fun h => ∃ pm ctv, h.get? f = some (PySem.W.kla_obj F.name F.qual F.params body F.scope F.cl pm F.c ctv)
inductive LamStep (H : Hp) (P f c' : Addr) (lo : HO) (q : Str) : Hp → Prop
  | hit {ps : Array Value} {pos : Pos} : H P = some (.tbl ps) → codeAmong pos ps.toList = some (.ref c') → H f = none → LamStep H P f c' lo q (upd H f lo)
  | new {ps ps' : Array Value} : H P = some (.tbl ps) → H c' = none → H f = none → f ≠ c' → TriplesOk ps'.toList → (∀ (pos : Pos) (cv : Value), codeAmong pos ps'.toList = some cv → codeAmong pos ps.toList = some cv ∨ cv = .ref c') →
      LamStep H P f c' lo q (upd (upd (upd H P (.tbl ps')) c' (CodeO c' q)) f lo)
section
variable {X : Cx} {pins : List (Addr × Obj)} {σ : L2.St} {H : Hp} {s : Shared}
end

/-! ### a def's promise that holds where some cells hold something -/
structure FnGC (pre : Shared → Hp → Prop) (P : Program) (w : World) (K : PySem.W.Frag) (mg : Str → Option Value) (base : Heap) (CX : CXT) (k : Nat) (f : Addr) (fd : FuncData) (ps : List Str) (sp : Sp) : Prop where
  len : ∀ vs H Q E, sp vs H Q E → vs.length = ps.length
  run : ∀ (A : Around) (outer : List Env) (s : Shared) (H : Hp) (args : Args) (us : List Value) (vs : List V) (Q : VK) (E : XK), A.guards = some [] → Room k A → pre s H →
    Env0 P w K mg base A outer s H → BindsTo s fd args (ps.zip us) → Vals vs us → sp vs H Q E → codeAny (model P w) A (.call (.ref f) args) (CR CX outer P w H s Q E) s
section
variable {P : Program} {w : World} {K : PySem.W.Frag} {mg : Str → Option Value} {base : Heap} {pre : Shared → Hp → Prop}
end
section
variable {X : Cx} {CX : CXT} {k : Nat} {f : Addr} {fd : FuncData} {ps : List Str} {sp : Sp} {E : XK} {pre : Shared → Hp → Prop}
end

/-! ### the lambda's promise -/
structure LamOk (T : List (Addr × Nat)) (P : Program) (w : World) (K : PySem.W.Frag) (mg : Str → Option Value) (base : Heap) (k : Nat) (L : LamV) (F : NF) (fr : List Str) (C : TF) : Prop where
  run : ∀ (A : Around) (outer : List Env) (s : Shared) (H : Hp) (u : Value) (v : V) (Q : VK) (E : XK), A.guards = some [] → Room k A → Env0 P w K mg base A outer s H → CellsAt F.cl fr (L.ws.map some) s.heap H → RelV v u →
    (∃ d g, Rp ⟨K, w⟩ H g.fz d v ∧ GOk (ZPu T) g H ∧ H L.f = some L.u ∧ g.zs L.c = some L.ct ∧ RpAll ⟨K, w⟩ H g.fz L.ds L.ws ∧ ∃ Q', C (.dat d :: L.ds.map .dat) Q' ∧
      ∀ sv v g' H', Q' sv → GOk (ZPu T) g' H' → RS ⟨K, w⟩ g' H' sv v → (∀ a, Foot sv v a → H a = none) → Frm (fun _ => False) g H g' H' → Q v H') →
    codeAny (model P w) A (.call (.ref L.f) ⟨[u], []⟩) (CR CX0 outer P w H s Q E) s
  at_ : ∃ body, L.u = LamO L.f body F
/-- asked_of(e) -/
def t_callFn (i : Nat) (L : LamV) (C : TF) (te : TVD) : TD := fun cs Q => cs[i]? = some (some (.fnv L)) ∧ te cs fun d cs1 => cs1[i]? = some (some (.fnv L)) ∧ C (.dat d :: L.ds.map .dat) fun sv => Q sv cs1
end Cl

namespace Cl
open PySem PySem.Spec PyProof.Rows L2 LamX NdefX
section
variable {K : KW} {T : List (Addr × Nat)} {bs : Bs → Prop} {B : Bs} {g : GW} {H H1 : Hp} {cs : CS} {σ : L2.St} {P f c' i0 : Nat} {body : Expr} {F : NF} {q : Str}
end
/-- x(e1, lambda a: body, e3), one name captured -/
def t_callLam (j : Nat) (Cr : LamV → TF) (t1 t3 : TVD) : TD := fun cs Q => t1 cs fun d1 cs1 => ∃ d, cs1[j]? = some (some (.dat d)) ∧ t3 cs1 fun d3 cs2 => ∀ L : LamV, L.ds = [d] → Cr L [.dat d1, .fnv L, .dat d3] fun sv => Q sv cs2
end Cl

/-! list(zip(a, b)), a and b lists, tuples or texts -/
namespace PySem
open Sem (wp)
open PySem.W (kdx_alive)
section
variable {prog : Program} {w : World} {A : Around} {E : Value → Shared → Prop} {s : Shared} {z TI TO i1 i2 S0 : Addr} {fp1 fp2 : List Addr} {n1 n2 i : Nat} {P1 P2 : Nat → Value → Prop} {St1 St2 : Nat → Heap → Prop}
/-- a zip that gave no tuple yet, or one that is kept -/
def ZHold (h : Heap) (z TI TO i1 i2 S0 : Addr) : Prop :=
  (IsZip h z TI TO .none ∧ ∃ a1 a2, IsTupOf2 h TO a1 a2) ∨ ∃ T f oT, IsZipHeld h z TI TO T f ∧ h.get? T = some oT ∧ T ≠ z ∧ T ≠ i1 ∧ T ≠ i2 ∧ T ≠ S0
theorem ZHold.up {h h' : Heap} (x : ZHold h z TI TO i1 i2 S0) (k : ∀ b o, b ≠ S0 → h.get? b = some o → h'.get? b = some o) (n1 : z ≠ S0) (n2 : TO ≠ S0) : ZHold h' z TI TO i1 i2 S0 := by
  rcases x with ⟨a, b, c, d⟩ | ⟨T, f, oT, a, b, c⟩
  · exact .inl ⟨k _ _ n1 a, b, c, k _ _ n2 d⟩
  · exact .inr ⟨T, f, oT, k _ _ n1 a, k _ _ c.2.2.2 b, c⟩
end
/-- the addresses as hold the pairs, in order; they lie above lo and rise -/
structure ZlG (P1 P2 : Nat → Value → Prop) (lo : Addr) (h : Heap) (as : List Addr) : Prop where
  rise : as.Pairwise (· < ·)
  above : ∀ a ∈ as, lo < a
  pairs : ∀ (j : Nat) (a : Addr), as[j]? = some a → ∃ x1 x2, P1 j x1 ∧ P2 j x2 ∧ IsTupOf2 h a x1 x2
theorem ZlG.there {P1 P2 : Nat → Value → Prop} {lo : Addr} {h : Heap} {as : List Addr} (g : ZlG P1 P2 lo h as) {a : Addr} (ha : a ∈ as) : a < h.objs.size := by
  obtain ⟨j, hj⟩ := List.mem_iff_getElem?.mp ha
  obtain ⟨_, _, _, _, e⟩ := g.pairs j a hj
  exact Heap.lt_size e
section
variable {prog : Program} {w : World} {A : Around} {s : Shared} {R : Result → Shared → Prop} {z TI TO i1 i2 S0 : Addr} {fp1 fp2 : List Addr} {n1 n2 : Nat} {P1 P2 : Nat → Value → Prop} {St1 St2 : Nat → Heap → Prop}
end
section
variable {prog : Program} {w : World} {A : Around} {E : Value → Shared → Prop} {s : Shared} {z TI TO i1 i2 : Addr} {fp1 fp2 : List Addr} {n1 n2 : Nat} {P1 P2 : Nat → Value → Prop} {St1 St2 : Nat → Heap → Prop}
end
end PySem

/-! list(zip(a, b)) in the layer -/
namespace Cl
open PySem PySem.Spec PyProof.Rows L2
def lookA {β : Type} (l : List (Addr × β)) (b : Addr) : Option β := l.lookup b
theorem lookA_mem {β : Type} : ∀ {l : List (Addr × β)} {b : Addr} {t : β}, lookA l b = some t → ∃ j : Nat, l[j]? = some (b, t)
  | [], _, _, h => by simp [lookA] at h
  | (a, u) :: l, b, t, h => by
    unfold lookA at h
    rw [List.lookup_cons] at h
    split at h
    · rename_i e
      have e : b = a := by simpa using e
      subst e; cases h
      exact ⟨0, rfl⟩
    · obtain ⟨j, hj⟩ := lookA_mem (l := l) h
      exact ⟨j + 1, by simpa using hj⟩
theorem lookA_get {β : Type} : ∀ {l : List (Addr × β)} {j : Nat} {b : Addr} {t : β}, (l.map (·.1)).Nodup → l[j]? = some (b, t) → lookA l b = some t
  | [], _, _, _, _, h => by simp at h
  | (a, u) :: l, 0, b, t, _, h => by
    simp at h; obtain ⟨rfl, rfl⟩ := h
    unfold lookA; rw [List.lookup_cons]; simp
  | (a, u) :: l, j + 1, b, t, nd, h => by
    simp only [List.map_cons, List.nodup_cons] at nd
    have h : l[j]? = some (b, t) := by simpa using h
    have hm : b ∈ l.map (·.1) := List.mem_map.mpr ⟨_, List.mem_of_getElem? h, rfl⟩
    have ne : ¬ b = a := fun e => nd.1 (e ▸ hm)
    unfold lookA; rw [List.lookup_cons]
    have : (b == a) = false := by simpa using ne
    rw [this]
    exact lookA_get nd.2 h
theorem lookA_none {β : Type} {l : List (Addr × β)} {b : Addr} (h : b ∉ l.map (·.1)) : lookA l b = none := by
  cases e : lookA l b with
  | none => rfl
  | some t =>
    obtain ⟨j, hj⟩ := lookA_mem e
    exact absurd (List.mem_map.mpr ⟨_, List.mem_of_getElem? hj, rfl⟩) h
/-- a list of new rows is laid at l -/
def layRows (H : Hp) (l : Addr) (as : List Addr) (rows : List (List V)) (f : Addr → List Value) : Hp := fun b => if b = l then some (.lst (as.map V.ref)) else match lookA (as.zip rows) b with
  | some t => some (tfz (f b) t)
  | none => H b
structure NewRows (H : Hp) (l : Addr) (as : List Addr) (rows : List (List V)) : Prop where
  nd : as.Nodup
  nl : l ∉ as
  len : as.length = rows.length
  hl : H l = none
  ha : ∀ a ∈ as, H a = none
section
variable {H : Hp} {l : Addr} {as : List Addr} {rows : List (List V)} {f : Addr → List Value}
theorem map_fst_zip' : ∀ (as : List Addr) (rows : List (List V)), as.length = rows.length → (as.zip rows).map (·.1) = as
  | [], [], _ => rfl
  | a :: as, r :: rows, h => by
    simp only [List.zip_cons_cons, List.map_cons]
    rw [map_fst_zip' as rows (by simpa using h)]
theorem NewRows.keep (N : NewRows H l as rows) {b : Addr} {o : HO} (e : H b = some o) : layRows H l as rows f b = some o := by
  unfold layRows
  rw [if_neg (ne_of_none e N.hl), lookA_none]
  · exact e
  · rw [map_fst_zip' _ _ N.len]
    intro z
    rw [N.ha b z] at e; cases e
theorem NewRows.row (N : NewRows H l as rows) {j : Nat} {a : Addr} {t : List V} (e1 : as[j]? = some a) (e2 : rows[j]? = some t) : TP (layRows H l as rows f) a t := by
  have ne : ¬ a = l := fun z => N.nl (z ▸ List.mem_of_getElem? e1)
  refine ⟨(f a).toArray, 0, ?_⟩
  unfold layRows
  rw [if_neg ne, lookA_get (j := j) (t := t) (by rw [map_fst_zip' _ _ N.len]; exact N.nd) (by rw [List.getElem?_zip_eq_some]; exact ⟨e1, e2⟩)]
theorem NewRows.cases (N : NewRows H l as rows) {b : Addr} {u : HO} (e : layRows H l as rows f b = some u) : (b = l ∧ u = .lst (as.map V.ref)) ∨ (∃ (j : Nat) (t : List V), as[j]? = some b ∧ rows[j]? = some t ∧ u = tfz (f b) t) ∨ H b = some u := by
  unfold layRows at e
  by_cases hb : b = l
  · rw [if_pos hb] at e; cases e; exact .inl ⟨hb, rfl⟩
  · rw [if_neg hb] at e
    cases e1 : lookA (as.zip rows) b with
    | some t =>
      rw [e1] at e; cases e
      obtain ⟨j, hj⟩ := lookA_mem e1
      rw [List.getElem?_zip_eq_some] at hj
      exact .inr (.inl ⟨j, t, hj.1, hj.2, rfl⟩)
    | none => rw [e1] at e; exact .inr (.inr e)
end
section
variable {X : Cx} {pins : List (Addr × Obj)} {σ : L2.St} {H : Hp} {s : Shared}
end
def t_lzip (t : TSA) : TD := fun cs Q => t cs fun svs cs1 => match svs with
  | [.dat d, .dat e] => (match seqT d, seqT e with
    | some ds, some es => (zipRs ds es).length ≤ sizeLine ∧ Q (.own (rowsD (zipRs ds es))) cs1
    | _, _ => False)
  | _ => False
section
variable {K : KW} {ZP : ZT} {B : Bs} {g : GW} {H : Hp} {cs : CS} {σ : L2.St} {l : Addr} {as : List Addr} {rows : List (List V)} {f : Addr → List Value}
theorem NewRows.frm (N : NewRows H l as rows) : Frm (fun _ => False) g H g (layRows H l as rows f) :=
  ⟨fun a o e _ _ => N.keep e, fun _ h => h, fun _ _ h => h, fun _ _ _ _ h => h, fun _ _ _ h => h, fun a xs h => h.go fun u e => N.keep e, fun a o e => ⟨o, N.keep e⟩⟩
theorem NewRows.rel (N : NewRows H l as rows) (R : Rel K ZP B g H cs σ) : Rel K ZP B g (layRows H l as rows f) cs σ :=
  R.go N.frm (fun a t z => by
    obtain ⟨o, e, q⟩ := R.zok a t z
    exact ⟨o, N.keep e, q⟩) fun a z => by
    obtain ⟨⟨o, e⟩, q⟩ := R.fzok a z
    exact ⟨⟨o, N.keep e⟩, q⟩
theorem NewRows.rp (N : NewRows H l as rows) {rs : List (List PyData)} (R : Rel K ZP B g H cs σ) (hl : rs.length = rows.length) (hr : ∀ (i : Nat) (r : List PyData) (vs : List V), rs[i]? = some r → rows[i]? = some vs → RpAll K H g.fz r vs) :
    RpAll K (layRows H l as rows f) g.fz (rowsD rs) (as.map V.ref) := by
  have key : ∀ (m : Nat) (rs' : List (List PyData)) (as' : List Addr), rs.drop m = rs' → as.drop m = as' → RpAll K (layRows H l as rows f) g.fz (rowsD rs') (as'.map V.ref) := by
    intro m rs' as'
    induction as' generalizing m rs' with
    | nil =>
      intro h1 h2
      have : as.length ≤ m := by simpa using h2
      have : rs.drop m = [] := List.drop_eq_nil_of_le (by have := N.len; omega)
      rw [← h1, this]
      exact .nil
    | cons a as' ih =>
      intro h1 h2
      have hm : m < as.length := by
        cases Nat.lt_or_ge m as.length with
        | inl h => exact h
        | inr h => rw [List.drop_eq_nil_of_le h] at h2; cases h2
      have hm2 : m < rs.length := by have := N.len; omega
      have hm3 : m < rows.length := by omega
      rw [List.drop_eq_getElem_cons hm] at h2
      rw [List.drop_eq_getElem_cons hm2] at h1
      cases h2
      subst h1
      refine .cons (.tup (N.row (List.getElem?_eq_getElem hm) (List.getElem?_eq_getElem hm3)) ?_) (ih (m + 1) _ rfl rfl)
      exact (hr m _ _ (List.getElem?_eq_getElem hm2) (List.getElem?_eq_getElem hm3)).frm N.frm fun a h => ⟨(R.fzow a h).1, fun z => z⟩
  exact key 0 rs as rfl rfl
end
end Cl

/-! the law's end, tables of code objects about -/
namespace Cl
open PySem PySem.Spec PyProof.Rows L2
section
variable {P : Program} {w : World} {mg : Str → Option Value} {base : Heap} {zp : ZF} {ca : Nat → Addr}
end
end Cl
namespace Cl
open PySem PySem.Spec PyProof.Rows L2
end Cl

/-! exceptions of the program's own classes that keep nothing -/
namespace Cl
open PySem PySem.Spec PyProof.Rows L2
section
variable {X : Cx}
def spI0 (C : Addr) : Sp := fun vs H Q _ => ∃ a, vs = [.ref a] ∧ H a = some (exo a C none) ∧ Q .non H
end
section
variable {X : Cx} {x : Str} {C C0 : Addr} {m : Str}
end
structure Exc0 (X : Cx) (x : Str) (C : Addr) (k : Nat) : Prop where
  T : OexC X.kw C
  fI : ∃ (fi : Addr) (fd : FuncData), PySem.W.findIn X.kw (.ref C) "__init__" = some (some (.ref fi)) ∧ PySem.W.typeIn X.kw (.ref fi) = some (.type "function") ∧ FnOk X.prog X.w X.kw X.mg X.base CX0 k fi fd ["self"] (spI0 C) ∧ Binds X.kw fd ["self"] []
  g : X.mg x = some (.ref C)
section
variable {X : Cx} {ca : Nat → Addr} {ZP : ZT} {x : Str} {n : Nat} {k : Nat} {p pos pos' : Pos} {E : EV → CS → Prop}
def t_raise0 (E : EV → CS → Prop) (n : Nat) : TSD := fun _ cs => E ⟨n, []⟩ cs
end
end Cl

/-! try: body, several except clauses, each with or without a name -/
namespace Cl
open PySem PySem.Spec PyProof.Rows L2
structure ClsW where
  c : Value
  i : Option Nat
  ts : Addr → Value → Option Addr → TS
def goneE (i : Nat) (D : Ends) : Ends := { nx := fun σ' H' => D.nx (σ'.set i none) H', rt := D.rt, bk := fun σ' H' => D.bk (σ'.set i none) H', ct := fun σ' H' => D.ct (σ'.set i none) H' }
def ClsW.go (k : ClsW) (a : Addr) (cls : Value) (d : Option Addr) (D : Ends) (σ : L2.St) (H : Hp) : Prop := match k.i with
  | none => k.ts a cls d D σ H
  | some i => k.ts a cls d (goneE i D) (σ.set i (some (.ref a))) H
inductive HdsA (X : Cx) : List ExceptHandler → List ClsW → Prop
  | nil : HdsA X [] []
  | cons {x : Str} {c : Value} {ts : Addr → Value → Option Addr → TS} {b₀ : Stmt} {suite : List Stmt} {np pos' : Pos} {hds : List ExceptHandler} {l : List ClsW} (hc : Names X x c)
      (hsu : ∀ (a : Addr) (oe : Obj) (cls : Value) (d : Option Addr) (pn : List (Addr × Obj)), Zc cls d oe → (∃ vs, oe.data = .fields vs) → PSs (X.suite a ((a, oe) :: pn)) (b₀ :: suite) (ts a cls d)) (r : HdsA X hds l) :
      HdsA X (.ExceptHandler (some (.Name x np)) none (b₀ :: suite) pos' :: hds) (⟨c, none, ts⟩ :: l)
  | consAs {x n : Str} {i : Nat} {c : Value} {ts : Addr → Value → Option Addr → TS} {b₀ : Stmt} {suite : List Stmt} {np pos' : Pos} {hds : List ExceptHandler} {l : List ClsW} (hN : X.N.Nodup) (hi : X.N[i]? = some n) (hln : X.env.kindOf n = some .local) (hc : Names X x c)
      (hsu : ∀ (a : Addr) (oe : Obj) (cls : Value) (d : Option Addr) (pn : List (Addr × Obj)), Zc cls d oe → (∃ vs, oe.data = .fields vs) → PSs (X.suite a ((a, oe) :: pn)) (b₀ :: suite) (ts a cls d)) (r : HdsA X hds l) :
      HdsA X (.ExceptHandler (some (.Name x np)) (some n) (b₀ :: suite) pos' :: hds) (⟨c, some i, ts⟩ :: l)
section
variable {X : Cx} {body : List Stmt} {h₀ : ExceptHandler} {hds : List ExceptHandler} {l : List ClsW} {pos : Pos} {tb : WX → TS} {Wout : WX}
end
/-! ### by data -/
structure ClsD where
  sub : Nat → Option Bool
  i : Option Nat
  th : Addr → Nat → Option Addr → TSD
def goneD (i : Nat) (D : DEnds) : DEnds := { nx := fun c => D.nx (c.set i none), rt := D.rt, bk := fun c => D.bk (c.set i none), ct := fun c => D.ct (c.set i none) }
def ClsD.go (k : ClsD) (D : DEnds) (ev : EV) (cs : CS) : Prop := match k.i with
  | none => ∀ a d, k.th a ev.cls d D cs
  | some i => i < cs.length ∧ ∀ a d, k.th a ev.cls d (goneD i D) (cs.set i (some (.exc a ev.cls d ev.fs)))
def wManyD (E : EV → CS → Prop) (D : DEnds) : List ClsD → EV → CS → Prop
  | [] => E
  | k :: r => fun ev cs => ∃ b, k.sub ev.cls = some b ∧ (b = true → k.go D ev cs) ∧ (b = false → wManyD E D r ev cs)
def t_tryM (ls : List ClsD) (tb : (EV → CS → Prop) → TSD) (E : EV → CS → Prop) : TSD := fun D cs => ∀ E2 : EV → CS → Prop, (∀ ev cs', wManyD E D ls ev cs' → E2 ev cs') → tb E2 D cs
inductive HdsD (X : Cx) (ca : Nat → Addr) (ZP : ZT) : List ExceptHandler → List ClsD → Prop
  | nil : HdsD X ca ZP [] []
  | cons {x : Str} {c : Value} {sub : Nat → Option Bool} {th : Addr → Nat → Option Addr → TSD} {b₀ : Stmt} {suite : List Stmt} {np pos' : Pos} {hds : List ExceptHandler} {l : List ClsD} (hc : Names X x c)
      (hsub : ∀ n b, sub n = some b → PySem.W.exmOne X.kw (.ref (ca n)) c = some b)
      (hsu : ∀ (a : Addr) (oe : Obj) (n : Nat) (d : Option Addr) (pn : List (Addr × Obj)), Zc (.ref (ca n)) d oe → (∃ vs, oe.data = .fields vs) → DSs0 (X.suite a ((a, oe) :: pn)) ZP (b₀ :: suite) (th a n d)) (r : HdsD X ca ZP hds l) :
      HdsD X ca ZP (.ExceptHandler (some (.Name x np)) none (b₀ :: suite) pos' :: hds) (⟨sub, none, th⟩ :: l)
  | consAs {x nm : Str} {i : Nat} {c : Value} {sub : Nat → Option Bool} {th : Addr → Nat → Option Addr → TSD} {b₀ : Stmt} {suite : List Stmt} {np pos' : Pos} {hds : List ExceptHandler} {l : List ClsD} (hN : X.N.Nodup) (hi : X.N[i]? = some nm) (hln : X.env.kindOf nm = some .local) (hc : Names X x c)
      (hsub : ∀ n b, sub n = some b → PySem.W.exmOne X.kw (.ref (ca n)) c = some b)
      (hsu : ∀ (a : Addr) (oe : Obj) (n : Nat) (d : Option Addr) (pn : List (Addr × Obj)), Zc (.ref (ca n)) d oe → (∃ vs, oe.data = .fields vs) → DSs0 (X.suite a ((a, oe) :: pn)) ZP (b₀ :: suite) (th a n d)) (r : HdsD X ca ZP hds l) :
      HdsD X ca ZP (.ExceptHandler (some (.Name x np)) (some nm) (b₀ :: suite) pos' :: hds) (⟨sub, some i, th⟩ :: l)
section
variable {X : Cx} {ca : Nat → Addr} {ZP : ZT} {body : List Stmt} {h₀ : ExceptHandler} {hds : List ExceptHandler} {ls : List ClsD} {pos : Pos} {tb : (EV → CS → Prop) → TSD} {E : EV → CS → Prop}
def tsOf (K : KW) (ca : Nat → Addr) (ZP : ZT) (th : Addr → Nat → Option Addr → TSD) : Addr → Value → Option Addr → TS := fun a cls d D σ H => ∃ n, cls = .ref (ca n) ∧ tS0 K ZP (th a n d) D σ H
inductive Mtc (X : Cx) (ca : Nat → Addr) (ZP : ZT) : List ClsW → List ClsD → Prop
  | nil : Mtc X ca ZP [] []
  | cons {c : Value} {i : Option Nat} {sub : Nat → Option Bool} {th : Addr → Nat → Option Addr → TSD} {l : List ClsW} {ls : List ClsD} (hsub : ∀ n b, sub n = some b → PySem.W.exmOne X.kw (.ref (ca n)) c = some b) (r : Mtc X ca ZP l ls) : Mtc X ca ZP (⟨c, i, tsOf X.kw ca ZP th⟩ :: l) (⟨sub, i, th⟩ :: ls)
end
end Cl

/-! xs.insert(i, v) on an own list -/
namespace Cl
open PySem PySem.Spec PyProof.Rows L2
section
variable {X : Cx}
end
def t_insert (i : Nat) (t : TSA) : TVD := fun cs Q => (∃ xs, cs[i]? = some (some (.own xs))) ∧ t cs fun svs cs1 => match svs with
  | [.dat (.int j), .dat d] => ∃ xs, cs1[i]? = some (some (.own xs)) ∧ 0 ≤ j ∧ j ≤ xs.length ∧ xs.length < sizeLine ∧ Q .none (cs1.set i (some (.own (xs.take j.toNat ++ d :: xs.drop j.toNat))))
  | _ => False
section
variable {X : Cx} {ZP : ZT} {e e2 : Expr} {x : Str} {xpos apos cpos pos : Pos} {ta : TSA}
end
end Cl

/-! an if-expression as a test -/
namespace Cl
open PySem PySem.Spec PyProof.Rows L2
def t_ifT (c ta tb : TTD) : TTD := fun cs Q => c cs fun b cs1 => if b = true then ta cs1 Q else tb cs1 Q
section
variable {X : Cx} {ZP : ZT} {a b c : Expr} {pos : Pos} {tc ta tb : TTD}
end
end Cl

/-! xs.index(x) of a list by its slot -/
namespace Cl
open PySem PySem.Spec PyProof.Rows L2
section
variable {X : Cx}
end
def t_index (i : Nat) (te : TVD) : TVD := fun cs Q => (∃ sv ds, cs[i]? = some (some sv) ∧ sv.view = some (.list ds)) ∧ te cs fun d cs1 => ∃ sv ds j z, cs1[i]? = some (some sv) ∧ sv.view = some (.list ds) ∧ inOk d ds ∧ ds[j]? = some z ∧ PyData.eqv z d = true ∧
  (∀ (m : Nat) (z' : PyData), m < j → ds[m]? = some z' → PyData.eqv z' d = false) ∧ Q (.int ((j : Nat) : Int)) cs1
section
variable {X : Cx} {ZP : ZT} {e : Expr} {x : Str} {xpos apos cpos pos : Pos} {te : TVD}
end
end Cl

/-! max(xs, default=-1) of ints; min, max of a list of alike data -/
namespace Cl
open PySem PySem.Spec PyProof.Rows L2
theorem intsD_map : ∀ {xs : List PyData} {ns : List Int}, intsD xs = some ns → xs = ns.map .int
  | [], ns, h => by
    have h : some [] = some ns := h
    cases h; rfl
  | .int i :: xs, ns, h => by
    have h : (intsD xs).map (i :: ·) = some ns := h
    cases e : intsD xs with
    | none => rw [e] at h; cases h
    | some ms =>
      rw [e] at h
      cases h
      rw [intsD_map e]; rfl
def t_maxd1 (ta : TLD) : TVD := fun cs Q => ta cs fun l cs1 => match l.get cs1 with
  | some (.list xs) => (match intsD xs with
    | some ns => ∀ m, (ns = [] → m = -1) → (ns ≠ [] → m ∈ ns ∧ ∀ y ∈ ns, y ≤ m) → Q (.int m) cs1
    | none => False)
  | _ => False
section
variable {X : Cx} {ZP : ZT} {k : Nat} {p pos p1 p2 kpos : Pos} {e : Expr} {ta : TLD}
end
end Cl

/-! min of a list of alike data: the item -/
namespace Cl
open PySem PySem.Spec PyProof.Rows L2
section
variable {P : Program} {w : World} {A : Around} {E : Value → Shared → Prop} {s : Shared}
end
section
variable {X : Cx}
end
end Cl

/-! a tuple many times: up to a million items (the kit's own proof, with a wider bound) -/
namespace Cl
open PySem PySem.Spec PyProof.Rows L2
section
variable {X : Cx}
end
end Cl

/-! a, b, c, d = .. by the tuple -/
namespace Cl
open PySem PySem.Spec PyProof.Rows L2
def t_par4 (i j l m : Nat) (ta tb tc td : TD) : TSD := fun D cs => ta cs fun sv cs1 => tb cs1 fun sw cs2 => tc cs2 fun sx cs3 => td cs3 fun sy cs4 => i < cs4.length ∧ j < cs4.length ∧ l < cs4.length ∧ m < cs4.length ∧ D.nx ((((cs4.set i (some sv)).set j (some sw)).set l (some sx)).set m (some sy))
section
variable {X : Cx} {ZP : ZT}
end
end Cl

/-! a module's tuple of texts: x in it, x not in it -/
namespace Cl
open PySem PySem.Spec PyProof.Rows L2
abbrev TxtV (ys : List Str) (us : List Value) : Prop := Paired (fun (y : Str) (u : Value) => ∃ t, u = Value.str y t) ys us
/-- a tuple of texts that the linked program holds -/
def KTup (K : PySem.W.Frag) (p : Addr) (ys : List Str) : Prop := ∃ (o : Obj) (its : Array Value) (n : Nat), K.lookup p = some o ∧ o.cls = .type "tuple" ∧ o.data = .seq its n ∧ TxtV ys its.toList
theorem reads_txt {h : Heap} : ∀ {ys : List Str} {us : List Value}, TxtV ys us → ReadsAll h us (ys.map .str) []
  | [], _, .nil => .nil
  | y :: ys, _, .cons ⟨t, e⟩ rs => by
    subst e
    exact ReadsAll.cons (as := []) (bs := []) (.str y t) (reads_txt rs)
section
variable {X : Cx} {ZP : ZT} {a : Expr} {ta : TLD} {p : Addr} {ys : List Str} {x : Str} {xpos pos : Pos}
theorem KTup.reads {pins : List (Addr × Obj)} {σ : St} {H : Hp} {s : Shared} (k : KTup X.K p ys) (I : L2.Inv X pins σ H s) : Reads s.heap (.ref p) (.tuple (ys.map .str)) [] := by
  obtain ⟨o, its, n, hk, hc, hd, r⟩ := k
  exact .tuple (I.kIn p o hk) hc hd (reads_txt r)
end
end Cl

/-! list(range(a, b)), tuple(range(a, b)) -/
namespace Cl
open PySem PySem.Spec PyProof.Rows L2
def t_lrange2 (ta tb : TVD) : TD := fun cs Q => ta cs fun d cs1 => tb cs1 fun e cs2 => match d, e with
  | .int m, .int n => RgOk m n ∧ Q (.own (rangeD m n)) cs2
  | _, _ => False
section
variable {X : Cx} {ZP : ZT} {a b : Expr} {ta tb : TVD} {p p2 q pos : Pos}
end
end Cl

/-! ClCR: a frame's own things are frozen ahead of an expression (a lambda captures an own dict) -/
namespace Cl
open PySem PySem.Spec PyProof.Rows L2
def t_frz (td : TD) : TD := fun cs Q => td (frzAll cs) Q
section
variable {X : Cx} {ZP : ZT} {e : Expr} {td : TD}
end
end Cl

/-! ClCS: range(i, j, -1) is walked -/
namespace Cl
open PySem PySem.Spec PyProof.Rows L2
/-- i, i - 1, .. to the one above j -/
def rangeDn (i j : Int) : List PyData := (List.range (i - j).toNat).map fun n => .int (i - (n : Nat))
def t_wrng3 (t : TSA) : TID := fun cs Q => t cs fun svs cs1 => match svs with
  | [.dat (.int i), .dat (.int j), .dat (.int c)] => (c = -1 ∧ -(2 ^ 62) ≤ i ∧ i < 2 ^ 62 ∧ -(2 ^ 62) ≤ j ∧ j < 2 ^ 62) ∧ Q (rangeDn i j) cs1
  | _ => False
section
variable {X : Cx} {ZP : ZT} {tg e e2 e3 : Expr} {p pos : Pos}
end
end Cl

/-! ClCT: dict(zip(a, b)), a and b lists, tuples or texts -/
namespace Cl
open PySem PySem.Spec PyProof.Rows L2
section
variable {X : Cx} {ZP : ZT} {B : Bs} {g : GW} {cs : CS} {σ : L2.St} {pins : List (Addr × Obj)}
end
def t_dzip (t : TSA) : TD := fun cs Q => t cs fun svs cs1 => match svs with
  | [.dat d, .dat e] => (match seqT d, seqT e with
    | some ds, some es => (ds.zip es).length ≤ sizeLine ∧ (∀ kv ∈ ds.zip es, hashK kv.1 = true) ∧ Q (.gd (putAll [] (ds.zip es))) cs1
    | _, _ => False)
  | _ => False
end Cl

/-! ClCU: xs.count(x) of a list by its slot -/
namespace Cl
open PySem PySem.Spec PyProof.Rows L2
section
variable {X : Cx}
def cntD (d : PyData) (ds : List PyData) : Nat := ds.countP fun y => PyData.eqv y d
end
def t_count (i : Nat) (te : TVD) : TVD := fun cs Q => (∃ sv ds, cs[i]? = some (some sv) ∧ sv.view = some (.list ds)) ∧ te cs fun d cs1 => ∃ sv ds, cs1[i]? = some (some sv) ∧ sv.view = some (.list ds) ∧ inOk d ds ∧ Q (.int ((cntD d ds : Nat) : Int)) cs1
section
variable {X : Cx} {ZP : ZT} {e : Expr} {x : Str} {xpos apos cpos pos : Pos} {te : TVD}
end
end Cl

/-! ClCV: max of a tuple of whole numbers -/
namespace Cl
open PySem PySem.Spec PyProof.Rows L2
section
variable {X : Cx}
end
end Cl

/-! ClCW: a tuple no times -/
namespace Cl
open PySem PySem.Spec PyProof.Rows L2
section
variable {X : Cx}
end
end Cl

/-! a statement that walks an own list: the list is pinned while the statement runs, and is one's own behind it -/
namespace Cl
open PySem PySem.Spec PyProof.Rows L2
section
variable {K : KW} {H : Hp} {fz fz' : Addr → Prop}
mutual
theorem Rp.lean : ∀ {d : PyData} {v : V}, nkey d ≠ none → Rp K H fz d v → Rp K H fz' d v
  | _, _, _, .non => .non
  | _, _, _, .bl b => .bl b
  | _, _, _, .int i => .int i
  | _, _, _, .str x => .str x
  | _, _, h, .lst _ _ _ => absurd (by simp only [nkey]) h
  | _, _, h, .tup q r => .tup q (RpAll.lean (fun e => h (by simp only [nkey, e, Option.map_none])) r)
  | _, _, h, .dct _ _ _ _ _ _ _ => absurd (by simp only [nkey]) h
theorem RpAll.lean : ∀ {ds : List PyData} {vs : List V}, nkeys ds ≠ none → RpAll K H fz ds vs → RpAll K H fz' ds vs
  | _, _, _, .nil => .nil
  | d :: ds, _, h, .cons r s => .cons (Rp.lean (fun e => h (by simp only [nkeys, e])) r) (RpAll.lean (fun e => h (by
      simp only [nkeys, e]
      cases nkey d <;> rfl)) s)
end
end
def leanSV : SV → Prop
  | .dat d => nkey d ≠ none
  | .obj (.lst ys) => nkeys ys ≠ none
  | .raw _ => True
  | _ => False
def pinned (i : Nat) (L : LamV) (cs : CS) : Prop := cs[i]? = some (some (.fnv L)) ∧ ∀ k sv, k ≠ i → cs[k]? = some (some sv) → leanSV sv
section
variable {K : KW} {ZP : ZT} {B : Bs} {g g' : GW} {H H' : Hp} {cs cs' : CS} {σ σ' : L2.St} {i : Nat} {xs : List PyData}
end
section
variable {X : Cx} {ZP : ZT} {st : Stmt} {td : TSD} {tg e : Expr}
end
end Cl

/-! ClCY: min of a tuple of whole numbers -/
namespace Cl
open PySem PySem.Spec PyProof.Rows L2
section
variable {X : Cx}
end
end Cl

/-! d[k], .. = v, ..: an own dict's entry as one of several targets -/
namespace Cl
open PySem PySem.Spec PyProof.Rows L2
section
variable {X : Cx} {ZP : ZT} {x : Str} {xpos pos : Pos} {e : Expr} {tk : TVD}
def g_gput (i : Nat) (tk : TVD) : TGD := fun sv cs Q => (∃ kvs, cs[i]? = some (some (.gd kvs))) ∧ ∃ d, sv = .dat d ∧ tk cs fun k cs2 => ∃ kvs, cs2[i]? = some (some (.gd kvs)) ∧ hashK k = true ∧ kvs.length < sizeLine ∧ Q (cs2.set i (some (.gd (putG kvs k d))))
end
end Cl

/-! a, b, c, d, e = .. by the tuple -/
namespace Cl
open PySem PySem.Spec PyProof.Rows L2
def t_par5 (i1 i2 i3 i4 i5 : Nat) (t1 t2 t3 t4 t5 : TD) : TSD := fun D cs => t1 cs fun a1 c1 => t2 c1 fun a2 c2 => t3 c2 fun a3 c3 => t4 c3 fun a4 c4 => t5 c4 fun a5 c5 => i1 < c5.length ∧ i2 < c5.length ∧ i3 < c5.length ∧ i4 < c5.length ∧ i5 < c5.length ∧ D.nx (((((c5.set i1 (some a1)).set i2 (some a2)).set i3 (some a3)).set i4 (some a4)).set i5 (some a5))
section
variable {X : Cx} {ZP : ZT}
end
end Cl

/-! sorted(set(list of texts)): the texts, each once, in some order -/
namespace Cl
open PySem PySem.Spec PyProof.Rows L2
section
variable {P : Program} {w : World} {A : Around} {E : Value → Shared → Prop} {s : Shared}
end
section
variable {P : Program} {w : World} {A : Around} {R : Result → Shared → Prop} {J S : Addr} {fp wr : List Addr} {G : Array GenState → Array GenState → Prop} {n : Nat} {Pv : Nat → Value → Prop} {St : Nat → Shared → Prop}
end
section
variable {P : Program} {w : World} {A : Around} {E : Value → Shared → Prop} {s : Shared}
end
def t_sortsetS (t : TLD) : TD := fun cs Q => t cs fun l cs1 => ∃ ds xs, l.get cs1 = some (.list ds) ∧ textsD ds = some xs ∧ xs.length ≤ 4000 ∧ ∀ L : List Str, (∀ z, z ∈ L ↔ z ∈ xs) → L.length ≤ xs.length → Q (.own (L.map .str)) cs1
section
variable {X : Cx} {ZP : ZT} {a : Expr} {ta : TE} {tl : TLD} {p p2 q pos : Pos}
end
end Cl

/-! t.index(x) of a list that an expression tells -/
namespace Cl
open PySem PySem.Spec PyProof.Rows L2
def t_indexL (tl : TLD) (te : TVD) : TVD := fun cs Q => tl cs fun l cs1 => (∃ ds, l.get cs1 = some (.list ds)) ∧ te cs1 fun d cs2 => ∃ ds j z, l.get cs2 = some (.list ds) ∧ inOk d ds ∧ ds[j]? = some z ∧ PyData.eqv z d = true ∧
  (∀ (m : Nat) (z' : PyData), m < j → ds[m]? = some z' → PyData.eqv z' d = false) ∧ Q (.int ((j : Nat) : Int)) cs2
section
variable {X : Cx} {ZP : ZT} {e r : Expr} {apos cpos : Pos} {te : TVD} {tl : TLD}
end
end Cl

/-! a dict display as a box whose first thing is a list by its name -/
namespace Cl
open PySem PySem.Spec PyProof.Rows L2
def t_retdboxM (i : Nat) (t : Nat) (fs : List RF) (ts : TSA) : TSD := fun D cs => ∃ xs, cs[i]? = some (some (.own xs)) ∧ ts (cs.set i none) fun svs _ => BoxOk fs (.own xs :: svs) ∧ D.rt (.raw t)
section
variable {X : Cx} {keys : List (Option Expr)} {es : List Expr} {k0 : Str} {ks : List Str} {ts : TSA} {p np kpos pos : Pos} {t j : Nat} {x0 : Str}
end
end Cl

/-! shared objects: instances, their attributes -/
namespace Cl
open PySem PySem.Spec PyProof.Rows L2

/-- dict and list entries that are data -/
def mk (kvs : GKV) : List (PyData × MV) := kvs.map fun x => (x.1, .dat x.2)
abbrev Cell.gdC (kvs : GKV) : Cell := .dic (mk kvs)
section
variable {K : KW} {H : Hp} {fz : Addr → Prop}
end

/-! ### what a store is made of -/
section
variable {W : Store} {a b p dx : Addr} {c : Cell}
theorem Store.put_same : (W.put a c) a = some c := by unfold Store.put; rw [if_pos rfl]
theorem Store.put_ne (h : b ≠ a) : (W.put a c) b = W b := by unfold Store.put; rw [if_neg h]
end
section
variable {K : KW} {ZP : ZT} {B : Bs} {g : GW} {H : Hp} {cs : CS} {σ : L2.St}
/-- one object of a store is changed in place -/
theorem StoOk.put {W : Store} {a : Addr} {c c' : Cell} {u : HO} (q : StoOk K g H W) (e : W a = some c) (hc : CellOk K g (upd H a u) (W.put a c') a c')
    (hu : ∀ x, H a ≠ some (.own x)) (fr : ∀ b, g.fz b → b ≠ a) (nt : ∀ xs, ¬ TP H a xs) (hd : ∀ nm d fs, c' = .ins nm d fs → ∃ fs', c = .ins nm d fs') :
    StoOk K g (upd H a u) (W.put a c') := by
  intro b d eb
  obtain ⟨n1, n2, _⟩ := q a c e
  by_cases hb : b = a
  · subst hb
    rw [Store.put_same] at eb; cases eb
    exact ⟨n1, n2, hc⟩
  · rw [Store.put_ne hb] at eb
    obtain ⟨m1, m2, z⟩ := q b d eb
    have tup : ∀ x xs, TP H x xs → TP (upd H a u) x xs := fun x xs h => h.ne fun z => by subst z; exact nt _ h
    have kp : ∀ x o, g.fz x → H x = some o → upd H a u x = some o := fun x o h e => by rw [upd_ne (fr x h)]; exact e
    refine ⟨m1, m2, ?_⟩
    cases d with
    | lst xs =>
      obtain ⟨vs, h, r⟩ := z
      exact ⟨vs, by rw [upd_ne hb]; exact h, MRs.go (fun _ h => h) kp tup r⟩
    | dic kvs =>
      obtain ⟨ep, es, ks, vs, h, k1, k2, r1, r2, hh⟩ := z
      exact ⟨ep, es, ks, vs, by rw [upd_ne hb]; exact h, k1, k2, RpAll.go (fun _ h => h) kp tup r1, MRs.go (fun _ h => h) kp tup r2, hh⟩
    | ins nm dx fs =>
      obtain ⟨vs, ⟨C, hC, h⟩, r, hdx, d1, d2, d3⟩ := z
      have hne : dx ≠ a := fun z => by subst z; exact hu _ hdx
      exact ⟨vs, ⟨C, hC, by rw [upd_ne hb]; exact h⟩, MRs.go (fun _ h => h) kp tup r, by rw [upd_ne hne]; exact hdx, d1, d2, by rw [Store.put_ne hne]; exact d3⟩
end

/-! ### o.f -/
def lvM (i : Nat) : MV → LV
  | .dat d => .now d
  | .ptr q => .cel i q
def mvSV : MV → SV
  | .dat d => .dat d
  | .ptr a => .ptr a
section
variable {X : Cx} {ZP : ZT} {e : Expr} {te : TD} {i : Nat} {nm f : Str} {C : Addr} {pos : Pos}
/-- a class of the module -/
structure CL (K : PySem.W.Frag) (nm : Str) (C : Addr) : Prop where
  nm : PySem.W.nsIn K mainGlobals nm = some (some (.ref C))
  cl : Cls K C
end
end Cl

/-! shared objects: attributes and entries are set -/
namespace Cl
open PySem PySem.Spec PyProof.Rows L2

/-! ### x.f = e, x the carrier -/
theorem CellOk.mono {K : KW} {g : GW} {H : Hp} {W U : Store} {a : Addr} {c : Cell} (q : CellOk K g H W a c) (h : ∀ nm dx fs, c = .ins nm dx fs → W dx = none → U dx = none) : CellOk K g H U a c := by
  cases c with
  | lst xs => exact q
  | dic kvs => exact q
  | ins nm dx fs =>
    obtain ⟨vs, h1, h2, h3, h4, h5, h6⟩ := q
    exact ⟨vs, h1, h2, h3, h4, h5, h _ _ _ rfl h6⟩
def Store.one (a : Addr) (c : Cell) : Store := fun b => if b = a then some c else none
theorem StoOk.one {K : KW} {g : GW} {H : Hp} {a : Addr} {c : Cell} (n1 : ¬ g.fz a) (n2 : g.zs a = none) (h : CellOk K g H (Store.one a c) a c) : StoOk K g H (Store.one a c) := by
  intro b d e
  unfold Store.one at e
  by_cases hb : b = a
  · rw [if_pos hb] at e; cases e
    subst hb
    exact ⟨n1, n2, h⟩
  · rw [if_neg hb] at e; cases e
section
variable {K : KW} {ZP : ZT} {B : Bs} {g : GW} {H : Hp} {cs : CS} {σ : L2.St}
/-- the store of a slot grows by new things -/
theorem Rel.grow {i : Nat} {p : Addr} {W W' : Store} (R : Rel K ZP B g H cs σ) (e1 : cs[i]? = some (some (.stp p W))) (q : StoOk K g H W') (n : ∀ a, W'.ft a → W.ft a ∨ (¬ ow cs σ a ∧ B.1 a = none)) :
    Rel K ZP B g H (cs.set i (some (.stp p W'))) σ := by
  obtain ⟨v, e2, rfl, q0⟩ := R.slot i _ e1
  have hi : i < cs.length := (List.getElem?_eq_some_iff.mp e1).1
  have hset : ∀ (j : Nat) (sw : SV), (cs.set i (some (.stp p W')))[j]? = some (some sw) → (j = i ∧ sw = .stp p W') ∨ (j ≠ i ∧ cs[j]? = some (some sw)) := fun j sw e => by
    by_cases hj : j = i
    · subst hj
      rw [List.getElem?_set_self hi] at e
      cases e; exact .inl ⟨rfl, rfl⟩
    · rw [List.getElem?_set_ne (Ne.symm hj)] at e
      exact .inr ⟨hj, e⟩
  refine ⟨by rw [List.length_set]; exact R.len, fun j sw e => ?_, fun j k sw sx u w c h1 h2 h3 h4 f1 f2 => ?_, R.zok, R.fzok, R.base, fun c z => ?_, R.bs⟩
  · rcases hset j sw e with ⟨rfl, rfl⟩ | ⟨_, e⟩
    · exact ⟨_, e2, rfl, q⟩
    · exact R.slot j sw e
  · have own : ∀ {j : Nat} {sw : SV} {u : V}, j ≠ i → cs[j]? = some (some sw) → σ[j]? = some (some u) → Foot sw u c → ¬ W'.ft c := fun hj ej ej2 ft z => by
      rcases n c z with z | ⟨z, _⟩
      · exact hj (R.sep _ i _ _ _ _ c ej e1 ej2 e2 ft z)
      · exact z ⟨_, _, _, ej, ej2, ft⟩
    rcases hset j _ h1 with ⟨rfl, rfl⟩ | ⟨hj, z1⟩
    · rcases hset k _ h2 with ⟨rfl, _⟩ | ⟨hk, z2⟩
      · rfl
      · exact absurd f1 (own hk z2 h4 f2)
    · rcases hset k _ h2 with ⟨rfl, rfl⟩ | ⟨hk, z2⟩
      · exact absurd f2 (own hj z1 h3 f1)
      · exact R.sep j k _ _ _ _ c z1 z2 h3 h4 f1 f2
  · obtain ⟨j, sw, u, h1, h2, ft⟩ := z
    rcases hset j _ h1 with ⟨rfl, rfl⟩ | ⟨_, z1⟩
    · rcases n c ft with z | ⟨_, z⟩
      · exact R.fresh c ⟨j, _, _, e1, e2, z⟩
      · exact .inl z
    · exact R.fresh c ⟨j, _, _, z1, h2, ft⟩
end
section
variable {X : Cx} {ZP : ZT} {x : Str} {xpos pos pos' : Pos} {e : Expr} {tx : TD} {nm f : Str} {C : Addr}
end

/-! ### o[k] = v, o a shared dict of data -/
def t_cput (i : Nat) (to : TLD) (tk tx : TVD) : TSD := fun D cs => tx cs fun d cs1 => to cs1 fun l cs2 => ∃ b, l = .cel i b ∧ tk cs2 fun k cs3 => ∃ p W kvs, cs3[i]? = some (some (.stp p W)) ∧ W b = some (.gdC kvs) ∧ hashK k = true ∧ kvs.length < sizeLine ∧
  D.nx (cs3.set i (some (.stp p (W.put b (.gdC (putG kvs k d))))))
section
variable {X : Cx} {ZP : ZT} {pos pos' : Pos} {o e f : Expr} {to : TLD} {tk tx : TVD}
end
end Cl

/-! shared objects: methods, their calls, new instances -/
namespace Cl
open PySem PySem.Spec PyProof.Rows L2

/-- what a def does that is handed a shared object and its store first -/
abbrev TM := Store → Addr → List SV → (MV → Store → Prop) → Prop
section
variable {P : Program} {w : World} {K : KW} {mg : Str → Option Value} {base : Heap} {ZP : ZT}
end

/-! ### return in such a def -/
def t_retM (te : TVD) : TSD := fun D cs => te cs fun d cs1 => ∃ p W, cs1[0]? = some (some (.stp p W)) ∧ D.rt (.rtd (.dat d) W)
def t_retMp (te : TD) : TSD := fun D cs => te cs fun sv cs1 => ∃ p W q, cs1[0]? = some (some (.stp p W)) ∧ sv = .ptr q ∧ D.rt (.rtd (.ptr q) W)
section
variable {X : Cx} {ZP : ZT} {e : Expr} {te : TVD} {td : TD} {pos : Pos}
end

/-! ### calls of methods -/
section
variable {X : Cx} {CX : CXT} {k : Nat} {f C : Addr} {fd : FuncData} {ps : List Str} {sp : Sp} {E : XK} {x m : Str} {p pos apos : Pos} {e o : Expr} {es : List Expr} {ta : TE} {t : TA}
end
section
variable {X : Cx} {ZP : ZT} {k n : Nat} {f C : Addr} {fd : FuncData} {ps : List Str} {nm m x : Str} {p pos apos : Pos} {e o : Expr} {es : List Expr} {CM : TM} {to : TD} {t : TSA}
/-- o.m(..), o in the store that slot i carries; the store keeps its addresses -/
def t_meth (i : Nat) (nm m : Str) (CM : TM) (to : TD) (t : TSA) : TD := fun cs Q => to cs fun sv cs1 => ∃ q dx fs, sv = .ptr q ∧ celAt cs1 i q = some (.ins nm dx fs) ∧ fs.lookup m = none ∧
  t cs1 fun svs cs2 => ∃ p W, cs2[i]? = some (some (.stp p W)) ∧ CM W q svs fun r W' => (∀ a, W'.ft a → W.ft a) ∧ Q (mvSV r) (cs2.set i (some (.stp p W')))
/-- the statement o.m(..): the store may grow -/
def t_methS (i : Nat) (nm m : Str) (CM : TM) (to : TD) (t : TSA) : TSD := fun D cs => to cs fun sv cs1 => ∃ q dx fs, sv = .ptr q ∧ celAt cs1 i q = some (.ins nm dx fs) ∧ fs.lookup m = none ∧
  t cs1 fun svs cs2 => ∃ p W, cs2[i]? = some (some (.stp p W)) ∧ CM W q svs fun _ W' => D.nx (cs2.set i (some (.stp p W')))

/-- C(..): a new instance, the store of its own -/
def t_make (nm : Str) (CM : TM) (t : TSA) : TD := fun cs Q => t cs fun svs cs1 => ∀ p dx, dx ≠ p → CM (Store.one p (.ins nm dx [])) p svs fun r W' => r = .dat .none ∧ Q (.stp p W') cs1
end
end Cl

/-! shared objects: calls that let the store grow, calls on new objects, defs that take an object -/
namespace Cl
open PySem PySem.Spec PyProof.Rows L2

section
variable {K : KW} {ZP : ZT} {B : Bs} {g : GW} {H : Hp} {cs : CS} {σ : L2.St}
end
section
variable {X : Cx} {ZP : ZT} {k n : Nat} {f C : Addr} {fd : FuncData} {ps : List Str} {nm m x : Str} {p pos apos cpos : Pos} {e o : Expr} {es : List Expr} {CM : TM} {to : TD} {t : TSA}
/-! ### o.m(..), o a new object -/
/-! ### f(o, ..), o in the store that slot i carries -/
end
end Cl

/-! d == {}, d != {} -/
namespace Cl
open PySem PySem.Spec PyProof.Rows L2

section
variable {prog : Program} {w : World} {A : Around} {E : Value → Shared → Prop} {s : Shared}
end
section
variable {X : Cx}
end
end Cl

/-! ClEF: t.index(x), t.count(x) of a tuple -/
namespace Cl
open PySem PySem.Spec PyProof.Rows L2
section
variable {X : Cx}
def tTM (r : V → List V → Hp → VK → Prop) (to : TE) (t : L2.TA) : TE := fun σ H Q => to σ H fun x H1 => (∃ a xs, x = .ref a ∧ TP H1 a xs) ∧ t σ H1 fun xs H2 => r x xs H2 Q
variable {o e : Expr} {es : List Expr} {to : TE} {t : L2.TA} {name : Str} {apos cpos : Pos} {id : String} {r : V → List V → Hp → VK → Prop}
theorem pe_tm (slot : Slot "tuple" name id) (hty : typeOf (.builtin id) = pure (.type "method_descriptor")) (hm : MtR X id r) (ho : PE X o to) (ha : PA X (e :: es) t)
    (hbase : attributeBase o name X.env (eval o X.env) = eval o X.env := by rfl)
    (hfew : ((backTo cpos (starEach (e :: es) X.env)).all (fun x => !x.1) && (backToKw cpos (keywordEach [] X.env)).all (fun x => x.1.isSome)
      && decide ((e :: es).length + ([] : List Keyword).length + (if ([] : List Keyword).isEmpty then 0 else 1) < 30)) = true := by rfl)
    (hline : (apos.endLine == cpos.line) = true := by rfl) (hs : starEach (e :: es) X.env = (false, eval e X.env) :: starEach es X.env := by rfl) (hno : (backTo cpos (starEach es X.env)).any (·.1) = false := by rfl) :
    PE X (.Call (.Attribute o name apos) (e :: es) [] cpos) (tTM r to t) := by
  refine ⟨fun pn s0 σ0 H0 Q0 I0 q0 => wpAny_Call_method_late hbase hfew hline rfl (thn (ho.run pn s0 σ0 H0 _ I0 q0) fun v s1 ⟨x, H1, I1, r1, ⟨a, xs, ex, tp⟩, q1⟩ => ?_)⟩
  subst ex
  have ev : v = .ref a := r1
  obtain ⟨_, its, n, _, ho⟩ := Inv.tpat I1 tp
  have args := ha.run cpos pn s1 σ0 H1 _ I1 q1
  rw [hs] at args ⊢
  refine ⟨"tuple", id, PySem.F.plainAttrs_tuple, slot, hty, by rw [ev]; exact ⟨_, ho, rfl⟩, fun b eb => ?_, ?_⟩
  · rw [ev] at eb; cases eb
    exact ⟨_, ho, rfl⟩
  · refine Calls.callWith_builtin (by show (false || (backTo cpos (starEach es X.env)).any (·.1)) = false; rw [hno] <;> rfl) (Calls.evalArgs_plain ?_)
    exact thn args fun us s2 ⟨vs, H2, I2, r2, q2⟩ => hm pn s2 σ0 H2 _ vs v us Q0 I2 r1 r2 q2
end
section
variable {X : Cx}
def rTIx (K : KW) : V → List V → Hp → VK → Prop := fun x xs H Q => ∃ (fz : Addr → Prop) (a : Addr) (y : V) (d : PyData) (ds : List PyData) (j : Nat) (z : PyData), x = V.ref a ∧ xs = [y] ∧ RB K H fz (.tuple ds) (V.ref a) ∧ RB K H fz d y ∧
  inOk d ds ∧ ds[j]? = some z ∧ PyData.eqv z d = true ∧ (∀ (m : Nat) (z' : PyData), m < j → ds[m]? = some z' → PyData.eqv z' d = false) ∧ Q (.int (j : Nat)) H
theorem mt_tindex (hu : X.A.units + 64 < cLine) : MtR X "tuple.index" (rTIx X.kw) := by
  intro pins s σ H x xs v us Q I rx rxs h
  obtain ⟨fz, a, y, d, ds, j, z, rfl, rfl, hl, hy, ⟨sl, sd, sm⟩, hz, hzj, hno, q⟩ := h
  cases rx
  obtain ⟨uy, rfl, ry⟩ := Vals.one rxs
  obtain ⟨bs, r1, _⟩ := RB.reads I hy ry
  obtain ⟨a', ys, ea, hq, ha⟩ := hl.tup
  cases ea
  obtain ⟨zz, its, n, rv, ho⟩ := Inv.tpat I hq
  obtain ⟨as, h4, _⟩ := Rp.readsAll I ds _ its ha rv
  have hn : its.length = ds.length := SeqAt.ReadsAll.length ds its as h4
  have hmap : its.map (SeqAt.readOf s.heap) = ds := SeqAt.readsAll_map ds its as sl h4
  have hroom : X.A.units + 1 + min (PyData.depthAll ds) d.depth < cLine := by omega
  obtain ⟨hjd, _⟩ := List.getElem?_eq_some_iff.mp hz
  have hjl : j < its.length := by omega
  have hj : j < its.toArray.size := by simpa using hjl
  have at_ : ∀ (m : Nat) (hm : m < its.toArray.size) (z' : PyData), ds[m]? = some z' → SeqAt.readOf s.heap its.toArray[m] = z' := by
    intro m hm z' hz'
    have hml : m < its.length := by simpa using hm
    rw [← hmap, List.getElem?_map, List.getElem?_eq_getElem hml] at hz'
    have e1 : SeqAt.readOf s.heap its[m] = z' := Option.some.inj (show some (SeqAt.readOf s.heap its[m]) = some z' from hz')
    simpa using e1
  refine call_meets PySem.F.slot_tuple_index ⟨_, ho, rfl⟩ PySem.F.entry_tuple_index (PySem.F.args_tuple_index_2 _ _)
    (TI.tuple_indexAt a its.toArray n _ _ uy (fun u => PyData.eqv (SeqAt.readOf s.heap u) d) j hj ?_ ?_) ⟨ho, SeqAt.items_eqAt (vs := its.toArray) (show ReadsAll s.heap its.toArray.toList ds as from h4) r1 sl sd hroom, ?_⟩
  · show PyData.eqv (SeqAt.readOf s.heap its.toArray[j]) d = true
    rw [at_ j hj z hz]
    exact hzj
  · intro m hm hmj
    have hmd : m < ds.length := by omega
    have hz' : ds[m]? = some ds[m] := List.getElem?_eq_getElem hmd
    show PyData.eqv (SeqAt.readOf s.heap its.toArray[m]) d = false
    rw [at_ m hm _ hz']
    exact hno m _ hmj hz'
  · exact ⟨.int (j : Nat), H, I.tok _, ⟨_, rfl⟩, q⟩
end
def t_tindex (tl : TLD) (te : TVD) : TVD := fun cs Q => tl cs fun l cs1 => (∃ ds, l.get cs1 = some (.tuple ds)) ∧ te cs1 fun d cs2 => ∃ ds j z, l.get cs2 = some (.tuple ds) ∧ inOk d ds ∧ ds[j]? = some z ∧ PyData.eqv z d = true ∧
  (∀ (m : Nat) (z' : PyData), m < j → ds[m]? = some z' → PyData.eqv z' d = false) ∧ Q (.int ((j : Nat) : Int)) cs2
def t_tcount (tl : TLD) (te : TVD) : TVD := fun cs Q => tl cs fun l cs1 => (∃ ds, l.get cs1 = some (.tuple ds)) ∧ te cs1 fun d cs2 => ∃ ds, l.get cs2 = some (.tuple ds) ∧ inOk d ds ∧ Q (.int ((ds.countP fun z => PyData.eqv z d : Nat) : Int)) cs2
section
variable {X : Cx} {ZP : ZT} {e r : Expr} {apos cpos : Pos} {te : TVD} {tl : TLD}
theorem dvtindex (hu : X.A.units + 64 < cLine) (hr : DL X ZP r tl) (h : DV X ZP e te)
    (hst : starEach [e] X.env = (false, eval e X.env) :: starEach [] X.env := by rfl) (hbase : attributeBase r "index" X.env (eval r X.env) = eval r X.env := by rfl) (hfew : ((backTo cpos (starEach [e] X.env)).all (fun x => !x.1) && (backToKw cpos (keywordEach [] X.env)).all (fun x => x.1.isSome)
      && decide (([e] : List Expr).length + ([] : List Keyword).length + (if ([] : List Keyword).isEmpty then 0 else 1) < 30)) = true := by rfl) (hline : (apos.endLine == cpos.line) = true := by rfl) :
    DV X ZP (.Call (.Attribute r "index" apos) [e] [] cpos) (t_tindex tl te) := by
  refine ⟨PE.imp (pe_tm PySem.F.slot_tuple_index PySem.F.type_tuple_index (mt_tindex hu) hr.pe (pa_cons h.pe pa_nil hst) hbase hfew hline hst rfl) ?_⟩
  rintro σ H Q ⟨B, cs, g, R, Q', q, k⟩
  refine ⟨B, cs, g, R, _, q, fun l cs1 v g1 H1 q1 R1 r1 s1 f1 => ?_⟩
  obtain ⟨⟨ds0, e0⟩, q1⟩ := q1
  obtain ⟨a, vs, rfl, ha, _⟩ := (r1.rb R1 e0).tup
  refine ⟨⟨a, vs, rfl, ha⟩, B, cs1, g1, R1, _, q1, fun d cs2 u g2 H2 q2 R2 r2 s2 f2 => ?_⟩
  obtain ⟨ds, j, z, e3, ok, hz, hq, hno, q3⟩ := q2
  exact ⟨g2.fz, a, _, d, ds, j, z, rfl, rfl, (r1.frm R1 f2).rb R2 e3, r2.rb, ok, hz, hq, hno, k _ _ _ g2 _ q3 R2 (.int _) (fun a h => s1 a (s2 a h)) (f1.trans (f2.mono fun a _ _ h => s1 a h))⟩
end
end Cl

namespace Sums
def stepN (rows : List (List Nat)) (m : Nat) : List (List Nat) := rows.flatMap fun r => (List.range m).map fun k => r ++ [k]
def memN (ms : List Nat) : List (List Nat) := ms.foldl stepN [[]]
def memF : List Nat → List (List Nat)
  | [] => [[]]
  | m :: ms => (List.range m).flatMap fun k => (memF ms).map (k :: ·)
theorem fold_memF : ∀ (ms : List Nat) (rows : List (List Nat)), ms.foldl stepN rows = rows.flatMap fun r => (memF ms).map (r ++ ·)
  | [], rows => by simp [memF]
  | m :: ms, rows => by
    rw [List.foldl_cons, fold_memF ms, stepN, List.flatMap_assoc]
    congr 1
    funext r
    simp [memF, List.flatMap_map, List.map_flatMap, Function.comp_def]
theorem memN_eq (ms : List Nat) : memN ms = memF ms := by
  unfold memN
  rw [fold_memF]
  simp
def ltL : List Nat → List Nat → Prop
  | x :: a, m :: ms => x < m ∧ ltL a ms
  | [], [] => True
  | _, _ => False
theorem ltL_len : ∀ {c ms : List Nat}, ltL c ms → c.length = ms.length
  | [], [], _ => rfl
  | x :: a, m :: ms, h => by rw [List.length_cons, List.length_cons, ltL_len h.2]
theorem mem_memF : ∀ {ms c : List Nat}, c ∈ memF ms ↔ ltL c ms
  | [], [] => by simp [memF, ltL]
  | [], x :: c => by simp [memF, ltL]
  | m :: ms, [] => by simp [memF, ltL]
  | m :: ms, x :: c => by
    have ih := @mem_memF ms c
    simp only [memF, List.mem_flatMap, List.mem_range, List.mem_map, List.cons.injEq, ltL]
    constructor
    · rintro ⟨k, hk, a, ha, rfl, rfl⟩
      exact ⟨hk, ih.mp ha⟩
    · rintro ⟨hx, hc⟩
      exact ⟨x, hx, c, ih.mpr hc, rfl, rfl⟩
theorem nodup_memF : ∀ ms : List Nat, (memF ms).Nodup
  | [] => by simp [memF]
  | m :: ms => by
    have ih := nodup_memF ms
    unfold memF List.Nodup
    rw [List.pairwise_flatMap]
    refine ⟨fun k _ => ?_, ?_⟩
    · rw [List.pairwise_map]
      exact List.Pairwise.imp (fun h e => h (List.cons.inj e).2) ih
    · refine List.Pairwise.imp (fun {a b} h x hx y hy e => ?_) (List.nodup_range (n := m))
      obtain ⟨u, _, rfl⟩ := List.mem_map.mp hx
      obtain ⟨w, _, rfl⟩ := List.mem_map.mp hy
      exact h (List.cons.inj e).1
def zr (n : Nat) : List Nat := List.replicate n 0
theorem memF_head : ∀ {ms : List Nat}, (∀ m ∈ ms, 1 ≤ m) → memF ms = zr ms.length :: (memF ms).drop 1
  | [], _ => rfl
  | m :: ms, h => by
    have ih := memF_head fun x hx => h x (List.mem_cons_of_mem _ hx)
    have hm := h m List.mem_cons_self
    obtain ⟨n, rfl⟩ : ∃ n, m = n + 1 := ⟨m - 1, by omega⟩
    have e : memF ((n + 1) :: ms) = (0 :: zr ms.length) :: (((memF ms).drop 1).map (0 :: ·) ++ ((List.range n).map Nat.succ).flatMap fun k => (memF ms).map (k :: ·)) := by
      show (List.range (n + 1)).flatMap _ = _
      rw [List.range_succ_eq_map, List.flatMap_cons]
      conv => lhs; lhs; rw [ih]
      rfl
    rw [e]
    rfl
def pr : List Nat → Nat
  | [] => 1
  | m :: ms => m * pr ms
theorem memF_len : ∀ ms : List Nat, (memF ms).length = pr ms
  | [] => rfl
  | m :: ms => by
    have ih := memF_len ms
    have : ∀ n, ((List.range n).flatMap fun k => (memF ms).map (k :: ·)).length = n * pr ms := fun n => by
      induction n with
      | zero => simp
      | succ n ihn => rw [List.range_succ, List.flatMap_append, List.length_append, ihn, Nat.succ_mul]; simp [ih]
    exact this m
theorem pr_app : ∀ a b : List Nat, pr (a ++ b) = pr a * pr b
  | [], b => by simp [pr]
  | m :: a, b => by show m * pr (a ++ b) = m * pr a * pr b; rw [pr_app a b, Nat.mul_assoc]
theorem pr_pos : ∀ {ms : List Nat}, (∀ m ∈ ms, 1 ≤ m) → 1 ≤ pr ms
  | [], _ => Nat.le_refl _
  | m :: ms, h => Nat.mul_pos (h m List.mem_cons_self) (pr_pos fun x hx => h x (List.mem_cons_of_mem _ hx))
def up (l : List Nat) : List Nat := l.map (· + 1)
theorem up_len (l : List Nat) : (up l).length = l.length := List.length_map _
theorem up_one (l : List Nat) : ∀ m ∈ up l, 1 ≤ m := fun m hm => by
  obtain ⟨x, _, rfl⟩ := List.mem_map.mp hm
  omega
/-! ### sums -/
def sc : List Nat → List Nat → Nat → List Nat
  | x :: a, y :: b, k => (x + y * k) :: sc a b k
  | _, _, _ => []
def md : List Nat → List Nat → List Nat
  | x :: a, m :: ns => x % m :: md a ns
  | _, _ => []
def add3 : List Nat → List Nat → List Nat → List Nat
  | x :: a, y :: b, m :: ns => (x + y) % m :: add3 a b ns
  | _, _, _ => []
def rep : List Nat → List Nat → Nat → List Nat
  | x :: a, m :: ns, k => (x * k) % m :: rep a ns k
  | _, _, _ => []
def raw (z : List Nat) : List (List Nat) → List Nat → List Nat
  | mk :: mks, c :: cs => raw (sc z mk c) mks cs
  | _, _ => z
theorem raw_snoc (mk : List Nat) (k : Nat) : ∀ (z : List Nat) (mks : List (List Nat)) (cs : List Nat), cs.length = mks.length → raw z (mks ++ [mk]) (cs ++ [k]) = sc (raw z mks cs) mk k
  | z, [], [], _ => rfl
  | z, m :: mks, c :: cs, h => raw_snoc mk k (sc z m c) mks cs (by simpa using h)
  | _, [], _ :: _, h => by simp at h
  | _, _ :: _, [], h => by simp at h
theorem md_sc (k : Nat) : ∀ a mk ns : List Nat, md (sc a mk k) ns = add3 (md a ns) (rep mk ns k) ns
  | [], _, _ => by simp [sc, md, add3]
  | x :: a, [], ns => by
    cases ns with
    | nil => simp [sc, md, add3]
    | cons m ns => simp [sc, md, add3, rep]
  | x :: a, y :: b, [] => by simp [sc, md, add3]
  | x :: a, y :: b, m :: ns => by
    show (x + y * k) % m :: md (sc a b k) ns = (x % m + y * k % m) % m :: add3 (md a ns) (rep b ns k) ns
    rw [md_sc k a b ns, Nat.add_mod]
theorem sc_len : ∀ {a b : List Nat} (k : Nat), a.length = b.length → (sc a b k).length = a.length
  | [], [], _, _ => rfl
  | x :: a, y :: b, k, h => by show (sc a b k).length + 1 = a.length + 1; rw [sc_len k (by simpa using h)]
  | [], _ :: _, _, h => by simp at h
  | _ :: _, [], _, h => by simp at h
theorem sc_zero : ∀ {a b : List Nat}, a.length = b.length → sc a b 0 = a
  | [], [], _ => rfl
  | x :: a, y :: b, h => by show (x + y * 0) :: sc a b 0 = x :: a; rw [sc_zero (by simpa using h)]; simp
  | [], _ :: _, h => by simp at h
  | _ :: _, [], h => by simp at h
theorem raw_len {n : Nat} : ∀ {z : List Nat} {mks : List (List Nat)} {cs : List Nat}, z.length = n → (∀ m ∈ mks, m.length = n) → (raw z mks cs).length = n
  | z, [], _, h, _ => by simpa [raw] using h
  | z, _ :: _, [], h, _ => by simpa [raw] using h
  | z, m :: mks, c :: cs, h, hm => raw_len (z := sc z m c) (by rw [sc_len c (by rw [h, hm m List.mem_cons_self]), h]) fun x hx => hm x (List.mem_cons_of_mem _ hx)
theorem raw_zr {n : Nat} : ∀ {z : List Nat} {mks : List (List Nat)} (k : Nat), z.length = n → (∀ m ∈ mks, m.length = n) → raw z mks (zr k) = z
  | z, [], _, _, _ => by simp [raw]
  | z, _ :: _, 0, _, _ => by simp [raw, zr]
  | z, m :: mks, k + 1, h, hm => by
    show raw (sc z m 0) mks (zr k) = z
    rw [sc_zero (by rw [h, hm m List.mem_cons_self])]
    exact raw_zr k h fun x hx => hm x (List.mem_cons_of_mem _ hx)
theorem md_zr : ∀ ns : List Nat, md (zr ns.length) ns = zr ns.length
  | [] => rfl
  | m :: ns => by show 0 % m :: md (zr ns.length) ns = 0 :: zr ns.length; rw [md_zr ns, Nat.zero_mod]
/-- the sum of counts -/
def ls (ns : List Nat) (mks : List (List Nat)) (c : List Nat) : List Nat := md (raw (zr ns.length) mks c) ns
/-! ### the rows with their sums -/
def wr (ns : List Nat) (mks : List (List Nat)) (cs : List (List Nat)) : List (List Nat × List Nat) := cs.map fun c => (c, ls ns mks c)
/-! ### what is made -/
theorem ltL_snoc : ∀ {ts : List Nat} {t : Nat} {c : List Nat}, ltL c (ts ++ [t]) ↔ ∃ c' k, c = c' ++ [k] ∧ ltL c' ts ∧ k < t
  | [], t, [] => by simp [ltL]
  | [], t, [x] => by
    constructor
    · intro h
      exact ⟨[], x, rfl, True.intro, h.1⟩
    · rintro ⟨c', k, e, h1, h2⟩
      cases c' with
      | nil => cases e; exact ⟨h2, True.intro⟩
      | cons y c' => simp [ltL] at h1
  | [], t, x :: y :: c => by
    constructor
    · intro h
      exact h.2.elim
    · rintro ⟨c', k, e, h1, h2⟩
      cases c' with
      | nil => cases e
      | cons y c' => simp [ltL] at h1
  | s :: ts, t, [] => by
    constructor
    · intro h
      exact h.elim
    · rintro ⟨c', k, e, h1, h2⟩
      cases c' <;> cases e
  | s :: ts, t, x :: c => by
    have ih := @ltL_snoc ts t c
    constructor
    · intro h
      obtain ⟨c', k, rfl, h1, h2⟩ := ih.mp h.2
      exact ⟨x :: c', k, rfl, ⟨h.1, h1⟩, h2⟩
    · rintro ⟨c', k, e, h1, h2⟩
      cases c' with
      | nil => exact h1.elim
      | cons y c' =>
        cases e
        exact ⟨h1.1, ih.mpr ⟨c', k, rfl, h1.2, h2⟩⟩
structure Mk (ns : List Nat) (pre : List (List Nat)) (ts : List Nat) (L : List (List Nat)) : Prop where
  nd : L.Nodup
  mem : ∀ e, e ∈ L ↔ ∃ c, ltL c (up ts) ∧ c ≠ zr ts.length ∧ e = ls ns pre c
theorem zr_snoc (n : Nat) : zr (n + 1) = zr n ++ [0] := by unfold zr; rw [List.replicate_succ']
theorem Mk.zero (ns : List Nat) : Mk ns [] [] [] := ⟨List.nodup_nil, fun e => by
  constructor
  · intro h; cases h
  · rintro ⟨c, h1, h2, _⟩
    cases c with
    | nil => exact absurd rfl h2
    | cons => exact h1.elim⟩
theorem Mk.step {ns : List Nat} {pre : List (List Nat)} {ts : List Nat} {L L' : List (List Nat)} {mk : List Nat} {t : Nat} (hp : pre.length = ts.length) (hm : ∀ m ∈ pre, m.length = ns.length) (hk : mk.length = ns.length)
    (h : Mk ns pre ts L) (hn : L'.Nodup) (hL : ∀ e, e ∈ L' ↔ e ∈ L ∨ ∃ m ∈ zr ns.length :: L, ∃ k, 1 ≤ k ∧ k ≤ t ∧ e = add3 m (rep mk ns k) ns) : Mk ns (pre ++ [mk]) (ts ++ [t]) L' := by
  have zl : (zr ns.length).length = ns.length := by simp [zr]
  have eq : ∀ c k, c.length = pre.length → ls ns (pre ++ [mk]) (c ++ [k]) = add3 (ls ns pre c) (rep mk ns k) ns := fun c k hc => by
    unfold ls
    rw [raw_snoc _ _ _ _ _ hc, md_sc]
  have eq0 : ∀ c, c.length = pre.length → ls ns (pre ++ [mk]) (c ++ [0]) = ls ns pre c := fun c hc => by
    unfold ls
    rw [raw_snoc _ _ _ _ _ hc, sc_zero (by rw [raw_len zl hm, hk])]
  have ez : ls ns pre (zr ts.length) = zr ns.length := by
    unfold ls
    rw [raw_zr _ zl hm, md_zr]
  have ul : up (ts ++ [t]) = up ts ++ [t + 1] := by simp [up]
  have zll : zr (ts ++ [t]).length = zr ts.length ++ [0] := by rw [List.length_append]; exact zr_snoc _
  refine ⟨hn, fun e => ?_⟩
  rw [hL, ul, zll]
  constructor
  · rintro (he | ⟨m, hm2, k, h1, h2, rfl⟩)
    · obtain ⟨c, c1, c2, rfl⟩ := (h.mem e).mp he
      have cl : c.length = pre.length := by rw [ltL_len c1, up_len, hp]
      refine ⟨c ++ [0], ltL_snoc.mpr ⟨c, 0, rfl, c1, by omega⟩, fun z => c2 ?_, (eq0 c cl).symm⟩
      exact (List.append_inj' z rfl).1
    · have go : ∀ c, ltL c (up ts) → m = ls ns pre c → ∃ c', ltL c' (up ts ++ [t + 1]) ∧ c' ≠ zr ts.length ++ [0] ∧ add3 m (rep mk ns k) ns = ls ns (pre ++ [mk]) c' := fun c c1 e => by
        have cl : c.length = pre.length := by rw [ltL_len c1, up_len, hp]
        refine ⟨c ++ [k], ltL_snoc.mpr ⟨c, k, rfl, c1, by omega⟩, fun z => ?_, by rw [eq c k cl, e]⟩
        have := (List.append_inj' z rfl).2
        rw [List.cons.injEq] at this
        omega
      rcases List.mem_cons.mp hm2 with rfl | hm2
      · refine go (zr ts.length) ?_ ez.symm
        have := memF_head (up_one ts)
        rw [← mem_memF, this, up_len]
        exact List.mem_cons_self
      · obtain ⟨c, c1, _, c3⟩ := (h.mem m).mp hm2
        exact go c c1 c3
  · rintro ⟨c', c1, c2, rfl⟩
    obtain ⟨c, k, rfl, c3, c4⟩ := ltL_snoc.mp c1
    have cl : c.length = pre.length := by rw [ltL_len c3, up_len, hp]
    rcases Nat.eq_zero_or_pos k with rfl | hk0
    · left
      rw [eq0 c cl]
      exact (h.mem _).mpr ⟨c, c3, fun z => c2 (by rw [z]), rfl⟩
    · right
      by_cases hz : c = zr ts.length
      · subst hz
        exact ⟨_, List.mem_cons_self, k, hk0, by omega, by rw [eq _ k cl, ez]⟩
      · exact ⟨ls ns pre c, List.mem_cons_of_mem _ ((h.mem _).mpr ⟨c, c3, hz, rfl⟩), k, hk0, by omega, by rw [eq _ k cl]⟩
end Sums

namespace Sums
theorem add3_comm : ∀ a b ns : List Nat, add3 a b ns = add3 b a ns
  | [], [], _ => rfl
  | [], _ :: _, _ => rfl
  | _ :: _, [], _ => rfl
  | _ :: _, _ :: _, [] => rfl
  | x :: a, y :: b, m :: ns => by
    show (x + y) % m :: add3 a b ns = (y + x) % m :: add3 b a ns
    rw [add3_comm a b ns, Nat.add_comm]
theorem add3_assoc : ∀ a b c ns : List Nat, add3 (add3 a b ns) c ns = add3 a (add3 b c ns) ns
  | [], _, _, _ => by simp [add3]
  | x :: a, [], c, ns => by cases ns <;> cases c <;> simp [add3]
  | x :: a, y :: b, [], ns => by cases ns <;> simp [add3]
  | x :: a, y :: b, z :: c, [] => by simp [add3]
  | x :: a, y :: b, z :: c, m :: ns => by
    show ((x + y) % m + z) % m :: add3 (add3 a b ns) c ns = (x + (y + z) % m) % m :: add3 a (add3 b c ns) ns
    rw [add3_assoc a b c ns, Nat.mod_add_mod, Nat.add_mod_mod, Nat.add_assoc]
theorem add3_zero : ∀ {a ns : List Nat}, ltL a ns → add3 (zr ns.length) a ns = a
  | [], [], _ => rfl
  | x :: a, m :: ns, h => by
    show (0 + x) % m :: add3 (zr ns.length) a ns = x :: a
    rw [add3_zero h.2, Nat.zero_add, Nat.mod_eq_of_lt h.1]
theorem add3_len : ∀ {a b ns : List Nat}, a.length = ns.length → b.length = ns.length → (add3 a b ns).length = ns.length
  | [], [], [], _, _ => rfl
  | x :: a, y :: b, m :: ns, h1, h2 => by show (add3 a b ns).length + 1 = ns.length + 1; rw [add3_len (by simpa using h1) (by simpa using h2)]
  | [], _, _ :: _, h, _ => by simp at h
  | _ :: _, _, [], h, _ => by simp at h
  | _, [], _ :: _, _, h => by simp at h
  | _, _ :: _, [], _, h => by simp at h
theorem add3_lt : ∀ {a b ns : List Nat}, a.length = ns.length → b.length = ns.length → (∀ m ∈ ns, 1 ≤ m) → ltL (add3 a b ns) ns
  | [], [], [], _, _, _ => True.intro
  | x :: a, y :: b, m :: ns, h1, h2, hm => ⟨Nat.mod_lt _ (hm m List.mem_cons_self), add3_lt (by simpa using h1) (by simpa using h2) fun k hk => hm k (List.mem_cons_of_mem _ hk)⟩
  | [], _, _ :: _, h, _, _ => by simp at h
  | _ :: _, _, [], h, _, _ => by simp at h
  | _, [], _ :: _, _, h, _ => by simp at h
  | _, _ :: _, [], _, h, _ => by simp at h
theorem zr_lt : ∀ {ns : List Nat}, (∀ m ∈ ns, 1 ≤ m) → ltL (zr ns.length) ns
  | [], _ => True.intro
  | m :: ns, h => ⟨h m List.mem_cons_self, zr_lt fun k hk => h k (List.mem_cons_of_mem _ hk)⟩
theorem rep_zero : ∀ {a ns : List Nat}, a.length = ns.length → rep a ns 0 = zr ns.length
  | [], [], _ => rfl
  | x :: a, m :: ns, h => by
    show (x * 0) % m :: rep a ns 0 = 0 :: zr ns.length
    rw [rep_zero (by simpa using h)]; simp
  | [], _ :: _, h => by simp at h
  | _ :: _, [], h => by simp at h
theorem rep_add (j k : Nat) : ∀ a ns : List Nat, rep a ns (j + k) = add3 (rep a ns j) (rep a ns k) ns
  | [], _ => by simp [rep, add3]
  | x :: a, [] => by simp [rep, add3]
  | x :: a, m :: ns => by
    show (x * (j + k)) % m :: rep a ns (j + k) = ((x * j) % m + (x * k) % m) % m :: add3 (rep a ns j) (rep a ns k) ns
    rw [rep_add j k a ns, Nat.mul_add, Nat.add_mod]
theorem rep_one : ∀ {a ns : List Nat}, ltL a ns → rep a ns 1 = a
  | [], [], _ => rfl
  | x :: a, m :: ns, h => by
    show (x * 1) % m :: rep a ns 1 = x :: a
    rw [rep_one h.2, Nat.mul_one, Nat.mod_eq_of_lt h.1]
theorem rep_dvd (N b : Nat) : ∀ {a ns : List Nat} (k : Nat), (∀ m ∈ ns, m ∣ N) → rep a ns (k + N * b) = rep a ns k
  | [], _, _, _ => by simp [rep]
  | x :: a, [], _, _ => by simp [rep]
  | x :: a, m :: ns, k, h => by
    show (x * (k + N * b)) % m :: rep a ns (k + N * b) = (x * k) % m :: rep a ns k
    rw [rep_dvd N b k fun y hy => h y (List.mem_cons_of_mem _ hy)]
    obtain ⟨c, rfl⟩ := h m List.mem_cons_self
    congr 1
    rw [show x * (k + m * c * b) = x * k + m * (x * c * b) by rw [Nat.mul_add]; congr 1; rw [Nat.mul_assoc, Nat.mul_left_comm, Nat.mul_assoc]]
    exact Nat.add_mul_mod_self_left _ _ _
theorem rep_len2 : ∀ {a ns : List Nat} (k : Nat), a.length = ns.length → (rep a ns k).length = ns.length
  | [], [], _, _ => rfl
  | x :: a, m :: ns, k, h => by show (rep a ns k).length + 1 = ns.length + 1; rw [rep_len2 k (by simpa using h)]
  | [], _ :: _, _, h => by simp at h
  | _ :: _, [], _, h => by simp at h
theorem pr_dvd : ∀ ns : List Nat, ∀ m ∈ ns, m ∣ pr ns
  | [], _, h => by cases h
  | n :: ns, m, h => by
    rcases List.mem_cons.mp h with rfl | h
    · exact Nat.dvd_mul_right _ _
    · exact Nat.dvd_trans (pr_dvd ns m h) (Nat.dvd_mul_left _ _)
/-! ### sums, summand by summand -/
def sm (ns : List Nat) : List Nat → List (List Nat) → List Nat → List Nat
  | t, mk :: mks, c :: cs => sm ns (add3 t (rep mk ns c) ns) mks cs
  | t, _, _ => t
/-! ### what is reached -/
inductive Rch (ns : List Nat) (S : List (List Nat)) : List Nat → Prop where
  | zero : Rch ns S (zr ns.length)
  | add {a s : List Nat} : Rch ns S a → s ∈ S → Rch ns S (add3 a s ns)
section
variable {ns : List Nat} {S T : List (List Nat)} (hn : ∀ m ∈ ns, 1 ≤ m)
include hn
theorem Rch.lt (hS : ∀ s ∈ S, ltL s ns) {a : List Nat} (h : Rch ns S a) : ltL a ns := by
  induction h with
  | zero => exact zr_lt hn
  | add _ hs ih => exact add3_lt (ltL_len ih) (ltL_len (hS _ hs)) hn
theorem Rch.plus (hS : ∀ s ∈ S, ltL s ns) {a b : List Nat} (h : Rch ns S a) (h2 : Rch ns S b) : Rch ns S (add3 a b ns) := by
  induction h2 with
  | zero => rw [add3_comm, add3_zero (h.lt hn hS)]; exact h
  | add _ hs ih => rw [← add3_assoc]; exact ih.add hs
theorem Rch.self (hS : ∀ s ∈ S, ltL s ns) {s : List Nat} (h : s ∈ S) : Rch ns S s := by
  have := (Rch.zero (ns := ns) (S := S)).add h
  rw [add3_zero (hS s h)] at this
  exact this
theorem Rch.mono (hT : ∀ s ∈ T, ltL s ns) (h : ∀ s ∈ S, Rch ns T s) {a : List Nat} (ha : Rch ns S a) : Rch ns T a := by
  induction ha with
  | zero => exact .zero
  | add _ hs ih => exact ih.plus hn hT (h _ hs)
theorem Rch.rep (hS : ∀ s ∈ S, ltL s ns) {a : List Nat} (h : Rch ns S a) : ∀ k, Rch ns S (rep a ns k)
  | 0 => by rw [rep_zero (ltL_len (h.lt hn hS))]; exact .zero
  | k + 1 => by
    rw [rep_add, rep_one (h.lt hn hS)]
    exact (Rch.rep hS h k).plus hn hS h
theorem neg_add {a : List Nat} (ha : ltL a ns) : add3 a (Sums.rep a ns (pr ns - 1)) ns = zr ns.length := by
  have h1 : 1 ≤ pr ns := pr_pos hn
  have e := rep_add 1 (pr ns - 1) a ns
  rw [rep_one ha, show 1 + (pr ns - 1) = pr ns by omega] at e
  rw [← e]
  have := rep_dvd (pr ns) 1 (a := a) (ns := ns) 0 (pr_dvd ns)
  rw [Nat.zero_add, Nat.mul_one, rep_zero (ltL_len ha)] at this
  exact this
end
end Sums

/-! cards, states, places: plain lists -/
namespace Cards
def sz : List Nat → Nat
  | [] => 1
  | t :: ts => (t + 1) * sz ts
theorem sz_append : ∀ a b : List Nat, sz (a ++ b) = sz a * sz b
  | [], b => by simp [sz]
  | t :: a, b => by
    show (t + 1) * sz (a ++ b) = (t + 1) * sz a * sz b
    rw [sz_append a b, Nat.mul_assoc]
theorem sz_pos : ∀ a : List Nat, 1 ≤ sz a
  | [] => by simp [sz]
  | t :: a => Nat.mul_pos (by omega) (sz_pos a)
theorem sz_snoc (a : List Nat) (t : Nat) : sz (a ++ [t]) = sz a * (t + 1) := by rw [sz_append]; simp [sz]
def digR : List Nat → Nat → List Nat
  | [], _ => []
  | t :: ts, k => k % (t + 1) :: digR ts (k / (t + 1))
def st (cs : List Nat) (k : Nat) : List Nat := (digR cs.reverse k).reverse
theorem digR_cons (t : Nat) (ts : List Nat) (k : Nat) : digR (t :: ts) k = k % (t + 1) :: digR ts (k / (t + 1)) := rfl
theorem st_snoc (a : List Nat) (t k : Nat) : st (a ++ [t]) k = st a (k / (t + 1)) ++ [k % (t + 1)] := by
  unfold st
  rw [List.reverse_append, show [t].reverse ++ a.reverse = t :: a.reverse from rfl, digR_cons, List.reverse_cons]
theorem snoc_ind {P : List Nat → Prop} (h0 : P []) (h1 : ∀ a t, P a → P (a ++ [t])) (l : List Nat) : P l := by
  have : ∀ r : List Nat, P r.reverse := fun r => by
    induction r with
    | nil => exact h0
    | cons t r ih => rw [List.reverse_cons]; exact h1 _ _ ih
  have z := this l.reverse
  rwa [List.reverse_reverse] at z
theorem st_len (cs : List Nat) : ∀ k, (st cs k).length = cs.length := by
  induction cs using snoc_ind with
  | h0 => intro k; rfl
  | h1 a t ih => intro k; rw [st_snoc, List.length_append, List.length_append, ih]; rfl
/-- level by level at most -/
def leL : List Nat → List Nat → Prop
  | [], [] => True
  | a :: as, b :: bs => a ≤ b ∧ leL as bs
  | _, _ => False
theorem leL_len : ∀ {a b : List Nat}, leL a b → a.length = b.length
  | [], [], _ => rfl
  | a :: as, b :: bs, h => by rw [List.length_cons, List.length_cons, leL_len h.2]
  | [], _ :: _, h => h.elim
  | _ :: _, [], h => h.elim
theorem leL_append : ∀ {a b c d : List Nat}, leL a b → leL c d → leL (a ++ c) (b ++ d)
  | [], [], _, _, _, h => h
  | a :: as, b :: bs, _, _, h, h2 => ⟨h.1, leL_append h.2 h2⟩
  | [], _ :: _, _, _, h, _ => h.elim
  | _ :: _, [], _, _, h, _ => h.elim
theorem leL_le : ∀ {a b : List Nat} {M : Nat}, leL a b → (∀ t ∈ b, t ≤ M) → ∀ x ∈ a, x ≤ M
  | a :: as, b :: bs, M, h, hM, x, hx => by
    rcases List.mem_cons.mp hx with rfl | hx
    · exact Nat.le_trans h.1 (hM b List.mem_cons_self)
    · exact leL_le h.2 (fun t ht => hM t (List.mem_cons_of_mem _ ht)) x hx
theorem leL_refl : ∀ a : List Nat, leL a a
  | [] => True.intro
  | a :: as => ⟨Nat.le_refl _, leL_refl as⟩
theorem leL_snoc_inv : ∀ {s a : List Nat} {t : Nat}, leL s (a ++ [t]) → ∃ s' l, s = s' ++ [l] ∧ leL s' a ∧ l ≤ t
  | [], [], _, h => h.elim
  | [x], [], t, h => ⟨[], x, rfl, True.intro, h.1⟩
  | _ :: _ :: _, [], _, h => h.2.elim
  | [], _ :: _, _, h => h.elim
  | x :: s, b :: a, t, h => by
    obtain ⟨s', l, e, h1, h2⟩ := leL_snoc_inv (s := s) (a := a) (t := t) h.2
    exact ⟨x :: s', l, by rw [e]; rfl, ⟨h.1, h1⟩, h2⟩
theorem st_le (cs : List Nat) : ∀ k, leL (st cs k) cs := by
  induction cs using snoc_ind with
  | h0 => intro k; exact True.intro
  | h1 a t ih =>
    intro k
    rw [st_snoc]
    exact leL_append (ih _) ⟨by have := Nat.mod_lt k (show 0 < t + 1 by omega); omega, True.intro⟩
/-- the place -/
def valA : Nat → List Nat → List Nat → Nat
  | acc, l :: s, t :: cs => valA (acc * (t + 1) + l) s cs
  | acc, _, _ => acc
theorem valA_snoc : ∀ (s cs : List Nat) (acc l t : Nat), s.length = cs.length → valA acc (s ++ [l]) (cs ++ [t]) = valA acc s cs * (t + 1) + l
  | [], [], acc, l, t, _ => rfl
  | a :: s, b :: cs, acc, l, t, h => valA_snoc s cs _ l t (by simpa using h)
  | [], _ :: _, _, _, _, h => by simp at h
  | _ :: _, [], _, _, _, h => by simp at h
theorem val_st (cs : List Nat) : ∀ k, k < sz cs → valA 0 (st cs k) cs = k := by
  induction cs using snoc_ind with
  | h0 => intro k h; have : k < 1 := h; show 0 = k; omega
  | h1 a t ih =>
    intro k h
    rw [sz_snoc] at h
    rw [st_snoc, valA_snoc _ _ _ _ _ (st_len a _), ih _ ((Nat.div_lt_iff_lt_mul (by omega)).mpr h)]
    have := Nat.div_add_mod k (t + 1)
    rw [Nat.mul_comm] at this
    exact this
theorem st_val (cs : List Nat) : ∀ s, leL s cs → valA 0 s cs < sz cs ∧ st cs (valA 0 s cs) = s := by
  induction cs using snoc_ind with
  | h0 =>
    intro s h
    cases s with
    | nil => exact ⟨by decide, rfl⟩
    | cons => exact h.elim
  | h1 a t ih =>
    intro s h
    obtain ⟨s', l, rfl, h1, h2⟩ := leL_snoc_inv h
    obtain ⟨i1, i2⟩ := ih s' h1
    rw [valA_snoc _ _ _ _ _ (leL_len h1), sz_snoc, st_snoc]
    have e1 : (valA 0 s' a * (t + 1) + l) / (t + 1) = valA 0 s' a := by
      rw [Nat.add_comm, Nat.mul_comm, Nat.add_mul_div_left _ _ (by omega), Nat.div_eq_of_lt (by omega), Nat.zero_add]
    have e2 : (valA 0 s' a * (t + 1) + l) % (t + 1) = l := by
      rw [Nat.add_comm, Nat.mul_comm, Nat.add_mul_mod_self_left, Nat.mod_eq_of_lt (by omega)]
    rw [e1, e2, i2]
    refine ⟨?_, rfl⟩
    have h3 : (valA 0 s' a + 1) * (t + 1) ≤ sz a * (t + 1) := Nat.mul_le_mul_right _ i1
    rw [Nat.succ_mul] at h3
    omega
/-- all states, in order -/
def rowsOf (cs : List Nat) : List (List Nat) := (List.range (sz cs)).map (st cs)
def step (rows : List (List Nat)) (m : Nat) : List (List Nat) := rows.flatMap fun r => (List.range m).map fun k => r ++ [k]
theorem range_mul {α : Type} (g : Nat → Nat → α) (m : Nat) (hm : 0 < m) : ∀ n, (List.range (n * m)).map (fun k => g (k / m) (k % m)) = (List.range n).flatMap fun i => (List.range m).map fun j => g i j
  | 0 => by simp
  | n + 1 => by
    rw [Nat.succ_mul, List.range_add, List.map_append, range_mul g m hm n, List.range_succ, List.flatMap_append]
    congr 1
    simp only [List.map_map, List.flatMap_cons, List.flatMap_nil, List.append_nil]
    refine List.map_congr_left fun j hj => ?_
    have hj := List.mem_range.mp hj
    show g ((n * m + j) / m) ((n * m + j) % m) = g n j
    have e1 : (n * m + j) / m = n := by
      rw [Nat.add_comm, Nat.mul_comm, Nat.add_mul_div_left _ _ hm, Nat.div_eq_of_lt hj, Nat.zero_add]
    have e2 : (n * m + j) % m = j := by
      rw [Nat.add_comm, Nat.mul_comm, Nat.add_mul_mod_self_left, Nat.mod_eq_of_lt hj]
    rw [e1, e2]
theorem rows_snoc (a : List Nat) (t : Nat) : rowsOf (a ++ [t]) = step (rowsOf a) (t + 1) := by
  unfold rowsOf step
  rw [sz_snoc, List.flatMap_map]
  rw [← range_mul (fun i j => st a i ++ [j]) (t + 1) (by omega)]
  exact List.map_congr_left fun k _ => st_snoc a t k
theorem rows_len (cs : List Nat) : (rowsOf cs).length = sz cs := by simp [rowsOf]
theorem rows_at {cs : List Nat} {k : Nat} (h : k < sz cs) : (rowsOf cs)[k]? = some (st cs k) := by
  unfold rowsOf
  rw [List.getElem?_map, List.getElem?_range h]
  rfl
theorem rows_mem {cs s : List Nat} (h : s ∈ rowsOf cs) : leL s cs := by
  obtain ⟨k, _, rfl⟩ := List.mem_map.mp h
  exact st_le cs k
theorem mem_rows {cs s : List Nat} (h : leL s cs) : s ∈ rowsOf cs := by
  obtain ⟨h1, h2⟩ := st_val cs s h
  exact List.mem_map.mpr ⟨_, List.mem_range.mpr h1, h2⟩
theorem step_append (a b : List (List Nat)) (m : Nat) : step (a ++ b) m = step a m ++ step b m := by simp [step]
theorem step_len (rows : List (List Nat)) (m : Nat) : (step rows m).length = rows.length * m := by
  induction rows with
  | nil => simp [step]
  | cons r rs ih =>
    have e : step (r :: rs) m = ((List.range m).map fun k => r ++ [k]) ++ step rs m := by simp [step]
    rw [e, List.length_append, ih, List.length_map, List.length_range, List.length_cons, Nat.succ_mul, Nat.add_comm]
end Cards

/-! rooms: ways rise by rise, strengths of rooms: plain mathematics -/
namespace Rms
open scoped Classical
variable {ε : Type}
/-- so many cells, their marks, sums, the zero, the elements -/
structure Rg (ε : Type) where
  n : Nat
  mark : Nat → ε
  add : ε → ε → ε
  zr : ε
  el : ε → Prop
/-- a rise less -/
def dc (r : List Nat) (c : Nat) : List Nat := r.set c (r.getD c 0 - 1)
theorem dc_len (r : List Nat) (c : Nat) : (dc r c).length = r.length := List.length_set ..
theorem dc_get (r : List Nat) (c q : Nat) : (dc r c).getD q 0 = if q = c then r.getD c 0 - 1 else r.getD q 0 := by
  unfold dc
  rw [List.getD_eq_getElem?_getD, List.getElem?_set]
  by_cases h : c = q
  · subst h
    rw [if_pos rfl, if_pos rfl]
    by_cases hl : c < r.length
    · rw [if_pos hl]; rfl
    · rw [if_neg hl, List.getD_eq_getElem?_getD, List.getElem?_eq_none (by omega)]; rfl
  · rw [if_neg h, if_neg (Ne.symm h), List.getD_eq_getElem?_getD]
theorem dc_sum : ∀ (r : List Nat) (c : Nat), 0 < r.getD c 0 → (dc r c).sum + 1 = r.sum
  | [], c, h => by simp at h
  | x :: r, 0, h => by
    have h : 0 < x := by simpa using h
    show ((x - 1) :: r).sum + 1 = (x :: r).sum
    rw [List.sum_cons, List.sum_cons]; omega
  | x :: r, c + 1, h => by
    have ih := dc_sum r c (by simpa using h)
    show (x :: dc r c).sum + 1 = (x :: r).sum
    rw [List.sum_cons, List.sum_cons]; omega
section
variable (G : Rg ε)
/-- a way from a room to an element, behind which the room left is in A -/
inductive Wy (A : List Nat → Prop) : List Nat → ε → Prop
  | last {r : List Nat} {c : Nat} : c < G.n → 0 < r.getD c 0 → A (dc r c) → Wy A r (G.mark c)
  | more {r : List Nat} {c : Nat} {e : ε} : c < G.n → 0 < r.getD c 0 → Wy A (dc r c) e → Wy A r (G.add e (G.mark c))
def K : Nat → List Nat → Prop
  | 0, _ => True
  | m + 1, r => ∀ e, G.el e → e ≠ G.zr → Wy G (K m) r e
end
variable {G : Rg ε}
theorem Wy.mono {A B : List Nat → Prop} (h : ∀ r, A r → B r) {r : List Nat} {e : ε} (w : Wy G A r e) : Wy G B r e := by
  induction w with
  | last a b c => exact .last a b (h _ c)
  | more a b _ ih => exact .more a b ih
theorem Wy.sum {A : List Nat → Prop} {r : List Nat} {e : ε} (w : Wy G A r e) : ∃ s, A s ∧ s.sum < r.sum := by
  induction w with
  | @last r c a b h => exact ⟨_, h, by have := dc_sum r c b; omega⟩
  | @more r c e a b _ ih =>
    obtain ⟨s, h, l⟩ := ih
    exact ⟨s, h, by have := dc_sum r c b; omega⟩
theorem K_anti : ∀ {m : Nat} {r : List Nat}, K G (m + 1) r → K G m r
  | 0, _, _ => trivial
  | m + 1, r, h => fun e he hz => (h e he hz).mono fun s hs => K_anti hs
theorem K_sum (hne : ∃ e, G.el e ∧ e ≠ G.zr) : ∀ {m : Nat} {r : List Nat}, K G m r → m ≤ r.sum
  | 0, _, _ => Nat.zero_le _
  | m + 1, r, h => by
    obtain ⟨e, he, hz⟩ := hne
    obtain ⟨s, hs, l⟩ := (h e he hz).sum
    have := K_sum ⟨e, he, hz⟩ hs
    omega
/-- a bound that some numbers keep below -/
theorem top_ex {p : Nat → Prop} (h0 : p 0) (hd : ∀ m, p (m + 1) → p m) {b : Nat} (hb : ∀ m, p m → m ≤ b) : ∃ s, ∀ m, p m ↔ m ≤ s := by
  have dn : ∀ m n, m ≤ n → p n → p m := fun m n h k => by
    induction n with
    | zero => rw [Nat.le_zero.mp h]; exact k
    | succ n ih =>
      by_cases e : m = n + 1
      · rw [e]; exact k
      · exact ih (by omega) (hd n k)
  induction b with
  | zero => exact ⟨0, fun m => ⟨hb m, fun k => by rw [Nat.le_zero.mp k]; exact h0⟩⟩
  | succ b ih =>
    by_cases e : p (b + 1)
    · exact ⟨b + 1, fun m => ⟨hb m, fun k => dn m _ k e⟩⟩
    · refine ih fun m k => ?_
      have := hb m k
      by_cases em : m = b + 1
      · rw [em] at k; exact absurd k e
      · omega
/-- the strength of a room -/
noncomputable def RS (G : Rg ε) (r : List Nat) : Nat := if h : ∃ s, ∀ m, K G m r ↔ m ≤ s then Classical.choose h else 0
theorem RS_iff (hne : ∃ e, G.el e ∧ e ≠ G.zr) {m : Nat} {r : List Nat} : K G m r ↔ m ≤ RS G r := by
  have h : ∃ s, ∀ m, K G m r ↔ m ≤ s := top_ex trivial (fun m => K_anti) fun m => K_sum hne
  unfold RS
  rw [dif_pos h]
  exact Classical.choose_spec h m
/-- the greatest strength of a room left behind a way, -1 if there is none -/
noncomputable def TB (G : Rg ε) (r : List Nat) (e : ε) : Int := if h : ∃ s : Int, -1 ≤ s ∧ ∀ t : Nat, Wy G (K G t) r e ↔ (t : Int) ≤ s then Classical.choose h else -1
theorem TB_ex (hne : ∃ e, G.el e ∧ e ≠ G.zr) (r : List Nat) (e : ε) : ∃ s : Int, -1 ≤ s ∧ ∀ t : Nat, Wy G (K G t) r e ↔ (t : Int) ≤ s := by
  by_cases h0 : Wy G (K G 0) r e
  · obtain ⟨s, hs⟩ := top_ex (p := fun t => Wy G (K G t) r e) h0 (fun m w => w.mono fun _ k => K_anti k) (b := r.sum) fun m w => by
      obtain ⟨s, hs, l⟩ := Wy.sum w
      have := K_sum hne hs
      omega
    exact ⟨s, by omega, fun t => by rw [hs t]; omega⟩
  · refine ⟨-1, Int.le_refl _, fun t => ⟨fun w => absurd (w.mono fun _ _ => trivial) h0, fun z => by omega⟩⟩
theorem TB_iff (hne : ∃ e, G.el e ∧ e ≠ G.zr) {t : Nat} {r : List Nat} {e : ε} : Wy G (K G t) r e ↔ (t : Int) ≤ TB G r e := by
  have h := TB_ex hne r e
  unfold TB
  rw [dif_pos h]
  exact (Classical.choose_spec h).2 t
theorem TB_ge (hne : ∃ e, G.el e ∧ e ≠ G.zr) (r : List Nat) (e : ε) : -1 ≤ TB G r e := by
  have h := TB_ex hne r e
  unfold TB
  rw [dif_pos h]
  exact (Classical.choose_spec h).1
theorem int_eq {a b : Int} (ha : -1 ≤ a) (hb : -1 ≤ b) (h : ∀ t : Nat, (t : Int) ≤ a ↔ (t : Int) ≤ b) : a = b := by
  by_cases h1 : a < b
  · have := (h b.toNat).mpr (by omega); omega
  · by_cases h2 : b < a
    · have := (h a.toNat).mp (by omega); omega
    · omega
theorem Wy_iff {A : List Nat → Prop} {r : List Nat} {e : ε} : Wy G A r e ↔ ∃ c, c < G.n ∧ 0 < r.getD c 0 ∧ ((e = G.mark c ∧ A (dc r c)) ∨ ∃ f, Wy G A (dc r c) f ∧ e = G.add f (G.mark c)) := by
  constructor
  · intro w
    cases w with
    | last a b c => exact ⟨_, a, b, .inl ⟨rfl, c⟩⟩
    | more a b c => exact ⟨_, a, b, .inr ⟨_, c, rfl⟩⟩
  · rintro ⟨c, a, b, ⟨rfl, h⟩ | ⟨f, h, rfl⟩⟩
    · exact .last a b h
    · exact .more a b h
/-- the marks are elements, sums are -/
structure Gd (G : Rg ε) : Prop where
  mark : ∀ c, c < G.n → G.el (G.mark c)
  add : ∀ a b, G.el a → G.el b → G.el (G.add a b)
  ne : ∃ e, G.el e ∧ e ≠ G.zr
theorem Wy.el {A : List Nat → Prop} (g : Gd G) {r : List Nat} {e : ε} (w : Wy G A r e) : G.el e := by
  induction w with
  | last a _ _ => exact g.mark _ a
  | more a _ _ ih => exact g.add _ _ ih (g.mark _ a)
/-! ### maps between groups, rooms -/
/-- a map of rooms, cells and elements: the strengths are no less -/
theorem Wy.map {δ : Type} {H : Rg δ} {A B : List Nat → Prop} (φ : ε → δ) (ρ : List Nat → Prop) (π : List Nat → List Nat) (σ : Nat → Nat) (hA : ∀ r, ρ r → A (π r) → B r)
    (hc : ∀ r c, ρ r → c < G.n → 0 < (π r).getD c 0 → σ c < H.n ∧ 0 < r.getD (σ c) 0 ∧ π (dc r (σ c)) = dc (π r) c ∧ ρ (dc r (σ c))) (hm : ∀ c, c < G.n → φ (G.mark c) = H.mark (σ c))
    (ha : ∀ a c, G.el a → c < G.n → φ (G.add a (G.mark c)) = H.add (φ a) (φ (G.mark c))) (g : Gd G) {s : List Nat} {e : ε} (w : Wy G A s e) : ∀ r, ρ r → π r = s → Wy H B r (φ e) := by
  induction w with
  | @last s c a b h =>
    intro r hr e
    subst e
    obtain ⟨h1, h2, h3, h4⟩ := hc r c hr a b
    rw [hm c a]
    exact .last h1 h2 (hA _ h4 (by rw [h3]; exact h))
  | @more s c e a b w ih =>
    intro r hr e
    subst e
    obtain ⟨h1, h2, h3, h4⟩ := hc r c hr a b
    rw [ha _ c (w.el g) a, hm c a]
    exact .more h1 h2 (ih _ h4 h3)
end Rms

/-! rooms: maps from cell to cell, a rise more, groups beside one another: plain mathematics -/
namespace Rms
open scoped Classical
variable {ε δ : Type} {G : Rg ε} {H : Rg δ}
/-- a map where each cell taken there stands for one taken here -/
def Lnk (G : Rg ε) (H : Rg δ) (φ : ε → δ) (ρ : List Nat → Prop) (π : List Nat → List Nat) : Prop :=
  ∀ r c, ρ r → c < G.n → 0 < (π r).getD c 0 → ∃ d, d < H.n ∧ 0 < r.getD d 0 ∧ π (dc r d) = dc (π r) c ∧ ρ (dc r d) ∧ φ (G.mark c) = H.mark d ∧ ∀ a, G.el a → φ (G.add a (G.mark c)) = H.add (φ a) (H.mark d)
theorem Wy.lk {A B : List Nat → Prop} {φ : ε → δ} {ρ : List Nat → Prop} {π : List Nat → List Nat} (hA : ∀ r, ρ r → A (π r) → B r) (hc : Lnk G H φ ρ π) (g : Gd G) {s : List Nat} {e : ε} (w : Wy G A s e) : ∀ r, ρ r → π r = s → Wy H B r (φ e) := by
  induction w with
  | @last s c a b h =>
    intro r hr e
    subst e
    obtain ⟨d, h1, h2, h3, h4, h5, _⟩ := hc r c hr a b
    rw [h5]
    exact .last h1 h2 (hA _ h4 (by rw [h3]; exact h))
  | @more s c e a b w ih =>
    intro r hr e
    subst e
    obtain ⟨d, h1, h2, h3, h4, _, h6⟩ := hc r c hr a b
    rw [h6 _ (w.el g)]
    exact .more h1 h2 (ih _ h4 h3)
theorem RS_sum (g : Gd G) (r : List Nat) : RS G r ≤ r.sum := K_sum g.ne ((RS_iff g.ne).mpr (Nat.le_refl _))
/-- two groups, their cells, beside one another -/
structure Bs (ε : Type) where
  one : Rg ε
  two : Rg ε
  both : Rg ε
  fst : ε → ε
  snd : ε → ε
  jn : ε → ε → ε
structure Bs.Ok (B : Bs ε) : Prop where
  g1 : Gd B.one
  g2 : Gd B.two
  g : Gd B.both
  n : B.both.n = B.one.n + B.two.n
  as : ∀ a b c, B.both.add (B.both.add a b) c = B.both.add a (B.both.add b c)
  m1 : ∀ c, c < B.one.n → B.both.mark c = B.jn (B.one.mark c) B.two.zr
  m2 : ∀ c, c < B.two.n → B.both.mark (B.one.n + c) = B.jn B.one.zr (B.two.mark c)
  el : ∀ e, B.both.el e → B.one.el (B.fst e) ∧ B.two.el (B.snd e) ∧ B.jn (B.fst e) (B.snd e) = e
  em : ∀ a b, B.one.el a → B.two.el b → B.both.el (B.jn a b) ∧ B.fst (B.jn a b) = a ∧ B.snd (B.jn a b) = b
  z1 : B.one.el B.one.zr
  z2 : B.two.el B.two.zr
  z : B.both.zr = B.jn B.one.zr B.two.zr
  ad : ∀ a b c d, B.one.el a → B.two.el b → B.one.el c → B.two.el d → B.both.add (B.jn a b) (B.jn c d) = B.jn (B.one.add a c) (B.two.add b d)
  l1 : ∀ a, B.one.el a → B.one.add B.one.zr a = a
  r1 : ∀ a, B.one.el a → B.one.add a B.one.zr = a
  l2 : ∀ a, B.two.el a → B.two.add B.two.zr a = a
  r2 : ∀ a, B.two.el a → B.two.add a B.two.zr = a
section
variable {B : Bs ε} (ok : B.Ok)
include ok
end
end Rms

/-! rooms: groups alike, cells in another order: plain mathematics -/
namespace Rms
open scoped Classical
variable {ε δ : Type} {G : Rg ε} {H : Rg δ}
/-- rooms that stand for one another -/
def Sim (G : Rg ε) (H : Rg ε) (R : List Nat → List Nat → Prop) : Prop :=
  ∀ r s c, R r s → c < G.n → 0 < r.getD c 0 → ∃ d, d < H.n ∧ 0 < s.getD d 0 ∧ R (dc r c) (dc s d) ∧ G.mark c = H.mark d ∧ ∀ a, G.add a (G.mark c) = H.add a (H.mark d)
theorem Wy.sim {H : Rg ε} {A B : List Nat → Prop} {R : List Nat → List Nat → Prop} (hA : ∀ r s, R r s → A r → B s) (hc : Sim G H R) {r : List Nat} {e : ε} (w : Wy G A r e) : ∀ s, R r s → Wy H B s e := by
  induction w with
  | @last r c a b h =>
    intro s hr
    obtain ⟨d, h1, h2, h3, h4, _⟩ := hc r s c hr a b
    rw [h4]
    exact .last h1 h2 (hA _ _ h3 h)
  | @more r c e a b w ih =>
    intro s hr
    obtain ⟨d, h1, h2, h3, _, h5⟩ := hc r s c hr a b
    rw [h5]
    exact .more h1 h2 (ih _ h3)
theorem K_sim {H : Rg ε} {R : List Nat → List Nat → Prop} (hc : Sim G H R) (hel : ∀ e, H.el e → e ≠ H.zr → G.el e ∧ e ≠ G.zr) : ∀ m r s, R r s → K G m r → K H m s
  | 0, _, _, _, _ => trivial
  | m + 1, r, s, hr, k => fun e he hz => by
    obtain ⟨a, b⟩ := hel e he hz
    exact (k e a b).sim (fun r s hs ks => K_sim hc hel m r s hs ks) hc s hr
theorem RS_sim {H : Rg ε} {R : List Nat → List Nat → Prop} (hc : Sim G H R) (hel : ∀ e, H.el e → e ≠ H.zr → G.el e ∧ e ≠ G.zr) (g : Gd G) (g2 : Gd H) {r s : List Nat} (hr : R r s) : RS G r ≤ RS H s :=
  (RS_iff g2.ne).mp (K_sim hc hel _ r s hr ((RS_iff g.ne).mpr (Nat.le_refl _)))
/-- groups alike -/
structure Alike (G : Rg ε) (H : Rg δ) (φ : ε → δ) : Prop where
  n : G.n = H.n
  el : ∀ e, G.el e → H.el (φ e)
  inj : ∀ e f, G.el e → G.el f → φ e = φ f → e = f
  sur : ∀ e, H.el e → ∃ f, G.el f ∧ φ f = e
  z : G.el G.zr
  zero : φ G.zr = H.zr
  mark : ∀ c, c < G.n → φ (G.mark c) = H.mark c
  add : ∀ a b, G.el a → G.el b → φ (G.add a b) = H.add (φ a) (φ b)
theorem Alike.go {φ : ε → δ} (h : Alike G H φ) (g : Gd G) {A : List Nat → Prop} {r : List Nat} {e : ε} (w : Wy G A r e) : Wy H A r (φ e) := by
  induction w with
  | @last r c a b k =>
    rw [h.mark c a]
    exact .last (h.n ▸ a) b k
  | @more r c e a b w ih =>
    rw [h.add _ _ (w.el g) (g.mark c a), h.mark c a]
    exact .more (h.n ▸ a) b ih
theorem Alike.back {φ : ε → δ} (h : Alike G H φ) (g : Gd G) (g2 : Gd H) {A : List Nat → Prop} {r : List Nat} {e : δ} (w : Wy H A r e) : ∀ f, G.el f → φ f = e → Wy G A r f := by
  induction w with
  | @last r c a b k =>
    intro f hf e
    have a' : c < G.n := h.n.symm ▸ a
    rw [← h.mark c a'] at e
    rw [h.inj _ _ hf (g.mark c a') e]
    exact .last a' b k
  | @more r c e a b w ih =>
    intro f hf e2
    have a' : c < G.n := h.n.symm ▸ a
    obtain ⟨q, hq, rfl⟩ := h.sur _ (w.el g2)
    rw [← h.mark c a', ← h.add _ _ hq (g.mark c a')] at e2
    rw [h.inj _ _ hf (g.add _ _ hq (g.mark c a')) e2]
    exact .more a' b (ih q hq rfl)
theorem Alike.K {φ : ε → δ} (h : Alike G H φ) (g : Gd G) (g2 : Gd H) : ∀ m r, K G m r ↔ Rms.K H m r
  | 0, _ => ⟨fun _ => trivial, fun _ => trivial⟩
  | m + 1, r => by
    have ih := Alike.K h g g2 m
    constructor
    · intro k e he hz
      obtain ⟨f, hf, rfl⟩ := h.sur e he
      exact (h.go g (k f hf fun z => hz (by rw [z, h.zero]))).mono fun s hs => (ih s).mp hs
    · intro k e he hz
      have w := k (φ e) (h.el e he) fun z => hz (h.inj _ _ he h.z (by rw [z, h.zero]))
      exact (h.back g g2 w e he rfl).mono fun s hs => (ih s).mpr hs
theorem Alike.RS {φ : ε → δ} (h : Alike G H φ) (g : Gd G) (g2 : Gd H) (r : List Nat) : RS G r = Rms.RS H r := by
  have i1 := fun m => RS_iff (G := G) g.ne (m := m) (r := r)
  have i2 := fun m => RS_iff (G := H) g2.ne (m := m) (r := r)
  have k := h.K g g2
  have a := (i2 _).mp ((k _ r).mp ((i1 _).mpr (Nat.le_refl _)))
  have b := (i1 _).mp ((k _ r).mpr ((i2 _).mpr (Nat.le_refl _)))
  omega
/-- marks of nought: no strength -/
theorem RS_zero (g : Gd G) (hm : ∀ c, c < G.n → G.mark c = G.zr) (ha : G.add G.zr G.zr = G.zr) (r : List Nat) : RS G r = 0 := by
  have key : ∀ {A : List Nat → Prop} {r : List Nat} {e : ε}, Wy G A r e → e = G.zr := by
    intro A r e w
    induction w with
    | last a b k => exact hm _ a
    | more a b w ih => rw [ih, hm _ a, ha]
  refine Classical.byContradiction fun z => ?_
  have k : K G 1 r := (RS_iff g.ne).mpr (by omega)
  obtain ⟨e, he, hz⟩ := g.ne
  exact hz (key (k e he hz))
end Rms
/-! ### lists of the same length -/
theorem pig_len {α : Type} [DecidableEq α] : ∀ (A B : List α), A.Nodup → (∀ x ∈ A, x ∈ B) → A.length ≤ B.length
  | [], _, _, _ => Nat.zero_le _
  | x :: A, B, nd, h => by
    have hx := h x List.mem_cons_self
    have nd := List.nodup_cons.mp nd
    have ih := pig_len A (B.erase x) nd.2 fun y hy => (List.mem_erase_of_ne (show y ≠ x from fun e => nd.1 (by rw [← e]; exact hy))).mpr (h y (List.mem_cons_of_mem _ hy))
    rw [List.length_erase_of_mem hx] at ih
    have := List.length_pos_of_mem hx
    rw [List.length_cons]; omega
theorem pig {α : Type} [DecidableEq α] {A B : List α} (nd : A.Nodup) (h : ∀ x ∈ A, x ∈ B) (hl : B.length ≤ A.length) : ∀ x ∈ B, x ∈ A := fun x hx => by
  refine Classical.byContradiction fun z => ?_
  have := pig_len A (B.erase x) nd fun y hy => (List.mem_erase_of_ne (show y ≠ x from fun e => z (by rw [← e]; exact hy))).mpr (h y hy)
  rw [List.length_erase_of_mem hx] at this
  have := List.length_pos_of_mem hx
  omega

namespace Lk
open PySem PySem.Spec PyProof.Rows L2 Cl
def topS (i : Nat) : Stmt := PySem.Challenge.pw_onlyhigher_k29_whole_rooms_exchanged.main.body.getD i (.Pass ⟨0, 0, 0, 0⟩)
abbrev S_states : Stmt := topS 1
abbrev N_states : List Str := ["card", "found", "top", "longer", "state", "level"]
theorem SC_states : FnScope N_states ["card"] (defScope S_states) := ⟨rfl, rfl, rfl, by decide +kernel, rfl, by decide +kernel, by decide +kernel⟩
abbrev S_lengthened : Stmt := topS 3
abbrev N_lengthened : List Str := ["rows", "many", "found", "row", "item"]
theorem SC_lengthened : FnScope N_lengthened ["rows", "many"] (defScope S_lengthened) := ⟨rfl, rfl, rfl, by decide +kernel, rfl, by decide +kernel, by decide +kernel⟩
abbrev S_group_members : Stmt := topS 4
abbrev N_group_members : List Str := ["group", "found", "modulus"]
theorem SC_group_members : FnScope N_group_members ["group"] (defScope S_group_members) := ⟨rfl, rfl, rfl, by decide +kernel, rfl, by decide +kernel, by decide +kernel⟩
abbrev S_added : Stmt := topS 5
abbrev N_added : List Str := ["group", "member", "other", "one", "two", "modulus"]
theorem SC_added : FnScope N_added ["group", "member", "other"] (defScope S_added) := ⟨rfl, rfl, rfl, by decide +kernel, rfl, by decide +kernel, by decide +kernel⟩
abbrev S_backs_of : Stmt := topS 7
abbrev N_backs_of : List Str := ["group", "members", "mark", "places", "found", "place", "member"]
theorem SC_backs_of : FnScope N_backs_of ["group", "members", "mark"] (defScope S_backs_of) := ⟨rfl, rfl, rfl, by decide +kernel, rfl, by decide +kernel, by decide +kernel⟩
abbrev S_room_strengths : Stmt := topS 8
abbrev N_room_strengths : List Str := ["card", "group", "marks", "members", "found", "tables", "backs", "mark", "goals", "room", "own", "cell", "back", "left", "table", "goal", "one", "at"]
theorem SC_room_strengths : FnScope N_room_strengths ["card", "group", "marks"] (defScope S_room_strengths) := ⟨rfl, rfl, rfl, by decide +kernel, rfl, by decide +kernel, by decide +kernel⟩
abbrev S__law_stock : Stmt := topS 10
abbrev N__law_stock : List Str := ["_law_script", "_law_flat", "_law_cell"]
theorem SC__law_stock : FnScope N__law_stock ["_law_script"] (defScope S__law_stock) := ⟨rfl, rfl, rfl, by decide +kernel, rfl, by decide +kernel, by decide +kernel⟩
abbrev S__law_draw : Stmt := topS 11
abbrev N__law_draw : List Str := ["_law_stock_here", "_law_size", "_law_great", "_law_turn", "_law_cell", "_law_blend"]
theorem SC__law_draw : FnScope N__law_draw ["_law_stock_here", "_law_size"] (defScope S__law_draw) := ⟨rfl, rfl, rfl, by decide +kernel, rfl, by decide +kernel, by decide +kernel⟩
abbrev S__law_pick : Stmt := topS 12
abbrev N__law_pick : List Str := ["_law_stock_here", "_law_row"]
theorem SC__law_pick : FnScope N__law_pick ["_law_stock_here", "_law_row"] (defScope S__law_pick) := ⟨rfl, rfl, rfl, by decide +kernel, rfl, by decide +kernel, by decide +kernel⟩
abbrev S__law_members : Stmt := topS 13
abbrev N__law_members : List Str := ["_law_sizes", "_law_found", "_law_size", "_law_longer", "_law_item", "_law_k"]
theorem SC__law_members : FnScope N__law_members ["_law_sizes"] (defScope S__law_members) := ⟨rfl, rfl, rfl, by decide +kernel, rfl, by decide +kernel, by decide +kernel⟩
abbrev S__law_group : Stmt := topS 14
abbrev N__law_group : List Str := ["_law_stock_here", "_law_ones"]
theorem SC__law_group : FnScope N__law_group ["_law_stock_here"] (defScope S__law_group) := ⟨rfl, rfl, rfl, by decide +kernel, rfl, by decide +kernel, by decide +kernel⟩
abbrev S__law_element : Stmt := topS 15
abbrev N__law_element : List Str := ["_law_stock_here", "_law_group_here", "_law_modulus"]
theorem SC__law_element : FnScope N__law_element ["_law_stock_here", "_law_group_here"] (defScope S__law_element) := ⟨rfl, rfl, rfl, by decide +kernel, rfl, by decide +kernel, by decide +kernel⟩
abbrev S__law_card : Stmt := topS 16
abbrev N__law_card : List Str := ["_law_stock_here", "_law_most", "_law_tops", "_law_count", "_law_turn", "_law_top"]
theorem SC__law_card : FnScope N__law_card ["_law_stock_here", "_law_most"] (defScope S__law_card) := ⟨rfl, rfl, rfl, by decide +kernel, rfl, by decide +kernel, by decide +kernel⟩
abbrev S__law_states : Stmt := topS 17
abbrev N__law_states : List Str := ["_law_card_here", "_law_top"]
theorem SC__law_states : FnScope N__law_states ["_law_card_here"] (defScope S__law_states) := ⟨rfl, rfl, rfl, by decide +kernel, rfl, by decide +kernel, by decide +kernel⟩
abbrev S__law_turned : Stmt := topS 18
abbrev N__law_turned : List Str := ["_law_stock_here", "_law_size", "_law_rest", "_law_found", "_law_turn"]
theorem SC__law_turned : FnScope N__law_turned ["_law_stock_here", "_law_size"] (defScope S__law_turned) := ⟨rfl, rfl, rfl, by decide +kernel, rfl, by decide +kernel, by decide +kernel⟩
abbrev S__law_divisor : Stmt := topS 19
abbrev N__law_divisor : List Str := ["_law_a", "_law_b", "_law_turn"]
theorem SC__law_divisor : FnScope N__law_divisor ["_law_a", "_law_b"] (defScope S__law_divisor) := ⟨rfl, rfl, rfl, by decide +kernel, rfl, by decide +kernel, by decide +kernel⟩
abbrev S__law_is_carried : Stmt := topS 20
abbrev N__law_is_carried : List Str := ["_law_stock_here", "_law_card_here", "_law_group_here", "_law_marks", "_law_told", "_law_order", "_law_other_card", "_law_other_marks", "_law_at", "_law_found", "_law_known", "_law_space", "_law_many"]
theorem SC__law_is_carried : FnScope N__law_is_carried ["_law_stock_here", "_law_card_here", "_law_group_here", "_law_marks", "_law_told"] (defScope S__law_is_carried) := ⟨rfl, rfl, rfl, by decide +kernel, rfl, by decide +kernel, by decide +kernel⟩
abbrev S__law_units : Stmt := topS 21
abbrev N__law_units : List Str := ["_law_stock_here", "_law_group_here", "_law_marks", "_law_units_here", "_law_modulus", "_law_k", "_law_found", "_law_mark", "_law_a", "_law_unit"]
theorem SC__law_units : FnScope N__law_units ["_law_stock_here", "_law_group_here", "_law_marks"] (defScope S__law_units) := ⟨rfl, rfl, rfl, by decide +kernel, rfl, by decide +kernel, by decide +kernel⟩
abbrev S__law_sheared : Stmt := topS 22
abbrev N__law_sheared : List Str := ["_law_group_here", "_law_marks", "_law_mark"]
theorem SC__law_sheared : FnScope N__law_sheared ["_law_group_here", "_law_marks"] (defScope S__law_sheared) := ⟨rfl, rfl, rfl, by decide +kernel, rfl, by decide +kernel, by decide +kernel⟩
abbrev S_law : Stmt := topS 23
abbrev N_law : List Str := ["_law_script", "_law_stock_here", "_law_turn", "_law_group_here", "_law_card_here", "_law_marks", "_law_cell", "_law_told", "_law_order", "_law_other_group", "_law_at", "_law_turned_here", "_law_mark", "_law_found", "_law_zero"]
theorem SC_law : FnScope N_law ["_law_script"] (defScope S_law) := ⟨rfl, rfl, rfl, by decide +kernel, rfl, by decide +kernel, by decide +kernel⟩
structure Adr where
  a_states : Addr
  d_states : FuncData
  a_lengthened : Addr
  d_lengthened : FuncData
  a_group_members : Addr
  d_group_members : FuncData
  a_added : Addr
  d_added : FuncData
  a_backs_of : Addr
  d_backs_of : FuncData
  a_room_strengths : Addr
  d_room_strengths : FuncData
  a__law_stock : Addr
  d__law_stock : FuncData
  a__law_draw : Addr
  d__law_draw : FuncData
  a__law_pick : Addr
  d__law_pick : FuncData
  a__law_members : Addr
  d__law_members : FuncData
  a__law_group : Addr
  d__law_group : FuncData
  a__law_element : Addr
  d__law_element : FuncData
  a__law_card : Addr
  d__law_card : FuncData
  a__law_states : Addr
  d__law_states : FuncData
  a__law_turned : Addr
  d__law_turned : FuncData
  a__law_divisor : Addr
  d__law_divisor : FuncData
  a__law_is_carried : Addr
  d__law_is_carried : FuncData
  a__law_units : Addr
  d__law_units : FuncData
  a__law_sheared : Addr
  d__law_sheared : FuncData
  a_law : Addr
  d_law : FuncData
def Adr.T (_A : Adr) : List (Addr × Nat) := []
structure Tx (K : PySem.W.Frag) (mg : Str → Option Value) (A : Adr) (base : Heap) : Prop where
  m_enumerate : mg "enumerate" = none
  m_int : mg "int" = none
  m_isinstance : mg "isinstance" = none
  m_len : mg "len" = none
  m_list : mg "list" = none
  m_max : mg "max" = none
  m_min : mg "min" = none
  m_range : mg "range" = none
  m_repr : mg "repr" = none
  m_sum : mg "sum" = none
  m_tuple : mg "tuple" = none
  m_zip : mg "zip" = none
  F_states : Fun K "states" "states" S_states A.a_states A.d_states
  g_states : mg "states" = some (.ref A.a_states)
  b_states : Binds K A.d_states ["card"] []
  F_lengthened : Fun K "lengthened" "lengthened" S_lengthened A.a_lengthened A.d_lengthened
  g_lengthened : mg "lengthened" = some (.ref A.a_lengthened)
  b_lengthened : Binds K A.d_lengthened ["rows", "many"] []
  F_group_members : Fun K "group_members" "group_members" S_group_members A.a_group_members A.d_group_members
  g_group_members : mg "group_members" = some (.ref A.a_group_members)
  b_group_members : Binds K A.d_group_members ["group"] []
  F_added : Fun K "added" "added" S_added A.a_added A.d_added
  g_added : mg "added" = some (.ref A.a_added)
  b_added : Binds K A.d_added ["group", "member", "other"] []
  F_backs_of : Fun K "backs_of" "backs_of" S_backs_of A.a_backs_of A.d_backs_of
  g_backs_of : mg "backs_of" = some (.ref A.a_backs_of)
  b_backs_of : Binds K A.d_backs_of ["group", "members", "mark"] []
  F_room_strengths : Fun K "room_strengths" "room_strengths" S_room_strengths A.a_room_strengths A.d_room_strengths
  g_room_strengths : mg "room_strengths" = some (.ref A.a_room_strengths)
  b_room_strengths : Binds K A.d_room_strengths ["card", "group", "marks"] []
  F__law_stock : Fun K "_law_stock" "_law_stock" S__law_stock A.a__law_stock A.d__law_stock
  g__law_stock : mg "_law_stock" = some (.ref A.a__law_stock)
  b__law_stock : Binds K A.d__law_stock ["_law_script"] []
  F__law_draw : Fun K "_law_draw" "_law_draw" S__law_draw A.a__law_draw A.d__law_draw
  g__law_draw : mg "_law_draw" = some (.ref A.a__law_draw)
  b__law_draw : Binds K A.d__law_draw ["_law_stock_here", "_law_size"] []
  F__law_pick : Fun K "_law_pick" "_law_pick" S__law_pick A.a__law_pick A.d__law_pick
  g__law_pick : mg "_law_pick" = some (.ref A.a__law_pick)
  b__law_pick : Binds K A.d__law_pick ["_law_stock_here", "_law_row"] []
  F__law_members : Fun K "_law_members" "_law_members" S__law_members A.a__law_members A.d__law_members
  g__law_members : mg "_law_members" = some (.ref A.a__law_members)
  b__law_members : Binds K A.d__law_members ["_law_sizes"] []
  F__law_group : Fun K "_law_group" "_law_group" S__law_group A.a__law_group A.d__law_group
  g__law_group : mg "_law_group" = some (.ref A.a__law_group)
  b__law_group : Binds K A.d__law_group ["_law_stock_here"] []
  F__law_element : Fun K "_law_element" "_law_element" S__law_element A.a__law_element A.d__law_element
  g__law_element : mg "_law_element" = some (.ref A.a__law_element)
  b__law_element : Binds K A.d__law_element ["_law_stock_here", "_law_group_here"] []
  F__law_card : Fun K "_law_card" "_law_card" S__law_card A.a__law_card A.d__law_card
  g__law_card : mg "_law_card" = some (.ref A.a__law_card)
  b__law_card : Binds K A.d__law_card ["_law_stock_here", "_law_most"] []
  F__law_states : Fun K "_law_states" "_law_states" S__law_states A.a__law_states A.d__law_states
  g__law_states : mg "_law_states" = some (.ref A.a__law_states)
  b__law_states : Binds K A.d__law_states ["_law_card_here"] []
  F__law_turned : Fun K "_law_turned" "_law_turned" S__law_turned A.a__law_turned A.d__law_turned
  g__law_turned : mg "_law_turned" = some (.ref A.a__law_turned)
  b__law_turned : Binds K A.d__law_turned ["_law_stock_here", "_law_size"] []
  F__law_divisor : Fun K "_law_divisor" "_law_divisor" S__law_divisor A.a__law_divisor A.d__law_divisor
  g__law_divisor : mg "_law_divisor" = some (.ref A.a__law_divisor)
  b__law_divisor : Binds K A.d__law_divisor ["_law_a", "_law_b"] []
  F__law_is_carried : Fun K "_law_is_carried" "_law_is_carried" S__law_is_carried A.a__law_is_carried A.d__law_is_carried
  g__law_is_carried : mg "_law_is_carried" = some (.ref A.a__law_is_carried)
  b__law_is_carried : Binds K A.d__law_is_carried ["_law_stock_here", "_law_card_here", "_law_group_here", "_law_marks", "_law_told"] []
  F__law_units : Fun K "_law_units" "_law_units" S__law_units A.a__law_units A.d__law_units
  g__law_units : mg "_law_units" = some (.ref A.a__law_units)
  b__law_units : Binds K A.d__law_units ["_law_stock_here", "_law_group_here", "_law_marks"] []
  F__law_sheared : Fun K "_law_sheared" "_law_sheared" S__law_sheared A.a__law_sheared A.d__law_sheared
  g__law_sheared : mg "_law_sheared" = some (.ref A.a__law_sheared)
  b__law_sheared : Binds K A.d__law_sheared ["_law_group_here", "_law_marks"] []
  F_law : Fun K "law" "law" S_law A.a_law A.d_law
  g_law : mg "law" = some (.ref A.a_law)
  b_law : Binds K A.d_law ["_law_script"] []
def kb_room_strengths_0_marks_group_card_g : List Value → List Value → List Value := fun us ws => match us, ws with
  | [], [b0, b1, b2] => [b2, b1, b0]
  | _, _ => []
def kb_room_strengths_0_marks_group_card_V : List V → List V → List V := fun us ws => match us, ws with
  | [], [b0, b1, b2] => [b2, b1, b0]
  | _, _ => []
def kb_room_strengths_0_marks_group_card_S : List SV → List SV → List SV := fun us ws => match us, ws with
  | [], [b0, b1, b2] => [b2, b1, b0]
  | _, _ => []
theorem kb_room_strengths_0_marks_group_card {K : PySem.W.Frag} {f : Addr} {fd : FuncData} (F : Fun K "room_strengths" "room_strengths" S_room_strengths f fd) : KBd K fd ["card", "group", "marks"] ["marks", "group", "card"] 0 kb_room_strengths_0_marks_group_card_g :=
  kbd F fun _ _ _ _ _ _ us ws h1 h2 => match us, ws, h1, h2 with | [], [_, _, _], _, _ => rfl
theorem kb_room_strengths_0_marks_group_card_rel : KRel kb_room_strengths_0_marks_group_card_V kb_room_strengths_0_marks_group_card_g := fun vs us zs ws r1 r2 => by
  cases r1 with
  | nil =>
    cases r2 with
    | nil => exact .nil
    | cons k0 k0_ =>
      cases k0_ with
      | nil => exact .nil
      | cons k1 k1_ =>
        cases k1_ with
        | nil => exact .nil
        | cons k2 k2_ =>
          cases k2_ with
          | nil =>
            exact (.cons k2 (.cons k1 (.cons k0 .nil)))
          | cons _ _ => exact .nil
  | cons _ _ => exact .nil
theorem kb_room_strengths_0_marks_group_card_s : SRel kb_room_strengths_0_marks_group_card_V kb_room_strengths_0_marks_group_card_S := fun K g H svs zvs vs zs r1 r2 => by
  cases r1 with
  | nil =>
    cases r2 with
    | nil => exact ⟨.nil, fun _ _ sv hm => by cases hm⟩
    | cons k0 k0_ =>
      cases k0_ with
      | nil => exact ⟨.nil, fun _ _ sv hm => by cases hm⟩
      | cons k1 k1_ =>
        cases k1_ with
        | nil => exact ⟨.nil, fun _ _ sv hm => by cases hm⟩
        | cons k2 k2_ =>
          cases k2_ with
          | nil =>
            refine ⟨(.cons k2 (.cons k1 (.cons k0 .nil))), fun h1 h2 sv hm => ?_⟩
            simp only [kb_room_strengths_0_marks_group_card_S, List.mem_cons, List.not_mem_nil, or_false] at hm
            rcases hm with rfl | rfl | rfl
            · exact h2 _ (by simp)
            · exact h2 _ (by simp)
            · exact h2 _ (by simp)
          | cons _ _ => exact ⟨.nil, fun _ _ sv hm => by cases hm⟩
  | cons _ _ => exact ⟨.nil, fun _ _ sv hm => by cases hm⟩
theorem kb_room_strengths_0_marks_group_card_len (zs : List V) (h : zs.length = 3) : (kb_room_strengths_0_marks_group_card_V [] zs).length = 3 := match zs, h with | [_, _, _], _ => rfl
section
variable {P : Program} {w : World} {K : PySem.W.Frag} {mg : Str → Option Value} {base : Heap} {A : Adr}
def C__law_draw : TF := drawC 1
theorem ok__law_draw (X : Tx K mg A base) : FnG P w K mg base CX0 1 A.a__law_draw A.d__law_draw ["_law_stock_here", "_law_size"] (spD ⟨K, w⟩ (ZPu A.T) 2 C__law_draw) := by
  refine funG X.F__law_draw SC__law_draw (fun vs H Q E h => h.1) fun cdv Ar outer s H vs Q E hg hr h => ?_
  have hu : (Ar.deeper (envOfC "_law_draw" (defScope S__law_draw) s.heap.objs.size A.a__law_draw cdv)).units + 64 < cLine := by have := hr.un; omega
  have nd := SC__law_draw.nd
  refine ⟨_, pss_cons (ps_if (pt_cmpR (ox_ne hu) (pe_ix ix_list (pvn 0) pe_int fun _ _ => rfl) (pe_lst pa_nil) (nomark _))
      (pss_cons (ps_asg (pe_bm0 PySem.F.plainAttrs_list PySem.F.slot_list_pop PySem.F.type_list_pop mt_pop (pe_ix ix_list (pvn 0) pe_int fun _ _ => rfl)) (pgn 2 nd))
      (pss_cons (ps_if (pt_cmpR ox_ge (pvn 2) (pvn 1) (nomark _))
        (pss_one (ps_expr (pe_bm PySem.F.plainAttrs_list PySem.F.slot_list_append PySem.F.type_list_append mt_append (pe_ix ix_list (pvn 0) pe_int fun _ _ => rfl) (pa_cons (pe_op ox_fdiv (pvn 2) (pvn 1)) pa_nil)))) pss_nil)
      (pss_one (ps_ret (pe_op ox_mod (pe_callTy c_int (by rfl) X.m_int (by decide +kernel) (pa_cons (pvn 2) pa_nil)) (pvn 1)))))) pss_nil)
    (pss_cons (ps_asg (pe_op ox_add (pe_ix ix_list (pvn 0) pe_int fun _ _ => rfl) pe_int) (pg_sub (pvn 0) pe_int set_list))
    (pss_cons (ps_asg (pe_ix ix_list (pvn 0) pe_int fun _ _ => rfl) (pgn 3 nd))
    (pss_cons (ps_asg (pe_op ox_mod (pe_callTy c_int (by rfl) X.m_int (by decide +kernel) (pa_cons (pe_ix ix_list (pe_ix ix_list (pvn 0) pe_int fun _ _ => rfl)
        (pe_op ox_mod (pe_callTy c_int (by rfl) X.m_int (by decide +kernel) (pa_cons (pvn 3) pa_nil)) (pe_callB c_len (by rfl) X.m_len (by decide +kernel) (pa_cons (pe_ix ix_list (pvn 0) pe_int fun _ _ => rfl) pa_nil))) fun _ _ => rfl) pa_nil)) pe_int) (pgn 4 nd))
    (pss_cons (ps_asg (pe_op ox_mod (pe_callTy c_int (by rfl) X.m_int (by decide +kernel) (pa_cons (pe_op ox_add (pe_op ox_add (pe_op ox_mul (pvn 4) pe_int)
        (pe_op ox_mul (pe_op ox_mod (pe_callTy c_int (by rfl) X.m_int (by decide +kernel) (pa_cons (pe_ix ix_list (pvn 0) pe_int fun _ _ => rfl) pa_nil)) pe_int) pe_int)) (pe_op ox_mul (pvn 3) pe_int)) pa_nil)) pe_int) (pgn 5 nd))
    (pss_cons (ps_asg (pe_op ox_mod (pe_callTy c_int (by rfl) X.m_int (by decide +kernel) (pa_cons (pe_op ox_add (pe_op ox_add (pe_op ox_mul (pvn 5) (pvn 5)) (pe_op ox_mul (pvn 3) pe_int)) (pvn 4)) pa_nil)) pe_int) (pgn 5 nd))
    (pss_one (ps_ret (pe_op ox_mod (pe_op ox_fdiv (pe_op ox_mod (pe_callTy c_int (by rfl) X.m_int (by decide +kernel) (pa_cons (pe_op ox_add (pe_op ox_mul (pvn 5) pe_int) (pe_op ox_mul (pvn 3) pe_int)) pa_nil)) pe_int) pe_int) (pvn 1))))))))), ?_⟩
  obtain ⟨a, n, g, rfl, hz, G, hn, hn2, k⟩ := draw_in h
  obtain ⟨bs, ha, fl⟩ := box_of G hz (show shp 1 = some [.l 2, .l 3, .i, .i] from rfl)
  match bs, fl, ha with
  | [.ref gr, .ref fa, .int sm, .int cn], ⟨zg, zf, _⟩, ha =>
  obtain ⟨gs, hgl, hgs⟩ := ints_of_two G zg
  obtain ⟨fs, hfn, hfs⟩ := ints_of_three G zf
  have ne : ∀ {b : Addr} {p : Addr} {o : HO} {u : HO}, H p = none → H b = some o → upd H p u b = some o := fun hp e => by rw [upd_ne (ne_of_none e hp)]; exact e
  have dab : a ≠ gr := fun e => by subst e; rw [hz] at zg; cases zg
  have daf : a ≠ fa := fun e => by subst e; rw [hz] at zf; cases zf
  have dbf : gr ≠ fa := fun e => by subst e; rw [zg] at zf; cases zf
  dsimp only [tSeq, tIfS, tTest, tOp, tVar, tC, tLst, tNil, tAsg, tBM0, tBM, gName, gSub, tDrop, tCons, tRet, tCB, tNext]
  refine ⟨.ref a, rfl, rIx0 ha 0 rfl ⟨Nat.zero_le _, fun p hp => ?_⟩⟩
  have ha1 := ne (u := .lst []) hp ha
  have hg1 := ne (u := .lst []) hp hgs
  have hf1 := ne (u := .lst []) hp hfs
  have s1 : Step A.T g H (upd H p (.lst [])) := .laid G hp
  refine rNeNil hg1 upd_same ⟨_, rfl, ?_⟩
  clear hgs hfs ha ne
  generalize upd H p (.lst []) = H1 at ha1 hg1 hf1 s1
  rcases List.eq_nil_or_concat gs with rfl | ⟨ini, l, rfl⟩
  · refine iteF ?_
    refine ⟨.ref a, rfl, rIx0 ha1 3 rfl (rOi (cn + 1) (fun _ q => q) ⟨.ref a, rfl, a, _, 3, 3, rfl, rfl, ha1, rfl, ?_⟩)⟩
    have s2 := s1.trans (.region s1.ok hz ha1 (o' := .lst [.ref gr, .ref fa, .int sm, .int (cn + 1)]) (.inl (.inr (.inr (.inl ⟨_, _, rfl, rfl, zg, zf, True.intro⟩)))))
    have ha2 : upd H1 a (.lst [.ref gr, .ref fa, .int sm, .int (cn + 1)]) a = some (.lst [.ref gr, .ref fa, .int sm, .int (cn + 1)]) := upd_same
    have hf2 : upd H1 a (.lst [.ref gr, .ref fa, .int sm, .int (cn + 1)]) fa = some (.lst (fs.map V.int)) := by rw [upd_ne (Ne.symm daf)]; exact hf1
    dsimp only [List.set]
    generalize upd H1 a (.lst [.ref gr, .ref fa, .int sm, .int (cn + 1)]) = H2 at s2 ha2 hf2
    generalize cn + 1 = tn at ha2
    have lp : (0 : Int) < (fs.length : Nat) := by
      cases fs with
      | nil => exact absurd rfl hfn
      | cons _ _ => simp only [List.length_cons]; omega
    obtain ⟨c, hc⟩ := atInt (ns := fs) (i := tn % (fs.length : Nat)) (Int.emod_nonneg _ (by omega)) (Int.emod_lt_of_pos _ lp)
    refine ⟨.ref a, rfl, rIx0 ha2 3 rfl ?_⟩
    refine ⟨.ref a, rfl, rIx0 ha2 1 rfl ⟨_, rfl, rCi tn (fun _ q => q) ⟨.ref a, rfl, rIx0 ha2 1 rfl (rClen hf2 (rOi (tn % (fs.length : Nat)) (fun _ q => ⟨lp, q⟩) (rIx0 hf2 _ hc (rCi c (fun _ q => q) (rOi (c % 1000000007) (fun _ q => ⟨by decide, q⟩) ?_)))))⟩⟩⟩
    generalize hcell : c % 1000000007 = cell
    refine ⟨_, rfl, rOi (cell * 48271) (fun _ q => ⟨mulOk_r (by decide) (by decide), q⟩) ⟨.ref a, rfl, rIx0 ha2 2 rfl (rCi sm (fun _ q => q) (rOi (sm % 998244353) (fun _ q => ⟨by decide, q⟩) (rOi _ (fun _ q => ⟨mulOk_r (by decide) (by decide), q⟩) (rOi _ (fun _ q => q) ⟨_, rfl, rOi _ (fun _ q => ⟨mulOk_r (by decide) (by decide), q⟩) (rOi _ (fun _ q => q) (rCi _ (fun _ q => q) (rOi _ (fun _ q => ⟨by decide, q⟩) ?_)))⟩))))⟩⟩
    generalize hbl : (cell * 48271 + sm % 998244353 * 69621 + tn * 2654435761) % 4294967291 = bl
    have b1 : 0 ≤ bl := by rw [← hbl]; exact Int.emod_nonneg _ (by decide)
    have b2 : bl < 4294967291 := by rw [← hbl]; exact Int.emod_lt_of_pos _ (by decide)
    refine ⟨_, rfl, _, rfl, rOi (bl * bl) (fun _ q => ⟨mulOk_r (by omega) (by omega), q⟩) ⟨_, rfl, rOi _ (fun _ q => ⟨mulOk_r (by decide) (by decide), q⟩) (rOi _ (fun _ q => q) ⟨_, rfl, rOi _ (fun _ q => q) (rCi _ (fun _ q => q) (rOi _ (fun _ q => ⟨by decide, q⟩) ?_))⟩)⟩⟩
    refine ⟨_, rfl, rOi _ (fun _ q => ⟨mulOk_r (by decide) (by decide), q⟩) ⟨_, rfl, rOi _ (fun _ q => ⟨mulOk_r (by decide) (by decide), q⟩) (rOi _ (fun _ q => q) (rCi _ (fun _ q => q) (rOi _ (fun _ q => ⟨by decide, q⟩) (rOi _ (fun _ q => ⟨by decide, fdiv_small (by decide), q⟩) ⟨_, rfl, rOi _ (fun _ q => ⟨hn, q⟩) ?_⟩))))⟩⟩
    exact k _ _ (Int.emod_nonneg _ (by omega)) (Int.emod_lt_of_pos _ hn) s2
  · rw [List.concat_eq_append] at hg1 hgl
    have hb : (!(ini.concat l).isEmpty) = true := by simp
    show if (!(ini.concat l).isEmpty) = true then _ else _
    rw [if_pos hb]
    have hil : ini.length < 1000 := by rw [List.length_append, List.length_singleton] at hgl; omega
    have ty1 : tyV K "list" (.ref gr) H1 := .inl ⟨rfl, _, SqL.of hg1⟩
    have hlast : ((ini ++ [l]).map V.int)[((ini ++ [l]).map V.int).length - 1]? = some (.int l) := by simp
    have hdl : ((ini ++ [l]).map V.int).dropLast = ini.map V.int := by rw [List.map_append, List.map_singleton, List.dropLast_concat]
    refine ⟨.ref a, rfl, rIx0 ha1 0 rfl ⟨ty1, gr, _, .int l, rfl, rfl, hg1, hlast, ?_⟩⟩
    rw [hdl]
    have s2 := s1.trans (.region s1.ok zg hg1 (o' := .lst (ini.map V.int)) (.inl (.inl ⟨rfl, ini, by omega, rfl⟩)))
    have hg2 : upd H1 gr (.lst (ini.map V.int)) gr = some (.lst (ini.map V.int)) := upd_same
    have ha2 : upd H1 gr (.lst (ini.map V.int)) a = _ := (upd_ne dab).trans ha1
    generalize upd H1 gr (.lst (ini.map V.int)) = H2 at s2 hg2 ha2
    refine ⟨_, rfl, _, rfl, rOb (decide (n ≤ l)) (fun _ q => q) ⟨_, rfl, ?_⟩⟩
    have fin : ∀ H', Step A.T g H H' → (∃ v, ((L2.start N__law_draw [.ref a, .int n]).set 2 (some (.int l)))[2]? = some (some v) ∧ rC1 ⟨K, w⟩ intX [v] H' fun x H1 => ∃ v, ((L2.start N__law_draw [.ref a, .int n]).set 2 (some (.int l)))[1]? = some (some v) ∧ rO ⟨K, w⟩ modX x v H1 Q) := fun H' s =>
      ⟨_, rfl, rCi l (fun _ q => q) ⟨_, rfl, rOi (l % n) (fun _ q => ⟨hn, q⟩) (k _ _ (Int.emod_nonneg _ (by omega)) (Int.emod_lt_of_pos _ hn) s)⟩⟩
    by_cases hge : n ≤ l
    · rw [decide_eq_true hge]
      refine iteT ?_
      have ty2 : tyV K "list" (.ref gr) H2 := .inl ⟨rfl, _, SqL.of hg2⟩
      refine ⟨.ref a, rfl, rIx0 ha2 0 rfl ⟨ty2, _, rfl, _, rfl, rOi (l / n) (fun _ q => ⟨hn, fdiv_small hn2, q⟩) ⟨gr, _, _, rfl, rfl, hg2, ?_, ?_⟩⟩⟩
      · rw [List.length_map]
        have : (1000 : Nat) ≤ sizeLine := by decide
        omega
      · refine fin _ (s2.trans (.region s2.ok zg hg2 (.inl (.inl ⟨rfl, ini ++ [l / n], ?_, ?_⟩))))
        · rw [List.length_append, List.length_singleton]; omega
        · rw [List.map_append, List.map_singleton]
    · rw [decide_eq_false hge]
      refine iteF ?_
      exact fin _ s2

def T__law_pick : TSD := (t_ret (t_op ixG (t_lname 1) (t_l (t_f (t_call C__law_draw (t_aconsR (t_name 0) (t_acons (t_f (t_c1 lenY (t_lname 1))) t_anil)))))))
def C__law_pick : TF := runD T__law_pick N__law_pick 2
theorem ok__law_pick (X : Tx K mg A base) : FnG P w K mg base CX0 2 A.a__law_pick A.d__law_pick ["_law_stock_here", "_law_row"] (spD ⟨K, w⟩ (ZPu A.T) 2 C__law_pick) := by
  have G__law_draw := ok__law_draw (P := P) (w := w) (base := base) X
  refine fnD X.F__law_pick SC__law_pick fun cdv Ar outer s H E hgd hr => ?_
  have hu : (Ar.deeper (envOfC "_law_pick" (defScope S__law_pick) s.heap.objs.size A.a__law_pick cdv)).units + 64 < cLine := by have := hr.un; omega
  exact (dss_one (ds_ret (de_ixG hu (dln 1) (dl_v (dv_e (de_call G__law_draw hgd (hr.mono (by decide)) (by rfl) X.g__law_draw X.F__law_draw.kp X.b__law_draw (fun _ _ h => h.1) (da_consR (den 0) (da_cons (dv_e (de_b1 c_lenY (by rfl) X.m_len (by decide +kernel) (dln 1))) da_nil))))))))
def T__law_card : TSD := (t_seq (t_par 2 3 (t_lstd t_anil) (t_v (t_c (.int 1))))
      (t_seq (t_for (t_wrng1 (t_acons (t_f (t_op addZ (t_l (t_c (.int 1))) (t_l (t_f (t_call C__law_draw (t_aconsR (t_name 0) (t_acons (t_c (.int 4)) t_anil))))))) t_anil)) (g_name 4) (t_seq (t_asg (t_call C__law_pick (t_aconsR (t_name 0) (t_acons (t_f (t_lstd (t_acons (t_c (.int 1)) (t_acons (t_c (.int 1)) (t_acons (t_c (.int 1)) (t_acons (t_c (.int 2)) (t_acons (t_c (.int 2)) (t_acons (t_c (.int 3)) t_anil)))))))) t_anil))) (g_name 5))
      (t_if (t_tst (t_op leX (t_l (t_f (t_op mulZ (t_lname 3) (t_l (t_f (t_op addZ (t_lname 5) (t_l (t_c (.int 1))))))))) (t_lname 1))) (t_seq (t_drop (t_v (t_append 2 (t_f (t_name 5)))))
      (t_asg (t_op mulZ (t_lname 3) (t_l (t_f (t_op addZ (t_lname 5) (t_l (t_c (.int 1))))))) (g_name 3))) t_next)))
      (t_ret (t_c1 tupleX (t_lname 2)))))
def C__law_card : TF := runD T__law_card N__law_card 2
theorem ok__law_card (X : Tx K mg A base) : FnG P w K mg base CX0 3 A.a__law_card A.d__law_card ["_law_stock_here", "_law_most"] (spD ⟨K, w⟩ (ZPu A.T) 2 C__law_card) := by
  have G__law_draw := ok__law_draw (P := P) (w := w) (base := base) X
  have G__law_pick := ok__law_pick (P := P) (w := w) (base := base) X
  refine fnD X.F__law_card SC__law_card fun cdv Ar outer s H E hgd hr => ?_
  have hu : (Ar.deeper (envOfC "_law_card" (defScope S__law_card) s.heap.objs.size A.a__law_card cdv)).units + 64 < cLine := by have := hr.un; omega
  exact (dss_cons (dspar 2 3 SC__law_card.nd (de_lst da_nil) (de_v dv_int))
      (dss_cons (ds_for PassesOwn.never rfl (di_range1 (by rfl) X.m_range (da_cons (dv_e (de_op oz_add (dl_v dv_int) (dl_v (dv_e (de_call G__law_draw hgd (hr.mono (by decide)) (by rfl) X.g__law_draw X.F__law_draw.kp X.b__law_draw (fun _ _ h => h.1) (da_consR (den 0) (da_cons dv_int da_nil))))))) da_nil)) (dgm 4 SC__law_card.nd) (dss_cons (ds_asg (de_call G__law_pick hgd (hr.mono (by decide)) (by rfl) X.g__law_pick X.F__law_pick.kp X.b__law_pick (fun _ _ h => h.1) (da_consR (den 0) (da_cons (dv_e (de_lst (da_cons dv_int (da_cons dv_int (da_cons dv_int (da_cons dv_int (da_cons dv_int (da_cons dv_int da_nil)))))))) da_nil))) (dgm 5 SC__law_card.nd))
      (dss_one (ds_if (dt_cmp ox_le (dl_v (dv_e (de_op oz_mul (dln 3) (dl_v (dv_e (de_op oz_add (dln 5) (dl_v dv_int))))))) (dln 1)) (dss_cons (ds_expr (de_v (dvap 2 (dv_e (den 5)))))
      (dss_one (ds_asg (de_op oz_mul (dln 3) (dl_v (dv_e (de_op oz_add (dln 5) (dl_v dv_int))))) (dgm 3 SC__law_card.nd)))) dss_nil))))
      (dss_one (ds_ret (de_t1 c_tuple (by rfl) X.m_tuple (by decide +kernel) (dln 2))))))
def T__law_element : TSD := (t_ret (t_c1 tupleX (t_l (t_f (t_lc [2] (t_wany (t_f (t_name 1))) (g_name 2) t_yes (t_f (t_call C__law_draw (t_aconsR (t_name 0) (t_acons (t_f (t_name 2)) t_anil)))))))))
def C__law_element : TF := runD T__law_element N__law_element 2
theorem ok__law_element (X : Tx K mg A base) : FnG P w K mg base CX0 2 A.a__law_element A.d__law_element ["_law_stock_here", "_law_group_here"] (spD ⟨K, w⟩ (ZPu A.T) 2 C__law_element) := by
  have G__law_draw := ok__law_draw (P := P) (w := w) (base := base) X
  refine fnD X.F__law_element SC__law_element fun cdv Ar outer s H E hgd hr => ?_
  have hu : (Ar.deeper (envOfC "_law_element" (defScope S__law_element) s.heap.objs.size A.a__law_element cdv)).units + 64 < cLine := by have := hr.un; omega
  exact (dss_one (ds_ret (de_t1 c_tuple (by rfl) X.m_tuple (by decide +kernel) (dl_v (dv_e (de_lc (own := [("_law_modulus", 2)]) (vs := [2]) rfl SC__law_element.nd (di_any (dv_e (den 1))) (blkOk_by (own := [("_law_modulus", 2)]) (N := N__law_element) (sc := defScope S__law_element) (by decide +kernel)) rfl (fun _ _ _ _ _ => (dgb 2 SC__law_element.nd)) (fun _ _ _ _ _ => dts_nil) (fun _ _ _ _ _ => (dv_e (de_call G__law_draw hgd (hr.mono (by decide)) (by rfl) X.g__law_draw X.F__law_draw.kp X.b__law_draw (fun _ _ h => h.1) (da_consR (den 0) (da_cons (dv_e (den 2)) da_nil)))))))))))
def T__law_group : TSD := (t_seq (t_asg (t_lstd (t_acons (t_tupd (t_acons (t_c (.int 2)) t_anil)) (t_acons (t_tupd (t_acons (t_c (.int 3)) t_anil)) (t_acons (t_tupd (t_acons (t_c (.int 4)) t_anil)) (t_acons (t_tupd (t_acons (t_c (.int 5)) t_anil)) (t_acons (t_tupd (t_acons (t_c (.int 6)) t_anil)) (t_acons (t_tupd (t_acons (t_c (.int 7)) t_anil)) t_anil))))))) (g_name 1))
      (t_ret (t_call C__law_pick (t_aconsR (t_name 0) (t_acons (t_f (t_call C__law_pick (t_aconsR (t_name 0) (t_acons (t_f (t_lstd (t_acons (t_f (t_name 1)) (t_acons (t_f (t_name 1)) (t_acons (t_f (t_lstd (t_acons (t_tupd (t_acons (t_c (.int 2)) (t_acons (t_c (.int 2)) t_anil))) (t_acons (t_tupd (t_acons (t_c (.int 2)) (t_acons (t_c (.int 3)) t_anil))) (t_acons (t_tupd (t_acons (t_c (.int 3)) (t_acons (t_c (.int 2)) t_anil))) (t_acons (t_tupd (t_acons (t_c (.int 2)) (t_acons (t_c (.int 4)) t_anil))) (t_acons (t_tupd (t_acons (t_c (.int 3)) (t_acons (t_c (.int 3)) t_anil))) (t_acons (t_tupd (t_acons (t_c (.int 2)) (t_acons (t_c (.int 2)) (t_acons (t_c (.int 2)) t_anil)))) t_anil)))))))) t_anil))))) t_anil)))) t_anil)))))
def C__law_group : TF := runD T__law_group N__law_group 1
theorem ok__law_group (X : Tx K mg A base) : FnG P w K mg base CX0 3 A.a__law_group A.d__law_group ["_law_stock_here"] (spD ⟨K, w⟩ (ZPu A.T) 1 C__law_group) := by
  have G__law_pick := ok__law_pick (P := P) (w := w) (base := base) X
  refine fnD X.F__law_group SC__law_group fun cdv Ar outer s H E hgd hr => ?_
  have hu : (Ar.deeper (envOfC "_law_group" (defScope S__law_group) s.heap.objs.size A.a__law_group cdv)).units + 64 < cLine := by have := hr.un; omega
  exact (dss_cons (ds_asg (de_lst (da_cons (dv_tup (da_cons dv_int da_nil)) (da_cons (dv_tup (da_cons dv_int da_nil)) (da_cons (dv_tup (da_cons dv_int da_nil)) (da_cons (dv_tup (da_cons dv_int da_nil)) (da_cons (dv_tup (da_cons dv_int da_nil)) (da_cons (dv_tup (da_cons dv_int da_nil)) da_nil))))))) (dgm 1 SC__law_group.nd))
      (dss_one (ds_ret (de_call G__law_pick hgd (hr.mono (by decide)) (by rfl) X.g__law_pick X.F__law_pick.kp X.b__law_pick (fun _ _ h => h.1) (da_consR (den 0) (da_cons (dv_e (de_call G__law_pick hgd (hr.mono (by decide)) (by rfl) X.g__law_pick X.F__law_pick.kp X.b__law_pick (fun _ _ h => h.1) (da_consR (den 0) (da_cons (dv_e (de_lst (da_cons (dv_e (den 1)) (da_cons (dv_e (den 1)) (da_cons (dv_e (de_lst (da_cons (dv_tup (da_cons dv_int (da_cons dv_int da_nil))) (da_cons (dv_tup (da_cons dv_int (da_cons dv_int da_nil))) (da_cons (dv_tup (da_cons dv_int (da_cons dv_int da_nil))) (da_cons (dv_tup (da_cons dv_int (da_cons dv_int da_nil))) (da_cons (dv_tup (da_cons dv_int (da_cons dv_int da_nil))) (da_cons (dv_tup (da_cons dv_int (da_cons dv_int (da_cons dv_int da_nil)))) da_nil)))))))) da_nil))))) da_nil)))) da_nil))))))
def T__law_members : TSD := (t_seq (t_asg (t_lstd (t_acons (t_tupd t_anil) t_anil)) (g_name 1))
      (t_seq (t_for (t_wany (t_f (t_name 0))) (g_name 2) (t_seq (t_asg (t_lstd t_anil) (g_name 3))
      (t_seq (t_for (t_wany (t_f (t_name 1))) (g_name 4) (t_asg (t_op addZ (t_lname 3) (t_l (t_f (t_lc [5] (t_wrng1 (t_acons (t_f (t_name 2)) t_anil)) (g_name 5) t_yes (t_f (t_op addZ (t_lname 4) (t_l (t_tupd (t_acons (t_f (t_name 5)) t_anil))))))))) (g_name 3)))
      (t_asg (t_c1 listY (t_lname 3)) (g_name 1)))))
      (t_retn 1)))
def C__law_members : TF := runD T__law_members N__law_members 1
theorem ok__law_members (X : Tx K mg A base) : FnG P w K mg base CX0 1 A.a__law_members A.d__law_members ["_law_sizes"] (spD ⟨K, w⟩ (ZPu A.T) 1 C__law_members) := by
  refine fnD X.F__law_members SC__law_members fun cdv Ar outer s H E hgd hr => ?_
  have hu : (Ar.deeper (envOfC "_law_members" (defScope S__law_members) s.heap.objs.size A.a__law_members cdv)).units + 64 < cLine := by have := hr.un; omega
  exact (dss_cons (ds_asg (de_lst (da_cons (dv_tup da_nil) da_nil)) (dgm 1 SC__law_members.nd))
      (dss_cons (ds_for PassesOwn.never rfl (di_any (dv_e (den 0))) (dgm 2 SC__law_members.nd) (dss_cons (ds_asg (de_lst da_nil) (dgm 3 SC__law_members.nd))
      (dss_cons (ds_for PassesOwn.never rfl (di_any (dv_e (den 1))) (dgm 4 SC__law_members.nd) (dss_one (ds_asg (de_op oz_add (dln 3) (dl_v (dv_e (de_lc (own := [("_law_k", 5)]) (vs := [5]) rfl SC__law_members.nd (di_range1 (by rfl) X.m_range (da_cons (dv_e (den 2)) da_nil)) (blkOk_by (own := [("_law_k", 5)]) (N := N__law_members) (sc := defScope S__law_members) (by decide +kernel)) rfl (fun _ _ _ _ _ => (dgb 5 SC__law_members.nd)) (fun _ _ _ _ _ => dts_nil) (fun _ _ _ _ _ => (dv_e (de_op oz_add (dln 4) (dl_v (dv_tup (da_cons (dv_e (den 5)) da_nil)))))))))) (dgm 3 SC__law_members.nd))))
      (dss_one (ds_asg (de_t1 (c_listY rfl) (by rfl) X.m_list (by decide +kernel) (dln 3)) (dgm 1 SC__law_members.nd))))))
      (dss_one (dsrn 1))))
def T__law_states : TSD := (t_ret (t_call C__law_members (t_acons (t_f (t_lc [1] (t_wany (t_f (t_name 0))) (g_name 1) t_yes (t_f (t_op addZ (t_lname 1) (t_l (t_c (.int 1))))))) t_anil)))
def C__law_states : TF := runD T__law_states N__law_states 1
theorem ok__law_states (X : Tx K mg A base) : FnG P w K mg base CX0 2 A.a__law_states A.d__law_states ["_law_card_here"] (spD ⟨K, w⟩ (ZPu A.T) 1 C__law_states) := by
  have G__law_members := ok__law_members (P := P) (w := w) (base := base) X
  refine fnD X.F__law_states SC__law_states fun cdv Ar outer s H E hgd hr => ?_
  have hu : (Ar.deeper (envOfC "_law_states" (defScope S__law_states) s.heap.objs.size A.a__law_states cdv)).units + 64 < cLine := by have := hr.un; omega
  exact (dss_one (ds_ret (de_call G__law_members hgd (hr.mono (by decide)) (by rfl) X.g__law_members X.F__law_members.kp X.b__law_members (fun _ _ h => h.1) (da_cons (dv_e (de_lc (own := [("_law_top", 1)]) (vs := [1]) rfl SC__law_states.nd (di_any (dv_e (den 0))) (blkOk_by (own := [("_law_top", 1)]) (N := N__law_states) (sc := defScope S__law_states) (by decide +kernel)) rfl (fun _ _ _ _ _ => (dgb 1 SC__law_states.nd)) (fun _ _ _ _ _ => dts_nil) (fun _ _ _ _ _ => (dv_e (de_op oz_add (dln 1) (dl_v dv_int)))))) da_nil))))
def T__law_turned : TSD := (t_seq (t_par 2 3 (t_lrange (t_f (t_name 1))) (t_lstd t_anil))
      (t_seq (t_for (t_wrng1 (t_acons (t_f (t_name 1)) t_anil)) (g_name 4) (t_drop (t_v (t_append 3 (t_popAt 2 (t_f (t_call C__law_draw (t_aconsR (t_name 0) (t_acons (t_f (t_c1 lenY (t_lname 2))) t_anil)))))))))
      (t_retn 3)))
def C__law_turned : TF := runD T__law_turned N__law_turned 2
theorem ok__law_turned (X : Tx K mg A base) : FnG P w K mg base CX0 2 A.a__law_turned A.d__law_turned ["_law_stock_here", "_law_size"] (spD ⟨K, w⟩ (ZPu A.T) 2 C__law_turned) := by
  have G__law_draw := ok__law_draw (P := P) (w := w) (base := base) X
  refine fnD X.F__law_turned SC__law_turned fun cdv Ar outer s H E hgd hr => ?_
  have hu : (Ar.deeper (envOfC "_law_turned" (defScope S__law_turned) s.heap.objs.size A.a__law_turned cdv)).units + 64 < cLine := by have := hr.un; omega
  exact (dss_cons (dspar 2 3 SC__law_turned.nd (de_lrange rfl (by rfl) X.m_list (by rfl) X.m_range (dv_e (den 1))) (de_lst da_nil))
      (dss_cons (ds_for PassesOwn.never rfl (di_range1 (by rfl) X.m_range (da_cons (dv_e (den 1)) da_nil)) (dgm 4 SC__law_turned.nd) (dss_one (ds_expr (de_v (dvap 3 (dvpopi 2 (dv_e (de_call G__law_draw hgd (hr.mono (by decide)) (by rfl) X.g__law_draw X.F__law_draw.kp X.b__law_draw (fun _ _ h => h.1) (da_consR (den 0) (da_cons (dv_e (de_b1 c_lenY (by rfl) X.m_len (by decide +kernel) (dln 2))) da_nil))))))))))
      (dss_one (dsrn 3))))
def T_added : TSD := (t_ret (t_c1 tupleX (t_l (t_f (t_lc [3, 4, 5] (t_wzip3 (t_acons (t_f (t_name 1)) (t_acons (t_f (t_name 2)) (t_acons (t_f (t_name 0)) t_anil)))) (g_tup 3 (g_cons (g_name 3) (g_cons (g_name 4) (g_cons (g_name 5) g_nil)))) t_yes (t_f (t_op modX (t_l (t_f (t_op addZ (t_lname 3) (t_lname 4)))) (t_lname 5))))))))
def C_added : TF := runD T_added N_added 3
theorem ok_added (X : Tx K mg A base) : FnG P w K mg base CX0 1 A.a_added A.d_added ["group", "member", "other"] (spD ⟨K, w⟩ (ZPu A.T) 3 C_added) := by
  refine fnD X.F_added SC_added fun cdv Ar outer s H E hgd hr => ?_
  have hu : (Ar.deeper (envOfC "added" (defScope S_added) s.heap.objs.size A.a_added cdv)).units + 64 < cLine := by have := hr.un; omega
  exact (dss_one (ds_ret (de_t1 c_tuple (by rfl) X.m_tuple (by decide +kernel) (dl_v (dv_e (de_lc (own := [("one", 3), ("two", 4), ("modulus", 5)]) (vs := [3, 4, 5]) rfl SC_added.nd (di_zip3 (by rfl) X.m_zip (da_cons (dv_e (den 1)) (da_cons (dv_e (den 2)) (da_cons (dv_e (den 0)) da_nil)))) (blkOk_by (own := [("one", 3), ("two", 4), ("modulus", 5)]) (N := N_added) (sc := defScope S_added) (by decide +kernel)) rfl (fun _ _ _ _ _ => (dgn_tup rfl (dgns_cons (dgb 3 SC_added.nd) (dgns_cons (dgb 4 SC_added.nd) (dgns_cons (dgb 5 SC_added.nd) dgns_nil))))) (fun _ _ _ _ _ => dts_nil) (fun _ _ _ _ _ => (dv_e (de_op ox_mod (dl_v (dv_e (de_op oz_add (dln 3) (dln 4)))) (dln 5))))))))))
def T_backs_of : TSD := (t_seq (t_par 3 4 t_gd0 (t_op mulZ (t_l (t_f (t_lstd (t_acons (t_c (.int 0)) t_anil)))) (t_l (t_f (t_c1 lenY (t_lname 1))))))
      (t_seq (t_for (t_wenum (t_acons (t_f (t_name 1)) t_anil)) (g_tup 2 (g_cons (g_name 5) (g_cons (g_name 6) g_nil))) (t_gput 3 (t_f (t_name 6)) (t_f (t_name 5))))
      (t_seq (t_for (t_wenum (t_acons (t_f (t_name 1)) t_anil)) (g_tup 2 (g_cons (g_name 5) (g_cons (g_name 6) g_nil))) (t_asg (t_v (t_f (t_name 5))) (g_setix 4 (t_f (t_op ixG (t_lname 3) (t_l (t_f (t_call C_added (t_acons (t_f (t_name 0)) (t_acons (t_f (t_name 6)) (t_acons (t_f (t_name 2)) t_anil)))))))))))
      (t_retn 4))))
def C_backs_of : TF := runD T_backs_of N_backs_of 3
theorem ok_backs_of (X : Tx K mg A base) : FnG P w K mg base CX0 2 A.a_backs_of A.d_backs_of ["group", "members", "mark"] (spD ⟨K, w⟩ (ZPu A.T) 3 C_backs_of) := by
  have G_added := ok_added (P := P) (w := w) (base := base) X
  refine fnD X.F_backs_of SC_backs_of fun cdv Ar outer s H E hgd hr => ?_
  have hu : (Ar.deeper (envOfC "backs_of" (defScope S_backs_of) s.heap.objs.size A.a_backs_of cdv)).units + 64 < cLine := by have := hr.un; omega
  exact (dss_cons (dspar 3 4 SC_backs_of.nd de_gd0 (de_op oz_mul (dl_v (dv_e (de_lst (da_cons dv_int da_nil)))) (dl_v (dv_e (de_b1 c_lenY (by rfl) X.m_len (by decide +kernel) (dln 1))))))
      (dss_cons (ds_for PassesOwn.never rfl (di_enum (by rfl) X.m_enumerate (da_cons (dv_e (den 1)) da_nil)) (dg_tup rfl (dgs_cons (dgm 5 SC_backs_of.nd) (dgs_cons (dgm 6 SC_backs_of.nd) dgs_nil))) (dss_one (ds_gput hu 3 (dv_e (den 6)) (dv_e (den 5)))))
      (dss_cons (ds_for PassesOwn.never rfl (di_enum (by rfl) X.m_enumerate (da_cons (dv_e (den 1)) da_nil)) (dg_tup rfl (dgs_cons (dgm 5 SC_backs_of.nd) (dgs_cons (dgm 6 SC_backs_of.nd) dgs_nil))) (dss_one (ds_asg (de_v (dv_e (den 5))) (dgix 4 (dv_e (de_ixG hu (dln 3) (dl_v (dv_e (de_call G_added hgd (hr.mono (by decide)) (by rfl) X.g_added X.F_added.kp X.b_added (fun _ _ h => h.1) (da_cons (dv_e (den 0)) (da_cons (dv_e (den 6)) (da_cons (dv_e (den 2)) da_nil))))))))))))
      (dss_one (dsrn 4)))))
def T_lengthened : TSD := (t_seq (t_asg (t_lstd t_anil) (g_name 2))
      (t_seq (t_for (t_wany (t_f (t_name 0))) (g_name 3) (t_drop (t_v (t_extend 2 (t_f (t_lc [4] (t_wrng1 (t_acons (t_f (t_name 1)) t_anil)) (g_name 4) t_yes (t_star1 (t_f (t_name 3)) (t_f (t_name 4)))))))))
      (t_retn 2)))
def C_lengthened : TF := runD T_lengthened N_lengthened 2
theorem ok_lengthened (X : Tx K mg A base) : FnG P w K mg base CX0 1 A.a_lengthened A.d_lengthened ["rows", "many"] (spD ⟨K, w⟩ (ZPu A.T) 2 C_lengthened) := by
  refine fnD X.F_lengthened SC_lengthened fun cdv Ar outer s H E hgd hr => ?_
  have hu : (Ar.deeper (envOfC "lengthened" (defScope S_lengthened) s.heap.objs.size A.a_lengthened cdv)).units + 64 < cLine := by have := hr.un; omega
  exact (dss_cons (ds_asg (de_lst da_nil) (dgm 2 SC_lengthened.nd))
      (dss_cons (ds_for PassesOwn.never rfl (di_any (dv_e (den 0))) (dgm 3 SC_lengthened.nd) (dss_one (ds_expr (de_v (dvex 2 (dv_e (de_lc (own := [("item", 4)]) (vs := [4]) rfl SC_lengthened.nd (di_range1 (by rfl) X.m_range (da_cons (dv_e (den 1)) da_nil)) (blkOk_by (own := [("item", 4)]) (N := N_lengthened) (sc := defScope S_lengthened) (by decide +kernel)) rfl (fun _ _ _ _ _ => (dgb 4 SC_lengthened.nd)) (fun _ _ _ _ _ => dts_nil) (fun _ _ _ _ _ => (dv_star1 (dv_e (den 3)) (dv_e (den 4)))))))))))
      (dss_one (dsrn 2))))
def T_group_members : TSD := (t_seq (t_asg (t_lstd (t_acons (t_tupd t_anil) t_anil)) (g_name 1))
      (t_seq (t_for (t_wany (t_f (t_name 0))) (g_name 2) (t_asg (t_call C_lengthened (t_acons (t_f (t_name 1)) (t_acons (t_f (t_name 2)) t_anil))) (g_name 1)))
      (t_ret (t_c1 tupleX (t_lname 1)))))
def C_group_members : TF := runD T_group_members N_group_members 1
theorem ok_group_members (X : Tx K mg A base) : FnG P w K mg base CX0 2 A.a_group_members A.d_group_members ["group"] (spD ⟨K, w⟩ (ZPu A.T) 1 C_group_members) := by
  have G_lengthened := ok_lengthened (P := P) (w := w) (base := base) X
  refine fnD X.F_group_members SC_group_members fun cdv Ar outer s H E hgd hr => ?_
  have hu : (Ar.deeper (envOfC "group_members" (defScope S_group_members) s.heap.objs.size A.a_group_members cdv)).units + 64 < cLine := by have := hr.un; omega
  exact (dss_cons (ds_asg (de_lst (da_cons (dv_tup da_nil) da_nil)) (dgm 1 SC_group_members.nd))
      (dss_cons (ds_for PassesOwn.never rfl (di_any (dv_e (den 0))) (dgm 2 SC_group_members.nd) (dss_one (ds_asg (de_call G_lengthened hgd (hr.mono (by decide)) (by rfl) X.g_lengthened X.F_lengthened.kp X.b_lengthened (fun _ _ h => h.1) (da_cons (dv_e (den 1)) (da_cons (dv_e (den 2)) da_nil))) (dgm 1 SC_group_members.nd))))
      (dss_one (ds_ret (de_t1 c_tuple (by rfl) X.m_tuple (by decide +kernel) (dln 1))))))
def T_states : TSD := (t_seq (t_asg (t_lstd (t_acons (t_tupd t_anil) t_anil)) (g_name 1))
      (t_seq (t_for (t_wany (t_f (t_name 0))) (g_name 2) (t_seq (t_asg (t_lstd t_anil) (g_name 3))
      (t_seq (t_for (t_wany (t_f (t_name 1))) (g_name 4) (t_drop (t_v (t_extend 3 (t_f (t_lc [5] (t_wrng1 (t_acons (t_f (t_op addZ (t_lname 2) (t_l (t_c (.int 1))))) t_anil)) (g_name 5) t_yes (t_f (t_op addZ (t_lname 4) (t_l (t_tupd (t_acons (t_f (t_name 5)) t_anil)))))))))))
      (t_asg (t_c1 listY (t_lname 3)) (g_name 1)))))
      (t_ret (t_c1 tupleX (t_lname 1)))))
def C_states : TF := runD T_states N_states 1
theorem ok_states (X : Tx K mg A base) : FnG P w K mg base CX0 1 A.a_states A.d_states ["card"] (spD ⟨K, w⟩ (ZPu A.T) 1 C_states) := by
  refine fnD X.F_states SC_states fun cdv Ar outer s H E hgd hr => ?_
  have hu : (Ar.deeper (envOfC "states" (defScope S_states) s.heap.objs.size A.a_states cdv)).units + 64 < cLine := by have := hr.un; omega
  exact (dss_cons (ds_asg (de_lst (da_cons (dv_tup da_nil) da_nil)) (dgm 1 SC_states.nd))
      (dss_cons (ds_for PassesOwn.never rfl (di_any (dv_e (den 0))) (dgm 2 SC_states.nd) (dss_cons (ds_asg (de_lst da_nil) (dgm 3 SC_states.nd))
      (dss_cons (ds_for PassesOwn.never rfl (di_any (dv_e (den 1))) (dgm 4 SC_states.nd) (dss_one (ds_expr (de_v (dvex 3 (dv_e (de_lc (own := [("level", 5)]) (vs := [5]) rfl SC_states.nd (di_range1 (by rfl) X.m_range (da_cons (dv_e (de_op oz_add (dln 2) (dl_v dv_int))) da_nil)) (blkOk_by (own := [("level", 5)]) (N := N_states) (sc := defScope S_states) (by decide +kernel)) rfl (fun _ _ _ _ _ => (dgb 5 SC_states.nd)) (fun _ _ _ _ _ => dts_nil) (fun _ _ _ _ _ => (dv_e (de_op oz_add (dln 4) (dl_v (dv_tup (da_cons (dv_e (den 5)) da_nil)))))))))))))
      (dss_one (ds_asg (de_t1 (c_listY rfl) (by rfl) X.m_list (by decide +kernel) (dln 3)) (dgm 1 SC_states.nd))))))
      (dss_one (ds_ret (de_t1 c_tuple (by rfl) X.m_tuple (by decide +kernel) (dln 1))))))
def T_room_strengths : TSD := (t_seq (t_par3 3 4 5 (t_call C_group_members (t_acons (t_f (t_name 1)) t_anil)) t_gd0 t_gd0)
      (t_seq (t_asg (t_lc [7] (t_wany (t_f (t_name 2))) (g_name 7) t_yes (t_f (t_call C_backs_of (t_acons (t_f (t_name 1)) (t_acons (t_f (t_name 3)) (t_acons (t_f (t_name 7)) t_anil)))))) (g_name 6))
      (t_seq (t_asg (t_lc [7] (t_wany (t_f (t_name 2))) (g_name 7) t_yes (t_tindex (t_lname 3) (t_f (t_name 7)))) (g_name 8))
      (t_seq (t_for (t_wany (t_f (t_call C_states (t_acons (t_f (t_name 0)) t_anil)))) (g_name 9) (t_seq (t_asg (t_op mulZ (t_l (t_f (t_lstd (t_acons (t_neg (t_l (t_c (.int 1)))) t_anil)))) (t_l (t_f (t_c1 lenY (t_lname 3))))) (g_name 10))
      (t_seq (t_for (t_wenum (t_acons (t_f (t_name 6)) t_anil)) (g_tup 2 (g_cons (g_name 11) (g_cons (g_name 12) g_nil))) (t_if (t_tst (t_op gtY (t_l (t_f (t_op ixG (t_lname 9) (t_lname 11)))) (t_l (t_c (.int 0))))) (t_seq (t_asg (t_v (t_tupd (t_astar (t_f (t_slice (t_lname 9) t_no (t_some (t_f (t_name 11))))) (t_acons (t_f (t_op subX (t_l (t_f (t_op ixG (t_lname 9) (t_lname 11)))) (t_l (t_c (.int 1))))) (t_astar (t_f (t_slice (t_lname 9) (t_some (t_f (t_op addZ (t_lname 11) (t_l (t_c (.int 1)))))) t_no)) t_anil))))) (g_name 13))
      (t_seq (t_par 14 15 (t_op ixG (t_lname 5) (t_lname 13)) (t_op ixG (t_lname 8) (t_lname 11)))
      (t_seq (t_asg (t_lc [16, 17] (t_wzipT (t_acons (t_f (t_name 10)) (t_acons (t_f (t_name 12)) t_anil))) (g_tup 2 (g_cons (g_name 16) (g_cons (g_name 17) g_nil))) t_yes (t_f (t_op max2X (t_lname 16) (t_l (t_f (t_op ixG (t_lname 14) (t_lname 17))))))) (g_name 10))
      (t_asg (t_v (t_f (t_op max2X (t_l (t_f (t_op ixG (t_lname 10) (t_lname 15)))) (t_l (t_f (t_op ixG (t_lname 4) (t_lname 13))))))) (g_setix 10 (t_f (t_name 15))))))) t_next))
      (t_seq (t_gput 4 (t_f (t_name 9)) (t_f (t_op addZ (t_l (t_c (.int 1))) (t_l (t_f (t_c1 minX (t_l (t_f (t_slice (t_lname 10) (t_some (t_c (.int 1))) t_no)))))))))
      (t_gput 5 (t_f (t_name 9)) (t_f (t_name 10)))))))
      (t_ret (t_c1 tupleX (t_l (t_f (t_lc [9] (t_wany (t_f (t_call C_states (t_acons (t_f (t_name 0)) t_anil)))) (g_name 9) t_yes (t_f (t_op ixG (t_lname 4) (t_lname 9))))))))))))
def C_room_strengths : TF := runD T_room_strengths N_room_strengths 3
theorem ok_room_strengths (X : Tx K mg A base) : FnG P w K mg base CX0 3 A.a_room_strengths A.d_room_strengths ["card", "group", "marks"] (spD ⟨K, w⟩ (ZPu A.T) 3 C_room_strengths) := by
  have G_backs_of := ok_backs_of (P := P) (w := w) (base := base) X
  have G_group_members := ok_group_members (P := P) (w := w) (base := base) X
  have G_states := ok_states (P := P) (w := w) (base := base) X
  refine fnD X.F_room_strengths SC_room_strengths fun cdv Ar outer s H E hgd hr => ?_
  have hu : (Ar.deeper (envOfC "room_strengths" (defScope S_room_strengths) s.heap.objs.size A.a_room_strengths cdv)).units + 64 < cLine := by have := hr.un; omega
  exact (dss_cons (dspar3C 3 4 5 SC_room_strengths.nd (de_call G_group_members hgd (hr.mono (by decide)) (by rfl) X.g_group_members X.F_group_members.kp X.b_group_members (fun _ _ h => h.1) (da_cons (dv_e (den 1)) da_nil)) de_gd0 de_gd0)
      (dss_cons (ds_setLc (i := 6) (own := [("mark", 7)]) (vs := [7]) rfl SC_room_strengths.nd rfl rfl (sw_true rfl rfl rfl (by decide +kernel)) (di_any (dv_e (den 2))) (blkOk_by (own := [("mark", 7)]) (N := N_room_strengths) (sc := defScope S_room_strengths) (by decide +kernel)) rfl (fun _ _ _ _ _ => (dgb 7 SC_room_strengths.nd)) (fun _ _ _ _ _ => dts_nil) (fun _ _ _ _ _ => (dv_e (de_call G_backs_of hgd (hr.mono (by decide)) (by rfl) X.g_backs_of X.F_backs_of.kp X.b_backs_of (fun _ _ h => h.1) (da_cons (dv_e (den 1)) (da_cons (dv_e (den 3)) (da_cons (dv_e (den 7)) da_nil)))))))
      (dss_cons (ds_setLc (i := 8) (own := [("mark", 7)]) (vs := [7]) rfl SC_room_strengths.nd rfl rfl (sw_true rfl rfl rfl (by decide +kernel)) (di_any (dv_e (den 2))) (blkOk_by (own := [("mark", 7)]) (N := N_room_strengths) (sc := defScope S_room_strengths) (by decide +kernel)) rfl (fun _ _ _ _ _ => (dgb 7 SC_room_strengths.nd)) (fun _ _ _ _ _ => dts_nil) (fun _ _ _ _ _ => (dvtindex hu (dln 3) (dv_e (den 7)))))
      (dss_cons (ds_for PassesOwn.never rfl (di_any (dv_e (de_call G_states hgd (hr.mono (by decide)) (by rfl) X.g_states X.F_states.kp X.b_states (fun _ _ h => h.1) (da_cons (dv_e (den 0)) da_nil)))) (dgm 9 SC_room_strengths.nd) (dss_cons (ds_asg (de_op oz_mul (dl_v (dv_e (de_lst (da_cons (dv_neg (dl_v dv_int)) da_nil)))) (dl_v (dv_e (de_b1 c_lenY (by rfl) X.m_len (by decide +kernel) (dln 3))))) (dgm 10 SC_room_strengths.nd))
      (dss_cons (ds_for PassesOwn.never rfl (di_enum (by rfl) X.m_enumerate (da_cons (dv_e (den 6)) da_nil)) (dg_tup rfl (dgs_cons (dgm 11 SC_room_strengths.nd) (dgs_cons (dgm 12 SC_room_strengths.nd) dgs_nil))) (dss_one (ds_if (dt_cmp (oy_gt hu) (dl_v (dv_e (de_ixG hu (dln 9) (dln 11)))) (dl_v dv_int)) (dss_cons (ds_asg (de_v (dv_tup (da_star (dv_e (de_slice (dln 9) do_none (do_some (dv_e (den 11))))) (da_cons (dv_e (de_op ox_sub (dl_v (dv_e (de_ixG hu (dln 9) (dln 11)))) (dl_v dv_int))) (da_star (dv_e (de_slice (dln 9) (do_some (dv_e (de_op oz_add (dln 11) (dl_v dv_int)))) do_none)) da_nil))))) (dgm 13 SC_room_strengths.nd))
      (dss_cons (dsparC 14 15 SC_room_strengths.nd (de_ixG hu (dln 5) (dln 13)) (de_ixG hu (dln 8) (dln 11)))
      (dss_cons (ds_setLc (i := 10) (own := [("one", 16), ("at", 17)]) (vs := [16, 17]) rfl SC_room_strengths.nd rfl rfl (sw_true rfl rfl rfl (by decide +kernel)) (di_zipT (by rfl) X.m_zip (da_cons (dv_e (den 10)) (da_cons (dv_e (den 12)) da_nil))) (blkOk_by (own := [("one", 16), ("at", 17)]) (N := N_room_strengths) (sc := defScope S_room_strengths) (by decide +kernel)) rfl (fun _ _ _ _ _ => (dgn_tup rfl (dgns_cons (dgb 16 SC_room_strengths.nd) (dgns_cons (dgb 17 SC_room_strengths.nd) dgns_nil)))) (fun _ _ _ _ _ => dts_nil) (fun _ _ _ _ _ => (dv_e (de_b2 (c_max2 rfl) (by rfl) X.m_max (by decide +kernel) (dln 16) (dl_v (dv_e (de_ixG hu (dln 14) (dln 17))))))))
      (dss_one (ds_asg (de_v (dv_e (de_b2 (c_max2 rfl) (by rfl) X.m_max (by decide +kernel) (dl_v (dv_e (de_ixG hu (dln 10) (dln 15)))) (dl_v (dv_e (de_ixG hu (dln 4) (dln 13))))))) (dgix 10 (dv_e (den 15)))))))) dss_nil)))
      (dss_cons (ds_gput hu 4 (dv_e (den 9)) (dv_e (de_op oz_add (dl_v dv_int) (dl_v (dv_e (de_b1 (c_min rfl) (by rfl) X.m_min (by decide +kernel) (dl_v (dv_e (de_slice (dln 10) (do_some dv_int) do_none)))))))))
      (dss_one (ds_gput hu 5 (dv_e (den 9)) (dv_e (den 10))))))))
      (dss_one (ds_ret (de_t1 c_tuple (by rfl) X.m_tuple (by decide +kernel) (dl_v (dv_e (de_lc (own := [("room", 9)]) (vs := [9]) rfl SC_room_strengths.nd (di_any (dv_e (de_call G_states hgd (hr.mono (by decide)) (by rfl) X.g_states X.F_states.kp X.b_states (fun _ _ h => h.1) (da_cons (dv_e (den 0)) da_nil)))) (blkOk_by (own := [("room", 9)]) (N := N_room_strengths) (sc := defScope S_room_strengths) (by decide +kernel)) rfl (fun _ _ _ _ _ => (dgb 9 SC_room_strengths.nd)) (fun _ _ _ _ _ => dts_nil) (fun _ _ _ _ _ => (dv_e (de_ixG hu (dln 4) (dln 9))))))))))))))
def T__law_is_carried : TSD := (t_seq (t_asg (t_call C__law_turned (t_aconsR (t_name 0) (t_acons (t_f (t_c1 lenY (t_lname 1))) t_anil))) (g_name 5))
      (t_seq (t_par 6 7 (t_c1 tupleX (t_l (t_f (t_lc [8] (t_wany (t_f (t_name 5))) (g_name 8) t_yes (t_f (t_op ixG (t_lname 1) (t_lname 8))))))) (t_c1 tupleX (t_l (t_f (t_lc [8] (t_wany (t_f (t_name 5))) (g_name 8) t_yes (t_f (t_op ixG (t_lname 3) (t_lname 8))))))))
      (t_seq (t_par 9 10 (t_call C_room_strengths (t_acons (t_f (t_name 6)) (t_acons (t_f (t_name 2)) (t_acons (t_f (t_name 7)) t_anil)))) t_gd0)
      (t_seq (t_if (t_or (t_not (t_tst (t_v (t_isi "tuple" (t_lname 9))))) (t_tst (t_op neZ (t_l (t_f (t_c1 lenY (t_lname 9)))) (t_l (t_f (t_c1 lenY (t_lname 4))))))) (t_ret (t_v (t_c (.bool false)))) t_next)
      (t_seq (t_for (t_wzipT (t_acons (t_f (t_call C__law_states (t_acons (t_f (t_name 1)) t_anil))) (t_acons (t_f (t_name 4)) t_anil))) (g_tup 2 (g_cons (g_name 11) (g_cons (g_name 12) g_nil))) (t_gput 10 (t_f (t_c1 tupleX (t_l (t_f (t_lc [8] (t_wany (t_f (t_name 5))) (g_name 8) t_yes (t_f (t_op ixG (t_lname 11) (t_lname 8)))))))) (t_f (t_name 12))))
      (t_ret (t_op eqZ (t_l (t_f (t_c1 shX (t_lname 9)))) (t_l (t_f (t_c1 shX (t_l (t_f (t_c1 tupleX (t_l (t_f (t_lc [11] (t_wany (t_f (t_call C__law_states (t_acons (t_f (t_name 6)) t_anil)))) (g_name 11) t_yes (t_f (t_op ixG (t_lname 10) (t_lname 11)))))))))))))))))))
def C__law_is_carried : TF := runD T__law_is_carried N__law_is_carried 5
theorem ok__law_is_carried (X : Tx K mg A base) : FnG P w K mg base CX0 4 A.a__law_is_carried A.d__law_is_carried ["_law_stock_here", "_law_card_here", "_law_group_here", "_law_marks", "_law_told"] (spD ⟨K, w⟩ (ZPu A.T) 5 C__law_is_carried) := by
  have G__law_states := ok__law_states (P := P) (w := w) (base := base) X
  have G__law_turned := ok__law_turned (P := P) (w := w) (base := base) X
  have G_room_strengths := ok_room_strengths (P := P) (w := w) (base := base) X
  refine fnD X.F__law_is_carried SC__law_is_carried fun cdv Ar outer s H E hgd hr => ?_
  have hu : (Ar.deeper (envOfC "_law_is_carried" (defScope S__law_is_carried) s.heap.objs.size A.a__law_is_carried cdv)).units + 64 < cLine := by have := hr.un; omega
  exact (dss_cons (ds_asg (de_call G__law_turned hgd (hr.mono (by decide)) (by rfl) X.g__law_turned X.F__law_turned.kp X.b__law_turned (fun _ _ h => h.1) (da_consR (den 0) (da_cons (dv_e (de_b1 c_lenY (by rfl) X.m_len (by decide +kernel) (dln 1))) da_nil))) (dgm 5 SC__law_is_carried.nd))
      (dss_cons (dspar 6 7 SC__law_is_carried.nd (de_t1 c_tuple (by rfl) X.m_tuple (by decide +kernel) (dl_v (dv_e (de_lc (own := [("_law_at", 8)]) (vs := [8]) rfl SC__law_is_carried.nd (di_any (dv_e (den 5))) (blkOk_by (own := [("_law_at", 8)]) (N := N__law_is_carried) (sc := defScope S__law_is_carried) (by decide +kernel)) rfl (fun _ _ _ _ _ => (dgb 8 SC__law_is_carried.nd)) (fun _ _ _ _ _ => dts_nil) (fun _ _ _ _ _ => (dv_e (de_ixG hu (dln 1) (dln 8)))))))) (de_t1 c_tuple (by rfl) X.m_tuple (by decide +kernel) (dl_v (dv_e (de_lc (own := [("_law_at", 8)]) (vs := [8]) rfl SC__law_is_carried.nd (di_any (dv_e (den 5))) (blkOk_by (own := [("_law_at", 8)]) (N := N__law_is_carried) (sc := defScope S__law_is_carried) (by decide +kernel)) rfl (fun _ _ _ _ _ => (dgb 8 SC__law_is_carried.nd)) (fun _ _ _ _ _ => dts_nil) (fun _ _ _ _ _ => (dv_e (de_ixG hu (dln 3) (dln 8)))))))))
      (dss_cons (dsparC 9 10 SC__law_is_carried.nd (de_call G_room_strengths hgd (hr.mono (by decide)) (by rfl) X.g_room_strengths X.F_room_strengths.kp X.b_room_strengths (fun _ _ h => h.1) (da_cons (dv_e (den 6)) (da_cons (dv_e (den 2)) (da_cons (dv_e (den 7)) da_nil)))) de_gd0)
      (dss_cons (ds_if (dt_w (dw_or (dt_not (dt_val (de_v (dv_isi isTy_tuple (by rfl) X.m_isinstance (by rfl) X.m_tuple (by decide +kernel) (dln 9))))) (dw_or1 (dt_cmp (oz_ne hu) (dl_v (dv_e (de_b1 c_lenY (by rfl) X.m_len (by decide +kernel) (dln 9)))) (dl_v (dv_e (de_b1 c_lenY (by rfl) X.m_len (by decide +kernel) (dln 4)))))))) (dss_one (ds_ret (de_v dv_bl))) dss_nil)
      (dss_cons (ds_for PassesOwn.never rfl (di_zipT (by rfl) X.m_zip (da_cons (dv_e (de_call G__law_states hgd (hr.mono (by decide)) (by rfl) X.g__law_states X.F__law_states.kp X.b__law_states (fun _ _ h => h.1) (da_cons (dv_e (den 1)) da_nil))) (da_cons (dv_e (den 4)) da_nil))) (dg_tup rfl (dgs_cons (dgm 11 SC__law_is_carried.nd) (dgs_cons (dgm 12 SC__law_is_carried.nd) dgs_nil))) (dss_one (ds_gput hu 10 (dv_e (de_t1 c_tuple (by rfl) X.m_tuple (by decide +kernel) (dl_v (dv_e (de_lc (own := [("_law_at", 8)]) (vs := [8]) rfl SC__law_is_carried.nd (di_any (dv_e (den 5))) (blkOk_by (own := [("_law_at", 8)]) (N := N__law_is_carried) (sc := defScope S__law_is_carried) (by decide +kernel)) rfl (fun _ _ _ _ _ => (dgb 8 SC__law_is_carried.nd)) (fun _ _ _ _ _ => dts_nil) (fun _ _ _ _ _ => (dv_e (de_ixG hu (dln 11) (dln 8))))))))) (dv_e (den 12)))))
      (dss_one (ds_ret (de_cmp (oz_eq hu) (dl_v (dv_e (de_b1 (c_show hgd hu) (by rfl) X.m_repr (by decide +kernel) (dln 9)))) (dl_v (dv_e (de_b1 (c_show hgd hu) (by rfl) X.m_repr (by decide +kernel) (dl_v (dv_e (de_t1 c_tuple (by rfl) X.m_tuple (by decide +kernel) (dl_v (dv_e (de_lc (own := [("_law_space", 11)]) (vs := [11]) rfl SC__law_is_carried.nd (di_any (dv_e (de_call G__law_states hgd (hr.mono (by decide)) (by rfl) X.g__law_states X.F__law_states.kp X.b__law_states (fun _ _ h => h.1) (da_cons (dv_e (den 6)) da_nil)))) (blkOk_by (own := [("_law_space", 11)]) (N := N__law_is_carried) (sc := defScope S__law_is_carried) (by decide +kernel)) rfl (fun _ _ _ _ _ => (dgb 11 SC__law_is_carried.nd)) (fun _ _ _ _ _ => dts_nil) (fun _ _ _ _ _ => (dv_e (de_ixG hu (dln 10) (dln 11)))))))))))))))))))))
def T__law_sheared : TSD := (t_seq (t_if (t_or (t_tst (t_op ltZ (t_l (t_f (t_c1 lenY (t_lname 0)))) (t_l (t_c (.int 2))))) (t_tst (t_op neZ (t_l (t_f (t_op ixG (t_lname 0) (t_l (t_c (.int 0)))))) (t_l (t_f (t_op ixG (t_lname 0) (t_l (t_neg (t_l (t_c (.int 1))))))))))) (t_retn 1) t_next)
      (t_ret (t_c1 tupleX (t_l (t_f (t_lc [2] (t_wany (t_f (t_name 1))) (g_name 2) t_yes (t_f (t_op addZ (t_l (t_f (t_slice (t_lname 2) t_no (t_some (t_neg (t_l (t_c (.int 1)))))))) (t_l (t_tupd (t_acons (t_f (t_op modX (t_l (t_f (t_c1 intX (t_l (t_f (t_op addZ (t_l (t_f (t_op ixG (t_lname 2) (t_l (t_c (.int 0)))))) (t_l (t_f (t_op ixG (t_lname 2) (t_l (t_neg (t_l (t_c (.int 1)))))))))))))) (t_l (t_f (t_op ixG (t_lname 0) (t_l (t_neg (t_l (t_c (.int 1)))))))))) t_anil)))))))))))
def C__law_sheared : TF := runD T__law_sheared N__law_sheared 2
theorem ok__law_sheared (X : Tx K mg A base) : FnG P w K mg base CX0 1 A.a__law_sheared A.d__law_sheared ["_law_group_here", "_law_marks"] (spD ⟨K, w⟩ (ZPu A.T) 2 C__law_sheared) := by
  refine fnD X.F__law_sheared SC__law_sheared fun cdv Ar outer s H E hgd hr => ?_
  have hu : (Ar.deeper (envOfC "_law_sheared" (defScope S__law_sheared) s.heap.objs.size A.a__law_sheared cdv)).units + 64 < cLine := by have := hr.un; omega
  exact (dss_cons (ds_if (dt_w (dw_or (dt_cmp (oz_lt hu) (dl_v (dv_e (de_b1 c_lenY (by rfl) X.m_len (by decide +kernel) (dln 0)))) (dl_v dv_int)) (dw_or1 (dt_cmp (oz_ne hu) (dl_v (dv_e (de_ixG hu (dln 0) (dl_v dv_int)))) (dl_v (dv_e (de_ixG hu (dln 0) (dl_v (dv_neg (dl_v dv_int)))))))))) (dss_one (dsrn 1)) dss_nil)
      (dss_one (ds_ret (de_t1 c_tuple (by rfl) X.m_tuple (by decide +kernel) (dl_v (dv_e (de_lc (own := [("_law_mark", 2)]) (vs := [2]) rfl SC__law_sheared.nd (di_any (dv_e (den 1))) (blkOk_by (own := [("_law_mark", 2)]) (N := N__law_sheared) (sc := defScope S__law_sheared) (by decide +kernel)) rfl (fun _ _ _ _ _ => (dgb 2 SC__law_sheared.nd)) (fun _ _ _ _ _ => dts_nil) (fun _ _ _ _ _ => (dv_e (de_op oz_add (dl_v (dv_e (de_slice (dln 2) do_none (do_some (dv_neg (dl_v dv_int)))))) (dl_v (dv_tup (da_cons (dv_e (de_op ox_mod (dl_v (dv_e (de_t1 c_int (by rfl) X.m_int (by decide +kernel) (dl_v (dv_e (de_op oz_add (dl_v (dv_e (de_ixG hu (dln 2) (dl_v dv_int)))) (dl_v (dv_e (de_ixG hu (dln 2) (dl_v (dv_neg (dl_v dv_int)))))))))))) (dl_v (dv_e (de_ixG hu (dln 0) (dl_v (dv_neg (dl_v dv_int)))))))) da_nil)))))))))))))
def T__law_stock : TSD := (t_seq (t_asg (t_lc [2] (t_wany (t_f (t_sliceScr 0 t_no (t_some (t_c (.int 63)))))) (g_name 2) t_yes (t_f (t_ifx (t_tst (t_op geX (t_lname 2) (t_l (t_c (.int 0))))) (t_op mulZ (t_l (t_c (.int 2))) (t_lname 2)) (t_op subX (t_l (t_f (t_op mulZ (t_l (t_neg (t_l (t_c (.int 2))))) (t_lname 2)))) (t_l (t_c (.int 1))))))) (g_name 1))
      (t_retbox 1 (t_xcons (t_lc [2] (t_wany (t_f (t_name 1))) (g_name 2) (t_tst (t_op geX (t_lname 2) (t_l (t_f (t_op powX (t_l (t_c (.int 10))) (t_l (t_c (.int 15)))))))) (t_f (t_name 2))) (t_xcons (t_op addZ (t_lname 1) (t_l (t_f (t_lstd (t_acons (t_f (t_op addZ (t_l (t_f (t_c1 lenY (t_lname 1)))) (t_l (t_c (.int 257))))) t_anil))))) (t_xcons (t_c1 sumY (t_lname 1)) (t_xcons (t_v (t_c (.int 0))) t_anil))))))
def C__law_stock : TF := runD T__law_stock N__law_stock 1
theorem ok__law_stock (X : Tx K mg A base) : FnG P w K mg base CX0 1 A.a__law_stock A.d__law_stock ["_law_script"] (spD ⟨K, w⟩ (ZPu A.T) 1 C__law_stock) := by
  refine fnD X.F__law_stock SC__law_stock fun cdv Ar outer s H E hgd hr => ?_
  have hu : (Ar.deeper (envOfC "_law_stock" (defScope S__law_stock) s.heap.objs.size A.a__law_stock cdv)).units + 64 < cLine := by have := hr.un; omega
  exact (dss_cons (ds_setLc (i := 1) (own := [("_law_cell", 2)]) (vs := [2]) rfl SC__law_stock.nd rfl rfl (sw_true rfl rfl rfl (by decide +kernel)) (di_any (dv_e (de_sliceScr 0 do_none (do_some dv_int)))) (blkOk_by (own := [("_law_cell", 2)]) (N := N__law_stock) (sc := defScope S__law_stock) (by decide +kernel)) rfl (fun _ _ _ _ _ => (dgb 2 SC__law_stock.nd)) (fun _ _ _ _ _ => dts_nil) (fun _ _ _ _ _ => (dv_e (de_if (dt_cmp ox_ge (dln 2) (dl_v dv_int)) (de_op oz_mul (dl_v dv_int) (dln 2)) (de_op ox_sub (dl_v (dv_e (de_op oz_mul (dl_v (dv_neg (dl_v dv_int))) (dln 2)))) (dl_v dv_int))))))
      (dss_one (ds_retbox (dx_cons (de_lc (own := [("_law_cell", 2)]) (vs := [2]) rfl SC__law_stock.nd (di_any (dv_e (den 1))) (blkOk_by (own := [("_law_cell", 2)]) (N := N__law_stock) (sc := defScope S__law_stock) (by decide +kernel)) rfl (fun _ _ _ _ _ => (dgb 2 SC__law_stock.nd)) (fun _ _ _ _ _ => (dts_one (dt_cmp ox_ge (dln 2) (dl_v (dv_e (de_op ox_pow (dl_v dv_int) (dl_v dv_int))))))) (fun _ _ _ _ _ => (dv_e (den 2)))) (dx_cons (de_op oz_add (dln 1) (dl_v (dv_e (de_lst (da_cons (dv_e (de_op oz_add (dl_v (dv_e (de_b1 c_lenY (by rfl) X.m_len (by decide +kernel) (dln 1)))) (dl_v dv_int))) da_nil))))) (dx_cons (de_b1 (c_sumY rfl) (by rfl) X.m_sum (by decide +kernel) (dln 1)) (dx_cons (de_v dv_int) dx_nil)))))))
def T__law_divisor : TSD := (t_seq (t_for (t_wrng1 (t_acons (t_c (.int 64)) t_anil)) (g_name 2) (t_seq (t_if (t_tst (t_op eqZ (t_lname 1) (t_l (t_c (.int 0))))) t_brk t_next)
      (t_par 0 1 (t_name 1) (t_op modX (t_l (t_f (t_c1 intX (t_lname 0)))) (t_lname 1)))))
      (t_retn 0))
def C__law_divisor : TF := runD T__law_divisor N__law_divisor 2
theorem ok__law_divisor (X : Tx K mg A base) : FnG P w K mg base CX0 1 A.a__law_divisor A.d__law_divisor ["_law_a", "_law_b"] (spD ⟨K, w⟩ (ZPu A.T) 2 C__law_divisor) := by
  refine fnD X.F__law_divisor SC__law_divisor fun cdv Ar outer s H E hgd hr => ?_
  have hu : (Ar.deeper (envOfC "_law_divisor" (defScope S__law_divisor) s.heap.objs.size A.a__law_divisor cdv)).units + 64 < cLine := by have := hr.un; omega
  exact (dss_cons (ds_for PassesOwn.never rfl (di_range1 (by rfl) X.m_range (da_cons dv_int da_nil)) (dgm 2 SC__law_divisor.nd) (dss_cons (ds_if (dt_cmp (oz_eq hu) (dln 1) (dl_v dv_int)) (dss_one ds_break) dss_nil)
      (dss_one (dspar 0 1 SC__law_divisor.nd (den 1) (de_op ox_mod (dl_v (dv_e (de_t1 c_int (by rfl) X.m_int (by decide +kernel) (dln 0)))) (dln 1))))))
      (dss_one (dsrn 0)))
def T__law_units : TSD := (t_seq (t_asg (t_lstd t_anil) (g_name 3))
      (t_seq (t_for (t_wany (t_f (t_name 1))) (g_name 4) (t_drop (t_v (t_append 3 (t_f (t_call C__law_pick (t_aconsR (t_name 0) (t_acons (t_f (t_lc [5] (t_wrng2 (t_acons (t_c (.int 1)) (t_acons (t_f (t_name 4)) t_anil))) (g_name 5) (t_tst (t_op eqZ (t_l (t_f (t_call C__law_divisor (t_acons (t_f (t_name 5)) (t_acons (t_f (t_name 4)) t_anil))))) (t_l (t_c (.int 1))))) (t_f (t_name 5)))) t_anil))))))))
      (t_seq (t_asg (t_lstd t_anil) (g_name 6))
      (t_seq (t_for (t_wany (t_f (t_name 2))) (g_name 7) (t_drop (t_v (t_append 6 (t_f (t_c1 tupleX (t_l (t_f (t_lc [8, 9, 4] (t_wzip3 (t_acons (t_f (t_name 7)) (t_acons (t_f (t_name 3)) (t_acons (t_f (t_name 1)) t_anil)))) (g_tup 3 (g_cons (g_name 8) (g_cons (g_name 9) (g_cons (g_name 4) g_nil)))) t_yes (t_f (t_op modX (t_l (t_f (t_c1 intX (t_l (t_f (t_op mulZ (t_lname 8) (t_lname 9))))))) (t_lname 4))))))))))))
      (t_ret (t_c1 tupleX (t_lname 6)))))))
def C__law_units : TF := runD T__law_units N__law_units 3
theorem ok__law_units (X : Tx K mg A base) : FnG P w K mg base CX0 3 A.a__law_units A.d__law_units ["_law_stock_here", "_law_group_here", "_law_marks"] (spD ⟨K, w⟩ (ZPu A.T) 3 C__law_units) := by
  have G__law_divisor := ok__law_divisor (P := P) (w := w) (base := base) X
  have G__law_pick := ok__law_pick (P := P) (w := w) (base := base) X
  refine fnD X.F__law_units SC__law_units fun cdv Ar outer s H E hgd hr => ?_
  have hu : (Ar.deeper (envOfC "_law_units" (defScope S__law_units) s.heap.objs.size A.a__law_units cdv)).units + 64 < cLine := by have := hr.un; omega
  exact (dss_cons (ds_asg (de_lst da_nil) (dgm 3 SC__law_units.nd))
      (dss_cons (ds_for PassesOwn.never rfl (di_any (dv_e (den 1))) (dgm 4 SC__law_units.nd) (dss_one (ds_expr (de_v (dvap 3 (dv_e (de_call G__law_pick hgd (hr.mono (by decide)) (by rfl) X.g__law_pick X.F__law_pick.kp X.b__law_pick (fun _ _ h => h.1) (da_consR (den 0) (da_cons (dv_e (de_lc (own := [("_law_k", 5)]) (vs := [5]) rfl SC__law_units.nd (di_range2 (by rfl) X.m_range (da_cons dv_int (da_cons (dv_e (den 4)) da_nil))) (blkOk_by (own := [("_law_k", 5)]) (N := N__law_units) (sc := defScope S__law_units) (by decide +kernel)) rfl (fun _ _ _ _ _ => (dgb 5 SC__law_units.nd)) (fun _ _ _ _ _ => (dts_one (dt_cmp (oz_eq hu) (dl_v (dv_e (de_call G__law_divisor hgd (hr.mono (by decide)) (by rfl) X.g__law_divisor X.F__law_divisor.kp X.b__law_divisor (fun _ _ h => h.1) (da_cons (dv_e (den 5)) (da_cons (dv_e (den 4)) da_nil))))) (dl_v dv_int)))) (fun _ _ _ _ _ => (dv_e (den 5))))) da_nil)))))))))
      (dss_cons (ds_asg (de_lst da_nil) (dgm 6 SC__law_units.nd))
      (dss_cons (ds_for PassesOwn.never rfl (di_any (dv_e (den 2))) (dgm 7 SC__law_units.nd) (dss_one (ds_expr (de_v (dvap 6 (dv_e (de_t1 c_tuple (by rfl) X.m_tuple (by decide +kernel) (dl_v (dv_e (de_lc (own := [("_law_a", 8), ("_law_unit", 9), ("_law_modulus", 4)]) (vs := [8, 9, 4]) rfl SC__law_units.nd (di_zip3 (by rfl) X.m_zip (da_cons (dv_e (den 7)) (da_cons (dv_e (den 3)) (da_cons (dv_e (den 1)) da_nil)))) (blkOk_by (own := [("_law_a", 8), ("_law_unit", 9), ("_law_modulus", 4)]) (N := N__law_units) (sc := defScope S__law_units) (by decide +kernel)) rfl (fun _ _ _ _ _ => (dgn_tup rfl (dgns_cons (dgb 8 SC__law_units.nd) (dgns_cons (dgb 9 SC__law_units.nd) (dgns_cons (dgb 4 SC__law_units.nd) dgns_nil))))) (fun _ _ _ _ _ => dts_nil) (fun _ _ _ _ _ => (dv_e (de_op ox_mod (dl_v (dv_e (de_t1 c_int (by rfl) X.m_int (by decide +kernel) (dl_v (dv_e (de_op oz_mul (dln 8) (dln 9))))))) (dln 4))))))))))))))
      (dss_one (ds_ret (de_t1 c_tuple (by rfl) X.m_tuple (by decide +kernel) (dln 6))))))))
def T_law : TSD := (t_seq (t_asg (t_call C__law_stock (t_aconsR (t_name 0) t_anil)) (g_name 1))
      (t_seq (t_for (t_wrng1 (t_acons (t_c (.int 3)) t_anil)) (g_name 2) (t_seq (t_asg (t_call C__law_group (t_aconsR (t_name 1) t_anil)) (g_name 3))
      (t_seq (t_asg (t_call C__law_card (t_aconsR (t_name 1) (t_acons (t_c (.int 24)) t_anil))) (g_name 4))
      (t_seq (t_asg (t_c1 tupleX (t_l (t_f (t_lc [6] (t_wany (t_f (t_name 4))) (g_name 6) t_yes (t_f (t_call C__law_element (t_aconsR (t_name 1) (t_acons (t_f (t_name 3)) t_anil)))))))) (g_name 5))
      (t_seq (t_asg (t_call C_room_strengths (t_acons (t_f (t_name 4)) (t_acons (t_f (t_name 3)) (t_acons (t_f (t_name 5)) t_anil)))) (g_name 7))
      (t_seq (t_if (t_or (t_not (t_tst (t_v (t_isi "tuple" (t_lname 7))))) (t_tst (t_op neZ (t_l (t_f (t_c1 lenY (t_lname 7)))) (t_l (t_f (t_c1 lenY (t_l (t_f (t_call C__law_states (t_acons (t_f (t_name 4)) t_anil)))))))))) (t_ret (t_v (t_c (.bool false)))) t_next)
      (t_seq (t_if (t_not (t_tst (t_call C__law_is_carried (t_aconsR (t_name 1) (t_acons (t_f (t_name 4)) (t_acons (t_f (t_name 3)) (t_acons (t_f (t_name 5)) (t_acons (t_f (t_name 7)) t_anil)))))))) (t_ret (t_v (t_c (.bool false)))) t_next)
      (t_seq (t_asg (t_call C__law_turned (t_aconsR (t_name 1) (t_acons (t_f (t_c1 lenY (t_lname 3))) t_anil))) (g_name 8))
      (t_seq (t_asg (t_c1 tupleX (t_l (t_f (t_lc [10] (t_wany (t_f (t_name 8))) (g_name 10) t_yes (t_f (t_op ixG (t_lname 3) (t_lname 10))))))) (g_name 9))
      (t_seq (t_asg (t_lstd t_anil) (g_name 11))
      (t_seq (t_for (t_wany (t_f (t_name 5))) (g_name 12) (t_drop (t_v (t_append 11 (t_f (t_c1 tupleX (t_l (t_f (t_lc [10] (t_wany (t_f (t_name 8))) (g_name 10) t_yes (t_f (t_op ixG (t_lname 12) (t_lname 10))))))))))))
      (t_seq (t_asg (t_lstd (t_acons (t_f (t_callK kb_room_strengths_0_marks_group_card_S 0 3 C_room_strengths t_anil (t_acons (t_f (t_c1 tupleX (t_lname 11))) (t_acons (t_f (t_name 9)) (t_acons (t_f (t_name 4)) t_anil))))) t_anil)) (g_name 13))
      (t_seq (t_drop (t_v (t_append 13 (t_f (t_call C_room_strengths (t_acons (t_f (t_name 4)) (t_acons (t_f (t_name 3)) (t_acons (t_f (t_call C__law_units (t_aconsR (t_name 1) (t_acons (t_f (t_name 3)) (t_acons (t_f (t_name 5)) t_anil))))) t_anil))))))))
      (t_seq (t_drop (t_v (t_append 13 (t_f (t_call C_room_strengths (t_acons (t_f (t_name 4)) (t_acons (t_f (t_name 3)) (t_acons (t_f (t_call C__law_sheared (t_acons (t_f (t_name 3)) (t_acons (t_f (t_name 5)) t_anil)))) t_anil))))))))
      (t_seq (t_if (t_tst (t_op neZ (t_l (t_f (t_c1 shX (t_lname 13)))) (t_l (t_f (t_c1 shX (t_l (t_f (t_op mulZ (t_l (t_f (t_lstd (t_acons (t_f (t_name 7)) t_anil)))) (t_l (t_c (.int 3))))))))))) (t_ret (t_v (t_c (.bool false)))) t_next)
      (t_seq (t_asg (t_op mulZ (t_l (t_tupd (t_acons (t_f (t_c1 tupleX (t_l (t_f (t_op mulZ (t_l (t_f (t_lstd (t_acons (t_c (.int 0)) t_anil)))) (t_l (t_f (t_c1 lenY (t_lname 3))))))))) t_anil))) (t_l (t_f (t_c1 lenY (t_lname 4))))) (g_name 14))
      (t_if (t_tst (t_op neZ (t_l (t_f (t_c1 shX (t_l (t_f (t_call C_room_strengths (t_acons (t_f (t_name 4)) (t_acons (t_f (t_name 3)) (t_acons (t_f (t_name 14)) t_anil))))))))) (t_l (t_f (t_c1 shX (t_l (t_f (t_op mulZ (t_l (t_tupd (t_acons (t_c (.int 0)) t_anil))) (t_l (t_f (t_c1 lenY (t_lname 7)))))))))))) (t_ret (t_v (t_c (.bool false)))) t_next)))))))))))))))))
      (t_ret (t_op eqZ (t_l (t_f (t_c1 shX (t_l (t_f (t_call C_room_strengths (t_acons (t_tupd (t_acons (t_c (.int 2)) (t_acons (t_c (.int 1)) t_anil))) (t_acons (t_tupd (t_acons (t_c (.int 3)) t_anil)) (t_acons (t_tupd (t_acons (t_tupd (t_acons (t_c (.int 1)) t_anil)) (t_acons (t_tupd (t_acons (t_c (.int 2)) t_anil)) t_anil))) t_anil))))))))) (t_l (t_f (t_c1 shX (t_l (t_tupd (t_acons (t_c (.int 0)) (t_acons (t_c (.int 0)) (t_acons (t_c (.int 0)) (t_acons (t_c (.int 1)) (t_acons (t_c (.int 1)) (t_acons (t_c (.int 2)) t_anil)))))))))))))))
def C_law : TF := runD T_law N_law 1
theorem ok_law (X : Tx K mg A base) : FnG P w K mg base CX0 5 A.a_law A.d_law ["_law_script"] (spD ⟨K, w⟩ (ZPu A.T) 1 C_law) := by
  have G__law_card := ok__law_card (P := P) (w := w) (base := base) X
  have G__law_element := ok__law_element (P := P) (w := w) (base := base) X
  have G__law_group := ok__law_group (P := P) (w := w) (base := base) X
  have G__law_is_carried := ok__law_is_carried (P := P) (w := w) (base := base) X
  have G__law_sheared := ok__law_sheared (P := P) (w := w) (base := base) X
  have G__law_states := ok__law_states (P := P) (w := w) (base := base) X
  have G__law_stock := ok__law_stock (P := P) (w := w) (base := base) X
  have G__law_turned := ok__law_turned (P := P) (w := w) (base := base) X
  have G__law_units := ok__law_units (P := P) (w := w) (base := base) X
  have G_room_strengths := ok_room_strengths (P := P) (w := w) (base := base) X
  refine fnD X.F_law SC_law fun cdv Ar outer s H E hgd hr => ?_
  have hu : (Ar.deeper (envOfC "law" (defScope S_law) s.heap.objs.size A.a_law cdv)).units + 64 < cLine := by have := hr.un; omega
  exact (dss_cons (ds_asg (de_call G__law_stock hgd (hr.mono (by decide)) (by rfl) X.g__law_stock X.F__law_stock.kp X.b__law_stock (fun _ _ h => h.1) (da_consR (den 0) da_nil)) (dgm 1 SC_law.nd))
      (dss_cons (ds_for PassesOwn.never rfl (di_range1 (by rfl) X.m_range (da_cons dv_int da_nil)) (dgm 2 SC_law.nd) (dss_cons (ds_asg (de_call G__law_group hgd (hr.mono (by decide)) (by rfl) X.g__law_group X.F__law_group.kp X.b__law_group (fun _ _ h => h.1) (da_consR (den 1) da_nil)) (dgm 3 SC_law.nd))
      (dss_cons (ds_asg (de_call G__law_card hgd (hr.mono (by decide)) (by rfl) X.g__law_card X.F__law_card.kp X.b__law_card (fun _ _ h => h.1) (da_consR (den 1) (da_cons dv_int da_nil))) (dgm 4 SC_law.nd))
      (dss_cons (ds_asg (de_t1 c_tuple (by rfl) X.m_tuple (by decide +kernel) (dl_v (dv_e (de_lc (own := [("_law_cell", 6)]) (vs := [6]) rfl SC_law.nd (di_any (dv_e (den 4))) (blkOk_by (own := [("_law_cell", 6)]) (N := N_law) (sc := defScope S_law) (by decide +kernel)) rfl (fun _ _ _ _ _ => (dgb 6 SC_law.nd)) (fun _ _ _ _ _ => dts_nil) (fun _ _ _ _ _ => (dv_e (de_call G__law_element hgd (hr.mono (by decide)) (by rfl) X.g__law_element X.F__law_element.kp X.b__law_element (fun _ _ h => h.1) (da_consR (den 1) (da_cons (dv_e (den 3)) da_nil))))))))) (dgm 5 SC_law.nd))
      (dss_cons (ds_asg (de_call G_room_strengths hgd (hr.mono (by decide)) (by rfl) X.g_room_strengths X.F_room_strengths.kp X.b_room_strengths (fun _ _ h => h.1) (da_cons (dv_e (den 4)) (da_cons (dv_e (den 3)) (da_cons (dv_e (den 5)) da_nil)))) (dgm 7 SC_law.nd))
      (dss_cons (ds_if (dt_w (dw_or (dt_not (dt_val (de_v (dv_isi isTy_tuple (by rfl) X.m_isinstance (by rfl) X.m_tuple (by decide +kernel) (dln 7))))) (dw_or1 (dt_cmp (oz_ne hu) (dl_v (dv_e (de_b1 c_lenY (by rfl) X.m_len (by decide +kernel) (dln 7)))) (dl_v (dv_e (de_b1 c_lenY (by rfl) X.m_len (by decide +kernel) (dl_v (dv_e (de_call G__law_states hgd (hr.mono (by decide)) (by rfl) X.g__law_states X.F__law_states.kp X.b__law_states (fun _ _ h => h.1) (da_cons (dv_e (den 4)) da_nil))))))))))) (dss_one (ds_ret (de_v dv_bl))) dss_nil)
      (dss_cons (ds_if (dt_not (dt_val (de_call G__law_is_carried hgd (hr.mono (by decide)) (by rfl) X.g__law_is_carried X.F__law_is_carried.kp X.b__law_is_carried (fun _ _ h => h.1) (da_consR (den 1) (da_cons (dv_e (den 4)) (da_cons (dv_e (den 3)) (da_cons (dv_e (den 5)) (da_cons (dv_e (den 7)) da_nil)))))))) (dss_one (ds_ret (de_v dv_bl))) dss_nil)
      (dss_cons (ds_asg (de_call G__law_turned hgd (hr.mono (by decide)) (by rfl) X.g__law_turned X.F__law_turned.kp X.b__law_turned (fun _ _ h => h.1) (da_consR (den 1) (da_cons (dv_e (de_b1 c_lenY (by rfl) X.m_len (by decide +kernel) (dln 3))) da_nil))) (dgm 8 SC_law.nd))
      (dss_cons (ds_asg (de_t1 c_tuple (by rfl) X.m_tuple (by decide +kernel) (dl_v (dv_e (de_lc (own := [("_law_at", 10)]) (vs := [10]) rfl SC_law.nd (di_any (dv_e (den 8))) (blkOk_by (own := [("_law_at", 10)]) (N := N_law) (sc := defScope S_law) (by decide +kernel)) rfl (fun _ _ _ _ _ => (dgb 10 SC_law.nd)) (fun _ _ _ _ _ => dts_nil) (fun _ _ _ _ _ => (dv_e (de_ixG hu (dln 3) (dln 10)))))))) (dgm 9 SC_law.nd))
      (dss_cons (ds_asg (de_lst da_nil) (dgm 11 SC_law.nd))
      (dss_cons (ds_for PassesOwn.never rfl (di_any (dv_e (den 5))) (dgm 12 SC_law.nd) (dss_one (ds_expr (de_v (dvap 11 (dv_e (de_t1 c_tuple (by rfl) X.m_tuple (by decide +kernel) (dl_v (dv_e (de_lc (own := [("_law_at", 10)]) (vs := [10]) rfl SC_law.nd (di_any (dv_e (den 8))) (blkOk_by (own := [("_law_at", 10)]) (N := N_law) (sc := defScope S_law) (by decide +kernel)) rfl (fun _ _ _ _ _ => (dgb 10 SC_law.nd)) (fun _ _ _ _ _ => dts_nil) (fun _ _ _ _ _ => (dv_e (de_ixG hu (dln 12) (dln 10))))))))))))))
      (dss_cons (ds_asg (de_lst (da_cons (dv_e (de_callK0 G_room_strengths hgd (hr.mono (by decide)) (by rfl) X.g_room_strengths X.F_room_strengths.kp (kb_room_strengths_0_marks_group_card X.F_room_strengths) kb_room_strengths_0_marks_group_card_rel kb_room_strengths_0_marks_group_card_s (fun zs h => kb_room_strengths_0_marks_group_card_len zs h) (dk_cons (dv_e (de_t1 c_tuple (by rfl) X.m_tuple (by decide +kernel) (dln 11))) (dk_cons (dv_e (den 9)) (dk_cons (dv_e (den 4)) dk_nil))))) da_nil)) (dgm 13 SC_law.nd))
      (dss_cons (ds_expr (de_v (dvap 13 (dv_e (de_call G_room_strengths hgd (hr.mono (by decide)) (by rfl) X.g_room_strengths X.F_room_strengths.kp X.b_room_strengths (fun _ _ h => h.1) (da_cons (dv_e (den 4)) (da_cons (dv_e (den 3)) (da_cons (dv_e (de_call G__law_units hgd (hr.mono (by decide)) (by rfl) X.g__law_units X.F__law_units.kp X.b__law_units (fun _ _ h => h.1) (da_consR (den 1) (da_cons (dv_e (den 3)) (da_cons (dv_e (den 5)) da_nil))))) da_nil))))))))
      (dss_cons (ds_expr (de_v (dvap 13 (dv_e (de_call G_room_strengths hgd (hr.mono (by decide)) (by rfl) X.g_room_strengths X.F_room_strengths.kp X.b_room_strengths (fun _ _ h => h.1) (da_cons (dv_e (den 4)) (da_cons (dv_e (den 3)) (da_cons (dv_e (de_call G__law_sheared hgd (hr.mono (by decide)) (by rfl) X.g__law_sheared X.F__law_sheared.kp X.b__law_sheared (fun _ _ h => h.1) (da_cons (dv_e (den 3)) (da_cons (dv_e (den 5)) da_nil)))) da_nil))))))))
      (dss_cons (ds_if (dt_cmp (oz_ne hu) (dl_v (dv_e (de_b1 (c_show hgd hu) (by rfl) X.m_repr (by decide +kernel) (dln 13)))) (dl_v (dv_e (de_b1 (c_show hgd hu) (by rfl) X.m_repr (by decide +kernel) (dl_v (dv_e (de_op oz_mul (dl_v (dv_e (de_lst (da_cons (dv_e (den 7)) da_nil)))) (dl_v dv_int)))))))) (dss_one (ds_ret (de_v dv_bl))) dss_nil)
      (dss_cons (ds_asg (de_op oz_mul (dl_v (dv_tup (da_cons (dv_e (de_t1 c_tuple (by rfl) X.m_tuple (by decide +kernel) (dl_v (dv_e (de_op oz_mul (dl_v (dv_e (de_lst (da_cons dv_int da_nil)))) (dl_v (dv_e (de_b1 c_lenY (by rfl) X.m_len (by decide +kernel) (dln 3))))))))) da_nil))) (dl_v (dv_e (de_b1 c_lenY (by rfl) X.m_len (by decide +kernel) (dln 4))))) (dgm 14 SC_law.nd))
      (dss_one (ds_if (dt_cmp (oz_ne hu) (dl_v (dv_e (de_b1 (c_show hgd hu) (by rfl) X.m_repr (by decide +kernel) (dl_v (dv_e (de_call G_room_strengths hgd (hr.mono (by decide)) (by rfl) X.g_room_strengths X.F_room_strengths.kp X.b_room_strengths (fun _ _ h => h.1) (da_cons (dv_e (den 4)) (da_cons (dv_e (den 3)) (da_cons (dv_e (den 14)) da_nil))))))))) (dl_v (dv_e (de_b1 (c_show hgd hu) (by rfl) X.m_repr (by decide +kernel) (dl_v (dv_e (de_op oz_mul (dl_v (dv_tup (da_cons dv_int da_nil))) (dl_v (dv_e (de_b1 c_lenY (by rfl) X.m_len (by decide +kernel) (dln 7))))))))))) (dss_one (ds_ret (de_v dv_bl))) dss_nil))))))))))))))))))
      (dss_one (ds_ret (de_cmp (oz_eq hu) (dl_v (dv_e (de_b1 (c_show hgd hu) (by rfl) X.m_repr (by decide +kernel) (dl_v (dv_e (de_call G_room_strengths hgd (hr.mono (by decide)) (by rfl) X.g_room_strengths X.F_room_strengths.kp X.b_room_strengths (fun _ _ h => h.1) (da_cons (dv_tup (da_cons dv_int (da_cons dv_int da_nil))) (da_cons (dv_tup (da_cons dv_int da_nil)) (da_cons (dv_tup (da_cons (dv_tup (da_cons dv_int da_nil)) (da_cons (dv_tup (da_cons dv_int da_nil)) da_nil))) da_nil))))))))) (dl_v (dv_e (de_b1 (c_show hgd hu) (by rfl) X.m_repr (by decide +kernel) (dl_v (dv_tup (da_cons dv_int (da_cons dv_int (da_cons dv_int (da_cons dv_int (da_cons dv_int (da_cons dv_int da_nil))))))))))))))))
end
end Lk

namespace Lk
open PySem PySem.Spec PyProof.Rows L2 Cl Sums
abbrev tL (rows : List (List Nat)) : List PyData := rows.map tN
theorem add3_eq : ∀ a b ns : List Nat, ((a.zip (b.zip ns)).map fun p => PyData.int ((((p.1 : Nat) : Int) + ((p.2.1 : Nat) : Int)) % ((p.2.2 : Nat) : Int))) = iN (add3 a b ns)
  | [], _, _ => rfl
  | _ :: _, [], _ => rfl
  | _ :: _, _ :: _, [] => rfl
  | x :: a, y :: b, m :: ns => by
    have ih := add3_eq a b ns
    show PyData.int (((x : Nat) + (y : Nat) : Int) % (m : Int)) :: ((a.zip (b.zip ns)).map _) = PyData.int (((x + y) % m : Nat) : Int) :: iN (add3 a b ns)
    rw [ih]
    congr 2
theorem added_spec {ns a b : List Nat} (hp : ∀ m ∈ ns, 1 ≤ m) (hl : ns.length ≤ 100) {Q : SV → Prop} (h : Q (.dat (tN (add3 a b ns)))) : C_added [.dat (tN ns), .dat (tN a), .dat (tN b)] Q := by
  refine ⟨rfl, ?_⟩
  show T_added _ [some (.dat (tN ns)), some (.dat (tN a)), some (.dat (tN b)), none, none, none]
  dsimp only [T_added, t_revL, t_sortsetL, t_sortsetT, t_lrange, t_trange, t_keep, frzAll, frzO, t_lensetS, t_wany, seqY, t_wzipT, seqT, t_gd0, t_disp, t_pcons, t_pnil, t_retdbox, t_dictP, t_sortK, t_callB, t_dnew1, t_pop, t_lenset, t_wseq, t_wzip3, t_astar, t_par3, t_dnew, t_dlist, t_dput, t_dget2, t_din, t_lenScr, t_raise1, t_callX, t_callKX, t_xf, t_isx, runX, t_seq, t_if, t_or, t_and, t_not, t_tst, t_v, t_f, t_l, t_c, t_c1, t_op, t_chain', t_ret, t_asg, t_for, t_wenum, t_wlist, t_wtup, t_wstr, t_wrng1, t_wrng2, t_drop, g_setix, t_wzip, t_lname, t_name, t_next, t_ifx, t_isi, t_notV, t_andV, t_orV, t_call, t_callK, t_acons, t_aconsR, t_anil, t_tupd, t_lstd, g_name, g_tup, g_cons, g_nil, t_drop, t_lc, t_yes, t_star1, t_retn, t_par, t_slice, t_some, t_no, t_dict0, t_rev, t_neg, t_extend, t_append, t_sliceScr, t_retbox, t_xcons, LV.get, CS.at_, SV.view, datsOf, Option.map_some, List.getElem?_cons_zero, List.getElem?_cons_succ, List.set_cons_zero, List.set_cons_succ, settled, initC, List.map_cons, List.map_nil, List.length_cons, List.length_nil, List.cons_append, List.nil_append, seqOf, runD, geY, leY, eqZ, neZ, addZ, listY, ltZ, inY, notinY, ixG, lenY, mulZ, max2X, min2X, isY, isnY, sortedX, ltY, gtY, inX, notinX, ordX, boolX, addX, subX, mulX, mulY, modX, fdivX, powX, ltX, leX, gtX, geX, eqY, neY, eqX, neX, isX, isnX, ixX, lenX, listX, tupleX, intX, strX, shX, sumX, sumY, maxX, minX, allX, absX, slX]
  rw [show rowsD (zipRs3 (iN a) (iN b) (iN ns)) = _ from zip3_rows _ _ _ _ _ _]
  refine lcD_M _ (fun p => PyData.int ((((p.1 : Nat) : Int) + ((p.2.1 : Nat) : Int)) % ((p.2.2 : Nat) : Int))) _ _ ?_ (fun p hp2 K N hK => ?_) ?_
  · rw [List.length_zip, List.length_zip, sizeLine_eq]; omega
  · obtain ⟨x, y, m⟩ := p
    have hm : 1 ≤ m := hp m (List.of_mem_zip (List.of_mem_zip hp2).2).2
    dsimp only [t_revL, t_sortsetL, t_sortsetT, t_lrange, t_trange, t_keep, frzAll, frzO, t_lensetS, t_wany, seqY, t_wzipT, seqT, t_gd0, t_disp, t_pcons, t_pnil, t_retdbox, t_dictP, t_sortK, t_callB, t_dnew1, t_pop, t_lenset, t_wseq, t_wzip3, t_astar, t_par3, t_dnew, t_dlist, t_dput, t_dget2, t_din, t_lenScr, t_raise1, t_callX, t_callKX, t_xf, t_isx, runX, t_seq, t_if, t_or, t_and, t_not, t_tst, t_v, t_f, t_l, t_c, t_c1, t_op, t_chain', t_ret, t_asg, t_for, t_wenum, t_wlist, t_wtup, t_wstr, t_wrng1, t_wrng2, t_drop, g_setix, t_wzip, t_lname, t_name, t_next, t_ifx, t_isi, t_notV, t_andV, t_orV, t_call, t_callK, t_acons, t_aconsR, t_anil, t_tupd, t_lstd, g_name, g_tup, g_cons, g_nil, t_drop, t_lc, t_yes, t_star1, t_retn, t_par, t_slice, t_some, t_no, t_dict0, t_rev, t_neg, t_extend, t_append, t_sliceScr, t_retbox, t_xcons, LV.get, CS.at_, SV.view, datsOf, Option.map_some, List.getElem?_cons_zero, List.getElem?_cons_succ, List.set_cons_zero, List.set_cons_succ, settled, initC, List.map_cons, List.map_nil, List.length_cons, List.length_nil, List.cons_append, List.nil_append, seqOf, runD, geY, leY, eqZ, neZ, addZ, listY, ltZ, inY, notinY, ixG, lenY, mulZ, max2X, min2X, isY, isnY, sortedX, ltY, gtY, inX, notinX, ordX, boolX, addX, subX, mulX, mulY, modX, fdivX, powX, ltX, leX, gtX, geX, eqY, neY, eqX, neX, isX, isnX, ixX, lenX, listX, tupleX, intX, strX, shX, sumX, sumY, maxX, minX, allX, absX, slX]
    refine ⟨rfl, by show 3 < 6; decide, by show 4 < 6; decide, by show 5 < 6; decide, rfl, ?_⟩
    refine iteT ⟨⟨_, rfl⟩, ⟨_, rfl⟩, ⟨_, rfl⟩, by omega, hK⟩
  · rw [add3_eq]
    exact h
/-- a group -/
structure Gp (ns : List Nat) : Prop where
  l1 : 1 ≤ ns.length
  l3 : ns.length ≤ 3
  b : ∀ m ∈ ns, 1 ≤ m
  p : pr ns ≤ 64
theorem fold_snoc (ms : List Nat) (m : Nat) : memF (ms ++ [m]) = stepN (memF ms) m := by
  rw [← memN_eq, ← memN_eq]
  simp [memN]
theorem eqv_iN : ∀ a b : List Nat, PyData.eqvAll (iN a) (iN b) = decide (a = b)
  | [], [] => by simp [iN, PyData.eqvAll]
  | x :: a, [] => by simp [iN, PyData.eqvAll]
  | [], y :: b => by simp [iN, PyData.eqvAll]
  | x :: a, y :: b => by
    have ih := eqv_iN a b
    rw [iN_cons, iN_cons]
    simp only [PyData.eqvAll, PyData.eqv, ih]
    by_cases h : x = y
    · subst h; simp
    · have e : (((x : Nat) : Int) == ((y : Nat) : Int)) = false := beq_eq_false_iff_ne.mpr (by omega)
      rw [e, decide_eq_false (fun z => h (List.cons.inj z).1)]
      rfl
theorem eqv_tN (a b : List Nat) : PyData.eqv (tN a) (tN b) = decide (a = b) := by
  simp only [PyData.eqv, eqv_iN]
theorem stepN_app (a b : List (List Nat)) (m : Nat) : stepN (a ++ b) m = stepN a m ++ stepN b m := by simp [stepN]
theorem stepN_num (rows : List (List Nat)) (m : Nat) : (stepN rows m).length = rows.length * m := by
  induction rows with
  | nil => simp [stepN]
  | cons r rs ih =>
    have e : stepN (r :: rs) m = ((List.range m).map fun k => r ++ [k]) ++ stepN rs m := by simp [stepN]
    rw [e, List.length_append, ih, List.length_map, List.length_range, List.length_cons, Nat.succ_mul, Nat.add_comm]
theorem pr_pre2 {a b : List Nat} {n : Nat} (hb : ∀ m ∈ b, 1 ≤ m) (h : pr (a ++ b) ≤ n) : pr a ≤ n := by
  rw [pr_app] at h
  have h2 : 1 ≤ pr b := pr_pos hb
  have h3 : pr a * 1 ≤ pr a * pr b := Nat.mul_le_mul_left _ h2
  omega
theorem pr_one {ms : List Nat} {n : Nat} (h1 : ∀ m ∈ ms, 1 ≤ m) (h : pr ms ≤ n) : ∀ m ∈ ms, m ≤ n := fun m hm => by
  obtain ⟨a, b, rfl⟩ := List.append_of_mem hm
  have ha : 1 ≤ pr a := pr_pos fun x hx => h1 x (List.mem_append_left _ hx)
  have hb : 1 ≤ pr b := pr_pos fun x hx => h1 x (List.mem_append_right _ (List.mem_cons_of_mem _ hx))
  rw [pr_app] at h
  have e : pr (m :: b) = m * pr b := rfl
  rw [e] at h
  have h3 : m * 1 ≤ m * pr b := Nat.mul_le_mul_left _ hb
  have h4 : 1 * (m * pr b) ≤ pr a * (m * pr b) := Nat.mul_le_mul_right _ ha
  omega
theorem members_spec {ms : List Nat} (h1 : ∀ m ∈ ms, 1 ≤ m) (hp : pr ms ≤ 64) (hl : ms.length ≤ 50) {d : PyData} (hd : seqOf d = some (iN ms)) {Q : SV → Prop} (h : Q (.own (tL (memF ms)))) : C__law_members [.dat d] Q := by
  refine ⟨rfl, ?_⟩
  show T__law_members _ [some (.dat d), none, none, none, none, none]
  refine seq_step (fun c => c = [some (.dat d), some (.own (tL (memF []))), none, none, none, none]) (fun N hN => ?_) ?_
  · dsimp only [t_revL, t_sortsetL, t_sortsetT, t_lrange, t_trange, t_keep, frzAll, frzO, t_lensetS, t_wany, seqY, t_wzipT, seqT, t_gd0, t_disp, t_pcons, t_pnil, t_retdbox, t_dictP, t_sortK, t_callB, t_dnew1, t_pop, t_lenset, t_wseq, t_wzip3, t_astar, t_par3, t_dnew, t_dlist, t_dput, t_dget2, t_din, t_lenScr, t_raise1, t_callX, t_callKX, t_xf, t_isx, runX, t_seq, t_if, t_or, t_and, t_not, t_tst, t_v, t_f, t_l, t_c, t_c1, t_op, t_chain', t_ret, t_asg, t_for, t_wenum, t_wlist, t_wtup, t_wstr, t_wrng1, t_wrng2, t_drop, g_setix, t_wzip, t_lname, t_name, t_next, t_ifx, t_isi, t_notV, t_andV, t_orV, t_call, t_callK, t_acons, t_aconsR, t_anil, t_tupd, t_lstd, g_name, g_tup, g_cons, g_nil, t_drop, t_lc, t_yes, t_star1, t_retn, t_par, t_slice, t_some, t_no, t_dict0, t_rev, t_neg, t_extend, t_append, t_sliceScr, t_retbox, t_xcons, LV.get, CS.at_, SV.view, datsOf, Option.map_some, List.getElem?_cons_zero, List.getElem?_cons_succ, List.set_cons_zero, List.set_cons_succ, settled, initC, List.map_cons, List.map_nil, List.length_cons, List.length_nil, List.cons_append, List.nil_append, seqOf, runD, geY, leY, eqZ, neZ, addZ, listY, ltZ, inY, notinY, ixG, lenY, mulZ, max2X, min2X, isY, isnY, sortedX, ltY, gtY, inX, notinX, ordX, boolX, addX, subX, mulX, mulY, modX, fdivX, powX, ltX, leX, gtX, geX, eqY, neY, eqX, neX, isX, isnX, ixX, lenX, listX, tupleX, intX, strX, shX, sumX, sumY, maxX, minX, allX, absX, slX]
    exact ⟨by decide, by decide, by show 1 < 6; decide, hN _ rfl⟩
  rintro c rfl
  refine seq_step (fun c => ∃ (x y z : Option SV), c = [some (.dat d), some (.own (tL (memF ms))), x, y, z, none]) (fun N hN => ?_) ?_
  · dsimp only [t_for, t_wany, t_f, t_name, List.getElem?_cons_zero, List.getElem?_cons_succ, SV.view, List.set_cons_zero, List.set_cons_succ]
    rw [show seqY d = some (iN ms) by cases d <;> first | exact hd | cases hd]
    dsimp only
    refine forD_A (xs := ms) (fun (n : Nat) => PyData.int (n : Nat)) (fun done cs => ∃ (x y z : Option SV), cs = [some (.dat d), some (.own (tL (memF done))), x, y, z, none]) ?_ ?_ ⟨none, none, none, rfl⟩
    · rintro cs ⟨x, y, z, rfl⟩
      exact hN _ ⟨x, y, z, rfl⟩
    · rintro done m todo cs N' e hN' ⟨x, y, z, rfl⟩
      have hm : m ≤ 64 := pr_one h1 hp m (by rw [e]; simp)
      have h1d : ∀ k ∈ m :: todo, 1 ≤ k := fun k hk => h1 k (by rw [e]; exact List.mem_append_right _ hk)
      have hdn : pr done ≤ 64 := pr_pre2 h1d (by rw [← e]; exact hp)
      have hdl : (memF done).length ≤ 64 := by rw [memF_len]; exact hdn
      have hrl : ∀ r ∈ memF done, r.length ≤ 50 := fun r hr => by
        rw [ltL_len (mem_memF.mp hr)]
        rw [e, List.length_append] at hl
        omega
      dsimp only [g_name, List.set_cons_zero, List.set_cons_succ]
      refine ⟨by show 2 < 6; decide, ?_⟩
      refine seq_step (fun c => c = [some (.dat d), some (.own (tL (memF done))), some (.dat (.int (m : Nat))), some (.own []), z, none]) (fun N2 hN2 => ?_) ?_
      · dsimp only [t_revL, t_sortsetL, t_sortsetT, t_lrange, t_trange, t_keep, frzAll, frzO, t_lensetS, t_wany, seqY, t_wzipT, seqT, t_gd0, t_disp, t_pcons, t_pnil, t_retdbox, t_dictP, t_sortK, t_callB, t_dnew1, t_pop, t_lenset, t_wseq, t_wzip3, t_astar, t_par3, t_dnew, t_dlist, t_dput, t_dget2, t_din, t_lenScr, t_raise1, t_callX, t_callKX, t_xf, t_isx, runX, t_seq, t_if, t_or, t_and, t_not, t_tst, t_v, t_f, t_l, t_c, t_c1, t_op, t_chain', t_ret, t_asg, t_for, t_wenum, t_wlist, t_wtup, t_wstr, t_wrng1, t_wrng2, t_drop, g_setix, t_wzip, t_lname, t_name, t_next, t_ifx, t_isi, t_notV, t_andV, t_orV, t_call, t_callK, t_acons, t_aconsR, t_anil, t_tupd, t_lstd, g_name, g_tup, g_cons, g_nil, t_drop, t_lc, t_yes, t_star1, t_retn, t_par, t_slice, t_some, t_no, t_dict0, t_rev, t_neg, t_extend, t_append, t_sliceScr, t_retbox, t_xcons, LV.get, CS.at_, SV.view, datsOf, Option.map_some, List.getElem?_cons_zero, List.getElem?_cons_succ, List.set_cons_zero, List.set_cons_succ, settled, initC, List.map_cons, List.map_nil, List.length_cons, List.length_nil, List.cons_append, List.nil_append, seqOf, runD, geY, leY, eqZ, neZ, addZ, listY, ltZ, inY, notinY, ixG, lenY, mulZ, max2X, min2X, isY, isnY, sortedX, ltY, gtY, inX, notinX, ordX, boolX, addX, subX, mulX, mulY, modX, fdivX, powX, ltX, leX, gtX, geX, eqY, neY, eqX, neX, isX, isnX, ixX, lenX, listX, tupleX, intX, strX, shX, sumX, sumY, maxX, minX, allX, absX, slX]
        exact ⟨by decide, by show 3 < 6; decide, hN2 _ rfl⟩
      rintro c rfl
      refine seq_step (fun c => ∃ (z : Option SV), c = [some (.dat d), some (.dat (.list (tL (memF done)))), some (.dat (.int (m : Nat))), some (.own (tL (stepN (memF done) m))), z, none]) (fun N2 hN2 => ?_) ?_
      · dsimp only [t_for, t_wany, seqY, t_f, t_name, List.getElem?_cons_zero, List.getElem?_cons_succ, SV.view, List.set_cons_zero, List.set_cons_succ, seqOf]
        refine forD_A (xs := memF done) tN (fun dn cs => ∃ (z : Option SV), cs = [some (.dat d), some (.dat (.list (tL (memF done)))), some (.dat (.int (m : Nat))), some (.own (tL (stepN dn m))), z, none]) ?_ ?_ ⟨z, rfl⟩
        · rintro cs ⟨z, rfl⟩
          exact hN2 _ ⟨z, rfl⟩
        · rintro dn r td cs N3 e3 hN3 ⟨z, rfl⟩
          have hr : r.length ≤ 50 := hrl r (by rw [e3]; simp)
          have hdn2 : dn.length < 64 := by rw [e3, List.length_append, List.length_cons] at hdl; omega
          dsimp only [t_revL, t_sortsetL, t_sortsetT, t_lrange, t_trange, t_keep, frzAll, frzO, t_lensetS, t_wany, seqY, t_wzipT, seqT, t_gd0, t_disp, t_pcons, t_pnil, t_retdbox, t_dictP, t_sortK, t_callB, t_dnew1, t_pop, t_lenset, t_wseq, t_wzip3, t_astar, t_par3, t_dnew, t_dlist, t_dput, t_dget2, t_din, t_lenScr, t_raise1, t_callX, t_callKX, t_xf, t_isx, runX, t_seq, t_if, t_or, t_and, t_not, t_tst, t_v, t_f, t_l, t_c, t_c1, t_op, t_chain', t_ret, t_asg, t_for, t_wenum, t_wlist, t_wtup, t_wstr, t_wrng1, t_wrng2, t_drop, g_setix, t_wzip, t_lname, t_name, t_next, t_ifx, t_isi, t_notV, t_andV, t_orV, t_call, t_callK, t_acons, t_aconsR, t_anil, t_tupd, t_lstd, g_name, g_tup, g_cons, g_nil, t_drop, t_lc, t_yes, t_star1, t_retn, t_par, t_slice, t_some, t_no, t_dict0, t_rev, t_neg, t_extend, t_append, t_sliceScr, t_retbox, t_xcons, LV.get, CS.at_, SV.view, datsOf, Option.map_some, List.getElem?_cons_zero, List.getElem?_cons_succ, List.set_cons_zero, List.set_cons_succ, settled, initC, List.map_cons, List.map_nil, List.length_cons, List.length_nil, List.cons_append, List.nil_append, seqOf, runD, geY, leY, eqZ, neZ, addZ, listY, ltZ, inY, notinY, ixG, lenY, mulZ, max2X, min2X, isY, isnY, sortedX, ltY, gtY, inX, notinX, ordX, boolX, addX, subX, mulX, mulY, modX, fdivX, powX, ltX, leX, gtX, geX, eqY, neY, eqX, neX, isX, isnX, ixX, lenX, listX, tupleX, intX, strX, shX, sumX, sumY, maxX, minX, allX, absX, slX]
          refine ⟨by show 4 < 6; decide, ⟨_, rfl⟩, by omega, by omega, ?_⟩
          rw [range_nat]
          refine lcD_M _ (fun k => tN (r ++ [k])) _ _ (by rw [List.length_range, sizeLine_eq]; omega) (fun k hk K N4 hK => ?_) ?_
          · dsimp only [t_revL, t_sortsetL, t_sortsetT, t_lrange, t_trange, t_keep, frzAll, frzO, t_lensetS, t_wany, seqY, t_wzipT, seqT, t_gd0, t_disp, t_pcons, t_pnil, t_retdbox, t_dictP, t_sortK, t_callB, t_dnew1, t_pop, t_lenset, t_wseq, t_wzip3, t_astar, t_par3, t_dnew, t_dlist, t_dput, t_dget2, t_din, t_lenScr, t_raise1, t_callX, t_callKX, t_xf, t_isx, runX, t_seq, t_if, t_or, t_and, t_not, t_tst, t_v, t_f, t_l, t_c, t_c1, t_op, t_chain', t_ret, t_asg, t_for, t_wenum, t_wlist, t_wtup, t_wstr, t_wrng1, t_wrng2, t_drop, g_setix, t_wzip, t_lname, t_name, t_next, t_ifx, t_isi, t_notV, t_andV, t_orV, t_call, t_callK, t_acons, t_aconsR, t_anil, t_tupd, t_lstd, g_name, g_tup, g_cons, g_nil, t_drop, t_lc, t_yes, t_star1, t_retn, t_par, t_slice, t_some, t_no, t_dict0, t_rev, t_neg, t_extend, t_append, t_sliceScr, t_retbox, t_xcons, LV.get, CS.at_, SV.view, datsOf, Option.map_some, List.getElem?_cons_zero, List.getElem?_cons_succ, List.set_cons_zero, List.set_cons_succ, settled, initC, List.map_cons, List.map_nil, List.length_cons, List.length_nil, List.cons_append, List.nil_append, seqOf, runD, geY, leY, eqZ, neZ, addZ, listY, ltZ, inY, notinY, ixG, lenY, mulZ, max2X, min2X, isY, isnY, sortedX, ltY, gtY, inX, notinX, ordX, boolX, addX, subX, mulX, mulY, modX, fdivX, powX, ltX, leX, gtX, geX, eqY, neY, eqX, neX, isX, isnX, ixX, lenX, listX, tupleX, intX, strX, shX, sumX, sumY, maxX, minX, allX, absX, slX]
            refine ⟨by show 5 < 6; decide, ?_⟩
            refine iteT ⟨⟨_, rfl⟩, by decide, ?_, ?_⟩
            · rw [iN_len, sizeLine_eq]
              show r.length + 1 ≤ _
              omega
            · have e1 : iN r ++ [PyData.int (k : Nat)] = iN (r ++ [k]) := by rw [iN_append]; rfl
              rw [e1]
              exact hK
          · have a1 := stepN_num dn m
            have b1 : dn.length * m ≤ 64 * 64 := Nat.mul_le_mul (by omega) (by omega)
            refine ⟨?_, by show 3 < 6; decide, hN3 _ ⟨some (.dat (tN r)), ?_⟩⟩
            · show (tL (stepN dn m)).length + ((List.range m).map fun k => tN (r ++ [k])).length ≤ sizeLine
              rw [List.length_map, List.length_map, List.length_range, a1, sizeLine_eq]
              omega
            · rw [stepN_app]
              have e2 : tL (stepN [r] m) = (List.range m).map fun k => tN (r ++ [k]) := by
                simp [stepN, tL, Function.comp_def]
              rw [show tL (stepN dn m ++ stepN [r] m) = tL (stepN dn m) ++ tL (stepN [r] m) from List.map_append, e2]
              rfl
      rintro c ⟨z, rfl⟩
      dsimp only [t_revL, t_sortsetL, t_sortsetT, t_lrange, t_trange, t_keep, frzAll, frzO, t_lensetS, t_wany, seqY, t_wzipT, seqT, t_gd0, t_disp, t_pcons, t_pnil, t_retdbox, t_dictP, t_sortK, t_callB, t_dnew1, t_pop, t_lenset, t_wseq, t_wzip3, t_astar, t_par3, t_dnew, t_dlist, t_dput, t_dget2, t_din, t_lenScr, t_raise1, t_callX, t_callKX, t_xf, t_isx, runX, t_seq, t_if, t_or, t_and, t_not, t_tst, t_v, t_f, t_l, t_c, t_c1, t_op, t_chain', t_ret, t_asg, t_for, t_wenum, t_wlist, t_wtup, t_wstr, t_wrng1, t_wrng2, t_drop, g_setix, t_wzip, t_lname, t_name, t_next, t_ifx, t_isi, t_notV, t_andV, t_orV, t_call, t_callK, t_acons, t_aconsR, t_anil, t_tupd, t_lstd, g_name, g_tup, g_cons, g_nil, t_drop, t_lc, t_yes, t_star1, t_retn, t_par, t_slice, t_some, t_no, t_dict0, t_rev, t_neg, t_extend, t_append, t_sliceScr, t_retbox, t_xcons, LV.get, CS.at_, SV.view, datsOf, Option.map_some, List.getElem?_cons_zero, List.getElem?_cons_succ, List.set_cons_zero, List.set_cons_succ, settled, initC, List.map_cons, List.map_nil, List.length_cons, List.length_nil, List.cons_append, List.nil_append, seqOf, runD, geY, leY, eqZ, neZ, addZ, listY, ltZ, inY, notinY, ixG, lenY, mulZ, max2X, min2X, isY, isnY, sortedX, ltY, gtY, inX, notinX, ordX, boolX, addX, subX, mulX, mulY, modX, fdivX, powX, ltX, leX, gtX, geX, eqY, neY, eqX, neX, isX, isnX, ixX, lenX, listX, tupleX, intX, strX, shX, sumX, sumY, maxX, minX, allX, absX, slX]
      rw [fold_snoc] at hN'
      exact ⟨⟨_, rfl⟩, by show 1 < 6; decide, hN' _ ⟨_, _, _, rfl⟩⟩
  rintro c ⟨x, y, z, rfl⟩
  exact h
theorem draw_spec {n : Int} {Q : SV → Prop} (h0 : 0 < n) (h1 : n < 2 ^ 60) (h : ∀ r : Nat, (r : Int) < n → Q (.dat (.int (r : Nat)))) : C__law_draw [.raw 1, .dat (.int n)] Q := ⟨rfl, n, rfl, h0, h1, fun r g0 g1 => by
  obtain ⟨k, rfl⟩ : ∃ k : Nat, r = (k : Nat) := ⟨r.toNat, by omega⟩
  exact h k g1⟩
theorem pick_spec (ds : List PyData) {Q : SV → Prop} (hn : ds ≠ []) (hl : ds.length < 2 ^ 60) (h : ∀ d ∈ ds, Q (.dat d)) : C__law_pick [.raw 1, .dat (.list ds)] Q := by
  refine ⟨rfl, ?_⟩
  show T__law_pick _ [some (.raw 1), some (.dat (.list ds))]
  dsimp only [T__law_pick, t_revL, t_sortsetL, t_sortsetT, t_lrange, t_trange, t_keep, frzAll, frzO, t_lensetS, t_wany, seqY, t_wzipT, seqT, t_gd0, t_disp, t_pcons, t_pnil, t_retdbox, t_dictP, t_sortK, t_callB, t_dnew1, t_pop, t_lenset, t_wseq, t_wzip3, t_astar, t_par3, t_dnew, t_dlist, t_dput, t_dget2, t_din, t_lenScr, t_raise1, t_callX, t_callKX, t_xf, t_isx, runX, t_seq, t_if, t_or, t_and, t_not, t_tst, t_v, t_f, t_l, t_c, t_c1, t_op, t_chain', t_ret, t_asg, t_for, t_wenum, t_wlist, t_wtup, t_wstr, t_wrng1, t_wrng2, t_drop, g_setix, t_wzip, t_lname, t_name, t_next, t_ifx, t_isi, t_notV, t_andV, t_orV, t_call, t_callK, t_acons, t_aconsR, t_anil, t_tupd, t_lstd, g_name, g_tup, g_cons, g_nil, t_drop, t_lc, t_yes, t_star1, t_retn, t_par, t_slice, t_some, t_no, t_dict0, t_rev, t_neg, t_extend, t_append, t_sliceScr, t_retbox, t_xcons, LV.get, CS.at_, SV.view, datsOf, Option.map_some, List.getElem?_cons_zero, List.getElem?_cons_succ, List.set_cons_zero, List.set_cons_succ, settled, initC, List.map_cons, List.map_nil, List.length_cons, List.length_nil, List.cons_append, List.nil_append, seqOf, runD, geY, leY, eqZ, neZ, addZ, listY, ltZ, inY, notinY, ixG, lenY, mulZ, max2X, min2X, isY, isnY, sortedX, ltY, gtY, inX, notinX, ordX, boolX, addX, subX, mulX, mulY, modX, fdivX, powX, ltX, leX, gtX, geX, eqY, neY, eqX, neX, isX, isnX, ixX, lenX, listX, tupleX, intX, strX, shX, sumX, sumY, maxX, minX, allX, absX, slX]
  refine ⟨⟨_, rfl⟩, rfl, ⟨_, rfl⟩, rfl, _, rfl, ?_, by omega, fun r h0 h1 => ?_⟩
  · have := List.length_pos_iff.mpr hn
    omega
  · dsimp only
    have hr : r.toNat < ds.length := by omega
    have e : atI ds r = some ds[r.toNat] := by
      unfold atI ixN
      rw [if_pos h0, if_pos h1]
      simp [hr]
    rw [e]
    exact h _ (List.getElem_mem hr)
def Al {α β : Type} (P : α → β → Prop) : List α → List β → Prop
  | x :: xs, y :: ys => P x y ∧ Al P xs ys
  | [], [] => True
  | _, _ => False
theorem Al.len {α β : Type} {P : α → β → Prop} : ∀ {xs : List α} {ys : List β}, Al P xs ys → ys.length = xs.length
  | [], [], _ => rfl
  | x :: xs, y :: ys, h => by rw [List.length_cons, List.length_cons, Al.len h.2]
  | [], _ :: _, h => h.elim
  | _ :: _, [], h => h.elim
theorem lcD_R {α β : Type} {vs : List Nat} {gt : TGD} {te : TVD} {Q : List PyData → CS → Prop} (e : α → PyData) (f : β → PyData) (P : α → β → Prop) (S : CS) : ∀ (xs : List α) (acc : List β), acc.length + xs.length ≤ sizeLine →
    (∀ x ∈ xs, ∀ (K : PyData → CS → Prop), (∀ y, P x y → K (f y) S) → gt (.dat (e x)) S fun cs1 => te cs1 (fun y cs3 => K y (wipeC cs3 vs))) →
    (∀ ys, Al P xs ys → Q ((acc ++ ys).map f) S) → lcD vs gt t_yes te Q (xs.map e) (acc.map f) S
  | [], acc, _, _, h => by
    have := h [] True.intro
    rw [List.append_nil] at this
    exact this
  | d :: ds, acc, hl, hs, h => by
    rw [List.length_cons] at hl
    refine hs d List.mem_cons_self (fun y cs => (acc.map f).length < sizeLine ∧ lcD vs gt t_yes te Q (ds.map e) (acc.map f ++ [y]) cs) fun y hy => ⟨by rw [List.length_map]; omega, ?_⟩
    have e1 : acc.map f ++ [f y] = (acc ++ [y]).map f := by simp
    rw [e1]
    refine lcD_R e f P S ds (acc ++ [y]) (by rw [List.length_append, List.length_singleton]; omega) (fun x hx => hs x (List.mem_cons_of_mem _ hx)) fun ys hys => ?_
    rw [List.append_assoc]
    exact h (y :: ys) ⟨hy, hys⟩
theorem element_spec {ns : List Nat} (hg : Gp ns) {Q : SV → Prop} (h : ∀ e, ltL e ns → Q (.dat (tN e))) : C__law_element [.raw 1, .dat (tN ns)] Q := by
  refine ⟨rfl, ?_⟩
  have l3 := hg.l3
  show T__law_element _ [some (.raw 1), some (.dat (tN ns)), none]
  dsimp only [T__law_element, t_revL, t_sortsetL, t_sortsetT, t_lrange, t_trange, t_keep, frzAll, frzO, t_lensetS, t_wany, seqY, t_wzipT, seqT, t_gd0, t_disp, t_pcons, t_pnil, t_retdbox, t_dictP, t_sortK, t_callB, t_dnew1, t_pop, t_lenset, t_wseq, t_wzip3, t_astar, t_par3, t_dnew, t_dlist, t_dput, t_dget2, t_din, t_lenScr, t_raise1, t_callX, t_callKX, t_xf, t_isx, runX, t_seq, t_if, t_or, t_and, t_not, t_tst, t_v, t_f, t_l, t_c, t_c1, t_op, t_chain', t_ret, t_asg, t_for, t_wenum, t_wlist, t_wtup, t_wstr, t_wrng1, t_wrng2, t_drop, g_setix, t_wzip, t_lname, t_name, t_next, t_ifx, t_isi, t_notV, t_andV, t_orV, t_call, t_callK, t_acons, t_aconsR, t_anil, t_tupd, t_lstd, g_name, g_tup, g_cons, g_nil, t_drop, t_lc, t_yes, t_star1, t_retn, t_par, t_slice, t_some, t_no, t_dict0, t_rev, t_neg, t_extend, t_append, t_sliceScr, t_retbox, t_xcons, LV.get, CS.at_, SV.view, datsOf, Option.map_some, List.getElem?_cons_zero, List.getElem?_cons_succ, List.set_cons_zero, List.set_cons_succ, settled, initC, List.map_cons, List.map_nil, List.length_cons, List.length_nil, List.cons_append, List.nil_append, seqOf, runD, geY, leY, eqZ, neZ, addZ, listY, ltZ, inY, notinY, ixG, lenY, mulZ, max2X, min2X, isY, isnY, sortedX, ltY, gtY, inX, notinX, ordX, boolX, addX, subX, mulX, mulY, modX, fdivX, powX, ltX, leX, gtX, geX, eqY, neY, eqX, neX, isX, isnX, ixX, lenX, listX, tupleX, intX, strX, shX, sumX, sumY, maxX, minX, allX, absX, slX]
  refine lcD_R (xs := ns) (acc := []) (fun (n : Nat) => PyData.int (n : Nat)) (fun (n : Nat) => PyData.int (n : Nat)) (fun m y => y < m) _ (by rw [sizeLine_eq]; show 0 + _ ≤ _; omega) (fun m hm K hK => ?_) fun ys hy => ?_
  · have hm1 := hg.b m hm
    have hm2 := pr_one hg.b hg.p m hm
    dsimp only [t_revL, t_sortsetL, t_sortsetT, t_lrange, t_trange, t_keep, frzAll, frzO, t_lensetS, t_wany, seqY, t_wzipT, seqT, t_gd0, t_disp, t_pcons, t_pnil, t_retdbox, t_dictP, t_sortK, t_callB, t_dnew1, t_pop, t_lenset, t_wseq, t_wzip3, t_astar, t_par3, t_dnew, t_dlist, t_dput, t_dget2, t_din, t_lenScr, t_raise1, t_callX, t_callKX, t_xf, t_isx, runX, t_seq, t_if, t_or, t_and, t_not, t_tst, t_v, t_f, t_l, t_c, t_c1, t_op, t_chain', t_ret, t_asg, t_for, t_wenum, t_wlist, t_wtup, t_wstr, t_wrng1, t_wrng2, t_drop, g_setix, t_wzip, t_lname, t_name, t_next, t_ifx, t_isi, t_notV, t_andV, t_orV, t_call, t_callK, t_acons, t_aconsR, t_anil, t_tupd, t_lstd, g_name, g_tup, g_cons, g_nil, t_drop, t_lc, t_yes, t_star1, t_retn, t_par, t_slice, t_some, t_no, t_dict0, t_rev, t_neg, t_extend, t_append, t_sliceScr, t_retbox, t_xcons, LV.get, CS.at_, SV.view, datsOf, Option.map_some, List.getElem?_cons_zero, List.getElem?_cons_succ, List.set_cons_zero, List.set_cons_succ, settled, initC, List.map_cons, List.map_nil, List.length_cons, List.length_nil, List.cons_append, List.nil_append, seqOf, runD, geY, leY, eqZ, neZ, addZ, listY, ltZ, inY, notinY, ixG, lenY, mulZ, max2X, min2X, isY, isnY, sortedX, ltY, gtY, inX, notinX, ordX, boolX, addX, subX, mulX, mulY, modX, fdivX, powX, ltX, leX, gtX, geX, eqY, neY, eqX, neX, isX, isnX, ixX, lenX, listX, tupleX, intX, strX, shX, sumX, sumY, maxX, minX, allX, absX, slX]
    exact ⟨by show 2 < 3; decide, rfl, draw_spec (by omega) (by omega) fun r hr => hK r (by omega)⟩
  · rw [List.nil_append]
    refine h ys ?_
    clear h hg l3
    induction ns generalizing ys with
    | nil => cases ys <;> first | exact True.intro | exact hy.elim
    | cons m ns ih =>
      cases ys with
      | nil => exact hy.elim
      | cons y ys => exact ⟨hy.1, ih ys hy.2⟩
theorem can_tL : ∀ L : List (List Nat), PyData.canLayAll0 (tL L) = true
  | [] => by simp [PyData.canLayAll0]
  | x :: L => by
    have ih := can_tL L
    have h := can_iN x
    rw [show tL (x :: L) = tN x :: tL L from rfl]
    simp [PyData.canLayAll0, PyData.canLay0, ih, h]
theorem depth_tL : ∀ L : List (List Nat), PyData.depthAll (tL L) ≤ 1
  | [] => by simp [PyData.depthAll]
  | x :: L => by
    have ih := depth_tL L
    have h := depth_iN x
    rw [show tL (x :: L) = tN x :: tL L from rfl]
    simp only [PyData.depthAll, PyData.depth, h]
    omega
theorem inOk_tL (x : List Nat) (L : List (List Nat)) : inOk (tN x) (tL L) := by
  refine ⟨can_tL L, ?_, ?_⟩
  · have := can_iN x
    simp [PyData.canLay0, this]
  · have := depth_tL L
    omega
theorem Gp.le {ns : List Nat} (hg : Gp ns) : ∀ m ∈ ns, m ≤ 64 := pr_one hg.b hg.p
theorem lengthened_spec {rows : List (List Nat)} {m : Nat} (h1 : m ≤ 64) (hl : rows.length ≤ 64) (hw : ∀ r ∈ rows, r.length < 100) {Q : SV → Prop} (h : Q (.own (tL (stepN rows m)))) : C_lengthened [.dat (.list (tL rows)), .dat (.int (m : Nat))] Q := by
  refine ⟨rfl, ?_⟩
  show T_lengthened _ [some (.dat (.list (tL rows))), some (.dat (.int (m : Nat))), none, none, none]
  refine seq_step (fun c => c = [some (.dat (.list (tL rows))), some (.dat (.int (m : Nat))), some (.own (tL (stepN [] m))), none, none]) (fun N hN => ?_) ?_
  · dsimp only [t_revL, t_sortsetL, t_sortsetT, t_lrange, t_trange, t_keep, frzAll, frzO, t_lensetS, t_wany, seqY, t_wzipT, seqT, t_gd0, t_disp, t_pcons, t_pnil, t_retdbox, t_dictP, t_sortK, t_callB, t_dnew1, t_pop, t_lenset, t_wseq, t_wzip3, t_astar, t_par3, t_dnew, t_dlist, t_dput, t_dget2, t_din, t_lenScr, t_raise1, t_callX, t_callKX, t_xf, t_isx, runX, t_seq, t_if, t_or, t_and, t_not, t_tst, t_v, t_f, t_l, t_c, t_c1, t_op, t_chain', t_ret, t_asg, t_for, t_wenum, t_wlist, t_wtup, t_wstr, t_wrng1, t_wrng2, t_drop, g_setix, t_wzip, t_lname, t_name, t_next, t_ifx, t_isi, t_notV, t_andV, t_orV, t_call, t_callK, t_acons, t_aconsR, t_anil, t_tupd, t_lstd, g_name, g_tup, g_cons, g_nil, t_drop, t_lc, t_yes, t_star1, t_retn, t_par, t_slice, t_some, t_no, t_dict0, t_rev, t_neg, t_extend, t_append, t_sliceScr, t_retbox, t_xcons, LV.get, CS.at_, SV.view, datsOf, Option.map_some, List.getElem?_cons_zero, List.getElem?_cons_succ, List.set_cons_zero, List.set_cons_succ, settled, initC, List.map_cons, List.map_nil, List.length_cons, List.length_nil, List.cons_append, List.nil_append, seqOf, runD, geY, leY, eqZ, neZ, addZ, listY, ltZ, inY, notinY, ixG, lenY, mulZ, max2X, min2X, isY, isnY, sortedX, ltY, gtY, inX, notinX, ordX, boolX, addX, subX, mulX, mulY, modX, fdivX, powX, ltX, leX, gtX, geX, eqY, neY, eqX, neX, isX, isnX, ixX, lenX, listX, tupleX, intX, strX, shX, sumX, sumY, maxX, minX, allX, absX, slX]
    exact ⟨by decide, by show 2 < 5; decide, hN _ rfl⟩
  rintro c rfl
  refine seq_step (fun c => ∃ x, c = [some (.dat (.list (tL rows))), some (.dat (.int (m : Nat))), some (.own (tL (stepN rows m))), x, none]) (fun N hN => ?_) ?_
  · dsimp only [t_for, t_wany, seqY, t_f, t_name, List.getElem?_cons_zero, List.getElem?_cons_succ, SV.view]
    refine forD_A (xs := rows) tN (fun done c => ∃ x, c = [some (.dat (.list (tL rows))), some (.dat (.int (m : Nat))), some (.own (tL (stepN done m))), x, none]) ?_ ?_ ⟨none, rfl⟩
    · rintro cs ⟨x, rfl⟩
      exact hN _ ⟨x, rfl⟩
    · rintro dn r td cs N3 e3 hN3 ⟨x, rfl⟩
      have hr : r.length < 100 := hw r (by rw [e3]; simp)
      have hdn2 : dn.length < 64 := by rw [e3, List.length_append, List.length_cons] at hl; omega
      dsimp only [t_revL, t_sortsetL, t_sortsetT, t_lrange, t_trange, t_keep, frzAll, frzO, t_lensetS, t_wany, seqY, t_wzipT, seqT, t_gd0, t_disp, t_pcons, t_pnil, t_retdbox, t_dictP, t_sortK, t_callB, t_dnew1, t_pop, t_lenset, t_wseq, t_wzip3, t_astar, t_par3, t_dnew, t_dlist, t_dput, t_dget2, t_din, t_lenScr, t_raise1, t_callX, t_callKX, t_xf, t_isx, runX, t_seq, t_if, t_or, t_and, t_not, t_tst, t_v, t_f, t_l, t_c, t_c1, t_op, t_chain', t_ret, t_asg, t_for, t_wenum, t_wlist, t_wtup, t_wstr, t_wrng1, t_wrng2, t_drop, g_setix, t_wzip, t_lname, t_name, t_next, t_ifx, t_isi, t_notV, t_andV, t_orV, t_call, t_callK, t_acons, t_aconsR, t_anil, t_tupd, t_lstd, g_name, g_tup, g_cons, g_nil, t_drop, t_lc, t_yes, t_star1, t_retn, t_par, t_slice, t_some, t_no, t_dict0, t_rev, t_neg, t_extend, t_append, t_sliceScr, t_retbox, t_xcons, LV.get, CS.at_, SV.view, datsOf, Option.map_some, List.getElem?_cons_zero, List.getElem?_cons_succ, List.set_cons_zero, List.set_cons_succ, settled, initC, List.map_cons, List.map_nil, List.length_cons, List.length_nil, List.cons_append, List.nil_append, seqOf, runD, geY, leY, eqZ, neZ, addZ, listY, ltZ, inY, notinY, ixG, lenY, mulZ, max2X, min2X, isY, isnY, sortedX, ltY, gtY, inX, notinX, ordX, boolX, addX, subX, mulX, mulY, modX, fdivX, powX, ltX, leX, gtX, geX, eqY, neY, eqX, neX, isX, isnX, ixX, lenX, listX, tupleX, intX, strX, shX, sumX, sumY, maxX, minX, allX, absX, slX]
      refine ⟨by show 3 < 5; decide, ⟨_, rfl⟩, by omega, by omega, ?_⟩
      rw [range_nat]
      refine lcD_M _ (fun k => tN (r ++ [k])) _ _ (by rw [List.length_range, sizeLine_eq]; omega) (fun k hk K N4 hK => ?_) ?_
      · dsimp only [t_revL, t_sortsetL, t_sortsetT, t_lrange, t_trange, t_keep, frzAll, frzO, t_lensetS, t_wany, seqY, t_wzipT, seqT, t_gd0, t_disp, t_pcons, t_pnil, t_retdbox, t_dictP, t_sortK, t_callB, t_dnew1, t_pop, t_lenset, t_wseq, t_wzip3, t_astar, t_par3, t_dnew, t_dlist, t_dput, t_dget2, t_din, t_lenScr, t_raise1, t_callX, t_callKX, t_xf, t_isx, runX, t_seq, t_if, t_or, t_and, t_not, t_tst, t_v, t_f, t_l, t_c, t_c1, t_op, t_chain', t_ret, t_asg, t_for, t_wenum, t_wlist, t_wtup, t_wstr, t_wrng1, t_wrng2, t_drop, g_setix, t_wzip, t_lname, t_name, t_next, t_ifx, t_isi, t_notV, t_andV, t_orV, t_call, t_callK, t_acons, t_aconsR, t_anil, t_tupd, t_lstd, g_name, g_tup, g_cons, g_nil, t_drop, t_lc, t_yes, t_star1, t_retn, t_par, t_slice, t_some, t_no, t_dict0, t_rev, t_neg, t_extend, t_append, t_sliceScr, t_retbox, t_xcons, LV.get, CS.at_, SV.view, datsOf, Option.map_some, List.getElem?_cons_zero, List.getElem?_cons_succ, List.set_cons_zero, List.set_cons_succ, settled, initC, List.map_cons, List.map_nil, List.length_cons, List.length_nil, List.cons_append, List.nil_append, seqOf, runD, geY, leY, eqZ, neZ, addZ, listY, ltZ, inY, notinY, ixG, lenY, mulZ, max2X, min2X, isY, isnY, sortedX, ltY, gtY, inX, notinX, ordX, boolX, addX, subX, mulX, mulY, modX, fdivX, powX, ltX, leX, gtX, geX, eqY, neY, eqX, neX, isX, isnX, ixX, lenX, listX, tupleX, intX, strX, shX, sumX, sumY, maxX, minX, allX, absX, slX]
        refine ⟨by show 4 < 5; decide, ?_⟩
        refine iteT ⟨by rw [iN_len, sizeLine_eq]; omega, ?_⟩
        have e1 : iN r ++ [PyData.int (k : Nat)] = iN (r ++ [k]) := by rw [iN_append]; rfl
        rw [e1]
        exact hK
      · have a1 := stepN_num dn m
        have b1 : dn.length * m ≤ 64 * 64 := Nat.mul_le_mul (by omega) (by omega)
        rw [restC_wipe]
        have e2 : tL (stepN (dn ++ [r]) m) = tL (stepN dn m) ++ (List.range m).map fun k => tN (r ++ [k]) := by
          rw [stepN_app, show tL (stepN dn m ++ stepN [r] m) = tL (stepN dn m) ++ tL (stepN [r] m) from List.map_append]
          simp [stepN, tL, Function.comp_def]
        refine ⟨?_, hN3 _ ⟨some (.dat (tN r)), ?_⟩⟩
        · rw [List.length_map, List.length_map, List.length_range, a1, sizeLine_eq]
          omega
        · rw [e2]
          rfl
  rintro c ⟨x, rfl⟩
  exact h
theorem gmembers_spec {ns : List Nat} (hg : Gp ns) {Q : SV → Prop} (h : Q (.dat (.tuple (tL (memF ns))))) : C_group_members [.dat (tN ns)] Q := by
  refine ⟨rfl, ?_⟩
  have l3 := hg.l3
  have hp := hg.p
  show T_group_members _ [some (.dat (tN ns)), none, none]
  refine seq_step (fun c => c = [some (.dat (tN ns)), some (.own (tL (memF []))), none]) (fun N hN => ?_) ?_
  · dsimp only [t_revL, t_sortsetL, t_sortsetT, t_lrange, t_trange, t_keep, frzAll, frzO, t_lensetS, t_wany, seqY, t_wzipT, seqT, t_gd0, t_disp, t_pcons, t_pnil, t_retdbox, t_dictP, t_sortK, t_callB, t_dnew1, t_pop, t_lenset, t_wseq, t_wzip3, t_astar, t_par3, t_dnew, t_dlist, t_dput, t_dget2, t_din, t_lenScr, t_raise1, t_callX, t_callKX, t_xf, t_isx, runX, t_seq, t_if, t_or, t_and, t_not, t_tst, t_v, t_f, t_l, t_c, t_c1, t_op, t_chain', t_ret, t_asg, t_for, t_wenum, t_wlist, t_wtup, t_wstr, t_wrng1, t_wrng2, t_drop, g_setix, t_wzip, t_lname, t_name, t_next, t_ifx, t_isi, t_notV, t_andV, t_orV, t_call, t_callK, t_acons, t_aconsR, t_anil, t_tupd, t_lstd, g_name, g_tup, g_cons, g_nil, t_drop, t_lc, t_yes, t_star1, t_retn, t_par, t_slice, t_some, t_no, t_dict0, t_rev, t_neg, t_extend, t_append, t_sliceScr, t_retbox, t_xcons, LV.get, CS.at_, SV.view, datsOf, Option.map_some, List.getElem?_cons_zero, List.getElem?_cons_succ, List.set_cons_zero, List.set_cons_succ, settled, initC, List.map_cons, List.map_nil, List.length_cons, List.length_nil, List.cons_append, List.nil_append, seqOf, runD, geY, leY, eqZ, neZ, addZ, listY, ltZ, inY, notinY, ixG, lenY, mulZ, max2X, min2X, isY, isnY, sortedX, ltY, gtY, inX, notinX, ordX, boolX, addX, subX, mulX, mulY, modX, fdivX, powX, ltX, leX, gtX, geX, eqY, neY, eqX, neX, isX, isnX, ixX, lenX, listX, tupleX, intX, strX, shX, sumX, sumY, maxX, minX, allX, absX, slX]
    exact ⟨by decide, by decide, by show 1 < 3; decide, hN _ rfl⟩
  rintro c rfl
  refine seq_step (fun c => ∃ x, c = [some (.dat (tN ns)), some (.own (tL (memF ns))), x]) (fun N hN => ?_) ?_
  · dsimp only [t_for, t_wtup, t_f, t_name, List.getElem?_cons_zero, List.getElem?_cons_succ, SV.view]
    refine forD_A (xs := ns) (fun (n : Nat) => PyData.int (n : Nat)) (fun done c => ∃ x, c = [some (.dat (tN ns)), some (.own (tL (memF done))), x]) ?_ ?_ ⟨none, rfl⟩
    · rintro cs ⟨x, rfl⟩
      exact hN _ ⟨x, rfl⟩
    · rintro done m todo cs N' e hN' ⟨x, rfl⟩
      have hm := hg.le m (by rw [e]; simp)
      have h1d : ∀ k ∈ m :: todo, 1 ≤ k := fun k hk => hg.b k (by rw [e]; exact List.mem_append_right _ hk)
      have hdn : pr done ≤ 64 := pr_pre2 h1d (by rw [← e]; exact hp)
      rw [fold_snoc] at hN'
      dsimp only [t_revL, t_sortsetL, t_sortsetT, t_lrange, t_trange, t_keep, frzAll, frzO, t_lensetS, t_wany, seqY, t_wzipT, seqT, t_gd0, t_disp, t_pcons, t_pnil, t_retdbox, t_dictP, t_sortK, t_callB, t_dnew1, t_pop, t_lenset, t_wseq, t_wzip3, t_astar, t_par3, t_dnew, t_dlist, t_dput, t_dget2, t_din, t_lenScr, t_raise1, t_callX, t_callKX, t_xf, t_isx, runX, t_seq, t_if, t_or, t_and, t_not, t_tst, t_v, t_f, t_l, t_c, t_c1, t_op, t_chain', t_ret, t_asg, t_for, t_wenum, t_wlist, t_wtup, t_wstr, t_wrng1, t_wrng2, t_drop, g_setix, t_wzip, t_lname, t_name, t_next, t_ifx, t_isi, t_notV, t_andV, t_orV, t_call, t_callK, t_acons, t_aconsR, t_anil, t_tupd, t_lstd, g_name, g_tup, g_cons, g_nil, t_drop, t_lc, t_yes, t_star1, t_retn, t_par, t_slice, t_some, t_no, t_dict0, t_rev, t_neg, t_extend, t_append, t_sliceScr, t_retbox, t_xcons, LV.get, CS.at_, SV.view, datsOf, Option.map_some, List.getElem?_cons_zero, List.getElem?_cons_succ, List.set_cons_zero, List.set_cons_succ, settled, initC, List.map_cons, List.map_nil, List.length_cons, List.length_nil, List.cons_append, List.nil_append, seqOf, runD, geY, leY, eqZ, neZ, addZ, listY, ltZ, inY, notinY, ixG, lenY, mulZ, max2X, min2X, isY, isnY, sortedX, ltY, gtY, inX, notinX, ordX, boolX, addX, subX, mulX, mulY, modX, fdivX, powX, ltX, leX, gtX, geX, eqY, neY, eqX, neX, isX, isnX, ixX, lenX, listX, tupleX, intX, strX, shX, sumX, sumY, maxX, minX, allX, absX, slX]
      refine ⟨by show 2 < 3; decide, lengthened_spec hm (by rw [memF_len]; exact hdn) (fun r hr => ?_) ⟨by show 1 < 3; decide, hN' _ ⟨_, rfl⟩⟩⟩
      rw [ltL_len (mem_memF.mp hr)]
      have := congrArg List.length e
      rw [List.length_append] at this
      omega
  rintro c ⟨x, rfl⟩
  exact ⟨⟨_, rfl⟩, h⟩
open Cards (st sz rowsOf leL valA st_len st_le val_st st_val rows_snoc rows_len rows_mem mem_rows rows_at snoc_ind sz_append sz_snoc leL_len step step_len step_append leL_append leL_le leL_refl sz_pos)
/-- a card that the law takes -/
structure Crd (cs : List Nat) : Prop where
  top : ∀ t ∈ cs, t ≤ 7
  len : cs.length ≤ 6
  one : 1 ≤ cs.length
  sz : sz cs ≤ 512
def rT (cs : List Nat) (n : Nat) : List PyData := (List.range n).map fun k => tN (st cs k)
def tR (cs : List Nat) : List PyData := rT cs (sz cs)
theorem tR_eq (cs : List Nat) : tR cs = (Cards.rowsOf cs).map tN := by simp [tR, rT, Cards.rowsOf]
def tI (rows : List (List Nat)) : List PyData := rows.map tN
theorem tI_append (a b : List (List Nat)) : tI (a ++ b) = tI a ++ tI b := List.map_append
theorem row_ext (r : List Nat) (t : Nat) : ((rangeD 0 ((t : Nat) + 1 : Int)).map fun d => match d with
    | .int k => PyData.tuple (iN r ++ [.int k])
    | _ => d) = tI (Cards.step [r] (t + 1)) := by
  unfold rangeD tI Cards.step
  rw [show (((t : Nat) : Int) + 1 - 0).toNat = t + 1 by omega]
  simp [iN]
theorem states_spec {cs : List Nat} (hc : Crd cs) {Q : SV → Prop} (h : Q (.dat (.tuple (tR cs)))) : C_states [.dat (tN cs)] Q := by
  refine ⟨rfl, ?_⟩
  have hsz := hc.sz
  show T_states _ [some (.dat (tN cs)), none, none, none, none, none]
  dsimp only [T_states, t_revL, t_sortsetL, t_sortsetT, t_lrange, t_trange, t_keep, frzAll, frzO, t_lensetS, t_wany, seqY, t_wzipT, seqT, t_gd0, t_disp, t_pcons, t_pnil, t_retdbox, t_dictP, t_sortK, t_callB, t_dnew1, t_pop, t_lenset, t_wseq, t_wzip3, t_astar, t_par3, t_dnew, t_dlist, t_dput, t_dget2, t_din, t_lenScr, t_raise1, t_callX, t_callKX, t_xf, t_isx, runX, t_seq, t_if, t_or, t_and, t_not, t_tst, t_v, t_f, t_l, t_c, t_c1, t_op, t_chain', t_ret, t_asg, t_for, t_wenum, t_wlist, t_wtup, t_wstr, t_wrng1, t_wrng2, t_drop, g_setix, t_wzip, t_lname, t_name, t_next, t_ifx, t_isi, t_notV, t_andV, t_orV, t_call, t_callK, t_acons, t_aconsR, t_anil, t_tupd, t_lstd, g_name, g_tup, g_cons, g_nil, t_drop, t_lc, t_yes, t_star1, t_retn, t_par, t_slice, t_some, t_no, t_dict0, t_rev, t_neg, t_extend, t_append, t_sliceScr, t_retbox, t_xcons, LV.get, CS.at_, SV.view, datsOf, Option.map_some, List.getElem?_cons_zero, List.getElem?_cons_succ, List.set_cons_zero, List.set_cons_succ, settled, initC, List.map_cons, List.map_nil, List.length_cons, List.length_nil, List.cons_append, List.nil_append, seqOf, runD, geY, leY, eqZ, neZ, addZ, listY, ltZ, inY, notinY, ixG, lenY, mulZ, max2X, min2X, isY, isnY, sortedX, ltY, gtY, inX, notinX, ordX, boolX, addX, subX, mulX, mulY, modX, fdivX, powX, ltX, leX, gtX, geX, eqY, neY, eqX, neX, isX, isnX, ixX, lenX, listX, tupleX, intX, strX, shX, sumX, sumY, maxX, minX, allX, absX, slX]
  refine ⟨by decide, by decide, by simp, ?_⟩
  refine forD_ind (I := fun ds css => ∃ a b x y z, cs = a ++ b ∧ ds = iN b ∧ css = [some (.dat (tN cs)), some (.own (tI (rowsOf a))), x, y, z, none]) ?_ ?_ _ _ ⟨[], cs, none, none, none, rfl, rfl, rfl⟩
  · rintro css ⟨a, b, x, y, z, e, e2, rfl⟩
    cases b with
    | cons t ts => cases e2
    | nil =>
      rw [List.append_nil] at e
      subst e
      refine ⟨⟨_, rfl⟩, ?_⟩
      rw [tR_eq] at h
      exact h
  · rintro d ds css N hN ⟨a, b, x, y, z, e, e2, rfl⟩
    cases b with
    | nil => cases e2
    | cons t b =>
      cases e2
      have e : cs = (a ++ [t]) ++ b := by rw [e]; simp
      have hbig : sz (a ++ [t]) * 1 ≤ sz cs := by rw [e, sz_append (a ++ [t]) b]; exact Nat.mul_le_mul_left _ (sz_pos b)
      have hbig2 : sz (a ++ [t]) ≤ 512 := by omega
      have ha2 : sz a * (t + 1) ≤ 512 := by rw [← sz_snoc]; exact hbig2
      have ht : t ≤ 7 := hc.top t (by rw [e]; simp)
      dsimp only [t_revL, t_sortsetL, t_sortsetT, t_lrange, t_trange, t_keep, frzAll, frzO, t_lensetS, t_wany, seqY, t_wzipT, seqT, t_gd0, t_disp, t_pcons, t_pnil, t_retdbox, t_dictP, t_sortK, t_callB, t_dnew1, t_pop, t_lenset, t_wseq, t_wzip3, t_astar, t_par3, t_dnew, t_dlist, t_dput, t_dget2, t_din, t_lenScr, t_raise1, t_callX, t_callKX, t_xf, t_isx, runX, t_seq, t_if, t_or, t_and, t_not, t_tst, t_v, t_f, t_l, t_c, t_c1, t_op, t_chain', t_ret, t_asg, t_for, t_wenum, t_wlist, t_wtup, t_wstr, t_wrng1, t_wrng2, t_drop, g_setix, t_wzip, t_lname, t_name, t_next, t_ifx, t_isi, t_notV, t_andV, t_orV, t_call, t_callK, t_acons, t_aconsR, t_anil, t_tupd, t_lstd, g_name, g_tup, g_cons, g_nil, t_drop, t_lc, t_yes, t_star1, t_retn, t_par, t_slice, t_some, t_no, t_dict0, t_rev, t_neg, t_extend, t_append, t_sliceScr, t_retbox, t_xcons, LV.get, CS.at_, SV.view, datsOf, Option.map_some, List.getElem?_cons_zero, List.getElem?_cons_succ, List.set_cons_zero, List.set_cons_succ, settled, initC, List.map_cons, List.map_nil, List.length_cons, List.length_nil, List.cons_append, List.nil_append, seqOf, runD, geY, leY, eqZ, neZ, addZ, listY, ltZ, inY, notinY, ixG, lenY, mulZ, max2X, min2X, isY, isnY, sortedX, ltY, gtY, inX, notinX, ordX, boolX, addX, subX, mulX, mulY, modX, fdivX, powX, ltX, leX, gtX, geX, eqY, neY, eqX, neX, isX, isnX, ixX, lenX, listX, tupleX, intX, strX, shX, sumX, sumY, maxX, minX, allX, absX, slX]
      refine ⟨by show 2 < 6; decide, by decide, by show 3 < 6; decide, ?_⟩
      refine forD_ind (I := fun ds css => ∃ done todo x, rowsOf a = done ++ todo ∧ ds = tI todo ∧ css = [some (.dat (tN cs)), some (.dat (.list (tI (rowsOf a)))), some (.dat (.int (t : Nat))), some (.own (tI (Cards.step done (t + 1)))), x, none]) ?_ ?_ _ _ ⟨[], rowsOf a, z, rfl, rfl, rfl⟩
      · rintro css ⟨done, todo, x, e3, e4, rfl⟩
        cases todo with
        | cons r rs => cases e4
        | nil =>
          rw [List.append_nil] at e3
          subst e3
          refine ⟨⟨_, rfl⟩, by show 1 < 6; decide, ?_⟩
          refine hN _ ⟨a ++ [t], b, some (.dat (.int (t : Nat))), some (.own (tI (Cards.step (rowsOf a) (t + 1)))), x, e, rfl, ?_⟩
          rw [rows_snoc]
          rfl
      · rintro d ds css N2 hN2 ⟨done, todo, x, e3, e4, rfl⟩
        cases todo with
        | nil => cases e4
        | cons r rs =>
          cases e4
          have hr : r ∈ rowsOf a := by rw [e3]; simp
          have hrl : r.length ≤ 6 := by
            have := leL_len (rows_mem hr)
            have h6 := hc.len
            rw [e, List.length_append, List.length_append] at h6
            omega
          have hdl : (done.length + 1) * (t + 1) ≤ 512 := by
            have h1 : done.length + 1 ≤ (rowsOf a).length := by rw [e3]; simp
            rw [rows_len] at h1
            exact Nat.le_trans (Nat.mul_le_mul_right _ h1) ha2
          dsimp only [t_revL, t_sortsetL, t_sortsetT, t_lrange, t_trange, t_keep, frzAll, frzO, t_lensetS, t_wany, seqY, t_wzipT, seqT, t_gd0, t_disp, t_pcons, t_pnil, t_retdbox, t_dictP, t_sortK, t_callB, t_dnew1, t_pop, t_lenset, t_wseq, t_wzip3, t_astar, t_par3, t_dnew, t_dlist, t_dput, t_dget2, t_din, t_lenScr, t_raise1, t_callX, t_callKX, t_xf, t_isx, runX, t_seq, t_if, t_or, t_and, t_not, t_tst, t_v, t_f, t_l, t_c, t_c1, t_op, t_chain', t_ret, t_asg, t_for, t_wenum, t_wlist, t_wtup, t_wstr, t_wrng1, t_wrng2, t_drop, g_setix, t_wzip, t_lname, t_name, t_next, t_ifx, t_isi, t_notV, t_andV, t_orV, t_call, t_callK, t_acons, t_aconsR, t_anil, t_tupd, t_lstd, g_name, g_tup, g_cons, g_nil, t_drop, t_lc, t_yes, t_star1, t_retn, t_par, t_slice, t_some, t_no, t_dict0, t_rev, t_neg, t_extend, t_append, t_sliceScr, t_retbox, t_xcons, LV.get, CS.at_, SV.view, datsOf, Option.map_some, List.getElem?_cons_zero, List.getElem?_cons_succ, List.set_cons_zero, List.set_cons_succ, settled, initC, List.map_cons, List.map_nil, List.length_cons, List.length_nil, List.cons_append, List.nil_append, seqOf, runD, geY, leY, eqZ, neZ, addZ, listY, ltZ, inY, notinY, ixG, lenY, mulZ, max2X, min2X, isY, isnY, sortedX, ltY, gtY, inX, notinX, ordX, boolX, addX, subX, mulX, mulY, modX, fdivX, powX, ltX, leX, gtX, geX, eqY, neY, eqX, neX, isX, isnX, ixX, lenX, listX, tupleX, intX, strX, shX, sumX, sumY, maxX, minX, allX, absX, slX]
          refine ⟨by show 4 < 6; decide, ⟨_, rfl⟩, ⟨_, rfl⟩, by omega, by omega, ?_⟩
          refine lcD_map (fun d => match d with
            | .int k => PyData.tuple (iN r ++ [.int k])
            | _ => d) _ _ (by rw [rangeD_len, sizeLine_eq]; omega) (fun d hd K N hK => ?_) ?_
          · obtain ⟨i, hi, rfl⟩ := List.mem_map.mp hd
            dsimp only [t_revL, t_sortsetL, t_sortsetT, t_lrange, t_trange, t_keep, frzAll, frzO, t_lensetS, t_wany, seqY, t_wzipT, seqT, t_gd0, t_disp, t_pcons, t_pnil, t_retdbox, t_dictP, t_sortK, t_callB, t_dnew1, t_pop, t_lenset, t_wseq, t_wzip3, t_astar, t_par3, t_dnew, t_dlist, t_dput, t_dget2, t_din, t_lenScr, t_raise1, t_callX, t_callKX, t_xf, t_isx, runX, t_seq, t_if, t_or, t_and, t_not, t_tst, t_v, t_f, t_l, t_c, t_c1, t_op, t_chain', t_ret, t_asg, t_for, t_wenum, t_wlist, t_wtup, t_wstr, t_wrng1, t_wrng2, t_drop, g_setix, t_wzip, t_lname, t_name, t_next, t_ifx, t_isi, t_notV, t_andV, t_orV, t_call, t_callK, t_acons, t_aconsR, t_anil, t_tupd, t_lstd, g_name, g_tup, g_cons, g_nil, t_drop, t_lc, t_yes, t_star1, t_retn, t_par, t_slice, t_some, t_no, t_dict0, t_rev, t_neg, t_extend, t_append, t_sliceScr, t_retbox, t_xcons, LV.get, CS.at_, SV.view, datsOf, Option.map_some, List.getElem?_cons_zero, List.getElem?_cons_succ, List.set_cons_zero, List.set_cons_succ, settled, initC, List.map_cons, List.map_nil, List.length_cons, List.length_nil, List.cons_append, List.nil_append, seqOf, runD, geY, leY, eqZ, neZ, addZ, listY, ltZ, inY, notinY, ixG, lenY, mulZ, max2X, min2X, isY, isnY, sortedX, ltY, gtY, inX, notinX, ordX, boolX, addX, subX, mulX, mulY, modX, fdivX, powX, ltX, leX, gtX, geX, eqY, neY, eqX, neX, isX, isnX, ixX, lenX, listX, tupleX, intX, strX, shX, sumX, sumY, maxX, minX, allX, absX, slX]
            refine ⟨by show 5 < 6; decide, ?_⟩
            refine iteT ⟨⟨_, rfl⟩, by decide, ?_⟩
            exact ⟨by rw [iN_len, sizeLine_eq]; show r.length + 1 ≤ _; omega, hK⟩
          · rw [row_ext]
            show _ ∧ _
            refine ⟨?_, hN2 _ ⟨done ++ [r], rs, some (.dat (tN r)), by rw [e3]; simp, rfl, ?_⟩⟩
            · show (tI (Cards.step done (t + 1))).length + (tI (Cards.step [r] (t + 1))).length ≤ sizeLine
              unfold tI
              rw [List.length_map, List.length_map, step_len, step_len, sizeLine_eq]
              rw [Nat.succ_mul] at hdl
              simp
              omega
            · rw [step_append, tI_append]; rfl
theorem nk_row : ∀ s : List Nat, nkeys (iN s) = some (s.map fun n => NestedKey.num ((n : Nat) : Int)) ∧ NestedKey.depthAll (s.map fun n => NestedKey.num ((n : Nat) : Int)) = 0
  | [] => ⟨rfl, rfl⟩
  | n :: s => by
    obtain ⟨h1, h2⟩ := nk_row s
    refine ⟨nkeys_mk rfl h1, ?_⟩
    rw [List.map_cons, NestedKey.depthAll, h2]
    rfl
theorem nk_st (s : List Nat) : nkey (tN s) = some (.tup (s.map fun n => NestedKey.num ((n : Nat) : Int))) := by
  rw [nkey, (nk_row s).1]
  rfl
theorem hash_st (s : List Nat) : hashK (tN s) = true := by
  unfold hashK
  rw [nk_st]
  refine decide_eq_true ?_
  rw [NestedKey.depth, (nk_row s).2]
  decide
theorem same_st {a b : List Nat} : sameK (tN a) (tN b) = true ↔ a = b := by
  unfold sameK
  rw [decide_eq_true_eq, nk_st, nk_st]
  constructor
  · intro h
    have h := NestedKey.tup.inj (Option.some.inj h)
    have inj : Function.Injective (fun n : Nat => NestedKey.num ((n : Nat) : Int)) := fun x y e => by
      have := NestedKey.num.inj e
      omega
    exact (List.map_inj_right fun x y e => inj e).mp h
  · intro h; rw [h]
end Lk

namespace Lk
open PySem PySem.Spec PyProof.Rows L2 Cl Sums
open Cards (st sz rowsOf leL valA st_len st_le val_st st_val)
/-! ### places of elements -/
def el (ns : List Nat) (i : Nat) : List Nat := (memF ns).getD i []
def ix (ns e : List Nat) : Nat := (memF ns).idxOf e
def bk (ns mk e : List Nat) : List Nat := add3 e (Sums.rep mk ns (pr ns - 1)) ns
section
variable {ns mk e f : List Nat}
theorem el_lt {i : Nat} (h : i < pr ns) : ltL (el ns i) ns := by
  have h' : i < (memF ns).length := by rw [memF_len]; exact h
  unfold el
  rw [List.getD_eq_getElem?_getD, List.getElem?_eq_getElem h']
  exact mem_memF.mp (List.getElem_mem h')
theorem ix_lt (h : ltL e ns) : ix ns e < pr ns := by
  rw [← memF_len]
  exact List.idxOf_lt_length_iff.mpr (mem_memF.mpr h)
theorem el_ix (h : ltL e ns) : el ns (ix ns e) = e := by
  have h' : ix ns e < (memF ns).length := List.idxOf_lt_length_iff.mpr (mem_memF.mpr h)
  unfold el
  rw [List.getD_eq_getElem?_getD, List.getElem?_eq_getElem h']
  exact List.getElem_idxOf h'
theorem ix_el {i : Nat} (h : i < pr ns) : ix ns (el ns i) = i := by
  have h' : i < (memF ns).length := by rw [memF_len]; exact h
  unfold ix el
  rw [List.getD_eq_getElem?_getD, List.getElem?_eq_getElem h']
  exact (nodup_memF ns).idxOf_getElem i h'
theorem el_zero (hp : ∀ m ∈ ns, 1 ≤ m) : el ns 0 = zr ns.length := by
  unfold el
  rw [memF_head hp]; rfl
theorem bk_lt (hp : ∀ m ∈ ns, 1 ≤ m) (he : ltL e ns) (hm : ltL mk ns) : ltL (bk ns mk e) ns := add3_lt (ltL_len he) (rep_len2 _ (ltL_len hm)) hp
theorem bk_add (hp : ∀ m ∈ ns, 1 ≤ m) (he : ltL e ns) (hm : ltL mk ns) : add3 (bk ns mk e) mk ns = e := by
  unfold bk
  rw [add3_assoc, add3_comm (Sums.rep mk ns _) mk, neg_add hp hm, add3_comm, add3_zero he]
theorem bk_eq (hp : ∀ m ∈ ns, 1 ≤ m) (hf : ltL f ns) (hm : ltL mk ns) : bk ns mk (add3 f mk ns) = f := by
  unfold bk
  rw [add3_assoc, neg_add hp hm, add3_comm, add3_zero hf]
end
/-! ### dicts by rows -/
def rb (g : List Nat → PyData) (js : List (List Nat)) : GKV := js.map fun e => (tN e, g e)
theorem rb_len {g : List Nat → PyData} {js : List (List Nat)} : (rb g js).length = js.length := List.length_map ..
theorem rb_get {g : List Nat → PyData} {x : List Nat} : ∀ {js : List (List Nat)}, x ∈ js → getG (rb g js) (tN x) = some (g x)
  | [], h => by cases h
  | j :: js, h => by
    show (if sameK (tN j) (tN x) = true then some (g j) else getG (rb g js) (tN x)) = _
    by_cases e : j = x
    · subst e
      rw [if_pos (same_st.mpr rfl)]
    · rw [if_neg fun z => e (same_st.mp z)]
      rcases List.mem_cons.mp h with z | z
      · exact absurd z.symm e
      · exact rb_get z
theorem rb_put {g : List Nat → PyData} {x : List Nat} {d : PyData} : ∀ {js : List (List Nat)}, x ∉ js → putG (rb g js) (tN x) d = rb g js ++ [(tN x, d)]
  | [], _ => rfl
  | j :: js, h => by
    show (if sameK (tN j) (tN x) = true then _ else _) = _
    rw [if_neg fun z => h (by rw [same_st.mp z]; exact List.mem_cons_self)]
    show (tN j, g j) :: putG (rb g js) (tN x) d = _
    rw [rb_put fun z => h (List.mem_cons_of_mem _ z)]
    rfl
theorem rb_ix {g : List Nat → PyData} {js : List (List Nat)} {x : List Nat} (h : x ∈ js) {Q : SV → Prop} (q : Q (.dat (g x))) : ixG (.dict (rb g js)) (tN x) Q := ⟨hash_st _, g x, rb_get h, q⟩
theorem enum_map {n : Nat} (f : Nat → PyData) : rowsD (enumRs 0 ((List.range n).map f)) = (List.range n).map fun j => .tuple [.int ((j : Nat) : Int), f j] := by
  have key : ∀ (n k : Nat) (f : Nat → PyData), rowsD (enumRs k ((List.range n).map fun j => f (k + j))) = (List.range n).map fun j => .tuple [.int ((k + j : Nat) : Int), f (k + j)] := by
    intro n
    induction n with
    | zero => intro k f; rfl
    | succ n ih =>
      intro k f
      rw [List.range_succ_eq_map, List.map_cons, List.map_cons, List.map_map, List.map_map]
      show _ :: rowsD (enumRs (k + 1) _) = _ :: _
      have := ih (k + 1) f
      have e1 : ((fun j => f (k + j)) ∘ Nat.succ) = fun j => f (k + 1 + j) := by
        funext j; show f (k + (j + 1)) = _; congr 1; omega
      have e2 : ((fun j => PyData.tuple [.int ((k + j : Nat) : Int), f (k + j)]) ∘ Nat.succ) = fun j => PyData.tuple [.int ((k + 1 + j : Nat) : Int), f (k + 1 + j)] := by
        funext j
        show PyData.tuple [.int ((k + (j + 1) : Nat) : Int), f (k + (j + 1))] = _
        rw [show k + (j + 1) = k + 1 + j by omega]
      rw [e1, e2, this]
      rfl
  have := key n 0 f
  simp only [Nat.zero_add] at this
  exact this
theorem tL_el (ns : List Nat) : tL (memF ns) = (List.range (pr ns)).map fun i => tN (el ns i) := by
  refine List.ext_getElem (by rw [List.length_map, List.length_map, List.length_range, memF_len]) fun i h1 h2 => ?_
  rw [List.length_map] at h1
  simp only [List.getElem_map, List.getElem_range]
  unfold el
  rw [List.getD_eq_getElem?_getD, List.getElem?_eq_getElem h1]
  rfl
theorem rng_ix {n p : Nat} {done todo : List Nat} (e : List.range n = done ++ p :: todo) : done.length = p ∧ p < n ∧ done = List.range p := by
  have len := congrArg List.length e
  rw [List.length_range, List.length_append, List.length_cons] at len
  have h1 := congrArg (fun l => l[done.length]?) e
  simp only [List.getElem?_append_right (Nat.le_refl _), Nat.sub_self, List.getElem?_cons_zero] at h1
  rw [List.getElem?_range (by omega)] at h1
  have hp := Option.some.inj h1
  refine ⟨hp, by omega, ?_⟩
  have h2 := congrArg (List.take done.length) e
  rw [List.take_left, List.take_range, Nat.min_eq_left (by omega), hp] at h2
  exact h2.symm
/-- the place of the one to which a mark is added -/
def bkI (ns mk : List Nat) (i : Nat) : Nat := ix ns (bk ns mk (el ns i))
theorem set_step {n i t : Nat} {b : Nat → Nat} (ht : t < n) (hb : ∀ j, j < n → (b j = i ↔ j = t)) :
    (iN ((List.range n).map fun j => if b j < i then b j else 0)).set t (.int (i : Nat)) = iN ((List.range n).map fun j => if b j < i + 1 then b j else 0) := by
  refine List.ext_getElem (by simp [iN]) fun j h1 h2 => ?_
  have hj : j < n := by simpa [iN] using h2
  rw [List.getElem_set]
  simp only [iN, List.getElem_map, List.getElem_range]
  have := hb j hj
  by_cases e : t = j
  · rw [if_pos e]
    have e2 : b j = i := this.mpr e.symm
    rw [if_pos (by omega), e2]
  · rw [if_neg e]
    have e2 : b j ≠ i := fun z => e (this.mp z).symm
    by_cases h : b j < i
    · rw [if_pos h, if_pos (by omega)]
    · rw [if_neg h, if_neg (by omega)]
theorem mulZ_one {d : PyData} {n : Nat} (hn : n ≤ 1000) {Q : SV → Prop} (h : Q (.own (List.replicate n d))) : mulZ (.list [d]) (.int (n : Nat)) Q := by
  have zz : sizeLine = 16777216 := sizeLine_eq
  refine ⟨by omega, by omega, by rw [zz]; simp; omega, ?_⟩
  rw [show ((n : Nat) : Int).toNat = n by omega, show (List.replicate n [d]).flatten = List.replicate n d by
    clear h hn
    induction n with
    | zero => rfl
    | succ n ih => rw [List.replicate_succ, List.flatten_cons, ih]; rfl]
  exact h
theorem lenY_tt {xs : List PyData} {Q : SV → Prop} (h : Q (.dat (.int (xs.length : Nat)))) : lenY (.tuple xs) Q := h
theorem lenY_ll {xs : List PyData} {Q : SV → Prop} (h : Q (.dat (.int (xs.length : Nat)))) : lenY (.list xs) Q := h
set_option maxHeartbeats 1600000 in
theorem backs_of_spec {ns mk : List Nat} (hg : Gp ns) (hm : ltL mk ns) {Q : SV → Prop} (h : Q (.own (iN ((List.range (pr ns)).map (bkI ns mk))))) : C_backs_of [.dat (tN ns), .dat (.tuple (tL (memF ns))), .dat (tN mk)] Q := by
  refine ⟨rfl, ?_⟩
  have zz : sizeLine = 16777216 := sizeLine_eq
  have hp := hg.p
  have hb := hg.b
  have l3 := hg.l3
  have hl : (tL (memF ns)).length = pr ns := by rw [List.length_map, memF_len]
  show T_backs_of _ [some (.dat (tN ns)), some (.dat (.tuple (tL (memF ns)))), some (.dat (tN mk)), none, none, none, none]
  refine seq_step (fun c => c = [some (.dat (tN ns)), some (.dat (.tuple (tL (memF ns)))), some (.dat (tN mk)), some (.gd []), some (.own (iN ((List.range (pr ns)).map fun _ => 0))), none, none]) (fun N hN => ?_) ?_
  · dsimp only [t_revL, t_sortsetL, t_sortsetT, t_lrange, t_trange, t_keep, frzAll, frzO, t_lensetS, t_wany, seqY, t_wzipT, seqT, t_gd0, t_disp, t_pcons, t_pnil, t_retdbox, t_dictP, t_sortK, t_callB, t_dnew1, t_pop, t_lenset, t_wseq, t_wzip3, t_astar, t_par3, t_dnew, t_dlist, t_dput, t_dget2, t_din, t_lenScr, t_raise1, t_callX, t_callKX, t_xf, t_isx, runX, t_seq, t_if, t_or, t_and, t_not, t_tst, t_v, t_f, t_l, t_c, t_c1, t_op, t_chain', t_ret, t_asg, t_for, t_wenum, t_wlist, t_wtup, t_wstr, t_wrng1, t_wrng2, t_drop, g_setix, t_wzip, t_lname, t_name, t_next, t_ifx, t_isi, t_notV, t_andV, t_orV, t_call, t_callK, t_acons, t_aconsR, t_anil, t_tupd, t_lstd, g_name, g_tup, g_cons, g_nil, t_drop, t_lc, t_yes, t_star1, t_retn, t_par, t_slice, t_some, t_no, t_dict0, t_rev, t_neg, t_extend, t_append, t_sliceScr, t_retbox, t_xcons, LV.get, CS.at_, SV.view, datsOf, Option.map_some, List.getElem?_cons_zero, List.getElem?_cons_succ, List.set_cons_zero, List.set_cons_succ, settled, initC, List.map_cons, List.map_nil, List.length_cons, List.length_nil, List.cons_append, List.nil_append, seqOf, runD, t_wrng3, t_dzip, t_count, t_frz, t_lrange2, t_sortsetS, t_indexL, t_retdboxM, t_par4, t_par5, t_index, t_maxd1, t_ifT, t_insert, t_tindex, t_tcount, t_tryM, t_raise0, t_gput, g_gput, t_gget1, t_gget2, t_lzip, t_callFn, t_popAt, t_callLam, t_retM, t_retMp, t_meth, t_methS, t_make, t_cput, mvSV, lvM]
    refine ⟨by rw [zz]; decide, ⟨_, rfl⟩, lenY_tt ?_⟩
    show mulZ (.list [.int 0]) (.int (((tL (memF ns)).length : Nat) : Int)) _
    rw [hl]
    refine mulZ_one (by omega) ?_
    rw [show List.replicate (pr ns) (PyData.int 0) = iN ((List.range (pr ns)).map fun _ => 0) by
      unfold iN
      rw [List.map_map]
      refine List.ext_getElem (by simp) fun i h1 h2 => by simp]
    exact ⟨by show 3 < 7; decide, by show 4 < 7; decide, hN _ rfl⟩
  rintro c rfl
  refine seq_step (fun c => ∃ x5 x6, c = [some (.dat (tN ns)), some (.dat (.tuple (tL (memF ns)))), some (.dat (tN mk)), some (.gd (rb (fun e => .int (ix ns e : Nat)) ((List.range (pr ns)).map (el ns)))), some (.own (iN ((List.range (pr ns)).map fun _ => 0))), x5, x6]) (fun N hN => ?_) ?_
  · dsimp only [t_for, t_wenum, t_acons, t_f, t_name, t_anil, seqOf, settled, List.getElem?_cons_zero, List.getElem?_cons_succ]
    show forD _ _ _ (rowsD (enumRs 0 (tL (memF ns)))) _
    rw [tL_el, enum_map]
    refine forD_A (fun i : Nat => .tuple [.int ((i : Nat) : Int), tN (el ns i)]) (fun done c => ∃ x5 x6, c = [some (.dat (tN ns)), some (.dat (.tuple (tL (memF ns)))), some (.dat (tN mk)), some (.gd (rb (fun e => .int (ix ns e : Nat)) (done.map (el ns)))), some (.own (iN ((List.range (pr ns)).map fun _ => 0))), x5, x6]) _ ?_ ?_ ⟨none, none, by rw [tL_el]; rfl⟩
    · rintro c ⟨x5, x6, rfl⟩
      exact hN _ ⟨x5, x6, rfl⟩
    rintro done i todo c N2 e hN2 ⟨x5, x6, rfl⟩
    obtain ⟨hi, hin, hd⟩ := rng_ix e
    refine ⟨rfl, by show 5 < 7; decide, by show 6 < 7; decide, rfl, ?_⟩
    dsimp only [t_revL, t_sortsetL, t_sortsetT, t_lrange, t_trange, t_keep, frzAll, frzO, t_lensetS, t_wany, seqY, t_wzipT, seqT, t_gd0, t_disp, t_pcons, t_pnil, t_retdbox, t_dictP, t_sortK, t_callB, t_dnew1, t_pop, t_lenset, t_wseq, t_wzip3, t_astar, t_par3, t_dnew, t_dlist, t_dput, t_dget2, t_din, t_lenScr, t_raise1, t_callX, t_callKX, t_xf, t_isx, runX, t_seq, t_if, t_or, t_and, t_not, t_tst, t_v, t_f, t_l, t_c, t_c1, t_op, t_chain', t_ret, t_asg, t_for, t_wenum, t_wlist, t_wtup, t_wstr, t_wrng1, t_wrng2, t_drop, g_setix, t_wzip, t_lname, t_name, t_next, t_ifx, t_isi, t_notV, t_andV, t_orV, t_call, t_callK, t_acons, t_aconsR, t_anil, t_tupd, t_lstd, g_name, g_tup, g_cons, g_nil, t_drop, t_lc, t_yes, t_star1, t_retn, t_par, t_slice, t_some, t_no, t_dict0, t_rev, t_neg, t_extend, t_append, t_sliceScr, t_retbox, t_xcons, LV.get, CS.at_, SV.view, datsOf, Option.map_some, List.getElem?_cons_zero, List.getElem?_cons_succ, List.set_cons_zero, List.set_cons_succ, settled, initC, List.map_cons, List.map_nil, List.length_cons, List.length_nil, List.cons_append, List.nil_append, seqOf, runD, t_wrng3, t_dzip, t_count, t_frz, t_lrange2, t_sortsetS, t_indexL, t_retdboxM, t_par4, t_par5, t_index, t_maxd1, t_ifT, t_insert, t_tindex, t_tcount, t_tryM, t_raise0, t_gput, g_gput, t_gget1, t_gget2, t_lzip, t_callFn, t_popAt, t_callLam, t_retM, t_retMp, t_meth, t_methS, t_make, t_cput, mvSV, lvM]
    refine ⟨⟨_, rfl⟩, _, rfl, hash_st _, by rw [rb_len, List.length_map, zz]; omega, ?_⟩
    rw [rb_put fun z => ?_]
    · have er : rb (fun e => .int (ix ns e : Nat)) ((done ++ [i]).map (el ns)) = rb (fun e => .int (ix ns e : Nat)) (done.map (el ns)) ++ [(tN (el ns i), .int (i : Nat))] := by
        unfold rb
        rw [List.map_append, List.map_append]
        simp only [List.map_cons, List.map_nil]
        rw [ix_el hin]
      rw [← er]
      exact hN2 _ ⟨_, _, rfl⟩
    · obtain ⟨j, hj, ej⟩ := List.mem_map.mp z
      rw [hd] at hj
      have hj := List.mem_range.mp hj
      have := congrArg (ix ns) ej
      rw [ix_el (by omega), ix_el hin] at this
      omega
  rintro c ⟨x5, x6, rfl⟩
  have at3 : ∀ {e : List Nat} {Q : SV → Prop}, ltL e ns → Q (.dat (.int (ix ns e : Nat))) → ixG (.dict (rb (fun e => .int (ix ns e : Nat)) ((List.range (pr ns)).map (el ns)))) (tN e) Q := fun {e Q} he q =>
    rb_ix (g := fun e => .int (ix ns e : Nat)) (List.mem_map.mpr ⟨ix ns e, List.mem_range.mpr (ix_lt he), el_ix he⟩) q
  refine seq_step (fun c => ∃ x5 x6, c = [some (.dat (tN ns)), some (.dat (.tuple (tL (memF ns)))), some (.dat (tN mk)), some (.gd (rb (fun e => .int (ix ns e : Nat)) ((List.range (pr ns)).map (el ns)))), some (.own (iN ((List.range (pr ns)).map (bkI ns mk)))), x5, x6]) (fun N hN => ?_) ?_
  · dsimp only [t_for, t_wenum, t_acons, t_f, t_name, t_anil, seqOf, settled, List.getElem?_cons_zero, List.getElem?_cons_succ]
    show forD _ _ _ (rowsD (enumRs 0 (tL (memF ns)))) _
    rw [tL_el, enum_map]
    refine forD_A (fun i : Nat => .tuple [.int ((i : Nat) : Int), tN (el ns i)]) (fun done c => ∃ x5 x6, c = [some (.dat (tN ns)), some (.dat (.tuple (tL (memF ns)))), some (.dat (tN mk)), some (.gd (rb (fun e => .int (ix ns e : Nat)) ((List.range (pr ns)).map (el ns)))), some (.own (iN ((List.range (pr ns)).map fun j => if bkI ns mk j < done.length then bkI ns mk j else 0))), x5, x6]) _ ?_ ?_ ⟨x5, x6, by rw [tL_el]; rfl⟩
    · rintro c ⟨x5, x6, rfl⟩
      refine hN _ ⟨x5, x6, ?_⟩
      rw [List.length_range, show ((List.range (pr ns)).map fun j => if bkI ns mk j < pr ns then bkI ns mk j else 0) = (List.range (pr ns)).map (bkI ns mk) from List.map_congr_left fun j hj => if_pos (ix_lt (bk_lt hb (el_lt (List.mem_range.mp hj)) hm))]
    rintro done i todo c N2 e hN2 ⟨x5, x6, rfl⟩
    obtain ⟨hi, hin, hd⟩ := rng_ix e
    subst hi
    rw [List.length_append, List.length_singleton] at hN2
    generalize done.length = i at *
    have ha : ltL (add3 (el ns i) mk ns) ns := add3_lt (ltL_len (el_lt hin)) (ltL_len hm) hb
    refine ⟨rfl, by show 5 < 7; decide, by show 6 < 7; decide, rfl, ?_⟩
    dsimp only [t_revL, t_sortsetL, t_sortsetT, t_lrange, t_trange, t_keep, frzAll, frzO, t_lensetS, t_wany, seqY, t_wzipT, seqT, t_gd0, t_disp, t_pcons, t_pnil, t_retdbox, t_dictP, t_sortK, t_callB, t_dnew1, t_pop, t_lenset, t_wseq, t_wzip3, t_astar, t_par3, t_dnew, t_dlist, t_dput, t_dget2, t_din, t_lenScr, t_raise1, t_callX, t_callKX, t_xf, t_isx, runX, t_seq, t_if, t_or, t_and, t_not, t_tst, t_v, t_f, t_l, t_c, t_c1, t_op, t_chain', t_ret, t_asg, t_for, t_wenum, t_wlist, t_wtup, t_wstr, t_wrng1, t_wrng2, t_drop, g_setix, t_wzip, t_lname, t_name, t_next, t_ifx, t_isi, t_notV, t_andV, t_orV, t_call, t_callK, t_acons, t_aconsR, t_anil, t_tupd, t_lstd, g_name, g_tup, g_cons, g_nil, t_drop, t_lc, t_yes, t_star1, t_retn, t_par, t_slice, t_some, t_no, t_dict0, t_rev, t_neg, t_extend, t_append, t_sliceScr, t_retbox, t_xcons, LV.get, CS.at_, SV.view, datsOf, Option.map_some, List.getElem?_cons_zero, List.getElem?_cons_succ, List.set_cons_zero, List.set_cons_succ, settled, initC, List.map_cons, List.map_nil, List.length_cons, List.length_nil, List.cons_append, List.nil_append, seqOf, runD, t_wrng3, t_dzip, t_count, t_frz, t_lrange2, t_sortsetS, t_indexL, t_retdboxM, t_par4, t_par5, t_index, t_maxd1, t_ifT, t_insert, t_tindex, t_tcount, t_tryM, t_raise0, t_gput, g_gput, t_gget1, t_gget2, t_lzip, t_callFn, t_popAt, t_callLam, t_retM, t_retMp, t_meth, t_methS, t_make, t_cput, mvSV, lvM]
    refine ⟨⟨_, rfl⟩, ⟨_, rfl⟩, added_spec hb (by omega) (at3 ha ?_)⟩
    have il := ix_lt ha
    have ixn : ixN (iN ((List.range (pr ns)).map fun j => if bkI ns mk j < i then bkI ns mk j else 0)).length ((ix ns (add3 (el ns i) mk ns) : Nat) : Int) = some (ix ns (add3 (el ns i) mk ns)) := by
      unfold ixN
      rw [if_pos (by omega), if_pos (by rw [iN_len, List.length_map, List.length_range]; omega)]
      rfl
    have st := set_step (n := pr ns) (i := i) (t := ix ns (add3 (el ns i) mk ns)) (b := bkI ns mk) il fun j hj => by
      constructor
      · intro z
        have z2 := congrArg (el ns) z
        unfold bkI at z2
        rw [el_ix (bk_lt hb (el_lt hj) hm)] at z2
        rw [← z2, bk_add hb (el_lt hj) hm, ix_el hj]
      · rintro rfl
        unfold bkI
        rw [el_ix ha, bk_eq hb (el_lt hin) hm, ix_el hin]
    show match ixN (iN ((List.range (pr ns)).map fun j => if bkI ns mk j < i then bkI ns mk j else 0)).length ((ix ns (add3 (el ns i) mk ns) : Nat) : Int) with
      | some j => _
      | none => False
    rw [ixn]
    dsimp only
    rw [st]
    exact hN2 _ ⟨_, _, rfl⟩
  rintro c ⟨x5, x6, rfl⟩
  exact h
end Lk

namespace Lk
open PySem PySem.Spec PyProof.Rows L2 Cl Sums
open Cards (st sz rowsOf leL valA st_len st_le val_st st_val)
open Rms (Rg dc RS TB Wy K)
open scoped Classical
/-- the rooms' marks, sums of a group -/
def RG (ns : List Nat) (mks : List (List Nat)) : Rg (List Nat) := ⟨mks.length, fun c => mks.getD c [], fun a b => add3 a b ns, zr ns.length, fun e => ltL e ns⟩
theorem mk_lt {ns : List Nat} {mks : List (List Nat)} (hm : ∀ m ∈ mks, ltL m ns) {c : Nat} (h : c < mks.length) : ltL (mks.getD c []) ns := by
  rw [List.getD_eq_getElem?_getD, List.getElem?_eq_getElem h]
  exact hm _ (List.getElem_mem h)
theorem rg_gd {ns : List Nat} {mks : List (List Nat)} (hp : ∀ m ∈ ns, 1 ≤ m) (h2 : 2 ≤ pr ns) (hm : ∀ m ∈ mks, ltL m ns) : Rms.Gd (RG ns mks) := by
  refine ⟨fun c h => mk_lt hm h, fun a b ha hb => add3_lt (ltL_len ha) (ltL_len hb) hp, el ns 1, el_lt (by omega), fun z => ?_⟩
  have z : el ns 1 = zr ns.length := z
  have h0 := ix_el (ns := ns) (i := 1) (by omega)
  rw [z, ← el_zero hp, ix_el (by omega)] at h0
  cases h0
section
variable (ns : List Nat) (mks : List (List Nat))
noncomputable def cw (r : List Nat) (c : Nat) (e : List Nat) : Int := max (TB (RG ns mks) (dc r c) (bk ns (mks.getD c []) e)) (if e = mks.getD c [] then (RS (RG ns mks) (dc r c) : Int) else -1)
noncomputable def PB (r : List Nat) : Nat → List Nat → Int
  | 0, _ => -1
  | k + 1, e => if 0 < r.getD k 0 then max (PB r k e) (cw ns mks r k e) else PB r k e
end
section
variable {ns : List Nat} {mks : List (List Nat)}
theorem PB_ge (r : List Nat) : ∀ (k : Nat) (e : List Nat), -1 ≤ PB ns mks r k e
  | 0, _ => Int.le_refl _
  | k + 1, e => by
    have := PB_ge r k e
    unfold PB
    split <;> omega
theorem le_PB {r : List Nat} {t : Nat} : ∀ {k : Nat} {e : List Nat}, (t : Int) ≤ PB ns mks r k e ↔ ∃ c, c < k ∧ 0 < r.getD c 0 ∧ (t : Int) ≤ cw ns mks r c e
  | 0, e => by
    constructor
    · intro h
      have h : (t : Int) ≤ -1 := h
      omega
    · rintro ⟨c, h, _⟩; omega
  | k + 1, e => by
    have ih := @le_PB r t k e
    unfold PB
    constructor
    · intro h
      by_cases hr : 0 < r.getD k 0
      · rw [if_pos hr] at h
        by_cases h1 : (t : Int) ≤ PB ns mks r k e
        · obtain ⟨c, a, b, d⟩ := ih.mp h1
          exact ⟨c, by omega, b, d⟩
        · exact ⟨k, by omega, hr, by omega⟩
      · rw [if_neg hr] at h
        obtain ⟨c, a, b, d⟩ := ih.mp h
        exact ⟨c, by omega, b, d⟩
    · rintro ⟨c, a, b, d⟩
      by_cases hc : c = k
      · subst hc
        rw [if_pos b]; omega
      · have := ih.mpr ⟨c, by omega, b, d⟩
        split <;> omega
theorem PB_TB (hp : ∀ m ∈ ns, 1 ≤ m) (h2 : 2 ≤ pr ns) (hm : ∀ m ∈ mks, ltL m ns) {r e : List Nat} (he : ltL e ns) : PB ns mks r mks.length e = TB (RG ns mks) r e := by
  have g := rg_gd hp h2 hm
  refine Rms.int_eq (PB_ge r _ e) (Rms.TB_ge g.ne r e) fun t => ?_
  rw [le_PB, ← Rms.TB_iff g.ne, Rms.Wy_iff]
  refine exists_congr fun c => and_congr_right fun hc => and_congr_right fun hr => ?_
  have hmc : ltL (mks.getD c []) ns := mk_lt hm hc
  have key : (t : Int) ≤ cw ns mks r c e ↔ Wy (RG ns mks) (K (RG ns mks) t) (dc r c) (bk ns (mks.getD c []) e) ∨ (e = mks.getD c [] ∧ K (RG ns mks) t (dc r c)) := by
    rw [Rms.TB_iff g.ne, Rms.RS_iff g.ne]
    unfold cw
    by_cases e1 : e = mks.getD c []
    · rw [if_pos e1]
      constructor
      · intro h
        by_cases h3 : (t : Int) ≤ TB (RG ns mks) (dc r c) (bk ns (mks.getD c []) e)
        · exact .inl h3
        · exact .inr ⟨e1, by omega⟩
      · rintro (h | ⟨_, h⟩) <;> omega
    · rw [if_neg e1]
      constructor
      · intro h; exact .inl (by omega)
      · rintro (h | ⟨h, _⟩)
        · omega
        · exact absurd h e1
  rw [key]
  constructor
  · rintro (h | h)
    · exact .inr ⟨_, h, (bk_add hp he hmc).symm⟩
    · exact .inl h
  · rintro (h | ⟨f, hf, rfl⟩)
    · exact .inr h
    · refine .inl ?_
      have hfl : ltL f ns := hf.el g
      rw [show bk ns (mks.getD c []) ((RG ns mks).add f ((RG ns mks).mark c)) = f from bk_eq hp hfl hmc]
      exact hf
theorem RS_min (hp : ∀ m ∈ ns, 1 ≤ m) (h2 : 2 ≤ pr ns) (hm : ∀ m ∈ mks, ltL m ns) {r : List Nat} {m : Int} (h1 : ∃ i, 1 ≤ i ∧ i < pr ns ∧ m = TB (RG ns mks) r (el ns i)) (hle : ∀ i, 1 ≤ i → i < pr ns → m ≤ TB (RG ns mks) r (el ns i)) : 1 + m = (RS (RG ns mks) r : Int) := by
  have g := rg_gd hp h2 hm
  obtain ⟨i0, a, b, e⟩ := h1
  have m1 : -1 ≤ m := by rw [e]; exact Rms.TB_ge g.ne r _
  refine Rms.int_eq (by omega) (by omega) fun t => ?_
  have : ((t : Int) ≤ (RS (RG ns mks) r : Int)) ↔ K (RG ns mks) t r := by rw [Rms.RS_iff g.ne]; omega
  rw [this]
  cases t with
  | zero => exact ⟨fun _ => trivial, fun _ => by omega⟩
  | succ t =>
    constructor
    · intro h x hx hz
      have hx : ltL x ns := hx
      have hi := ix_lt hx
      have h0 : 1 ≤ ix ns x := by
        refine Classical.byContradiction fun z => hz ?_
        have z : ix ns x = 0 := by omega
        have := el_ix hx
        rw [z, el_zero hp] at this
        exact this.symm
      have := hle _ h0 hi
      rw [el_ix hx] at this
      exact (Rms.TB_iff g.ne).mpr (by omega)
    · intro h
      have w := h (el ns i0) (el_lt b) fun z => by
        have z : el ns i0 = zr ns.length := z
        have := ix_el b
        rw [z, ← el_zero hp, ix_el (by omega)] at this
        omega
      have := (Rms.TB_iff g.ne).mp w
      rw [← e] at this
      omega
end
/-! ### rooms before -/
theorem dc_leL {cs r : List Nat} (h : leL r cs) (c : Nat) : leL (dc r c) cs := by
  induction r generalizing cs c with
  | nil => cases cs <;> exact h
  | cons x r ih =>
    cases cs with
    | nil => exact h.elim
    | cons t ts =>
      cases c with
      | zero => exact ⟨Nat.le_trans (Nat.sub_le _ _) h.1, h.2⟩
      | succ c => exact ⟨h.1, ih h.2 c⟩
theorem val_acc : ∀ (r cs : List Nat) (a b : Nat), leL r cs → a < b → valA a r cs < valA b r cs
  | [], [], _, _, _, h => h
  | x :: r, t :: ts, a, b, hl, h => val_acc r ts _ _ hl.2 (by
    have := Nat.mul_le_mul_right (t + 1) (show a + 1 ≤ b by omega)
    rw [Nat.add_mul] at this
    omega)
  | [], _ :: _, _, _, hl, _ => hl.elim
  | _ :: _, [], _, _, hl, _ => hl.elim
theorem dc_val : ∀ (r cs : List Nat) (c a : Nat), leL r cs → 0 < r.getD c 0 → valA a (dc r c) cs < valA a r cs
  | [], _, c, _, _, h => by simp at h
  | x :: r, [], _, _, hl, _ => hl.elim
  | x :: r, t :: ts, 0, a, hl, h => by
    have h : 0 < x := by simpa using h
    show valA (a * (t + 1) + (x - 1)) r ts < valA (a * (t + 1) + x) r ts
    exact val_acc r ts _ _ hl.2 (by omega)
  | x :: r, t :: ts, c + 1, a, hl, h => dc_val r ts c _ hl.2 (by simpa using h)
theorem dc_st {cs : List Nat} {k c : Nat} (hk : k < sz cs) (h : 0 < (st cs k).getD c 0) : ∃ j, j < k ∧ st cs j = dc (st cs k) c := by
  have a := dc_val (st cs k) cs c 0 (st_le cs k) h
  rw [val_st cs k hk] at a
  exact ⟨_, a, (st_val cs _ (dc_leL (st_le cs k) c)).2⟩
end Lk

namespace Lk
open PySem PySem.Spec PyProof.Rows L2 Cl Sums
open Cards (st sz rowsOf leL valA st_len st_le val_st st_val)
open Rms (Rg dc RS TB Wy K)
open scoped Classical
theorem atI_map {α : Type} {f : α → PyData} {xs : List α} {k : Nat} (h : k < xs.length) : atI (xs.map f) ((k : Nat) : Int) = some (f xs[k]) := by
  unfold atI ixN
  rw [if_pos (by omega), if_pos (by rw [List.length_map]; omega)]
  simp [h]
theorem atI_range {f : Nat → PyData} {n k : Nat} (h : k < n) : atI ((List.range n).map f) ((k : Nat) : Int) = some (f k) := by
  rw [atI_map (by rw [List.length_range]; exact h)]
  simp
theorem ixG_l {xs : List PyData} {i : Int} {d : PyData} (e : atI xs i = some d) {Q : SV → Prop} (h : Q (.dat d)) : ixG (.list xs) (.int i) Q := by
  show match atI xs i with | some d => Q (.dat d) | none => False
  rw [e]; exact h
theorem ixG_tt {xs : List PyData} {i : Int} {d : PyData} (e : atI xs i = some d) {Q : SV → Prop} (h : Q (.dat d)) : ixG (.tuple xs) (.int i) Q := by
  show match atI xs i with | some d => Q (.dat d) | none => False
  rw [e]; exact h
theorem atI_iN {s : List Nat} {c : Nat} (h : c < s.length) : atI (iN s) ((c : Nat) : Int) = some (.int (s.getD c 0 : Nat)) := by
  unfold iN
  rw [atI_map h, List.getD_eq_getElem?_getD, List.getElem?_eq_getElem h]; rfl
theorem zip_pair {α : Type} {f g : α → PyData} {xs : List α} : rowsD (zipRs (xs.map f) (xs.map g)) = xs.map fun x => .tuple [f x, g x] := by
  induction xs with
  | nil => rfl
  | cons x xs ih =>
    show _ :: rowsD (zipRs _ _) = _ :: _
    rw [ih]
theorem intsD_map {α : Type} (f : α → Int) : ∀ xs : List α, intsD (xs.map fun x => .int (f x)) = some (xs.map f)
  | [] => rfl
  | x :: xs => by
    show (intsD (xs.map _)).map _ = _
    rw [intsD_map f xs]; rfl
theorem if_yes {c : TTD} {t u : TSD} {D : DEnds} {cs : CS} (h : ∀ K : Bool → CS → Prop, K true cs → c cs K) (h2 : t D cs) : t_if c t u D cs := h _ (by rw [if_pos rfl]; exact h2)
theorem if_not {c : TTD} {t u : TSD} {D : DEnds} {cs : CS} (h : ∀ K : Bool → CS → Prop, K false cs → c cs K) (h2 : u D cs) : t_if c t u D cs := h _ (by rw [if_neg Bool.false_ne_true]; exact h2)
theorem gtY_n {i j : Int} {Q : SV → Prop} (h : Q (.dat (.bool (decide (j < i))))) : gtY (.int i) (.int j) Q := h
theorem addZ_ii {i j : Int} {Q : SV → Prop} (h : Q (.dat (.int (i + j)))) : addZ (.int i) (.int j) Q := h
theorem subX_ii {i j : Int} {Q : SV → Prop} (h : Q (.dat (.int (i - j)))) : subX (.int i) (.int j) Q := h
theorem addZ_tt {xs ys : List PyData} {Q : SV → Prop} (h : xs.length + ys.length ≤ sizeLine) (h2 : Q (.dat (.tuple (xs ++ ys)))) : addZ (.tuple xs) (.tuple ys) Q := ⟨h, h2⟩
theorem slX_tt {xs : List PyData} {lo hi : Option Int} {Q : SV → Prop} (h : Q (.dat (.tuple (Cl.cutD xs lo hi)))) : slX (.tuple xs) lo hi Q := h
theorem slX_ll {xs : List PyData} {lo hi : Option Int} {Q : SV → Prop} (h : Q (.own (Cl.cutD xs lo hi))) : slX (.list xs) lo hi Q := h
theorem cut_le (xs : List PyData) (lo hi : Option Int) : (Cl.cutD xs lo hi).length ≤ xs.length := by
  unfold Cl.cutD
  rw [List.length_take, List.length_drop]; omega
theorem cut_dc {s : List Nat} {c : Nat} (hc : c < s.length) (h0 : 0 < s.getD c 0) : Cl.cutD (iN s) none (some ((c : Nat) : Int)) ++ [PyData.int (((s.getD c 0 : Nat) : Int) - 1)] ++ Cl.cutD (iN s) (some (((c : Nat) : Int) + 1)) none = iN (dc s c) := by
  rw [cut_take, show (((c : Nat) : Int) + 1) = ((c + 1 : Nat) : Int) by omega, cut_drop, show (((s.getD c 0 : Nat) : Int) - 1) = ((s.getD c 0 - 1 : Nat) : Int) by omega]
  unfold dc iN
  rw [List.map_set, List.set_eq_take_append_cons_drop, if_pos (by rw [List.length_map]; exact hc), List.append_assoc]
  rfl
section
variable (ns : List Nat) (mks : List (List Nat))
noncomputable abbrev PBL (r : List Nat) (c : Nat) : List PyData := (List.range (pr ns)).map fun i => .int (PB ns mks r c (el ns i))
noncomputable abbrev TBL (r : List Nat) : List PyData := (List.range (pr ns)).map fun i => .int (TB (RG ns mks) r (el ns i))
noncomputable abbrev rsD (r : List Nat) : PyData := .int (RS (RG ns mks) r : Nat)
noncomputable def BKS : List PyData := mks.map fun mk => .list (iN ((List.range (pr ns)).map (bkI ns mk)))
end
theorem idx_tL {ns e : List Nat} (h : ltL e ns) : (tL (memF ns))[ix ns e]? = some (tN e) ∧ ∀ (m : Nat) (z : PyData), m < ix ns e → (tL (memF ns))[m]? = some z → PyData.eqv z (tN e) = false := by
  have h' : ix ns e < (memF ns).length := by rw [memF_len]; exact ix_lt h
  refine ⟨?_, fun m z hm hz => ?_⟩
  · rw [List.getElem?_map, List.getElem?_eq_getElem h']
    exact congrArg (fun x => some (tN x)) (List.getElem_idxOf h')
  · have hml : m < (memF ns).length := by omega
    rw [List.getElem?_map, List.getElem?_eq_getElem hml] at hz
    cases hz
    rw [eqv_tN]
    refine decide_eq_false fun q => ?_
    have := (nodup_memF ns).idxOf_getElem m hml
    rw [q] at this
    unfold ix at hm
    omega
theorem set_sameC {α : Type} : ∀ {l : List α} {i : Nat} {x : α}, l[i]? = some x → l.set i x = l
  | [], _, _, h => by simp at h
  | a :: l, 0, x, h => by simp at h; rw [h]; rfl
  | a :: l, i + 1, x, h => by rw [List.set_cons_succ, set_sameC (by simpa using h)]
theorem wenum_l {c : CS} {i : Nat} {nm : List PyData} (hx : c[i]? = some (some (.own nm)) ∨ c[i]? = some (some (.dat (.list nm)))) {Q : List PyData → CS → Prop} (h : Q (rowsD (enumRs 0 nm)) (c.set i (some (.dat (.list nm))))) : t_wenum (t_acons (t_f (t_name i)) t_anil) c Q := by
  rcases hx with e | e
  · unfold t_wenum t_acons t_f t_name t_anil
    rw [e]
    exact h
  · rw [set_sameC e] at h
    unfold t_wenum t_acons t_f t_name t_anil
    rw [e]
    exact h
theorem BKS_eq {ns : List Nat} {mks : List (List Nat)} : BKS ns mks = (List.range mks.length).map fun c => .list (iN ((List.range (pr ns)).map (bkI ns (mks.getD c [])))) := by
  unfold BKS
  refine List.ext_getElem (by simp) fun i h1 h2 => ?_
  rw [List.length_map] at h1
  simp only [List.getElem_map, List.getElem_range]
  rw [List.getD_eq_getElem?_getD, List.getElem?_eq_getElem h1]
  rfl
theorem set_PB {ns : List Nat} {mks : List (List Nat)} {r : List Nat} {c : Nat} (h0 : 0 < r.getD c 0) (hmc : ltL (mks.getD c []) ns) :
    ((List.range (pr ns)).map fun i => PyData.int (max (PB ns mks r c (el ns i)) (TB (RG ns mks) (dc r c) (bk ns (mks.getD c []) (el ns i))))).set (ix ns (mks.getD c []))
      (.int (if ((RS (RG ns mks) (dc r c) : Nat) : Int) > max (PB ns mks r c (el ns (ix ns (mks.getD c [])))) (TB (RG ns mks) (dc r c) (bk ns (mks.getD c []) (el ns (ix ns (mks.getD c [])))))
        then ((RS (RG ns mks) (dc r c) : Nat) : Int) else max (PB ns mks r c (el ns (ix ns (mks.getD c [])))) (TB (RG ns mks) (dc r c) (bk ns (mks.getD c []) (el ns (ix ns (mks.getD c []))))))) = PBL ns mks r (c + 1) := by
  refine List.ext_getElem (by simp) fun i h1 h2 => ?_
  have hi : i < pr ns := by simpa using h2
  rw [List.getElem_set]
  simp only [List.getElem_map, List.getElem_range]
  have e1 : PB ns mks r (c + 1) (el ns i) = max (PB ns mks r c (el ns i)) (cw ns mks r c (el ns i)) := by
    show (if 0 < r.getD c 0 then _ else _) = _
    rw [if_pos h0]
  rw [e1]
  unfold cw
  by_cases e : ix ns (mks.getD c []) = i
  · subst e
    rw [if_pos rfl, el_ix hmc, if_pos rfl]
    congr 1
    split <;> omega
  · rw [if_neg e, if_neg fun z => e (by rw [← z, ix_el hi])]
    congr 1
    have := PB_ge (ns := ns) (mks := mks) r c (el ns i)
    omega
set_option maxHeartbeats 3200000 in
theorem room_spec {cs ns : List Nat} {mks : List (List Nat)} (hc : Crd cs) (hg : Gp ns) (h2 : 2 ≤ pr ns) (hm : ∀ m ∈ mks, ltL m ns) (hl : mks.length = cs.length) {Q : SV → Prop} (h : Q (.dat (.tuple ((List.range (sz cs)).map fun k => rsD ns mks (st cs k))))) :
    C_room_strengths [.dat (tN cs), .dat (tN ns), .dat (.tuple (tL mks))] Q := by
  refine ⟨rfl, ?_⟩
  have zz : sizeLine = 16777216 := sizeLine_eq
  have hp := hg.b
  have hpr := hg.p
  have hsz := hc.sz
  have h6 := hc.len
  have hLN : (tL (memF ns)).length = pr ns := by rw [List.length_map, memF_len]
  show T_room_strengths _ [some (.dat (tN cs)), some (.dat (tN ns)), some (.dat (.tuple (tL mks))), none, none, none, none, none, none, none, none, none, none, none, none, none, none, none]
  refine seq_step (fun c => c = [some (.dat (tN cs)), some (.dat (tN ns)), some (.dat (.tuple (tL mks))), some (.dat (.tuple (tL (memF ns)))), some (.gd []), some (.gd []), none, none, none, none, none, none, none, none, none, none, none, none]) (fun N hN => ?_) ?_
  · dsimp only [t_revL, t_sortsetL, t_sortsetT, t_lrange, t_trange, t_keep, frzAll, frzO, t_lensetS, t_wany, seqY, t_wzipT, seqT, t_gd0, t_disp, t_pcons, t_pnil, t_retdbox, t_dictP, t_sortK, t_callB, t_dnew1, t_pop, t_lenset, t_wseq, t_wzip3, t_astar, t_par3, t_dnew, t_dlist, t_dput, t_dget2, t_din, t_lenScr, t_raise1, t_callX, t_callKX, t_xf, t_isx, runX, t_seq, t_if, t_or, t_and, t_not, t_tst, t_v, t_f, t_l, t_c, t_c1, t_op, t_chain', t_ret, t_asg, t_for, t_wenum, t_wlist, t_wtup, t_wstr, t_wrng1, t_wrng2, t_drop, g_setix, t_wzip, t_lname, t_name, t_next, t_ifx, t_isi, t_notV, t_andV, t_orV, t_call, t_callK, t_acons, t_aconsR, t_anil, t_tupd, t_lstd, g_name, g_tup, g_cons, g_nil, t_drop, t_lc, t_yes, t_star1, t_retn, t_par, t_slice, t_some, t_no, t_dict0, t_rev, t_neg, t_extend, t_append, t_sliceScr, t_retbox, t_xcons, LV.get, CS.at_, SV.view, datsOf, Option.map_some, List.getElem?_cons_zero, List.getElem?_cons_succ, List.set_cons_zero, List.set_cons_succ, settled, initC, List.map_cons, List.map_nil, List.length_cons, List.length_nil, List.cons_append, List.nil_append, seqOf, runD, t_wrng3, t_dzip, t_count, t_frz, t_lrange2, t_sortsetS, t_indexL, t_retdboxM, t_par4, t_par5, t_index, t_maxd1, t_ifT, t_insert, t_tindex, t_tcount, t_tryM, t_raise0, t_gput, g_gput, t_gget1, t_gget2, t_lzip, t_callFn, t_popAt, t_callLam, t_retM, t_retMp, t_meth, t_methS, t_make, t_cput, mvSV, lvM]
    exact gmembers_spec hg ⟨by show 3 < 18; decide, by show 4 < 18; decide, by show 5 < 18; decide, hN _ rfl⟩
  rintro c rfl
  refine seq_step (fun c => c = [some (.dat (tN cs)), some (.dat (tN ns)), some (.dat (.tuple (tL mks))), some (.dat (.tuple (tL (memF ns)))), some (.gd []), some (.gd []), some (.own (BKS ns mks)), none, none, none, none, none, none, none, none, none, none, none]) (fun N hN => ?_) ?_
  · dsimp only [t_revL, t_sortsetL, t_sortsetT, t_lrange, t_trange, t_keep, frzAll, frzO, t_lensetS, t_wany, seqY, t_wzipT, seqT, t_gd0, t_disp, t_pcons, t_pnil, t_retdbox, t_dictP, t_sortK, t_callB, t_dnew1, t_pop, t_lenset, t_wseq, t_wzip3, t_astar, t_par3, t_dnew, t_dlist, t_dput, t_dget2, t_din, t_lenScr, t_raise1, t_callX, t_callKX, t_xf, t_isx, runX, t_seq, t_if, t_or, t_and, t_not, t_tst, t_v, t_f, t_l, t_c, t_c1, t_op, t_chain', t_ret, t_asg, t_for, t_wenum, t_wlist, t_wtup, t_wstr, t_wrng1, t_wrng2, t_drop, g_setix, t_wzip, t_lname, t_name, t_next, t_ifx, t_isi, t_notV, t_andV, t_orV, t_call, t_callK, t_acons, t_aconsR, t_anil, t_tupd, t_lstd, g_name, g_tup, g_cons, g_nil, t_drop, t_lc, t_yes, t_star1, t_retn, t_par, t_slice, t_some, t_no, t_dict0, t_rev, t_neg, t_extend, t_append, t_sliceScr, t_retbox, t_xcons, LV.get, CS.at_, SV.view, datsOf, Option.map_some, List.getElem?_cons_zero, List.getElem?_cons_succ, List.set_cons_zero, List.set_cons_succ, settled, initC, List.map_cons, List.map_nil, List.length_cons, List.length_nil, List.cons_append, List.nil_append, seqOf, runD, t_wrng3, t_dzip, t_count, t_frz, t_lrange2, t_sortsetS, t_indexL, t_retdboxM, t_par4, t_par5, t_index, t_maxd1, t_ifT, t_insert, t_tindex, t_tcount, t_tryM, t_raise0, t_gput, g_gput, t_gget1, t_gget2, t_lzip, t_callFn, t_popAt, t_callLam, t_retM, t_retMp, t_meth, t_methS, t_make, t_cput, mvSV, lvM]
    show lcD _ _ _ _ _ (mks.map tN) _ _
    dsimp only [wipeC, List.set_cons_zero, List.set_cons_succ]
    refine lcD_M tN (fun mk => .list (iN ((List.range (pr ns)).map (bkI ns mk)))) _ _ (by rw [zz]; omega) (fun mk hmk K N2 hK => ?_) ?_
    · dsimp only [t_revL, t_sortsetL, t_sortsetT, t_lrange, t_trange, t_keep, frzAll, frzO, t_lensetS, t_wany, seqY, t_wzipT, seqT, t_gd0, t_disp, t_pcons, t_pnil, t_retdbox, t_dictP, t_sortK, t_callB, t_dnew1, t_pop, t_lenset, t_wseq, t_wzip3, t_astar, t_par3, t_dnew, t_dlist, t_dput, t_dget2, t_din, t_lenScr, t_raise1, t_callX, t_callKX, t_xf, t_isx, runX, t_seq, t_if, t_or, t_and, t_not, t_tst, t_v, t_f, t_l, t_c, t_c1, t_op, t_chain', t_ret, t_asg, t_for, t_wenum, t_wlist, t_wtup, t_wstr, t_wrng1, t_wrng2, t_drop, g_setix, t_wzip, t_lname, t_name, t_next, t_ifx, t_isi, t_notV, t_andV, t_orV, t_call, t_callK, t_acons, t_aconsR, t_anil, t_tupd, t_lstd, g_name, g_tup, g_cons, g_nil, t_drop, t_lc, t_yes, t_star1, t_retn, t_par, t_slice, t_some, t_no, t_dict0, t_rev, t_neg, t_extend, t_append, t_sliceScr, t_retbox, t_xcons, LV.get, CS.at_, SV.view, datsOf, Option.map_some, List.getElem?_cons_zero, List.getElem?_cons_succ, List.set_cons_zero, List.set_cons_succ, settled, initC, List.map_cons, List.map_nil, List.length_cons, List.length_nil, List.cons_append, List.nil_append, seqOf, runD, t_wrng3, t_dzip, t_count, t_frz, t_lrange2, t_sortsetS, t_indexL, t_retdboxM, t_par4, t_par5, t_index, t_maxd1, t_ifT, t_insert, t_tindex, t_tcount, t_tryM, t_raise0, t_gput, g_gput, t_gget1, t_gget2, t_lzip, t_callFn, t_popAt, t_callLam, t_retM, t_retMp, t_meth, t_methS, t_make, t_cput, mvSV, lvM, wipeC]
      exact ⟨by show 7 < 18; decide, iteT (backs_of_spec hg (hm mk hmk) hK)⟩
    · rw [restC_self]
      exact ⟨by show 6 < 18; decide, hN _ rfl⟩
  rintro c rfl
  refine seq_step (fun c => c = [some (.dat (tN cs)), some (.dat (tN ns)), some (.dat (.tuple (tL mks))), some (.dat (.tuple (tL (memF ns)))), some (.gd []), some (.gd []), some (.own (BKS ns mks)), none, some (.own (iN (mks.map (ix ns)))), none, none, none, none, none, none, none, none, none]) (fun N hN => ?_) ?_
  · dsimp only [t_revL, t_sortsetL, t_sortsetT, t_lrange, t_trange, t_keep, frzAll, frzO, t_lensetS, t_wany, seqY, t_wzipT, seqT, t_gd0, t_disp, t_pcons, t_pnil, t_retdbox, t_dictP, t_sortK, t_callB, t_dnew1, t_pop, t_lenset, t_wseq, t_wzip3, t_astar, t_par3, t_dnew, t_dlist, t_dput, t_dget2, t_din, t_lenScr, t_raise1, t_callX, t_callKX, t_xf, t_isx, runX, t_seq, t_if, t_or, t_and, t_not, t_tst, t_v, t_f, t_l, t_c, t_c1, t_op, t_chain', t_ret, t_asg, t_for, t_wenum, t_wlist, t_wtup, t_wstr, t_wrng1, t_wrng2, t_drop, g_setix, t_wzip, t_lname, t_name, t_next, t_ifx, t_isi, t_notV, t_andV, t_orV, t_call, t_callK, t_acons, t_aconsR, t_anil, t_tupd, t_lstd, g_name, g_tup, g_cons, g_nil, t_drop, t_lc, t_yes, t_star1, t_retn, t_par, t_slice, t_some, t_no, t_dict0, t_rev, t_neg, t_extend, t_append, t_sliceScr, t_retbox, t_xcons, LV.get, CS.at_, SV.view, datsOf, Option.map_some, List.getElem?_cons_zero, List.getElem?_cons_succ, List.set_cons_zero, List.set_cons_succ, settled, initC, List.map_cons, List.map_nil, List.length_cons, List.length_nil, List.cons_append, List.nil_append, seqOf, runD, t_wrng3, t_dzip, t_count, t_frz, t_lrange2, t_sortsetS, t_indexL, t_retdboxM, t_par4, t_par5, t_index, t_maxd1, t_ifT, t_insert, t_tindex, t_tcount, t_tryM, t_raise0, t_gput, g_gput, t_gget1, t_gget2, t_lzip, t_callFn, t_popAt, t_callLam, t_retM, t_retMp, t_meth, t_methS, t_make, t_cput, mvSV, lvM]
    show lcD _ _ _ _ _ (mks.map tN) _ _
    dsimp only [wipeC, List.set_cons_zero, List.set_cons_succ]
    refine lcD_M tN (fun mk => .int (ix ns mk : Nat)) _ _ (by rw [zz]; omega) (fun mk hmk K N2 hK => ?_) ?_
    · dsimp only [t_revL, t_sortsetL, t_sortsetT, t_lrange, t_trange, t_keep, frzAll, frzO, t_lensetS, t_wany, seqY, t_wzipT, seqT, t_gd0, t_disp, t_pcons, t_pnil, t_retdbox, t_dictP, t_sortK, t_callB, t_dnew1, t_pop, t_lenset, t_wseq, t_wzip3, t_astar, t_par3, t_dnew, t_dlist, t_dput, t_dget2, t_din, t_lenScr, t_raise1, t_callX, t_callKX, t_xf, t_isx, runX, t_seq, t_if, t_or, t_and, t_not, t_tst, t_v, t_f, t_l, t_c, t_c1, t_op, t_chain', t_ret, t_asg, t_for, t_wenum, t_wlist, t_wtup, t_wstr, t_wrng1, t_wrng2, t_drop, g_setix, t_wzip, t_lname, t_name, t_next, t_ifx, t_isi, t_notV, t_andV, t_orV, t_call, t_callK, t_acons, t_aconsR, t_anil, t_tupd, t_lstd, g_name, g_tup, g_cons, g_nil, t_drop, t_lc, t_yes, t_star1, t_retn, t_par, t_slice, t_some, t_no, t_dict0, t_rev, t_neg, t_extend, t_append, t_sliceScr, t_retbox, t_xcons, LV.get, CS.at_, SV.view, datsOf, Option.map_some, List.getElem?_cons_zero, List.getElem?_cons_succ, List.set_cons_zero, List.set_cons_succ, settled, initC, List.map_cons, List.map_nil, List.length_cons, List.length_nil, List.cons_append, List.nil_append, seqOf, runD, t_wrng3, t_dzip, t_count, t_frz, t_lrange2, t_sortsetS, t_indexL, t_retdboxM, t_par4, t_par5, t_index, t_maxd1, t_ifT, t_insert, t_tindex, t_tcount, t_tryM, t_raise0, t_gput, g_gput, t_gget1, t_gget2, t_lzip, t_callFn, t_popAt, t_callLam, t_retM, t_retMp, t_meth, t_methS, t_make, t_cput, mvSV, lvM, wipeC]
      obtain ⟨i1, i2⟩ := idx_tL (hm mk hmk)
      refine ⟨by show 7 < 18; decide, iteT ⟨⟨_, rfl⟩, ⟨_, rfl⟩, _, ix ns mk, tN mk, rfl, inOk_tL mk (memF ns), i1, by rw [eqv_tN]; exact decide_eq_true rfl, i2, hK⟩⟩
    · rw [restC_self]
      exact ⟨by show 8 < 18; decide, hN _ (by unfold iN; rw [List.map_map]; rfl)⟩
  rintro c rfl
  have bl : (BKS ns mks).length = mks.length := by unfold BKS; rw [List.length_map]
  have rooms_in : ∀ {k c : Nat}, k < sz cs → 0 < (st cs k).getD c 0 → dc (st cs k) c ∈ (List.range k).map (st cs) := fun {k c} hk h0 => by
    obtain ⟨j, hj, e⟩ := dc_st hk h0
    exact List.mem_map.mpr ⟨j, List.mem_range.mpr hj, e⟩
  refine seq_step (fun c => ∃ x6 x9 x10 x11 x12 x13 x14 x15, c = [some (.dat (tN cs)), some (.dat (tN ns)), some (.dat (.tuple (tL mks))), some (.dat (.tuple (tL (memF ns)))), some (.gd (rb (rsD ns mks) ((List.range (sz cs)).map (st cs)))), some (.gd (rb (fun r => .list (TBL ns mks r)) ((List.range (sz cs)).map (st cs)))), x6, none, some (.own (iN (mks.map (ix ns)))), x9, x10, x11, x12, x13, x14, x15, none, none]) (fun N hN => ?_) ?_
  · dsimp only [t_for, t_wany, t_f, t_call, t_acons, t_name, t_anil, settled, List.getElem?_cons_zero, List.getElem?_cons_succ]
    refine states_spec hc ?_
    show forD _ _ _ ((List.range (sz cs)).map fun k => tN (st cs k)) _
    refine forD_A (fun k => tN (st cs k)) (fun done c => ∃ x6 x9 x10 x11 x12 x13 x14 x15, (x6 = some (.own (BKS ns mks)) ∨ x6 = some (.dat (.list (BKS ns mks)))) ∧ c = [some (.dat (tN cs)), some (.dat (tN ns)), some (.dat (.tuple (tL mks))), some (.dat (.tuple (tL (memF ns)))), some (.gd (rb (rsD ns mks) (done.map (st cs)))), some (.gd (rb (fun r => .list (TBL ns mks r)) (done.map (st cs)))), x6, none, some (.own (iN (mks.map (ix ns)))), x9, x10, x11, x12, x13, x14, x15, none, none]) _ ?_ ?_ ⟨_, none, none, none, none, none, none, none, .inl rfl, rfl⟩
    · rintro c ⟨x6, x9, x10, x11, x12, x13, x14, x15, _, rfl⟩
      exact hN _ ⟨x6, x9, x10, x11, x12, x13, x14, x15, rfl⟩
    rintro done k todo c N2 e hN2 ⟨x6, x9, x10, x11, x12, x13, x14, x15, h6x, rfl⟩
    obtain ⟨_, hk, hd⟩ := rng_ix e
    have hrl := st_len cs k
    obtain ⟨r, hr⟩ : ∃ r, r = st cs k := ⟨_, rfl⟩
    refine ⟨by show 9 < 18; decide, ?_⟩
    refine seq_step (fun c => c = [some (.dat (tN cs)), some (.dat (tN ns)), some (.dat (.tuple (tL mks))), some (.dat (.tuple (tL (memF ns)))), some (.gd (rb (rsD ns mks) (done.map (st cs)))), some (.gd (rb (fun r => .list (TBL ns mks r)) (done.map (st cs)))), x6, none, some (.own (iN (mks.map (ix ns)))), some (.dat (tN r)), some (.own (PBL ns mks r 0)), x11, x12, x13, x14, x15, none, none]) (fun N3 hN3 => ?_) ?_
    · dsimp only [t_revL, t_sortsetL, t_sortsetT, t_lrange, t_trange, t_keep, frzAll, frzO, t_lensetS, t_wany, seqY, t_wzipT, seqT, t_gd0, t_disp, t_pcons, t_pnil, t_retdbox, t_dictP, t_sortK, t_callB, t_dnew1, t_pop, t_lenset, t_wseq, t_wzip3, t_astar, t_par3, t_dnew, t_dlist, t_dput, t_dget2, t_din, t_lenScr, t_raise1, t_callX, t_callKX, t_xf, t_isx, runX, t_seq, t_if, t_or, t_and, t_not, t_tst, t_v, t_f, t_l, t_c, t_c1, t_op, t_chain', t_ret, t_asg, t_for, t_wenum, t_wlist, t_wtup, t_wstr, t_wrng1, t_wrng2, t_drop, g_setix, t_wzip, t_lname, t_name, t_next, t_ifx, t_isi, t_notV, t_andV, t_orV, t_call, t_callK, t_acons, t_aconsR, t_anil, t_tupd, t_lstd, g_name, g_tup, g_cons, g_nil, t_drop, t_lc, t_yes, t_star1, t_retn, t_par, t_slice, t_some, t_no, t_dict0, t_rev, t_neg, t_extend, t_append, t_sliceScr, t_retbox, t_xcons, LV.get, CS.at_, SV.view, datsOf, Option.map_some, List.getElem?_cons_zero, List.getElem?_cons_succ, List.set_cons_zero, List.set_cons_succ, settled, initC, List.map_cons, List.map_nil, List.length_cons, List.length_nil, List.cons_append, List.nil_append, seqOf, runD, t_wrng3, t_dzip, t_count, t_frz, t_lrange2, t_sortsetS, t_indexL, t_retdboxM, t_par4, t_par5, t_index, t_maxd1, t_ifT, t_insert, t_tindex, t_tcount, t_tryM, t_raise0, t_gput, g_gput, t_gget1, t_gget2, t_lzip, t_callFn, t_popAt, t_callLam, t_retM, t_retMp, t_meth, t_methS, t_make, t_cput, mvSV, lvM]
      refine ⟨by rw [zz]; decide, ⟨_, rfl⟩, lenY_tt ?_⟩
      show mulZ (.list [.int (-1)]) (.int (((tL (memF ns)).length : Nat) : Int)) _
      rw [hLN]
      refine mulZ_one (by omega) ?_
      rw [show List.replicate (pr ns) (PyData.int (-1)) = PBL ns mks r 0 from List.ext_getElem (by simp) fun i h1 h2 => by simp [PB]]
      exact ⟨by show 10 < 18; decide, hN3 _ (by rw [hr])⟩
    rintro c rfl
    refine seq_step (fun c => ∃ x11 x12 x13 x14 x15, c = [some (.dat (tN cs)), some (.dat (tN ns)), some (.dat (.tuple (tL mks))), some (.dat (.tuple (tL (memF ns)))), some (.gd (rb (rsD ns mks) (done.map (st cs)))), some (.gd (rb (fun r => .list (TBL ns mks r)) (done.map (st cs)))), some (.dat (.list (BKS ns mks))), none, some (.own (iN (mks.map (ix ns)))), some (.dat (tN r)), some (.own (PBL ns mks r mks.length)), x11, x12, x13, x14, x15, none, none]) (fun N3 hN3 => ?_) ?_
    · dsimp only [t_for]
      refine wenum_l (i := 6) (nm := BKS ns mks) (h6x.imp (fun z => congrArg some z) fun z => congrArg some z) ?_
      dsimp only [List.set_cons_zero, List.set_cons_succ]
      rw [BKS_eq, enum_map, ← BKS_eq]
      have hd4 : ∀ {c : Nat} {Q : SV → Prop}, 0 < r.getD c 0 → Q (.dat (rsD ns mks (dc r c))) → ixG (.dict (rb (rsD ns mks) (done.map (st cs)))) (tN (dc r c)) Q := fun {c Q} h0 q =>
        rb_ix (by rw [hd, hr]; exact rooms_in hk (by rw [← hr]; exact h0)) q
      have hd5 : ∀ {c : Nat} {Q : SV → Prop}, 0 < r.getD c 0 → Q (.dat (.list (TBL ns mks (dc r c)))) → ixG (.dict (rb (fun r => .list (TBL ns mks r)) (done.map (st cs)))) (tN (dc r c)) Q := fun {c Q} h0 q =>
        rb_ix (g := fun r => .list (TBL ns mks r)) (by rw [hd, hr]; exact rooms_in hk (by rw [← hr]; exact h0)) q
      have hrl2 : r.length = cs.length := by rw [hr]; exact hrl
      generalize rb (rsD ns mks) (done.map (st cs)) = D4 at *
      generalize rb (fun r => .list (TBL ns mks r)) (done.map (st cs)) = D5 at *
      refine forD_A (fun c : Nat => .tuple [.int ((c : Nat) : Int), .list (iN ((List.range (pr ns)).map (bkI ns (mks.getD c []))))]) (fun dn c => ∃ x11 x12 x13 x14 x15, c = [some (.dat (tN cs)), some (.dat (tN ns)), some (.dat (.tuple (tL mks))), some (.dat (.tuple (tL (memF ns)))), some (.gd D4), some (.gd D5), some (.dat (.list (BKS ns mks))), none, some (.own (iN (mks.map (ix ns)))), some (.dat (tN r)), some (.own (PBL ns mks r dn.length)), x11, x12, x13, x14, x15, none, none]) (List.range mks.length) ?_ ?_ ⟨x11, x12, x13, x14, x15, rfl⟩
      · rintro c ⟨x11, x12, x13, x14, x15, rfl⟩
        rw [List.length_range]
        exact hN3 _ ⟨x11, x12, x13, x14, x15, rfl⟩
      rintro dn c todo2 cc N4 e4 hN4 ⟨x11, x12, x13, x14, x15, rfl⟩
      obtain ⟨hc1, hc2, _⟩ := rng_ix e4
      rw [List.length_append, List.length_singleton] at hN4
      rw [hc1] at hN4 ⊢
      have hmc : ltL (mks.getD c []) ns := mk_lt hm hc2
      refine ⟨rfl, by show 11 < 18; decide, by show 12 < 18; decide, rfl, ?_⟩
      have rat : ∀ {Q : SV → Prop}, Q (.dat (.int (r.getD c 0 : Nat))) → ixG (tN r) (.int ((c : Nat) : Int)) Q := fun {Q} q => ixG_tt (atI_iN (by omega)) q
      by_cases h0 : 0 < r.getD c 0
      · refine if_yes (fun K hK => ?_) ?_
        · dsimp only [t_revL, t_sortsetL, t_sortsetT, t_lrange, t_trange, t_keep, frzAll, frzO, t_lensetS, t_wany, seqY, t_wzipT, seqT, t_gd0, t_disp, t_pcons, t_pnil, t_retdbox, t_dictP, t_sortK, t_callB, t_dnew1, t_pop, t_lenset, t_wseq, t_wzip3, t_astar, t_par3, t_dnew, t_dlist, t_dput, t_dget2, t_din, t_lenScr, t_raise1, t_callX, t_callKX, t_xf, t_isx, runX, t_seq, t_if, t_or, t_and, t_not, t_tst, t_v, t_f, t_l, t_c, t_c1, t_op, t_chain', t_ret, t_asg, t_for, t_wenum, t_wlist, t_wtup, t_wstr, t_wrng1, t_wrng2, t_drop, g_setix, t_wzip, t_lname, t_name, t_next, t_ifx, t_isi, t_notV, t_andV, t_orV, t_call, t_callK, t_acons, t_aconsR, t_anil, t_tupd, t_lstd, g_name, g_tup, g_cons, g_nil, t_drop, t_lc, t_yes, t_star1, t_retn, t_par, t_slice, t_some, t_no, t_dict0, t_rev, t_neg, t_extend, t_append, t_sliceScr, t_retbox, t_xcons, LV.get, CS.at_, SV.view, datsOf, Option.map_some, List.getElem?_cons_zero, List.getElem?_cons_succ, List.set_cons_zero, List.set_cons_succ, settled, initC, List.map_cons, List.map_nil, List.length_cons, List.length_nil, List.cons_append, List.nil_append, seqOf, runD, t_wrng3, t_dzip, t_count, t_frz, t_lrange2, t_sortsetS, t_indexL, t_retdboxM, t_par4, t_par5, t_index, t_maxd1, t_ifT, t_insert, t_tindex, t_tcount, t_tryM, t_raise0, t_gput, g_gput, t_gget1, t_gget2, t_lzip, t_callFn, t_popAt, t_callLam, t_retM, t_retMp, t_meth, t_methS, t_make, t_cput, mvSV, lvM]
          refine ⟨⟨_, rfl⟩, ⟨_, rfl⟩, rat (gtY_n ?_)⟩
          rw [decide_eq_true (by omega)]
          exact hK
        refine seq_step (fun cc => cc = [some (.dat (tN cs)), some (.dat (tN ns)), some (.dat (.tuple (tL mks))), some (.dat (.tuple (tL (memF ns)))), some (.gd D4), some (.gd D5), some (.dat (.list (BKS ns mks))), none, some (.own (iN (mks.map (ix ns)))), some (.dat (tN r)), some (.own (PBL ns mks r c)), some (.dat (.int (c : Nat))), some (.dat (.list (iN ((List.range (pr ns)).map (bkI ns (mks.getD c [])))))), some (.dat (tN (dc r c))), x14, x15, none, none]) (fun N5 hN5 => ?_) ?_
        · dsimp only [t_revL, t_sortsetL, t_sortsetT, t_lrange, t_trange, t_keep, frzAll, frzO, t_lensetS, t_wany, seqY, t_wzipT, seqT, t_gd0, t_disp, t_pcons, t_pnil, t_retdbox, t_dictP, t_sortK, t_callB, t_dnew1, t_pop, t_lenset, t_wseq, t_wzip3, t_astar, t_par3, t_dnew, t_dlist, t_dput, t_dget2, t_din, t_lenScr, t_raise1, t_callX, t_callKX, t_xf, t_isx, runX, t_seq, t_if, t_or, t_and, t_not, t_tst, t_v, t_f, t_l, t_c, t_c1, t_op, t_chain', t_ret, t_asg, t_for, t_wenum, t_wlist, t_wtup, t_wstr, t_wrng1, t_wrng2, t_drop, g_setix, t_wzip, t_lname, t_name, t_next, t_ifx, t_isi, t_notV, t_andV, t_orV, t_call, t_callK, t_acons, t_aconsR, t_anil, t_tupd, t_lstd, g_name, g_tup, g_cons, g_nil, t_drop, t_lc, t_yes, t_star1, t_retn, t_par, t_slice, t_some, t_no, t_dict0, t_rev, t_neg, t_extend, t_append, t_sliceScr, t_retbox, t_xcons, LV.get, CS.at_, SV.view, datsOf, Option.map_some, List.getElem?_cons_zero, List.getElem?_cons_succ, List.set_cons_zero, List.set_cons_succ, settled, initC, List.map_cons, List.map_nil, List.length_cons, List.length_nil, List.cons_append, List.nil_append, seqOf, runD, t_wrng3, t_dzip, t_count, t_frz, t_lrange2, t_sortsetS, t_indexL, t_retdboxM, t_par4, t_par5, t_index, t_maxd1, t_ifT, t_insert, t_tindex, t_tcount, t_tryM, t_raise0, t_gput, g_gput, t_gget1, t_gget2, t_lzip, t_callFn, t_popAt, t_callLam, t_retM, t_retMp, t_meth, t_methS, t_make, t_cput, mvSV, lvM, t_astar]
          have l1 := cut_le (iN r) none (some ((c : Nat) : Int))
          have l2 := cut_le (iN r) (some (((c : Nat) : Int) + 1)) none
          have l3 := iN_len r
          refine ⟨⟨_, rfl⟩, slX_tt ⟨⟨_, rfl⟩, ⟨_, rfl⟩, rat (subX_ii ⟨⟨_, rfl⟩, ⟨_, rfl⟩, addZ_ii (slX_tt ?_)⟩)⟩⟩
          show match datsOf ((Cl.cutD (iN r) none (some ((c : Nat) : Int))).map .dat ++ (.dat (.int (((r.getD c 0 : Nat) : Int) - 1)) :: ((Cl.cutD (iN r) (some (((c : Nat) : Int) + 1)) none).map .dat ++ []))) with
            | some ds => _
            | none => False
          rw [datsOf_app]
          show match (Option.map (fun x => PyData.int (((r.getD c 0 : Nat) : Int) - 1) :: x) (datsOf ((Cl.cutD (iN r) (some (((c : Nat) : Int) + 1)) none).map .dat ++ []))).map (Cl.cutD (iN r) none (some ((c : Nat) : Int)) ++ ·) with
            | some ds => _
            | none => False
          rw [datsOf_app]
          show _ ≤ sizeLine ∧ _
          refine ⟨by rw [zz]; simp only [List.length_append, List.length_cons, List.length_nil]; omega, by show 13 < 18; decide, ?_⟩
          have ec := cut_dc (s := r) (c := c) (by omega) h0
          rw [List.append_assoc] at ec
          refine hN5 _ ?_
          rw [show tN (dc r c) = PyData.tuple _ from congrArg PyData.tuple ec.symm]
          dsimp only
          rw [List.append_nil]
          rfl
        rintro cc rfl
        have goal_at : ∀ {Q : SV → Prop}, Q (.dat (.int (ix ns (mks.getD c []) : Nat))) → ixG (.list (iN (mks.map (ix ns)))) (.int ((c : Nat) : Int)) Q := fun {Q} q => by
          refine ixG_l (atI_iN (by rw [List.length_map]; exact hc2)) ?_
          rw [List.getD_eq_getElem?_getD, List.getElem?_map, List.getElem?_eq_getElem hc2]
          rw [List.getD_eq_getElem?_getD, List.getElem?_eq_getElem hc2] at q
          exact q
        refine seq_step (fun cc => cc = [some (.dat (tN cs)), some (.dat (tN ns)), some (.dat (.tuple (tL mks))), some (.dat (.tuple (tL (memF ns)))), some (.gd D4), some (.gd D5), some (.dat (.list (BKS ns mks))), none, some (.own (iN (mks.map (ix ns)))), some (.dat (tN r)), some (.own (PBL ns mks r c)), some (.dat (.int (c : Nat))), some (.dat (.list (iN ((List.range (pr ns)).map (bkI ns (mks.getD c [])))))), some (.dat (tN (dc r c))), some (.dat (.list (TBL ns mks (dc r c)))), some (.dat (.int (ix ns (mks.getD c []) : Nat))), none, none]) (fun N5 hN5 => ?_) ?_
        · dsimp only [t_revL, t_sortsetL, t_sortsetT, t_lrange, t_trange, t_keep, frzAll, frzO, t_lensetS, t_wany, seqY, t_wzipT, seqT, t_gd0, t_disp, t_pcons, t_pnil, t_retdbox, t_dictP, t_sortK, t_callB, t_dnew1, t_pop, t_lenset, t_wseq, t_wzip3, t_astar, t_par3, t_dnew, t_dlist, t_dput, t_dget2, t_din, t_lenScr, t_raise1, t_callX, t_callKX, t_xf, t_isx, runX, t_seq, t_if, t_or, t_and, t_not, t_tst, t_v, t_f, t_l, t_c, t_c1, t_op, t_chain', t_ret, t_asg, t_for, t_wenum, t_wlist, t_wtup, t_wstr, t_wrng1, t_wrng2, t_drop, g_setix, t_wzip, t_lname, t_name, t_next, t_ifx, t_isi, t_notV, t_andV, t_orV, t_call, t_callK, t_acons, t_aconsR, t_anil, t_tupd, t_lstd, g_name, g_tup, g_cons, g_nil, t_drop, t_lc, t_yes, t_star1, t_retn, t_par, t_slice, t_some, t_no, t_dict0, t_rev, t_neg, t_extend, t_append, t_sliceScr, t_retbox, t_xcons, LV.get, CS.at_, SV.view, datsOf, Option.map_some, List.getElem?_cons_zero, List.getElem?_cons_succ, List.set_cons_zero, List.set_cons_succ, settled, initC, List.map_cons, List.map_nil, List.length_cons, List.length_nil, List.cons_append, List.nil_append, seqOf, runD, t_wrng3, t_dzip, t_count, t_frz, t_lrange2, t_sortsetS, t_indexL, t_retdboxM, t_par4, t_par5, t_index, t_maxd1, t_ifT, t_insert, t_tindex, t_tcount, t_tryM, t_raise0, t_gput, g_gput, t_gget1, t_gget2, t_lzip, t_callFn, t_popAt, t_callLam, t_retM, t_retMp, t_meth, t_methS, t_make, t_cput, mvSV, lvM]
          exact ⟨⟨_, rfl⟩, ⟨_, rfl⟩, hd5 h0 ⟨⟨_, rfl⟩, ⟨_, rfl⟩, goal_at ⟨by show 14 < 18; decide, by show 15 < 18; decide, hN5 _ rfl⟩⟩⟩
        rintro cc rfl
        refine seq_step (fun cc => cc = [some (.dat (tN cs)), some (.dat (tN ns)), some (.dat (.tuple (tL mks))), some (.dat (.tuple (tL (memF ns)))), some (.gd D4), some (.gd D5), some (.dat (.list (BKS ns mks))), none, some (.own (iN (mks.map (ix ns)))), some (.dat (tN r)), some (.own ((List.range (pr ns)).map fun i => .int (max (PB ns mks r c (el ns i)) (TB (RG ns mks) (dc r c) (bk ns (mks.getD c []) (el ns i)))))), some (.dat (.int (c : Nat))), some (.dat (.list (iN ((List.range (pr ns)).map (bkI ns (mks.getD c [])))))), some (.dat (tN (dc r c))), some (.dat (.list (TBL ns mks (dc r c)))), some (.dat (.int (ix ns (mks.getD c []) : Nat))), none, none]) (fun N5 hN5 => ?_) ?_
        · dsimp only [t_revL, t_sortsetL, t_sortsetT, t_lrange, t_trange, t_keep, frzAll, frzO, t_lensetS, t_wany, seqY, t_wzipT, seqT, t_gd0, t_disp, t_pcons, t_pnil, t_retdbox, t_dictP, t_sortK, t_callB, t_dnew1, t_pop, t_lenset, t_wseq, t_wzip3, t_astar, t_par3, t_dnew, t_dlist, t_dput, t_dget2, t_din, t_lenScr, t_raise1, t_callX, t_callKX, t_xf, t_isx, runX, t_seq, t_if, t_or, t_and, t_not, t_tst, t_v, t_f, t_l, t_c, t_c1, t_op, t_chain', t_ret, t_asg, t_for, t_wenum, t_wlist, t_wtup, t_wstr, t_wrng1, t_wrng2, t_drop, g_setix, t_wzip, t_lname, t_name, t_next, t_ifx, t_isi, t_notV, t_andV, t_orV, t_call, t_callK, t_acons, t_aconsR, t_anil, t_tupd, t_lstd, g_name, g_tup, g_cons, g_nil, t_drop, t_lc, t_yes, t_star1, t_retn, t_par, t_slice, t_some, t_no, t_dict0, t_rev, t_neg, t_extend, t_append, t_sliceScr, t_retbox, t_xcons, LV.get, CS.at_, SV.view, datsOf, Option.map_some, List.getElem?_cons_zero, List.getElem?_cons_succ, List.set_cons_zero, List.set_cons_succ, settled, initC, List.map_cons, List.map_nil, List.length_cons, List.length_nil, List.cons_append, List.nil_append, seqOf, runD, t_wrng3, t_dzip, t_count, t_frz, t_lrange2, t_sortsetS, t_indexL, t_retdboxM, t_par4, t_par5, t_index, t_maxd1, t_ifT, t_insert, t_tindex, t_tcount, t_tryM, t_raise0, t_gput, g_gput, t_gget1, t_gget2, t_lzip, t_callFn, t_popAt, t_callLam, t_retM, t_retMp, t_meth, t_methS, t_make, t_cput, mvSV, lvM, seqT]
          rw [show rowsD (zipRs (PBL ns mks r c) (iN ((List.range (pr ns)).map (bkI ns (mks.getD c []))))) = (List.range (pr ns)).map fun i => .tuple [.int (PB ns mks r c (el ns i)), .int (bkI ns (mks.getD c []) i : Nat)] by
            rw [← zip_pair]
            unfold iN
            rw [List.map_map]
            rfl]
          dsimp only [wipeC, List.set_cons_zero, List.set_cons_succ]
          refine lcD_M (fun i : Nat => .tuple [.int (PB ns mks r c (el ns i)), .int (bkI ns (mks.getD c []) i : Nat)]) (fun i => .int (max (PB ns mks r c (el ns i)) (TB (RG ns mks) (dc r c) (bk ns (mks.getD c []) (el ns i))))) _ _ (by rw [List.length_range, zz]; omega) (fun i hi K N6 hK => ?_) ?_
          · have hi := List.mem_range.mp hi
            have hbl : ltL (bk ns (mks.getD c []) (el ns i)) ns := bk_lt hp (el_lt hi) hmc
            dsimp only [t_revL, t_sortsetL, t_sortsetT, t_lrange, t_trange, t_keep, frzAll, frzO, t_lensetS, t_wany, seqY, t_wzipT, seqT, t_gd0, t_disp, t_pcons, t_pnil, t_retdbox, t_dictP, t_sortK, t_callB, t_dnew1, t_pop, t_lenset, t_wseq, t_wzip3, t_astar, t_par3, t_dnew, t_dlist, t_dput, t_dget2, t_din, t_lenScr, t_raise1, t_callX, t_callKX, t_xf, t_isx, runX, t_seq, t_if, t_or, t_and, t_not, t_tst, t_v, t_f, t_l, t_c, t_c1, t_op, t_chain', t_ret, t_asg, t_for, t_wenum, t_wlist, t_wtup, t_wstr, t_wrng1, t_wrng2, t_drop, g_setix, t_wzip, t_lname, t_name, t_next, t_ifx, t_isi, t_notV, t_andV, t_orV, t_call, t_callK, t_acons, t_aconsR, t_anil, t_tupd, t_lstd, g_name, g_tup, g_cons, g_nil, t_drop, t_lc, t_yes, t_star1, t_retn, t_par, t_slice, t_some, t_no, t_dict0, t_rev, t_neg, t_extend, t_append, t_sliceScr, t_retbox, t_xcons, LV.get, CS.at_, SV.view, datsOf, Option.map_some, List.getElem?_cons_zero, List.getElem?_cons_succ, List.set_cons_zero, List.set_cons_succ, settled, initC, List.map_cons, List.map_nil, List.length_cons, List.length_nil, List.cons_append, List.nil_append, seqOf, runD, t_wrng3, t_dzip, t_count, t_frz, t_lrange2, t_sortsetS, t_indexL, t_retdboxM, t_par4, t_par5, t_index, t_maxd1, t_ifT, t_insert, t_tindex, t_tcount, t_tryM, t_raise0, t_gput, g_gput, t_gget1, t_gget2, t_lzip, t_callFn, t_popAt, t_callLam, t_retM, t_retMp, t_meth, t_methS, t_make, t_cput, mvSV, lvM, wipeC]
            refine ⟨rfl, by show 16 < 18; decide, by show 17 < 18; decide, rfl, iteT ⟨⟨_, rfl⟩, ⟨_, rfl⟩, ⟨_, rfl⟩, ixG_l (atI_range (ix_lt hbl)) ?_⟩⟩
            show K (.int (if TB (RG ns mks) (dc r c) (el ns (ix ns (bk ns (mks.getD c []) (el ns i)))) > PB ns mks r c (el ns i) then _ else _)) _
            rw [el_ix hbl]
            rw [show (max (PB ns mks r c (el ns i)) (TB (RG ns mks) (dc r c) (bk ns (mks.getD c []) (el ns i)))) = (if TB (RG ns mks) (dc r c) (bk ns (mks.getD c []) (el ns i)) > PB ns mks r c (el ns i) then TB (RG ns mks) (dc r c) (bk ns (mks.getD c []) (el ns i)) else PB ns mks r c (el ns i)) by split <;> omega] at hK
            exact hK
          · rw [restC_self]
            exact ⟨by show 10 < 18; decide, hN5 _ rfl⟩
        rintro cc rfl
        have gl := ix_lt hmc
        dsimp only [t_revL, t_sortsetL, t_sortsetT, t_lrange, t_trange, t_keep, frzAll, frzO, t_lensetS, t_wany, seqY, t_wzipT, seqT, t_gd0, t_disp, t_pcons, t_pnil, t_retdbox, t_dictP, t_sortK, t_callB, t_dnew1, t_pop, t_lenset, t_wseq, t_wzip3, t_astar, t_par3, t_dnew, t_dlist, t_dput, t_dget2, t_din, t_lenScr, t_raise1, t_callX, t_callKX, t_xf, t_isx, runX, t_seq, t_if, t_or, t_and, t_not, t_tst, t_v, t_f, t_l, t_c, t_c1, t_op, t_chain', t_ret, t_asg, t_for, t_wenum, t_wlist, t_wtup, t_wstr, t_wrng1, t_wrng2, t_drop, g_setix, t_wzip, t_lname, t_name, t_next, t_ifx, t_isi, t_notV, t_andV, t_orV, t_call, t_callK, t_acons, t_aconsR, t_anil, t_tupd, t_lstd, g_name, g_tup, g_cons, g_nil, t_drop, t_lc, t_yes, t_star1, t_retn, t_par, t_slice, t_some, t_no, t_dict0, t_rev, t_neg, t_extend, t_append, t_sliceScr, t_retbox, t_xcons, LV.get, CS.at_, SV.view, datsOf, Option.map_some, List.getElem?_cons_zero, List.getElem?_cons_succ, List.set_cons_zero, List.set_cons_succ, settled, initC, List.map_cons, List.map_nil, List.length_cons, List.length_nil, List.cons_append, List.nil_append, seqOf, runD, t_wrng3, t_dzip, t_count, t_frz, t_lrange2, t_sortsetS, t_indexL, t_retdboxM, t_par4, t_par5, t_index, t_maxd1, t_ifT, t_insert, t_tindex, t_tcount, t_tryM, t_raise0, t_gput, g_gput, t_gget1, t_gget2, t_lzip, t_callFn, t_popAt, t_callLam, t_retM, t_retMp, t_meth, t_methS, t_make, t_cput, mvSV, lvM]
        refine ⟨⟨_, rfl⟩, ⟨_, rfl⟩, ixG_l (atI_range gl) ⟨⟨_, rfl⟩, ⟨_, rfl⟩, hd4 h0 ?_⟩⟩
        have ixn : ixN ((List.range (pr ns)).map fun i => PyData.int (max (PB ns mks r c (el ns i)) (TB (RG ns mks) (dc r c) (bk ns (mks.getD c []) (el ns i))))).length ((ix ns (mks.getD c []) : Nat) : Int) = some (ix ns (mks.getD c [])) := by
          unfold ixN
          rw [if_pos (by omega), if_pos (by rw [List.length_map, List.length_range]; omega)]
          rfl
        refine ⟨⟨_, rfl⟩, ?_⟩
        show match ixN ((List.range (pr ns)).map fun i => PyData.int (max (PB ns mks r c (el ns i)) (TB (RG ns mks) (dc r c) (bk ns (mks.getD c []) (el ns i))))).length ((ix ns (mks.getD c []) : Nat) : Int) with
          | some j => _
          | none => False
        rw [ixn]
        dsimp only
        rw [set_PB (ns := ns) (mks := mks) h0 hmc]
        exact hN4 _ ⟨_, _, _, _, _, rfl⟩
      · refine if_not (fun K hK => ?_) ?_
        · dsimp only [t_revL, t_sortsetL, t_sortsetT, t_lrange, t_trange, t_keep, frzAll, frzO, t_lensetS, t_wany, seqY, t_wzipT, seqT, t_gd0, t_disp, t_pcons, t_pnil, t_retdbox, t_dictP, t_sortK, t_callB, t_dnew1, t_pop, t_lenset, t_wseq, t_wzip3, t_astar, t_par3, t_dnew, t_dlist, t_dput, t_dget2, t_din, t_lenScr, t_raise1, t_callX, t_callKX, t_xf, t_isx, runX, t_seq, t_if, t_or, t_and, t_not, t_tst, t_v, t_f, t_l, t_c, t_c1, t_op, t_chain', t_ret, t_asg, t_for, t_wenum, t_wlist, t_wtup, t_wstr, t_wrng1, t_wrng2, t_drop, g_setix, t_wzip, t_lname, t_name, t_next, t_ifx, t_isi, t_notV, t_andV, t_orV, t_call, t_callK, t_acons, t_aconsR, t_anil, t_tupd, t_lstd, g_name, g_tup, g_cons, g_nil, t_drop, t_lc, t_yes, t_star1, t_retn, t_par, t_slice, t_some, t_no, t_dict0, t_rev, t_neg, t_extend, t_append, t_sliceScr, t_retbox, t_xcons, LV.get, CS.at_, SV.view, datsOf, Option.map_some, List.getElem?_cons_zero, List.getElem?_cons_succ, List.set_cons_zero, List.set_cons_succ, settled, initC, List.map_cons, List.map_nil, List.length_cons, List.length_nil, List.cons_append, List.nil_append, seqOf, runD, t_wrng3, t_dzip, t_count, t_frz, t_lrange2, t_sortsetS, t_indexL, t_retdboxM, t_par4, t_par5, t_index, t_maxd1, t_ifT, t_insert, t_tindex, t_tcount, t_tryM, t_raise0, t_gput, g_gput, t_gget1, t_gget2, t_lzip, t_callFn, t_popAt, t_callLam, t_retM, t_retMp, t_meth, t_methS, t_make, t_cput, mvSV, lvM]
          refine ⟨⟨_, rfl⟩, ⟨_, rfl⟩, rat (gtY_n ?_)⟩
          rw [decide_eq_false (by omega)]
          exact hK
        · have en : PBL ns mks r c = PBL ns mks r (c + 1) := List.map_congr_left fun i _ => by
            show PyData.int _ = PyData.int (if 0 < r.getD c 0 then _ else _)
            rw [if_neg h0]
          rw [en]
          exact hN4 _ ⟨_, _, _, _, _, rfl⟩
    rintro c ⟨x11, x12, x13, x14, x15, rfl⟩
    have en : PBL ns mks r mks.length = TBL ns mks r := List.map_congr_left fun i hi => by rw [PB_TB hp h2 hm (el_lt (List.mem_range.mp hi))]
    rw [en]
    have rnin : r ∉ done.map (st cs) := fun z => by
      rw [hd] at z
      obtain ⟨j, hj, ej⟩ := List.mem_map.mp z
      have hj := List.mem_range.mp hj
      have v1 := val_st cs j (by omega)
      rw [ej, hr, val_st cs k hk] at v1
      omega
    have er4 : rb (rsD ns mks) ((done ++ [k]).map (st cs)) = rb (rsD ns mks) (done.map (st cs)) ++ [(tN r, rsD ns mks r)] := by
      rw [hr]; unfold rb; rw [List.map_append, List.map_append]; rfl
    have er5 : rb (fun r => .list (TBL ns mks r)) ((done ++ [k]).map (st cs)) = rb (fun r => .list (TBL ns mks r)) (done.map (st cs)) ++ [(tN r, .list (TBL ns mks r))] := by
      rw [hr]; unfold rb; rw [List.map_append, List.map_append]; rfl
    have dl : done.length ≤ 512 := by rw [hd, List.length_range]; omega
    refine seq_step (fun c => c = [some (.dat (tN cs)), some (.dat (tN ns)), some (.dat (.tuple (tL mks))), some (.dat (.tuple (tL (memF ns)))), some (.gd (rb (rsD ns mks) ((done ++ [k]).map (st cs)))), some (.gd (rb (fun r => .list (TBL ns mks r)) (done.map (st cs)))), some (.dat (.list (BKS ns mks))), none, some (.own (iN (mks.map (ix ns)))), some (.dat (tN r)), some (.own (TBL ns mks r)), x11, x12, x13, x14, x15, none, none]) (fun N3 hN3 => ?_) ?_
    · dsimp only [t_revL, t_sortsetL, t_sortsetT, t_lrange, t_trange, t_keep, frzAll, frzO, t_lensetS, t_wany, seqY, t_wzipT, seqT, t_gd0, t_disp, t_pcons, t_pnil, t_retdbox, t_dictP, t_sortK, t_callB, t_dnew1, t_pop, t_lenset, t_wseq, t_wzip3, t_astar, t_par3, t_dnew, t_dlist, t_dput, t_dget2, t_din, t_lenScr, t_raise1, t_callX, t_callKX, t_xf, t_isx, runX, t_seq, t_if, t_or, t_and, t_not, t_tst, t_v, t_f, t_l, t_c, t_c1, t_op, t_chain', t_ret, t_asg, t_for, t_wenum, t_wlist, t_wtup, t_wstr, t_wrng1, t_wrng2, t_drop, g_setix, t_wzip, t_lname, t_name, t_next, t_ifx, t_isi, t_notV, t_andV, t_orV, t_call, t_callK, t_acons, t_aconsR, t_anil, t_tupd, t_lstd, g_name, g_tup, g_cons, g_nil, t_drop, t_lc, t_yes, t_star1, t_retn, t_par, t_slice, t_some, t_no, t_dict0, t_rev, t_neg, t_extend, t_append, t_sliceScr, t_retbox, t_xcons, LV.get, CS.at_, SV.view, datsOf, Option.map_some, List.getElem?_cons_zero, List.getElem?_cons_succ, List.set_cons_zero, List.set_cons_succ, settled, initC, List.map_cons, List.map_nil, List.length_cons, List.length_nil, List.cons_append, List.nil_append, seqOf, runD, t_wrng3, t_dzip, t_count, t_frz, t_lrange2, t_sortsetS, t_indexL, t_retdboxM, t_par4, t_par5, t_index, t_maxd1, t_ifT, t_insert, t_tindex, t_tcount, t_tryM, t_raise0, t_gput, g_gput, t_gget1, t_gget2, t_lzip, t_callFn, t_popAt, t_callLam, t_retM, t_retMp, t_meth, t_methS, t_make, t_cput, mvSV, lvM]
      refine ⟨⟨_, rfl⟩, slX_ll ?_⟩
      have hcd : Cl.cutD (TBL ns mks r) (some 1) none = (List.range' 1 (pr ns - 1)).map fun i => .int (TB (RG ns mks) r (el ns i)) := by
        rw [show (some (1 : Int)) = some ((1 : Nat) : Int) from rfl, cut_drop, ← List.map_drop, List.range_eq_range', List.drop_range']
      rw [hcd]
      show minX (.list ((List.range' 1 (pr ns - 1)).map fun i => .int (TB (RG ns mks) r (el ns i)))) _
      show match intsD ((List.range' 1 (pr ns - 1)).map fun i => .int (TB (RG ns mks) r (el ns i))) with
        | some ns => _
        | none => False
      rw [intsD_map]
      refine ⟨by rw [List.length_map, List.length_range']; omega, fun m hm1 hm2 => ?_⟩
      have hmin : 1 + m = (RS (RG ns mks) r : Int) := by
        obtain ⟨i, hi, ei⟩ := List.mem_map.mp hm1
        have hi := List.mem_range'_1.mp hi
        refine RS_min hp h2 hm ⟨i, hi.1, by omega, ei.symm⟩ fun i h1 h3 => hm2 _ (List.mem_map.mpr ⟨i, List.mem_range'_1.mpr ⟨h1, by omega⟩, rfl⟩)
      show addZ (.int 1) (.int m) _
      refine addZ_ii ?_
      rw [hmin]
      refine ⟨⟨_, rfl⟩, _, rfl, hash_st _, by rw [rb_len, List.length_map, zz]; omega, ?_⟩
      rw [rb_put rnin, ← er4]
      exact hN3 _ rfl
    rintro c rfl
    dsimp only [t_revL, t_sortsetL, t_sortsetT, t_lrange, t_trange, t_keep, frzAll, frzO, t_lensetS, t_wany, seqY, t_wzipT, seqT, t_gd0, t_disp, t_pcons, t_pnil, t_retdbox, t_dictP, t_sortK, t_callB, t_dnew1, t_pop, t_lenset, t_wseq, t_wzip3, t_astar, t_par3, t_dnew, t_dlist, t_dput, t_dget2, t_din, t_lenScr, t_raise1, t_callX, t_callKX, t_xf, t_isx, runX, t_seq, t_if, t_or, t_and, t_not, t_tst, t_v, t_f, t_l, t_c, t_c1, t_op, t_chain', t_ret, t_asg, t_for, t_wenum, t_wlist, t_wtup, t_wstr, t_wrng1, t_wrng2, t_drop, g_setix, t_wzip, t_lname, t_name, t_next, t_ifx, t_isi, t_notV, t_andV, t_orV, t_call, t_callK, t_acons, t_aconsR, t_anil, t_tupd, t_lstd, g_name, g_tup, g_cons, g_nil, t_drop, t_lc, t_yes, t_star1, t_retn, t_par, t_slice, t_some, t_no, t_dict0, t_rev, t_neg, t_extend, t_append, t_sliceScr, t_retbox, t_xcons, LV.get, CS.at_, SV.view, datsOf, Option.map_some, List.getElem?_cons_zero, List.getElem?_cons_succ, List.set_cons_zero, List.set_cons_succ, settled, initC, List.map_cons, List.map_nil, List.length_cons, List.length_nil, List.cons_append, List.nil_append, seqOf, runD, t_wrng3, t_dzip, t_count, t_frz, t_lrange2, t_sortsetS, t_indexL, t_retdboxM, t_par4, t_par5, t_index, t_maxd1, t_ifT, t_insert, t_tindex, t_tcount, t_tryM, t_raise0, t_gput, g_gput, t_gget1, t_gget2, t_lzip, t_callFn, t_popAt, t_callLam, t_retM, t_retMp, t_meth, t_methS, t_make, t_cput, mvSV, lvM]
    refine ⟨⟨_, rfl⟩, _, rfl, hash_st _, by rw [rb_len, List.length_map, zz]; omega, ?_⟩
    rw [rb_put rnin, ← er5]
    exact hN2 _ ⟨_, _, _, _, _, _, _, _, .inr rfl, rfl⟩
  rintro c ⟨x6, x9, x10, x11, x12, x13, x14, x15, rfl⟩
  dsimp only [t_revL, t_sortsetL, t_sortsetT, t_lrange, t_trange, t_keep, frzAll, frzO, t_lensetS, t_wany, seqY, t_wzipT, seqT, t_gd0, t_disp, t_pcons, t_pnil, t_retdbox, t_dictP, t_sortK, t_callB, t_dnew1, t_pop, t_lenset, t_wseq, t_wzip3, t_astar, t_par3, t_dnew, t_dlist, t_dput, t_dget2, t_din, t_lenScr, t_raise1, t_callX, t_callKX, t_xf, t_isx, runX, t_seq, t_if, t_or, t_and, t_not, t_tst, t_v, t_f, t_l, t_c, t_c1, t_op, t_chain', t_ret, t_asg, t_for, t_wenum, t_wlist, t_wtup, t_wstr, t_wrng1, t_wrng2, t_drop, g_setix, t_wzip, t_lname, t_name, t_next, t_ifx, t_isi, t_notV, t_andV, t_orV, t_call, t_callK, t_acons, t_aconsR, t_anil, t_tupd, t_lstd, g_name, g_tup, g_cons, g_nil, t_drop, t_lc, t_yes, t_star1, t_retn, t_par, t_slice, t_some, t_no, t_dict0, t_rev, t_neg, t_extend, t_append, t_sliceScr, t_retbox, t_xcons, LV.get, CS.at_, SV.view, datsOf, Option.map_some, List.getElem?_cons_zero, List.getElem?_cons_succ, List.set_cons_zero, List.set_cons_succ, settled, initC, List.map_cons, List.map_nil, List.length_cons, List.length_nil, List.cons_append, List.nil_append, seqOf, runD, t_wrng3, t_dzip, t_count, t_frz, t_lrange2, t_sortsetS, t_indexL, t_retdboxM, t_par4, t_par5, t_index, t_maxd1, t_ifT, t_insert, t_tindex, t_tcount, t_tryM, t_raise0, t_gput, g_gput, t_gget1, t_gget2, t_lzip, t_callFn, t_popAt, t_callLam, t_retM, t_retMp, t_meth, t_methS, t_make, t_cput, mvSV, lvM]
  refine states_spec hc ?_
  show lcD _ _ _ _ _ ((List.range (sz cs)).map fun k => tN (st cs k)) _ _
  dsimp only [wipeC, List.set_cons_zero, List.set_cons_succ]
  refine lcD_M (fun k => tN (st cs k)) (fun k => rsD ns mks (st cs k)) _ _ (by rw [List.length_range, zz]; omega) (fun k hk K N6 hK => ?_) ?_
  · dsimp only [t_revL, t_sortsetL, t_sortsetT, t_lrange, t_trange, t_keep, frzAll, frzO, t_lensetS, t_wany, seqY, t_wzipT, seqT, t_gd0, t_disp, t_pcons, t_pnil, t_retdbox, t_dictP, t_sortK, t_callB, t_dnew1, t_pop, t_lenset, t_wseq, t_wzip3, t_astar, t_par3, t_dnew, t_dlist, t_dput, t_dget2, t_din, t_lenScr, t_raise1, t_callX, t_callKX, t_xf, t_isx, runX, t_seq, t_if, t_or, t_and, t_not, t_tst, t_v, t_f, t_l, t_c, t_c1, t_op, t_chain', t_ret, t_asg, t_for, t_wenum, t_wlist, t_wtup, t_wstr, t_wrng1, t_wrng2, t_drop, g_setix, t_wzip, t_lname, t_name, t_next, t_ifx, t_isi, t_notV, t_andV, t_orV, t_call, t_callK, t_acons, t_aconsR, t_anil, t_tupd, t_lstd, g_name, g_tup, g_cons, g_nil, t_drop, t_lc, t_yes, t_star1, t_retn, t_par, t_slice, t_some, t_no, t_dict0, t_rev, t_neg, t_extend, t_append, t_sliceScr, t_retbox, t_xcons, LV.get, CS.at_, SV.view, datsOf, Option.map_some, List.getElem?_cons_zero, List.getElem?_cons_succ, List.set_cons_zero, List.set_cons_succ, settled, initC, List.map_cons, List.map_nil, List.length_cons, List.length_nil, List.cons_append, List.nil_append, seqOf, runD, t_wrng3, t_dzip, t_count, t_frz, t_lrange2, t_sortsetS, t_indexL, t_retdboxM, t_par4, t_par5, t_index, t_maxd1, t_ifT, t_insert, t_tindex, t_tcount, t_tryM, t_raise0, t_gput, g_gput, t_gget1, t_gget2, t_lzip, t_callFn, t_popAt, t_callLam, t_retM, t_retMp, t_meth, t_methS, t_make, t_cput, mvSV, lvM, wipeC]
    exact ⟨by show 9 < 18; decide, iteT ⟨⟨_, rfl⟩, ⟨_, rfl⟩, rb_ix (g := rsD ns mks) (List.mem_map.mpr ⟨k, hk, rfl⟩) hK⟩⟩
  · dsimp only [t_revL, t_sortsetL, t_sortsetT, t_lrange, t_trange, t_keep, frzAll, frzO, t_lensetS, t_wany, seqY, t_wzipT, seqT, t_gd0, t_disp, t_pcons, t_pnil, t_retdbox, t_dictP, t_sortK, t_callB, t_dnew1, t_pop, t_lenset, t_wseq, t_wzip3, t_astar, t_par3, t_dnew, t_dlist, t_dput, t_dget2, t_din, t_lenScr, t_raise1, t_callX, t_callKX, t_xf, t_isx, runX, t_seq, t_if, t_or, t_and, t_not, t_tst, t_v, t_f, t_l, t_c, t_c1, t_op, t_chain', t_ret, t_asg, t_for, t_wenum, t_wlist, t_wtup, t_wstr, t_wrng1, t_wrng2, t_drop, g_setix, t_wzip, t_lname, t_name, t_next, t_ifx, t_isi, t_notV, t_andV, t_orV, t_call, t_callK, t_acons, t_aconsR, t_anil, t_tupd, t_lstd, g_name, g_tup, g_cons, g_nil, t_drop, t_lc, t_yes, t_star1, t_retn, t_par, t_slice, t_some, t_no, t_dict0, t_rev, t_neg, t_extend, t_append, t_sliceScr, t_retbox, t_xcons, LV.get, CS.at_, SV.view, datsOf, Option.map_some, List.getElem?_cons_zero, List.getElem?_cons_succ, List.set_cons_zero, List.set_cons_succ, settled, initC, List.map_cons, List.map_nil, List.length_cons, List.length_nil, List.cons_append, List.nil_append, seqOf, runD, t_wrng3, t_dzip, t_count, t_frz, t_lrange2, t_sortsetS, t_indexL, t_retdboxM, t_par4, t_par5, t_index, t_maxd1, t_ifT, t_insert, t_tindex, t_tcount, t_tryM, t_raise0, t_gput, g_gput, t_gget1, t_gget2, t_lzip, t_callFn, t_popAt, t_callLam, t_retM, t_retMp, t_meth, t_methS, t_make, t_cput, mvSV, lvM, tupleX]
    exact h
end Lk

namespace Lk
open PySem PySem.Spec PyProof.Rows L2 Cl Sums
open Cards (st sz rowsOf leL valA st_len st_le val_st st_val sz_snoc sz_append sz_pos)
theorem stock_spec (ns : List Int) {Q : SV → Prop} (h : Q (.raw 1)) : C__law_stock [.scr ns] Q := by
  refine ⟨rfl, ?_⟩
  show T__law_stock _ [some (.scr ns), none, none]
  refine seq_step (fun cs' => ∃ us : List Int, us.length ≤ 63 ∧ cs' = [some (.scr ns), some (.own (us.map .int)), none]) (fun N hN => ?_) ?_
  · dsimp only [t_revL, t_sortsetL, t_sortsetT, t_lrange, t_trange, t_keep, frzAll, frzO, t_lensetS, t_wany, seqY, t_wzipT, seqT, t_gd0, t_disp, t_pcons, t_pnil, t_retdbox, t_dictP, t_sortK, t_callB, t_dnew1, t_pop, t_lenset, t_wseq, t_wzip3, t_astar, t_par3, t_dnew, t_dlist, t_dput, t_dget2, t_din, t_lenScr, t_raise1, t_callX, t_callKX, t_xf, t_isx, runX, t_seq, t_if, t_or, t_and, t_not, t_tst, t_v, t_f, t_l, t_c, t_c1, t_op, t_chain', t_ret, t_asg, t_for, t_wenum, t_wlist, t_wtup, t_wstr, t_wrng1, t_wrng2, t_drop, g_setix, t_wzip, t_lname, t_name, t_next, t_ifx, t_isi, t_notV, t_andV, t_orV, t_call, t_callK, t_acons, t_aconsR, t_anil, t_tupd, t_lstd, g_name, g_tup, g_cons, g_nil, t_drop, t_lc, t_yes, t_star1, t_retn, t_par, t_slice, t_some, t_no, t_dict0, t_rev, t_neg, t_extend, t_append, t_sliceScr, t_retbox, t_xcons, LV.get, CS.at_, SV.view, datsOf, Option.map_some, List.getElem?_cons_zero, List.getElem?_cons_succ, List.set_cons_zero, List.set_cons_succ, settled, initC, List.map_cons, List.map_nil, List.length_cons, List.length_nil, List.cons_append, List.nil_append, seqOf, runD, geY, leY, eqZ, neZ, addZ, listY, ltZ, inY, notinY, ixG, lenY, mulZ, max2X, min2X, isY, isnY, sortedX, ltY, gtY, inX, notinX, ordX, boolX, addX, subX, mulX, mulY, modX, fdivX, powX, ltX, leX, gtX, geX, eqY, neY, eqX, neX, isX, isnX, ixX, lenX, listX, tupleX, intX, strX, shX, sumX, sumY, maxX, minX, allX, absX, slX]
    rw [show (some 63 : Option Int) = some ((63 : Nat) : Int) from rfl, cut_take, ← List.map_take]
    refine lcD_ind (I := fun ds acc cs => cs = [some (.scr ns), none, none] ∧ ∃ us vs : List Int, ds = vs.map .int ∧ acc = us.map .int ∧ us.length + vs.length ≤ 63) ?_ ?_ _ _ _ ⟨rfl, [], ns.take 63, rfl, rfl, ?_⟩
    · rintro acc cs ⟨rfl, us, vs, e1, rfl, hl⟩
      exact ⟨by show 1 < 3; decide, hN _ ⟨us, by omega, rfl⟩⟩
    · rintro d ds acc cs N hN ⟨rfl, us, vs, e1, rfl, hl⟩
      cases vs with
      | nil => cases e1
      | cons v vs =>
        cases e1
        rw [List.length_cons] at hl
        have hz : (us.map PyData.int).length < sizeLine := by rw [List.length_map, sizeLine_eq]; omega
        dsimp only [t_revL, t_sortsetL, t_sortsetT, t_lrange, t_trange, t_keep, frzAll, frzO, t_lensetS, t_wany, seqY, t_wzipT, seqT, t_gd0, t_disp, t_pcons, t_pnil, t_retdbox, t_dictP, t_sortK, t_callB, t_dnew1, t_pop, t_lenset, t_wseq, t_wzip3, t_astar, t_par3, t_dnew, t_dlist, t_dput, t_dget2, t_din, t_lenScr, t_raise1, t_callX, t_callKX, t_xf, t_isx, runX, t_seq, t_if, t_or, t_and, t_not, t_tst, t_v, t_f, t_l, t_c, t_c1, t_op, t_chain', t_ret, t_asg, t_for, t_wenum, t_wlist, t_wtup, t_wstr, t_wrng1, t_wrng2, t_drop, g_setix, t_wzip, t_lname, t_name, t_next, t_ifx, t_isi, t_notV, t_andV, t_orV, t_call, t_callK, t_acons, t_aconsR, t_anil, t_tupd, t_lstd, g_name, g_tup, g_cons, g_nil, t_drop, t_lc, t_yes, t_star1, t_retn, t_par, t_slice, t_some, t_no, t_dict0, t_rev, t_neg, t_extend, t_append, t_sliceScr, t_retbox, t_xcons, LV.get, CS.at_, SV.view, datsOf, Option.map_some, List.getElem?_cons_zero, List.getElem?_cons_succ, List.set_cons_zero, List.set_cons_succ, settled, initC, List.map_cons, List.map_nil, List.length_cons, List.length_nil, List.cons_append, List.nil_append, seqOf, runD, geY, leY, eqZ, neZ, addZ, listY, ltZ, inY, notinY, ixG, lenY, mulZ, max2X, min2X, isY, isnY, sortedX, ltY, gtY, inX, notinX, ordX, boolX, addX, subX, mulX, mulY, modX, fdivX, powX, ltX, leX, gtX, geX, eqY, neY, eqX, neX, isX, isnX, ixX, lenX, listX, tupleX, intX, strX, shX, sumX, sumY, maxX, minX, allX, absX, slX]
        refine ⟨by simp, ⟨_, rfl⟩, ?_⟩
        have fin : ∀ k : Int, N (us.map PyData.int ++ [.int k]) [some (.scr ns), none, none] := fun k => hN _ _ ⟨rfl, us ++ [k], vs, rfl, by simp, by rw [List.length_append, List.length_singleton]; omega⟩
        by_cases hv : 0 ≤ v
        · rw [decide_eq_true hv]
          repeat (first | refine iteT ?_ | refine iteF ?_)
          exact ⟨⟨_, rfl⟩, mulOk_l (by decide) (by decide), hz, fin _⟩
        · rw [decide_eq_false hv]
          repeat (first | refine iteT ?_ | refine iteF ?_)
          exact ⟨⟨_, rfl⟩, mulOk_l (by decide) (by decide), hz, fin _⟩
    · rw [List.length_nil, List.length_take]; omega
  · rintro cs ⟨us, hu, rfl⟩
    dsimp only [t_revL, t_sortsetL, t_sortsetT, t_lrange, t_trange, t_keep, frzAll, frzO, t_lensetS, t_wany, seqY, t_wzipT, seqT, t_gd0, t_disp, t_pcons, t_pnil, t_retdbox, t_dictP, t_sortK, t_callB, t_dnew1, t_pop, t_lenset, t_wseq, t_wzip3, t_astar, t_par3, t_dnew, t_dlist, t_dput, t_dget2, t_din, t_lenScr, t_raise1, t_callX, t_callKX, t_xf, t_isx, runX, t_seq, t_if, t_or, t_and, t_not, t_tst, t_v, t_f, t_l, t_c, t_c1, t_op, t_chain', t_ret, t_asg, t_for, t_wenum, t_wlist, t_wtup, t_wstr, t_wrng1, t_wrng2, t_drop, g_setix, t_wzip, t_lname, t_name, t_next, t_ifx, t_isi, t_notV, t_andV, t_orV, t_call, t_callK, t_acons, t_aconsR, t_anil, t_tupd, t_lstd, g_name, g_tup, g_cons, g_nil, t_drop, t_lc, t_yes, t_star1, t_retn, t_par, t_slice, t_some, t_no, t_dict0, t_rev, t_neg, t_extend, t_append, t_sliceScr, t_retbox, t_xcons, LV.get, CS.at_, SV.view, datsOf, Option.map_some, List.getElem?_cons_zero, List.getElem?_cons_succ, List.set_cons_zero, List.set_cons_succ, settled, initC, List.map_cons, List.map_nil, List.length_cons, List.length_nil, List.cons_append, List.nil_append, seqOf, runD, geY, leY, eqZ, neZ, addZ, listY, ltZ, inY, notinY, ixG, lenY, mulZ, max2X, min2X, isY, isnY, sortedX, ltY, gtY, inX, notinX, ordX, boolX, addX, subX, mulX, mulY, modX, fdivX, powX, ltX, leX, gtX, geX, eqY, neY, eqX, neX, isX, isnX, ixX, lenX, listX, tupleX, intX, strX, shX, sumX, sumY, maxX, minX, allX, absX, slX]
    refine lcD_ind (I := fun ds acc cs => cs = [some (.scr ns), some (.dat (.list (us.map .int))), none] ∧ ∃ ws vs : List Int, ds = vs.map .int ∧ acc = ws.map .int ∧ ws.length + vs.length ≤ 63) ?_ ?_ _ _ _ ⟨rfl, [], us, rfl, rfl, by simpa using hu⟩
    · rintro acc cs ⟨rfl, ws, vs, e1, rfl, hl⟩
      have hin : ∀ xs : List Int, intsD (xs.map .int) = some xs := fun xs => by
        induction xs with
        | nil => rfl
        | cons x xs ih => show (intsD (xs.map .int)).map _ = _; rw [ih]; rfl
      refine ⟨⟨_, rfl⟩, ⟨_, rfl⟩, by decide, ?_⟩
      refine ⟨by show (us.map PyData.int).length + 1 ≤ _; rw [List.length_map, sizeLine_eq]; omega, ⟨_, rfl⟩, ?_⟩
      show match intsD (us.map .int) with | some ns => _ | none => False
      rw [hin]
      refine ⟨_, rfl, by decide, ⟨⟨ws, rfl, .inl ⟨rfl, by omega⟩⟩, ⟨us ++ [((us.length : Nat) : Int) + 257], by simp, .inr ⟨rfl, by simp⟩⟩, True.intro⟩, h⟩
    · rintro d ds acc cs N hN ⟨rfl, ws, vs, e1, rfl, hl⟩
      cases vs with
      | nil => cases e1
      | cons v vs =>
        cases e1
        rw [List.length_cons] at hl
        have hz : (ws.map PyData.int).length < sizeLine := by rw [List.length_map, sizeLine_eq]; omega
        dsimp only [t_revL, t_sortsetL, t_sortsetT, t_lrange, t_trange, t_keep, frzAll, frzO, t_lensetS, t_wany, seqY, t_wzipT, seqT, t_gd0, t_disp, t_pcons, t_pnil, t_retdbox, t_dictP, t_sortK, t_callB, t_dnew1, t_pop, t_lenset, t_wseq, t_wzip3, t_astar, t_par3, t_dnew, t_dlist, t_dput, t_dget2, t_din, t_lenScr, t_raise1, t_callX, t_callKX, t_xf, t_isx, runX, t_seq, t_if, t_or, t_and, t_not, t_tst, t_v, t_f, t_l, t_c, t_c1, t_op, t_chain', t_ret, t_asg, t_for, t_wenum, t_wlist, t_wtup, t_wstr, t_wrng1, t_wrng2, t_drop, g_setix, t_wzip, t_lname, t_name, t_next, t_ifx, t_isi, t_notV, t_andV, t_orV, t_call, t_callK, t_acons, t_aconsR, t_anil, t_tupd, t_lstd, g_name, g_tup, g_cons, g_nil, t_drop, t_lc, t_yes, t_star1, t_retn, t_par, t_slice, t_some, t_no, t_dict0, t_rev, t_neg, t_extend, t_append, t_sliceScr, t_retbox, t_xcons, LV.get, CS.at_, SV.view, datsOf, Option.map_some, List.getElem?_cons_zero, List.getElem?_cons_succ, List.set_cons_zero, List.set_cons_succ, settled, initC, List.map_cons, List.map_nil, List.length_cons, List.length_nil, List.cons_append, List.nil_append, seqOf, runD, geY, leY, eqZ, neZ, addZ, listY, ltZ, inY, notinY, ixG, lenY, mulZ, max2X, min2X, isY, isnY, sortedX, ltY, gtY, inX, notinX, ordX, boolX, addX, subX, mulX, mulY, modX, fdivX, powX, ltX, leX, gtX, geX, eqY, neY, eqX, neX, isX, isnX, ixX, lenX, listX, tupleX, intX, strX, shX, sumX, sumY, maxX, minX, allX, absX, slX]
        refine ⟨by simp, ⟨_, rfl⟩, by decide, by decide, by decide, ?_⟩
        by_cases hv : (10 : Int) ^ (15 : Int).toNat ≤ v
        · rw [decide_eq_true hv]
          exact iteT ⟨hz, hN _ _ ⟨rfl, ws ++ [v], vs, rfl, by simp, by rw [List.length_append, List.length_singleton]; omega⟩⟩
        · rw [decide_eq_false hv]
          exact iteF (hN _ _ ⟨rfl, ws, vs, rfl, rfl, by omega⟩)
structure Cd (m : Nat) (cs : List Nat) : Prop where
  lo : ∀ t ∈ cs, 1 ≤ t
  hi : ∀ t ∈ cs, t ≤ 3
  one : 1 ≤ cs.length
  len : cs.length ≤ 4
  sz : sz cs ≤ m
theorem Cd.crd {m : Nat} {cs : List Nat} (h : Cd m cs) (hm : m ≤ 512) : Crd cs := ⟨fun t ht => by have := h.hi t ht; omega, by have := h.len; omega, h.one, by have := h.sz; omega⟩
theorem leX_n {i j : Int} {Q : SV → Prop} (h : Q (.dat (.bool (decide (i ≤ j))))) : leX (.int i) (.int j) Q := h
set_option maxHeartbeats 1600000 in
theorem card_spec {m : Nat} (h4 : 4 ≤ m) (hm : m ≤ 64) {Q : SV → Prop} (h : ∀ cs, Cd m cs → Q (.dat (tN cs))) : C__law_card [.raw 1, .dat (.int (m : Nat))] Q := by
  refine ⟨rfl, ?_⟩
  have zz : sizeLine = 16777216 := sizeLine_eq
  show T__law_card _ [some (.raw 1), some (.dat (.int (m : Nat))), none, none, none, none]
  refine seq_step (fun c => c = [some (.raw 1), some (.dat (.int (m : Nat))), some (.own (iN [])), some (.dat (.int (sz [] : Nat))), none, none]) (fun N hN => ?_) ?_
  · dsimp only [t_revL, t_sortsetL, t_sortsetT, t_lrange, t_trange, t_keep, frzAll, frzO, t_lensetS, t_wany, seqY, t_wzipT, seqT, t_gd0, t_disp, t_pcons, t_pnil, t_retdbox, t_dictP, t_sortK, t_callB, t_dnew1, t_pop, t_lenset, t_wseq, t_wzip3, t_astar, t_par3, t_dnew, t_dlist, t_dput, t_dget2, t_din, t_lenScr, t_raise1, t_callX, t_callKX, t_xf, t_isx, runX, t_seq, t_if, t_or, t_and, t_not, t_tst, t_v, t_f, t_l, t_c, t_c1, t_op, t_chain', t_ret, t_asg, t_for, t_wenum, t_wlist, t_wtup, t_wstr, t_wrng1, t_wrng2, t_drop, g_setix, t_wzip, t_lname, t_name, t_next, t_ifx, t_isi, t_notV, t_andV, t_orV, t_call, t_callK, t_acons, t_aconsR, t_anil, t_tupd, t_lstd, g_name, g_tup, g_cons, g_nil, t_drop, t_lc, t_yes, t_star1, t_retn, t_par, t_slice, t_some, t_no, t_dict0, t_rev, t_neg, t_extend, t_append, t_sliceScr, t_retbox, t_xcons, LV.get, CS.at_, SV.view, datsOf, Option.map_some, List.getElem?_cons_zero, List.getElem?_cons_succ, List.set_cons_zero, List.set_cons_succ, settled, initC, List.map_cons, List.map_nil, List.length_cons, List.length_nil, List.cons_append, List.nil_append, seqOf, runD, t_wrng3, t_dzip, t_count, t_frz, t_lrange2, t_sortsetS, t_indexL, t_retdboxM, t_par4, t_par5, t_index, t_maxd1, t_ifT, t_insert, t_tindex, t_tcount, t_tryM, t_raise0, t_gput, g_gput, t_gget1, t_gget2, t_lzip, t_callFn, t_popAt, t_callLam, t_retM, t_retMp, t_meth, t_methS, t_make, t_cput, mvSV, lvM]
    exact ⟨by rw [zz]; decide, by show 2 < 6; decide, by show 3 < 6; decide, hN _ rfl⟩
  rintro c rfl
  refine seq_step (fun c => ∃ (ts : List Nat) (x y : Option SV), Cd m ts ∧ c = [some (.raw 1), some (.dat (.int (m : Nat))), some (.own (iN ts)), some (.dat (.int (sz ts : Nat))), x, y]) (fun N hN => ?_) ?_
  · dsimp only [t_for, t_wrng1, t_acons, t_aconsR, t_anil, t_f, t_op, t_l, t_c, t_call, t_name, LV.get, List.getElem?_cons_zero, List.getElem?_cons_succ, SV.view]
    refine ⟨rfl, draw_spec (by decide) (by decide) fun r hr => ?_⟩
    refine addZ_ii ?_
    dsimp only [settled]
    refine ⟨by omega, by omega, ?_⟩
    rw [show ((1 : Int) + ((r : Nat) : Int)) = ((1 + r : Nat) : Int) by omega, range_nat]
    refine forD_A _ (fun done cc => ∃ (ts : List Nat) (x y : Option SV), (∀ t ∈ ts, 1 ≤ t) ∧ (∀ t ∈ ts, t ≤ 3) ∧ (done = [] → ts = []) ∧ (done ≠ [] → 1 ≤ ts.length) ∧ ts.length ≤ done.length ∧ sz ts ≤ m ∧ cc = [some (.raw 1), some (.dat (.int (m : Nat))), some (.own (iN ts)), some (.dat (.int (sz ts : Nat))), x, y]) _ ?_ ?_ ⟨[], none, none, (fun _ h => by cases h), (fun _ h => by cases h), fun _ => rfl, fun z => absurd rfl z, by simp, by show 1 ≤ m; omega, rfl⟩
    · rintro cc ⟨ts, x, y, l1, l2, _, hb, h1, h2, rfl⟩
      rw [List.length_range] at h1
      exact hN _ ⟨ts, x, y, ⟨l1, l2, hb (fun z => by have := congrArg List.length z; rw [List.length_range, List.length_nil] at this; omega), by omega, h2⟩, rfl⟩
    · rintro done k todo cc N' e hN' ⟨ts, x, y, l1, l2, ha, hb, h1, h2, rfl⟩
      have hdl : done.length ≤ 4 := by
        have := congrArg List.length e
        rw [List.length_range, List.length_append, List.length_cons] at this
        omega
      refine ⟨by show 4 < 6; decide, ?_⟩
      refine seq_step (fun c => ∃ t : Nat, 1 ≤ t ∧ t ≤ 3 ∧ c = [some (.raw 1), some (.dat (.int (m : Nat))), some (.own (iN ts)), some (.dat (.int (sz ts : Nat))), some (.dat (.int (k : Nat))), some (.dat (.int (t : Nat)))]) (fun N2 hN2 => ?_) ?_
      · dsimp only [t_revL, t_sortsetL, t_sortsetT, t_lrange, t_trange, t_keep, frzAll, frzO, t_lensetS, t_wany, seqY, t_wzipT, seqT, t_gd0, t_disp, t_pcons, t_pnil, t_retdbox, t_dictP, t_sortK, t_callB, t_dnew1, t_pop, t_lenset, t_wseq, t_wzip3, t_astar, t_par3, t_dnew, t_dlist, t_dput, t_dget2, t_din, t_lenScr, t_raise1, t_callX, t_callKX, t_xf, t_isx, runX, t_seq, t_if, t_or, t_and, t_not, t_tst, t_v, t_f, t_l, t_c, t_c1, t_op, t_chain', t_ret, t_asg, t_for, t_wenum, t_wlist, t_wtup, t_wstr, t_wrng1, t_wrng2, t_drop, g_setix, t_wzip, t_lname, t_name, t_next, t_ifx, t_isi, t_notV, t_andV, t_orV, t_call, t_callK, t_acons, t_aconsR, t_anil, t_tupd, t_lstd, g_name, g_tup, g_cons, g_nil, t_drop, t_lc, t_yes, t_star1, t_retn, t_par, t_slice, t_some, t_no, t_dict0, t_rev, t_neg, t_extend, t_append, t_sliceScr, t_retbox, t_xcons, LV.get, CS.at_, SV.view, datsOf, Option.map_some, List.getElem?_cons_zero, List.getElem?_cons_succ, List.set_cons_zero, List.set_cons_succ, settled, initC, List.map_cons, List.map_nil, List.length_cons, List.length_nil, List.cons_append, List.nil_append, seqOf, runD, t_wrng3, t_dzip, t_count, t_frz, t_lrange2, t_sortsetS, t_indexL, t_retdboxM, t_par4, t_par5, t_index, t_maxd1, t_ifT, t_insert, t_tindex, t_tcount, t_tryM, t_raise0, t_gput, g_gput, t_gget1, t_gget2, t_lzip, t_callFn, t_popAt, t_callLam, t_retM, t_retMp, t_meth, t_methS, t_make, t_cput, mvSV, lvM]
        refine ⟨rfl, by decide, pick_spec _ (by simp) (by show 6 < _; decide) fun d hd => ⟨by show 5 < 6; decide, hN2 _ ?_⟩⟩
        simp only [List.mem_cons, List.not_mem_nil, or_false] at hd
        rcases hd with rfl | rfl | rfl | rfl | rfl | rfl
        · exact ⟨1, by decide, by decide, rfl⟩
        · exact ⟨1, by decide, by decide, rfl⟩
        · exact ⟨1, by decide, by decide, rfl⟩
        · exact ⟨2, by decide, by decide, rfl⟩
        · exact ⟨2, by decide, by decide, rfl⟩
        · exact ⟨3, by decide, by decide, rfl⟩
      rintro c ⟨t, ht1, ht, rfl⟩
      dsimp only [t_revL, t_sortsetL, t_sortsetT, t_lrange, t_trange, t_keep, frzAll, frzO, t_lensetS, t_wany, seqY, t_wzipT, seqT, t_gd0, t_disp, t_pcons, t_pnil, t_retdbox, t_dictP, t_sortK, t_callB, t_dnew1, t_pop, t_lenset, t_wseq, t_wzip3, t_astar, t_par3, t_dnew, t_dlist, t_dput, t_dget2, t_din, t_lenScr, t_raise1, t_callX, t_callKX, t_xf, t_isx, runX, t_seq, t_if, t_or, t_and, t_not, t_tst, t_v, t_f, t_l, t_c, t_c1, t_op, t_chain', t_ret, t_asg, t_for, t_wenum, t_wlist, t_wtup, t_wstr, t_wrng1, t_wrng2, t_drop, g_setix, t_wzip, t_lname, t_name, t_next, t_ifx, t_isi, t_notV, t_andV, t_orV, t_call, t_callK, t_acons, t_aconsR, t_anil, t_tupd, t_lstd, g_name, g_tup, g_cons, g_nil, t_drop, t_lc, t_yes, t_star1, t_retn, t_par, t_slice, t_some, t_no, t_dict0, t_rev, t_neg, t_extend, t_append, t_sliceScr, t_retbox, t_xcons, LV.get, CS.at_, SV.view, datsOf, Option.map_some, List.getElem?_cons_zero, List.getElem?_cons_succ, List.set_cons_zero, List.set_cons_succ, settled, initC, List.map_cons, List.map_nil, List.length_cons, List.length_nil, List.cons_append, List.nil_append, seqOf, runD, t_wrng3, t_dzip, t_count, t_frz, t_lrange2, t_sortsetS, t_indexL, t_retdboxM, t_par4, t_par5, t_index, t_maxd1, t_ifT, t_insert, t_tindex, t_tcount, t_tryM, t_raise0, t_gput, g_gput, t_gget1, t_gget2, t_lzip, t_callFn, t_popAt, t_callLam, t_retM, t_retMp, t_meth, t_methS, t_make, t_cput, mvSV, lvM]
      refine ⟨⟨_, rfl⟩, ⟨_, rfl⟩, mulOk_r (by omega) (by omega), ⟨_, rfl⟩, leX_n ?_⟩
      dsimp only
      have hpr : sz (ts ++ [t]) = sz ts * (t + 1) := sz_snoc ts t
      have e1 : ((sz ts : Nat) : Int) * (((t : Nat) : Int) + 1) = ((sz ts * (t + 1) : Nat) : Int) := by push_cast; rfl
      by_cases hc : ((sz ts : Nat) : Int) * (((t : Nat) : Int) + 1) ≤ (m : Int)
      · rw [decide_eq_true hc]
        have hc2 : sz (ts ++ [t]) ≤ m := by
          rw [hpr]
          rw [e1] at hc
          omega
        refine iteT ⟨⟨_, rfl⟩, by rw [iN_len, zz]; omega, ⟨_, rfl⟩, ⟨_, rfl⟩, mulOk_r (by omega) (by omega), by show 3 < 6; decide, hN' _ ⟨ts ++ [t], some (.dat (.int (k : Nat))), some (.dat (.int (t : Nat))), fun z hz => ?_, fun z hz => ?_, fun z => by simp at z, fun _ => by simp, by rw [List.length_append, List.length_append]; simpa using h1, hc2, ?_⟩⟩
        · rcases List.mem_append.mp hz with z1 | z1
          · exact l1 _ z1
          · rw [List.mem_singleton.mp z1]; exact ht1
        · rcases List.mem_append.mp hz with z1 | z1
          · exact l2 _ z1
          · rw [List.mem_singleton.mp z1]; exact ht
        · rw [hpr, iN_append, e1]
          rfl
      · rw [decide_eq_false hc]
        refine iteF (hN' _ ⟨ts, _, _, l1, l2, fun z => by simp at z, fun _ => hb fun z => ?_, by rw [List.length_append]; omega, h2, rfl⟩)
        rw [ha z] at hc
        apply hc
        show ((1 : Nat) : Int) * _ ≤ _
        omega
  rintro c ⟨ts, x, y, hcd, rfl⟩
  exact ⟨⟨_, rfl⟩, h ts hcd⟩
theorem rows_memF (cs : List Nat) : memF (up cs) = rowsOf cs := by
  induction cs using Cards.snoc_ind with
  | h0 => rfl
  | h1 a t ih =>
    rw [Cards.rows_snoc, ← ih, show up (a ++ [t]) = up a ++ [t + 1] by simp [up], fold_snoc]
    rfl
theorem pr_up : ∀ cs : List Nat, pr (up cs) = sz cs
  | [] => rfl
  | t :: cs => by
    show (t + 1) * pr (up cs) = (t + 1) * sz cs
    rw [pr_up cs]
theorem lawstates_spec {cs : List Nat} (h1 : cs.length ≤ 50) (h : sz cs ≤ 64) {Q : SV → Prop} (q : Q (.own (tL (rowsOf cs)))) : C__law_states [.dat (tN cs)] Q := by
  refine ⟨rfl, ?_⟩
  have zz : sizeLine = 16777216 := sizeLine_eq
  show T__law_states _ [some (.dat (tN cs)), none]
  dsimp only [T__law_states, t_revL, t_sortsetL, t_sortsetT, t_lrange, t_trange, t_keep, frzAll, frzO, t_lensetS, t_wany, seqY, t_wzipT, seqT, t_gd0, t_disp, t_pcons, t_pnil, t_retdbox, t_dictP, t_sortK, t_callB, t_dnew1, t_pop, t_lenset, t_wseq, t_wzip3, t_astar, t_par3, t_dnew, t_dlist, t_dput, t_dget2, t_din, t_lenScr, t_raise1, t_callX, t_callKX, t_xf, t_isx, runX, t_seq, t_if, t_or, t_and, t_not, t_tst, t_v, t_f, t_l, t_c, t_c1, t_op, t_chain', t_ret, t_asg, t_for, t_wenum, t_wlist, t_wtup, t_wstr, t_wrng1, t_wrng2, t_drop, g_setix, t_wzip, t_lname, t_name, t_next, t_ifx, t_isi, t_notV, t_andV, t_orV, t_call, t_callK, t_acons, t_aconsR, t_anil, t_tupd, t_lstd, g_name, g_tup, g_cons, g_nil, t_drop, t_lc, t_yes, t_star1, t_retn, t_par, t_slice, t_some, t_no, t_dict0, t_rev, t_neg, t_extend, t_append, t_sliceScr, t_retbox, t_xcons, LV.get, CS.at_, SV.view, datsOf, Option.map_some, List.getElem?_cons_zero, List.getElem?_cons_succ, List.set_cons_zero, List.set_cons_succ, settled, initC, List.map_cons, List.map_nil, List.length_cons, List.length_nil, List.cons_append, List.nil_append, seqOf, runD, t_wrng3, t_dzip, t_count, t_frz, t_lrange2, t_sortsetS, t_indexL, t_retdboxM, t_par4, t_par5, t_index, t_maxd1, t_ifT, t_insert, t_tindex, t_tcount, t_tryM, t_raise0, t_gput, g_gput, t_gget1, t_gget2, t_lzip, t_callFn, t_popAt, t_callLam, t_retM, t_retMp, t_meth, t_methS, t_make, t_cput, mvSV, lvM]
  refine lcD_M (fun (n : Nat) => PyData.int (n : Nat)) (fun n => .int ((n + 1 : Nat) : Int)) _ cs (by rw [zz]; omega) (fun n hn K N6 hK => ?_) ?_
  · dsimp only [t_revL, t_sortsetL, t_sortsetT, t_lrange, t_trange, t_keep, frzAll, frzO, t_lensetS, t_wany, seqY, t_wzipT, seqT, t_gd0, t_disp, t_pcons, t_pnil, t_retdbox, t_dictP, t_sortK, t_callB, t_dnew1, t_pop, t_lenset, t_wseq, t_wzip3, t_astar, t_par3, t_dnew, t_dlist, t_dput, t_dget2, t_din, t_lenScr, t_raise1, t_callX, t_callKX, t_xf, t_isx, runX, t_seq, t_if, t_or, t_and, t_not, t_tst, t_v, t_f, t_l, t_c, t_c1, t_op, t_chain', t_ret, t_asg, t_for, t_wenum, t_wlist, t_wtup, t_wstr, t_wrng1, t_wrng2, t_drop, g_setix, t_wzip, t_lname, t_name, t_next, t_ifx, t_isi, t_notV, t_andV, t_orV, t_call, t_callK, t_acons, t_aconsR, t_anil, t_tupd, t_lstd, g_name, g_tup, g_cons, g_nil, t_drop, t_lc, t_yes, t_star1, t_retn, t_par, t_slice, t_some, t_no, t_dict0, t_rev, t_neg, t_extend, t_append, t_sliceScr, t_retbox, t_xcons, LV.get, CS.at_, SV.view, datsOf, Option.map_some, List.getElem?_cons_zero, List.getElem?_cons_succ, List.set_cons_zero, List.set_cons_succ, settled, initC, List.map_cons, List.map_nil, List.length_cons, List.length_nil, List.cons_append, List.nil_append, seqOf, runD, t_wrng3, t_dzip, t_count, t_frz, t_lrange2, t_sortsetS, t_indexL, t_retdboxM, t_par4, t_par5, t_index, t_maxd1, t_ifT, t_insert, t_tindex, t_tcount, t_tryM, t_raise0, t_gput, g_gput, t_gget1, t_gget2, t_lzip, t_callFn, t_popAt, t_callLam, t_retM, t_retMp, t_meth, t_methS, t_make, t_cput, mvSV, lvM, wipeC]
    exact ⟨by show 1 < 2; decide, iteT ⟨⟨_, rfl⟩, hK⟩⟩
  · rw [← rows_memF] at q
    refine members_spec (ms := up cs) (fun m hm => ?_) (by rw [pr_up]; exact h) (by rw [show (up cs).length = cs.length from List.length_map ..]; exact h1) ?_ q
    · obtain ⟨x, _, rfl⟩ := List.mem_map.mp hm
      omega
    · show seqOf (.list (cs.map fun n => .int ((n + 1 : Nat) : Int))) = some (iN (up cs))
      unfold iN up
      rw [List.map_map]
      rfl
end Lk

namespace Lk
open PySem PySem.Spec PyProof.Rows L2 Cl Sums
open Cards (st sz rowsOf leL valA st_len st_le val_st st_val)
open Rms (Rg dc RS TB Wy K dc_get dc_len)
/-! ### a cell more -/
def ins {α : Type} (p : Nat) (x : α) (l : List α) : List α := l.take p ++ x :: l.drop p
theorem getD_ext {a b : List Nat} (hl : a.length = b.length) (h : ∀ i, i < a.length → a.getD i 0 = b.getD i 0) : a = b := by
  refine List.ext_getElem hl fun i h1 h2 => ?_
  have := h i h1
  rw [List.getD_eq_getElem?_getD, List.getElem?_eq_getElem h1, List.getD_eq_getElem?_getD, List.getElem?_eq_getElem h2] at this
  exact this
section
variable {ns x : List Nat} {mks : List (List Nat)} {p : Nat}
end
/-! ### two groups beside one another -/
end Lk

namespace Lk
open PySem PySem.Spec PyProof.Rows L2 Cl Sums
open Cards (st sz rowsOf leL valA st_len st_le val_st st_val)
open Rms (Rg dc RS TB Wy K)
open scoped Classical
/-! ### what room_strengths tells -/
noncomputable def SDl (ns : List Nat) (mks : List (List Nat)) (cs : List Nat) : List PyData := (rowsOf cs).map (rsD ns mks)
theorem SDl_len {ns : List Nat} {mks : List (List Nat)} {cs : List Nat} : (SDl ns mks cs).length = sz cs := by
  unfold SDl; rw [List.length_map, Cards.rows_len]
theorem rooms_spec {cs ns : List Nat} {mks : List (List Nat)} (hc : Crd cs) (hg : Gp ns) (h2 : 2 ≤ pr ns) (hm : ∀ m ∈ mks, ltL m ns) (hl : mks.length = cs.length) {Q : SV → Prop} (h : Q (.dat (.tuple (SDl ns mks cs)))) :
    C_room_strengths [.dat (tN cs), .dat (tN ns), .dat (.tuple (tL mks))] Q := by
  refine room_spec hc hg h2 hm hl ?_
  unfold SDl Cards.rowsOf at h
  rw [List.map_map] at h
  exact h
theorem leL_sum : ∀ {r cs : List Nat}, leL r cs → r.sum ≤ cs.sum
  | [], [], _ => Nat.le_refl _
  | x :: r, t :: cs, h => by
    have := leL_sum h.2
    have h1 := h.1
    rw [List.sum_cons, List.sum_cons]; omega
  | [], _ :: _, h => h.elim
  | _ :: _, [], h => h.elim
theorem sum_bd : ∀ {cs : List Nat}, (∀ t ∈ cs, t ≤ 7) → cs.sum ≤ 7 * cs.length
  | [], _ => by simp
  | t :: cs, h => by
    have := sum_bd (cs := cs) fun x hx => h x (List.mem_cons_of_mem _ hx)
    have := h t List.mem_cons_self
    rw [List.sum_cons, List.length_cons]; omega
theorem rs_bd {cs ns r : List Nat} {mks : List (List Nat)} (hc : Crd cs) (g : Rms.Gd (RG ns mks)) (h : leL r cs) : RS (RG ns mks) r ≤ 42 := by
  have a := Rms.RS_sum g r
  have b := leL_sum h
  have c := sum_bd hc.top
  have d := hc.len
  omega
theorem tm_rs {cs ns r : List Nat} {mks : List (List Nat)} (hc : Crd cs) (g : Rms.Gd (RG ns mks)) (h : leL r cs) : Tm 10 0 (rsD ns mks r) := by
  have := rs_bd hc g h
  exact Tm.int (by omega) (by omega)
theorem tm_SD {cs ns : List Nat} {mks : List (List Nat)} (hc : Crd cs) (g : Rms.Gd (RG ns mks)) : Tm 5632 1 (.tuple (SDl ns mks cs)) := by
  refine Tm.tupOf (W := 10) (D := 0) (n := 512) (fun d hd => ?_) (by rw [SDl_len]; exact hc.sz)
  obtain ⟨r, hr, rfl⟩ := List.mem_map.mp hd
  exact tm_rs hc g (Cards.rows_mem hr)
theorem eqZ_same {a : Str} {Q : SV → Prop} (h : Q (.dat (.bool true))) : eqZ (.str a) (.str a) Q := by
  show Q (.dat (.bool (decide (a = a))))
  rw [decide_eq_true rfl]
  exact h
theorem neZ_same {a : Str} {Q : SV → Prop} (h : Q (.dat (.bool false))) : neZ (.str a) (.str a) Q := by
  show Q (.dat (.bool (!decide (a = a))))
  rw [decide_eq_true rfl]
  exact h
theorem neZ_int {i j : Int} {Q : SV → Prop} (h : Q (.dat (.bool (!decide (i = j))))) : neZ (.int i) (.int j) Q := h
theorem eqZ_int {i j : Int} {Q : SV → Prop} (h : Q (.dat (.bool (decide (i = j))))) : eqZ (.int i) (.int j) Q := h
theorem ltZ_i {i j : Int} {Q : SV → Prop} (h : Q (.dat (.bool (decide (i < j))))) : ltZ (.int i) (.int j) Q := h
end Lk

namespace Lk
open PySem PySem.Spec PyProof.Rows L2 Cl Sums
open Cards (st sz rowsOf leL valA st_len st_le val_st st_val)
open Rms (Rg dc RS TB Wy K)
open scoped Classical
theorem take_iN (xs : List Nat) (q : Nat) : (iN xs).take q = iN (xs.take q) := (List.map_take ..).symm
theorem leL_getD : ∀ {r cs : List Nat}, leL r cs ↔ r.length = cs.length ∧ ∀ i, i < r.length → r.getD i 0 ≤ cs.getD i 0
  | [], [] => by simp [Cards.leL]
  | [], _ :: _ => by simp [Cards.leL]
  | _ :: _, [] => by simp [Cards.leL]
  | x :: r, t :: cs => by
    have ih := @leL_getD r cs
    constructor
    · intro h
      obtain ⟨a, b⟩ := ih.mp h.2
      refine ⟨by rw [List.length_cons, List.length_cons, a], fun i hi => ?_⟩
      cases i with
      | zero => exact h.1
      | succ i => exact b i (by simpa using hi)
    · rintro ⟨a, b⟩
      refine ⟨b 0 (by simp), ih.mpr ⟨by simpa using a, fun i hi => ?_⟩⟩
      exact b (i + 1) (by simpa using hi)
theorem rows_nodup (cs : List Nat) : (rowsOf cs).Nodup := by
  refine List.pairwise_map.mpr ?_
  refine (List.nodup_range (n := sz cs)).imp_of_mem fun {i j} hi hj hn e => hn ?_
  have a := val_st cs i (List.mem_range.mp hi)
  have b := val_st cs j (List.mem_range.mp hj)
  rw [← a, e, b]
end Lk

namespace Lk
open PySem PySem.Spec PyProof.Rows L2 Cl Sums
open Cards (st sz rowsOf leL valA st_len st_le val_st st_val)
open Rms (Rg dc RS TB Wy K)
open scoped Classical
theorem mulZ_oneT {d : PyData} {n : Nat} (h1 : 1 ≤ n) (hn : n ≤ 1000) {Q : SV → Prop} (h : Q (.dat (.tuple (List.replicate n d)))) : mulZ (.tuple [d]) (.int (n : Nat)) Q := by
  have zz : sizeLine = 16777216 := sizeLine_eq
  show if ((n : Nat) : Int) = 1 then Q (.dat (.tuple [d])) else mulX (.tuple [d]) (.int (n : Nat)) Q
  split
  · rename_i e
    obtain rfl : n = 1 := by omega
    exact h
  have el : (List.replicate n [d]).flatten = List.replicate n d := by
    clear h hn h1
    rename_i z
    clear z
    induction n with
    | zero => rfl
    | succ n ih => rw [List.replicate_succ, List.flatten_cons, ih]; rfl
  have hz : ((n : Nat) : Int).toNat = n := by omega
  rw [← el] at h
  rw [← hz] at h
  exact ⟨by simp, by omega, by omega, by simp, h⟩
theorem rep_zr (n : Nat) : List.replicate n (PyData.int 0) = iN (zr n) := by
  unfold iN zr
  rw [List.map_replicate]; rfl
theorem al_marks {ns cs : List Nat} {mks : List (List Nat)} (h : Al (fun _ y => ltL y ns) cs mks) : mks.length = cs.length ∧ ∀ m ∈ mks, ltL m ns := by
  refine ⟨h.len, ?_⟩
  induction cs generalizing mks with
  | nil => cases mks with
    | nil => exact fun _ h => by cases h
    | cons y ys => exact h.elim
  | cons c cs ih => cases mks with
    | nil => exact h.elim
    | cons y ys =>
      intro m hm
      rcases List.mem_cons.mp hm with e | e
      · rw [e]; exact h.1
      · exact ih h.2 m e
end Lk

namespace Lk
open PySem PySem.Spec PyProof.Rows L2 Cl Sums
open Cards (st sz rowsOf leL valA st_len st_le val_st st_val)
open Rms (Rg dc RS TB Wy K dc_get dc_len)
open scoped Classical
theorem add3_at : ∀ {a b ns : List Nat} {i : Nat}, a.length = ns.length → b.length = ns.length → i < ns.length → (add3 a b ns).getD i 0 = (a.getD i 0 + b.getD i 0) % ns.getD i 0
  | x :: a, y :: b, m :: ns, 0, _, _, _ => rfl
  | x :: a, y :: b, m :: ns, i + 1, h1, h2, h3 => by
    have := add3_at (a := a) (b := b) (ns := ns) (i := i) (by simpa using h1) (by simpa using h2) (by simpa using h3)
    exact this
  | [], _, _ :: _, _, h1, _, _ => by simp at h1
  | _ :: _, [], _ :: _, _, _, h2, _ => by simp at h2
  | _, _, [], _, _, _, h3 => by simp at h3
theorem ltL_at : ∀ {a ns : List Nat}, ltL a ns ↔ a.length = ns.length ∧ ∀ i, i < ns.length → a.getD i 0 < ns.getD i 0
  | [], [] => by simp [ltL]
  | [], _ :: _ => by simp [ltL]
  | _ :: _, [] => by simp [ltL]
  | x :: a, m :: ns => by
    have ih := @ltL_at a ns
    constructor
    · intro h
      obtain ⟨p, q⟩ := ih.mp h.2
      refine ⟨by rw [List.length_cons, List.length_cons, p], fun i hi => ?_⟩
      cases i with
      | zero => exact h.1
      | succ i => exact q i (by simpa using hi)
    · rintro ⟨p, q⟩
      refine ⟨q 0 (by simp), ih.mpr ⟨by simpa using p, fun i hi => ?_⟩⟩
      exact q (i + 1) (by simpa using hi)
theorem zr_at (n i : Nat) : (zr n).getD i 0 = 0 := by
  unfold zr
  rw [List.getD_eq_getElem?_getD, List.getElem?_replicate]
  split <;> rfl
/-- a map of groups -/
theorem alike_of {ns ns' : List Nat} {mks : List (List Nat)} {φ : List Nat → List Nat} (hp : ∀ m ∈ ns, 1 ≤ m) (hm : ∀ m ∈ mks, ltL m ns) (el : ∀ e, ltL e ns → ltL (φ e) ns') (inj : ∀ e f, ltL e ns → ltL f ns → φ e = φ f → e = f) (hz : φ (zr ns.length) = zr ns'.length)
    (add : ∀ a b, ltL a ns → ltL b ns → φ (add3 a b ns) = add3 (φ a) (φ b) ns') (hpr : pr ns' ≤ pr ns) : Rms.Alike (RG ns mks) (RG ns' (mks.map φ)) φ where
  n := (List.length_map ..).symm
  el := el
  inj := inj
  sur := fun e he => by
    have nd : ((memF ns).map φ).Nodup := by
      refine List.pairwise_map.mpr ?_
      exact (nodup_memF ns).imp_of_mem fun {a b} ha hb hn z => hn (inj a b (mem_memF.mp ha) (mem_memF.mp hb) z)
    have := pig (A := (memF ns).map φ) (B := memF ns') nd (fun x hx => by
      obtain ⟨y, hy, rfl⟩ := List.mem_map.mp hx
      exact mem_memF.mpr (el y (mem_memF.mp hy))) (by rw [List.length_map, memF_len, memF_len]; exact hpr) e (mem_memF.mpr he)
    obtain ⟨f, hf, rfl⟩ := List.mem_map.mp this
    exact ⟨f, mem_memF.mp hf, rfl⟩
  z := zr_lt hp
  zero := hz
  mark := fun c hc => by
    have hc : c < mks.length := hc
    show φ (mks.getD c []) = (mks.map φ).getD c []
    rw [List.getD_eq_getElem?_getD, List.getD_eq_getElem?_getD, List.getElem?_map, List.getElem?_eq_getElem hc]; rfl
  add := add
/-! ### in another order -/
def px (o : List Nat) (x : List Nat) : List Nat := o.map fun k => x.getD k 0
theorem px_len (o x : List Nat) : (px o x).length = o.length := List.length_map ..
theorem px_at {o x : List Nat} {i : Nat} (h : i < o.length) : (px o x).getD i 0 = x.getD (o.getD i 0) 0 := by
  unfold px
  rw [List.getD_eq_getElem?_getD, List.getElem?_map, List.getElem?_eq_getElem h, List.getD_eq_getElem?_getD (l := o), List.getElem?_eq_getElem h]; rfl
section
variable {o : List Nat} {n : Nat} (ho : o.Perm (List.range n))
include ho
theorem o_len : o.length = n := by rw [ho.length_eq, List.length_range]
theorem o_lt {i : Nat} (h : i < n) : o.getD i 0 < n := by
  have hl := o_len ho
  rw [List.getD_eq_getElem?_getD, List.getElem?_eq_getElem (by omega)]
  exact List.mem_range.mp (ho.mem_iff.mp (List.getElem_mem _))
theorem o_ix {j : Nat} (h : j < n) : o.idxOf j < n ∧ o.getD (o.idxOf j) 0 = j := by
  have hl := o_len ho
  have hm : o.idxOf j < o.length := List.idxOf_lt_length_iff.mpr (ho.mem_iff.mpr (List.mem_range.mpr h))
  refine ⟨by omega, ?_⟩
  rw [List.getD_eq_getElem?_getD, List.getElem?_eq_getElem hm]
  exact List.getElem_idxOf hm
theorem o_inj {i j : Nat} (hi : i < n) (hj : j < n) (e : o.getD i 0 = o.getD j 0) : i = j := by
  have hl := o_len ho
  have nd : o.Nodup := ho.nodup_iff.mpr List.nodup_range
  rw [List.getD_eq_getElem?_getD, List.getElem?_eq_getElem (by omega), List.getD_eq_getElem?_getD, List.getElem?_eq_getElem (by omega)] at e
  have a := nd.idxOf_getElem i (by omega)
  have b := nd.idxOf_getElem j (by omega)
  have e : o[i]'(by omega) = o[j]'(by omega) := e
  rw [← a, e, b]
theorem px_inj {x y : List Nat} (hx : x.length = n) (hy : y.length = n) (e : px o x = px o y) : x = y := by
  have hl := o_len ho
  refine getD_ext (by omega) fun j hj => ?_
  obtain ⟨a, b⟩ := o_ix ho (j := j) (by omega)
  have := congrArg (fun l => l.getD (o.idxOf j) 0) e
  simp only [px_at (show o.idxOf j < o.length by omega)] at this
  rw [b] at this
  exact this
theorem px_back (s : List Nat) (hs : s.length = n) : ∃ r, r.length = n ∧ px o r = s := by
  have hl := o_len ho
  refine ⟨(List.range n).map fun j => s.getD (o.idxOf j) 0, by simp, getD_ext (by rw [px_len]; omega) fun i hi => ?_⟩
  rw [px_len] at hi
  have h1 := o_lt ho (i := i) (by omega)
  rw [px_at hi, List.getD_eq_getElem?_getD, List.getElem?_map, List.getElem?_range h1]
  show s.getD (o.idxOf (o.getD i 0)) 0 = _
  obtain ⟨a, b⟩ := o_ix ho h1
  rw [o_inj ho a (by omega) b]
theorem px_dc {r : List Nat} {d : Nat} (hr : r.length = n) (hd : d < n) : dc (px o r) d = px o (dc r (o.getD d 0)) := by
  have hl := o_len ho
  refine getD_ext (by rw [dc_len, px_len, px_len]) fun i hi => ?_
  rw [dc_len, px_len] at hi
  rw [dc_get, px_at hi, px_at (by omega), px_at hi, dc_get]
  by_cases e : i = d
  · subst e; rw [if_pos rfl, if_pos rfl]
  · rw [if_neg e, if_neg fun z => e (o_inj ho (by omega) hd z)]
theorem px_perm {x : List Nat} (hx : x.length = n) : (px o x).Perm x := by
  have e : (List.range n).map (fun k => x.getD k 0) = x := by
    refine getD_ext (by simp [hx]) fun i hi => ?_
    rw [List.length_map, List.length_range] at hi
    rw [List.getD_eq_getElem?_getD, List.getElem?_map, List.getElem?_range hi]; rfl
  have := ho.map fun k => x.getD k 0
  rw [e] at this
  exact this
end
theorem pr_perm {a b : List Nat} (h : a.Perm b) : pr a = pr b := by
  induction h with
  | nil => rfl
  | cons x _ ih => show x * _ = x * _; rw [ih]
  | swap x y l => show y * (x * pr l) = x * (y * pr l); rw [← Nat.mul_assoc, ← Nat.mul_assoc, Nat.mul_comm y]
  | trans _ _ h1 h2 => rw [h1, h2]
theorem sz_perm {a b : List Nat} (h : a.Perm b) : sz a = sz b := by
  induction h with
  | nil => rfl
  | cons x _ ih => show (x + 1) * _ = (x + 1) * _; rw [ih]
  | swap x y l => show (y + 1) * ((x + 1) * sz l) = (x + 1) * ((y + 1) * sz l); rw [← Nat.mul_assoc, ← Nat.mul_assoc, Nat.mul_comm (y + 1)]
  | trans _ _ h1 h2 => rw [h1, h2]
theorem gp_perm {a b : List Nat} (h : a.Perm b) (g : Gp b) : Gp a := ⟨by rw [h.length_eq]; exact g.l1, by rw [h.length_eq]; exact g.l3, fun m hm => g.b m (h.mem_iff.mp hm), by rw [pr_perm h]; exact g.p⟩
theorem crd_perm {a b : List Nat} (h : a.Perm b) (hb : Crd b) : Crd a := ⟨fun t ht => hb.top t (h.mem_iff.mp ht), by rw [h.length_eq]; exact hb.len, by rw [h.length_eq]; exact hb.one, by rw [sz_perm h]; exact hb.sz⟩
/-- the moduli in another order -/
theorem RS_px {ns o : List Nat} {mks : List (List Nat)} (hp : ∀ m ∈ ns, 1 ≤ m) (h2 : 2 ≤ pr ns) (hm : ∀ m ∈ mks, ltL m ns) (ho : o.Perm (List.range ns.length)) : (∀ m ∈ mks.map (px o), ltL m (px o ns)) ∧ ∀ r, RS (RG ns mks) r = RS (RG (px o ns) (mks.map (px o))) r := by
  have hl := o_len ho
  have pp := px_perm ho (x := ns) rfl
  have el : ∀ e, ltL e ns → ltL (px o e) (px o ns) := fun e he => by
    obtain ⟨a, b⟩ := ltL_at.mp he
    refine ltL_at.mpr ⟨by rw [px_len, px_len], fun i hi => ?_⟩
    rw [px_len] at hi
    rw [px_at hi, px_at hi]
    exact b _ (o_lt ho (by omega))
  have hm' : ∀ m ∈ mks.map (px o), ltL m (px o ns) := fun m h => by
    obtain ⟨a, ha, rfl⟩ := List.mem_map.mp h
    exact el a (hm a ha)
  refine ⟨hm', fun r => ?_⟩
  have al : Rms.Alike (RG ns mks) (RG (px o ns) (mks.map (px o))) (px o) := alike_of hp hm el (fun e f he hf => px_inj ho (ltL_len he) (ltL_len hf)) (by
    refine getD_ext (by rw [px_len, px_len]; unfold zr; rw [List.length_replicate]) fun i hi => ?_
    rw [px_len] at hi
    rw [px_at hi, zr_at, zr_at]) (fun a b ha hb => by
    have la := ltL_len ha
    have lb := ltL_len hb
    refine getD_ext (by rw [px_len, add3_len (by rw [px_len, px_len]) (by rw [px_len, px_len]), px_len]) fun i hi => ?_
    rw [px_len] at hi
    have h1 := o_lt ho (i := i) (by omega)
    rw [px_at hi, add3_at la lb h1, add3_at (by rw [px_len, px_len]) (by rw [px_len, px_len]) (by rw [px_len]; exact hi), px_at hi, px_at hi, px_at hi]) (by rw [pr_perm pp]; exact Nat.le_refl _)
  exact al.RS (rg_gd hp h2 hm) (rg_gd (fun m hm => hp m (pp.mem_iff.mp hm)) (by rw [pr_perm pp]; exact h2) hm') r
/-- the cells in another order -/
def pm (o : List Nat) (mks : List (List Nat)) : List (List Nat) := o.map fun k => mks.getD k []
theorem pm_at {o : List Nat} {mks : List (List Nat)} {i : Nat} (h : i < o.length) : (pm o mks).getD i [] = mks.getD (o.getD i 0) [] := by
  unfold pm
  rw [List.getD_eq_getElem?_getD, List.getElem?_map, List.getElem?_eq_getElem h, List.getD_eq_getElem?_getD (l := o), List.getElem?_eq_getElem h]; rfl
theorem pm_mem {ns o : List Nat} {mks : List (List Nat)} (hm : ∀ m ∈ mks, ltL m ns) (ho : o.Perm (List.range mks.length)) : ∀ m ∈ pm o mks, ltL m ns := fun m h => by
  obtain ⟨k, hk, rfl⟩ := List.mem_map.mp h
  exact mk_lt hm (List.mem_range.mp (ho.mem_iff.mp hk))
theorem RS_pm {ns o r : List Nat} {mks : List (List Nat)} (hp : ∀ m ∈ ns, 1 ≤ m) (h2 : 2 ≤ pr ns) (hm : ∀ m ∈ mks, ltL m ns) (ho : o.Perm (List.range mks.length)) (hr : r.length = mks.length) : RS (RG ns (pm o mks)) (px o r) = RS (RG ns mks) r := by
  have hl := o_len ho
  have g := rg_gd hp h2 hm
  have g2 := rg_gd hp h2 (pm_mem hm ho)
  refine Nat.le_antisymm ?_ ?_
  · refine Rms.RS_sim (G := RG ns (pm o mks)) (H := RG ns mks) (R := fun s r => r.length = mks.length ∧ s = px o r) ?_ (fun e he hz => ⟨he, hz⟩) g2 g ⟨hr, rfl⟩
    rintro s r d ⟨hr, rfl⟩ hd h0
    have hd : d < (pm o mks).length := hd
    unfold pm at hd
    rw [List.length_map] at hd
    rw [px_at hd] at h0
    have h1 := o_lt ho (i := d) (by omega)
    refine ⟨o.getD d 0, h1, h0, ⟨by rw [dc_len]; exact hr, px_dc ho hr (by omega)⟩, pm_at hd, fun a => ?_⟩
    show add3 a ((pm o mks).getD d []) ns = add3 a (mks.getD (o.getD d 0) []) ns
    rw [pm_at hd]
  · refine Rms.RS_sim (G := RG ns mks) (H := RG ns (pm o mks)) (R := fun r s => r.length = mks.length ∧ s = px o r) ?_ (fun e he hz => ⟨he, hz⟩) g g2 ⟨hr, rfl⟩
    rintro r s c ⟨hr, rfl⟩ hc h0
    have hc : c < mks.length := hc
    obtain ⟨a, b⟩ := o_ix ho hc
    have ao : o.idxOf c < o.length := by omega
    have em : mks.getD c [] = (pm o mks).getD (o.idxOf c) [] := by rw [pm_at ao, b]
    refine ⟨o.idxOf c, ?_, by rw [px_at ao, b]; exact h0, ⟨by rw [dc_len]; exact hr, by rw [px_dc ho hr a, b]⟩, em, fun x => ?_⟩
    · show _ < (pm o mks).length
      unfold pm; rw [List.length_map]; exact ao
    · show add3 x (mks.getD c []) ns = add3 x ((pm o mks).getD (o.idxOf c) []) ns
      rw [em]
/-! ### times units -/
def mul3 : List Nat → List Nat → List Nat → List Nat
  | x :: a, u :: us, m :: ns => (x * u) % m :: mul3 a us ns
  | _, _, _ => []
def Cop : List Nat → List Nat → Prop
  | u :: us, m :: ns => Nat.gcd u m = 1 ∧ Cop us ns
  | [], [] => True
  | _, _ => False
theorem mul3_lt : ∀ {a us ns : List Nat}, ltL a ns → Cop us ns → (∀ m ∈ ns, 1 ≤ m) → ltL (mul3 a us ns) ns
  | [], [], [], _, _, _ => True.intro
  | x :: a, u :: us, m :: ns, h, c, hp => ⟨Nat.mod_lt _ (hp m List.mem_cons_self), mul3_lt h.2 c.2 fun k hk => hp k (List.mem_cons_of_mem _ hk)⟩
  | [], _ :: _, _ :: _, h, _, _ => h.elim
  | [], _ :: _, [], _, c, _ => c.elim
  | _, [], _ :: _, _, c, _ => c.elim
  | _ :: _, _, [], h, _, _ => h.elim
theorem cop_inj {x y u m : Nat} (hx : x < m) (hy : y < m) (c : Nat.gcd u m = 1) (e : (x * u) % m = (y * u) % m) : x = y := by
  have key : ∀ a b : Nat, a < m → b < m → a ≤ b → (a * u) % m = (b * u) % m → a = b := fun a b ha hb hab e => by
    have h1 : m ∣ (b - a) * u := by
      rw [Nat.sub_mul]
      exact Nat.dvd_of_mod_eq_zero (Nat.sub_mod_eq_zero_of_mod_eq e.symm)
    have cm : Nat.Coprime m u := by rw [Nat.coprime_comm]; exact c
    have h2 : m ∣ b - a := cm.dvd_of_dvd_mul_right h1
    have h3 := Nat.eq_zero_of_dvd_of_lt h2 (by omega)
    omega
  rcases Nat.le_total x y with h | h
  · exact key x y hx hy h e
  · exact (key y x hy hx h e.symm).symm
theorem mul3_inj : ∀ {a b us ns : List Nat}, ltL a ns → ltL b ns → Cop us ns → mul3 a us ns = mul3 b us ns → a = b
  | [], [], _, [], _, _, _, _ => rfl
  | x :: a, y :: b, u :: us, m :: ns, h1, h2, c, e => by
    have e : (x * u) % m :: mul3 a us ns = (y * u) % m :: mul3 b us ns := e
    have e1 := (List.cons.inj e).1
    have e2 := (List.cons.inj e).2
    rw [cop_inj h1.1 h2.1 c.1 e1, mul3_inj h1.2 h2.2 c.2 e2]
  | _ :: _, _, _, [], h, _, _, _ => h.elim
  | _, _ :: _, _, [], _, h, _, _ => h.elim
  | [], _, _, _ :: _, h, _, _, _ => h.elim
  | _, [], _, _ :: _, _, h, _, _ => h.elim
  | _, _, [], _ :: _, _, _, c, _ => c.elim
theorem mul3_zr : ∀ {us ns : List Nat}, Cop us ns → mul3 (zr ns.length) us ns = zr ns.length
  | [], [], _ => rfl
  | u :: us, m :: ns, c => by
    show (0 * u) % m :: mul3 (zr ns.length) us ns = 0 :: zr ns.length
    rw [mul3_zr c.2, Nat.zero_mul, Nat.zero_mod]
  | [], _ :: _, c => c.elim
  | _ :: _, [], c => c.elim
theorem mul3_add : ∀ {a b us ns : List Nat}, ltL a ns → ltL b ns → Cop us ns → mul3 (add3 a b ns) us ns = add3 (mul3 a us ns) (mul3 b us ns) ns
  | [], [], [], [], _, _, _ => rfl
  | x :: a, y :: b, u :: us, m :: ns, h1, h2, c => by
    show ((x + y) % m * u) % m :: mul3 (add3 a b ns) us ns = ((x * u) % m + (y * u) % m) % m :: add3 (mul3 a us ns) (mul3 b us ns) ns
    rw [mul3_add h1.2 h2.2 c.2]
    congr 1
    rw [← Nat.add_mod, ← Nat.add_mul, Nat.mod_mul_mod]
  | _ :: _, _, _, [], h, _, _ => h.elim
  | _, _ :: _, _, [], _, h, _ => h.elim
  | [], _, _, _ :: _, h, _, _ => h.elim
  | _, [], _, _ :: _, _, h, _ => h.elim
  | _, _, [], _ :: _, _, _, c => c.elim
  | _, _, _ :: _, [], _, _, c => c.elim
theorem RS_mul3 {ns us : List Nat} {mks : List (List Nat)} (hp : ∀ m ∈ ns, 1 ≤ m) (h2 : 2 ≤ pr ns) (hm : ∀ m ∈ mks, ltL m ns) (c : Cop us ns) : (∀ m ∈ mks.map (fun e => mul3 e us ns), ltL m ns) ∧ ∀ r, RS (RG ns mks) r = RS (RG ns (mks.map fun e => mul3 e us ns)) r := by
  have hm' : ∀ m ∈ mks.map (fun e => mul3 e us ns), ltL m ns := fun m h => by
    obtain ⟨a, ha, rfl⟩ := List.mem_map.mp h
    exact mul3_lt (hm a ha) c hp
  refine ⟨hm', fun r => ?_⟩
  have al : Rms.Alike (RG ns mks) (RG ns (mks.map fun e => mul3 e us ns)) (fun e => mul3 e us ns) := alike_of hp hm (fun e he => mul3_lt he c hp) (fun e f he hf => mul3_inj he hf c) (mul3_zr c) (fun a b ha hb => mul3_add ha hb c) (Nat.le_refl _)
  exact al.RS (rg_gd hp h2 hm) (rg_gd hp h2 hm') r
/-! ### the last item with the first -/
def shr (n m : Nat) (x : List Nat) : List Nat := x.take (n - 1) ++ [(x.getD 0 0 + x.getD (n - 1) 0) % m]
theorem shr_len {n m : Nat} {x : List Nat} (hx : x.length = n) (hn : 2 ≤ n) : (shr n m x).length = n := by
  unfold shr
  rw [List.length_append, List.length_take, List.length_singleton]; omega
theorem shr_at {n m : Nat} {x : List Nat} (hx : x.length = n) (hn : 2 ≤ n) {i : Nat} (hi : i < n) : (shr n m x).getD i 0 = if i = n - 1 then (x.getD 0 0 + x.getD (n - 1) 0) % m else x.getD i 0 := by
  unfold shr
  rw [List.getD_eq_getElem?_getD]
  by_cases e : i = n - 1
  · rw [if_pos e, List.getElem?_append_right (by rw [List.length_take]; omega), List.length_take, show i - min (n - 1) x.length = 0 by omega]
    rfl
  · rw [if_neg e, List.getElem?_append_left (by rw [List.length_take]; omega), List.getElem?_take_of_lt (by omega), List.getD_eq_getElem?_getD]
theorem RS_shr {ns : List Nat} {mks : List (List Nat)} (hp : ∀ m ∈ ns, 1 ≤ m) (h2 : 2 ≤ pr ns) (hm : ∀ m ∈ mks, ltL m ns) (hn : 2 ≤ ns.length) (he : ns.getD 0 0 = ns.getD (ns.length - 1) 0) :
    (∀ m ∈ mks.map (shr ns.length (ns.getD (ns.length - 1) 0)), ltL m ns) ∧ ∀ r, RS (RG ns mks) r = RS (RG ns (mks.map (shr ns.length (ns.getD (ns.length - 1) 0)))) r := by
  obtain ⟨n, hnn⟩ : ∃ n, n = ns.length := ⟨_, rfl⟩
  obtain ⟨m, hmm⟩ : ∃ m, m = ns.getD (ns.length - 1) 0 := ⟨_, rfl⟩
  rw [← hmm] at he ⊢
  rw [← hnn] at hmm hn ⊢
  have m1 : 1 ≤ m := by
    rw [hmm, List.getD_eq_getElem?_getD, List.getElem?_eq_getElem (by omega)]
    exact hp _ (List.getElem_mem _)
  have el : ∀ e, ltL e ns → ltL (shr n m e) ns := fun e h => by
    obtain ⟨a, b⟩ := ltL_at.mp h
    refine ltL_at.mpr ⟨by rw [shr_len (by omega) hn]; omega, fun i hi => ?_⟩
    rw [shr_at (by omega) hn (by omega)]
    split
    · rename_i z
      rw [z, ← hmm]
      exact Nat.mod_lt _ (by omega)
    · exact b i hi
  have hm' : ∀ k ∈ mks.map (shr n m), ltL k ns := fun k h => by
    obtain ⟨a, ha, rfl⟩ := List.mem_map.mp h
    exact el a (hm a ha)
  refine ⟨hm', fun r => ?_⟩
  have al : Rms.Alike (RG ns mks) (RG ns (mks.map (shr n m))) (shr n m) := by
    refine alike_of hp hm el (fun e f he' hf z => ?_) ?_ (fun a b ha hb => ?_) (Nat.le_refl _)
    · obtain ⟨a1, a2⟩ := ltL_at.mp he'
      obtain ⟨b1, b2⟩ := ltL_at.mp hf
      have q : ∀ i, i < n → (shr n m e).getD i 0 = (shr n m f).getD i 0 := fun i _ => by rw [z]
      have lo : ∀ i, i < n → i ≠ n - 1 → e.getD i 0 = f.getD i 0 := fun i hi hne => by
        have := q i hi
        rw [shr_at (by omega) hn hi, shr_at (by omega) hn hi, if_neg hne, if_neg hne] at this
        exact this
      refine getD_ext (by omega) fun i hi => ?_
      by_cases hne : i = n - 1
      · have := q (n - 1) (by omega)
        rw [shr_at (by omega) hn (by omega), shr_at (by omega) hn (by omega), if_pos rfl, if_pos rfl, lo 0 (by omega) (by omega)] at this
        have c1 := a2 (n - 1) (by omega)
        have c2 := b2 (n - 1) (by omega)
        have c3 := b2 0 (by omega)
        rw [← hmm] at c1 c2
        rw [he] at c3
        rw [hne]
        have key : ∀ p x y : Nat, p < m → x < m → y < m → (p + x) % m = (p + y) % m → x = y := fun p x y hp hx hy e => by
          have two : ∀ a, a < 2 * m → a % m = if a < m then a else a - m := fun a h => by
            split
            · rename_i h; exact Nat.mod_eq_of_lt h
            · rw [Nat.mod_eq_sub_mod (by omega)]; exact Nat.mod_eq_of_lt (by omega)
          rw [two _ (by omega), two _ (by omega)] at e
          split at e <;> split at e <;> omega
        exact key _ _ _ c3 c1 c2 this
      · exact lo i (by omega) hne
    · have lz : (zr ns.length).length = n := by unfold zr; rw [List.length_replicate]; exact hnn.symm
      refine getD_ext (by rw [shr_len lz hn]; exact lz.symm) fun i hi => ?_
      rw [shr_len lz hn] at hi
      rw [shr_at lz hn hi, zr_at, zr_at, zr_at]
      split
      · exact Nat.zero_mod _
      · rfl
    · have la := ltL_len ha
      have lb := ltL_len hb
      have ls : (add3 a b ns).length = n := by rw [add3_len la lb]; exact hnn.symm
      have lsa : (shr n m a).length = ns.length := by rw [shr_len (by omega) hn]; exact hnn
      have lsb : (shr n m b).length = ns.length := by rw [shr_len (by omega) hn]; exact hnn
      refine getD_ext (by rw [shr_len ls hn, add3_len lsa lsb]; exact hnn) fun i hi => ?_
      rw [shr_len ls hn] at hi
      rw [shr_at ls hn hi, add3_at lsa lsb (by omega), shr_at (by omega) hn hi, shr_at (by omega) hn hi]
      by_cases e : i = n - 1
      · rw [if_pos e, if_pos e, if_pos e, add3_at la lb (by omega), add3_at la lb (by omega), he, e, ← hmm, ← Nat.add_mod, ← Nat.add_mod]
        congr 1; omega
      · rw [if_neg e, if_neg e, if_neg e, add3_at la lb (by omega)]
  exact al.RS (rg_gd hp h2 hm) (rg_gd hp h2 hm') r
end Lk

namespace Lk
open PySem PySem.Spec PyProof.Rows L2 Cl Sums
open Cards (st sz rowsOf leL valA st_len st_le val_st st_val)
open Rms (Rg dc RS TB Wy K dc_get dc_len)
open scoped Classical
theorem pop_perm {α : Type} {ds : List α} {k : Nat} {e : α} (h : ds[k]? = some e) : ds.Perm (e :: ds.eraseIdx k) := by
  induction ds generalizing k with
  | nil => cases h
  | cons d ds ih =>
    cases k with
    | zero => cases h; exact .refl _
    | succ k =>
      have h : ds[k]? = some e := h
      exact ((ih h).cons d).trans (.swap _ _ _)
theorem pop_draw {α : Type} {ds : List α} {r : Int} (h0 : 0 ≤ r) (h1 : r < ds.length) : ∃ k e, seqIndex? r ds.length = some k ∧ ds[k]? = some e := by
  have hk : r.toNat < ds.length := by omega
  refine ⟨r.toNat, ds[r.toNat], ?_, List.getElem?_eq_getElem hk⟩
  unfold seqIndex?
  simp
  omega
theorem perm_iN {acc : List PyData} {n : Nat} (h : acc.Perm (iN (List.range n))) : ∃ o : List Nat, acc = iN o ∧ o.Perm (List.range n) := by
  let dec : PyData → Nat := fun d => match d with
    | .int i => i.toNat
    | _ => 0
  have e1 : ∀ xs : List Nat, (iN xs).map dec = xs := fun xs => by
    unfold iN; rw [List.map_map]
    exact (List.map_congr_left (fun x _ => rfl)).trans (List.map_id _)
  refine ⟨acc.map dec, ?_, by have := h.map dec; rw [e1] at this; exact this⟩
  unfold iN
  rw [List.map_map]
  refine ((List.map_congr_left fun d hd => ?_).trans (List.map_id _)).symm
  obtain ⟨x, _, rfl⟩ := List.mem_map.mp (h.mem_iff.mp hd)
  rfl
theorem turned_spec {n : Nat} (hn : n ≤ 100) {Q : SV → Prop} (h : ∀ o : List Nat, o.Perm (List.range n) → Q (.own (iN o))) : C__law_turned [.raw 1, .dat (.int (n : Nat))] Q := by
  refine ⟨rfl, ?_⟩
  have zz : sizeLine = 16777216 := sizeLine_eq
  show T__law_turned _ [some (.raw 1), some (.dat (.int (n : Nat))), none, none, none]
  refine seq_step (fun c => c = [some (.raw 1), some (.dat (.int (n : Nat))), some (.own (iN (List.range n))), some (.own ([])), none]) (fun N hN => ?_) ?_
  · dsimp only [t_revL, t_sortsetL, t_sortsetT, t_lrange, t_trange, t_keep, frzAll, frzO, t_lensetS, t_wany, seqY, t_wzipT, seqT, t_gd0, t_disp, t_pcons, t_pnil, t_retdbox, t_dictP, t_sortK, t_callB, t_dnew1, t_pop, t_lenset, t_wseq, t_wzip3, t_astar, t_par3, t_dnew, t_dlist, t_dput, t_dget2, t_din, t_lenScr, t_raise1, t_callX, t_callKX, t_xf, t_isx, runX, t_seq, t_if, t_or, t_and, t_not, t_tst, t_v, t_f, t_l, t_c, t_c1, t_op, t_chain', t_ret, t_asg, t_for, t_wenum, t_wlist, t_wtup, t_wstr, t_wrng1, t_wrng2, t_drop, g_setix, t_wzip, t_lname, t_name, t_next, t_ifx, t_isi, t_notV, t_andV, t_orV, t_call, t_callK, t_acons, t_aconsR, t_anil, t_tupd, t_lstd, g_name, g_tup, g_cons, g_nil, t_drop, t_lc, t_yes, t_star1, t_retn, t_par, t_slice, t_some, t_no, t_dict0, t_rev, t_neg, t_extend, t_append, t_sliceScr, t_retbox, t_xcons, LV.get, CS.at_, SV.view, datsOf, Option.map_some, List.getElem?_cons_zero, List.getElem?_cons_succ, List.set_cons_zero, List.set_cons_succ, settled, initC, List.map_cons, List.map_nil, List.length_cons, List.length_nil, List.cons_append, List.nil_append, seqOf, runD, t_wrng3, t_dzip, t_count, t_frz, t_lrange2, t_sortsetS, t_indexL, t_retdboxM, t_par4, t_par5, t_index, t_maxd1, t_ifT, t_insert, t_tindex, t_tcount, t_tryM, t_raise0, t_gput, g_gput, t_gget1, t_gget2, t_lzip, t_callFn, t_popAt, t_callLam, t_retM, t_retMp, t_meth, t_methS, t_make, t_cput, mvSV, lvM]
    refine ⟨⟨by omega, by omega⟩, by rw [zz]; decide, ?_⟩
    rw [range_nat]
    exact ⟨by show 2 < 5; decide, by show 3 < 5; decide, hN _ rfl⟩
  rintro c rfl
  refine seq_step (fun c => ∃ o x2 x4, o.Perm (List.range n) ∧ c = [some (.raw 1), some (.dat (.int (n : Nat))), x2, some (.own (iN o)), x4]) (fun N hN => ?_) ?_
  · dsimp only [t_for, t_wrng1, t_acons, t_f, t_name, t_anil, SV.view, settled, List.getElem?_cons_zero, List.getElem?_cons_succ]
    refine ⟨by omega, by omega, ?_⟩
    show forD _ _ _ (rangeD 0 ((n : Nat) : Int)) _
    rw [range_nat]
    refine forD_A (fun i : Nat => PyData.int ((i : Nat) : Int)) (fun done c => ∃ ps acc x4, acc.length = done.length ∧ (acc ++ ps).Perm (iN (List.range n)) ∧ c = [some (.raw 1), some (.dat (.int (n : Nat))), some (.own (ps)), some (.own (acc)), x4]) (List.range n) ?_ ?_ ⟨iN (List.range n), [], none, rfl, .refl _, rfl⟩
    · rintro c ⟨ps, acc, x4, hl, hp, rfl⟩
      have pl := hp.length_eq
      rw [List.length_append, iN_len, List.length_range] at pl
      rw [List.length_range] at hl
      have ps0 : ps = [] := List.length_eq_zero_iff.mp (by omega)
      subst ps0
      rw [List.append_nil] at hp
      obtain ⟨o, rfl, ho⟩ := perm_iN hp
      exact hN _ ⟨o, _, x4, ho, rfl⟩
    rintro done i todo c N2 ev hN2 ⟨ps, acc, x4, hl, hp, rfl⟩
    have dl : done.length < n := by
      have := congrArg List.length ev
      rw [List.length_range, List.length_append, List.length_cons] at this
      omega
    have pl := hp.length_eq
    rw [List.length_append, iN_len, List.length_range] at pl
    dsimp only [t_revL, t_sortsetL, t_sortsetT, t_lrange, t_trange, t_keep, frzAll, frzO, t_lensetS, t_wany, seqY, t_wzipT, seqT, t_gd0, t_disp, t_pcons, t_pnil, t_retdbox, t_dictP, t_sortK, t_callB, t_dnew1, t_pop, t_lenset, t_wseq, t_wzip3, t_astar, t_par3, t_dnew, t_dlist, t_dput, t_dget2, t_din, t_lenScr, t_raise1, t_callX, t_callKX, t_xf, t_isx, runX, t_seq, t_if, t_or, t_and, t_not, t_tst, t_v, t_f, t_l, t_c, t_c1, t_op, t_chain', t_ret, t_asg, t_for, t_wenum, t_wlist, t_wtup, t_wstr, t_wrng1, t_wrng2, t_drop, g_setix, t_wzip, t_lname, t_name, t_next, t_ifx, t_isi, t_notV, t_andV, t_orV, t_call, t_callK, t_acons, t_aconsR, t_anil, t_tupd, t_lstd, g_name, g_tup, g_cons, g_nil, t_drop, t_lc, t_yes, t_star1, t_retn, t_par, t_slice, t_some, t_no, t_dict0, t_rev, t_neg, t_extend, t_append, t_sliceScr, t_retbox, t_xcons, LV.get, CS.at_, SV.view, datsOf, Option.map_some, List.getElem?_cons_zero, List.getElem?_cons_succ, List.set_cons_zero, List.set_cons_succ, settled, initC, List.map_cons, List.map_nil, List.length_cons, List.length_nil, List.cons_append, List.nil_append, seqOf, runD, t_wrng3, t_dzip, t_count, t_frz, t_lrange2, t_sortsetS, t_indexL, t_retdboxM, t_par4, t_par5, t_index, t_maxd1, t_ifT, t_insert, t_tindex, t_tcount, t_tryM, t_raise0, t_gput, g_gput, t_gget1, t_gget2, t_lzip, t_callFn, t_popAt, t_callLam, t_retM, t_retMp, t_meth, t_methS, t_make, t_cput, mvSV, lvM]
    refine ⟨by show 4 < 5; decide, ⟨_, rfl⟩, ⟨_, rfl⟩, rfl, ⟨_, rfl⟩, lenY_ll (draw_spec (by omega) (by omega) fun r hr => ?_)⟩
    obtain ⟨k, e, e1, e2⟩ := pop_draw (ds := ps) (r := (r : Int)) (by omega) (by omega)
    refine ⟨ps, k, e, rfl, e1, e2, by omega, by omega, by rw [zz]; omega, hN2 _ ⟨ps.eraseIdx k, acc ++ [e], _, by rw [List.length_append, List.length_append, hl]; rfl, ?_, rfl⟩⟩
    refine List.Perm.trans ?_ hp
    rw [List.append_assoc]
    exact (pop_perm e2).symm.append_left acc
  rintro c ⟨o, x2, x4, ho, rfl⟩
  exact h o ho
theorem modX_n {a m : Nat} (hm : 0 < m) {Q : SV → Prop} (h : Q (.dat (.int ((a % m : Nat) : Int)))) : modX (.int (a : Nat)) (.int (m : Nat)) Q := ⟨by omega, h⟩
theorem divisor_spec {k m : Nat} (hm : m ≤ 64) (hk : k ≤ 100) {Q : SV → Prop} (h : Q (.dat (.int ((Nat.gcd k m : Nat) : Int)))) : C__law_divisor [.dat (.int (k : Nat)), .dat (.int (m : Nat))] Q := by
  refine ⟨rfl, ?_⟩
  have zz : sizeLine = 16777216 := sizeLine_eq
  show T__law_divisor _ [some (.dat (.int (k : Nat))), some (.dat (.int (m : Nat))), none]
  refine seq_step (fun c => ∃ x1 x2, c = [some (.dat (.int ((Nat.gcd k m : Nat) : Int))), x1, x2]) (fun N hN => ?_) ?_
  · dsimp only [t_for, t_wrng1, t_acons, t_c, t_anil]
    refine ⟨by decide, by decide, ?_⟩
    show forD _ _ _ (rangeD 0 ((64 : Nat) : Int)) _
    rw [range_nat]
    refine forD_A (fun i : Nat => PyData.int ((i : Nat) : Int)) (fun done c => ∃ (a b : Nat) (x2 : Option SV), Nat.gcd a b = Nat.gcd k m ∧ b + done.length ≤ 64 ∧ c = [some (.dat (.int (a : Nat))), some (.dat (.int (b : Nat))), x2]) (List.range 64) ?_ ?_ ⟨k, m, none, rfl, by rw [List.length_nil]; omega, rfl⟩
    · rintro c ⟨a, b, x2, hg, hl, rfl⟩
      rw [List.length_range] at hl
      obtain rfl : b = 0 := by omega
      rw [Nat.gcd_zero_right] at hg
      refine hN _ ⟨some (.dat (.int ((0 : Nat) : Int))), x2, ?_⟩
      rw [hg]
    rintro done i todo c N2 ev hN2 ⟨a, b, x2, hg, hl, rfl⟩
    refine ⟨by show 2 < 3; decide, ?_⟩
    by_cases hb : b = 0
    · subst hb
      rw [Nat.gcd_zero_right] at hg
      subst hg
      dsimp only [t_revL, t_sortsetL, t_sortsetT, t_lrange, t_trange, t_keep, frzAll, frzO, t_lensetS, t_wany, seqY, t_wzipT, seqT, t_gd0, t_disp, t_pcons, t_pnil, t_retdbox, t_dictP, t_sortK, t_callB, t_dnew1, t_pop, t_lenset, t_wseq, t_wzip3, t_astar, t_par3, t_dnew, t_dlist, t_dput, t_dget2, t_din, t_lenScr, t_raise1, t_callX, t_callKX, t_xf, t_isx, runX, t_seq, t_if, t_or, t_and, t_not, t_tst, t_v, t_f, t_l, t_c, t_c1, t_op, t_chain', t_ret, t_asg, t_for, t_wenum, t_wlist, t_wtup, t_wstr, t_wrng1, t_wrng2, t_drop, g_setix, t_wzip, t_lname, t_name, t_next, t_ifx, t_isi, t_notV, t_andV, t_orV, t_call, t_callK, t_acons, t_aconsR, t_anil, t_tupd, t_lstd, g_name, g_tup, g_cons, g_nil, t_drop, t_lc, t_yes, t_star1, t_retn, t_par, t_slice, t_some, t_no, t_dict0, t_rev, t_neg, t_extend, t_append, t_sliceScr, t_retbox, t_xcons, LV.get, CS.at_, SV.view, datsOf, Option.map_some, List.getElem?_cons_zero, List.getElem?_cons_succ, List.set_cons_zero, List.set_cons_succ, settled, initC, List.map_cons, List.map_nil, List.length_cons, List.length_nil, List.cons_append, List.nil_append, seqOf, runD, t_wrng3, t_dzip, t_count, t_frz, t_lrange2, t_sortsetS, t_indexL, t_retdboxM, t_par4, t_par5, t_index, t_maxd1, t_ifT, t_insert, t_tindex, t_tcount, t_tryM, t_raise0, t_gput, g_gput, t_gget1, t_gget2, t_lzip, t_callFn, t_popAt, t_callLam, t_retM, t_retMp, t_meth, t_methS, t_make, t_cput, mvSV, lvM, t_brk]
      refine ⟨⟨_, rfl⟩, eqZ_int ?_⟩
      exact iteT (hN _ ⟨_, _, rfl⟩)
    · refine seq_step (fun c => c = [some (.dat (.int (a : Nat))), some (.dat (.int (b : Nat))), some (.dat (.int (i : Nat)))]) (fun N3 hN3 => ?_) ?_
      · refine if_not (fun K hK => ?_) (hN3 _ rfl)
        dsimp only [t_revL, t_sortsetL, t_sortsetT, t_lrange, t_trange, t_keep, frzAll, frzO, t_lensetS, t_wany, seqY, t_wzipT, seqT, t_gd0, t_disp, t_pcons, t_pnil, t_retdbox, t_dictP, t_sortK, t_callB, t_dnew1, t_pop, t_lenset, t_wseq, t_wzip3, t_astar, t_par3, t_dnew, t_dlist, t_dput, t_dget2, t_din, t_lenScr, t_raise1, t_callX, t_callKX, t_xf, t_isx, runX, t_seq, t_if, t_or, t_and, t_not, t_tst, t_v, t_f, t_l, t_c, t_c1, t_op, t_chain', t_ret, t_asg, t_for, t_wenum, t_wlist, t_wtup, t_wstr, t_wrng1, t_wrng2, t_drop, g_setix, t_wzip, t_lname, t_name, t_next, t_ifx, t_isi, t_notV, t_andV, t_orV, t_call, t_callK, t_acons, t_aconsR, t_anil, t_tupd, t_lstd, g_name, g_tup, g_cons, g_nil, t_drop, t_lc, t_yes, t_star1, t_retn, t_par, t_slice, t_some, t_no, t_dict0, t_rev, t_neg, t_extend, t_append, t_sliceScr, t_retbox, t_xcons, LV.get, CS.at_, SV.view, datsOf, Option.map_some, List.getElem?_cons_zero, List.getElem?_cons_succ, List.set_cons_zero, List.set_cons_succ, settled, initC, List.map_cons, List.map_nil, List.length_cons, List.length_nil, List.cons_append, List.nil_append, seqOf, runD, t_wrng3, t_dzip, t_count, t_frz, t_lrange2, t_sortsetS, t_indexL, t_retdboxM, t_par4, t_par5, t_index, t_maxd1, t_ifT, t_insert, t_tindex, t_tcount, t_tryM, t_raise0, t_gput, g_gput, t_gget1, t_gget2, t_lzip, t_callFn, t_popAt, t_callLam, t_retM, t_retMp, t_meth, t_methS, t_make, t_cput, mvSV, lvM]
        refine ⟨⟨_, rfl⟩, eqZ_int ?_⟩
        rw [decide_eq_false (by omega)]
        exact hK
      rintro c rfl
      dsimp only [t_revL, t_sortsetL, t_sortsetT, t_lrange, t_trange, t_keep, frzAll, frzO, t_lensetS, t_wany, seqY, t_wzipT, seqT, t_gd0, t_disp, t_pcons, t_pnil, t_retdbox, t_dictP, t_sortK, t_callB, t_dnew1, t_pop, t_lenset, t_wseq, t_wzip3, t_astar, t_par3, t_dnew, t_dlist, t_dput, t_dget2, t_din, t_lenScr, t_raise1, t_callX, t_callKX, t_xf, t_isx, runX, t_seq, t_if, t_or, t_and, t_not, t_tst, t_v, t_f, t_l, t_c, t_c1, t_op, t_chain', t_ret, t_asg, t_for, t_wenum, t_wlist, t_wtup, t_wstr, t_wrng1, t_wrng2, t_drop, g_setix, t_wzip, t_lname, t_name, t_next, t_ifx, t_isi, t_notV, t_andV, t_orV, t_call, t_callK, t_acons, t_aconsR, t_anil, t_tupd, t_lstd, g_name, g_tup, g_cons, g_nil, t_drop, t_lc, t_yes, t_star1, t_retn, t_par, t_slice, t_some, t_no, t_dict0, t_rev, t_neg, t_extend, t_append, t_sliceScr, t_retbox, t_xcons, LV.get, CS.at_, SV.view, datsOf, Option.map_some, List.getElem?_cons_zero, List.getElem?_cons_succ, List.set_cons_zero, List.set_cons_succ, settled, initC, List.map_cons, List.map_nil, List.length_cons, List.length_nil, List.cons_append, List.nil_append, seqOf, runD, t_wrng3, t_dzip, t_count, t_frz, t_lrange2, t_sortsetS, t_indexL, t_retdboxM, t_par4, t_par5, t_index, t_maxd1, t_ifT, t_insert, t_tindex, t_tcount, t_tryM, t_raise0, t_gput, g_gput, t_gget1, t_gget2, t_lzip, t_callFn, t_popAt, t_callLam, t_retM, t_retMp, t_meth, t_methS, t_make, t_cput, mvSV, lvM, intX]
      refine ⟨⟨_, rfl⟩, ⟨_, rfl⟩, modX_n (by omega) ⟨by show 0 < 3; decide, by show 1 < 3; decide, hN2 _ ⟨b, a % b, _, ?_, ?_, rfl⟩⟩⟩
      · rw [← hg, Nat.gcd_comm a b, Nat.gcd_rec b a, Nat.gcd_comm]
      · have := Nat.mod_lt a (show 0 < b by omega)
        rw [List.length_append, List.length_singleton]; omega
  rintro c ⟨x1, x2, rfl⟩
  dsimp only [t_revL, t_sortsetL, t_sortsetT, t_lrange, t_trange, t_keep, frzAll, frzO, t_lensetS, t_wany, seqY, t_wzipT, seqT, t_gd0, t_disp, t_pcons, t_pnil, t_retdbox, t_dictP, t_sortK, t_callB, t_dnew1, t_pop, t_lenset, t_wseq, t_wzip3, t_astar, t_par3, t_dnew, t_dlist, t_dput, t_dget2, t_din, t_lenScr, t_raise1, t_callX, t_callKX, t_xf, t_isx, runX, t_seq, t_if, t_or, t_and, t_not, t_tst, t_v, t_f, t_l, t_c, t_c1, t_op, t_chain', t_ret, t_asg, t_for, t_wenum, t_wlist, t_wtup, t_wstr, t_wrng1, t_wrng2, t_drop, g_setix, t_wzip, t_lname, t_name, t_next, t_ifx, t_isi, t_notV, t_andV, t_orV, t_call, t_callK, t_acons, t_aconsR, t_anil, t_tupd, t_lstd, g_name, g_tup, g_cons, g_nil, t_drop, t_lc, t_yes, t_star1, t_retn, t_par, t_slice, t_some, t_no, t_dict0, t_rev, t_neg, t_extend, t_append, t_sliceScr, t_retbox, t_xcons, LV.get, CS.at_, SV.view, datsOf, Option.map_some, List.getElem?_cons_zero, List.getElem?_cons_succ, List.set_cons_zero, List.set_cons_succ, settled, initC, List.map_cons, List.map_nil, List.length_cons, List.length_nil, List.cons_append, List.nil_append, seqOf, runD, t_wrng3, t_dzip, t_count, t_frz, t_lrange2, t_sortsetS, t_indexL, t_retdboxM, t_par4, t_par5, t_index, t_maxd1, t_ifT, t_insert, t_tindex, t_tcount, t_tryM, t_raise0, t_gput, g_gput, t_gget1, t_gget2, t_lzip, t_callFn, t_popAt, t_callLam, t_retM, t_retMp, t_meth, t_methS, t_make, t_cput, mvSV, lvM]
  exact h
end Lk

namespace Lk
open PySem PySem.Spec PyProof.Rows L2 Cl Sums
open Cards (st sz rowsOf leL valA st_len st_le val_st st_val)
open Rms (Rg dc RS TB Wy K dc_get dc_len)
open scoped Classical
theorem cop_snoc : ∀ {us ns : List Nat} {u m : Nat}, Cop us ns → Nat.gcd u m = 1 → Cop (us ++ [u]) (ns ++ [m])
  | [], [], _, _, _, h => ⟨h, True.intro⟩
  | v :: us, n :: ns, _, _, c, h => ⟨c.1, cop_snoc c.2 h⟩
  | [], _ :: _, _, _, c, _ => c.elim
  | _ :: _, [], _, _, c, _ => c.elim
theorem cop_len : ∀ {us ns : List Nat}, Cop us ns → us.length = ns.length
  | [], [], _ => rfl
  | v :: us, n :: ns, c => by rw [List.length_cons, List.length_cons, cop_len c.2]
  | [], _ :: _, c => c.elim
  | _ :: _, [], c => c.elim
theorem mul3_eq : ∀ a b ns : List Nat, ((a.zip (b.zip ns)).map fun p => PyData.int ((((p.1 : Nat) : Int) * ((p.2.1 : Nat) : Int)) % ((p.2.2 : Nat) : Int))) = iN (mul3 a b ns)
  | [], _, _ => rfl
  | _ :: _, [], _ => rfl
  | _ :: _, _ :: _, [] => rfl
  | x :: a, y :: b, m :: ns => by
    have ih := mul3_eq a b ns
    show PyData.int (((x : Nat) * (y : Nat) : Int) % (m : Int)) :: ((a.zip (b.zip ns)).map _) = PyData.int (((x * y) % m : Nat) : Int) :: iN (mul3 a b ns)
    rw [ih]
    congr 2
theorem rng1 (m : Nat) : rangeD 1 ((m : Nat) : Int) = (List.range (m - 1)).map fun k : Nat => PyData.int ((1 + k : Nat) : Int) := by
  unfold rangeD
  rw [show (((m : Nat) : Int) - 1).toNat = m - 1 by omega]
  refine List.map_congr_left fun k _ => ?_
  show PyData.int _ = PyData.int _
  congr 1
set_option maxHeartbeats 1600000 in
theorem units_spec {ns : List Nat} {mks : List (List Nat)} (hg : Gp ns) (h2 : ∀ m ∈ ns, 2 ≤ m) (hm : ∀ m ∈ mks, ltL m ns) (hl : mks.length ≤ 100) {Q : SV → Prop} (h : ∀ us, Cop us ns → Q (.dat (.tuple (tL (mks.map fun e => mul3 e us ns))))) : C__law_units [.raw 1, .dat (tN ns), .dat (.tuple (tL mks))] Q := by
  refine ⟨rfl, ?_⟩
  have zz : sizeLine = 16777216 := sizeLine_eq
  have l3 := hg.l3
  show T__law_units _ [some (.raw 1), some (.dat (tN ns)), some (.dat (.tuple (tL mks))), none, none, none, none, none, none, none]
  refine seq_step (fun c => c = [some (.raw 1), some (.dat (tN ns)), some (.dat (.tuple (tL mks))), some (.own ([])), none, none, none, none, none, none]) (fun N hN => ?_) ?_
  · dsimp only [t_revL, t_sortsetL, t_sortsetT, t_lrange, t_trange, t_keep, frzAll, frzO, t_lensetS, t_wany, seqY, t_wzipT, seqT, t_gd0, t_disp, t_pcons, t_pnil, t_retdbox, t_dictP, t_sortK, t_callB, t_dnew1, t_pop, t_lenset, t_wseq, t_wzip3, t_astar, t_par3, t_dnew, t_dlist, t_dput, t_dget2, t_din, t_lenScr, t_raise1, t_callX, t_callKX, t_xf, t_isx, runX, t_seq, t_if, t_or, t_and, t_not, t_tst, t_v, t_f, t_l, t_c, t_c1, t_op, t_chain', t_ret, t_asg, t_for, t_wenum, t_wlist, t_wtup, t_wstr, t_wrng1, t_wrng2, t_drop, g_setix, t_wzip, t_lname, t_name, t_next, t_ifx, t_isi, t_notV, t_andV, t_orV, t_call, t_callK, t_acons, t_aconsR, t_anil, t_tupd, t_lstd, g_name, g_tup, g_cons, g_nil, t_drop, t_lc, t_yes, t_star1, t_retn, t_par, t_slice, t_some, t_no, t_dict0, t_rev, t_neg, t_extend, t_append, t_sliceScr, t_retbox, t_xcons, LV.get, CS.at_, SV.view, datsOf, Option.map_some, List.getElem?_cons_zero, List.getElem?_cons_succ, List.set_cons_zero, List.set_cons_succ, settled, initC, List.map_cons, List.map_nil, List.length_cons, List.length_nil, List.cons_append, List.nil_append, seqOf, runD, t_wrng3, t_dzip, t_count, t_frz, t_lrange2, t_sortsetS, t_indexL, t_retdboxM, t_par4, t_par5, t_index, t_maxd1, t_ifT, t_insert, t_tindex, t_tcount, t_tryM, t_raise0, t_gput, g_gput, t_gget1, t_gget2, t_lzip, t_callFn, t_popAt, t_callLam, t_retM, t_retMp, t_meth, t_methS, t_make, t_cput, mvSV, lvM]
    exact ⟨by rw [zz]; decide, by show 3 < 10; decide, hN _ rfl⟩
  rintro c rfl
  refine seq_step (fun c => ∃ us x4, Cop us ns ∧ (∀ u ∈ us, u ≤ 64) ∧ c = [some (.raw 1), some (.dat (tN ns)), some (.dat (.tuple (tL mks))), some (.own (iN us)), x4, none, none, none, none, none]) (fun N hN => ?_) ?_
  · dsimp only [t_for, t_wany, t_f, t_name, List.getElem?_cons_zero, List.getElem?_cons_succ, List.set_cons_zero, List.set_cons_succ, SV.view, seqY]
    refine forD_A (fun m : Nat => PyData.int ((m : Nat) : Int)) (fun done c => ∃ us x4, Cop us done ∧ (∀ u ∈ us, u ≤ 64) ∧ c = [some (.raw 1), some (.dat (tN ns)), some (.dat (.tuple (tL mks))), some (.own (iN us)), x4, none, none, none, none, none]) ns ?_ ?_ ⟨[], none, True.intro, (fun _ h => by cases h), rfl⟩
    · rintro c ⟨us, x4, a, b, rfl⟩
      exact hN _ ⟨us, x4, a, b, rfl⟩
    rintro done m todo c N2 ev hN2 ⟨us, x4, ha, hb, rfl⟩
    have hm2 := h2 m (by rw [ev]; simp)
    have hm64 := pr_one hg.b hg.p m (by rw [ev]; simp)
    have ul := cop_len ha
    have dl : done.length ≤ 3 := by
      have := congrArg List.length ev
      rw [List.length_append] at this
      omega
    refine ⟨by show 4 < 10; decide, ?_⟩
    dsimp only [t_revL, t_sortsetL, t_sortsetT, t_lrange, t_trange, t_keep, frzAll, frzO, t_lensetS, t_wany, seqY, t_wzipT, seqT, t_gd0, t_disp, t_pcons, t_pnil, t_retdbox, t_dictP, t_sortK, t_callB, t_dnew1, t_pop, t_lenset, t_wseq, t_wzip3, t_astar, t_par3, t_dnew, t_dlist, t_dput, t_dget2, t_din, t_lenScr, t_raise1, t_callX, t_callKX, t_xf, t_isx, runX, t_seq, t_if, t_or, t_and, t_not, t_tst, t_v, t_f, t_l, t_c, t_c1, t_op, t_chain', t_ret, t_asg, t_for, t_wenum, t_wlist, t_wtup, t_wstr, t_wrng1, t_wrng2, t_drop, g_setix, t_wzip, t_lname, t_name, t_next, t_ifx, t_isi, t_notV, t_andV, t_orV, t_call, t_callK, t_acons, t_aconsR, t_anil, t_tupd, t_lstd, g_name, g_tup, g_cons, g_nil, t_drop, t_lc, t_yes, t_star1, t_retn, t_par, t_slice, t_some, t_no, t_dict0, t_rev, t_neg, t_extend, t_append, t_sliceScr, t_retbox, t_xcons, LV.get, CS.at_, SV.view, datsOf, Option.map_some, List.getElem?_cons_zero, List.getElem?_cons_succ, List.set_cons_zero, List.set_cons_succ, settled, initC, List.map_cons, List.map_nil, List.length_cons, List.length_nil, List.cons_append, List.nil_append, seqOf, runD, t_wrng3, t_dzip, t_count, t_frz, t_lrange2, t_sortsetS, t_indexL, t_retdboxM, t_par4, t_par5, t_index, t_maxd1, t_ifT, t_insert, t_tindex, t_tcount, t_tryM, t_raise0, t_gput, g_gput, t_gget1, t_gget2, t_lzip, t_callFn, t_popAt, t_callLam, t_retM, t_retMp, t_meth, t_methS, t_make, t_cput, mvSV, lvM]
    refine ⟨⟨_, rfl⟩, rfl, ⟨⟨by decide, by decide, by omega, by omega⟩, ?_⟩⟩
    rw [rng1]
    refine lcD_A (fun k : Nat => PyData.int ((1 + k : Nat) : Int)) (fun k => PyData.int ((1 + k : Nat) : Int)) (fun k => decide (Nat.gcd (1 + k) m = 1)) _ (List.range (m - 1)) [] (by rw [List.length_nil, List.length_range, zz]; omega) (fun k hk K2 N5 hK hN5 => ?_) ?_
    · have hk := List.mem_range.mp hk
      dsimp only [t_revL, t_sortsetL, t_sortsetT, t_lrange, t_trange, t_keep, frzAll, frzO, t_lensetS, t_wany, seqY, t_wzipT, seqT, t_gd0, t_disp, t_pcons, t_pnil, t_retdbox, t_dictP, t_sortK, t_callB, t_dnew1, t_pop, t_lenset, t_wseq, t_wzip3, t_astar, t_par3, t_dnew, t_dlist, t_dput, t_dget2, t_din, t_lenScr, t_raise1, t_callX, t_callKX, t_xf, t_isx, runX, t_seq, t_if, t_or, t_and, t_not, t_tst, t_v, t_f, t_l, t_c, t_c1, t_op, t_chain', t_ret, t_asg, t_for, t_wenum, t_wlist, t_wtup, t_wstr, t_wrng1, t_wrng2, t_drop, g_setix, t_wzip, t_lname, t_name, t_next, t_ifx, t_isi, t_notV, t_andV, t_orV, t_call, t_callK, t_acons, t_aconsR, t_anil, t_tupd, t_lstd, g_name, g_tup, g_cons, g_nil, t_drop, t_lc, t_yes, t_star1, t_retn, t_par, t_slice, t_some, t_no, t_dict0, t_rev, t_neg, t_extend, t_append, t_sliceScr, t_retbox, t_xcons, LV.get, CS.at_, SV.view, datsOf, Option.map_some, List.getElem?_cons_zero, List.getElem?_cons_succ, List.set_cons_zero, List.set_cons_succ, settled, initC, List.map_cons, List.map_nil, List.length_cons, List.length_nil, List.cons_append, List.nil_append, seqOf, runD, t_wrng3, t_dzip, t_count, t_frz, t_lrange2, t_sortsetS, t_indexL, t_retdboxM, t_par4, t_par5, t_index, t_maxd1, t_ifT, t_insert, t_tindex, t_tcount, t_tryM, t_raise0, t_gput, g_gput, t_gget1, t_gget2, t_lzip, t_callFn, t_popAt, t_callLam, t_retM, t_retMp, t_meth, t_methS, t_make, t_cput, mvSV, lvM, wipeC]
      refine ⟨by show 5 < 10; decide, divisor_spec hm64 (by omega) (eqZ_int ?_)⟩
      by_cases e : Nat.gcd (1 + k) m = 1
      · rw [decide_eq_true (by rw [e]; rfl)]
        exact iteT (hK (decide_eq_true e))
      · rw [decide_eq_false (fun z => e (by omega))]
        exact iteF (hN5 (decide_eq_false e))
    rw [List.nil_append]
    refine pick_spec _ (fun z => ?_) ?_ fun d hd => ?_
    · have z := List.map_eq_nil_iff.mp z
      have : 0 ∈ (List.range (m - 1)).filter fun k => decide (Nat.gcd (1 + k) m = 1) := List.mem_filter.mpr ⟨List.mem_range.mpr (by omega), decide_eq_true (Nat.gcd_one_left m)⟩
      rw [z] at this
      cases this
    · rw [List.length_map]
      have := List.length_filter_le (fun k => decide (Nat.gcd (1 + k) m = 1)) (List.range (m - 1))
      rw [List.length_range] at this
      omega
    obtain ⟨k, hk, rfl⟩ := List.mem_map.mp hd
    obtain ⟨k1, k2⟩ := List.mem_filter.mp hk
    have k1 := List.mem_range.mp k1
    have lz : (iN us).length < sizeLine := by rw [iN_len, zz]; omega
    refine ⟨lz, ?_⟩
    refine hN2 _ ⟨us ++ [1 + k], some (.dat (.int (m : Nat))), cop_snoc ha (of_decide_eq_true k2), fun u hu => ?_, ?_⟩
    · rcases List.mem_append.mp hu with z | z
      · exact hb u z
      · rw [List.mem_singleton.mp z]; omega
    · rw [iN_append]; rfl
  rintro c ⟨us, x4, ha, hb, rfl⟩
  have ul := cop_len ha
  refine seq_step (fun c => c = [some (.raw 1), some (.dat (tN ns)), some (.dat (.tuple (tL mks))), some (.own (iN us)), x4, none, some (.own ([])), none, none, none]) (fun N hN => ?_) ?_
  · dsimp only [t_revL, t_sortsetL, t_sortsetT, t_lrange, t_trange, t_keep, frzAll, frzO, t_lensetS, t_wany, seqY, t_wzipT, seqT, t_gd0, t_disp, t_pcons, t_pnil, t_retdbox, t_dictP, t_sortK, t_callB, t_dnew1, t_pop, t_lenset, t_wseq, t_wzip3, t_astar, t_par3, t_dnew, t_dlist, t_dput, t_dget2, t_din, t_lenScr, t_raise1, t_callX, t_callKX, t_xf, t_isx, runX, t_seq, t_if, t_or, t_and, t_not, t_tst, t_v, t_f, t_l, t_c, t_c1, t_op, t_chain', t_ret, t_asg, t_for, t_wenum, t_wlist, t_wtup, t_wstr, t_wrng1, t_wrng2, t_drop, g_setix, t_wzip, t_lname, t_name, t_next, t_ifx, t_isi, t_notV, t_andV, t_orV, t_call, t_callK, t_acons, t_aconsR, t_anil, t_tupd, t_lstd, g_name, g_tup, g_cons, g_nil, t_drop, t_lc, t_yes, t_star1, t_retn, t_par, t_slice, t_some, t_no, t_dict0, t_rev, t_neg, t_extend, t_append, t_sliceScr, t_retbox, t_xcons, LV.get, CS.at_, SV.view, datsOf, Option.map_some, List.getElem?_cons_zero, List.getElem?_cons_succ, List.set_cons_zero, List.set_cons_succ, settled, initC, List.map_cons, List.map_nil, List.length_cons, List.length_nil, List.cons_append, List.nil_append, seqOf, runD, t_wrng3, t_dzip, t_count, t_frz, t_lrange2, t_sortsetS, t_indexL, t_retdboxM, t_par4, t_par5, t_index, t_maxd1, t_ifT, t_insert, t_tindex, t_tcount, t_tryM, t_raise0, t_gput, g_gput, t_gget1, t_gget2, t_lzip, t_callFn, t_popAt, t_callLam, t_retM, t_retMp, t_meth, t_methS, t_make, t_cput, mvSV, lvM]
    exact ⟨by rw [zz]; decide, by show 6 < 10; decide, hN _ rfl⟩
  rintro c rfl
  refine seq_step (fun c => ∃ x3 x4 x7, c = [some (.raw 1), some (.dat (tN ns)), some (.dat (.tuple (tL mks))), x3, x4, none, some (.own (tL (mks.map fun e => mul3 e us ns))), x7, none, none]) (fun N hN => ?_) ?_
  · dsimp only [t_for, t_wany, t_f, t_name, List.getElem?_cons_zero, List.getElem?_cons_succ, List.set_cons_zero, List.set_cons_succ, SV.view, seqY]
    refine forD_A tN (fun done c => ∃ x3 x4 x7, (x3 = some (.own (iN us)) ∨ x3 = some (.dat (.list (iN us)))) ∧ c = [some (.raw 1), some (.dat (tN ns)), some (.dat (.tuple (tL mks))), x3, x4, none, some (.own (tL (done.map fun e => mul3 e us ns))), x7, none, none]) mks ?_ ?_ ⟨_, x4, none, .inl rfl, rfl⟩
    · rintro c ⟨x3, x4, x7, _, rfl⟩
      exact hN _ ⟨x3, x4, x7, rfl⟩
    rintro done e todo c N2 ev hN2 ⟨x3, x4, x7, h3, rfl⟩
    have hel := ltL_len (hm e (by rw [ev]; simp))
    have dl : done.length ≤ mks.length := by rw [ev, List.length_append]; omega
    refine ⟨by show 7 < 10; decide, ?_⟩
    have lz : (tL (done.map fun e => mul3 e us ns)).length < sizeLine := by rw [List.length_map, List.length_map, zz]; omega
    have fin : ∀ x4 x5 x8 x9, x5 = none → x8 = none → x9 = none → N2 [some (.raw 1), some (.dat (tN ns)), some (.dat (.tuple (tL mks))), some (.dat (.list (iN us))), x4, x5, some (.own (tL (done.map fun e => mul3 e us ns) ++ [tN (mul3 e us ns)])), some (.dat (tN e)), x8, x9] := by
      rintro x4 x5 x8 x9 rfl rfl rfl
      refine hN2 _ ⟨_, x4, some (.dat (tN e)), .inr rfl, ?_⟩
      rw [List.map_append, show tL (done.map (fun e => mul3 e us ns) ++ [e].map fun e => mul3 e us ns) = tL (done.map fun e => mul3 e us ns) ++ [tN (mul3 e us ns)] from List.map_append]
    generalize tL (done.map fun e => mul3 e us ns) = AC at *
    rcases h3 with rfl | rfl
    all_goals
      dsimp only [t_revL, t_sortsetL, t_sortsetT, t_lrange, t_trange, t_keep, frzAll, frzO, t_lensetS, t_wany, seqY, t_wzipT, seqT, t_gd0, t_disp, t_pcons, t_pnil, t_retdbox, t_dictP, t_sortK, t_callB, t_dnew1, t_pop, t_lenset, t_wseq, t_wzip3, t_astar, t_par3, t_dnew, t_dlist, t_dput, t_dget2, t_din, t_lenScr, t_raise1, t_callX, t_callKX, t_xf, t_isx, runX, t_seq, t_if, t_or, t_and, t_not, t_tst, t_v, t_f, t_l, t_c, t_c1, t_op, t_chain', t_ret, t_asg, t_for, t_wenum, t_wlist, t_wtup, t_wstr, t_wrng1, t_wrng2, t_drop, g_setix, t_wzip, t_lname, t_name, t_next, t_ifx, t_isi, t_notV, t_andV, t_orV, t_call, t_callK, t_acons, t_aconsR, t_anil, t_tupd, t_lstd, g_name, g_tup, g_cons, g_nil, t_drop, t_lc, t_yes, t_star1, t_retn, t_par, t_slice, t_some, t_no, t_dict0, t_rev, t_neg, t_extend, t_append, t_sliceScr, t_retbox, t_xcons, LV.get, CS.at_, SV.view, datsOf, Option.map_some, List.getElem?_cons_zero, List.getElem?_cons_succ, List.set_cons_zero, List.set_cons_succ, settled, initC, List.map_cons, List.map_nil, List.length_cons, List.length_nil, List.cons_append, List.nil_append, seqOf, runD, t_wrng3, t_dzip, t_count, t_frz, t_lrange2, t_sortsetS, t_indexL, t_retdboxM, t_par4, t_par5, t_index, t_maxd1, t_ifT, t_insert, t_tindex, t_tcount, t_tryM, t_raise0, t_gput, g_gput, t_gget1, t_gget2, t_lzip, t_callFn, t_popAt, t_callLam, t_retM, t_retMp, t_meth, t_methS, t_make, t_cput, mvSV, lvM]
      refine ⟨⟨_, rfl⟩, ?_⟩
      show lcD _ _ _ _ _ (rowsD (zipRs3 (iN e) (iN us) (iN ns))) _ _
      rw [show rowsD (zipRs3 (iN e) (iN us) (iN ns)) = _ from zip3_rows _ _ _ _ _ _]
      dsimp only [wipeC, List.set_cons_zero, List.set_cons_succ]
      refine lcD_M _ (fun p => PyData.int ((((p.1 : Nat) : Int) * ((p.2.1 : Nat) : Int)) % ((p.2.2 : Nat) : Int))) _ _ ?_ (fun p hp2 K N hK => ?_) ?_
      · rw [List.length_zip, List.length_zip, zz]; omega
      · obtain ⟨x, y, m⟩ := p
        have hz := List.of_mem_zip (List.of_mem_zip hp2).2
        have hm1 : 1 ≤ m := hg.b m hz.2
        have hu := hb y hz.1
        dsimp only [t_revL, t_sortsetL, t_sortsetT, t_lrange, t_trange, t_keep, frzAll, frzO, t_lensetS, t_wany, seqY, t_wzipT, seqT, t_gd0, t_disp, t_pcons, t_pnil, t_retdbox, t_dictP, t_sortK, t_callB, t_dnew1, t_pop, t_lenset, t_wseq, t_wzip3, t_astar, t_par3, t_dnew, t_dlist, t_dput, t_dget2, t_din, t_lenScr, t_raise1, t_callX, t_callKX, t_xf, t_isx, runX, t_seq, t_if, t_or, t_and, t_not, t_tst, t_v, t_f, t_l, t_c, t_c1, t_op, t_chain', t_ret, t_asg, t_for, t_wenum, t_wlist, t_wtup, t_wstr, t_wrng1, t_wrng2, t_drop, g_setix, t_wzip, t_lname, t_name, t_next, t_ifx, t_isi, t_notV, t_andV, t_orV, t_call, t_callK, t_acons, t_aconsR, t_anil, t_tupd, t_lstd, g_name, g_tup, g_cons, g_nil, t_drop, t_lc, t_yes, t_star1, t_retn, t_par, t_slice, t_some, t_no, t_dict0, t_rev, t_neg, t_extend, t_append, t_sliceScr, t_retbox, t_xcons, LV.get, CS.at_, SV.view, datsOf, Option.map_some, List.getElem?_cons_zero, List.getElem?_cons_succ, List.set_cons_zero, List.set_cons_succ, settled, initC, List.map_cons, List.map_nil, List.length_cons, List.length_nil, List.cons_append, List.nil_append, seqOf, runD, t_wrng3, t_dzip, t_count, t_frz, t_lrange2, t_sortsetS, t_indexL, t_retdboxM, t_par4, t_par5, t_index, t_maxd1, t_ifT, t_insert, t_tindex, t_tcount, t_tryM, t_raise0, t_gput, g_gput, t_gget1, t_gget2, t_lzip, t_callFn, t_popAt, t_callLam, t_retM, t_retMp, t_meth, t_methS, t_make, t_cput, mvSV, lvM, wipeC, intX]
        refine ⟨rfl, by show 8 < 10; decide, by show 9 < 10; decide, by show 4 < 10; decide, rfl, iteT ⟨⟨_, rfl⟩, ⟨_, rfl⟩, mulOk_r (by omega) (by omega), ⟨_, rfl⟩, by omega, hK⟩⟩
      · rw [mul3_eq]
        exact ⟨lz, fin _ _ _ _ rfl rfl rfl⟩
  rintro c ⟨x3, x4, x7, rfl⟩
  dsimp only [t_revL, t_sortsetL, t_sortsetT, t_lrange, t_trange, t_keep, frzAll, frzO, t_lensetS, t_wany, seqY, t_wzipT, seqT, t_gd0, t_disp, t_pcons, t_pnil, t_retdbox, t_dictP, t_sortK, t_callB, t_dnew1, t_pop, t_lenset, t_wseq, t_wzip3, t_astar, t_par3, t_dnew, t_dlist, t_dput, t_dget2, t_din, t_lenScr, t_raise1, t_callX, t_callKX, t_xf, t_isx, runX, t_seq, t_if, t_or, t_and, t_not, t_tst, t_v, t_f, t_l, t_c, t_c1, t_op, t_chain', t_ret, t_asg, t_for, t_wenum, t_wlist, t_wtup, t_wstr, t_wrng1, t_wrng2, t_drop, g_setix, t_wzip, t_lname, t_name, t_next, t_ifx, t_isi, t_notV, t_andV, t_orV, t_call, t_callK, t_acons, t_aconsR, t_anil, t_tupd, t_lstd, g_name, g_tup, g_cons, g_nil, t_drop, t_lc, t_yes, t_star1, t_retn, t_par, t_slice, t_some, t_no, t_dict0, t_rev, t_neg, t_extend, t_append, t_sliceScr, t_retbox, t_xcons, LV.get, CS.at_, SV.view, datsOf, Option.map_some, List.getElem?_cons_zero, List.getElem?_cons_succ, List.set_cons_zero, List.set_cons_succ, settled, initC, List.map_cons, List.map_nil, List.length_cons, List.length_nil, List.cons_append, List.nil_append, seqOf, runD, t_wrng3, t_dzip, t_count, t_frz, t_lrange2, t_sortsetS, t_indexL, t_retdboxM, t_par4, t_par5, t_index, t_maxd1, t_ifT, t_insert, t_tindex, t_tcount, t_tryM, t_raise0, t_gput, g_gput, t_gget1, t_gget2, t_lzip, t_callFn, t_popAt, t_callLam, t_retM, t_retMp, t_meth, t_methS, t_make, t_cput, mvSV, lvM]
  exact ⟨⟨_, rfl⟩, h us ha⟩
theorem cut_neg1 {xs : List PyData} (h : 1 ≤ xs.length) : Cl.cutD xs none (some (-1)) = xs.take (xs.length - 1) := by
  unfold Cl.cutD
  have e1 : HT.sIx xs.length 0 none = 0 := rfl
  have e2 : HT.sIx xs.length xs.length (some (-1)) = xs.length - 1 := by
    show (if (-1 : Int) < 0 then ((-1 : Int) + (xs.length : Int)).toNat else min (-1 : Int).toNat xs.length) = _
    rw [if_pos (by decide)]; omega
  rw [e1, e2, List.drop_zero, Nat.sub_zero]
theorem atI_neg1 {s : List Nat} (h : 1 ≤ s.length) : atI (iN s) (-1) = some (.int (s.getD (s.length - 1) 0 : Nat)) := by
  have e : atI (iN s) (-1) = atI (iN s) ((s.length - 1 : Nat) : Int) := by
    unfold atI ixN
    rw [if_neg (by decide), if_pos (by rw [iN_len]; omega), if_pos (by omega), if_pos (by rw [iN_len]; omega), iN_len, show ((-1 : Int) + (s.length : Int)).toNat = ((s.length - 1 : Nat) : Int).toNat by omega]
  rw [e]
  exact atI_iN (by omega)
set_option maxHeartbeats 1600000 in
theorem sheared_spec {ns : List Nat} {mks : List (List Nat)} (hg : Gp ns) (h2 : 2 ≤ pr ns) (hm : ∀ m ∈ mks, ltL m ns) (hl : mks.length ≤ 100) {Q : SV → Prop} (h : ∀ mks' : List (List Nat), mks'.length = mks.length → (∀ m ∈ mks', ltL m ns) → (∀ r, RS (RG ns mks) r = RS (RG ns mks') r) → Q (.dat (.tuple (tL mks')))) : C__law_sheared [.dat (tN ns), .dat (.tuple (tL mks))] Q := by
  refine ⟨rfl, ?_⟩
  have zz : sizeLine = 16777216 := sizeLine_eq
  have l1 := hg.l1
  have l3 := hg.l3
  show T__law_sheared _ [some (.dat (tN ns)), some (.dat (.tuple (tL mks))), none]
  have at0 : ∀ {x : List Nat} {Q : SV → Prop}, 1 ≤ x.length → Q (.dat (.int (x.getD 0 0 : Nat))) → ixG (tN x) (.int 0) Q := fun {x Q} hx q => ixG_tt (atI_iN (c := 0) (by omega)) q
  have at1 : ∀ {x : List Nat} {Q : SV → Prop}, 1 ≤ x.length → Q (.dat (.int (x.getD (x.length - 1) 0 : Nat))) → ixG (tN x) (.int (-1)) Q := fun {x Q} hx q => ixG_tt (atI_neg1 hx) q
  by_cases hs : 2 ≤ ns.length ∧ ns.getD 0 0 = ns.getD (ns.length - 1) 0
  · obtain ⟨s1, s2⟩ := hs
    refine seq_step (fun c => c = [some (.dat (tN ns)), some (.dat (.tuple (tL mks))), none]) (fun N hN => ?_) ?_
    · refine if_not (fun K hK => ?_) (hN _ rfl)
      dsimp only [t_revL, t_sortsetL, t_sortsetT, t_lrange, t_trange, t_keep, frzAll, frzO, t_lensetS, t_wany, seqY, t_wzipT, seqT, t_gd0, t_disp, t_pcons, t_pnil, t_retdbox, t_dictP, t_sortK, t_callB, t_dnew1, t_pop, t_lenset, t_wseq, t_wzip3, t_astar, t_par3, t_dnew, t_dlist, t_dput, t_dget2, t_din, t_lenScr, t_raise1, t_callX, t_callKX, t_xf, t_isx, runX, t_seq, t_if, t_or, t_and, t_not, t_tst, t_v, t_f, t_l, t_c, t_c1, t_op, t_chain', t_ret, t_asg, t_for, t_wenum, t_wlist, t_wtup, t_wstr, t_wrng1, t_wrng2, t_drop, g_setix, t_wzip, t_lname, t_name, t_next, t_ifx, t_isi, t_notV, t_andV, t_orV, t_call, t_callK, t_acons, t_aconsR, t_anil, t_tupd, t_lstd, g_name, g_tup, g_cons, g_nil, t_drop, t_lc, t_yes, t_star1, t_retn, t_par, t_slice, t_some, t_no, t_dict0, t_rev, t_neg, t_extend, t_append, t_sliceScr, t_retbox, t_xcons, LV.get, CS.at_, SV.view, datsOf, Option.map_some, List.getElem?_cons_zero, List.getElem?_cons_succ, List.set_cons_zero, List.set_cons_succ, settled, initC, List.map_cons, List.map_nil, List.length_cons, List.length_nil, List.cons_append, List.nil_append, seqOf, runD, t_wrng3, t_dzip, t_count, t_frz, t_lrange2, t_sortsetS, t_indexL, t_retdboxM, t_par4, t_par5, t_index, t_maxd1, t_ifT, t_insert, t_tindex, t_tcount, t_tryM, t_raise0, t_gput, g_gput, t_gget1, t_gget2, t_lzip, t_callFn, t_popAt, t_callLam, t_retM, t_retMp, t_meth, t_methS, t_make, t_cput, mvSV, lvM]
      refine ⟨⟨_, rfl⟩, lenY_tt ?_⟩
      rw [iN_len]
      refine ltZ_i ?_
      rw [decide_eq_false (by omega)]
      refine iteF ⟨⟨_, rfl⟩, at0 l1 ⟨⟨_, rfl⟩, at1 l1 (neZ_int ?_)⟩⟩
      rw [decide_eq_true (by rw [s2])]
      exact hK
    rintro c rfl
    obtain ⟨r1, r2⟩ := RS_shr hg.b h2 hm s1 s2
    have hmod : 1 ≤ ns.getD (ns.length - 1) 0 := by
      rw [List.getD_eq_getElem?_getD, List.getElem?_eq_getElem (by omega)]
      exact hg.b _ (List.getElem_mem _)
    dsimp only [t_revL, t_sortsetL, t_sortsetT, t_lrange, t_trange, t_keep, frzAll, frzO, t_lensetS, t_wany, seqY, t_wzipT, seqT, t_gd0, t_disp, t_pcons, t_pnil, t_retdbox, t_dictP, t_sortK, t_callB, t_dnew1, t_pop, t_lenset, t_wseq, t_wzip3, t_astar, t_par3, t_dnew, t_dlist, t_dput, t_dget2, t_din, t_lenScr, t_raise1, t_callX, t_callKX, t_xf, t_isx, runX, t_seq, t_if, t_or, t_and, t_not, t_tst, t_v, t_f, t_l, t_c, t_c1, t_op, t_chain', t_ret, t_asg, t_for, t_wenum, t_wlist, t_wtup, t_wstr, t_wrng1, t_wrng2, t_drop, g_setix, t_wzip, t_lname, t_name, t_next, t_ifx, t_isi, t_notV, t_andV, t_orV, t_call, t_callK, t_acons, t_aconsR, t_anil, t_tupd, t_lstd, g_name, g_tup, g_cons, g_nil, t_drop, t_lc, t_yes, t_star1, t_retn, t_par, t_slice, t_some, t_no, t_dict0, t_rev, t_neg, t_extend, t_append, t_sliceScr, t_retbox, t_xcons, LV.get, CS.at_, SV.view, datsOf, Option.map_some, List.getElem?_cons_zero, List.getElem?_cons_succ, List.set_cons_zero, List.set_cons_succ, settled, initC, List.map_cons, List.map_nil, List.length_cons, List.length_nil, List.cons_append, List.nil_append, seqOf, runD, t_wrng3, t_dzip, t_count, t_frz, t_lrange2, t_sortsetS, t_indexL, t_retdboxM, t_par4, t_par5, t_index, t_maxd1, t_ifT, t_insert, t_tindex, t_tcount, t_tryM, t_raise0, t_gput, g_gput, t_gget1, t_gget2, t_lzip, t_callFn, t_popAt, t_callLam, t_retM, t_retMp, t_meth, t_methS, t_make, t_cput, mvSV, lvM]
    refine lcD_M tN (fun x => tN (shr ns.length (ns.getD (ns.length - 1) 0) x)) _ mks (by rw [zz]; omega) (fun x hx K N hK => ?_) ?_
    · have xl := ltL_len (hm x hx)
      have x1 : 1 ≤ x.length := by omega
      have c1 := cut_le (iN x) none (some (-1))
      have c2 := iN_len x
      dsimp only [t_revL, t_sortsetL, t_sortsetT, t_lrange, t_trange, t_keep, frzAll, frzO, t_lensetS, t_wany, seqY, t_wzipT, seqT, t_gd0, t_disp, t_pcons, t_pnil, t_retdbox, t_dictP, t_sortK, t_callB, t_dnew1, t_pop, t_lenset, t_wseq, t_wzip3, t_astar, t_par3, t_dnew, t_dlist, t_dput, t_dget2, t_din, t_lenScr, t_raise1, t_callX, t_callKX, t_xf, t_isx, runX, t_seq, t_if, t_or, t_and, t_not, t_tst, t_v, t_f, t_l, t_c, t_c1, t_op, t_chain', t_ret, t_asg, t_for, t_wenum, t_wlist, t_wtup, t_wstr, t_wrng1, t_wrng2, t_drop, g_setix, t_wzip, t_lname, t_name, t_next, t_ifx, t_isi, t_notV, t_andV, t_orV, t_call, t_callK, t_acons, t_aconsR, t_anil, t_tupd, t_lstd, g_name, g_tup, g_cons, g_nil, t_drop, t_lc, t_yes, t_star1, t_retn, t_par, t_slice, t_some, t_no, t_dict0, t_rev, t_neg, t_extend, t_append, t_sliceScr, t_retbox, t_xcons, LV.get, CS.at_, SV.view, datsOf, Option.map_some, List.getElem?_cons_zero, List.getElem?_cons_succ, List.set_cons_zero, List.set_cons_succ, settled, initC, List.map_cons, List.map_nil, List.length_cons, List.length_nil, List.cons_append, List.nil_append, seqOf, runD, t_wrng3, t_dzip, t_count, t_frz, t_lrange2, t_sortsetS, t_indexL, t_retdboxM, t_par4, t_par5, t_index, t_maxd1, t_ifT, t_insert, t_tindex, t_tcount, t_tryM, t_raise0, t_gput, g_gput, t_gget1, t_gget2, t_lzip, t_callFn, t_popAt, t_callLam, t_retM, t_retMp, t_meth, t_methS, t_make, t_cput, mvSV, lvM, wipeC, intX]
      refine ⟨by show 2 < 3; decide, iteT ⟨⟨_, rfl⟩, slX_tt ⟨⟨_, rfl⟩, at0 x1 ⟨⟨_, rfl⟩, at1 x1 (addZ_ii ⟨⟨_, rfl⟩, at1 l1 ?_⟩)⟩⟩⟩⟩
      refine modX_n (a := x.getD 0 0 + x.getD (x.length - 1) 0) hmod ⟨by rw [zz]; decide, addZ_tt (by rw [zz]; simp only [List.length_cons, List.length_nil]; omega) ?_⟩
      rw [cut_neg1 (by omega), iN_len, take_iN, xl, show [PyData.int (((x.getD 0 0 + x.getD (ns.length - 1) 0) % ns.getD (ns.length - 1) 0 : Nat) : Int)] = iN [(x.getD 0 0 + x.getD (ns.length - 1) 0) % ns.getD (ns.length - 1) 0] from rfl, ← iN_append]
      exact hK
    · have := h (mks.map (shr ns.length (ns.getD (ns.length - 1) 0))) (List.length_map ..) r1 r2
      unfold tL at this
      rw [List.map_map] at this
      exact this
  · refine seq_step (fun c => False) (fun N hN => ?_) (fun c h => h.elim)
    refine if_yes (fun K hK => ?_) ?_
    · dsimp only [t_revL, t_sortsetL, t_sortsetT, t_lrange, t_trange, t_keep, frzAll, frzO, t_lensetS, t_wany, seqY, t_wzipT, seqT, t_gd0, t_disp, t_pcons, t_pnil, t_retdbox, t_dictP, t_sortK, t_callB, t_dnew1, t_pop, t_lenset, t_wseq, t_wzip3, t_astar, t_par3, t_dnew, t_dlist, t_dput, t_dget2, t_din, t_lenScr, t_raise1, t_callX, t_callKX, t_xf, t_isx, runX, t_seq, t_if, t_or, t_and, t_not, t_tst, t_v, t_f, t_l, t_c, t_c1, t_op, t_chain', t_ret, t_asg, t_for, t_wenum, t_wlist, t_wtup, t_wstr, t_wrng1, t_wrng2, t_drop, g_setix, t_wzip, t_lname, t_name, t_next, t_ifx, t_isi, t_notV, t_andV, t_orV, t_call, t_callK, t_acons, t_aconsR, t_anil, t_tupd, t_lstd, g_name, g_tup, g_cons, g_nil, t_drop, t_lc, t_yes, t_star1, t_retn, t_par, t_slice, t_some, t_no, t_dict0, t_rev, t_neg, t_extend, t_append, t_sliceScr, t_retbox, t_xcons, LV.get, CS.at_, SV.view, datsOf, Option.map_some, List.getElem?_cons_zero, List.getElem?_cons_succ, List.set_cons_zero, List.set_cons_succ, settled, initC, List.map_cons, List.map_nil, List.length_cons, List.length_nil, List.cons_append, List.nil_append, seqOf, runD, t_wrng3, t_dzip, t_count, t_frz, t_lrange2, t_sortsetS, t_indexL, t_retdboxM, t_par4, t_par5, t_index, t_maxd1, t_ifT, t_insert, t_tindex, t_tcount, t_tryM, t_raise0, t_gput, g_gput, t_gget1, t_gget2, t_lzip, t_callFn, t_popAt, t_callLam, t_retM, t_retMp, t_meth, t_methS, t_make, t_cput, mvSV, lvM]
      refine ⟨⟨_, rfl⟩, lenY_tt ?_⟩
      rw [iN_len]
      refine ltZ_i ?_
      by_cases s1 : ns.length < 2
      · rw [decide_eq_true (by omega)]
        exact iteT hK
      · rw [decide_eq_false (by omega)]
        refine iteF ⟨⟨_, rfl⟩, at0 l1 ⟨⟨_, rfl⟩, at1 l1 (neZ_int ?_)⟩⟩
        rw [decide_eq_false (fun z => hs ⟨by omega, by omega⟩)]
        exact hK
    · exact h mks rfl hm fun _ => rfl
theorem group_spec {Q : SV → Prop} (h : ∀ ns, Gp ns → (∀ m ∈ ns, 2 ≤ m) → Q (.dat (tN ns))) : C__law_group [.raw 1] Q := by
  refine ⟨rfl, ?_⟩
  have zz : sizeLine = 16777216 := sizeLine_eq
  show T__law_group _ [some (.raw 1), none]
  have fin : ∀ L ∈ [[[2], [3], [4], [5], [6], [7]], [[2, 2], [2, 3], [3, 2], [2, 4], [3, 3], [2, 2, 2]]], ∀ ns ∈ L, Gp ns ∧ ∀ m ∈ ns, 2 ≤ m := by
    intro L hL ns hn
    simp only [List.mem_cons, List.not_mem_nil, or_false] at hL
    rcases hL with rfl | rfl
    all_goals
      simp only [List.mem_cons, List.not_mem_nil, or_false] at hn
      rcases hn with rfl | rfl | rfl | rfl | rfl | rfl <;> exact ⟨⟨by decide, by decide, by decide, by decide⟩, by decide⟩
  refine seq_step (fun c => c = [some (.raw 1), some (.own ([[2], [3], [4], [5], [6], [7]].map tN))]) (fun N hN => ?_) ?_
  · dsimp only [t_revL, t_sortsetL, t_sortsetT, t_lrange, t_trange, t_keep, frzAll, frzO, t_lensetS, t_wany, seqY, t_wzipT, seqT, t_gd0, t_disp, t_pcons, t_pnil, t_retdbox, t_dictP, t_sortK, t_callB, t_dnew1, t_pop, t_lenset, t_wseq, t_wzip3, t_astar, t_par3, t_dnew, t_dlist, t_dput, t_dget2, t_din, t_lenScr, t_raise1, t_callX, t_callKX, t_xf, t_isx, runX, t_seq, t_if, t_or, t_and, t_not, t_tst, t_v, t_f, t_l, t_c, t_c1, t_op, t_chain', t_ret, t_asg, t_for, t_wenum, t_wlist, t_wtup, t_wstr, t_wrng1, t_wrng2, t_drop, g_setix, t_wzip, t_lname, t_name, t_next, t_ifx, t_isi, t_notV, t_andV, t_orV, t_call, t_callK, t_acons, t_aconsR, t_anil, t_tupd, t_lstd, g_name, g_tup, g_cons, g_nil, t_drop, t_lc, t_yes, t_star1, t_retn, t_par, t_slice, t_some, t_no, t_dict0, t_rev, t_neg, t_extend, t_append, t_sliceScr, t_retbox, t_xcons, LV.get, CS.at_, SV.view, datsOf, Option.map_some, List.getElem?_cons_zero, List.getElem?_cons_succ, List.set_cons_zero, List.set_cons_succ, settled, initC, List.map_cons, List.map_nil, List.length_cons, List.length_nil, List.cons_append, List.nil_append, seqOf, runD, t_wrng3, t_dzip, t_count, t_frz, t_lrange2, t_sortsetS, t_indexL, t_retdboxM, t_par4, t_par5, t_index, t_maxd1, t_ifT, t_insert, t_tindex, t_tcount, t_tryM, t_raise0, t_gput, g_gput, t_gget1, t_gget2, t_lzip, t_callFn, t_popAt, t_callLam, t_retM, t_retMp, t_meth, t_methS, t_make, t_cput, mvSV, lvM]
    repeat ((with_reducible refine And.intro ?_ ?_); (focus first | exact ⟨_, rfl⟩ | rfl | decide | omega | (simp only [List.length_append, List.length_cons, List.length_nil] at *; omega) | decide +kernel))
    exact hN _ rfl
  rintro c rfl
  dsimp only [t_revL, t_sortsetL, t_sortsetT, t_lrange, t_trange, t_keep, frzAll, frzO, t_lensetS, t_wany, seqY, t_wzipT, seqT, t_gd0, t_disp, t_pcons, t_pnil, t_retdbox, t_dictP, t_sortK, t_callB, t_dnew1, t_pop, t_lenset, t_wseq, t_wzip3, t_astar, t_par3, t_dnew, t_dlist, t_dput, t_dget2, t_din, t_lenScr, t_raise1, t_callX, t_callKX, t_xf, t_isx, runX, t_seq, t_if, t_or, t_and, t_not, t_tst, t_v, t_f, t_l, t_c, t_c1, t_op, t_chain', t_ret, t_asg, t_for, t_wenum, t_wlist, t_wtup, t_wstr, t_wrng1, t_wrng2, t_drop, g_setix, t_wzip, t_lname, t_name, t_next, t_ifx, t_isi, t_notV, t_andV, t_orV, t_call, t_callK, t_acons, t_aconsR, t_anil, t_tupd, t_lstd, g_name, g_tup, g_cons, g_nil, t_drop, t_lc, t_yes, t_star1, t_retn, t_par, t_slice, t_some, t_no, t_dict0, t_rev, t_neg, t_extend, t_append, t_sliceScr, t_retbox, t_xcons, LV.get, CS.at_, SV.view, datsOf, Option.map_some, List.getElem?_cons_zero, List.getElem?_cons_succ, List.set_cons_zero, List.set_cons_succ, settled, initC, List.map_cons, List.map_nil, List.length_cons, List.length_nil, List.cons_append, List.nil_append, seqOf, runD, t_wrng3, t_dzip, t_count, t_frz, t_lrange2, t_sortsetS, t_indexL, t_retdboxM, t_par4, t_par5, t_index, t_maxd1, t_ifT, t_insert, t_tindex, t_tcount, t_tryM, t_raise0, t_gput, g_gput, t_gget1, t_gget2, t_lzip, t_callFn, t_popAt, t_callLam, t_retM, t_retMp, t_meth, t_methS, t_make, t_cput, mvSV, lvM]
  repeat ((with_reducible refine And.intro ?_ ?_); (focus first | exact ⟨_, rfl⟩ | rfl | decide | omega | (simp only [List.length_append, List.length_cons, List.length_nil] at *; omega) | decide +kernel))
  refine pick_spec _ (by simp) (by show 3 < _; decide) fun d hd => ?_
  have hd : d ∈ [[[2], [3], [4], [5], [6], [7]], [[2], [3], [4], [5], [6], [7]], [[2, 2], [2, 3], [3, 2], [2, 4], [3, 3], [2, 2, 2]]].map fun L => PyData.list (L.map tN) := hd
  obtain ⟨L, hL, rfl⟩ := List.mem_map.mp hd
  have hL2 : L ∈ [[[2], [3], [4], [5], [6], [7]], [[2, 2], [2, 3], [3, 2], [2, 4], [3, 3], [2, 2, 2]]] ∧ L.length = 6 := by
    simp only [List.mem_cons, List.not_mem_nil, or_false] at hL
    rcases hL with rfl | rfl | rfl <;> exact ⟨by simp, rfl⟩
  refine pick_spec _ (fun z => ?_) ?_ fun d hd => ?_
  · have := congrArg List.length z
    rw [List.length_map, hL2.2] at this
    cases this
  · rw [List.length_map, hL2.2]; decide
  obtain ⟨ns, hn, rfl⟩ := List.mem_map.mp hd
  obtain ⟨a, b⟩ := fin L hL2.1 ns hn
  exact h ns a b
end Lk

namespace Lk
open PySem PySem.Spec PyProof.Rows L2 Cl Sums
open Cards (st sz rowsOf leL valA st_len st_le val_st st_val)
open Rms (Rg dc RS TB Wy K dc_get dc_len)
open scoped Classical
theorem le_px {cs s o : List Nat} (ho : o.Perm (List.range cs.length)) (h : leL s (px o cs)) : ∃ r, leL r cs ∧ px o r = s := by
  obtain ⟨a, b⟩ := leL_getD.mp h
  have hl := o_len ho
  rw [px_len] at a
  obtain ⟨r, r1, r2⟩ := px_back ho s (by omega)
  refine ⟨r, leL_getD.mpr ⟨r1, fun j hj => ?_⟩, r2⟩
  obtain ⟨x, y⟩ := o_ix ho (j := j) (by omega)
  have := b (o.idxOf j) (by omega)
  rw [← r2, px_at (by omega), px_at (by omega), y] at this
  exact this
theorem tL_at {mks : List (List Nat)} {k : Nat} (h : k < mks.length) : atI (tL mks) ((k : Nat) : Int) = some (tN (mks.getD k [])) := by
  rw [atI_map h, List.getD_eq_getElem?_getD, List.getElem?_eq_getElem h]; rfl
set_option maxHeartbeats 3200000 in
theorem is_carried_spec {cs ns : List Nat} {mks : List (List Nat)} (hc : Crd cs) (hs : sz cs ≤ 64) (hg : Gp ns) (h2 : 2 ≤ pr ns) (hm : ∀ m ∈ mks, ltL m ns) (hl : mks.length = cs.length) {Q : SV → Prop} (h : Q (.dat (.bool true))) : C__law_is_carried [.raw 1, .dat (tN cs), .dat (tN ns), .dat (.tuple (tL mks)), .dat (.tuple (SDl ns mks cs))] Q := by
  refine ⟨rfl, ?_⟩
  have zz : sizeLine = 16777216 := sizeLine_eq
  have h6 := hc.len
  have rl := Cards.rows_len cs
  show T__law_is_carried _ [some (.raw 1), some (.dat (tN cs)), some (.dat (tN ns)), some (.dat (.tuple (tL mks))), some (.dat (.tuple (SDl ns mks cs))), none, none, none, none, none, none, none, none]
  refine seq_step (fun c => ∃ o, o.Perm (List.range cs.length) ∧ c = [some (.raw 1), some (.dat (tN cs)), some (.dat (tN ns)), some (.dat (.tuple (tL mks))), some (.dat (.tuple (SDl ns mks cs))), some (.own (iN o)), none, none, none, none, none, none, none]) (fun N hN => ?_) ?_
  · dsimp only [t_revL, t_sortsetL, t_sortsetT, t_lrange, t_trange, t_keep, frzAll, frzO, t_lensetS, t_wany, seqY, t_wzipT, seqT, t_gd0, t_disp, t_pcons, t_pnil, t_retdbox, t_dictP, t_sortK, t_callB, t_dnew1, t_pop, t_lenset, t_wseq, t_wzip3, t_astar, t_par3, t_dnew, t_dlist, t_dput, t_dget2, t_din, t_lenScr, t_raise1, t_callX, t_callKX, t_xf, t_isx, runX, t_seq, t_if, t_or, t_and, t_not, t_tst, t_v, t_f, t_l, t_c, t_c1, t_op, t_chain', t_ret, t_asg, t_for, t_wenum, t_wlist, t_wtup, t_wstr, t_wrng1, t_wrng2, t_drop, g_setix, t_wzip, t_lname, t_name, t_next, t_ifx, t_isi, t_notV, t_andV, t_orV, t_call, t_callK, t_acons, t_aconsR, t_anil, t_tupd, t_lstd, g_name, g_tup, g_cons, g_nil, t_drop, t_lc, t_yes, t_star1, t_retn, t_par, t_slice, t_some, t_no, t_dict0, t_rev, t_neg, t_extend, t_append, t_sliceScr, t_retbox, t_xcons, LV.get, CS.at_, SV.view, datsOf, Option.map_some, List.getElem?_cons_zero, List.getElem?_cons_succ, List.set_cons_zero, List.set_cons_succ, settled, initC, List.map_cons, List.map_nil, List.length_cons, List.length_nil, List.cons_append, List.nil_append, seqOf, runD, t_wrng3, t_dzip, t_count, t_frz, t_lrange2, t_sortsetS, t_indexL, t_retdboxM, t_par4, t_par5, t_index, t_maxd1, t_ifT, t_insert, t_tindex, t_tcount, t_tryM, t_raise0, t_gput, g_gput, t_gget1, t_gget2, t_lzip, t_callFn, t_popAt, t_callLam, t_retM, t_retMp, t_meth, t_methS, t_make, t_cput, mvSV, lvM]
    refine ⟨rfl, ⟨_, rfl⟩, lenY_tt ?_⟩
    rw [iN_len]
    exact turned_spec (by omega) fun o ho => ⟨by show 5 < 13; decide, hN _ ⟨o, ho, rfl⟩⟩
  rintro c ⟨o, ho, rfl⟩
  have ho2 : o.Perm (List.range mks.length) := by rw [hl]; exact ho
  have ol := o_len ho
  have olt : ∀ k ∈ o, k < cs.length := fun k hk => List.mem_range.mp (ho.mem_iff.mp hk)
  refine seq_step (fun c => c = [some (.raw 1), some (.dat (tN cs)), some (.dat (tN ns)), some (.dat (.tuple (tL mks))), some (.dat (.tuple (SDl ns mks cs))), some (.dat (.list (iN o))), some (.dat (tN (px o cs))), some (.dat (.tuple (tL (pm o mks)))), none, none, none, none, none]) (fun N hN => ?_) ?_
  · dsimp only [t_revL, t_sortsetL, t_sortsetT, t_lrange, t_trange, t_keep, frzAll, frzO, t_lensetS, t_wany, seqY, t_wzipT, seqT, t_gd0, t_disp, t_pcons, t_pnil, t_retdbox, t_dictP, t_sortK, t_callB, t_dnew1, t_pop, t_lenset, t_wseq, t_wzip3, t_astar, t_par3, t_dnew, t_dlist, t_dput, t_dget2, t_din, t_lenScr, t_raise1, t_callX, t_callKX, t_xf, t_isx, runX, t_seq, t_if, t_or, t_and, t_not, t_tst, t_v, t_f, t_l, t_c, t_c1, t_op, t_chain', t_ret, t_asg, t_for, t_wenum, t_wlist, t_wtup, t_wstr, t_wrng1, t_wrng2, t_drop, g_setix, t_wzip, t_lname, t_name, t_next, t_ifx, t_isi, t_notV, t_andV, t_orV, t_call, t_callK, t_acons, t_aconsR, t_anil, t_tupd, t_lstd, g_name, g_tup, g_cons, g_nil, t_drop, t_lc, t_yes, t_star1, t_retn, t_par, t_slice, t_some, t_no, t_dict0, t_rev, t_neg, t_extend, t_append, t_sliceScr, t_retbox, t_xcons, LV.get, CS.at_, SV.view, datsOf, Option.map_some, List.getElem?_cons_zero, List.getElem?_cons_succ, List.set_cons_zero, List.set_cons_succ, settled, initC, List.map_cons, List.map_nil, List.length_cons, List.length_nil, List.cons_append, List.nil_append, seqOf, runD, t_wrng3, t_dzip, t_count, t_frz, t_lrange2, t_sortsetS, t_indexL, t_retdboxM, t_par4, t_par5, t_index, t_maxd1, t_ifT, t_insert, t_tindex, t_tcount, t_tryM, t_raise0, t_gput, g_gput, t_gget1, t_gget2, t_lzip, t_callFn, t_popAt, t_callLam, t_retM, t_retMp, t_meth, t_methS, t_make, t_cput, mvSV, lvM]
    refine lcD_M (fun n : Nat => PyData.int ((n : Nat) : Int)) (fun n => .int ((cs.getD n 0 : Nat) : Int)) _ o (by rw [zz]; omega) (fun n hn K N6 hK => ?_) ?_
    · dsimp only [t_revL, t_sortsetL, t_sortsetT, t_lrange, t_trange, t_keep, frzAll, frzO, t_lensetS, t_wany, seqY, t_wzipT, seqT, t_gd0, t_disp, t_pcons, t_pnil, t_retdbox, t_dictP, t_sortK, t_callB, t_dnew1, t_pop, t_lenset, t_wseq, t_wzip3, t_astar, t_par3, t_dnew, t_dlist, t_dput, t_dget2, t_din, t_lenScr, t_raise1, t_callX, t_callKX, t_xf, t_isx, runX, t_seq, t_if, t_or, t_and, t_not, t_tst, t_v, t_f, t_l, t_c, t_c1, t_op, t_chain', t_ret, t_asg, t_for, t_wenum, t_wlist, t_wtup, t_wstr, t_wrng1, t_wrng2, t_drop, g_setix, t_wzip, t_lname, t_name, t_next, t_ifx, t_isi, t_notV, t_andV, t_orV, t_call, t_callK, t_acons, t_aconsR, t_anil, t_tupd, t_lstd, g_name, g_tup, g_cons, g_nil, t_drop, t_lc, t_yes, t_star1, t_retn, t_par, t_slice, t_some, t_no, t_dict0, t_rev, t_neg, t_extend, t_append, t_sliceScr, t_retbox, t_xcons, LV.get, CS.at_, SV.view, datsOf, Option.map_some, List.getElem?_cons_zero, List.getElem?_cons_succ, List.set_cons_zero, List.set_cons_succ, settled, initC, List.map_cons, List.map_nil, List.length_cons, List.length_nil, List.cons_append, List.nil_append, seqOf, runD, t_wrng3, t_dzip, t_count, t_frz, t_lrange2, t_sortsetS, t_indexL, t_retdboxM, t_par4, t_par5, t_index, t_maxd1, t_ifT, t_insert, t_tindex, t_tcount, t_tryM, t_raise0, t_gput, g_gput, t_gget1, t_gget2, t_lzip, t_callFn, t_popAt, t_callLam, t_retM, t_retMp, t_meth, t_methS, t_make, t_cput, mvSV, lvM, wipeC]
      exact ⟨by show 8 < 13; decide, iteT ⟨⟨_, rfl⟩, ⟨_, rfl⟩, ixG_tt (atI_iN (olt n hn)) hK⟩⟩
    dsimp only [t_revL, t_sortsetL, t_sortsetT, t_lrange, t_trange, t_keep, frzAll, frzO, t_lensetS, t_wany, seqY, t_wzipT, seqT, t_gd0, t_disp, t_pcons, t_pnil, t_retdbox, t_dictP, t_sortK, t_callB, t_dnew1, t_pop, t_lenset, t_wseq, t_wzip3, t_astar, t_par3, t_dnew, t_dlist, t_dput, t_dget2, t_din, t_lenScr, t_raise1, t_callX, t_callKX, t_xf, t_isx, runX, t_seq, t_if, t_or, t_and, t_not, t_tst, t_v, t_f, t_l, t_c, t_c1, t_op, t_chain', t_ret, t_asg, t_for, t_wenum, t_wlist, t_wtup, t_wstr, t_wrng1, t_wrng2, t_drop, g_setix, t_wzip, t_lname, t_name, t_next, t_ifx, t_isi, t_notV, t_andV, t_orV, t_call, t_callK, t_acons, t_aconsR, t_anil, t_tupd, t_lstd, g_name, g_tup, g_cons, g_nil, t_drop, t_lc, t_yes, t_star1, t_retn, t_par, t_slice, t_some, t_no, t_dict0, t_rev, t_neg, t_extend, t_append, t_sliceScr, t_retbox, t_xcons, LV.get, CS.at_, SV.view, datsOf, Option.map_some, List.getElem?_cons_zero, List.getElem?_cons_succ, List.set_cons_zero, List.set_cons_succ, settled, initC, List.map_cons, List.map_nil, List.length_cons, List.length_nil, List.cons_append, List.nil_append, seqOf, runD, t_wrng3, t_dzip, t_count, t_frz, t_lrange2, t_sortsetS, t_indexL, t_retdboxM, t_par4, t_par5, t_index, t_maxd1, t_ifT, t_insert, t_tindex, t_tcount, t_tryM, t_raise0, t_gput, g_gput, t_gget1, t_gget2, t_lzip, t_callFn, t_popAt, t_callLam, t_retM, t_retMp, t_meth, t_methS, t_make, t_cput, mvSV, lvM, tupleX, restC, wipeC]
    refine lcD_M (fun n : Nat => PyData.int ((n : Nat) : Int)) (fun n => tN (mks.getD n [])) _ o (by rw [zz]; omega) (fun n hn K N6 hK => ?_) ?_
    · dsimp only [t_revL, t_sortsetL, t_sortsetT, t_lrange, t_trange, t_keep, frzAll, frzO, t_lensetS, t_wany, seqY, t_wzipT, seqT, t_gd0, t_disp, t_pcons, t_pnil, t_retdbox, t_dictP, t_sortK, t_callB, t_dnew1, t_pop, t_lenset, t_wseq, t_wzip3, t_astar, t_par3, t_dnew, t_dlist, t_dput, t_dget2, t_din, t_lenScr, t_raise1, t_callX, t_callKX, t_xf, t_isx, runX, t_seq, t_if, t_or, t_and, t_not, t_tst, t_v, t_f, t_l, t_c, t_c1, t_op, t_chain', t_ret, t_asg, t_for, t_wenum, t_wlist, t_wtup, t_wstr, t_wrng1, t_wrng2, t_drop, g_setix, t_wzip, t_lname, t_name, t_next, t_ifx, t_isi, t_notV, t_andV, t_orV, t_call, t_callK, t_acons, t_aconsR, t_anil, t_tupd, t_lstd, g_name, g_tup, g_cons, g_nil, t_drop, t_lc, t_yes, t_star1, t_retn, t_par, t_slice, t_some, t_no, t_dict0, t_rev, t_neg, t_extend, t_append, t_sliceScr, t_retbox, t_xcons, LV.get, CS.at_, SV.view, datsOf, Option.map_some, List.getElem?_cons_zero, List.getElem?_cons_succ, List.set_cons_zero, List.set_cons_succ, settled, initC, List.map_cons, List.map_nil, List.length_cons, List.length_nil, List.cons_append, List.nil_append, seqOf, runD, t_wrng3, t_dzip, t_count, t_frz, t_lrange2, t_sortsetS, t_indexL, t_retdboxM, t_par4, t_par5, t_index, t_maxd1, t_ifT, t_insert, t_tindex, t_tcount, t_tryM, t_raise0, t_gput, g_gput, t_gget1, t_gget2, t_lzip, t_callFn, t_popAt, t_callLam, t_retM, t_retMp, t_meth, t_methS, t_make, t_cput, mvSV, lvM, wipeC]
      exact ⟨by show 8 < 13; decide, iteT ⟨⟨_, rfl⟩, ⟨_, rfl⟩, ixG_tt (tL_at (by have := olt n hn; omega)) hK⟩⟩
    refine ⟨by show 6 < 13; decide, by show 7 < 13; decide, hN _ ?_⟩
    have e1 : (o.map fun n => PyData.int ((cs.getD n 0 : Nat) : Int)) = iN (px o cs) := by unfold iN px; rw [List.map_map]; rfl
    have e2 : (o.map fun n => tN (mks.getD n [])) = tL (pm o mks) := by unfold tL pm; rw [List.map_map]; rfl
    rw [e1, e2]
    rfl
  rintro c rfl
  have pcs := px_perm ho (x := cs) rfl
  have hcx := crd_perm pcs hc
  have szx := sz_perm pcs
  have hmx := pm_mem hm ho2
  have lx : (pm o mks).length = (px o cs).length := by unfold pm px; rw [List.length_map, List.length_map]
  have gx := rg_gd hg.b h2 hmx
  have rlx := Cards.rows_len (px o cs)
  have req : ∀ r ∈ rowsOf cs, rsD ns mks r = rsD ns (pm o mks) (px o r) := fun r hr => by
    unfold rsD
    rw [RS_pm hg.b h2 hm ho2 (by rw [hl]; exact Cards.leL_len (Cards.rows_mem hr))]
  have hxl := hcx.len
  have rin : ∀ s ∈ rowsOf (px o cs), s ∈ (rowsOf cs).map (px o) := fun s hs => by
    obtain ⟨r, r1, r2⟩ := le_px ho (Cards.rows_mem hs)
    exact List.mem_map.mpr ⟨r, Cards.mem_rows r1, r2⟩
  refine seq_step (fun c => c = [some (.raw 1), some (.dat (tN cs)), some (.dat (tN ns)), some (.dat (.tuple (tL mks))), some (.dat (.tuple (SDl ns mks cs))), some (.dat (.list (iN o))), some (.dat (tN (px o cs))), some (.dat (.tuple (tL (pm o mks)))), none, some (.dat (.tuple (SDl ns (pm o mks) (px o cs)))), some (.gd []), none, none]) (fun N hN => ?_) ?_
  · dsimp only [t_revL, t_sortsetL, t_sortsetT, t_lrange, t_trange, t_keep, frzAll, frzO, t_lensetS, t_wany, seqY, t_wzipT, seqT, t_gd0, t_disp, t_pcons, t_pnil, t_retdbox, t_dictP, t_sortK, t_callB, t_dnew1, t_pop, t_lenset, t_wseq, t_wzip3, t_astar, t_par3, t_dnew, t_dlist, t_dput, t_dget2, t_din, t_lenScr, t_raise1, t_callX, t_callKX, t_xf, t_isx, runX, t_seq, t_if, t_or, t_and, t_not, t_tst, t_v, t_f, t_l, t_c, t_c1, t_op, t_chain', t_ret, t_asg, t_for, t_wenum, t_wlist, t_wtup, t_wstr, t_wrng1, t_wrng2, t_drop, g_setix, t_wzip, t_lname, t_name, t_next, t_ifx, t_isi, t_notV, t_andV, t_orV, t_call, t_callK, t_acons, t_aconsR, t_anil, t_tupd, t_lstd, g_name, g_tup, g_cons, g_nil, t_drop, t_lc, t_yes, t_star1, t_retn, t_par, t_slice, t_some, t_no, t_dict0, t_rev, t_neg, t_extend, t_append, t_sliceScr, t_retbox, t_xcons, LV.get, CS.at_, SV.view, datsOf, Option.map_some, List.getElem?_cons_zero, List.getElem?_cons_succ, List.set_cons_zero, List.set_cons_succ, settled, initC, List.map_cons, List.map_nil, List.length_cons, List.length_nil, List.cons_append, List.nil_append, seqOf, runD, t_wrng3, t_dzip, t_count, t_frz, t_lrange2, t_sortsetS, t_indexL, t_retdboxM, t_par4, t_par5, t_index, t_maxd1, t_ifT, t_insert, t_tindex, t_tcount, t_tryM, t_raise0, t_gput, g_gput, t_gget1, t_gget2, t_lzip, t_callFn, t_popAt, t_callLam, t_retM, t_retMp, t_meth, t_methS, t_make, t_cput, mvSV, lvM]
    exact rooms_spec hcx hg h2 hmx lx ⟨by show 9 < 13; decide, by show 10 < 13; decide, hN _ rfl⟩
  rintro c rfl
  refine seq_step (fun c => c = [some (.raw 1), some (.dat (tN cs)), some (.dat (tN ns)), some (.dat (.tuple (tL mks))), some (.dat (.tuple (SDl ns mks cs))), some (.dat (.list (iN o))), some (.dat (tN (px o cs))), some (.dat (.tuple (tL (pm o mks)))), none, some (.dat (.tuple (SDl ns (pm o mks) (px o cs)))), some (.gd []), none, none]) (fun N hN => ?_) ?_
  · refine if_not (fun K hK => ?_) (hN _ rfl)
    dsimp only [t_revL, t_sortsetL, t_sortsetT, t_lrange, t_trange, t_keep, frzAll, frzO, t_lensetS, t_wany, seqY, t_wzipT, seqT, t_gd0, t_disp, t_pcons, t_pnil, t_retdbox, t_dictP, t_sortK, t_callB, t_dnew1, t_pop, t_lenset, t_wseq, t_wzip3, t_astar, t_par3, t_dnew, t_dlist, t_dput, t_dget2, t_din, t_lenScr, t_raise1, t_callX, t_callKX, t_xf, t_isx, runX, t_seq, t_if, t_or, t_and, t_not, t_tst, t_v, t_f, t_l, t_c, t_c1, t_op, t_chain', t_ret, t_asg, t_for, t_wenum, t_wlist, t_wtup, t_wstr, t_wrng1, t_wrng2, t_drop, g_setix, t_wzip, t_lname, t_name, t_next, t_ifx, t_isi, t_notV, t_andV, t_orV, t_call, t_callK, t_acons, t_aconsR, t_anil, t_tupd, t_lstd, g_name, g_tup, g_cons, g_nil, t_drop, t_lc, t_yes, t_star1, t_retn, t_par, t_slice, t_some, t_no, t_dict0, t_rev, t_neg, t_extend, t_append, t_sliceScr, t_retbox, t_xcons, LV.get, CS.at_, SV.view, datsOf, Option.map_some, List.getElem?_cons_zero, List.getElem?_cons_succ, List.set_cons_zero, List.set_cons_succ, settled, initC, List.map_cons, List.map_nil, List.length_cons, List.length_nil, List.cons_append, List.nil_append, seqOf, runD, t_wrng3, t_dzip, t_count, t_frz, t_lrange2, t_sortsetS, t_indexL, t_retdboxM, t_par4, t_par5, t_index, t_maxd1, t_ifT, t_insert, t_tindex, t_tcount, t_tryM, t_raise0, t_gput, g_gput, t_gget1, t_gget2, t_lzip, t_callFn, t_popAt, t_callLam, t_retM, t_retMp, t_meth, t_methS, t_make, t_cput, mvSV, lvM]
    refine ⟨⟨_, rfl⟩, iteF ⟨⟨_, rfl⟩, lenY_tt ⟨⟨_, rfl⟩, lenY_tt (neZ_int ?_)⟩⟩⟩
    rw [SDl_len, SDl_len, szx, decide_eq_true rfl]
    exact hK
  rintro c rfl
  have tm9 := (tm_SD hcx gx).ok
  have e9 : SDl ns (pm o mks) (px o cs) = (rowsOf (px o cs)).map (rsD ns (pm o mks)) := rfl
  generalize SDl ns (pm o mks) (px o cs) = D9 at *
  generalize tL (pm o mks) = D7 at *
  refine seq_step (fun c => ∃ x11 x12, c = [some (.raw 1), some (.dat (tN cs)), some (.dat (tN ns)), some (.dat (.tuple (tL mks))), some (.dat (.tuple (SDl ns mks cs))), some (.dat (.list (iN o))), some (.dat (tN (px o cs))), some (.dat (.tuple D7)), none, some (.dat (.tuple D9)), some (.gd (rb (rsD ns (pm o mks)) ((rowsOf cs).map (px o)))), x11, x12]) (fun N hN => ?_) ?_
  · dsimp only [t_for, t_wzipT, t_acons, t_f, t_call, t_name, t_anil, settled, seqT, List.getElem?_cons_zero, List.getElem?_cons_succ, List.set_cons_zero, List.set_cons_succ, SV.view]
    refine lawstates_spec (by omega) hs ?_
    show forD _ _ _ (rowsD (zipRs (tL (rowsOf cs)) (SDl ns mks cs))) _
    rw [show rowsD (zipRs (tL (rowsOf cs)) (SDl ns mks cs)) = (rowsOf cs).map fun r => .tuple [tN r, rsD ns mks r] from zip_pair]
    refine forD_A (fun r => .tuple [tN r, rsD ns mks r]) (fun done c => ∃ x11 x12, c = [some (.raw 1), some (.dat (tN cs)), some (.dat (tN ns)), some (.dat (.tuple (tL mks))), some (.dat (.tuple (SDl ns mks cs))), some (.dat (.list (iN o))), some (.dat (tN (px o cs))), some (.dat (.tuple D7)), none, some (.dat (.tuple D9)), some (.gd (rb (rsD ns (pm o mks)) (done.map (px o)))), x11, x12]) (rowsOf cs) ?_ ?_ ⟨none, none, rfl⟩
    · rintro c ⟨x11, x12, rfl⟩
      exact hN _ ⟨x11, x12, rfl⟩
    rintro done r todo c N4 e4 hN4 ⟨x11, x12, rfl⟩
    have nd := rows_nodup cs
    have rin4 : ∀ q ∈ done ++ r :: todo, q.length = cs.length := fun q hq => Cards.leL_len (Cards.rows_mem (by rw [e4]; exact hq))
    have rq := req r (by rw [e4]; simp)
    rw [e4] at nd
    have rll := rin4 r (by simp)
    have rnin : px o r ∉ done.map (px o) := fun z => by
      obtain ⟨q, hq, eq⟩ := List.mem_map.mp z
      have : q = r := px_inj ho (rin4 q (by simp [hq])) rll eq
      rw [this] at hq
      exact (List.nodup_append.mp nd).2.2 r hq r List.mem_cons_self rfl
    have dl : done.length ≤ sz cs := by
      rw [← rl, e4, List.length_append]; omega
    refine ⟨rfl, by show 11 < 13; decide, by show 12 < 13; decide, rfl, ?_⟩
    have er : rb (rsD ns (pm o mks)) ((done ++ [r]).map (px o)) = rb (rsD ns (pm o mks)) (done.map (px o)) ++ [(tN (px o r), rsD ns (pm o mks) (px o r))] := by
      unfold rb; rw [List.map_append, List.map_append]; rfl
    have hN4' := fun x11 x12 => hN4 _ ⟨x11, x12, rfl⟩
    rw [er, ← rq] at hN4'
    have ln : (rb (rsD ns (pm o mks)) (done.map (px o))).length < sizeLine := by rw [rb_len, List.length_map, zz]; omega
    have pt : putG (rb (rsD ns (pm o mks)) (done.map (px o))) (tN (px o r)) (rsD ns mks r) = rb (rsD ns (pm o mks)) (done.map (px o)) ++ [(tN (px o r), rsD ns mks r)] := rb_put rnin
    generalize rb (rsD ns (pm o mks)) (done.map (px o)) = DK at *
    dsimp only [t_revL, t_sortsetL, t_sortsetT, t_lrange, t_trange, t_keep, frzAll, frzO, t_lensetS, t_wany, seqY, t_wzipT, seqT, t_gd0, t_disp, t_pcons, t_pnil, t_retdbox, t_dictP, t_sortK, t_callB, t_dnew1, t_pop, t_lenset, t_wseq, t_wzip3, t_astar, t_par3, t_dnew, t_dlist, t_dput, t_dget2, t_din, t_lenScr, t_raise1, t_callX, t_callKX, t_xf, t_isx, runX, t_seq, t_if, t_or, t_and, t_not, t_tst, t_v, t_f, t_l, t_c, t_c1, t_op, t_chain', t_ret, t_asg, t_for, t_wenum, t_wlist, t_wtup, t_wstr, t_wrng1, t_wrng2, t_drop, g_setix, t_wzip, t_lname, t_name, t_next, t_ifx, t_isi, t_notV, t_andV, t_orV, t_call, t_callK, t_acons, t_aconsR, t_anil, t_tupd, t_lstd, g_name, g_tup, g_cons, g_nil, t_drop, t_lc, t_yes, t_star1, t_retn, t_par, t_slice, t_some, t_no, t_dict0, t_rev, t_neg, t_extend, t_append, t_sliceScr, t_retbox, t_xcons, LV.get, CS.at_, SV.view, datsOf, Option.map_some, List.getElem?_cons_zero, List.getElem?_cons_succ, List.set_cons_zero, List.set_cons_succ, settled, initC, List.map_cons, List.map_nil, List.length_cons, List.length_nil, List.cons_append, List.nil_append, seqOf, runD, t_wrng3, t_dzip, t_count, t_frz, t_lrange2, t_sortsetS, t_indexL, t_retdboxM, t_par4, t_par5, t_index, t_maxd1, t_ifT, t_insert, t_tindex, t_tcount, t_tryM, t_raise0, t_gput, g_gput, t_gget1, t_gget2, t_lzip, t_callFn, t_popAt, t_callLam, t_retM, t_retMp, t_meth, t_methS, t_make, t_cput, mvSV, lvM]
    refine ⟨⟨_, rfl⟩, ?_⟩
    refine lcD_M (fun n : Nat => PyData.int ((n : Nat) : Int)) (fun n => .int ((r.getD n 0 : Nat) : Int)) _ o (by rw [zz]; omega) (fun n hn K N6 hK => ?_) ?_
    · dsimp only [t_revL, t_sortsetL, t_sortsetT, t_lrange, t_trange, t_keep, frzAll, frzO, t_lensetS, t_wany, seqY, t_wzipT, seqT, t_gd0, t_disp, t_pcons, t_pnil, t_retdbox, t_dictP, t_sortK, t_callB, t_dnew1, t_pop, t_lenset, t_wseq, t_wzip3, t_astar, t_par3, t_dnew, t_dlist, t_dput, t_dget2, t_din, t_lenScr, t_raise1, t_callX, t_callKX, t_xf, t_isx, runX, t_seq, t_if, t_or, t_and, t_not, t_tst, t_v, t_f, t_l, t_c, t_c1, t_op, t_chain', t_ret, t_asg, t_for, t_wenum, t_wlist, t_wtup, t_wstr, t_wrng1, t_wrng2, t_drop, g_setix, t_wzip, t_lname, t_name, t_next, t_ifx, t_isi, t_notV, t_andV, t_orV, t_call, t_callK, t_acons, t_aconsR, t_anil, t_tupd, t_lstd, g_name, g_tup, g_cons, g_nil, t_drop, t_lc, t_yes, t_star1, t_retn, t_par, t_slice, t_some, t_no, t_dict0, t_rev, t_neg, t_extend, t_append, t_sliceScr, t_retbox, t_xcons, LV.get, CS.at_, SV.view, datsOf, Option.map_some, List.getElem?_cons_zero, List.getElem?_cons_succ, List.set_cons_zero, List.set_cons_succ, settled, initC, List.map_cons, List.map_nil, List.length_cons, List.length_nil, List.cons_append, List.nil_append, seqOf, runD, t_wrng3, t_dzip, t_count, t_frz, t_lrange2, t_sortsetS, t_indexL, t_retdboxM, t_par4, t_par5, t_index, t_maxd1, t_ifT, t_insert, t_tindex, t_tcount, t_tryM, t_raise0, t_gput, g_gput, t_gget1, t_gget2, t_lzip, t_callFn, t_popAt, t_callLam, t_retM, t_retMp, t_meth, t_methS, t_make, t_cput, mvSV, lvM, wipeC]
      exact ⟨by show 8 < 13; decide, iteT ⟨⟨_, rfl⟩, ⟨_, rfl⟩, ixG_tt (atI_iN (by rw [rll]; exact olt n hn)) hK⟩⟩
    have e1 : (o.map fun n => PyData.int ((r.getD n 0 : Nat) : Int)) = iN (px o r) := by unfold iN px; rw [List.map_map]; rfl
    rw [e1]
    dsimp only [t_revL, t_sortsetL, t_sortsetT, t_lrange, t_trange, t_keep, frzAll, frzO, t_lensetS, t_wany, seqY, t_wzipT, seqT, t_gd0, t_disp, t_pcons, t_pnil, t_retdbox, t_dictP, t_sortK, t_callB, t_dnew1, t_pop, t_lenset, t_wseq, t_wzip3, t_astar, t_par3, t_dnew, t_dlist, t_dput, t_dget2, t_din, t_lenScr, t_raise1, t_callX, t_callKX, t_xf, t_isx, runX, t_seq, t_if, t_or, t_and, t_not, t_tst, t_v, t_f, t_l, t_c, t_c1, t_op, t_chain', t_ret, t_asg, t_for, t_wenum, t_wlist, t_wtup, t_wstr, t_wrng1, t_wrng2, t_drop, g_setix, t_wzip, t_lname, t_name, t_next, t_ifx, t_isi, t_notV, t_andV, t_orV, t_call, t_callK, t_acons, t_aconsR, t_anil, t_tupd, t_lstd, g_name, g_tup, g_cons, g_nil, t_drop, t_lc, t_yes, t_star1, t_retn, t_par, t_slice, t_some, t_no, t_dict0, t_rev, t_neg, t_extend, t_append, t_sliceScr, t_retbox, t_xcons, LV.get, CS.at_, SV.view, datsOf, Option.map_some, List.getElem?_cons_zero, List.getElem?_cons_succ, List.set_cons_zero, List.set_cons_succ, settled, initC, List.map_cons, List.map_nil, List.length_cons, List.length_nil, List.cons_append, List.nil_append, seqOf, runD, t_wrng3, t_dzip, t_count, t_frz, t_lrange2, t_sortsetS, t_indexL, t_retdboxM, t_par4, t_par5, t_index, t_maxd1, t_ifT, t_insert, t_tindex, t_tcount, t_tryM, t_raise0, t_gput, g_gput, t_gget1, t_gget2, t_lzip, t_callFn, t_popAt, t_callLam, t_retM, t_retMp, t_meth, t_methS, t_make, t_cput, mvSV, lvM, tupleX, restC, wipeC]
    refine ⟨_, rfl, hash_st _, by omega, ?_⟩
    rw [show PyData.tuple (iN (px o r)) = tN (px o r) from rfl, pt]
    exact hN4' _ _
  rintro c ⟨x11, x12, rfl⟩
  dsimp only [t_revL, t_sortsetL, t_sortsetT, t_lrange, t_trange, t_keep, frzAll, frzO, t_lensetS, t_wany, seqY, t_wzipT, seqT, t_gd0, t_disp, t_pcons, t_pnil, t_retdbox, t_dictP, t_sortK, t_callB, t_dnew1, t_pop, t_lenset, t_wseq, t_wzip3, t_astar, t_par3, t_dnew, t_dlist, t_dput, t_dget2, t_din, t_lenScr, t_raise1, t_callX, t_callKX, t_xf, t_isx, runX, t_seq, t_if, t_or, t_and, t_not, t_tst, t_v, t_f, t_l, t_c, t_c1, t_op, t_chain', t_ret, t_asg, t_for, t_wenum, t_wlist, t_wtup, t_wstr, t_wrng1, t_wrng2, t_drop, g_setix, t_wzip, t_lname, t_name, t_next, t_ifx, t_isi, t_notV, t_andV, t_orV, t_call, t_callK, t_acons, t_aconsR, t_anil, t_tupd, t_lstd, g_name, g_tup, g_cons, g_nil, t_drop, t_lc, t_yes, t_star1, t_retn, t_par, t_slice, t_some, t_no, t_dict0, t_rev, t_neg, t_extend, t_append, t_sliceScr, t_retbox, t_xcons, LV.get, CS.at_, SV.view, datsOf, Option.map_some, List.getElem?_cons_zero, List.getElem?_cons_succ, List.set_cons_zero, List.set_cons_succ, settled, initC, List.map_cons, List.map_nil, List.length_cons, List.length_nil, List.cons_append, List.nil_append, seqOf, runD, t_wrng3, t_dzip, t_count, t_frz, t_lrange2, t_sortsetS, t_indexL, t_retdboxM, t_par4, t_par5, t_index, t_maxd1, t_ifT, t_insert, t_tindex, t_tcount, t_tryM, t_raise0, t_gput, g_gput, t_gget1, t_gget2, t_lzip, t_callFn, t_popAt, t_callLam, t_retM, t_retMp, t_meth, t_methS, t_make, t_cput, mvSV, lvM]
  refine ⟨⟨_, rfl⟩, tm9, ?_⟩
  refine lawstates_spec (by omega) (by omega) ?_
  show lcD _ _ _ _ _ ((rowsOf (px o cs)).map tN) _ _
  dsimp only [wipeC, List.set_cons_zero, List.set_cons_succ]
  refine lcD_M tN (rsD ns (pm o mks)) _ _ (by rw [rlx, zz]; omega) (fun s hs K N6 hK => ?_) ?_
  · dsimp only [t_revL, t_sortsetL, t_sortsetT, t_lrange, t_trange, t_keep, frzAll, frzO, t_lensetS, t_wany, seqY, t_wzipT, seqT, t_gd0, t_disp, t_pcons, t_pnil, t_retdbox, t_dictP, t_sortK, t_callB, t_dnew1, t_pop, t_lenset, t_wseq, t_wzip3, t_astar, t_par3, t_dnew, t_dlist, t_dput, t_dget2, t_din, t_lenScr, t_raise1, t_callX, t_callKX, t_xf, t_isx, runX, t_seq, t_if, t_or, t_and, t_not, t_tst, t_v, t_f, t_l, t_c, t_c1, t_op, t_chain', t_ret, t_asg, t_for, t_wenum, t_wlist, t_wtup, t_wstr, t_wrng1, t_wrng2, t_drop, g_setix, t_wzip, t_lname, t_name, t_next, t_ifx, t_isi, t_notV, t_andV, t_orV, t_call, t_callK, t_acons, t_aconsR, t_anil, t_tupd, t_lstd, g_name, g_tup, g_cons, g_nil, t_drop, t_lc, t_yes, t_star1, t_retn, t_par, t_slice, t_some, t_no, t_dict0, t_rev, t_neg, t_extend, t_append, t_sliceScr, t_retbox, t_xcons, LV.get, CS.at_, SV.view, datsOf, Option.map_some, List.getElem?_cons_zero, List.getElem?_cons_succ, List.set_cons_zero, List.set_cons_succ, settled, initC, List.map_cons, List.map_nil, List.length_cons, List.length_nil, List.cons_append, List.nil_append, seqOf, runD, t_wrng3, t_dzip, t_count, t_frz, t_lrange2, t_sortsetS, t_indexL, t_retdboxM, t_par4, t_par5, t_index, t_maxd1, t_ifT, t_insert, t_tindex, t_tcount, t_tryM, t_raise0, t_gput, g_gput, t_gget1, t_gget2, t_lzip, t_callFn, t_popAt, t_callLam, t_retM, t_retMp, t_meth, t_methS, t_make, t_cput, mvSV, lvM, wipeC]
    exact ⟨by show 11 < 13; decide, iteT ⟨⟨_, rfl⟩, ⟨_, rfl⟩, rb_ix (g := rsD ns (pm o mks)) (rin s hs) hK⟩⟩
  · dsimp only [t_revL, t_sortsetL, t_sortsetT, t_lrange, t_trange, t_keep, frzAll, frzO, t_lensetS, t_wany, seqY, t_wzipT, seqT, t_gd0, t_disp, t_pcons, t_pnil, t_retdbox, t_dictP, t_sortK, t_callB, t_dnew1, t_pop, t_lenset, t_wseq, t_wzip3, t_astar, t_par3, t_dnew, t_dlist, t_dput, t_dget2, t_din, t_lenScr, t_raise1, t_callX, t_callKX, t_xf, t_isx, runX, t_seq, t_if, t_or, t_and, t_not, t_tst, t_v, t_f, t_l, t_c, t_c1, t_op, t_chain', t_ret, t_asg, t_for, t_wenum, t_wlist, t_wtup, t_wstr, t_wrng1, t_wrng2, t_drop, g_setix, t_wzip, t_lname, t_name, t_next, t_ifx, t_isi, t_notV, t_andV, t_orV, t_call, t_callK, t_acons, t_aconsR, t_anil, t_tupd, t_lstd, g_name, g_tup, g_cons, g_nil, t_drop, t_lc, t_yes, t_star1, t_retn, t_par, t_slice, t_some, t_no, t_dict0, t_rev, t_neg, t_extend, t_append, t_sliceScr, t_retbox, t_xcons, LV.get, CS.at_, SV.view, datsOf, Option.map_some, List.getElem?_cons_zero, List.getElem?_cons_succ, List.set_cons_zero, List.set_cons_succ, settled, initC, List.map_cons, List.map_nil, List.length_cons, List.length_nil, List.cons_append, List.nil_append, seqOf, runD, t_wrng3, t_dzip, t_count, t_frz, t_lrange2, t_sortsetS, t_indexL, t_retdboxM, t_par4, t_par5, t_index, t_maxd1, t_ifT, t_insert, t_tindex, t_tcount, t_tryM, t_raise0, t_gput, g_gput, t_gget1, t_gget2, t_lzip, t_callFn, t_popAt, t_callLam, t_retM, t_retMp, t_meth, t_methS, t_make, t_cput, mvSV, lvM, tupleX]
    rw [← e9]
    exact ⟨tm9, eqZ_same h⟩
end Lk

namespace Lk
open PySem PySem.Spec PyProof.Rows L2 Cl Sums
open Cards (st sz rowsOf leL valA st_len st_le val_st st_val)
open Rms (Rg dc RS TB Wy K)
open scoped Classical
/-! ### the last table, room by room -/
abbrev G3 : Rg (List Nat) := RG [3] [[1], [2]]
theorem m3 : ∀ m ∈ [[1], [2]], ltL m [3] := fun m hm => by
  simp only [List.mem_cons, List.not_mem_nil, or_false] at hm
  rcases hm with rfl | rfl <;> exact ⟨by decide, True.intro⟩
theorem tb3 {r e : List Nat} (he : ltL e [3]) : TB G3 r e = PB [3] [[1], [2]] r 2 e := (PB_TB (ns := [3]) (mks := [[1], [2]]) (by decide) (by decide) m3 he).symm
theorem rs3 {r : List Nat} {a b s : Int} (h1 : TB G3 r [1] = a) (h2 : TB G3 r [2] = b) (h : 1 + min a b = s) : (RS G3 r : Int) = s := by
  have e1 : el [3] 1 = [1] := by decide
  have e2 : el [3] 2 = [2] := by decide
  have key : ∀ m : Int, (m = a ∨ m = b) → m ≤ a → m ≤ b → 1 + m = (RS G3 r : Int) := fun m hm ha hb => by
    refine RS_min (ns := [3]) (mks := [[1], [2]]) (by decide) (by decide) m3 ?_ fun i i1 i2 => ?_
    · rcases hm with e | e
      · exact ⟨1, by decide, by decide, by rw [e1, h1]; exact e⟩
      · exact ⟨2, by decide, by decide, by rw [e2, h2]; exact e⟩
    · have i2 : i < 3 := i2
      have : i = 1 ∨ i = 2 := by omega
      rcases this with rfl | rfl
      · rw [e1, h1]; exact ha
      · rw [e2, h2]; exact hb
  by_cases hab : a ≤ b
  · have := key a (.inl rfl) (Int.le_refl _) hab
    omega
  · have := key b (.inr rfl) (by omega) (Int.le_refl _)
    omega
structure T3 (r : List Nat) (a0 a1 a2 s : Int) : Prop where
  t0 : TB G3 r [0] = a0
  t1 : TB G3 r [1] = a1
  t2 : TB G3 r [2] = a2
  s : (RS G3 r : Int) = s
theorem b10 : bk [3] [1] [0] = [2] := by decide
theorem b11 : bk [3] [1] [1] = [0] := by decide
theorem b12 : bk [3] [1] [2] = [1] := by decide
theorem b20 : bk [3] [2] [0] = [1] := by decide
theorem b21 : bk [3] [2] [1] = [2] := by decide
theorem b22 : bk [3] [2] [2] = [0] := by decide
theorem pb3 (x y : Nat) (e : List Nat) : PB [3] [[1], [2]] [x, y] 2 e = if 0 < y then max (if 0 < x then max (-1) (cw [3] [[1], [2]] [x, y] 0 e) else -1) (cw [3] [[1], [2]] [x, y] 1 e) else (if 0 < x then max (-1) (cw [3] [[1], [2]] [x, y] 0 e) else -1) := rfl
theorem cw0 (x y : Nat) (e : List Nat) : cw [3] [[1], [2]] [x, y] 0 e = max (TB G3 [x - 1, y] (bk [3] [1] e)) (if e = [1] then (RS G3 [x - 1, y] : Int) else -1) := rfl
theorem cw1 (x y : Nat) (e : List Nat) : cw [3] [[1], [2]] [x, y] 1 e = max (TB G3 [x, y - 1] (bk [3] [2] e)) (if e = [2] then (RS G3 [x, y - 1] : Int) else -1) := rfl
theorem mk3 {r : List Nat} {a0 a1 a2 s : Int} (h0 : PB [3] [[1], [2]] r 2 [0] = a0) (h1 : PB [3] [[1], [2]] r 2 [1] = a1) (h2 : PB [3] [[1], [2]] r 2 [2] = a2) (h : 1 + min a1 a2 = s) : T3 r a0 a1 a2 s := by
  have e0 := (tb3 (r := r) (e := [0]) ⟨by decide, True.intro⟩).trans h0
  have e1 := (tb3 (r := r) (e := [1]) ⟨by decide, True.intro⟩).trans h1
  have e2 := (tb3 (r := r) (e := [2]) ⟨by decide, True.intro⟩).trans h2
  exact ⟨e0, e1, e2, rs3 e1 e2 h⟩
theorem t00 : T3 [0, 0] (-1) (-1) (-1) 0 := mk3 (by rw [pb3]; rfl) (by rw [pb3]; rfl) (by rw [pb3]; rfl) (by decide)
theorem t01 : T3 [0, 1] (-1) (-1) 0 0 := mk3
  (by rw [pb3, cw1, b20]; simp only [t00.t1, t00.s]; decide) (by rw [pb3, cw1, b21]; simp only [t00.t2, t00.s]; decide) (by rw [pb3, cw1, b22]; simp only [t00.t0, t00.s]; decide) (by decide)
theorem t10 : T3 [1, 0] (-1) 0 (-1) 0 := mk3
  (by rw [pb3, cw0, b10]; simp only [t00.t2, t00.s]; decide) (by rw [pb3, cw0, b11]; simp only [t00.t0, t00.s]; decide) (by rw [pb3, cw0, b12]; simp only [t00.t1, t00.s]; decide) (by decide)
theorem t11 : T3 [1, 1] 0 0 0 1 := mk3
  (by rw [pb3, cw0, cw1, b10, b20]; simp only [t01.t2, t01.s, t10.t1, t10.s]; decide) (by rw [pb3, cw0, cw1, b11, b21]; simp only [t01.t0, t01.s, t10.t2, t10.s]; decide) (by rw [pb3, cw0, cw1, b12, b22]; simp only [t01.t1, t01.s, t10.t0, t10.s]; decide) (by decide)
theorem t20 : T3 [2, 0] (-1) 0 0 1 := mk3
  (by rw [pb3, cw0, b10]; simp only [t10.t2, t10.s]; decide) (by rw [pb3, cw0, b11]; simp only [t10.t0, t10.s]; decide) (by rw [pb3, cw0, b12]; simp only [t10.t1, t10.s]; decide) (by decide)
theorem t21 : T3 [2, 1] 0 1 1 2 := mk3
  (by rw [pb3, cw0, cw1, b10, b20]; simp only [t11.t2, t11.s, t20.t1, t20.s]; decide) (by rw [pb3, cw0, cw1, b11, b21]; simp only [t11.t0, t11.s, t20.t2, t20.s]; decide) (by rw [pb3, cw0, cw1, b12, b22]; simp only [t11.t1, t11.s, t20.t0, t20.s]; decide) (by decide)
theorem end_tell : SDl [3] [[1], [2]] [2, 1] = [.int 0, .int 0, .int 0, .int 1, .int 1, .int 2] := by
  have er : rowsOf [2, 1] = [[0, 0], [0, 1], [1, 0], [1, 1], [2, 0], [2, 1]] := by decide
  unfold SDl
  rw [er]
  show [PyData.int (RS G3 [0, 0] : Nat), .int (RS G3 [0, 1] : Nat), .int (RS G3 [1, 0] : Nat), .int (RS G3 [1, 1] : Nat), .int (RS G3 [2, 0] : Nat), .int (RS G3 [2, 1] : Nat)] = _
  rw [t00.s, t01.s, t10.s, t11.s, t20.s, t21.s]
end Lk

namespace Lk
open PySem PySem.Spec PyProof.Rows L2 Cl Sums
open Cards (st sz rowsOf leL valA st_len st_le val_st st_val)
open Rms (Rg dc RS TB Wy K)
open scoped Classical
theorem SDl_same {ns ns' : List Nat} {mks mks' : List (List Nat)} {cs : List Nat} (h : ∀ r, RS (RG ns mks) r = RS (RG ns' mks') r) : SDl ns' mks' cs = SDl ns mks cs := by
  unfold SDl rsD
  refine List.map_congr_left fun r _ => ?_
  show PyData.int _ = PyData.int _
  rw [h r]
theorem pr_ge : ∀ {ns : List Nat}, 1 ≤ ns.length → (∀ m ∈ ns, 2 ≤ m) → 2 ≤ pr ns
  | m :: ns, _, h => by
    have a := h m List.mem_cons_self
    have b : 1 ≤ pr ns := pr_pos fun x hx => by have := h x (List.mem_cons_of_mem _ hx); omega
    show 2 ≤ m * pr ns
    exact Nat.mul_le_mul a b
theorem SDl_zero {ns cs : List Nat} {n : Nat} (g : Rms.Gd (RG ns (List.replicate n (zr ns.length)))) (hp : ∀ m ∈ ns, 1 ≤ m) : SDl ns (List.replicate n (zr ns.length)) cs = List.replicate (sz cs) (.int 0) := by
  refine List.eq_replicate_iff.mpr ⟨SDl_len, fun d hd => ?_⟩
  obtain ⟨r, _, rfl⟩ := List.mem_map.mp hd
  have e := Rms.RS_zero g (fun c hc => by
    have hc : c < (List.replicate n (zr ns.length)).length := hc
    show (List.replicate n (zr ns.length)).getD c [] = zr ns.length
    rw [List.getD_eq_getElem?_getD, List.getElem?_eq_getElem hc, List.getElem_replicate]; rfl) (add3_zero (zr_lt hp)) r
  unfold rsD
  rw [e]
  rfl
theorem SDl_bd {ns cs : List Nat} {mks : List (List Nat)} (hc : Crd cs) (g : Rms.Gd (RG ns mks)) : shOk (.list [.tuple (SDl ns mks cs), .tuple (SDl ns mks cs), .tuple (SDl ns mks cs)]) :=
  (Tm.lstOf (ds := [.tuple (SDl ns mks cs), .tuple (SDl ns mks cs), .tuple (SDl ns mks cs)]) (n := 3) (W := 5632) (D := 1) (fun d hd => by
    simp only [List.mem_cons, List.not_mem_nil, or_false] at hd
    rcases hd with rfl | rfl | rfl <;> exact tm_SD hc g) (by simp)).ok
set_option maxHeartbeats 6400000 in
theorem law_spec (ns0 : List Int) {Q : SV → Prop} (h : Q (.dat (.bool true))) : C_law [.scr ns0] Q := by
  refine ⟨rfl, ?_⟩
  have zz : sizeLine = 16777216 := sizeLine_eq
  show T_law _ [some (.scr ns0), none, none, none, none, none, none, none, none, none, none, none, none, none, none]
  refine seq_step (fun c => c = [some (.scr ns0), some (.raw 1), none, none, none, none, none, none, none, none, none, none, none, none, none]) (fun N hN => ?_) ?_
  · dsimp only [t_revL, t_sortsetL, t_sortsetT, t_lrange, t_trange, t_keep, frzAll, frzO, t_lensetS, t_wany, seqY, t_wzipT, seqT, t_gd0, t_disp, t_pcons, t_pnil, t_retdbox, t_dictP, t_sortK, t_callB, t_dnew1, t_pop, t_lenset, t_wseq, t_wzip3, t_astar, t_par3, t_dnew, t_dlist, t_dput, t_dget2, t_din, t_lenScr, t_raise1, t_callX, t_callKX, t_xf, t_isx, runX, t_seq, t_if, t_or, t_and, t_not, t_tst, t_v, t_f, t_l, t_c, t_c1, t_op, t_chain', t_ret, t_asg, t_for, t_wenum, t_wlist, t_wtup, t_wstr, t_wrng1, t_wrng2, t_drop, g_setix, t_wzip, t_lname, t_name, t_next, t_ifx, t_isi, t_notV, t_andV, t_orV, t_call, t_callK, t_acons, t_aconsR, t_anil, t_tupd, t_lstd, g_name, g_tup, g_cons, g_nil, t_drop, t_lc, t_yes, t_star1, t_retn, t_par, t_slice, t_some, t_no, t_dict0, t_rev, t_neg, t_extend, t_append, t_sliceScr, t_retbox, t_xcons, LV.get, CS.at_, SV.view, datsOf, Option.map_some, List.getElem?_cons_zero, List.getElem?_cons_succ, List.set_cons_zero, List.set_cons_succ, settled, initC, List.map_cons, List.map_nil, List.length_cons, List.length_nil, List.cons_append, List.nil_append, seqOf, runD, t_wrng3, t_dzip, t_count, t_frz, t_lrange2, t_sortsetS, t_indexL, t_retdboxM, t_par4, t_par5, t_index, t_maxd1, t_ifT, t_insert, t_tindex, t_tcount, t_tryM, t_raise0, t_gput, g_gput, t_gget1, t_gget2, t_lzip, t_callFn, t_popAt, t_callLam, t_retM, t_retMp, t_meth, t_methS, t_make, t_cput, mvSV, lvM]
    exact ⟨rfl, stock_spec ns0 ⟨by show 1 < 15; decide, hN _ rfl⟩⟩
  rintro c rfl
  refine seq_step (fun c => ∃ x2 x3 x4 x5 x7 x8 x9 x11 x12 x13 x14, c = [some (.scr ns0), some (.raw 1), x2, x3, x4, x5, none, x7, x8, x9, none, x11, x12, x13, x14]) (fun N hN => ?_) ?_
  · dsimp only [t_for, t_wrng1, t_acons, t_c, t_anil]
    refine ⟨by decide, by decide, ?_⟩
    show forD _ _ _ ([0, 1, 2].map fun i : Nat => PyData.int ((i : Nat) : Int)) _
    refine forD_A (fun i : Nat => PyData.int ((i : Nat) : Int)) (fun _ c => ∃ x2 x3 x4 x5 x7 x8 x9 x11 x12 x13 x14, c = [some (.scr ns0), some (.raw 1), x2, x3, x4, x5, none, x7, x8, x9, none, x11, x12, x13, x14]) [0, 1, 2] ?_ ?_ ⟨none, none, none, none, none, none, none, none, none, none, none, rfl⟩
    · rintro c ⟨x2, x3, x4, x5, x7, x8, x9, x11, x12, x13, x14, rfl⟩
      exact hN _ ⟨x2, x3, x4, x5, x7, x8, x9, x11, x12, x13, x14, rfl⟩
    rintro done i todo c N2 e hN2 ⟨x2, x3, x4, x5, x7, x8, x9, x11, x12, x13, x14, rfl⟩
    refine ⟨by show 2 < 15; decide, ?_⟩
    have hN2' : ∀ x2 x3 x4 x5 x7 x8 x9 x11 x12 x13 x14, N2 [some (.scr ns0), some (.raw 1), x2, x3, x4, x5, none, x7, x8, x9, none, x11, x12, x13, x14] := fun x2 x3 x4 x5 x7 x8 x9 x11 x12 x13 x14 => hN2 _ ⟨x2, x3, x4, x5, x7, x8, x9, x11, x12, x13, x14, rfl⟩
    refine seq_step (fun c => ∃ gs, Gp gs ∧ (∀ m ∈ gs, 2 ≤ m) ∧ c = [some (.scr ns0), some (.raw 1), some (.dat (.int (i : Nat))), some (.dat (tN gs)), x4, x5, none, x7, x8, x9, none, x11, x12, x13, x14]) (fun N3 hN3 => ?_) ?_
    · dsimp only [t_revL, t_sortsetL, t_sortsetT, t_lrange, t_trange, t_keep, frzAll, frzO, t_lensetS, t_wany, seqY, t_wzipT, seqT, t_gd0, t_disp, t_pcons, t_pnil, t_retdbox, t_dictP, t_sortK, t_callB, t_dnew1, t_pop, t_lenset, t_wseq, t_wzip3, t_astar, t_par3, t_dnew, t_dlist, t_dput, t_dget2, t_din, t_lenScr, t_raise1, t_callX, t_callKX, t_xf, t_isx, runX, t_seq, t_if, t_or, t_and, t_not, t_tst, t_v, t_f, t_l, t_c, t_c1, t_op, t_chain', t_ret, t_asg, t_for, t_wenum, t_wlist, t_wtup, t_wstr, t_wrng1, t_wrng2, t_drop, g_setix, t_wzip, t_lname, t_name, t_next, t_ifx, t_isi, t_notV, t_andV, t_orV, t_call, t_callK, t_acons, t_aconsR, t_anil, t_tupd, t_lstd, g_name, g_tup, g_cons, g_nil, t_drop, t_lc, t_yes, t_star1, t_retn, t_par, t_slice, t_some, t_no, t_dict0, t_rev, t_neg, t_extend, t_append, t_sliceScr, t_retbox, t_xcons, LV.get, CS.at_, SV.view, datsOf, Option.map_some, List.getElem?_cons_zero, List.getElem?_cons_succ, List.set_cons_zero, List.set_cons_succ, settled, initC, List.map_cons, List.map_nil, List.length_cons, List.length_nil, List.cons_append, List.nil_append, seqOf, runD, t_wrng3, t_dzip, t_count, t_frz, t_lrange2, t_sortsetS, t_indexL, t_retdboxM, t_par4, t_par5, t_index, t_maxd1, t_ifT, t_insert, t_tindex, t_tcount, t_tryM, t_raise0, t_gput, g_gput, t_gget1, t_gget2, t_lzip, t_callFn, t_popAt, t_callLam, t_retM, t_retMp, t_meth, t_methS, t_make, t_cput, mvSV, lvM]
      exact ⟨rfl, group_spec fun gs a b => ⟨by show 3 < 15; decide, hN3 _ ⟨gs, a, b, rfl⟩⟩⟩
    rintro c ⟨gs, hg, hm2, rfl⟩
    have h2 := pr_ge hg.l1 hm2
    have l3 := hg.l3
    refine seq_step (fun c => ∃ cs, Cd 24 cs ∧ c = [some (.scr ns0), some (.raw 1), some (.dat (.int (i : Nat))), some (.dat (tN gs)), some (.dat (tN cs)), x5, none, x7, x8, x9, none, x11, x12, x13, x14]) (fun N3 hN3 => ?_) ?_
    · dsimp only [t_revL, t_sortsetL, t_sortsetT, t_lrange, t_trange, t_keep, frzAll, frzO, t_lensetS, t_wany, seqY, t_wzipT, seqT, t_gd0, t_disp, t_pcons, t_pnil, t_retdbox, t_dictP, t_sortK, t_callB, t_dnew1, t_pop, t_lenset, t_wseq, t_wzip3, t_astar, t_par3, t_dnew, t_dlist, t_dput, t_dget2, t_din, t_lenScr, t_raise1, t_callX, t_callKX, t_xf, t_isx, runX, t_seq, t_if, t_or, t_and, t_not, t_tst, t_v, t_f, t_l, t_c, t_c1, t_op, t_chain', t_ret, t_asg, t_for, t_wenum, t_wlist, t_wtup, t_wstr, t_wrng1, t_wrng2, t_drop, g_setix, t_wzip, t_lname, t_name, t_next, t_ifx, t_isi, t_notV, t_andV, t_orV, t_call, t_callK, t_acons, t_aconsR, t_anil, t_tupd, t_lstd, g_name, g_tup, g_cons, g_nil, t_drop, t_lc, t_yes, t_star1, t_retn, t_par, t_slice, t_some, t_no, t_dict0, t_rev, t_neg, t_extend, t_append, t_sliceScr, t_retbox, t_xcons, LV.get, CS.at_, SV.view, datsOf, Option.map_some, List.getElem?_cons_zero, List.getElem?_cons_succ, List.set_cons_zero, List.set_cons_succ, settled, initC, List.map_cons, List.map_nil, List.length_cons, List.length_nil, List.cons_append, List.nil_append, seqOf, runD, t_wrng3, t_dzip, t_count, t_frz, t_lrange2, t_sortsetS, t_indexL, t_retdboxM, t_par4, t_par5, t_index, t_maxd1, t_ifT, t_insert, t_tindex, t_tcount, t_tryM, t_raise0, t_gput, g_gput, t_gget1, t_gget2, t_lzip, t_callFn, t_popAt, t_callLam, t_retM, t_retMp, t_meth, t_methS, t_make, t_cput, mvSV, lvM]
      exact ⟨rfl, card_spec (m := 24) (by decide) (by decide) fun cs hc => ⟨by show 4 < 15; decide, hN3 _ ⟨cs, hc, rfl⟩⟩⟩
    rintro c ⟨cs, hcd, rfl⟩
    have hc := hcd.crd (by decide)
    have hs := hcd.sz
    have hl := hcd.len
    have ho1 := hcd.one
    have sp := Cards.sz_pos cs
    refine seq_step (fun c => ∃ mks : List (List Nat), mks.length = cs.length ∧ (∀ m ∈ mks, ltL m gs) ∧ c = [some (.scr ns0), some (.raw 1), some (.dat (.int (i : Nat))), some (.dat (tN gs)), some (.dat (tN cs)), some (.dat (.tuple (tL mks))), none, x7, x8, x9, none, x11, x12, x13, x14]) (fun N3 hN3 => ?_) ?_
    · dsimp only [t_revL, t_sortsetL, t_sortsetT, t_lrange, t_trange, t_keep, frzAll, frzO, t_lensetS, t_wany, seqY, t_wzipT, seqT, t_gd0, t_disp, t_pcons, t_pnil, t_retdbox, t_dictP, t_sortK, t_callB, t_dnew1, t_pop, t_lenset, t_wseq, t_wzip3, t_astar, t_par3, t_dnew, t_dlist, t_dput, t_dget2, t_din, t_lenScr, t_raise1, t_callX, t_callKX, t_xf, t_isx, runX, t_seq, t_if, t_or, t_and, t_not, t_tst, t_v, t_f, t_l, t_c, t_c1, t_op, t_chain', t_ret, t_asg, t_for, t_wenum, t_wlist, t_wtup, t_wstr, t_wrng1, t_wrng2, t_drop, g_setix, t_wzip, t_lname, t_name, t_next, t_ifx, t_isi, t_notV, t_andV, t_orV, t_call, t_callK, t_acons, t_aconsR, t_anil, t_tupd, t_lstd, g_name, g_tup, g_cons, g_nil, t_drop, t_lc, t_yes, t_star1, t_retn, t_par, t_slice, t_some, t_no, t_dict0, t_rev, t_neg, t_extend, t_append, t_sliceScr, t_retbox, t_xcons, LV.get, CS.at_, SV.view, datsOf, Option.map_some, List.getElem?_cons_zero, List.getElem?_cons_succ, List.set_cons_zero, List.set_cons_succ, settled, initC, List.map_cons, List.map_nil, List.length_cons, List.length_nil, List.cons_append, List.nil_append, seqOf, runD, t_wrng3, t_dzip, t_count, t_frz, t_lrange2, t_sortsetS, t_indexL, t_retdboxM, t_par4, t_par5, t_index, t_maxd1, t_ifT, t_insert, t_tindex, t_tcount, t_tryM, t_raise0, t_gput, g_gput, t_gget1, t_gget2, t_lzip, t_callFn, t_popAt, t_callLam, t_retM, t_retMp, t_meth, t_methS, t_make, t_cput, mvSV, lvM]
      refine lcD_R (xs := cs) (acc := []) (fun (n : Nat) => PyData.int (n : Nat)) tN (fun _ y => ltL y gs) _ (by rw [zz]; show 0 + _ ≤ _; omega) (fun m hm K hK => ?_) fun ys hy => ?_
      · dsimp only [t_revL, t_sortsetL, t_sortsetT, t_lrange, t_trange, t_keep, frzAll, frzO, t_lensetS, t_wany, seqY, t_wzipT, seqT, t_gd0, t_disp, t_pcons, t_pnil, t_retdbox, t_dictP, t_sortK, t_callB, t_dnew1, t_pop, t_lenset, t_wseq, t_wzip3, t_astar, t_par3, t_dnew, t_dlist, t_dput, t_dget2, t_din, t_lenScr, t_raise1, t_callX, t_callKX, t_xf, t_isx, runX, t_seq, t_if, t_or, t_and, t_not, t_tst, t_v, t_f, t_l, t_c, t_c1, t_op, t_chain', t_ret, t_asg, t_for, t_wenum, t_wlist, t_wtup, t_wstr, t_wrng1, t_wrng2, t_drop, g_setix, t_wzip, t_lname, t_name, t_next, t_ifx, t_isi, t_notV, t_andV, t_orV, t_call, t_callK, t_acons, t_aconsR, t_anil, t_tupd, t_lstd, g_name, g_tup, g_cons, g_nil, t_drop, t_lc, t_yes, t_star1, t_retn, t_par, t_slice, t_some, t_no, t_dict0, t_rev, t_neg, t_extend, t_append, t_sliceScr, t_retbox, t_xcons, LV.get, CS.at_, SV.view, datsOf, Option.map_some, List.getElem?_cons_zero, List.getElem?_cons_succ, List.set_cons_zero, List.set_cons_succ, settled, initC, List.map_cons, List.map_nil, List.length_cons, List.length_nil, List.cons_append, List.nil_append, seqOf, runD, t_wrng3, t_dzip, t_count, t_frz, t_lrange2, t_sortsetS, t_indexL, t_retdboxM, t_par4, t_par5, t_index, t_maxd1, t_ifT, t_insert, t_tindex, t_tcount, t_tryM, t_raise0, t_gput, g_gput, t_gget1, t_gget2, t_lzip, t_callFn, t_popAt, t_callLam, t_retM, t_retMp, t_meth, t_methS, t_make, t_cput, mvSV, lvM, wipeC]
        exact ⟨by show 6 < 15; decide, rfl, element_spec hg fun e he => hK e he⟩
      · rw [List.nil_append]
        obtain ⟨a, b⟩ := al_marks hy
        exact ⟨by show 5 < 15; decide, hN3 _ ⟨ys, a, b, rfl⟩⟩
    rintro c ⟨mks, lm, hm, rfl⟩
    have g := rg_gd hg.b h2 hm
    refine seq_step (fun c => c = [some (.scr ns0), some (.raw 1), some (.dat (.int (i : Nat))), some (.dat (tN gs)), some (.dat (tN cs)), some (.dat (.tuple (tL mks))), none, some (.dat (.tuple (SDl gs mks cs))), x8, x9, none, x11, x12, x13, x14]) (fun N3 hN3 => ?_) ?_
    · dsimp only [t_revL, t_sortsetL, t_sortsetT, t_lrange, t_trange, t_keep, frzAll, frzO, t_lensetS, t_wany, seqY, t_wzipT, seqT, t_gd0, t_disp, t_pcons, t_pnil, t_retdbox, t_dictP, t_sortK, t_callB, t_dnew1, t_pop, t_lenset, t_wseq, t_wzip3, t_astar, t_par3, t_dnew, t_dlist, t_dput, t_dget2, t_din, t_lenScr, t_raise1, t_callX, t_callKX, t_xf, t_isx, runX, t_seq, t_if, t_or, t_and, t_not, t_tst, t_v, t_f, t_l, t_c, t_c1, t_op, t_chain', t_ret, t_asg, t_for, t_wenum, t_wlist, t_wtup, t_wstr, t_wrng1, t_wrng2, t_drop, g_setix, t_wzip, t_lname, t_name, t_next, t_ifx, t_isi, t_notV, t_andV, t_orV, t_call, t_callK, t_acons, t_aconsR, t_anil, t_tupd, t_lstd, g_name, g_tup, g_cons, g_nil, t_drop, t_lc, t_yes, t_star1, t_retn, t_par, t_slice, t_some, t_no, t_dict0, t_rev, t_neg, t_extend, t_append, t_sliceScr, t_retbox, t_xcons, LV.get, CS.at_, SV.view, datsOf, Option.map_some, List.getElem?_cons_zero, List.getElem?_cons_succ, List.set_cons_zero, List.set_cons_succ, settled, initC, List.map_cons, List.map_nil, List.length_cons, List.length_nil, List.cons_append, List.nil_append, seqOf, runD, t_wrng3, t_dzip, t_count, t_frz, t_lrange2, t_sortsetS, t_indexL, t_retdboxM, t_par4, t_par5, t_index, t_maxd1, t_ifT, t_insert, t_tindex, t_tcount, t_tryM, t_raise0, t_gput, g_gput, t_gget1, t_gget2, t_lzip, t_callFn, t_popAt, t_callLam, t_retM, t_retMp, t_meth, t_methS, t_make, t_cput, mvSV, lvM]
      exact rooms_spec hc hg h2 hm lm ⟨by show 7 < 15; decide, hN3 _ rfl⟩
    rintro c rfl
    have l7 := SDl_len (ns := gs) (mks := mks) (cs := cs)
    have car : ∀ {Q : SV → Prop}, Q (.dat (.bool true)) → C__law_is_carried [.raw 1, .dat (tN cs), .dat (tN gs), .dat (.tuple (tL mks)), .dat (.tuple (SDl gs mks cs))] Q := fun {Q} q => is_carried_spec hc (by omega) hg h2 hm lm q
    have ok3 := SDl_bd hc g
    obtain ⟨D7, hD7⟩ : ∃ D, D = SDl gs mks cs := ⟨_, rfl⟩
    rw [← hD7] at l7 car ok3 ⊢
    refine seq_step (fun c => c = [some (.scr ns0), some (.raw 1), some (.dat (.int (i : Nat))), some (.dat (tN gs)), some (.dat (tN cs)), some (.dat (.tuple (tL mks))), none, some (.dat (.tuple D7)), x8, x9, none, x11, x12, x13, x14]) (fun N3 hN3 => ?_) ?_
    · refine if_not (fun K hK => ?_) (hN3 _ rfl)
      dsimp only [t_revL, t_sortsetL, t_sortsetT, t_lrange, t_trange, t_keep, frzAll, frzO, t_lensetS, t_wany, seqY, t_wzipT, seqT, t_gd0, t_disp, t_pcons, t_pnil, t_retdbox, t_dictP, t_sortK, t_callB, t_dnew1, t_pop, t_lenset, t_wseq, t_wzip3, t_astar, t_par3, t_dnew, t_dlist, t_dput, t_dget2, t_din, t_lenScr, t_raise1, t_callX, t_callKX, t_xf, t_isx, runX, t_seq, t_if, t_or, t_and, t_not, t_tst, t_v, t_f, t_l, t_c, t_c1, t_op, t_chain', t_ret, t_asg, t_for, t_wenum, t_wlist, t_wtup, t_wstr, t_wrng1, t_wrng2, t_drop, g_setix, t_wzip, t_lname, t_name, t_next, t_ifx, t_isi, t_notV, t_andV, t_orV, t_call, t_callK, t_acons, t_aconsR, t_anil, t_tupd, t_lstd, g_name, g_tup, g_cons, g_nil, t_drop, t_lc, t_yes, t_star1, t_retn, t_par, t_slice, t_some, t_no, t_dict0, t_rev, t_neg, t_extend, t_append, t_sliceScr, t_retbox, t_xcons, LV.get, CS.at_, SV.view, datsOf, Option.map_some, List.getElem?_cons_zero, List.getElem?_cons_succ, List.set_cons_zero, List.set_cons_succ, settled, initC, List.map_cons, List.map_nil, List.length_cons, List.length_nil, List.cons_append, List.nil_append, seqOf, runD, t_wrng3, t_dzip, t_count, t_frz, t_lrange2, t_sortsetS, t_indexL, t_retdboxM, t_par4, t_par5, t_index, t_maxd1, t_ifT, t_insert, t_tindex, t_tcount, t_tryM, t_raise0, t_gput, g_gput, t_gget1, t_gget2, t_lzip, t_callFn, t_popAt, t_callLam, t_retM, t_retMp, t_meth, t_methS, t_make, t_cput, mvSV, lvM]
      refine ⟨⟨_, rfl⟩, iteF ⟨⟨_, rfl⟩, lenY_tt (lawstates_spec (by omega) (by omega) (lenY_ll (neZ_int ?_)))⟩⟩
      rw [l7, List.length_map, Cards.rows_len, decide_eq_true rfl]
      exact hK
    rintro c rfl
    refine seq_step (fun c => c = [some (.scr ns0), some (.raw 1), some (.dat (.int (i : Nat))), some (.dat (tN gs)), some (.dat (tN cs)), some (.dat (.tuple (tL mks))), none, some (.dat (.tuple D7)), x8, x9, none, x11, x12, x13, x14]) (fun N3 hN3 => ?_) ?_
    · refine if_not (fun K hK => ?_) (hN3 _ rfl)
      dsimp only [t_revL, t_sortsetL, t_sortsetT, t_lrange, t_trange, t_keep, frzAll, frzO, t_lensetS, t_wany, seqY, t_wzipT, seqT, t_gd0, t_disp, t_pcons, t_pnil, t_retdbox, t_dictP, t_sortK, t_callB, t_dnew1, t_pop, t_lenset, t_wseq, t_wzip3, t_astar, t_par3, t_dnew, t_dlist, t_dput, t_dget2, t_din, t_lenScr, t_raise1, t_callX, t_callKX, t_xf, t_isx, runX, t_seq, t_if, t_or, t_and, t_not, t_tst, t_v, t_f, t_l, t_c, t_c1, t_op, t_chain', t_ret, t_asg, t_for, t_wenum, t_wlist, t_wtup, t_wstr, t_wrng1, t_wrng2, t_drop, g_setix, t_wzip, t_lname, t_name, t_next, t_ifx, t_isi, t_notV, t_andV, t_orV, t_call, t_callK, t_acons, t_aconsR, t_anil, t_tupd, t_lstd, g_name, g_tup, g_cons, g_nil, t_drop, t_lc, t_yes, t_star1, t_retn, t_par, t_slice, t_some, t_no, t_dict0, t_rev, t_neg, t_extend, t_append, t_sliceScr, t_retbox, t_xcons, LV.get, CS.at_, SV.view, datsOf, Option.map_some, List.getElem?_cons_zero, List.getElem?_cons_succ, List.set_cons_zero, List.set_cons_succ, settled, initC, List.map_cons, List.map_nil, List.length_cons, List.length_nil, List.cons_append, List.nil_append, seqOf, runD, t_wrng3, t_dzip, t_count, t_frz, t_lrange2, t_sortsetS, t_indexL, t_retdboxM, t_par4, t_par5, t_index, t_maxd1, t_ifT, t_insert, t_tindex, t_tcount, t_tryM, t_raise0, t_gput, g_gput, t_gget1, t_gget2, t_lzip, t_callFn, t_popAt, t_callLam, t_retM, t_retMp, t_meth, t_methS, t_make, t_cput, mvSV, lvM]
      exact ⟨rfl, car hK⟩
    rintro c rfl
    refine seq_step (fun c => ∃ o, o.Perm (List.range gs.length) ∧ c = [some (.scr ns0), some (.raw 1), some (.dat (.int (i : Nat))), some (.dat (tN gs)), some (.dat (tN cs)), some (.dat (.tuple (tL mks))), none, some (.dat (.tuple D7)), some (.own (iN o)), x9, none, x11, x12, x13, x14]) (fun N3 hN3 => ?_) ?_
    · dsimp only [t_revL, t_sortsetL, t_sortsetT, t_lrange, t_trange, t_keep, frzAll, frzO, t_lensetS, t_wany, seqY, t_wzipT, seqT, t_gd0, t_disp, t_pcons, t_pnil, t_retdbox, t_dictP, t_sortK, t_callB, t_dnew1, t_pop, t_lenset, t_wseq, t_wzip3, t_astar, t_par3, t_dnew, t_dlist, t_dput, t_dget2, t_din, t_lenScr, t_raise1, t_callX, t_callKX, t_xf, t_isx, runX, t_seq, t_if, t_or, t_and, t_not, t_tst, t_v, t_f, t_l, t_c, t_c1, t_op, t_chain', t_ret, t_asg, t_for, t_wenum, t_wlist, t_wtup, t_wstr, t_wrng1, t_wrng2, t_drop, g_setix, t_wzip, t_lname, t_name, t_next, t_ifx, t_isi, t_notV, t_andV, t_orV, t_call, t_callK, t_acons, t_aconsR, t_anil, t_tupd, t_lstd, g_name, g_tup, g_cons, g_nil, t_drop, t_lc, t_yes, t_star1, t_retn, t_par, t_slice, t_some, t_no, t_dict0, t_rev, t_neg, t_extend, t_append, t_sliceScr, t_retbox, t_xcons, LV.get, CS.at_, SV.view, datsOf, Option.map_some, List.getElem?_cons_zero, List.getElem?_cons_succ, List.set_cons_zero, List.set_cons_succ, settled, initC, List.map_cons, List.map_nil, List.length_cons, List.length_nil, List.cons_append, List.nil_append, seqOf, runD, t_wrng3, t_dzip, t_count, t_frz, t_lrange2, t_sortsetS, t_indexL, t_retdboxM, t_par4, t_par5, t_index, t_maxd1, t_ifT, t_insert, t_tindex, t_tcount, t_tryM, t_raise0, t_gput, g_gput, t_gget1, t_gget2, t_lzip, t_callFn, t_popAt, t_callLam, t_retM, t_retMp, t_meth, t_methS, t_make, t_cput, mvSV, lvM]
      refine ⟨rfl, ⟨_, rfl⟩, lenY_tt ?_⟩
      rw [iN_len]
      exact turned_spec (by omega) fun o ho => ⟨by show 8 < 15; decide, hN3 _ ⟨o, ho, rfl⟩⟩
    rintro c ⟨o, ho, rfl⟩
    have ol := o_len ho
    have olt : ∀ k ∈ o, k < gs.length := fun k hk => List.mem_range.mp (ho.mem_iff.mp hk)
    refine seq_step (fun c => c = [some (.scr ns0), some (.raw 1), some (.dat (.int (i : Nat))), some (.dat (tN gs)), some (.dat (tN cs)), some (.dat (.tuple (tL mks))), none, some (.dat (.tuple D7)), some (.dat (.list (iN o))), some (.dat (tN (px o gs))), none, x11, x12, x13, x14]) (fun N3 hN3 => ?_) ?_
    · dsimp only [t_revL, t_sortsetL, t_sortsetT, t_lrange, t_trange, t_keep, frzAll, frzO, t_lensetS, t_wany, seqY, t_wzipT, seqT, t_gd0, t_disp, t_pcons, t_pnil, t_retdbox, t_dictP, t_sortK, t_callB, t_dnew1, t_pop, t_lenset, t_wseq, t_wzip3, t_astar, t_par3, t_dnew, t_dlist, t_dput, t_dget2, t_din, t_lenScr, t_raise1, t_callX, t_callKX, t_xf, t_isx, runX, t_seq, t_if, t_or, t_and, t_not, t_tst, t_v, t_f, t_l, t_c, t_c1, t_op, t_chain', t_ret, t_asg, t_for, t_wenum, t_wlist, t_wtup, t_wstr, t_wrng1, t_wrng2, t_drop, g_setix, t_wzip, t_lname, t_name, t_next, t_ifx, t_isi, t_notV, t_andV, t_orV, t_call, t_callK, t_acons, t_aconsR, t_anil, t_tupd, t_lstd, g_name, g_tup, g_cons, g_nil, t_drop, t_lc, t_yes, t_star1, t_retn, t_par, t_slice, t_some, t_no, t_dict0, t_rev, t_neg, t_extend, t_append, t_sliceScr, t_retbox, t_xcons, LV.get, CS.at_, SV.view, datsOf, Option.map_some, List.getElem?_cons_zero, List.getElem?_cons_succ, List.set_cons_zero, List.set_cons_succ, settled, initC, List.map_cons, List.map_nil, List.length_cons, List.length_nil, List.cons_append, List.nil_append, seqOf, runD, t_wrng3, t_dzip, t_count, t_frz, t_lrange2, t_sortsetS, t_indexL, t_retdboxM, t_par4, t_par5, t_index, t_maxd1, t_ifT, t_insert, t_tindex, t_tcount, t_tryM, t_raise0, t_gput, g_gput, t_gget1, t_gget2, t_lzip, t_callFn, t_popAt, t_callLam, t_retM, t_retMp, t_meth, t_methS, t_make, t_cput, mvSV, lvM]
      refine lcD_M (fun n : Nat => PyData.int ((n : Nat) : Int)) (fun n => .int ((gs.getD n 0 : Nat) : Int)) _ o (by rw [zz]; omega) (fun n hn K N6 hK => ?_) ?_
      · dsimp only [t_revL, t_sortsetL, t_sortsetT, t_lrange, t_trange, t_keep, frzAll, frzO, t_lensetS, t_wany, seqY, t_wzipT, seqT, t_gd0, t_disp, t_pcons, t_pnil, t_retdbox, t_dictP, t_sortK, t_callB, t_dnew1, t_pop, t_lenset, t_wseq, t_wzip3, t_astar, t_par3, t_dnew, t_dlist, t_dput, t_dget2, t_din, t_lenScr, t_raise1, t_callX, t_callKX, t_xf, t_isx, runX, t_seq, t_if, t_or, t_and, t_not, t_tst, t_v, t_f, t_l, t_c, t_c1, t_op, t_chain', t_ret, t_asg, t_for, t_wenum, t_wlist, t_wtup, t_wstr, t_wrng1, t_wrng2, t_drop, g_setix, t_wzip, t_lname, t_name, t_next, t_ifx, t_isi, t_notV, t_andV, t_orV, t_call, t_callK, t_acons, t_aconsR, t_anil, t_tupd, t_lstd, g_name, g_tup, g_cons, g_nil, t_drop, t_lc, t_yes, t_star1, t_retn, t_par, t_slice, t_some, t_no, t_dict0, t_rev, t_neg, t_extend, t_append, t_sliceScr, t_retbox, t_xcons, LV.get, CS.at_, SV.view, datsOf, Option.map_some, List.getElem?_cons_zero, List.getElem?_cons_succ, List.set_cons_zero, List.set_cons_succ, settled, initC, List.map_cons, List.map_nil, List.length_cons, List.length_nil, List.cons_append, List.nil_append, seqOf, runD, t_wrng3, t_dzip, t_count, t_frz, t_lrange2, t_sortsetS, t_indexL, t_retdboxM, t_par4, t_par5, t_index, t_maxd1, t_ifT, t_insert, t_tindex, t_tcount, t_tryM, t_raise0, t_gput, g_gput, t_gget1, t_gget2, t_lzip, t_callFn, t_popAt, t_callLam, t_retM, t_retMp, t_meth, t_methS, t_make, t_cput, mvSV, lvM, wipeC]
        exact ⟨by show 10 < 15; decide, iteT ⟨⟨_, rfl⟩, ⟨_, rfl⟩, ixG_tt (atI_iN (olt n hn)) hK⟩⟩
      have e1 : (o.map fun n => PyData.int ((gs.getD n 0 : Nat) : Int)) = iN (px o gs) := by unfold iN px; rw [List.map_map]; rfl
      rw [e1]
      exact ⟨by show 9 < 15; decide, hN3 _ rfl⟩
    rintro c rfl
    refine seq_step (fun c => c = [some (.scr ns0), some (.raw 1), some (.dat (.int (i : Nat))), some (.dat (tN gs)), some (.dat (tN cs)), some (.dat (.tuple (tL mks))), none, some (.dat (.tuple D7)), some (.dat (.list (iN o))), some (.dat (tN (px o gs))), none, some (.own ([])), x12, x13, x14]) (fun N3 hN3 => ?_) ?_
    · dsimp only [t_revL, t_sortsetL, t_sortsetT, t_lrange, t_trange, t_keep, frzAll, frzO, t_lensetS, t_wany, seqY, t_wzipT, seqT, t_gd0, t_disp, t_pcons, t_pnil, t_retdbox, t_dictP, t_sortK, t_callB, t_dnew1, t_pop, t_lenset, t_wseq, t_wzip3, t_astar, t_par3, t_dnew, t_dlist, t_dput, t_dget2, t_din, t_lenScr, t_raise1, t_callX, t_callKX, t_xf, t_isx, runX, t_seq, t_if, t_or, t_and, t_not, t_tst, t_v, t_f, t_l, t_c, t_c1, t_op, t_chain', t_ret, t_asg, t_for, t_wenum, t_wlist, t_wtup, t_wstr, t_wrng1, t_wrng2, t_drop, g_setix, t_wzip, t_lname, t_name, t_next, t_ifx, t_isi, t_notV, t_andV, t_orV, t_call, t_callK, t_acons, t_aconsR, t_anil, t_tupd, t_lstd, g_name, g_tup, g_cons, g_nil, t_drop, t_lc, t_yes, t_star1, t_retn, t_par, t_slice, t_some, t_no, t_dict0, t_rev, t_neg, t_extend, t_append, t_sliceScr, t_retbox, t_xcons, LV.get, CS.at_, SV.view, datsOf, Option.map_some, List.getElem?_cons_zero, List.getElem?_cons_succ, List.set_cons_zero, List.set_cons_succ, settled, initC, List.map_cons, List.map_nil, List.length_cons, List.length_nil, List.cons_append, List.nil_append, seqOf, runD, t_wrng3, t_dzip, t_count, t_frz, t_lrange2, t_sortsetS, t_indexL, t_retdboxM, t_par4, t_par5, t_index, t_maxd1, t_ifT, t_insert, t_tindex, t_tcount, t_tryM, t_raise0, t_gput, g_gput, t_gget1, t_gget2, t_lzip, t_callFn, t_popAt, t_callLam, t_retM, t_retMp, t_meth, t_methS, t_make, t_cput, mvSV, lvM]
      exact ⟨by rw [zz]; decide, by show 11 < 15; decide, hN3 _ rfl⟩
    rintro c rfl
    refine seq_step (fun c => ∃ x12, c = [some (.scr ns0), some (.raw 1), some (.dat (.int (i : Nat))), some (.dat (tN gs)), some (.dat (tN cs)), some (.dat (.tuple (tL mks))), none, some (.dat (.tuple D7)), some (.dat (.list (iN o))), some (.dat (tN (px o gs))), none, some (.own (tL (mks.map (px o)))), x12, x13, x14]) (fun N3 hN3 => ?_) ?_
    · dsimp only [t_for, t_wany, t_f, t_name, List.getElem?_cons_zero, List.getElem?_cons_succ, List.set_cons_zero, List.set_cons_succ, SV.view, seqY]
      refine forD_A tN (fun done c => ∃ x12, c = [some (.scr ns0), some (.raw 1), some (.dat (.int (i : Nat))), some (.dat (tN gs)), some (.dat (tN cs)), some (.dat (.tuple (tL mks))), none, some (.dat (.tuple D7)), some (.dat (.list (iN o))), some (.dat (tN (px o gs))), none, some (.own (tL (done.map (px o)))), x12, x13, x14]) mks ?_ ?_ ⟨x12, rfl⟩
      · rintro c ⟨x12, rfl⟩
        exact hN3 _ ⟨x12, rfl⟩
      rintro done2 m todo2 c N4 e4 hN4 ⟨x12, rfl⟩
      have ml := ltL_len (hm m (by rw [e4]; simp))
      have dl : done2.length ≤ mks.length := by rw [e4, List.length_append]; omega
      have hN4' := fun x12 => hN4 _ ⟨x12, rfl⟩
      rw [List.map_append, show tL (done2.map (px o) ++ [m].map (px o)) = tL (done2.map (px o)) ++ [tN (px o m)] from List.map_append] at hN4'
      have lz : (tL (done2.map (px o))).length < sizeLine := by rw [List.length_map, List.length_map, zz]; omega
      generalize tL (done2.map (px o)) = AC at *
      refine ⟨by show 12 < 15; decide, ?_⟩
      dsimp only [t_revL, t_sortsetL, t_sortsetT, t_lrange, t_trange, t_keep, frzAll, frzO, t_lensetS, t_wany, seqY, t_wzipT, seqT, t_gd0, t_disp, t_pcons, t_pnil, t_retdbox, t_dictP, t_sortK, t_callB, t_dnew1, t_pop, t_lenset, t_wseq, t_wzip3, t_astar, t_par3, t_dnew, t_dlist, t_dput, t_dget2, t_din, t_lenScr, t_raise1, t_callX, t_callKX, t_xf, t_isx, runX, t_seq, t_if, t_or, t_and, t_not, t_tst, t_v, t_f, t_l, t_c, t_c1, t_op, t_chain', t_ret, t_asg, t_for, t_wenum, t_wlist, t_wtup, t_wstr, t_wrng1, t_wrng2, t_drop, g_setix, t_wzip, t_lname, t_name, t_next, t_ifx, t_isi, t_notV, t_andV, t_orV, t_call, t_callK, t_acons, t_aconsR, t_anil, t_tupd, t_lstd, g_name, g_tup, g_cons, g_nil, t_drop, t_lc, t_yes, t_star1, t_retn, t_par, t_slice, t_some, t_no, t_dict0, t_rev, t_neg, t_extend, t_append, t_sliceScr, t_retbox, t_xcons, LV.get, CS.at_, SV.view, datsOf, Option.map_some, List.getElem?_cons_zero, List.getElem?_cons_succ, List.set_cons_zero, List.set_cons_succ, settled, initC, List.map_cons, List.map_nil, List.length_cons, List.length_nil, List.cons_append, List.nil_append, seqOf, runD, t_wrng3, t_dzip, t_count, t_frz, t_lrange2, t_sortsetS, t_indexL, t_retdboxM, t_par4, t_par5, t_index, t_maxd1, t_ifT, t_insert, t_tindex, t_tcount, t_tryM, t_raise0, t_gput, g_gput, t_gget1, t_gget2, t_lzip, t_callFn, t_popAt, t_callLam, t_retM, t_retMp, t_meth, t_methS, t_make, t_cput, mvSV, lvM]
      refine ⟨⟨_, rfl⟩, ?_⟩
      refine lcD_M (fun n : Nat => PyData.int ((n : Nat) : Int)) (fun n => .int ((m.getD n 0 : Nat) : Int)) _ o (by rw [zz]; omega) (fun n hn K N6 hK => ?_) ?_
      · dsimp only [t_revL, t_sortsetL, t_sortsetT, t_lrange, t_trange, t_keep, frzAll, frzO, t_lensetS, t_wany, seqY, t_wzipT, seqT, t_gd0, t_disp, t_pcons, t_pnil, t_retdbox, t_dictP, t_sortK, t_callB, t_dnew1, t_pop, t_lenset, t_wseq, t_wzip3, t_astar, t_par3, t_dnew, t_dlist, t_dput, t_dget2, t_din, t_lenScr, t_raise1, t_callX, t_callKX, t_xf, t_isx, runX, t_seq, t_if, t_or, t_and, t_not, t_tst, t_v, t_f, t_l, t_c, t_c1, t_op, t_chain', t_ret, t_asg, t_for, t_wenum, t_wlist, t_wtup, t_wstr, t_wrng1, t_wrng2, t_drop, g_setix, t_wzip, t_lname, t_name, t_next, t_ifx, t_isi, t_notV, t_andV, t_orV, t_call, t_callK, t_acons, t_aconsR, t_anil, t_tupd, t_lstd, g_name, g_tup, g_cons, g_nil, t_drop, t_lc, t_yes, t_star1, t_retn, t_par, t_slice, t_some, t_no, t_dict0, t_rev, t_neg, t_extend, t_append, t_sliceScr, t_retbox, t_xcons, LV.get, CS.at_, SV.view, datsOf, Option.map_some, List.getElem?_cons_zero, List.getElem?_cons_succ, List.set_cons_zero, List.set_cons_succ, settled, initC, List.map_cons, List.map_nil, List.length_cons, List.length_nil, List.cons_append, List.nil_append, seqOf, runD, t_wrng3, t_dzip, t_count, t_frz, t_lrange2, t_sortsetS, t_indexL, t_retdboxM, t_par4, t_par5, t_index, t_maxd1, t_ifT, t_insert, t_tindex, t_tcount, t_tryM, t_raise0, t_gput, g_gput, t_gget1, t_gget2, t_lzip, t_callFn, t_popAt, t_callLam, t_retM, t_retMp, t_meth, t_methS, t_make, t_cput, mvSV, lvM, wipeC]
        exact ⟨by show 10 < 15; decide, iteT ⟨⟨_, rfl⟩, ⟨_, rfl⟩, ixG_tt (atI_iN (by rw [ml]; exact olt n hn)) hK⟩⟩
      have e1 : (o.map fun n => PyData.int ((m.getD n 0 : Nat) : Int)) = iN (px o m) := by unfold iN px; rw [List.map_map]; rfl
      rw [e1]
      exact ⟨lz, hN4' _⟩
    rintro c ⟨x12, rfl⟩
    obtain ⟨u1, u2⟩ := RS_px hg.b h2 hm ho
    have pg := px_perm ho (x := gs) rfl
    have hgx := gp_perm pg hg
    refine seq_step (fun c => ∃ x11, c = [some (.scr ns0), some (.raw 1), some (.dat (.int (i : Nat))), some (.dat (tN gs)), some (.dat (tN cs)), some (.dat (.tuple (tL mks))), none, some (.dat (.tuple D7)), some (.dat (.list (iN o))), some (.dat (tN (px o gs))), none, x11, x12, some (.own ([.tuple D7])), x14]) (fun N3 hN3 => ?_) ?_
    · dsimp only [t_revL, t_sortsetL, t_sortsetT, t_lrange, t_trange, t_keep, frzAll, frzO, t_lensetS, t_wany, seqY, t_wzipT, seqT, t_gd0, t_disp, t_pcons, t_pnil, t_retdbox, t_dictP, t_sortK, t_callB, t_dnew1, t_pop, t_lenset, t_wseq, t_wzip3, t_astar, t_par3, t_dnew, t_dlist, t_dput, t_dget2, t_din, t_lenScr, t_raise1, t_callX, t_callKX, t_xf, t_isx, runX, t_seq, t_if, t_or, t_and, t_not, t_tst, t_v, t_f, t_l, t_c, t_c1, t_op, t_chain', t_ret, t_asg, t_for, t_wenum, t_wlist, t_wtup, t_wstr, t_wrng1, t_wrng2, t_drop, g_setix, t_wzip, t_lname, t_name, t_next, t_ifx, t_isi, t_notV, t_andV, t_orV, t_call, t_callK, t_acons, t_aconsR, t_anil, t_tupd, t_lstd, g_name, g_tup, g_cons, g_nil, t_drop, t_lc, t_yes, t_star1, t_retn, t_par, t_slice, t_some, t_no, t_dict0, t_rev, t_neg, t_extend, t_append, t_sliceScr, t_retbox, t_xcons, LV.get, CS.at_, SV.view, datsOf, Option.map_some, List.getElem?_cons_zero, List.getElem?_cons_succ, List.set_cons_zero, List.set_cons_succ, settled, initC, List.map_cons, List.map_nil, List.length_cons, List.length_nil, List.cons_append, List.nil_append, seqOf, runD, t_wrng3, t_dzip, t_count, t_frz, t_lrange2, t_sortsetS, t_indexL, t_retdboxM, t_par4, t_par5, t_index, t_maxd1, t_ifT, t_insert, t_tindex, t_tcount, t_tryM, t_raise0, t_gput, g_gput, t_gget1, t_gget2, t_lzip, t_callFn, t_popAt, t_callLam, t_retM, t_retMp, t_meth, t_methS, t_make, t_cput, mvSV, lvM]
      refine ⟨⟨_, rfl⟩, ⟨rfl, rfl⟩, rooms_spec hc hgx (by rw [pr_perm pg]; exact h2) u1 (by rw [List.length_map]; exact lm) ?_⟩
      rw [SDl_same u2, ← hD7]
      exact ⟨by rw [zz]; decide, by show 13 < 15; decide, hN3 _ ⟨_, rfl⟩⟩
    rintro c ⟨x11, rfl⟩
    refine seq_step (fun c => c = [some (.scr ns0), some (.raw 1), some (.dat (.int (i : Nat))), some (.dat (tN gs)), some (.dat (tN cs)), some (.dat (.tuple (tL mks))), none, some (.dat (.tuple D7)), some (.dat (.list (iN o))), some (.dat (tN (px o gs))), none, x11, x12, some (.own ([.tuple D7, .tuple D7])), x14]) (fun N3 hN3 => ?_) ?_
    · dsimp only [t_revL, t_sortsetL, t_sortsetT, t_lrange, t_trange, t_keep, frzAll, frzO, t_lensetS, t_wany, seqY, t_wzipT, seqT, t_gd0, t_disp, t_pcons, t_pnil, t_retdbox, t_dictP, t_sortK, t_callB, t_dnew1, t_pop, t_lenset, t_wseq, t_wzip3, t_astar, t_par3, t_dnew, t_dlist, t_dput, t_dget2, t_din, t_lenScr, t_raise1, t_callX, t_callKX, t_xf, t_isx, runX, t_seq, t_if, t_or, t_and, t_not, t_tst, t_v, t_f, t_l, t_c, t_c1, t_op, t_chain', t_ret, t_asg, t_for, t_wenum, t_wlist, t_wtup, t_wstr, t_wrng1, t_wrng2, t_drop, g_setix, t_wzip, t_lname, t_name, t_next, t_ifx, t_isi, t_notV, t_andV, t_orV, t_call, t_callK, t_acons, t_aconsR, t_anil, t_tupd, t_lstd, g_name, g_tup, g_cons, g_nil, t_drop, t_lc, t_yes, t_star1, t_retn, t_par, t_slice, t_some, t_no, t_dict0, t_rev, t_neg, t_extend, t_append, t_sliceScr, t_retbox, t_xcons, LV.get, CS.at_, SV.view, datsOf, Option.map_some, List.getElem?_cons_zero, List.getElem?_cons_succ, List.set_cons_zero, List.set_cons_succ, settled, initC, List.map_cons, List.map_nil, List.length_cons, List.length_nil, List.cons_append, List.nil_append, seqOf, runD, t_wrng3, t_dzip, t_count, t_frz, t_lrange2, t_sortsetS, t_indexL, t_retdboxM, t_par4, t_par5, t_index, t_maxd1, t_ifT, t_insert, t_tindex, t_tcount, t_tryM, t_raise0, t_gput, g_gput, t_gget1, t_gget2, t_lzip, t_callFn, t_popAt, t_callLam, t_retM, t_retMp, t_meth, t_methS, t_make, t_cput, mvSV, lvM]
      refine ⟨⟨_, rfl⟩, rfl, units_spec hg hm2 hm (by omega) fun us hu => ?_⟩
      obtain ⟨v1, v2⟩ := RS_mul3 hg.b h2 hm hu
      refine rooms_spec hc hg h2 v1 (by rw [List.length_map]; exact lm) ?_
      rw [SDl_same v2, ← hD7]
      exact ⟨by rw [zz]; decide, hN3 _ rfl⟩
    rintro c rfl
    refine seq_step (fun c => c = [some (.scr ns0), some (.raw 1), some (.dat (.int (i : Nat))), some (.dat (tN gs)), some (.dat (tN cs)), some (.dat (.tuple (tL mks))), none, some (.dat (.tuple D7)), some (.dat (.list (iN o))), some (.dat (tN (px o gs))), none, x11, x12, some (.own ([.tuple D7, .tuple D7, .tuple D7])), x14]) (fun N3 hN3 => ?_) ?_
    · dsimp only [t_revL, t_sortsetL, t_sortsetT, t_lrange, t_trange, t_keep, frzAll, frzO, t_lensetS, t_wany, seqY, t_wzipT, seqT, t_gd0, t_disp, t_pcons, t_pnil, t_retdbox, t_dictP, t_sortK, t_callB, t_dnew1, t_pop, t_lenset, t_wseq, t_wzip3, t_astar, t_par3, t_dnew, t_dlist, t_dput, t_dget2, t_din, t_lenScr, t_raise1, t_callX, t_callKX, t_xf, t_isx, runX, t_seq, t_if, t_or, t_and, t_not, t_tst, t_v, t_f, t_l, t_c, t_c1, t_op, t_chain', t_ret, t_asg, t_for, t_wenum, t_wlist, t_wtup, t_wstr, t_wrng1, t_wrng2, t_drop, g_setix, t_wzip, t_lname, t_name, t_next, t_ifx, t_isi, t_notV, t_andV, t_orV, t_call, t_callK, t_acons, t_aconsR, t_anil, t_tupd, t_lstd, g_name, g_tup, g_cons, g_nil, t_drop, t_lc, t_yes, t_star1, t_retn, t_par, t_slice, t_some, t_no, t_dict0, t_rev, t_neg, t_extend, t_append, t_sliceScr, t_retbox, t_xcons, LV.get, CS.at_, SV.view, datsOf, Option.map_some, List.getElem?_cons_zero, List.getElem?_cons_succ, List.set_cons_zero, List.set_cons_succ, settled, initC, List.map_cons, List.map_nil, List.length_cons, List.length_nil, List.cons_append, List.nil_append, seqOf, runD, t_wrng3, t_dzip, t_count, t_frz, t_lrange2, t_sortsetS, t_indexL, t_retdboxM, t_par4, t_par5, t_index, t_maxd1, t_ifT, t_insert, t_tindex, t_tcount, t_tryM, t_raise0, t_gput, g_gput, t_gget1, t_gget2, t_lzip, t_callFn, t_popAt, t_callLam, t_retM, t_retMp, t_meth, t_methS, t_make, t_cput, mvSV, lvM]
      refine ⟨⟨_, rfl⟩, sheared_spec hg h2 hm (by omega) fun mks' w1 w2 w3 => ?_⟩
      refine rooms_spec hc hg h2 w2 (by rw [w1]; exact lm) ?_
      rw [SDl_same w3, ← hD7]
      exact ⟨by rw [zz]; decide, hN3 _ rfl⟩
    rintro c rfl
    refine seq_step (fun c => c = [some (.scr ns0), some (.raw 1), some (.dat (.int (i : Nat))), some (.dat (tN gs)), some (.dat (tN cs)), some (.dat (.tuple (tL mks))), none, some (.dat (.tuple D7)), some (.dat (.list (iN o))), some (.dat (tN (px o gs))), none, x11, x12, some (.own ([.tuple D7, .tuple D7, .tuple D7])), x14]) (fun N3 hN3 => ?_) ?_
    · refine if_not (fun K hK => ?_) (hN3 _ rfl)
      dsimp only [t_revL, t_sortsetL, t_sortsetT, t_lrange, t_trange, t_keep, frzAll, frzO, t_lensetS, t_wany, seqY, t_wzipT, seqT, t_gd0, t_disp, t_pcons, t_pnil, t_retdbox, t_dictP, t_sortK, t_callB, t_dnew1, t_pop, t_lenset, t_wseq, t_wzip3, t_astar, t_par3, t_dnew, t_dlist, t_dput, t_dget2, t_din, t_lenScr, t_raise1, t_callX, t_callKX, t_xf, t_isx, runX, t_seq, t_if, t_or, t_and, t_not, t_tst, t_v, t_f, t_l, t_c, t_c1, t_op, t_chain', t_ret, t_asg, t_for, t_wenum, t_wlist, t_wtup, t_wstr, t_wrng1, t_wrng2, t_drop, g_setix, t_wzip, t_lname, t_name, t_next, t_ifx, t_isi, t_notV, t_andV, t_orV, t_call, t_callK, t_acons, t_aconsR, t_anil, t_tupd, t_lstd, g_name, g_tup, g_cons, g_nil, t_drop, t_lc, t_yes, t_star1, t_retn, t_par, t_slice, t_some, t_no, t_dict0, t_rev, t_neg, t_extend, t_append, t_sliceScr, t_retbox, t_xcons, LV.get, CS.at_, SV.view, datsOf, Option.map_some, List.getElem?_cons_zero, List.getElem?_cons_succ, List.set_cons_zero, List.set_cons_succ, settled, initC, List.map_cons, List.map_nil, List.length_cons, List.length_nil, List.cons_append, List.nil_append, seqOf, runD, t_wrng3, t_dzip, t_count, t_frz, t_lrange2, t_sortsetS, t_indexL, t_retdboxM, t_par4, t_par5, t_index, t_maxd1, t_ifT, t_insert, t_tindex, t_tcount, t_tryM, t_raise0, t_gput, g_gput, t_gget1, t_gget2, t_lzip, t_callFn, t_popAt, t_callLam, t_retM, t_retMp, t_meth, t_methS, t_make, t_cput, mvSV, lvM]
      refine ⟨⟨_, rfl⟩, ok3, by rw [zz]; decide, ?_⟩
      show mulZ (.list [.tuple D7]) (.int ((3 : Nat) : Int)) _
      exact mulZ_one (by decide) ⟨ok3, neZ_same hK⟩
    rintro c rfl
    refine seq_step (fun c => c = [some (.scr ns0), some (.raw 1), some (.dat (.int (i : Nat))), some (.dat (tN gs)), some (.dat (tN cs)), some (.dat (.tuple (tL mks))), none, some (.dat (.tuple D7)), some (.dat (.list (iN o))), some (.dat (tN (px o gs))), none, x11, x12, some (.own ([.tuple D7, .tuple D7, .tuple D7])), some (.dat (.tuple (tL (List.replicate cs.length (zr gs.length)))))]) (fun N3 hN3 => ?_) ?_
    · dsimp only [t_revL, t_sortsetL, t_sortsetT, t_lrange, t_trange, t_keep, frzAll, frzO, t_lensetS, t_wany, seqY, t_wzipT, seqT, t_gd0, t_disp, t_pcons, t_pnil, t_retdbox, t_dictP, t_sortK, t_callB, t_dnew1, t_pop, t_lenset, t_wseq, t_wzip3, t_astar, t_par3, t_dnew, t_dlist, t_dput, t_dget2, t_din, t_lenScr, t_raise1, t_callX, t_callKX, t_xf, t_isx, runX, t_seq, t_if, t_or, t_and, t_not, t_tst, t_v, t_f, t_l, t_c, t_c1, t_op, t_chain', t_ret, t_asg, t_for, t_wenum, t_wlist, t_wtup, t_wstr, t_wrng1, t_wrng2, t_drop, g_setix, t_wzip, t_lname, t_name, t_next, t_ifx, t_isi, t_notV, t_andV, t_orV, t_call, t_callK, t_acons, t_aconsR, t_anil, t_tupd, t_lstd, g_name, g_tup, g_cons, g_nil, t_drop, t_lc, t_yes, t_star1, t_retn, t_par, t_slice, t_some, t_no, t_dict0, t_rev, t_neg, t_extend, t_append, t_sliceScr, t_retbox, t_xcons, LV.get, CS.at_, SV.view, datsOf, Option.map_some, List.getElem?_cons_zero, List.getElem?_cons_succ, List.set_cons_zero, List.set_cons_succ, settled, initC, List.map_cons, List.map_nil, List.length_cons, List.length_nil, List.cons_append, List.nil_append, seqOf, runD, t_wrng3, t_dzip, t_count, t_frz, t_lrange2, t_sortsetS, t_indexL, t_retdboxM, t_par4, t_par5, t_index, t_maxd1, t_ifT, t_insert, t_tindex, t_tcount, t_tryM, t_raise0, t_gput, g_gput, t_gget1, t_gget2, t_lzip, t_callFn, t_popAt, t_callLam, t_retM, t_retMp, t_meth, t_methS, t_make, t_cput, mvSV, lvM]
      refine ⟨by rw [zz]; decide, ⟨_, rfl⟩, lenY_tt ?_⟩
      rw [iN_len]
      refine mulZ_one (by omega) ?_
      rw [rep_zr]
      dsimp only [tupleX]
      refine ⟨by rw [zz]; decide, ⟨_, rfl⟩, lenY_tt ?_⟩
      rw [iN_len]
      refine mulZ_oneT ho1 (by omega) ⟨by show 14 < 15; decide, hN3 _ ?_⟩
      rw [show tL (List.replicate cs.length (zr gs.length)) = List.replicate cs.length (tN (zr gs.length)) from List.map_replicate]
    rintro c rfl
    have hz : ∀ m ∈ List.replicate cs.length (zr gs.length), ltL m gs := fun m hm => by rw [List.eq_of_mem_replicate hm]; exact zr_lt hg.b
    have gz := rg_gd hg.b h2 hz
    have ez := SDl_zero (cs := cs) gz hg.b
    have okz := (tm_SD hc gz).ok
    refine if_not (fun K hK => ?_) (hN2' _ _ _ _ _ _ _ _ _ _ _)
    dsimp only [t_revL, t_sortsetL, t_sortsetT, t_lrange, t_trange, t_keep, frzAll, frzO, t_lensetS, t_wany, seqY, t_wzipT, seqT, t_gd0, t_disp, t_pcons, t_pnil, t_retdbox, t_dictP, t_sortK, t_callB, t_dnew1, t_pop, t_lenset, t_wseq, t_wzip3, t_astar, t_par3, t_dnew, t_dlist, t_dput, t_dget2, t_din, t_lenScr, t_raise1, t_callX, t_callKX, t_xf, t_isx, runX, t_seq, t_if, t_or, t_and, t_not, t_tst, t_v, t_f, t_l, t_c, t_c1, t_op, t_chain', t_ret, t_asg, t_for, t_wenum, t_wlist, t_wtup, t_wstr, t_wrng1, t_wrng2, t_drop, g_setix, t_wzip, t_lname, t_name, t_next, t_ifx, t_isi, t_notV, t_andV, t_orV, t_call, t_callK, t_acons, t_aconsR, t_anil, t_tupd, t_lstd, g_name, g_tup, g_cons, g_nil, t_drop, t_lc, t_yes, t_star1, t_retn, t_par, t_slice, t_some, t_no, t_dict0, t_rev, t_neg, t_extend, t_append, t_sliceScr, t_retbox, t_xcons, LV.get, CS.at_, SV.view, datsOf, Option.map_some, List.getElem?_cons_zero, List.getElem?_cons_succ, List.set_cons_zero, List.set_cons_succ, settled, initC, List.map_cons, List.map_nil, List.length_cons, List.length_nil, List.cons_append, List.nil_append, seqOf, runD, t_wrng3, t_dzip, t_count, t_frz, t_lrange2, t_sortsetS, t_indexL, t_retdboxM, t_par4, t_par5, t_index, t_maxd1, t_ifT, t_insert, t_tindex, t_tcount, t_tryM, t_raise0, t_gput, g_gput, t_gget1, t_gget2, t_lzip, t_callFn, t_popAt, t_callLam, t_retM, t_retMp, t_meth, t_methS, t_make, t_cput, mvSV, lvM]
    refine rooms_spec hc hg h2 hz (List.length_replicate ..) ?_
    refine ⟨okz, by rw [zz]; decide, ⟨_, rfl⟩, lenY_tt ?_⟩
    rw [l7]
    refine mulZ_oneT sp (by omega) ?_
    rw [← ez]
    exact ⟨okz, neZ_same hK⟩
  rintro c ⟨x2, x3, x4, x5, x7, x8, x9, x11, x12, x13, x14, rfl⟩
  dsimp only [t_revL, t_sortsetL, t_sortsetT, t_lrange, t_trange, t_keep, frzAll, frzO, t_lensetS, t_wany, seqY, t_wzipT, seqT, t_gd0, t_disp, t_pcons, t_pnil, t_retdbox, t_dictP, t_sortK, t_callB, t_dnew1, t_pop, t_lenset, t_wseq, t_wzip3, t_astar, t_par3, t_dnew, t_dlist, t_dput, t_dget2, t_din, t_lenScr, t_raise1, t_callX, t_callKX, t_xf, t_isx, runX, t_seq, t_if, t_or, t_and, t_not, t_tst, t_v, t_f, t_l, t_c, t_c1, t_op, t_chain', t_ret, t_asg, t_for, t_wenum, t_wlist, t_wtup, t_wstr, t_wrng1, t_wrng2, t_drop, g_setix, t_wzip, t_lname, t_name, t_next, t_ifx, t_isi, t_notV, t_andV, t_orV, t_call, t_callK, t_acons, t_aconsR, t_anil, t_tupd, t_lstd, g_name, g_tup, g_cons, g_nil, t_drop, t_lc, t_yes, t_star1, t_retn, t_par, t_slice, t_some, t_no, t_dict0, t_rev, t_neg, t_extend, t_append, t_sliceScr, t_retbox, t_xcons, LV.get, CS.at_, SV.view, datsOf, Option.map_some, List.getElem?_cons_zero, List.getElem?_cons_succ, List.set_cons_zero, List.set_cons_succ, settled, initC, List.map_cons, List.map_nil, List.length_cons, List.length_nil, List.cons_append, List.nil_append, seqOf, runD, t_wrng3, t_dzip, t_count, t_frz, t_lrange2, t_sortsetS, t_indexL, t_retdboxM, t_par4, t_par5, t_index, t_maxd1, t_ifT, t_insert, t_tindex, t_tcount, t_tryM, t_raise0, t_gput, g_gput, t_gget1, t_gget2, t_lzip, t_callFn, t_popAt, t_callLam, t_retM, t_retMp, t_meth, t_methS, t_make, t_cput, mvSV, lvM]
  repeat ((with_reducible refine And.intro ?_ ?_); (focus first | exact ⟨_, rfl⟩ | rfl | decide | omega | (simp only [List.length_append, List.length_cons, List.length_nil] at *; omega) | decide +kernel))
  refine rooms_spec (cs := [2, 1]) (ns := [3]) (mks := [[1], [2]]) ⟨by decide, by decide, by decide, by decide⟩ ⟨by decide, by decide, by decide, by decide⟩ (by decide) m3 rfl ?_
  rw [end_tell]
  have ok : shOk (.tuple [.int 0, .int 0, .int 0, .int 1, .int 1, .int 2]) := ⟨by decide +kernel, by decide +kernel, by decide +kernel⟩
  refine ⟨ok, ?_⟩
  repeat ((with_reducible refine And.intro ?_ ?_); (focus first | exact ⟨_, rfl⟩ | rfl | decide | omega | (simp only [List.length_append, List.length_cons, List.length_nil] at *; omega) | decide +kernel))
  exact ⟨ok, eqZ_same h⟩
end Lk

namespace Lk
open PySem PySem.Spec PyProof.Rows L2 Cl
set_option maxHeartbeats 1600000 in
theorem all_mk {l : PySem.W.OpenLaw} {w : World} {K : PySem.W.Frag} {h : Heap} {mg : Str → Option Value} {fa f0 f1 f2 f3 f4 f5 f6 f7 f8 f9 f10 f11 f12 f13 f14 f15 f16 f17 f18 f19 : Addr} (X0 : K.In h) (Gn : h.Ns mainGlobals mg) (hfa : mg "law" = some (.ref fa))
    {od0 od1 od2 od3 od4 od5 od6 od7 od8 od9 od10 od11 od12 od13 od14 od15 od16 od17 od18 od19 an0 an1 an2 an3 an4 an5 an6 an7 an8 an9 an10 an11 an12 an13 an14 an15 an16 an17 an18 an19 : Option Addr} {sl0 sl1 sl2 sl3 sl4 sl5 sl6 sl7 sl8 sl9 sl10 sl11 sl12 sl13 sl14 sl15 sl16 sl17 sl18 sl19 : Array (Option Value)} {oc0 oc1 oc2 oc3 oc4 oc5 oc6 oc7 oc8 oc9 oc10 oc11 oc12 oc13 oc14 oc15 oc16 oc17 oc18 oc19 kV0 kV1 kV2 kV3 kV4 kV5 kV6 kV7 kV8 kV9 kV10 kV11 kV12 kV13 kV14 kV15 kV16 kV17 kV18 kV19 dc0 dc1 dc2 dc3 dc4 dc5 dc6 dc7 dc8 dc9 dc10 dc11 dc12 dc13 dc14 dc15 dc16 dc17 dc18 dc19 pm0 pm1 pm2 pm3 pm4 pm5 pm6 pm7 pm8 pm9 pm10 pm11 pm12 pm13 pm14 pm15 pm16 pm17 pm18 pm19 cd0 cd1 cd2 cd3 cd4 cd5 cd6 cd7 cd8 cd9 cd10 cd11 cd12 cd13 cd14 cd15 cd16 cd17 cd18 cd19 ct0 ct1 ct2 ct3 ct4 ct5 ct6 ct7 ct8 ct9 ct10 ct11 ct12 ct13 ct14 ct15 ct16 ct17 ct18 ct19 : Value}
    (a0 : PySem.W.nsIn K mainGlobals "states" = some (some (.ref f0))) (l0 : K.lookup f0 = some ⟨oc0, od0, .func (PySem.W.fnOf "states" "states" (defArgs S_states) (defBody S_states) (defScope S_states) .none kV0 dc0 pm0 an0 cd0 ct0), sl0⟩) (c0 : PySem.W.codeIn K cd0 "states" = true) (k0 : PySem.W.keepIn K (.ref f0) = true)
    (a1 : PySem.W.nsIn K mainGlobals "lengthened" = some (some (.ref f1))) (l1 : K.lookup f1 = some ⟨oc1, od1, .func (PySem.W.fnOf "lengthened" "lengthened" (defArgs S_lengthened) (defBody S_lengthened) (defScope S_lengthened) .none kV1 dc1 pm1 an1 cd1 ct1), sl1⟩) (c1 : PySem.W.codeIn K cd1 "lengthened" = true) (k1 : PySem.W.keepIn K (.ref f1) = true)
    (a2 : PySem.W.nsIn K mainGlobals "group_members" = some (some (.ref f2))) (l2 : K.lookup f2 = some ⟨oc2, od2, .func (PySem.W.fnOf "group_members" "group_members" (defArgs S_group_members) (defBody S_group_members) (defScope S_group_members) .none kV2 dc2 pm2 an2 cd2 ct2), sl2⟩) (c2 : PySem.W.codeIn K cd2 "group_members" = true) (k2 : PySem.W.keepIn K (.ref f2) = true)
    (a3 : PySem.W.nsIn K mainGlobals "added" = some (some (.ref f3))) (l3 : K.lookup f3 = some ⟨oc3, od3, .func (PySem.W.fnOf "added" "added" (defArgs S_added) (defBody S_added) (defScope S_added) .none kV3 dc3 pm3 an3 cd3 ct3), sl3⟩) (c3 : PySem.W.codeIn K cd3 "added" = true) (k3 : PySem.W.keepIn K (.ref f3) = true)
    (a4 : PySem.W.nsIn K mainGlobals "backs_of" = some (some (.ref f4))) (l4 : K.lookup f4 = some ⟨oc4, od4, .func (PySem.W.fnOf "backs_of" "backs_of" (defArgs S_backs_of) (defBody S_backs_of) (defScope S_backs_of) .none kV4 dc4 pm4 an4 cd4 ct4), sl4⟩) (c4 : PySem.W.codeIn K cd4 "backs_of" = true) (k4 : PySem.W.keepIn K (.ref f4) = true)
    (a5 : PySem.W.nsIn K mainGlobals "room_strengths" = some (some (.ref f5))) (l5 : K.lookup f5 = some ⟨oc5, od5, .func (PySem.W.fnOf "room_strengths" "room_strengths" (defArgs S_room_strengths) (defBody S_room_strengths) (defScope S_room_strengths) .none kV5 dc5 pm5 an5 cd5 ct5), sl5⟩) (c5 : PySem.W.codeIn K cd5 "room_strengths" = true) (k5 : PySem.W.keepIn K (.ref f5) = true)
    (a6 : PySem.W.nsIn K mainGlobals "_law_stock" = some (some (.ref f6))) (l6 : K.lookup f6 = some ⟨oc6, od6, .func (PySem.W.fnOf "_law_stock" "_law_stock" (defArgs S__law_stock) (defBody S__law_stock) (defScope S__law_stock) .none kV6 dc6 pm6 an6 cd6 ct6), sl6⟩) (c6 : PySem.W.codeIn K cd6 "_law_stock" = true) (k6 : PySem.W.keepIn K (.ref f6) = true)
    (a7 : PySem.W.nsIn K mainGlobals "_law_draw" = some (some (.ref f7))) (l7 : K.lookup f7 = some ⟨oc7, od7, .func (PySem.W.fnOf "_law_draw" "_law_draw" (defArgs S__law_draw) (defBody S__law_draw) (defScope S__law_draw) .none kV7 dc7 pm7 an7 cd7 ct7), sl7⟩) (c7 : PySem.W.codeIn K cd7 "_law_draw" = true) (k7 : PySem.W.keepIn K (.ref f7) = true)
    (a8 : PySem.W.nsIn K mainGlobals "_law_pick" = some (some (.ref f8))) (l8 : K.lookup f8 = some ⟨oc8, od8, .func (PySem.W.fnOf "_law_pick" "_law_pick" (defArgs S__law_pick) (defBody S__law_pick) (defScope S__law_pick) .none kV8 dc8 pm8 an8 cd8 ct8), sl8⟩) (c8 : PySem.W.codeIn K cd8 "_law_pick" = true) (k8 : PySem.W.keepIn K (.ref f8) = true)
    (a9 : PySem.W.nsIn K mainGlobals "_law_members" = some (some (.ref f9))) (l9 : K.lookup f9 = some ⟨oc9, od9, .func (PySem.W.fnOf "_law_members" "_law_members" (defArgs S__law_members) (defBody S__law_members) (defScope S__law_members) .none kV9 dc9 pm9 an9 cd9 ct9), sl9⟩) (c9 : PySem.W.codeIn K cd9 "_law_members" = true) (k9 : PySem.W.keepIn K (.ref f9) = true)
    (a10 : PySem.W.nsIn K mainGlobals "_law_group" = some (some (.ref f10))) (l10 : K.lookup f10 = some ⟨oc10, od10, .func (PySem.W.fnOf "_law_group" "_law_group" (defArgs S__law_group) (defBody S__law_group) (defScope S__law_group) .none kV10 dc10 pm10 an10 cd10 ct10), sl10⟩) (c10 : PySem.W.codeIn K cd10 "_law_group" = true) (k10 : PySem.W.keepIn K (.ref f10) = true)
    (a11 : PySem.W.nsIn K mainGlobals "_law_element" = some (some (.ref f11))) (l11 : K.lookup f11 = some ⟨oc11, od11, .func (PySem.W.fnOf "_law_element" "_law_element" (defArgs S__law_element) (defBody S__law_element) (defScope S__law_element) .none kV11 dc11 pm11 an11 cd11 ct11), sl11⟩) (c11 : PySem.W.codeIn K cd11 "_law_element" = true) (k11 : PySem.W.keepIn K (.ref f11) = true)
    (a12 : PySem.W.nsIn K mainGlobals "_law_card" = some (some (.ref f12))) (l12 : K.lookup f12 = some ⟨oc12, od12, .func (PySem.W.fnOf "_law_card" "_law_card" (defArgs S__law_card) (defBody S__law_card) (defScope S__law_card) .none kV12 dc12 pm12 an12 cd12 ct12), sl12⟩) (c12 : PySem.W.codeIn K cd12 "_law_card" = true) (k12 : PySem.W.keepIn K (.ref f12) = true)
    (a13 : PySem.W.nsIn K mainGlobals "_law_states" = some (some (.ref f13))) (l13 : K.lookup f13 = some ⟨oc13, od13, .func (PySem.W.fnOf "_law_states" "_law_states" (defArgs S__law_states) (defBody S__law_states) (defScope S__law_states) .none kV13 dc13 pm13 an13 cd13 ct13), sl13⟩) (c13 : PySem.W.codeIn K cd13 "_law_states" = true) (k13 : PySem.W.keepIn K (.ref f13) = true)
    (a14 : PySem.W.nsIn K mainGlobals "_law_turned" = some (some (.ref f14))) (l14 : K.lookup f14 = some ⟨oc14, od14, .func (PySem.W.fnOf "_law_turned" "_law_turned" (defArgs S__law_turned) (defBody S__law_turned) (defScope S__law_turned) .none kV14 dc14 pm14 an14 cd14 ct14), sl14⟩) (c14 : PySem.W.codeIn K cd14 "_law_turned" = true) (k14 : PySem.W.keepIn K (.ref f14) = true)
    (a15 : PySem.W.nsIn K mainGlobals "_law_divisor" = some (some (.ref f15))) (l15 : K.lookup f15 = some ⟨oc15, od15, .func (PySem.W.fnOf "_law_divisor" "_law_divisor" (defArgs S__law_divisor) (defBody S__law_divisor) (defScope S__law_divisor) .none kV15 dc15 pm15 an15 cd15 ct15), sl15⟩) (c15 : PySem.W.codeIn K cd15 "_law_divisor" = true) (k15 : PySem.W.keepIn K (.ref f15) = true)
    (a16 : PySem.W.nsIn K mainGlobals "_law_is_carried" = some (some (.ref f16))) (l16 : K.lookup f16 = some ⟨oc16, od16, .func (PySem.W.fnOf "_law_is_carried" "_law_is_carried" (defArgs S__law_is_carried) (defBody S__law_is_carried) (defScope S__law_is_carried) .none kV16 dc16 pm16 an16 cd16 ct16), sl16⟩) (c16 : PySem.W.codeIn K cd16 "_law_is_carried" = true) (k16 : PySem.W.keepIn K (.ref f16) = true)
    (a17 : PySem.W.nsIn K mainGlobals "_law_units" = some (some (.ref f17))) (l17 : K.lookup f17 = some ⟨oc17, od17, .func (PySem.W.fnOf "_law_units" "_law_units" (defArgs S__law_units) (defBody S__law_units) (defScope S__law_units) .none kV17 dc17 pm17 an17 cd17 ct17), sl17⟩) (c17 : PySem.W.codeIn K cd17 "_law_units" = true) (k17 : PySem.W.keepIn K (.ref f17) = true)
    (a18 : PySem.W.nsIn K mainGlobals "_law_sheared" = some (some (.ref f18))) (l18 : K.lookup f18 = some ⟨oc18, od18, .func (PySem.W.fnOf "_law_sheared" "_law_sheared" (defArgs S__law_sheared) (defBody S__law_sheared) (defScope S__law_sheared) .none kV18 dc18 pm18 an18 cd18 ct18), sl18⟩) (c18 : PySem.W.codeIn K cd18 "_law_sheared" = true) (k18 : PySem.W.keepIn K (.ref f18) = true)
    (a19 : PySem.W.nsIn K mainGlobals "law" = some (some (.ref f19))) (l19 : K.lookup f19 = some ⟨oc19, od19, .func (PySem.W.fnOf "law" "law" (defArgs S_law) (defBody S_law) (defScope S_law) .none kV19 dc19 pm19 an19 cd19 ct19), sl19⟩) (c19 : PySem.W.codeIn K cd19 "law" = true) (k19 : PySem.W.keepIn K (.ref f19) = true)
    (z0 : PySem.W.nsIn K mainGlobals "enumerate" = some none)
    (z1 : PySem.W.nsIn K mainGlobals "int" = some none)
    (z2 : PySem.W.nsIn K mainGlobals "isinstance" = some none)
    (z3 : PySem.W.nsIn K mainGlobals "len" = some none)
    (z4 : PySem.W.nsIn K mainGlobals "list" = some none)
    (z5 : PySem.W.nsIn K mainGlobals "max" = some none)
    (z6 : PySem.W.nsIn K mainGlobals "min" = some none)
    (z7 : PySem.W.nsIn K mainGlobals "range" = some none)
    (z8 : PySem.W.nsIn K mainGlobals "repr" = some none)
    (z9 : PySem.W.nsIn K mainGlobals "sum" = some none)
    (z10 : PySem.W.nsIn K mainGlobals "tuple" = some none)
    (z11 : PySem.W.nsIn K mainGlobals "zip" = some none)
    : ∃ fd : FuncData, (∀ (s : Shared) (v : Value), BindsTo s fd ⟨[v], []⟩ [("_law_script", v)]) ∧ ∀ base : Heap, K.In base → base.Ns mainGlobals mg → FnG l.prog w K mg base CX0 5 fa fd ["_law_script"] (spD ⟨K, w⟩ (ZPu []) 1 C_law) := by
  have e := hfa.symm.trans (PySem.W.mg_of X0 Gn a19)
  cases e
  have F0 := fun_mk (st := S_states) l0 c0 k0
  have b0 := F0.binds (ps := ["card"]) fun _ _ _ _ _ _ us hl => match us, hl with | [_], _ => rfl
  have F1 := fun_mk (st := S_lengthened) l1 c1 k1
  have b1 := F1.binds (ps := ["rows", "many"]) fun _ _ _ _ _ _ us hl => match us, hl with | [_, _], _ => rfl
  have F2 := fun_mk (st := S_group_members) l2 c2 k2
  have b2 := F2.binds (ps := ["group"]) fun _ _ _ _ _ _ us hl => match us, hl with | [_], _ => rfl
  have F3 := fun_mk (st := S_added) l3 c3 k3
  have b3 := F3.binds (ps := ["group", "member", "other"]) fun _ _ _ _ _ _ us hl => match us, hl with | [_, _, _], _ => rfl
  have F4 := fun_mk (st := S_backs_of) l4 c4 k4
  have b4 := F4.binds (ps := ["group", "members", "mark"]) fun _ _ _ _ _ _ us hl => match us, hl with | [_, _, _], _ => rfl
  have F5 := fun_mk (st := S_room_strengths) l5 c5 k5
  have b5 := F5.binds (ps := ["card", "group", "marks"]) fun _ _ _ _ _ _ us hl => match us, hl with | [_, _, _], _ => rfl
  have F6 := fun_mk (st := S__law_stock) l6 c6 k6
  have b6 := F6.binds (ps := ["_law_script"]) fun _ _ _ _ _ _ us hl => match us, hl with | [_], _ => rfl
  have F7 := fun_mk (st := S__law_draw) l7 c7 k7
  have b7 := F7.binds (ps := ["_law_stock_here", "_law_size"]) fun _ _ _ _ _ _ us hl => match us, hl with | [_, _], _ => rfl
  have F8 := fun_mk (st := S__law_pick) l8 c8 k8
  have b8 := F8.binds (ps := ["_law_stock_here", "_law_row"]) fun _ _ _ _ _ _ us hl => match us, hl with | [_, _], _ => rfl
  have F9 := fun_mk (st := S__law_members) l9 c9 k9
  have b9 := F9.binds (ps := ["_law_sizes"]) fun _ _ _ _ _ _ us hl => match us, hl with | [_], _ => rfl
  have F10 := fun_mk (st := S__law_group) l10 c10 k10
  have b10 := F10.binds (ps := ["_law_stock_here"]) fun _ _ _ _ _ _ us hl => match us, hl with | [_], _ => rfl
  have F11 := fun_mk (st := S__law_element) l11 c11 k11
  have b11 := F11.binds (ps := ["_law_stock_here", "_law_group_here"]) fun _ _ _ _ _ _ us hl => match us, hl with | [_, _], _ => rfl
  have F12 := fun_mk (st := S__law_card) l12 c12 k12
  have b12 := F12.binds (ps := ["_law_stock_here", "_law_most"]) fun _ _ _ _ _ _ us hl => match us, hl with | [_, _], _ => rfl
  have F13 := fun_mk (st := S__law_states) l13 c13 k13
  have b13 := F13.binds (ps := ["_law_card_here"]) fun _ _ _ _ _ _ us hl => match us, hl with | [_], _ => rfl
  have F14 := fun_mk (st := S__law_turned) l14 c14 k14
  have b14 := F14.binds (ps := ["_law_stock_here", "_law_size"]) fun _ _ _ _ _ _ us hl => match us, hl with | [_, _], _ => rfl
  have F15 := fun_mk (st := S__law_divisor) l15 c15 k15
  have b15 := F15.binds (ps := ["_law_a", "_law_b"]) fun _ _ _ _ _ _ us hl => match us, hl with | [_, _], _ => rfl
  have F16 := fun_mk (st := S__law_is_carried) l16 c16 k16
  have b16 := F16.binds (ps := ["_law_stock_here", "_law_card_here", "_law_group_here", "_law_marks", "_law_told"]) fun _ _ _ _ _ _ us hl => match us, hl with | [_, _, _, _, _], _ => rfl
  have F17 := fun_mk (st := S__law_units) l17 c17 k17
  have b17 := F17.binds (ps := ["_law_stock_here", "_law_group_here", "_law_marks"]) fun _ _ _ _ _ _ us hl => match us, hl with | [_, _, _], _ => rfl
  have F18 := fun_mk (st := S__law_sheared) l18 c18 k18
  have b18 := F18.binds (ps := ["_law_group_here", "_law_marks"]) fun _ _ _ _ _ _ us hl => match us, hl with | [_, _], _ => rfl
  have F19 := fun_mk (st := S_law) l19 c19 k19
  have b19 := F19.binds (ps := ["_law_script"]) fun _ _ _ _ _ _ us hl => match us, hl with | [_], _ => rfl
  have X : ∀ base : Heap, Tx K mg { a_states := f0, d_states := PySem.W.fnOf "states" "states" (defArgs S_states) (defBody S_states) (defScope S_states) .none kV0 dc0 pm0 an0 cd0 ct0, a_lengthened := f1, d_lengthened := PySem.W.fnOf "lengthened" "lengthened" (defArgs S_lengthened) (defBody S_lengthened) (defScope S_lengthened) .none kV1 dc1 pm1 an1 cd1 ct1, a_group_members := f2, d_group_members := PySem.W.fnOf "group_members" "group_members" (defArgs S_group_members) (defBody S_group_members) (defScope S_group_members) .none kV2 dc2 pm2 an2 cd2 ct2, a_added := f3, d_added := PySem.W.fnOf "added" "added" (defArgs S_added) (defBody S_added) (defScope S_added) .none kV3 dc3 pm3 an3 cd3 ct3, a_backs_of := f4, d_backs_of := PySem.W.fnOf "backs_of" "backs_of" (defArgs S_backs_of) (defBody S_backs_of) (defScope S_backs_of) .none kV4 dc4 pm4 an4 cd4 ct4, a_room_strengths := f5, d_room_strengths := PySem.W.fnOf "room_strengths" "room_strengths" (defArgs S_room_strengths) (defBody S_room_strengths) (defScope S_room_strengths) .none kV5 dc5 pm5 an5 cd5 ct5, a__law_stock := f6, d__law_stock := PySem.W.fnOf "_law_stock" "_law_stock" (defArgs S__law_stock) (defBody S__law_stock) (defScope S__law_stock) .none kV6 dc6 pm6 an6 cd6 ct6, a__law_draw := f7, d__law_draw := PySem.W.fnOf "_law_draw" "_law_draw" (defArgs S__law_draw) (defBody S__law_draw) (defScope S__law_draw) .none kV7 dc7 pm7 an7 cd7 ct7, a__law_pick := f8, d__law_pick := PySem.W.fnOf "_law_pick" "_law_pick" (defArgs S__law_pick) (defBody S__law_pick) (defScope S__law_pick) .none kV8 dc8 pm8 an8 cd8 ct8, a__law_members := f9, d__law_members := PySem.W.fnOf "_law_members" "_law_members" (defArgs S__law_members) (defBody S__law_members) (defScope S__law_members) .none kV9 dc9 pm9 an9 cd9 ct9, a__law_group := f10, d__law_group := PySem.W.fnOf "_law_group" "_law_group" (defArgs S__law_group) (defBody S__law_group) (defScope S__law_group) .none kV10 dc10 pm10 an10 cd10 ct10, a__law_element := f11, d__law_element := PySem.W.fnOf "_law_element" "_law_element" (defArgs S__law_element) (defBody S__law_element) (defScope S__law_element) .none kV11 dc11 pm11 an11 cd11 ct11, a__law_card := f12, d__law_card := PySem.W.fnOf "_law_card" "_law_card" (defArgs S__law_card) (defBody S__law_card) (defScope S__law_card) .none kV12 dc12 pm12 an12 cd12 ct12, a__law_states := f13, d__law_states := PySem.W.fnOf "_law_states" "_law_states" (defArgs S__law_states) (defBody S__law_states) (defScope S__law_states) .none kV13 dc13 pm13 an13 cd13 ct13, a__law_turned := f14, d__law_turned := PySem.W.fnOf "_law_turned" "_law_turned" (defArgs S__law_turned) (defBody S__law_turned) (defScope S__law_turned) .none kV14 dc14 pm14 an14 cd14 ct14, a__law_divisor := f15, d__law_divisor := PySem.W.fnOf "_law_divisor" "_law_divisor" (defArgs S__law_divisor) (defBody S__law_divisor) (defScope S__law_divisor) .none kV15 dc15 pm15 an15 cd15 ct15, a__law_is_carried := f16, d__law_is_carried := PySem.W.fnOf "_law_is_carried" "_law_is_carried" (defArgs S__law_is_carried) (defBody S__law_is_carried) (defScope S__law_is_carried) .none kV16 dc16 pm16 an16 cd16 ct16, a__law_units := f17, d__law_units := PySem.W.fnOf "_law_units" "_law_units" (defArgs S__law_units) (defBody S__law_units) (defScope S__law_units) .none kV17 dc17 pm17 an17 cd17 ct17, a__law_sheared := f18, d__law_sheared := PySem.W.fnOf "_law_sheared" "_law_sheared" (defArgs S__law_sheared) (defBody S__law_sheared) (defScope S__law_sheared) .none kV18 dc18 pm18 an18 cd18 ct18, a_law := fa, d_law := PySem.W.fnOf "law" "law" (defArgs S_law) (defBody S_law) (defScope S_law) .none kV19 dc19 pm19 an19 cd19 ct19 } base := fun base => { m_enumerate := PySem.W.mg_none_of X0 Gn z0, m_int := PySem.W.mg_none_of X0 Gn z1, m_isinstance := PySem.W.mg_none_of X0 Gn z2, m_len := PySem.W.mg_none_of X0 Gn z3, m_list := PySem.W.mg_none_of X0 Gn z4, m_max := PySem.W.mg_none_of X0 Gn z5, m_min := PySem.W.mg_none_of X0 Gn z6, m_range := PySem.W.mg_none_of X0 Gn z7, m_repr := PySem.W.mg_none_of X0 Gn z8, m_sum := PySem.W.mg_none_of X0 Gn z9, m_tuple := PySem.W.mg_none_of X0 Gn z10, m_zip := PySem.W.mg_none_of X0 Gn z11, F_states := F0, g_states := PySem.W.mg_of X0 Gn a0, b_states := b0, F_lengthened := F1, g_lengthened := PySem.W.mg_of X0 Gn a1, b_lengthened := b1, F_group_members := F2, g_group_members := PySem.W.mg_of X0 Gn a2, b_group_members := b2, F_added := F3, g_added := PySem.W.mg_of X0 Gn a3, b_added := b3, F_backs_of := F4, g_backs_of := PySem.W.mg_of X0 Gn a4, b_backs_of := b4, F_room_strengths := F5, g_room_strengths := PySem.W.mg_of X0 Gn a5, b_room_strengths := b5, F__law_stock := F6, g__law_stock := PySem.W.mg_of X0 Gn a6, b__law_stock := b6, F__law_draw := F7, g__law_draw := PySem.W.mg_of X0 Gn a7, b__law_draw := b7, F__law_pick := F8, g__law_pick := PySem.W.mg_of X0 Gn a8, b__law_pick := b8, F__law_members := F9, g__law_members := PySem.W.mg_of X0 Gn a9, b__law_members := b9, F__law_group := F10, g__law_group := PySem.W.mg_of X0 Gn a10, b__law_group := b10, F__law_element := F11, g__law_element := PySem.W.mg_of X0 Gn a11, b__law_element := b11, F__law_card := F12, g__law_card := PySem.W.mg_of X0 Gn a12, b__law_card := b12, F__law_states := F13, g__law_states := PySem.W.mg_of X0 Gn a13, b__law_states := b13, F__law_turned := F14, g__law_turned := PySem.W.mg_of X0 Gn a14, b__law_turned := b14, F__law_divisor := F15, g__law_divisor := PySem.W.mg_of X0 Gn a15, b__law_divisor := b15, F__law_is_carried := F16, g__law_is_carried := PySem.W.mg_of X0 Gn a16, b__law_is_carried := b16, F__law_units := F17, g__law_units := PySem.W.mg_of X0 Gn a17, b__law_units := b17, F__law_sheared := F18, g__law_sheared := PySem.W.mg_of X0 Gn a18, b__law_sheared := b18, F_law := F19, g_law := PySem.W.mg_of X0 Gn a19, b_law := b19 }
  exact ⟨PySem.W.fnOf "law" "law" (defArgs S_law) (defBody S_law) (defScope S_law) .none kV19 dc19 pm19 an19 cd19 ct19, fun s v => .of_eq rfl, fun base _ _ => ok_law (P := l.prog) (w := w) (base := base) (X base)⟩
end Lk
open PySem PySem.W PyProof.Rows
set_option maxHeartbeats 0 in
theorem PySem.Challenge.cw_onlyhigher_k29_whole_rooms_exchanged_holds : PySem.Challenge.rw_onlyhigher_k29_whole_rooms_exchanged.Holds := by
  w_on; o_law; k_head; (case hw => w_witness2)
  k_fill
  refine Cl.walkG (l := PySem.Challenge.rw_onlyhigher_k29_whole_rooms_exchanged) (n := 63) (k := 5) (x := "_law_script") (CX := fun _ => L2.CX0) (sp := fun w => Cl.spD ⟨_, w⟩ (Cl.ZPu []) 1 Lk.C_law) rfl (by decide) rfl ⟨rfl, by decide, by decide⟩ (fun w h Y => PySem.W.kIn_of Y) ?F (fun _ _ a ns hl ho hS => Cl.law_want ho hS (Lk.law_spec ns rfl)) (fun _ _ _ _ _ h => h)
  case F =>
    intro w mg fa h KX Gn hmg
    refine' Lk.all_mk KX Gn hmg ?a0 ?l0 ?c0 ?k0 ?a1 ?l1 ?c1 ?k1 ?a2 ?l2 ?c2 ?k2 ?a3 ?l3 ?c3 ?k3 ?a4 ?l4 ?c4 ?k4 ?a5 ?l5 ?c5 ?k5 ?a6 ?l6 ?c6 ?k6 ?a7 ?l7 ?c7 ?k7 ?a8 ?l8 ?c8 ?k8 ?a9 ?l9 ?c9 ?k9 ?a10 ?l10 ?c10 ?k10 ?a11 ?l11 ?c11 ?k11 ?a12 ?l12 ?c12 ?k12 ?a13 ?l13 ?c13 ?k13 ?a14 ?l14 ?c14 ?k14 ?a15 ?l15 ?c15 ?k15 ?a16 ?l16 ?c16 ?k16 ?a17 ?l17 ?c17 ?k17 ?a18 ?l18 ?c18 ?k18 ?a19 ?l19 ?c19 ?k19 ?z0 ?z1 ?z2 ?z3 ?z4 ?z5 ?z6 ?z7 ?z8 ?z9 ?z10 ?z11
    (case a0 => k_is); (case l0 => k_is); (case c0 => k_is); (case k0 => k_is); (case a1 => k_is); (case l1 => k_is); (case c1 => k_is); (case k1 => k_is); (case a2 => k_is); (case l2 => k_is); (case c2 => k_is); (case k2 => k_is); (case a3 => k_is); (case l3 => k_is); (case c3 => k_is); (case k3 => k_is); (case a4 => k_is); (case l4 => k_is); (case c4 => k_is); (case k4 => k_is); (case a5 => k_is); (case l5 => k_is); (case c5 => k_is); (case k5 => k_is); (case a6 => k_is); (case l6 => k_is); (case c6 => k_is); (case k6 => k_is); (case a7 => k_is); (case l7 => k_is); (case c7 => k_is); (case k7 => k_is); (case a8 => k_is); (case l8 => k_is); (case c8 => k_is); (case k8 => k_is); (case a9 => k_is); (case l9 => k_is); (case c9 => k_is); (case k9 => k_is); (case a10 => k_is); (case l10 => k_is); (case c10 => k_is); (case k10 => k_is); (case a11 => k_is); (case l11 => k_is); (case c11 => k_is); (case k11 => k_is); (case a12 => k_is); (case l12 => k_is); (case c12 => k_is); (case k12 => k_is); (case a13 => k_is); (case l13 => k_is); (case c13 => k_is); (case k13 => k_is); (case a14 => k_is); (case l14 => k_is); (case c14 => k_is); (case k14 => k_is); (case a15 => k_is); (case l15 => k_is); (case c15 => k_is); (case k15 => k_is); (case a16 => k_is); (case l16 => k_is); (case c16 => k_is); (case k16 => k_is); (case a17 => k_is); (case l17 => k_is); (case c17 => k_is); (case k17 => k_is); (case a18 => k_is); (case l18 => k_is); (case c18 => k_is); (case k18 => k_is); (case a19 => k_is); (case l19 => k_is); (case c19 => k_is); (case k19 => k_is); (case z0 => k_is); (case z1 => k_is); (case z2 => k_is); (case z3 => k_is); (case z4 => k_is); (case z5 => k_is); (case z6 => k_is); (case z7 => k_is); (case z8 => k_is); (case z9 => k_is); (case z10 => k_is); (case z11 => k_is)

