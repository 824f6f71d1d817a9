import PyProof.Rows.All
import Wide.All
import OpenK.AllK
import Wide.FinOn
import HandS.ForMost
import KE.KeyNested
import HandS.TupAny
import HandS.TupMul
import HandS.Wide
import HandS.IsInst
import HandS.NoneIn
import KE.GoesNew
import HandS.Star
import HandS.Style
import KE.KDictDisplayH
import KE.DataMinMax
import KE.SortData
import PyProof.P3In
import HandS.Dict
import HandS.Small
import HandS.ExcInit
import HandS.ExcField
import HandS.ExcIs
import HandS.ExcOwn
import HandS.Exc
import KE.KTupSum
import HandS.Conv
import HandS.TupLen
import HandS.TupSets
import KE.OsSortAny
import HandS.Gcd
import KE.KMathGC
import KE.KDictWalk
import HandS.Iter
import PyProof.DictWalks
import KE.LtData
import KE.SortCalls
import KE.SortKeyHeap
import HandS.SortKw
import KE.KSortKey
import PyProof.StrBlock2
import PySem.Challenge.RW_onlyhigher_k01_what_is_a_value
set_option Elab.async false
set_option linter.all false
set_option maxRecDepth 100000
/-! Cl: a clean layer over HandS: values as data trees, local lists by value, frozen data, a typed region. -/
namespace Cl
open PySem PySem.Spec PyProof.Rows L2

abbrev St := L2.St
/-- the module's fragment and the world -/
structure KW where
  F : PySem.W.Frag
  w : World
instance : CoeOut KW PySem.W.Frag := ⟨KW.F⟩
abbrev _root_.L2.Cx.kw (X : L2.Cx) : KW := ⟨X.K, X.w⟩

/-- an object of the frame's own: a list, a dict whose keys are tuples of ints and texts -/
inductive OwnC where
  | lst (xs : List PyData)
  | dct (kvs : List (List Key × PyData))
  /-- a dict with keys of any kind -/
  | gdc (kvs : List (PyData × PyData))
inductive SV where
  | dat (d : PyData)
  | obj (o : OwnC)
  | raw (t : Nat)
  | scr (ns : List Int)
  /-- a caught exception: its address, its class by number, its dict, its fields -/
  | exc (a : Addr) (n : Nat) (d : Option Addr) (fs : List (Str × PyData))

abbrev SV.own (xs : List PyData) : SV := .obj (.lst xs)
abbrev SV.gd (kvs : List (PyData × PyData)) : SV := .obj (.gdc kvs)
abbrev SV.dic (kvs : List (List Key × PyData)) : SV := .obj (.dct kvs)
abbrev CS := List (Option SV)

structure GW where
  fz : Addr → Prop
  zs : Addr → Option Nat

/-- the entries of a dict at a -/
def DictHas (a : Addr) (ep : Nat) (es : List DictEntry) (h : Heap) : Prop :=
  a ≠ sysModules ∧ ∃ o, h.get? a = some o ∧ o.ExactDict ∧ o.data = .dict es.toArray ep

mutual
/-- the key that data is, up to == -/
def nkey : PyData → Option NestedKey
  | .none => some .none
  | .bool b => some (.num (if b = true then 1 else 0))
  | .int i => some (.num i)
  | .str x => some (.text x)
  | .tuple ds => (nkeys ds).map .tup
  | .list _ => none
  | .dict _ => none
def nkeys : List PyData → Option (List NestedKey)
  | [] => some []
  | d :: ds => match nkey d, nkeys ds with
    | some k, some ks => some (k :: ks)
    | _, _ => none
end
/-- the entries keep their keys' hashes; no key stands twice, none is deep -/
def Hashed (w : World) (ds : List PyData) (es : List DictEntry) : Prop :=
  ∃ ks, nkeys ds = some ks ∧ ks.Nodup ∧ (∀ k ∈ ks, k.depth ≤ 8) ∧ es.map (·.hash) = ks.map (NestedKey.hash w)
mutual
inductive Rp (K : KW) (H : Hp) (fz : Addr → Prop) : PyData → V → Prop
  | non : Rp K H fz .none .non
  | bl (b : Bool) : Rp K H fz (.bool b) (.bl b)
  | int (i : Int) : Rp K H fz (.int i) (.int i)
  | str (x : Str) : Rp K H fz (.str x) (.str x)
  | lst {a : Addr} {xs : List V} {ds : List PyData} : fz a → H a = some (.lst xs) → RpAll K H fz ds xs → Rp K H fz (.list ds) (.ref a)
  | tup {a : Addr} {xs : List V} {ds : List PyData} : H a = some (.tup xs) → RpAll K H fz ds xs → Rp K H fz (.tuple ds) (.ref a)
  | dct {a : Addr} {ep : Nat} {es : List DictEntry} {ks vs : List V} {kvs : List (PyData × PyData)} : fz a → H a = some (.ext (DictHas a ep es)) →
      Vals ks (es.map (·.key)) → Vals vs (es.map (·.val)) → RpAll K H fz (kvs.map (·.1)) ks → RpAll K H fz (kvs.map (·.2)) vs → Hashed K.w (kvs.map (·.1)) es → Rp K H fz (.dict kvs) (.ref a)
inductive RpAll (K : KW) (H : Hp) (fz : Addr → Prop) : List PyData → List V → Prop
  | nil : RpAll K H fz [] []
  | cons {v : V} {vs : List V} {d : PyData} {ds : List PyData} : Rp K H fz d v → RpAll K H fz ds vs → RpAll K H fz (d :: ds) (v :: vs)
end

section
variable {K : KW} {H H' : Hp} {fz fz' : Addr → Prop}
theorem Rd.go {a : Addr} {u : HO} (h : ∀ o, H a = some o → H' a = some o) (q : Rd H a u) : Rd H' a u := by
  rcases q with q | ⟨o, q⟩
  · exact .inl (h _ q)
  · exact .inr ⟨o, h _ q⟩
mutual
theorem Rp.go (m : ∀ a, fz a → fz' a) (k : ∀ a o, fz a → H a = some o → H' a = some o) (t : ∀ a xs, H a = some (.tup xs) → H' a = some (.tup xs)) :
    ∀ {d : PyData} {v : V}, Rp K H fz d v → Rp K H' fz' d v
  | _, _, .non => .non
  | _, _, .bl b => .bl b
  | _, _, .int i => .int i
  | _, _, .str x => .str x
  | _, _, .lst h q r => .lst (m _ h) (k _ _ h q) (RpAll.go m k t r)
  | _, _, .tup q r => .tup (t _ _ q) (RpAll.go m k t r)
  | _, _, .dct h q k1 v1 r1 r2 hh => .dct (m _ h) (k _ _ h q) k1 v1 (RpAll.go m k t r1) (RpAll.go m k t r2) hh
theorem RpAll.go (m : ∀ a, fz a → fz' a) (k : ∀ a o, fz a → H a = some o → H' a = some o) (t : ∀ a xs, H a = some (.tup xs) → H' a = some (.tup xs)) :
    ∀ {ds : List PyData} {vs : List V}, RpAll K H fz ds vs → RpAll K H' fz' ds vs
  | _, _, .nil => .nil
  | _, _, .cons r s => .cons (Rp.go m k t r) (RpAll.go m k t s)
end
theorem RpAll.length : ∀ {ds : List PyData} {vs : List V}, RpAll K H fz ds vs → ds.length = vs.length
  | _, _, .nil => rfl
  | _, _, .cons _ s => by simp [RpAll.length s]
theorem RpAll.append : ∀ {ds es : List PyData} {vs ws : List V}, RpAll K H fz ds vs → RpAll K H fz es ws → RpAll K H fz (ds ++ es) (vs ++ ws)
  | _, _, _, _, .nil, s => s
  | _, _, _, _, .cons r t, s => .cons r (RpAll.append t s)
theorem RpAll.get : ∀ {ds : List PyData} {vs : List V} {i : Nat} {v : V}, RpAll K H fz ds vs → vs[i]? = some v → ∃ d, ds[i]? = some d ∧ Rp K H fz d v
  | _, _, _, _, .nil, e => by simp at e
  | _, _, 0, _, .cons r _, e => by simp at e; subst e; exact ⟨_, rfl, r⟩
  | _, _, i + 1, v, .cons _ t, e => by
    obtain ⟨d, h1, h2⟩ := RpAll.get (i := i) (v := v) t (by simpa using e)
    exact ⟨d, by simpa using h1, h2⟩
theorem RpAll.get' : ∀ {ds : List PyData} {vs : List V} {i : Nat} {d : PyData}, RpAll K H fz ds vs → ds[i]? = some d → ∃ v, vs[i]? = some v ∧ Rp K H fz d v
  | _, _, _, _, .nil, e => by simp at e
  | _, _, 0, _, .cons r _, e => by simp at e; subst e; exact ⟨_, rfl, r⟩
  | _, _, i + 1, v, .cons _ t, e => by
    obtain ⟨d, h1, h2⟩ := RpAll.get' (i := i) (d := v) t (by simpa using e)
    exact ⟨d, by simpa using h1, h2⟩
theorem RpAll.drop : ∀ {ds : List PyData} {vs : List V} (n : Nat), RpAll K H fz ds vs → RpAll K H fz (ds.drop n) (vs.drop n)
  | _, _, 0, r => r
  | _, _, _ + 1, .nil => .nil
  | _, _, n + 1, .cons _ t => RpAll.drop n t
theorem RpAll.take : ∀ {ds : List PyData} {vs : List V} (n : Nat), RpAll K H fz ds vs → RpAll K H fz (ds.take n) (vs.take n)
  | _, _, 0, _ => .nil
  | _, _, _ + 1, .nil => .nil
  | _, _, n + 1, .cons r t => .cons r (RpAll.take n t)
theorem RpAll.set {d : PyData} {v : V} (r : Rp K H fz d v) : ∀ {ds : List PyData} {vs : List V} (i : Nat), RpAll K H fz ds vs → RpAll K H fz (ds.set i d) (vs.set i v)
  | _, _, _, .nil => .nil
  | _, _, 0, .cons _ t => .cons r t
  | _, _, i + 1, .cons q t => .cons q (RpAll.set r i t)
theorem RpAll.ints : ∀ (ns : List Int), RpAll K H fz (ns.map PyData.int) (ns.map V.int)
  | [] => .nil
  | n :: ns => .cons (.int n) (RpAll.ints ns)
end

/-- the fields of an exception -/
def ExF (K : KW) (g : GW) (H : Hp) (d : Option Addr) (fs : List (Str × PyData)) : Prop :=
  (d = none ∧ fs = []) ∨ ∃ dx vs, d = some dx ∧ H dx = some (.xd ((fs.map (·.1)).zip vs)) ∧ g.fz dx ∧ RpAll K H g.fz (fs.map (·.2)) vs
theorem ExF.go {K : KW} {g g' : GW} {H H' : Hp} {d : Option Addr} {fs : List (Str × PyData)} (m : ∀ a, g.fz a → g'.fz a) (k : ∀ a o, g.fz a → H a = some o → H' a = some o) (t : ∀ a xs, H a = some (.tup xs) → H' a = some (.tup xs)) (r : ExF K g H d fs) : ExF K g' H' d fs := by
  rcases r with h | ⟨dx, vs, e1, e2, e3, e4⟩
  · exact .inl h
  · exact .inr ⟨dx, vs, e1, k dx _ e3 e2, m dx e3, RpAll.go m k t e4⟩
/-- at a stands a dict that holds kvs -/
def GD (K : KW) (H : Hp) (fz : Addr → Prop) (a : Addr) (kvs : List (PyData × PyData)) : Prop :=
  ∃ (ep : Nat) (es : List DictEntry) (ks vs : List V), H a = some (.ext (DictHas a ep es)) ∧ Vals ks (es.map (·.key)) ∧ Vals vs (es.map (·.val)) ∧ RpAll K H fz (kvs.map (·.1)) ks ∧ RpAll K H fz (kvs.map (·.2)) vs ∧ Hashed K.w (kvs.map (·.1)) es
theorem GD.go {K : KW} {H H' : Hp} {fz fz' : Addr → Prop} {a : Addr} {kvs : List (PyData × PyData)} (m : ∀ a, fz a → fz' a) (k : ∀ a o, fz a → H a = some o → H' a = some o) (t : ∀ a xs, H a = some (.tup xs) → H' a = some (.tup xs))
    (e : ∀ u, H a = some u → H' a = some u) (r : GD K H fz a kvs) : GD K H' fz' a kvs := by
  obtain ⟨ep, es, ks, vs, q, k1, v1, r1, r2, hh⟩ := r
  exact ⟨ep, es, ks, vs, e _ q, k1, v1, RpAll.go m k t r1, RpAll.go m k t r2, hh⟩
/-- what a slot's content stands for -/
def RS (K : KW) (g : GW) (H : Hp) : SV → V → Prop
  | .dat d, v => Rp K H g.fz d v
  | .obj (.lst xs), v => ∃ a vs, v = .ref a ∧ H a = some (.lst vs) ∧ ¬ g.fz a ∧ g.zs a = none ∧ RpAll K H g.fz xs vs
  | .obj (.dct kvs), v => ∃ a vs, v = .ref a ∧ H a = some (.dT ((kvs.map (·.1)).zip vs)) ∧ ¬ g.fz a ∧ g.zs a = none ∧ RpAll K H g.fz (kvs.map (·.2)) vs
  | .obj (.gdc kvs), v => ∃ a, v = .ref a ∧ ¬ g.fz a ∧ g.zs a = none ∧ GD K H g.fz a kvs
  | .raw t, v => ∃ a, v = .ref a ∧ g.zs a = some t
  | .scr ns, v => ∃ a, v = .ref a ∧ ((g.fz a ∧ ∃ o, H a = some (.frz o (.lst (ns.map V.int)))) ∨
      ∃ (o : Obj) (its : Array Value) (n : Nat), K.F.lookup a = some o ∧ o.cls = .type "list" ∧ o.dict = none ∧ o.data = .seq its n ∧ its.size ≤ sizeLine ∧ Vals (ns.map V.int) its.toList)
  | .exc a _ d fs, v => v = .ref a ∧ ExF K g H d fs

def ow (cs : CS) (σ : St) (a : Addr) : Prop := ∃ (i : Nat) (xs : OwnC), cs[i]? = some (some (SV.obj xs)) ∧ σ[i]? = some (some (.ref a))

/-- a step: what is kept -/
structure Frm (w : Addr → Prop) (g : GW) (H : Hp) (g' : GW) (H' : Hp) : Prop where
  keep : ∀ a o, H a = some o → g.zs a = none → ¬ w a → H' a = some o
  fzm : ∀ a, g.fz a → g'.fz a
  zsm : ∀ a t, g.zs a = some t → g'.zs a = some t
  fzn : ∀ a o, H a = some o → ¬ w a → g'.fz a → g.fz a
  zsn : ∀ a o, H a = some o → g.zs a = none → g'.zs a = none
  tups : ∀ a xs, H a = some (.tup xs) → H' a = some (.tup xs)
  any : ∀ a o, H a = some o → ∃ o', H' a = some o'

abbrev Bs := Hp × GW
abbrev ZF := Nat → (Addr → Option Nat) → HO → Prop
/-- the region's law; what is told of the start -/
structure ZT where
  zp : ZF
  bs : Bs → Prop

structure Rel (K : KW) (ZP : ZT) (B : Bs) (g : GW) (H : Hp) (cs : CS) (σ : St) : Prop where
  len : cs.length = σ.length
  slot : ∀ (i : Nat) (sv : SV), cs[i]? = some (some sv) → ∃ v, σ[i]? = some (some v) ∧ RS K g H sv v
  sep : ∀ (i j : Nat) (xs ys : OwnC) (a : Addr), cs[i]? = some (some (.obj xs)) → cs[j]? = some (some (.obj ys)) → σ[i]? = some (some (.ref a)) → σ[j]? = some (some (.ref a)) → i = j
  zok : ∀ a t, g.zs a = some t → ∃ o, H a = some o ∧ ZP.zp t g.zs o
  fzok : ∀ a, g.fz a → (∃ o, H a = some o) ∧ g.zs a = none
  base : Frm (fun _ => False) B.2 B.1 g H
  fresh : ∀ a, ow cs σ a → B.1 a = none
  bs : ZP.bs B

abbrev TD := CS → (SV → CS → Prop) → Prop
abbrev TTD := CS → (Bool → CS → Prop) → Prop
abbrev TAD := CS → (List SV → CS → Prop) → Prop

/-- a temporary list of its own -/
def Tmp (H : Hp) (cs : CS) (σ : St) (sv : SV) (v : V) : Prop := ∀ xs a, sv = .obj xs → v = .ref a → ¬ ow cs σ a ∧ H a = none

def tD (K : KW) (ZP : ZT) (t : TD) : TE := fun σ H Q => ∃ B cs g, Rel K ZP B g H cs σ ∧ ∃ Q', t cs Q' ∧
  ∀ sv cs' v g' H', Q' sv cs' → Rel K ZP B g' H' cs' σ → RS K g' H' sv v → Tmp H cs' σ sv v → (∀ a, ow cs' σ a → ow cs σ a) → Frm (ow cs σ) g H g' H' → Q v H'
def tT (K : KW) (ZP : ZT) (t : TTD) : TT := fun σ H Q => ∃ B cs g, Rel K ZP B g H cs σ ∧ ∃ Q', t cs Q' ∧
  ∀ b cs' g' H', Q' b cs' → Rel K ZP B g' H' cs' σ → (∀ a, ow cs' σ a → ow cs σ a) → Frm (ow cs σ) g H g' H' → Q b H'

structure DE (X : Cx) (ZP : ZT) (e : Expr) (t : TD) : Prop where
  pe : PE X e (tD X.kw ZP t)
structure DT (X : Cx) (ZP : ZT) (e : Expr) (t : TTD) : Prop where
  pt : PT X e (tT X.kw ZP t)

section
variable {X : Cx} {e : Expr}
theorem PE.imp {t t' : TE} (h : PE X e t) (m : ∀ σ H Q, t' σ H Q → t σ H Q) : PE X e t' := ⟨fun pins s σ H Q I q => h.run pins s σ H Q I (m _ _ _ q)⟩
theorem PT.imp {t t' : TT} (h : PT X e t) (m : ∀ σ H Q, t' σ H Q → t σ H Q) : PT X e t' := ⟨fun pins s σ H Q I q => h.run pins s σ H Q I (m _ _ _ q)⟩
theorem PS.imp {st : Stmt} {t t' : TS} (h : PS X st t) (m : ∀ D σ H, t' D σ H → t D σ H) : PS X st t' := ⟨fun pins s σ H D I q => h.run pins s σ H D I (m _ _ _ q)⟩
theorem PSs.imp {st : List Stmt} {t t' : TS} (h : PSs X st t) (m : ∀ D σ H, t' D σ H → t D σ H) : PSs X st t' := ⟨fun pins s σ H D I q => h.run pins s σ H D I (m _ _ _ q)⟩
end

/-! ### frames -/
section
variable {K : KW} {ZP : ZT} {B : Bs} {g g' g2 : GW} {H H' H2 : Hp} {cs cs' : CS} {σ : St} {w w' : Addr → Prop} {p : Addr} {o : HO}
theorem Frm.refl : Frm w g H g H := ⟨fun _ _ e _ _ => e, fun _ h => h, fun _ _ h => h, fun _ _ _ _ h => h, fun _ _ _ h => h, fun _ _ h => h, fun _ o e => ⟨o, e⟩⟩
theorem Frm.mono (f : Frm w g H g' H') (h : ∀ a o, H a = some o → w a → w' a) : Frm w' g H g' H' :=
  ⟨fun a o e z n => f.keep a o e z fun q => n (h a o e q), f.fzm, f.zsm, fun a o e n q => f.fzn a o e (fun r => n (h a o e r)) q, f.zsn, f.tups, f.any⟩
theorem Frm.trans (f : Frm w g H g' H') (f2 : Frm w g' H' g2 H2) : Frm w g H g2 H2 where
  keep := fun a o e z n => f2.keep a o (f.keep a o e z n) (f.zsn a o e z) n
  fzm := fun a h => f2.fzm a (f.fzm a h)
  zsm := fun a t h => f2.zsm a t (f.zsm a t h)
  fzn := fun a o e n h => by
    obtain ⟨o', e'⟩ := f.any a o e
    exact f.fzn a o e n (f2.fzn a o' e' n h)
  zsn := fun a o e z => by
    obtain ⟨o', e'⟩ := f.any a o e
    exact f2.zsn a o' e' (f.zsn a o e z)
  tups := fun a xs h => f2.tups a xs (f.tups a xs h)
  any := fun a o e => by
    obtain ⟨o', e'⟩ := f.any a o e
    exact f2.any a o' e'
theorem updn {a : Addr} {u : HO} (hp : H p = none) (h : H a = some u) : upd H p o a = some u := by rw [upd_ne (ne_of_none h hp)]; exact h
/-- a new object -/
theorem Frm.laid (hp : H p = none) : Frm w g H g (upd H p o) where
  keep := fun a u e _ _ => by rw [upd_ne (ne_of_none e hp)]; exact e
  fzm := fun _ h => h
  zsm := fun _ _ h => h
  fzn := fun _ _ _ _ h => h
  zsn := fun _ _ _ h => h
  tups := fun a xs h => updn hp h
  any := fun a u e => ⟨u, by rw [upd_ne (ne_of_none e hp)]; exact e⟩
theorem Rp.frm {d : PyData} {v : V} (f : Frm w g H g' H') (hw : ∀ a, g.fz a → g.zs a = none ∧ ¬ w a) (r : Rp K H g.fz d v) : Rp K H' g'.fz d v :=
  Rp.go f.fzm (fun a o h e => f.keep a o e (hw a h).1 (hw a h).2) f.tups r
theorem RpAll.frm {ds : List PyData} {vs : List V} (f : Frm w g H g' H') (hw : ∀ a, g.fz a → g.zs a = none ∧ ¬ w a) (r : RpAll K H g.fz ds vs) : RpAll K H' g'.fz ds vs :=
  RpAll.go f.fzm (fun a o h e => f.keep a o e (hw a h).1 (hw a h).2) f.tups r
theorem RS.ownAt {o : OwnC} {v : V} (r : RS K g H (.obj o) v) : ∃ a u, v = .ref a ∧ H a = some u ∧ ¬ g.fz a ∧ g.zs a = none ∧ ∀ xs, u ≠ .tup xs := by
  cases o with
  | lst xs =>
    obtain ⟨a, vs, e, h, n1, n2, _⟩ := r
    exact ⟨a, _, e, h, n1, n2, fun _ z => nomatch z⟩
  | dct xs =>
    obtain ⟨a, vs, e, h, n1, n2, _⟩ := r
    exact ⟨a, _, e, h, n1, n2, fun _ z => nomatch z⟩
  | gdc xs =>
    obtain ⟨a, e, n1, n2, ep, es, ks, vs, h, _⟩ := r
    exact ⟨a, _, e, h, n1, n2, fun _ z => nomatch z⟩
theorem RS.objGo {g' : GW} {H' : Hp} {o : OwnC} {v : V} (r : RS K g H (.obj o) v) (m : ∀ a, g.fz a → g'.fz a) (k : ∀ a o, g.fz a → H a = some o → H' a = some o) (t : ∀ a xs, H a = some (.tup xs) → H' a = some (.tup xs))
    (ha : ∀ a u, v = .ref a → H a = some u → ¬ g.fz a → g.zs a = none → H' a = some u ∧ ¬ g'.fz a ∧ g'.zs a = none) : RS K g' H' (.obj o) v := by
  cases o with
  | lst xs =>
    obtain ⟨a, vs, e, h, n1, n2, q⟩ := r
    obtain ⟨h1, h2, h3⟩ := ha a _ e h n1 n2
    exact ⟨a, vs, e, h1, h2, h3, RpAll.go m k t q⟩
  | dct xs =>
    obtain ⟨a, vs, e, h, n1, n2, q⟩ := r
    obtain ⟨h1, h2, h3⟩ := ha a _ e h n1 n2
    exact ⟨a, vs, e, h1, h2, h3, RpAll.go m k t q⟩
  | gdc xs =>
    obtain ⟨a, e, n1, n2, q⟩ := r
    obtain ⟨ep, es, ks, vs, h, _⟩ := id q
    obtain ⟨h1, h2, h3⟩ := ha a _ e h n1 n2
    exact ⟨a, e, h2, h3, q.go m k t fun u z => by rw [h] at z; cases z; exact h1⟩
theorem RS.frm {sv : SV} {v : V} (f : Frm w g H g' H') (hw : ∀ a, g.fz a → g.zs a = none ∧ ¬ w a) (ho : ∀ xs a, sv = .obj xs → v = .ref a → ¬ w a) (r : RS K g H sv v) : RS K g' H' sv v := by
  cases sv with
  | dat d => exact Rp.frm f hw r
  | obj xs =>
    cases xs with
    | lst xs =>
      obtain ⟨a, vs, rfl, h, n1, n2, q⟩ := r
      have nw := ho _ a rfl rfl
      exact ⟨a, vs, rfl, f.keep a _ h n2 nw, fun z => n1 (f.fzn a _ h nw z), f.zsn a _ h n2, q.frm f hw⟩
    | dct xs =>
      obtain ⟨a, vs, rfl, h, n1, n2, q⟩ := r
      have nw := ho _ a rfl rfl
      exact ⟨a, vs, rfl, f.keep a _ h n2 nw, fun z => n1 (f.fzn a _ h nw z), f.zsn a _ h n2, q.frm f hw⟩
    | gdc xs =>
      obtain ⟨a, rfl, n1, n2, q⟩ := r
      obtain ⟨ep, es, ks, vs, h, _⟩ := id q
      have nw := ho _ a rfl rfl
      exact ⟨a, rfl, fun z => n1 (f.fzn a _ h nw z), f.zsn a _ h n2, q.go f.fzm (fun a o h e => f.keep a o e (hw a h).1 (hw a h).2) f.tups fun u e => f.keep a u e n2 nw⟩
  | raw t =>
    obtain ⟨a, rfl, h⟩ := r
    exact ⟨a, rfl, f.zsm a t h⟩
  | scr ns =>
    obtain ⟨a, rfl, h⟩ := r
    refine ⟨a, rfl, ?_⟩
    rcases h with ⟨h1, o, h2⟩ | h
    · exact .inl ⟨f.fzm a h1, o, f.keep a _ h2 (hw a h1).1 (hw a h1).2⟩
    · exact .inr h
  | exc a n d fs =>
    obtain ⟨e, h⟩ := r
    refine ⟨e, ?_⟩
    rcases h with h | ⟨dx, vs, e1, e2, e3, e4⟩
    · exact .inl h
    · exact .inr ⟨dx, vs, e1, f.keep dx _ e2 (hw dx e3).1 (hw dx e3).2, f.fzm dx e3, e4.frm f hw⟩
theorem Rel.fzow (R : Rel K ZP B g H cs σ) : ∀ a, g.fz a → g.zs a = none ∧ ¬ ow cs σ a := fun a h => by
  refine ⟨(R.fzok a h).2, ?_⟩
  rintro ⟨i, xs, e1, e2⟩
  obtain ⟨v, e3, r⟩ := R.slot i _ e1
  rw [e2] at e3; cases e3
  obtain ⟨b, u, e, _, n, _⟩ := r.ownAt
  cases e
  exact n h
theorem Rel.bnone (R : Rel K ZP B g H cs σ) {a : Addr} (h : H a = none) : B.1 a = none := by
  cases e : B.1 a with
  | none => rfl
  | some o =>
    obtain ⟨o', e'⟩ := R.base.any a o e
    rw [h] at e'; cases e'
theorem Rel.owsome (R : Rel K ZP B g H cs σ) {a : Addr} (h : ow cs σ a) : ∃ u, H a = some u := by
  obtain ⟨i, xs, e1, e2⟩ := h
  obtain ⟨v, e3, r⟩ := R.slot i _ e1
  rw [e2] at e3; cases e3
  obtain ⟨b, u, e, h, _⟩ := r.ownAt
  cases e
  exact ⟨u, h⟩
/-- a step that leaves the slots' own lists -/
theorem Rel.go (R : Rel K ZP B g H cs σ) (f : Frm (fun _ => False) g H g' H') (z : ∀ a t, g'.zs a = some t → ∃ o, H' a = some o ∧ ZP.zp t g'.zs o) (fz : ∀ a, g'.fz a → (∃ o, H' a = some o) ∧ g'.zs a = none) : Rel K ZP B g' H' cs σ where
  len := R.len
  slot := fun i sv e => by
    obtain ⟨v, e1, r⟩ := R.slot i sv e
    exact ⟨v, e1, r.frm f (fun a h => ⟨(R.fzow a h).1, fun z => z⟩) fun _ _ _ _ z => z⟩
  sep := R.sep
  zok := z
  fzok := fz
  base := R.base.trans f
  fresh := R.fresh
  bs := R.bs
theorem Rel.laid (R : Rel K ZP B g H cs σ) (hp : H p = none) : Rel K ZP B g (upd H p o) cs σ :=
  R.go (Frm.laid hp) (fun a t h => by
    obtain ⟨u, e, q⟩ := R.zok a t h
    exact ⟨u, by rw [upd_ne (ne_of_none e hp)]; exact e, q⟩) fun a h => by
    obtain ⟨⟨u, e⟩, q⟩ := R.fzok a h
    exact ⟨⟨u, by rw [upd_ne (ne_of_none e hp)]; exact e⟩, q⟩
theorem Rel.nofz (R : Rel K ZP B g H cs σ) (hp : H p = none) : ¬ g.fz p ∧ g.zs p = none := by
  refine ⟨fun h => ?_, ?_⟩
  · obtain ⟨⟨u, e⟩, _⟩ := R.fzok p h
    rw [hp] at e; cases e
  · cases z : g.zs p with
    | none => rfl
    | some t =>
      obtain ⟨u, e, _⟩ := R.zok p t z
      rw [hp] at e; cases e
/-- one more address frozen -/
def GW.freeze (g : GW) (a : Addr) : GW := { g with fz := fun b => g.fz b ∨ b = a }
theorem Frm.freeze {a : Addr} (n : ∀ o, H a = some o → w a) : Frm w g H (g.freeze a) H where
  keep := fun _ _ e _ _ => e
  fzm := fun _ h => .inl h
  zsm := fun _ _ h => h
  fzn := fun b o e nw h => by
    rcases h with h | h
    · exact h
    · subst h; exact absurd (n o e) nw
  zsn := fun _ _ _ h => h
  tups := fun _ _ h => h
  any := fun _ o e => ⟨o, e⟩
end
end Cl

namespace Cl
open PySem PySem.Spec PyProof.Rows L2

/-- read as data: the top may be a list of the frame's own -/
def RB (K : KW) (H : Hp) (fz : Addr → Prop) : PyData → V → Prop
  | .list ds, v => ∃ a vs, v = .ref a ∧ H a = some (.lst vs) ∧ RpAll K H fz ds vs
  | .dict kvs, v => ∃ (a : Addr) (ep : Nat) (es : List DictEntry) (ks vs : List V), v = .ref a ∧ H a = some (.ext (DictHas a ep es)) ∧ Vals ks (es.map (·.key)) ∧ Vals vs (es.map (·.val)) ∧
      RpAll K H fz (kvs.map (·.1)) ks ∧ RpAll K H fz (kvs.map (·.2)) vs ∧ Hashed K.w (kvs.map (·.1)) es
  | d, v => Rp K H fz d v
theorem Rp.rb {K : KW} {H : Hp} {fz : Addr → Prop} {d : PyData} {v : V} (r : Rp K H fz d v) : RB K H fz d v := by
  cases r with
  | non => exact .non
  | bl b => exact .bl b
  | int i => exact .int i
  | str x => exact .str x
  | lst h q r => exact ⟨_, _, rfl, q, r⟩
  | tup q r => exact .tup q r
  | dct h q k1 v1 r1 r2 hh => exact ⟨_, _, _, _, _, rfl, q, k1, v1, r1, r2, hh⟩

/-- a result: a thing that is there, or a new tuple, or a new list -/
inductive Res (K : KW) (H : Hp) (fz : Addr → Prop) : SV → V → Hp → Prop
  | same {d : PyData} {z : V} : Rp K H fz d z → Res K H fz (.dat d) z H
  | tup {ds : List PyData} {vs : List V} {p : Addr} : H p = none → RpAll K H fz ds vs → Res K H fz (.dat (.tuple ds)) (.ref p) (upd H p (.tup vs))
  | lst {ds : List PyData} {vs : List V} {p : Addr} : H p = none → RpAll K H fz ds vs → Res K H fz (.own ds) (.ref p) (upd H p (.lst vs))

section
variable {K : KW} {ZP : ZT} {B : Bs} {g g' g2 : GW} {H H' H2 : Hp} {cs cs' : CS} {σ : St} {w w' : Addr → Prop} {p : Addr} {o : HO}
theorem RpAll.laid {fz : Addr → Prop} (n : ∀ a, fz a → a ≠ p) (hp : H p = none) {ds : List PyData} {vs : List V} (r : RpAll K H fz ds vs) : RpAll K (upd H p o) fz ds vs :=
  RpAll.go (fun _ h => h) (fun a u h e => by rw [upd_ne (n a h)]; exact e) (fun a xs h => updn hp h) r
theorem Rel.fzne (R : Rel K ZP B g H cs σ) (hp : H p = none) : ∀ a, g.fz a → a ≠ p := fun a h e => by
  subst e; exact (R.nofz hp).1 h
theorem Res.fin {sv : SV} {z : V} (R : Rel K ZP B g H cs σ) (r : Res K H g.fz sv z H') : Rel K ZP B g H' cs σ ∧ RS K g H' sv z ∧ Tmp H cs σ sv z ∧ Frm (ow cs σ) g H g H' := by
  cases r with
  | same r => exact ⟨R, r, (fun xs a e => nomatch e), .refl⟩
  | @tup ds vs p hp r =>
    exact ⟨R.laid hp, .tup upd_same (r.laid (R.fzne hp) hp), (fun xs a e => nomatch e), .laid hp⟩
  | @lst ds vs p hp r =>
    have n := R.nofz hp
    refine ⟨R.laid hp, ⟨_, _, rfl, upd_same, n.1, n.2, r.laid (R.fzne hp) hp⟩, fun xs a e1 e2 => ?_, .laid hp⟩
    cases e2
    refine ⟨fun h => ?_, hp⟩
    obtain ⟨vs, e⟩ := R.owsome h
    rw [hp] at e; cases e
/-- a temporary list is frozen -/
theorem Rel.freezeTmp {xs : List PyData} {a : Addr} (R : Rel K ZP B g H cs σ) (r : RS K g H (.own xs) (.ref a)) (n : ¬ ow cs σ a) (hb : B.1 a = none) :
    Rel K ZP B (g.freeze a) H cs σ ∧ Rp K H (g.freeze a).fz (.list xs) (.ref a) := by
  obtain ⟨b, vs, e, h, n1, n2, q⟩ := r
  cases e
  have f : Frm (fun b => b = a) g H (g.freeze a) H := .freeze fun _ _ => rfl
  have q' : RpAll K H (g.freeze a).fz xs vs := RpAll.go (fun _ h => .inl h) (fun _ _ _ e => e) (fun _ _ e => e) q
  refine ⟨⟨R.len, fun i sv e => ?_, R.sep, R.zok, fun b hb => ?_, ?_, R.fresh, R.bs⟩, .lst (.inr rfl) h q'⟩
  · obtain ⟨v, e1, r⟩ := R.slot i sv e
    refine ⟨v, e1, r.frm f (fun b hf => ⟨(R.fzow b hf).1, fun z => ?_⟩) fun ys b e2 e3 e4 => ?_⟩
    · have z : b = a := z
      subst z; exact n1 hf
    · have e4 : b = a := e4
      subst e4; subst e2; subst e3
      exact n ⟨i, ys, e, e1⟩
  · rcases hb with hb | hb
    · exact R.fzok b hb
    · subst hb; exact ⟨⟨_, h⟩, n2⟩
  · refine ⟨R.base.keep, fun b h => .inl (R.base.fzm b h), R.base.zsm, fun b o e nw h => ?_, R.base.zsn, R.base.tups, R.base.any⟩
    rcases h with h | h
    · exact R.base.fzn b o e nw h
    · subst h; rw [hb] at e; cases e
theorem Frm.freezeTmp {a : Addr} (f : Frm w g H g' H') (h : H a = none) : Frm w g H (g'.freeze a) H' where
  keep := f.keep
  fzm := fun b h => .inl (f.fzm b h)
  zsm := f.zsm
  fzn := fun b o e nw q => by
    rcases q with q | q
    · exact f.fzn b o e nw q
    · subst q; rw [h] at e; cases e
  zsn := f.zsn
  tups := f.tups
  any := f.any
/-- a slot's own list is frozen -/
theorem Rel.freezeSlot {i : Nat} {xs : List PyData} {a : Addr} (R : Rel K ZP B g H cs σ) (e1 : cs[i]? = some (some (.own xs))) (e2 : σ[i]? = some (some (.ref a))) :
    Rel K ZP B (g.freeze a) H (cs.set i (some (.dat (.list xs)))) σ ∧ Rp K H (g.freeze a).fz (.list xs) (.ref a) ∧ Frm (ow cs σ) g H (g.freeze a) H ∧ ∀ b, ow (cs.set i (some (.dat (.list xs)))) σ b → ow cs σ b := by
  obtain ⟨v, e3, b, vs, e, h, n1, n2, q⟩ := R.slot i _ e1
  rw [e2] at e3; cases e3
  cases e
  have f : Frm (fun b => b = a) g H (g.freeze a) H := .freeze fun _ _ => rfl
  have q' : RpAll K H (g.freeze a).fz xs vs := RpAll.go (fun _ h => .inl h) (fun _ _ _ e => e) (fun _ _ e => e) q
  have rp : Rp K H (g.freeze a).fz (.list xs) (.ref a) := .lst (.inr rfl) h q'
  have hi : i < cs.length := (List.getElem?_eq_some_iff.mp e1).1
  have hset : ∀ (j : Nat) (sv : SV), (cs.set i (some (.dat (.list xs))))[j]? = some (some sv) → (j = i ∧ sv = .dat (.list xs)) ∨ (j ≠ i ∧ cs[j]? = some (some sv)) := fun j sv e => by
    by_cases hj : j = i
    · subst hj
      rw [List.getElem?_set_self hi] at e
      cases e; exact .inl ⟨rfl, rfl⟩
    · rw [List.getElem?_set_ne (Ne.symm hj)] at e
      exact .inr ⟨hj, e⟩
  have sub : ∀ b, ow (cs.set i (some (.dat (.list xs)))) σ b → ow cs σ b := fun b ⟨j, ys, h1, h2⟩ => by
    rcases hset j _ h1 with ⟨_, z⟩ | ⟨_, z⟩
    · cases z
    · exact ⟨j, ys, z, h2⟩
  have hb : B.1 a = none := R.fresh a ⟨i, _, e1, e2⟩
  refine ⟨⟨by rw [List.length_set]; exact R.len, fun j sv e => ?_, fun j k ys zs b h1 h2 h3 h4 => ?_, R.zok, fun b hb => ?_, ?_, fun b hb => R.fresh b (sub b hb), R.bs⟩, rp, .freeze fun _ _ => ⟨i, _, e1, e2⟩, sub⟩
  · rcases hset j sv e with ⟨rfl, rfl⟩ | ⟨hj, e⟩
    · exact ⟨_, e2, rp⟩
    · obtain ⟨v, e3, r⟩ := R.slot j sv e
      refine ⟨v, e3, r.frm f (fun b hf => ⟨(R.fzow b hf).1, fun z => ?_⟩) fun ys b e4 e5 e6 => ?_⟩
      · have z : b = a := z
        subst z; exact n1 hf
      · have e6 : b = a := e6
        subst e6; subst e4; subst e5
        exact hj (R.sep j i ys _ b e e1 e3 e2)
  · rcases hset j _ h1 with ⟨_, z⟩ | ⟨_, z1⟩
    · cases z
    · rcases hset k _ h2 with ⟨_, z⟩ | ⟨_, z2⟩
      · cases z
      · exact R.sep j k ys zs b z1 z2 h3 h4
  · rcases hb with hb | hb
    · exact R.fzok b hb
    · subst hb; exact ⟨⟨_, h⟩, n2⟩
  · refine ⟨R.base.keep, fun b h => .inl (R.base.fzm b h), R.base.zsm, fun b o e nw h => ?_, R.base.zsn, R.base.tups, R.base.any⟩
    rcases h with h | h
    · exact R.base.fzn b o e nw h
    · subst h; rw [hb] at e; cases e
/-- a temporary dict is frozen -/
theorem Rel.freezeTmpG {xs : List (PyData × PyData)} {a : Addr} (R : Rel K ZP B g H cs σ) (r : RS K g H (.gd xs) (.ref a)) (n : ¬ ow cs σ a) (hb : B.1 a = none) :
    Rel K ZP B (g.freeze a) H cs σ ∧ Rp K H (g.freeze a).fz (.dict xs) (.ref a) := by
  obtain ⟨b, e, n1, n2, ep, es, ks, vs, h, k1, v1, q1, q2, hh⟩ := r
  cases e
  have f : Frm (fun b => b = a) g H (g.freeze a) H := .freeze fun _ _ => rfl
  have q' : ∀ {ds us}, RpAll K H g.fz ds us → RpAll K H (g.freeze a).fz ds us := fun q => RpAll.go (fun _ h => .inl h) (fun _ _ _ e => e) (fun _ _ e => e) q
  refine ⟨⟨R.len, fun i sv e => ?_, R.sep, R.zok, fun b hb => ?_, ?_, R.fresh, R.bs⟩, .dct (.inr rfl) h k1 v1 (q' q1) (q' q2) hh⟩
  · obtain ⟨v, e1, r⟩ := R.slot i sv e
    refine ⟨v, e1, r.frm f (fun b hf => ⟨(R.fzow b hf).1, fun z => ?_⟩) fun ys b e2 e3 e4 => ?_⟩
    · have z : b = a := z
      subst z; exact n1 hf
    · have e4 : b = a := e4
      subst e4; subst e2; subst e3
      exact n ⟨i, ys, e, e1⟩
  · rcases hb with hb | hb
    · exact R.fzok b hb
    · subst hb; exact ⟨⟨_, h⟩, n2⟩
  · refine ⟨R.base.keep, fun b h => .inl (R.base.fzm b h), R.base.zsm, fun b o e nw h => ?_, R.base.zsn, R.base.tups, R.base.any⟩
    rcases h with h | h
    · exact R.base.fzn b o e nw h
    · subst h; rw [hb] at e; cases e
/-- a slot's own dict is frozen -/
theorem Rel.freezeSlotG {i : Nat} {xs : List (PyData × PyData)} {a : Addr} (R : Rel K ZP B g H cs σ) (e1 : cs[i]? = some (some (.gd xs))) (e2 : σ[i]? = some (some (.ref a))) :
    Rel K ZP B (g.freeze a) H (cs.set i (some (.dat (.dict xs)))) σ ∧ Rp K H (g.freeze a).fz (.dict xs) (.ref a) ∧ Frm (ow cs σ) g H (g.freeze a) H ∧ ∀ b, ow (cs.set i (some (.dat (.dict xs)))) σ b → ow cs σ b := by
  obtain ⟨v, e3, b, e, n1, n2, ep, es, ks, vs, h, k1, v1, q1, q2, hh⟩ := R.slot i _ e1
  rw [e2] at e3; cases e3
  cases e
  have f : Frm (fun b => b = a) g H (g.freeze a) H := .freeze fun _ _ => rfl
  have q' : ∀ {ds us}, RpAll K H g.fz ds us → RpAll K H (g.freeze a).fz ds us := fun q => RpAll.go (fun _ h => .inl h) (fun _ _ _ e => e) (fun _ _ e => e) q
  have rp : Rp K H (g.freeze a).fz (.dict xs) (.ref a) := .dct (.inr rfl) h k1 v1 (q' q1) (q' q2) hh
  have hi : i < cs.length := (List.getElem?_eq_some_iff.mp e1).1
  have hset : ∀ (j : Nat) (sv : SV), (cs.set i (some (.dat (.dict xs))))[j]? = some (some sv) → (j = i ∧ sv = .dat (.dict xs)) ∨ (j ≠ i ∧ cs[j]? = some (some sv)) := fun j sv e => by
    by_cases hj : j = i
    · subst hj
      rw [List.getElem?_set_self hi] at e
      cases e; exact .inl ⟨rfl, rfl⟩
    · rw [List.getElem?_set_ne (Ne.symm hj)] at e
      exact .inr ⟨hj, e⟩
  have sub : ∀ b, ow (cs.set i (some (.dat (.dict xs)))) σ b → ow cs σ b := fun b ⟨j, ys, h1, h2⟩ => by
    rcases hset j _ h1 with ⟨_, z⟩ | ⟨_, z⟩
    · cases z
    · exact ⟨j, ys, z, h2⟩
  have hb : B.1 a = none := R.fresh a ⟨i, _, e1, e2⟩
  refine ⟨⟨by rw [List.length_set]; exact R.len, fun j sv e => ?_, fun j k ys zs b h1 h2 h3 h4 => ?_, R.zok, fun b hb => ?_, ?_, fun b hb => R.fresh b (sub b hb), R.bs⟩, rp, .freeze fun _ _ => ⟨i, _, e1, e2⟩, sub⟩
  · rcases hset j sv e with ⟨rfl, rfl⟩ | ⟨hj, e⟩
    · exact ⟨_, e2, rp⟩
    · obtain ⟨v, e3, r⟩ := R.slot j sv e
      refine ⟨v, e3, r.frm f (fun b hf => ⟨(R.fzow b hf).1, fun z => ?_⟩) fun ys b e4 e5 e6 => ?_⟩
      · have z : b = a := z
        subst z; exact n1 hf
      · have e6 : b = a := e6
        subst e6; subst e4; subst e5
        exact hj (R.sep j i ys _ b e e1 e3 e2)
  · rcases hset j _ h1 with ⟨_, z⟩ | ⟨_, z1⟩
    · cases z
    · rcases hset k _ h2 with ⟨_, z⟩ | ⟨_, z2⟩
      · cases z
      · exact R.sep j k ys zs b z1 z2 h3 h4
  · rcases hb with hb | hb
    · exact R.fzok b hb
    · subst hb; exact ⟨⟨_, h⟩, n2⟩
  · refine ⟨R.base.keep, fun b h => .inl (R.base.fzm b h), R.base.zsm, fun b o e nw h => ?_, R.base.zsn, R.base.tups, R.base.any⟩
    rcases h with h | h
    · exact R.base.fzn b o e nw h
    · subst h; rw [hb] at e; cases e
end

/-! ### judgements for data -/
abbrev TVD := CS → (PyData → CS → Prop) → Prop
/-- a left side: data, or a slot that is read when the right side is there -/
inductive LV where
  | now (d : PyData)
  | slot (i : Nat)
abbrev TLD := CS → (LV → CS → Prop) → Prop
def SV.view : SV → Option PyData
  | .dat d => some d
  | .obj (.lst xs) => some (.list xs)
  | .obj (.dct _) => none
  | .obj (.gdc kvs) => some (.dict kvs)
  | .raw _ => none
  | .scr _ => none
  | .exc _ _ _ _ => none
def CS.at_ (cs : CS) (i : Nat) : Option PyData := match cs[i]? with
  | some (some sv) => sv.view
  | _ => none
def LV.get (l : LV) (cs : CS) : Option PyData := match l with
  | .now d => some d
  | .slot i => cs.at_ i
def LOk (K : KW) (g : GW) (H : Hp) (σ : St) : LV → V → Prop
  | .now d, v => Rp K H g.fz d v
  | .slot i, v => σ[i]? = some (some v)

def tV (K : KW) (ZP : ZT) (t : TVD) : TE := fun σ H Q => ∃ B cs g, Rel K ZP B g H cs σ ∧ ∃ Q', t cs Q' ∧
  ∀ d cs' v g' H', Q' d cs' → Rel K ZP B g' H' cs' σ → Rp K H' g'.fz d v → (∀ a, ow cs' σ a → ow cs σ a) → Frm (ow cs σ) g H g' H' → Q v H'
def tLt (K : KW) (ZP : ZT) (t : TLD) : TE := fun σ H Q => ∃ B cs g, Rel K ZP B g H cs σ ∧ ∃ Q', t cs Q' ∧
  ∀ l cs' v g' H', Q' l cs' → Rel K ZP B g' H' cs' σ → LOk K g' H' σ l v → (∀ a, ow cs' σ a → ow cs σ a) → Frm (ow cs σ) g H g' H' → Q v H'
structure DV (X : Cx) (ZP : ZT) (e : Expr) (t : TVD) : Prop where
  pe : PE X e (tV X.kw ZP t)
structure DL (X : Cx) (ZP : ZT) (e : Expr) (t : TLD) : Prop where
  pe : PE X e (tLt X.kw ZP t)

section
variable {X : Cx} {ZP : ZT} {e a b : Expr} {pos : Pos}
def t_v (t : TVD) : TD := fun cs Q => t cs fun d cs' => Q (.dat d) cs'
theorem de_v {t : TVD} (h : DV X ZP e t) : DE X ZP e (t_v t) := ⟨PE.imp h.pe fun σ H Q ⟨B, cs, g, R, Q', q, k⟩ =>
  ⟨B, cs, g, R, _, q, fun d cs' v g' H' q' R' r s f => k (.dat d) cs' v g' H' q' R' r (fun xs a e => nomatch e) s f⟩⟩
def t_f (t : TD) : TVD := fun cs Q => t cs fun sv cs' => match sv.view with
  | some d => Q d cs'
  | none => False
theorem dv_e {t : TD} (h : DE X ZP e t) : DV X ZP e (t_f t) := by
  refine ⟨PE.imp h.pe ?_⟩
  rintro σ H Q ⟨B, cs, g, R, Q', q, k⟩
  refine ⟨B, cs, g, R, _, q, fun sv cs' v g' H' q' R' r tm s f => ?_⟩
  cases sv with
  | dat d => exact k d cs' v g' H' q' R' r s f
  | raw t => exact q'.elim
  | scr t => exact q'.elim
  | exc _ _ _ _ => exact q'.elim
  | obj o =>
    cases o with
    | dct _ => exact q'.elim
    | gdc xs =>
      obtain ⟨a, rfl, _⟩ := id r
      obtain ⟨n, hn⟩ := tm _ a rfl rfl
      obtain ⟨R2, r2⟩ := R'.freezeTmpG r n (R.bnone hn)
      exact k (.dict xs) cs' (.ref a) (g'.freeze a) H' q' R2 r2 s (f.freezeTmp hn)
    | lst xs =>
    obtain ⟨a, vs, rfl, h, _⟩ := id r
    obtain ⟨n, hn⟩ := tm _ a rfl rfl
    obtain ⟨R2, r2⟩ := R'.freezeTmp r n (R.bnone hn)
    exact k (.list xs) cs' (.ref a) (g'.freeze a) H' q' R2 r2 s (f.freezeTmp hn)
def t_l (t : TVD) : TLD := fun cs Q => t cs fun d cs' => Q (.now d) cs'
theorem dl_v {t : TVD} (h : DV X ZP e t) : DL X ZP e (t_l t) := ⟨PE.imp h.pe fun σ H Q ⟨B, cs, g, R, Q', q, k⟩ =>
  ⟨B, cs, g, R, _, q, fun d cs' v g' H' q' R' r s f => k (.now d) cs' v g' H' q' R' r s f⟩⟩

/-! ### names -/
def t_lname (i : Nat) : TLD := fun cs Q => (∃ sv, cs[i]? = some (some sv)) ∧ Q (.slot i) cs
theorem dl_name {i : Nat} {x : Str} (hN : X.N[i]? = some x) (hv : Vis X.env.scope x) (hd : (x == ("__debug__" : Str)) = false := by decide) (hcd : (x == ("__classdict__" : Str)) = false := by decide) : DL X ZP (.Name x pos) (t_lname i) := by
  refine ⟨PE.imp (pe_var hN hv hd hcd) ?_⟩
  rintro σ H Q ⟨B, cs, g, R, Q', ⟨⟨sv, e⟩, q⟩, k⟩
  obtain ⟨v, e1, r⟩ := R.slot i sv e
  exact ⟨v, e1, k _ cs v g H q R e1 (fun _ h => h) .refl⟩
def t_name (i : Nat) : TD := fun cs Q => match cs[i]? with
  | some (some (.obj (.lst xs))) => Q (.dat (.list xs)) (cs.set i (some (.dat (.list xs))))
  | some (some (.obj (.dct _))) => False
  | some (some (.obj (.gdc xs))) => Q (.dat (.dict xs)) (cs.set i (some (.dat (.dict xs))))
  | some (some sv) => Q sv cs
  | _ => False
theorem de_name {i : Nat} {x : Str} (hN : X.N[i]? = some x) (hv : Vis X.env.scope x) (hd : (x == ("__debug__" : Str)) = false := by decide) (hcd : (x == ("__classdict__" : Str)) = false := by decide) : DE X ZP (.Name x pos) (t_name i) := by
  refine ⟨PE.imp (pe_var hN hv hd hcd) ?_⟩
  rintro σ H Q ⟨B, cs, g, R, Q', q, k⟩
  unfold t_name at q
  cases e : cs[i]? with
  | none => rw [e] at q; exact q.elim
  | some osv =>
    rw [e] at q
    cases osv with
    | none => exact q.elim
    | some sv =>
      obtain ⟨v, e1, r⟩ := R.slot i sv e
      cases sv with
      | dat d => exact ⟨v, e1, k _ cs v g H q R r (fun _ _ e => nomatch e) (fun _ h => h) .refl⟩
      | raw t => exact ⟨v, e1, k _ cs v g H q R r (fun _ _ e => nomatch e) (fun _ h => h) .refl⟩
      | scr t => exact ⟨v, e1, k _ cs v g H q R r (fun _ _ e => nomatch e) (fun _ h => h) .refl⟩
      | exc _ _ _ _ => exact ⟨v, e1, k _ cs v g H q R r (fun _ _ e => nomatch e) (fun _ h => h) .refl⟩
      | obj o =>
        cases o with
        | dct _ => exact q.elim
        | gdc xs =>
          obtain ⟨a, rfl, _⟩ := id r
          obtain ⟨R2, r2, f2, s2⟩ := R.freezeSlotG e e1
          exact ⟨_, e1, k _ _ _ _ H q R2 r2 (fun _ _ e => nomatch e) s2 f2⟩
        | lst xs =>
        obtain ⟨a, vs, rfl, _⟩ := id r
        obtain ⟨R2, r2, f2, s2⟩ := R.freezeSlot e e1
        exact ⟨_, e1, k _ _ _ _ H q R2 r2 (fun _ _ e => nomatch e) s2 f2⟩

/-! ### constants -/
def t_c (d : PyData) : TVD := fun cs Q => Q d cs
theorem dv_int {i : Int} {j : Nat} : DV X ZP (.Constant (.int i) j pos) (t_c (.int i)) := ⟨PE.imp pe_int fun σ H Q ⟨B, cs, g, R, Q', q, k⟩ => k _ cs _ g H q R (.int i) (fun _ h => h) .refl⟩
theorem dv_bl {b : Bool} {j : Nat} : DV X ZP (.Constant (.bool b) j pos) (t_c (.bool b)) := ⟨PE.imp pe_bl fun σ H Q ⟨B, cs, g, R, Q', q, k⟩ => k _ cs _ g H q R (.bl b) (fun _ h => h) .refl⟩
theorem dv_non {j : Nat} : DV X ZP (.Constant .none j pos) (t_c .none) := ⟨PE.imp pe_non fun σ H Q ⟨B, cs, g, R, Q', q, k⟩ => k _ cs _ g H q R .non (fun _ h => h) .refl⟩
theorem dv_str {x : Str} {j : Nat} : DV X ZP (.Constant (.str x) j pos) (t_c (.str x)) := ⟨PE.imp pe_str fun σ H Q ⟨B, cs, g, R, Q', q, k⟩ => k _ cs _ g H q R (.str x) (fun _ h => h) .refl⟩
/-- a module's number or text -/
theorem dv_gint {x : Str} {i : Int} {t : Tok} (hg : Gl X x) (hm : X.mg x = some (.int i t)) (hd : (x == ("__debug__" : Str)) = false := by decide) : DV X ZP (.Name x pos) (t_c (.int i)) :=
  ⟨PE.imp (pe_glob (v := .int i) hg hm ⟨t, rfl⟩ hd) fun σ H Q ⟨B, cs, g, R, Q', q, k⟩ => k _ cs _ g H q R (.int i) (fun _ h => h) .refl⟩
theorem dv_gstr {x y : Str} {t : Tok} (hg : Gl X x) (hm : X.mg x = some (.str y t)) (hd : (x == ("__debug__" : Str)) = false := by decide) : DV X ZP (.Name x pos) (t_c (.str y)) :=
  ⟨PE.imp (pe_glob (v := .str y) hg hm ⟨t, rfl⟩ hd) fun σ H Q ⟨B, cs, g, R, Q', q, k⟩ => k _ cs _ g H q R (.str y) (fun _ h => h) .refl⟩
end

section
variable {K : KW} {ZP : ZT} {B : Bs} {g g1 g2 : GW} {H H1 H2 : Hp} {cs cs1 cs2 : CS} {σ : St}
theorem RS.rb {sv : SV} {v : V} {d : PyData} (r : RS K g H sv v) (e : sv.view = some d) : RB K H g.fz d v := by
  cases sv with
  | dat c => cases e; exact Rp.rb r
  | obj o =>
    cases o with
    | dct _ => cases e
    | gdc kvs =>
      cases e
      obtain ⟨a, rfl, _, _, ep, es, ks, vs, q⟩ := r
      exact ⟨a, ep, es, ks, vs, rfl, q⟩
    | lst xs =>
    cases e
    obtain ⟨a, vs, rfl, h, _, _, q⟩ := r
    exact ⟨a, vs, rfl, h, q⟩
  | raw t => cases e
  | scr t => cases e
  | exc _ _ _ _ => cases e
theorem LOk.rb {l : LV} {v : V} {d : PyData} (R2 : Rel K ZP B g2 H2 cs2 σ) (r : LOk K g2 H2 σ l v) (e : l.get cs2 = some d) : RB K H2 g2.fz d v := by
  cases l with
  | now c => cases e; exact Rp.rb r
  | slot i =>
    unfold LV.get CS.at_ at e
    simp only at e
    cases e1 : cs2[i]? with
    | none => rw [e1] at e; cases e
    | some osv =>
      cases osv with
      | none => rw [e1] at e; cases e
      | some sv =>
        rw [e1] at e
        obtain ⟨u, e2, q⟩ := R2.slot i sv e1
        have r : σ[i]? = some (some v) := r
        rw [e2] at r; cases r
        exact q.rb e
theorem LOk.frm {l : LV} {v : V} (R1 : Rel K ZP B g1 H1 cs1 σ) (f : Frm (ow cs1 σ) g1 H1 g2 H2) (r : LOk K g1 H1 σ l v) : LOk K g2 H2 σ l v := by
  cases l with
  | now c => exact Rp.frm f R1.fzow r
  | slot i => exact r
end

/-! ### operations of two values -/
abbrev OpX := PyData → PyData → (SV → Prop) → Prop
def rO (K : KW) (o : OpX) : R2 := fun x y H Q => ∃ fz d e, RB K H fz d x ∧ RB K H fz e y ∧ ∃ Q', o d e Q' ∧ ∀ sv z H', Q' sv → Res K H fz sv z H' → Q z H'
def t_op (o : OpX) (ta tb : TLD) : TD := fun cs Q => ta cs fun l cs1 => tb cs1 fun m cs2 => match l.get cs2, m.get cs2 with
  | some d, some e => o d e fun sv => Q sv cs2
  | _, _ => False
section
variable {X : Cx} {ZP : ZT} {a b : Expr} {pos : Pos} {ta tb : TLD} {o : OpX}
theorem op_core {σ : St} {H : Hp} {Q : VK} (h : tD X.kw ZP (t_op o ta tb) σ H Q) : tOp (rO X.kw o) (tLt X.kw ZP ta) (tLt X.kw ZP tb) σ H Q := by
  obtain ⟨B, cs, g, R, Q', q, k⟩ := h
  refine ⟨B, cs, g, R, _, q, fun l cs1 v g1 H1 q1 R1 r1 s1 f1 => ?_⟩
  refine ⟨B, cs1, g1, R1, _, q1, fun m cs2 u g2 H2 q2 R2 r2 s2 f2 => ?_⟩
  have r1' := r1.frm R1 f2
  cases e1 : l.get cs2 with
  | none => rw [e1] at q2; exact q2.elim
  | some d =>
    cases e2 : m.get cs2 with
    | none => rw [e1, e2] at q2; exact q2.elim
    | some e =>
      rw [e1, e2] at q2
      refine ⟨g2.fz, d, e, r1'.rb R2 e1, r2.rb R2 e2, _, q2, fun sv z H' q3 rz => ?_⟩
      obtain ⟨R3, r3, t3, f3⟩ := rz.fin R2
      have f12 : Frm (ow cs σ) g H g2 H2 := f1.trans (f2.mono fun a _ _ h => s1 a h)
      have f3' : Frm (ow cs σ) g2 H2 g2 H' := f3.mono fun a _ _ h => s1 a (s2 a h)
      refine k sv cs2 z g2 H' q3 R3 r3 (fun xs a e3 e4 => ?_) (fun a h => s1 a (s2 a h)) (f12.trans f3')
      obtain ⟨n1, n2⟩ := t3 xs a e3 e4
      refine ⟨n1, ?_⟩
      cases e5 : H a with
      | none => rfl
      | some u =>
        obtain ⟨u', e6⟩ := f12.any a u e5
        rw [n2] at e6; cases e6
theorem de_op {op : Operator} (ho : OpR X (binaryOp op) (rO X.kw o)) (ha : DL X ZP a ta) (hb : DL X ZP b tb) : DE X ZP (.BinOp a op b pos) (t_op o ta tb) :=
  ⟨PE.imp (pe_op ho ha.pe hb.pe) fun σ H Q h => op_core h⟩
theorem de_cmp {op : CmpOp} (ho : OpR X (compareOp op) (rO X.kw o)) (ha : DL X ZP a ta) (hb : DL X ZP b tb) (hm : behindInMarks op b = false := by first | exact nomark _ | with_unfolding_all rfl) : DE X ZP (.Compare a [op] [b] pos) (t_op o ta tb) :=
  ⟨PE.imp (pe_cmpR ho ha.pe hb.pe hm) fun σ H Q h => op_core h⟩
def t_tst (t : TD) : TTD := fun cs Q => t cs fun sv cs' => match sv with
  | .dat (.bool b) => Q b cs'
  | _ => False
theorem dt_cmp {op : CmpOp} (ho : OpR X (compareOp op) (rO X.kw o)) (ha : DL X ZP a ta) (hb : DL X ZP b tb) (hm : behindInMarks op b = false := by first | exact nomark _ | with_unfolding_all rfl) : DT X ZP (.Compare a [op] [b] pos) (t_tst (t_op o ta tb)) := by
  refine ⟨PT.imp (pt_cmpR ho ha.pe hb.pe hm) ?_⟩
  rintro σ H Q ⟨B, cs, g, R, Q', q, k⟩
  refine op_core (ZP := ZP) ⟨B, cs, g, R, _, q, fun sv cs' v g' H' q' R' r tm s f => ?_⟩
  cases sv with
  | dat d =>
    cases d with
    | bool b => cases r; exact ⟨b, rfl, k b cs' g' H' q' R' s f⟩
    | _ => exact q'.elim
  | _ => exact q'.elim
theorem dt_val {e : Expr} {t : TD} (h : DE X ZP e t) (he : ∀ whole, isTrue e X.env whole = (do let v ← whole; standAt e.pos; holding [v] (truthy v)) := by intro _; rfl) : DT X ZP e (t_tst t) := by
  refine ⟨PT.imp (pt_val h.pe he) ?_⟩
  rintro σ H Q ⟨B, cs, g, R, Q', q, k⟩
  refine ⟨B, cs, g, R, _, q, fun sv cs' v g' H' q' R' r tm s f => ?_⟩
  cases sv with
  | dat d =>
    cases d with
    | bool b => cases r; exact ⟨b, rfl, k b cs' g' H' q' R' s f⟩
    | _ => exact q'.elim
  | _ => exact q'.elim
end

/-! ### and, or, not -/
structure DW (X : Cx) (ZP : ZT) (e : Expr) (t : TTD) : Prop where
  pw : PW X e (tT X.kw ZP t)
section
variable {X : Cx} {ZP : ZT} {e a b : Expr} {pos : Pos} {ta tb : TTD} {rest : List Expr}
theorem PW.imp {t t' : TT} (h : PW X e t) (m : ∀ σ H Q, t' σ H Q → t σ H Q) : PW X e t' := ⟨fun wh pins s σ H Q I q => h.run wh pins s σ H Q I (m _ _ _ q)⟩
theorem dt_w (h : DW X ZP e ta) : DT X ZP e ta := ⟨h.pw.pt⟩
theorem dw_and1 (h : DT X ZP a ta) : DW X ZP (.BoolOp .And [a] pos) ta := ⟨pw_and1 h.pt⟩
theorem dw_or1 (h : DT X ZP a ta) : DW X ZP (.BoolOp .Or [a] pos) ta := ⟨pw_or1 h.pt⟩
def t_and (ta tb : TTD) : TTD := fun cs Q => ta cs fun c cs1 => if c = true then tb cs1 Q else Q false cs1
def t_or (ta tb : TTD) : TTD := fun cs Q => ta cs fun c cs1 => if c = true then Q true cs1 else tb cs1 Q
def t_not (ta : TTD) : TTD := fun cs Q => ta cs fun c cs1 => Q (!c) cs1
theorem dw_and (h : DT X ZP a ta) (h2 : DW X ZP (.BoolOp .And (b :: rest) pos) tb) : DW X ZP (.BoolOp .And (a :: b :: rest) pos) (t_and ta tb) := by
  refine ⟨PW.imp (pw_and h.pt h2.pw) ?_⟩
  rintro σ H Q ⟨B, cs, g, R, Q', q, k⟩
  refine ⟨B, cs, g, R, _, q, fun c cs1 g1 H1 q1 R1 s1 f1 => ?_⟩
  cases c with
  | true =>
    rw [if_pos rfl] at q1 ⊢
    exact ⟨B, cs1, g1, R1, _, q1, fun c2 cs2 g2 H2 q2 R2 s2 f2 => k c2 cs2 g2 H2 q2 R2 (fun a h => s1 a (s2 a h)) (f1.trans (f2.mono fun a _ _ h => s1 a h))⟩
  | false =>
    rw [if_neg Bool.false_ne_true] at q1 ⊢
    exact k false cs1 g1 H1 q1 R1 s1 f1
theorem dw_or (h : DT X ZP a ta) (h2 : DW X ZP (.BoolOp .Or (b :: rest) pos) tb) : DW X ZP (.BoolOp .Or (a :: b :: rest) pos) (t_or ta tb) := by
  refine ⟨PW.imp (pw_or h.pt h2.pw) ?_⟩
  rintro σ H Q ⟨B, cs, g, R, Q', q, k⟩
  refine ⟨B, cs, g, R, _, q, fun c cs1 g1 H1 q1 R1 s1 f1 => ?_⟩
  cases c with
  | false =>
    rw [if_neg Bool.false_ne_true] at q1 ⊢
    exact ⟨B, cs1, g1, R1, _, q1, fun c2 cs2 g2 H2 q2 R2 s2 f2 => k c2 cs2 g2 H2 q2 R2 (fun a h => s1 a (s2 a h)) (f1.trans (f2.mono fun a _ _ h => s1 a h))⟩
  | true =>
    rw [if_pos rfl] at q1 ⊢
    exact k true cs1 g1 H1 q1 R1 s1 f1
theorem dt_not (h : DT X ZP a ta) : DT X ZP (.UnaryOp .Not a pos) (t_not ta) := by
  refine ⟨PT.imp (pt_not h.pt) ?_⟩
  rintro σ H Q ⟨B, cs, g, R, Q', q, k⟩
  exact ⟨B, cs, g, R, _, q, fun c cs1 g1 H1 q1 R1 s1 f1 => k (!c) cs1 g1 H1 q1 R1 s1 f1⟩
/-- .. as values -/
def t_andV (ta : TVD) (tb : TVD) : TVD := fun cs Q => ta cs fun d cs1 => match d with
  | .bool true => tb cs1 Q
  | .bool false => Q (.bool false) cs1
  | _ => False
def t_orV (ta : TVD) (tb : TVD) : TVD := fun cs Q => ta cs fun d cs1 => match d with
  | .bool false => tb cs1 Q
  | .bool true => Q (.bool true) cs1
  | _ => False
def t_notV (ta : TVD) : TVD := fun cs Q => ta cs fun d cs1 => match d with
  | .bool b => Q (.bool (!b)) cs1
  | _ => False
variable {va vb : TVD}
theorem dv_one {op : BoolOp} (h : DV X ZP a va) : DV X ZP (.BoolOp op [a] pos) va := ⟨pe_one h.pe⟩
theorem dv_and (h : DV X ZP a va) (h2 : DV X ZP (.BoolOp .And (b :: rest) pos) vb) : DV X ZP (.BoolOp .And (a :: b :: rest) pos) (t_andV va vb) := by
  refine ⟨PE.imp (pe_and h.pe h2.pe) ?_⟩
  rintro σ H Q ⟨B, cs, g, R, Q', q, k⟩
  refine ⟨B, cs, g, R, _, q, fun d cs1 v g1 H1 q1 R1 r1 s1 f1 => ?_⟩
  cases d with
  | bool c =>
    cases r1
    refine ⟨c, rfl, ?_⟩
    cases c with
    | true =>
      rw [if_pos rfl]
      exact ⟨B, cs1, g1, R1, _, q1, fun c2 cs2 v g2 H2 q2 R2 r2 s2 f2 => k c2 cs2 v g2 H2 q2 R2 r2 (fun a h => s1 a (s2 a h)) (f1.trans (f2.mono fun a _ _ h => s1 a h))⟩
    | false =>
      rw [if_neg Bool.false_ne_true]
      exact k _ cs1 _ g1 H1 q1 R1 (.bl false) s1 f1
  | _ => exact q1.elim
theorem dv_or (h : DV X ZP a va) (h2 : DV X ZP (.BoolOp .Or (b :: rest) pos) vb) : DV X ZP (.BoolOp .Or (a :: b :: rest) pos) (t_orV va vb) := by
  refine ⟨PE.imp (pe_or h.pe h2.pe) ?_⟩
  rintro σ H Q ⟨B, cs, g, R, Q', q, k⟩
  refine ⟨B, cs, g, R, _, q, fun d cs1 v g1 H1 q1 R1 r1 s1 f1 => ?_⟩
  cases d with
  | bool c =>
    cases r1
    refine ⟨c, rfl, ?_⟩
    cases c with
    | false =>
      rw [if_neg Bool.false_ne_true]
      exact ⟨B, cs1, g1, R1, _, q1, fun c2 cs2 v g2 H2 q2 R2 r2 s2 f2 => k c2 cs2 v g2 H2 q2 R2 r2 (fun a h => s1 a (s2 a h)) (f1.trans (f2.mono fun a _ _ h => s1 a h))⟩
    | true =>
      rw [if_pos rfl]
      exact k _ cs1 _ g1 H1 q1 R1 (.bl true) s1 f1
  | _ => exact q1.elim
theorem dv_not (h : DV X ZP a va) : DV X ZP (.UnaryOp .Not a pos) (t_notV va) := by
  refine ⟨PE.imp (pe_not h.pe) ?_⟩
  rintro σ H Q ⟨B, cs, g, R, Q', q, k⟩
  refine ⟨B, cs, g, R, _, q, fun d cs1 v g1 H1 q1 R1 r1 s1 f1 => ?_⟩
  cases d with
  | bool c => cases r1; exact ⟨c, rfl, k _ cs1 _ g1 H1 q1 R1 (.bl _) s1 f1⟩
  | _ => exact q1.elim
/-- a if t else b -/
def t_ifx (c : TTD) (ta tb : TD) : TD := fun cs Q => c cs fun b cs1 => if b = true then ta cs1 Q else tb cs1 Q
theorem de_if {c : Expr} {tc : TTD} {da db : TD} (hc : DT X ZP c tc) (ha : DE X ZP a da) (hb : DE X ZP b db) : DE X ZP (.IfExp c a b pos) (t_ifx tc da db) := by
  refine ⟨PE.imp (pe_ifExp hc.pt ha.pe hb.pe) ?_⟩
  rintro σ H Q ⟨B, cs, g, R, Q', q, k⟩
  refine ⟨B, cs, g, R, _, q, fun c cs1 g1 H1 q1 R1 s1 f1 => ?_⟩
  have go : ∀ sv cs2 v g2 H2, Q' sv cs2 → Rel X.kw ZP B g2 H2 cs2 σ → RS X.kw g2 H2 sv v → Tmp H1 cs2 σ sv v → (∀ a, ow cs2 σ a → ow cs1 σ a) → Frm (ow cs1 σ) g1 H1 g2 H2 → Q v H2 := fun sv cs2 v g2 H2 q2 R2 r2 t2 s2 f2 => by
    refine k sv cs2 v g2 H2 q2 R2 r2 (fun xs a e3 e4 => ?_) (fun a h => s1 a (s2 a h)) (f1.trans (f2.mono fun a _ _ h => s1 a h))
    obtain ⟨n1, n2⟩ := t2 xs a e3 e4
    refine ⟨n1, ?_⟩
    cases e5 : H a with
    | none => rfl
    | some u =>
      obtain ⟨u', e6⟩ := f1.any a u e5
      rw [n2] at e6; cases e6
  cases c with
  | true =>
    rw [if_pos rfl] at q1
    show tD X.kw ZP da σ H1 Q
    exact ⟨B, cs1, g1, R1, _, q1, go⟩
  | false =>
    rw [if_neg Bool.false_ne_true] at q1
    show tD X.kw ZP db σ H1 Q
    exact ⟨B, cs1, g1, R1, _, q1, go⟩
end
end Cl

namespace Cl
open PySem PySem.Spec PyProof.Rows L2

section
variable {K : KW} {H : Hp} {fz : Addr → Prop} {v : V}
theorem RB.non (r : RB K H fz .none v) : v = .non := by
  have r : Rp K H fz .none v := r
  cases r; rfl
theorem RB.bl {b : Bool} (r : RB K H fz (.bool b) v) : v = .bl b := by
  have r : Rp K H fz (.bool b) v := r
  cases r; rfl
theorem RB.int {i : Int} (r : RB K H fz (.int i) v) : v = .int i := by
  have r : Rp K H fz (.int i) v := r
  cases r; rfl
theorem RB.str {x : Str} (r : RB K H fz (.str x) v) : v = .str x := by
  have r : Rp K H fz (.str x) v := r
  cases r; rfl
theorem RB.tup {ds : List PyData} (r : RB K H fz (.tuple ds) v) : ∃ a xs, v = .ref a ∧ H a = some (.tup xs) ∧ RpAll K H fz ds xs := by
  have r : Rp K H fz (.tuple ds) v := r
  cases r with
  | tup q r2 => exact ⟨_, _, rfl, q, r2⟩
theorem RB.lst {ds : List PyData} (r : RB K H fz (.list ds) v) : ∃ a xs, v = .ref a ∧ H a = some (.lst xs) ∧ RpAll K H fz ds xs := r
theorem RpAll.nil_iff {ds : List PyData} {vs : List V} (r : RpAll K H fz ds vs) : vs = [] ↔ ds = [] := by
  cases r <;> simp
end

/-! ### reading data for the library's rules -/
mutual
def listFree : PyData → Bool
  | .none | .bool _ | .int _ | .str _ => true
  | .list _ => false
  | .tuple xs => listFreeAll xs
  | .dict kvs => listFreeKv kvs
def listFreeAll : List PyData → Bool
  | [] => true
  | x :: xs => listFree x && listFreeAll xs
def listFreeKv : List (PyData × PyData) → Bool
  | [] => true
  | (k, v) :: r => listFree k && listFree v && listFreeKv r
end
section
variable {X : Cx} {pins : List (Addr × Obj)} {σ : L2.St} {H : Hp} {s : Shared} {fz : Addr → Prop}
theorem Inv.lstR {l : Addr} {xs : List V} (I : Inv X pins σ H s) (h : H l = some (.lst xs)) :
    xs.length ≤ sizeLine ∧ ∃ (its : List Value) (n : Nat), Vals xs its ∧ s.heap.get? l = some { cls := .type "list", data := .seq its.toArray n } := by
  obtain ⟨z, its, n, r, e⟩ := I.hok l _ h
  exact ⟨z, its, n, r, e⟩
theorem base_ne {a : Addr} {o : HO} (I : Inv X pins σ H s) (h : H a = some o) : X.base.get? a = none := by
  cases e : X.base.get? a with
  | none => rfl
  | some ob =>
    have := (I.bs a ob e).2
    rw [h] at this; cases this
mutual
theorem Rp.reads (I : Inv X pins σ H s) : ∀ (d : PyData) (v : V) (u : Value), Rp X.kw H fz d v → RelV v u → ∃ as, Reads s.heap u d as ∧ (listFree d = true → sysModules ∉ as)
  | .none, _, _, h, r => by cases h; cases r; exact ⟨_, .none, fun _ => by simp⟩
  | .bool b, _, _, h, r => by cases h; cases r; exact ⟨_, .bool b, fun _ => by simp⟩
  | .int i, _, _, h, r => by cases h; obtain ⟨t, rfl⟩ := r; exact ⟨_, .int i t, fun _ => by simp⟩
  | .str x, _, _, h, r => by cases h; obtain ⟨t, rfl⟩ := r; exact ⟨_, .str x t, fun _ => by simp⟩
  | .list ds, _, _, h, r => by
    cases h with
    | @lst a xs _ hf hq ha =>
      cases r
      obtain ⟨_, its, n, rv, e⟩ := Inv.lstR I hq
      obtain ⟨as, hr, hz⟩ := Rp.readsAll I ds _ its ha rv
      exact ⟨_, .list e rfl rfl hr, fun z => by simp [listFree] at z⟩
  | .tuple ds, _, _, h, r => by
    cases h with
    | tup hq ha =>
      cases r
      obtain ⟨its, rv, ⟨o, ho, hc, n, hd⟩, _⟩ := I.tuple (SqT.of hq)
      obtain ⟨as, hr, hz⟩ := Rp.readsAll I ds _ its ha rv
      exact ⟨_, .tuple ho hc hd hr, fun z => hz (by simpa [listFree] using z)⟩
  | .dict kvs, _, _, h, r => by
    cases h with
    | @dct a ep es ks vs _ hf hq k1 v1 r1 r2 _ =>
      cases r
      obtain ⟨⟨hs, o, ho, hex, hd⟩, _⟩ := I.hok a _ hq
      obtain ⟨as, q1, z1⟩ := Rp.readsAllK I kvs _ _ r1 k1
      obtain ⟨bs, q2, z2⟩ := Rp.readsAllV I kvs _ _ r2 v1
      refine ⟨_, .dict (es := es.toArray) ho hex.1 hd q1 q2, fun z hm => ?_⟩
      have z : listFreeKv kvs = true := by simpa [listFree] using z
      rcases List.mem_append.mp hm with hm | hm
      · rcases List.mem_cons.mp hm with hm | hm
        · exact hs hm.symm
        · exact z1 z hm
      · exact z2 z hm
theorem Rp.readsAll (I : Inv X pins σ H s) : ∀ (ds : List PyData) (vs : List V) (us : List Value), RpAll X.kw H fz ds vs → Vals vs us → ∃ as, ReadsAll s.heap us ds as ∧ (listFreeAll ds = true → sysModules ∉ as)
  | [], _, _, h, r => by cases h; cases r; exact ⟨_, .nil, fun _ => by simp⟩
  | d :: ds, _, _, h, r => by
    cases h with
    | cons h1 h2 =>
      cases r with
      | cons r1 r2 =>
        obtain ⟨as, q1, z1⟩ := Rp.reads I d _ _ h1 r1
        obtain ⟨bs, q2, z2⟩ := Rp.readsAll I ds _ _ h2 r2
        refine ⟨_, .cons q1 q2, fun z hm => ?_⟩
        have z : listFree d = true ∧ listFreeAll ds = true := by simpa [listFreeAll] using z
        rcases List.mem_append.mp hm with hm | hm
        · exact z1 z.1 hm
        · exact z2 z.2 hm
theorem Rp.readsAllK (I : Inv X pins σ H s) : ∀ (kvs : List (PyData × PyData)) (vs : List V) (us : List Value), RpAll X.kw H fz (kvs.map (·.1)) vs → Vals vs us → ∃ as, ReadsAll s.heap us (kvs.map (·.1)) as ∧ (listFreeKv kvs = true → sysModules ∉ as)
  | [], _, _, h, r => by cases h; cases r; exact ⟨_, .nil, fun _ => by simp⟩
  | (d, e) :: ds, _, _, h, r => by
    cases h with
    | cons h1 h2 =>
      cases r with
      | cons r1 r2 =>
        obtain ⟨as, q1, z1⟩ := Rp.reads I d _ _ h1 r1
        obtain ⟨bs, q2, z2⟩ := Rp.readsAllK I ds _ _ h2 r2
        refine ⟨_, .cons q1 q2, fun z hm => ?_⟩
        have z : (listFree d = true ∧ listFree e = true) ∧ listFreeKv ds = true := by simpa [listFreeKv] using z
        rcases List.mem_append.mp hm with hm | hm
        · exact z1 z.1.1 hm
        · exact z2 z.2 hm
theorem Rp.readsAllV (I : Inv X pins σ H s) : ∀ (kvs : List (PyData × PyData)) (vs : List V) (us : List Value), RpAll X.kw H fz (kvs.map (·.2)) vs → Vals vs us → ∃ as, ReadsAll s.heap us (kvs.map (·.2)) as ∧ (listFreeKv kvs = true → sysModules ∉ as)
  | [], _, _, h, r => by cases h; cases r; exact ⟨_, .nil, fun _ => by simp⟩
  | (e, d) :: ds, _, _, h, r => by
    cases h with
    | cons h1 h2 =>
      cases r with
      | cons r1 r2 =>
        obtain ⟨as, q1, z1⟩ := Rp.reads I d _ _ h1 r1
        obtain ⟨bs, q2, z2⟩ := Rp.readsAllV I ds _ _ h2 r2
        refine ⟨_, .cons q1 q2, fun z hm => ?_⟩
        have z : (listFree e = true ∧ listFree d = true) ∧ listFreeKv ds = true := by simpa [listFreeKv] using z
        rcases List.mem_append.mp hm with hm | hm
        · exact z1 z.1.2 hm
        · exact z2 z.2 hm
end
theorem RB.reads (I : Inv X pins σ H s) {d : PyData} {v : V} {u : Value} (h : RB X.kw H fz d v) (r : RelV v u) : ∃ as, Reads s.heap u d as ∧ (listFree d = true → sysModules ∉ as) := by
  cases d with
  | list ds =>
    obtain ⟨a, xs, rfl, hq, ha⟩ := h
    cases r
    obtain ⟨_, its, n, rv, e⟩ := Inv.lstR I hq
    obtain ⟨as, hr, hz⟩ := Rp.readsAll I ds _ its ha rv
    exact ⟨_, .list e rfl rfl hr, fun z => by simp [listFree] at z⟩
  | dict kvs =>
    obtain ⟨a, ep, es, ks, vs, rfl, hq, k1, v1, r1, r2, hh⟩ := h
    exact Rp.reads (fz := fun b => fz b ∨ b = a) I _ _ _ (.dct (.inr rfl) hq k1 v1 (RpAll.go (fun _ h => .inl h) (fun _ _ _ e => e) (fun _ _ e => e) r1) (RpAll.go (fun _ h => .inl h) (fun _ _ _ e => e) (fun _ _ e => e) r2) hh) r
  | none => exact Rp.reads I _ _ _ h r
  | bool b => exact Rp.reads I _ _ _ h r
  | int b => exact Rp.reads I _ _ _ h r
  | str b => exact Rp.reads I _ _ _ h r
  | tuple b => exact Rp.reads I _ _ _ h r
end

/-! ### operators -/
def addX : OpX := fun x y Q => match x, y with
  | .int i, .int j => Q (.dat (.int (i + j)))
  | .str a, .str b => a.length + b.length ≤ sizeLine ∧ Q (.dat (.str (a ++ b)))
  | .tuple xs, .tuple ys => xs.length + ys.length ≤ sizeLine ∧ Q (.dat (.tuple (xs ++ ys)))
  | .list xs, .list ys => xs.length + ys.length ≤ sizeLine ∧ Q (.own (xs ++ ys))
  | _, _ => False
def subX : OpX := fun x y Q => match x, y with
  | .int i, .int j => Q (.dat (.int (i - j)))
  | _, _ => False
def mulX : OpX := fun x y Q => match x, y with
  | .int i, .int j => IntMulOk i j ∧ Q (.dat (.int (i * j)))
  | .tuple xs, .int k => xs ≠ [] ∧ 2 ≤ k ∧ k ≤ 1000 ∧ xs.length ≤ 1000 ∧ Q (.dat (.tuple (List.replicate k.toNat xs).flatten))
  | .list xs, .int k => -(2 ^ 63) ≤ k ∧ k < 2 ^ 63 ∧ xs.length * k.toNat ≤ sizeLine ∧ Q (.own (List.replicate k.toNat xs).flatten)
  | _, _ => False
def modX : OpX := fun x y Q => match x, y with
  | .int i, .int j => 0 < j ∧ Q (.dat (.int (i % j)))
  | _, _ => False
def fdivX : OpX := fun x y Q => match x, y with
  | .int i, .int j => 0 < j ∧ j.natAbs < 2 ^ 9000 ∧ Q (.dat (.int (i / j)))
  | _, _ => False
def powX : OpX := fun x y Q => match x, y with
  | .int i, .int j => 0 ≤ j ∧ j ≤ 1000000 ∧ i.natAbs < 2 ^ 64 ∧ Q (.dat (.int (i ^ j.toNat)))
  | _, _ => False
def ltX : OpX := fun x y Q => match x, y with
  | .int i, .int j => Q (.dat (.bool (decide (i < j))))
  | _, _ => False
def leX : OpX := fun x y Q => match x, y with
  | .int i, .int j => Q (.dat (.bool (decide (i ≤ j))))
  | _, _ => False
def gtX : OpX := fun x y Q => match x, y with
  | .int i, .int j => Q (.dat (.bool (decide (j < i))))
  | _, _ => False
def geX : OpX := fun x y Q => match x, y with
  | .int i, .int j => Q (.dat (.bool (decide (j ≤ i))))
  | _, _ => False
def eqX : OpX := fun x y Q => SeqAt.shaped x = true ∧ SeqAt.shaped y = true ∧ Q (.dat (.bool (PyData.eqv x y)))
def neX : OpX := fun x y Q => SeqAt.shaped x = true ∧ SeqAt.shaped y = true ∧ Q (.dat (.bool (!PyData.eqv x y)))

section
variable {X : Cx}
theorem RpAll.rep {K : KW} {H : Hp} {fz : Addr → Prop} {ds : List PyData} {vs : List V} (r : RpAll K H fz ds vs) : ∀ n : Nat, RpAll K H fz (List.replicate n ds).flatten (List.replicate n vs).flatten
  | 0 => .nil
  | n + 1 => by
    rw [List.replicate_succ, List.replicate_succ, List.flatten_cons, List.flatten_cons]
    exact r.append (RpAll.rep r n)
theorem ox_add : OpR X (binaryOp .Add) (rO X.kw addX) := by
  rintro pins s σ H x y v u Q I rx ry ⟨fz, d, e, hd, he, Q', q, k⟩
  cases d with
  | int i =>
    cases e with
    | int j =>
      cases hd.int; cases he.int
      exact op_add pins s σ H _ _ v u Q I rx ry ⟨i, j, rfl, rfl, k _ _ _ q (.same (.int _))⟩
    | _ => exact q.elim
  | str a =>
    cases e with
    | str b =>
      cases hd.str; cases he.str
      exact op_add_str pins s σ H _ _ v u Q I rx ry ⟨a, b, rfl, rfl, q.1, k _ _ _ q.2 (.same (.str _))⟩
    | _ => exact q.elim
  | tuple xs =>
    cases e with
    | tuple ys =>
      obtain ⟨a, vs, rfl, ha, ra⟩ := hd.tup
      obtain ⟨b, ws, rfl, hb, rb⟩ := he.tup
      refine op_catA pins s σ H _ _ v u Q I rx ry ⟨a, b, vs, ws, rfl, rfl, SqT.of ha, SqT.of hb, ?_, fun e => ?_, fun n e => ?_, fun n m p hp => ?_⟩
      · rw [← ra.length, ← rb.length]; exact q.1
      · rw [ra.nil_iff] at e; subst e
        exact k _ _ _ q.2 (.same (.tup hb rb))
      · rw [rb.nil_iff] at e; subst e
        have q2 := q.2
        rw [List.append_nil] at q2
        exact k _ _ _ q2 (.same (.tup ha ra))
      · exact k _ _ _ q.2 (.tup hp (ra.append rb))
    | _ => exact q.elim
  | list xs =>
    cases e with
    | list ys =>
      obtain ⟨a, vs, rfl, ha, ra⟩ := hd.lst
      obtain ⟨b, ws, rfl, hb, rb⟩ := he.lst
      cases rx; cases ry
      obtain ⟨z1, its, n, r1, e1⟩ := Inv.lstR I ha
      obtain ⟨z2, its2, n2, r2, e2⟩ := Inv.lstR I hb
      have l1 := r1.length
      have l2 := r2.length
      have m1 := ra.length
      have m2 := rb.length
      have q1 := q.1
      refine PySem.P.add_list e1 e2 ?_ (by simp only [List.size_toArray]; omega)
      rw [show its.toArray ++ its2.toArray = (its ++ its2).toArray by simp]
      refine ⟨.ref _, _, I.lnew (t' := s.toks) (r1.append r2) (by rw [List.length_append]; omega), rfl, k _ _ _ q.2 (.lst I.fresh (ra.append rb))⟩
    | _ => exact q.elim
  | _ => cases e <;> exact q.elim
theorem ox_sub : OpR X (binaryOp .Sub) (rO X.kw subX) := by
  rintro pins s σ H x y v u Q I rx ry ⟨fz, d, e, hd, he, Q', q, k⟩
  cases d with
  | int i =>
    cases e with
    | int j =>
      cases hd.int; cases he.int
      exact op_sub pins s σ H _ _ v u Q I rx ry ⟨i, j, rfl, rfl, k _ _ _ q (.same (.int _))⟩
    | _ => exact q.elim
  | _ => cases e <;> exact q.elim
theorem ox_mul : OpR X (binaryOp .Mult) (rO X.kw mulX) := by
  rintro pins s σ H x y v u Q I rx ry ⟨fz, d, e, hd, he, Q', q, k⟩
  cases d with
  | int i =>
    cases e with
    | int j =>
      cases hd.int; cases he.int
      obtain ⟨t, rfl⟩ := rx
      obtain ⟨t', rfl⟩ := ry
      exact mul_int ⟨.int (i * j), H, I.tok _, ⟨_, rfl⟩, k _ _ _ q.2 (.same (.int _))⟩ q.1
    | _ => exact q.elim
  | tuple xs =>
    cases e with
    | int j =>
      obtain ⟨a, vs, rfl, ha, ra⟩ := hd.tup
      cases he.int
      obtain ⟨q1, q2, q3, q4, q5⟩ := q
      exact op_repT pins s σ H _ _ v u Q I rx ry ⟨a, j, vs, rfl, rfl, SqT.of ha, fun e => q1 (ra.nil_iff.mp e), q2, q3, by rw [← ra.length]; exact q4, fun p hp => k _ _ _ q5 (.tup hp (ra.rep _))⟩
    | _ => exact q.elim
  | list xs =>
    cases e with
    | int j =>
      obtain ⟨a, vs, rfl, ha, ra⟩ := hd.lst
      cases he.int
      obtain ⟨q1, q2, q3, q4⟩ := q
      exact op_rep pins s σ H _ _ v u Q I rx ry ⟨a, j, vs, rfl, rfl, ha, q1, q2, by rw [← ra.length]; exact q3, fun p hp => k _ _ _ q4 (.lst hp (ra.rep _))⟩
    | _ => exact q.elim
  | _ => cases e <;> exact q.elim
end
end Cl

namespace Cl
open PySem PySem.Spec PyProof.Rows L2
section
variable {X : Cx}
theorem ox_mod : OpR X (binaryOp .Mod) (rO X.kw modX) := by
  rintro pins s σ H x y v u Q I rx ry ⟨fz, d, e, hd, he, Q', q, k⟩
  cases d with
  | int i =>
    cases e with
    | int j =>
      cases hd.int; cases he.int
      exact op_mod pins s σ H _ _ v u Q I rx ry ⟨i, j, rfl, rfl, q.1, k _ _ _ q.2 (.same (.int _))⟩
    | _ => exact q.elim
  | _ => cases e <;> exact q.elim
theorem ox_fdiv : OpR X (binaryOp .FloorDiv) (rO X.kw fdivX) := by
  rintro pins s σ H x y v u Q I rx ry ⟨fz, d, e, hd, he, Q', q, k⟩
  cases d with
  | int i =>
    cases e with
    | int j =>
      cases hd.int; cases he.int
      exact op_fdivW pins s σ H _ _ v u Q I rx ry ⟨i, j, rfl, rfl, wide_div q.1 q.2.1 (by decide) (Nat.le_refl _), k _ _ _ q.2.2 (.same (.int _))⟩
    | _ => exact q.elim
  | _ => cases e <;> exact q.elim
theorem ox_pow : OpR X (binaryOp .Pow) (rO X.kw powX) := by
  rintro pins s σ H x y v u Q I rx ry ⟨fz, d, e, hd, he, Q', q, k⟩
  cases d with
  | int i =>
    cases e with
    | int j =>
      cases hd.int; cases he.int
      exact op_pow pins s σ H _ _ v u Q I rx ry ⟨i, j, rfl, rfl, ⟨q.1, q.2.1, q.2.2.1⟩, k _ _ _ q.2.2.2 (.same (.int _))⟩
    | _ => exact q.elim
  | _ => cases e <;> exact q.elim
theorem ox_lt : OpR X (compareOp .Lt) (rO X.kw ltX) := by
  rintro pins s σ H x y v u Q I rx ry ⟨fz, d, e, hd, he, Q', q, k⟩
  cases d with
  | int i =>
    cases e with
    | int j =>
      cases hd.int; cases he.int
      exact op_lt pins s σ H _ _ v u Q I rx ry ⟨i, j, rfl, rfl, k _ _ _ q (.same (.bl _))⟩
    | _ => exact q.elim
  | _ => cases e <;> exact q.elim
theorem ox_le : OpR X (compareOp .LtE) (rO X.kw leX) := by
  rintro pins s σ H x y v u Q I rx ry ⟨fz, d, e, hd, he, Q', q, k⟩
  cases d with
  | int i =>
    cases e with
    | int j =>
      cases hd.int; cases he.int
      exact op_le pins s σ H _ _ v u Q I rx ry ⟨i, j, rfl, rfl, k _ _ _ q (.same (.bl _))⟩
    | _ => exact q.elim
  | _ => cases e <;> exact q.elim
theorem ox_gt : OpR X (compareOp .Gt) (rO X.kw gtX) := by
  rintro pins s σ H x y v u Q I rx ry ⟨fz, d, e, hd, he, Q', q, k⟩
  cases d with
  | int i =>
    cases e with
    | int j =>
      cases hd.int; cases he.int
      exact op_gt pins s σ H _ _ v u Q I rx ry ⟨i, j, rfl, rfl, k _ _ _ q (.same (.bl _))⟩
    | _ => exact q.elim
  | _ => cases e <;> exact q.elim
theorem ox_ge : OpR X (compareOp .GtE) (rO X.kw geX) := by
  rintro pins s σ H x y v u Q I rx ry ⟨fz, d, e, hd, he, Q', q, k⟩
  cases d with
  | int i =>
    cases e with
    | int j =>
      cases hd.int; cases he.int
      exact op_ge pins s σ H _ _ v u Q I rx ry ⟨i, j, rfl, rfl, k _ _ _ q (.same (.bl _))⟩
    | _ => exact q.elim
  | _ => cases e <;> exact q.elim
theorem ox_eq (hu : X.A.units + 64 < cLine) : OpR X (compareOp .Eq) (rO X.kw eqX) := by
  rintro pins s σ H x y v u Q I rx ry ⟨fz, d, e, hd, he, Q', ⟨q1, q2, q⟩, k⟩
  obtain ⟨as, r1, _⟩ := RB.reads I hd rx
  obtain ⟨bs, r2, _⟩ := RB.reads I he ry
  exact SeqAt.compareEq_shaped r1 r2 q1 q2 hu ⟨.bl _, H, I, rfl, k _ _ _ q (.same (.bl _))⟩
theorem ox_ne (hu : X.A.units + 64 < cLine) : OpR X (compareOp .NotEq) (rO X.kw neX) := by
  rintro pins s σ H x y v u Q I rx ry ⟨fz, d, e, hd, he, Q', ⟨q1, q2, q⟩, k⟩
  obtain ⟨as, r1, _⟩ := RB.reads I hd rx
  obtain ⟨bs, r2, _⟩ := RB.reads I he ry
  exact SeqAt.compareNe_shaped r1 r2 q1 q2 hu ⟨.bl _, H, I, rfl, k _ _ _ q (.same (.bl _))⟩
end

/-! ### is None -/
def isNoneD : PyData → Bool
  | .none => true
  | _ => false
theorem RB.isNon {K : KW} {H : Hp} {fz : Addr → Prop} {d : PyData} {v : V} (r : RB K H fz d v) : decide (v = .non) = isNoneD d := by
  cases d with
  | none => rw [r.non]; rfl
  | bool b => rw [r.bl]; rfl
  | int b => rw [r.int]; rfl
  | str b => rw [r.str]; simp [isNoneD]
  | list ds => obtain ⟨a, xs, rfl, _⟩ := r; rfl
  | tuple ds => obtain ⟨a, xs, rfl, _⟩ := r.tup; rfl
  | dict ds => obtain ⟨a, ep, es, ks, vs, rfl, _⟩ := r; rfl
def isX : OpX := fun x y Q => y = .none ∧ Q (.dat (.bool (isNoneD x)))
def isnX : OpX := fun x y Q => y = .none ∧ Q (.dat (.bool (!isNoneD x)))
section
variable {X : Cx}
theorem ox_is : OpR X (compareOp .Is) (rO X.kw isX) := by
  rintro pins s σ H x y v u Q I rx ry ⟨fz, d, e, hd, he, Q', ⟨rfl, q⟩, k⟩
  refine op_isN pins s σ H _ _ v u Q I rx ry ⟨he.non, ?_⟩
  rw [hd.isNon]
  exact k _ _ _ q (.same (.bl _))
theorem ox_isn : OpR X (compareOp .IsNot) (rO X.kw isnX) := by
  rintro pins s σ H x y v u Q I rx ry ⟨fz, d, e, hd, he, Q', ⟨rfl, q⟩, k⟩
  refine op_notN pins s σ H _ _ v u Q I rx ry ⟨he.non, ?_⟩
  rw [hd.isNon]
  exact k _ _ _ q (.same (.bl _))
end

/-! ### a chain of two comparisons -/
section
variable {X : Cx} {ZP : ZT} {a b c : Expr} {pos : Pos} {ta tb tc : TLD} {o o' : OpX}
/-- the general form: both sides by LV.get -/
def t_chain' (o o' : OpX) (ta tb tc : TLD) : TD := fun cs Q => ta cs fun l cs1 => tb cs1 fun m cs2 => ∃ d e, l.get cs2 = some d ∧ m.get cs2 = some e ∧
  o d e fun sv => (sv = .dat (.bool false) ∧ Q (.dat (.bool false)) cs2) ∨ (sv = .dat (.bool true) ∧
    tc cs2 fun n cs3 => ∃ e' f, m.get cs3 = some e' ∧ n.get cs3 = some f ∧ o' e' f fun sv' => (∃ b, sv' = .dat (.bool b)) ∧ Q sv' cs3)
theorem de_chain {op op' : CmpOp} (ho : OpR X (compareOp op) (rO X.kw o)) (ho' : OpR X (compareOp op') (rO X.kw o')) (ha : DL X ZP a ta) (hb : DL X ZP b tb) (hc : DL X ZP c tc)
    (hm : lastMarks [op, op'] [b, c] = false := by with_unfolding_all rfl) : DE X ZP (.Compare a [op, op'] [b, c] pos) (t_chain' o o' ta tb tc) := by
  refine ⟨PE.imp (pe_chain ho ho' ha.pe hb.pe hc.pe hm) ?_⟩
  rintro σ H Q ⟨B, cs, g, R, Q', q, k⟩
  refine ⟨B, cs, g, R, _, q, fun l cs1 v g1 H1 q1 R1 r1 s1 f1 => ?_⟩
  refine ⟨B, cs1, g1, R1, _, q1, fun m cs2 u g2 H2 q2 R2 r2 s2 f2 => ?_⟩
  obtain ⟨d, e, e1, e2, q3⟩ := q2
  have r1' := r1.frm R1 f2
  have f12 : Frm (ow cs σ) g H g2 H2 := f1.trans (f2.mono fun a _ _ h => s1 a h)
  refine ⟨g2.fz, d, e, r1'.rb R2 e1, r2.rb R2 e2, _, q3, fun sv z H' q4 rz => ?_⟩
  obtain ⟨R3, r3, t3, f3⟩ := rz.fin R2
  have f3' : Frm (ow cs σ) g2 H2 g2 H' := f3.mono fun a _ _ h => s1 a (s2 a h)
  rcases q4 with ⟨rfl, q4⟩ | ⟨rfl, q4⟩
  · cases r3
    refine ⟨false, rfl, ?_⟩
    show Q _ _
    exact k _ cs2 _ g2 H' q4 R3 (.bl false) (fun _ _ e => nomatch e) (fun a h => s1 a (s2 a h)) (f12.trans f3')
  · cases r3
    refine ⟨true, rfl, ?_⟩
    show tLt X.kw ZP tc σ H' _
    refine ⟨B, cs2, g2, R3, _, q4, fun n cs3 w g4 H4 q5 R4 r4 s4 f4 => ?_⟩
    obtain ⟨e', f, e3, e4, q6⟩ := q5
    have rm := (r2.frm R2 f3).frm R3 f4
    refine ⟨g4.fz, e', f, rm.rb R4 e3, r4.rb R4 e4, _, q6, fun sv' z' H5 q7 rz' => ?_⟩
    obtain ⟨R5, r5, t5, f5⟩ := rz'.fin R4
    obtain ⟨⟨bb, rfl⟩, q8⟩ := q7
    have f4' : Frm (ow cs σ) g2 H' g4 H4 := f4.mono fun a _ _ h => s1 a (s2 a h)
    have f5' : Frm (ow cs σ) g4 H4 g4 H5 := f5.mono fun a _ _ h => s1 a (s2 a (s4 a h))
    exact k _ cs3 z' g4 H5 q8 R5 r5 (fun _ _ e => nomatch e) (fun a h => s1 a (s2 a (s4 a h))) (((f12.trans f3').trans f4').trans f5')
theorem dt_chain {op op' : CmpOp} (ho : OpR X (compareOp op) (rO X.kw o)) (ho' : OpR X (compareOp op') (rO X.kw o')) (ha : DL X ZP a ta) (hb : DL X ZP b tb) (hc : DL X ZP c tc)
    (hm : lastMarks [op, op'] [b, c] = false := by with_unfolding_all rfl) : DT X ZP (.Compare a [op, op'] [b, c] pos) (t_tst (t_chain' o o' ta tb tc)) := by
  refine ⟨PT.imp (pt_chain ho ho' ha.pe hb.pe hc.pe hm) ?_⟩
  rintro σ H Q ⟨B, cs, g, R, Q', q, k⟩
  refine ⟨B, cs, g, R, _, q, fun l cs1 v g1 H1 q1 R1 r1 s1 f1 => ?_⟩
  refine ⟨B, cs1, g1, R1, _, q1, fun m cs2 u g2 H2 q2 R2 r2 s2 f2 => ?_⟩
  obtain ⟨d, e, e1, e2, q3⟩ := q2
  have r1' := r1.frm R1 f2
  have f12 : Frm (ow cs σ) g H g2 H2 := f1.trans (f2.mono fun a _ _ h => s1 a h)
  refine ⟨g2.fz, d, e, r1'.rb R2 e1, r2.rb R2 e2, _, q3, fun sv z H' q4 rz => ?_⟩
  obtain ⟨R3, r3, t3, f3⟩ := rz.fin R2
  have f3' : Frm (ow cs σ) g2 H2 g2 H' := f3.mono fun a _ _ h => s1 a (s2 a h)
  rcases q4 with ⟨rfl, q4⟩ | ⟨rfl, q4⟩
  · cases r3
    refine ⟨false, rfl, ?_⟩
    show ∃ k, _
    exact ⟨false, rfl, k _ cs2 g2 H' q4 R3 (fun a h => s1 a (s2 a h)) (f12.trans f3')⟩
  · cases r3
    refine ⟨true, rfl, ?_⟩
    show tLt X.kw ZP tc σ H' _
    refine ⟨B, cs2, g2, R3, _, q4, fun n cs3 w g4 H4 q5 R4 r4 s4 f4 => ?_⟩
    obtain ⟨e', f, e3, e4, q6⟩ := q5
    have rm := (r2.frm R2 f3).frm R3 f4
    refine ⟨g4.fz, e', f, rm.rb R4 e3, r4.rb R4 e4, _, q6, fun sv' z' H5 q7 rz' => ?_⟩
    obtain ⟨R5, r5, t5, f5⟩ := rz'.fin R4
    obtain ⟨⟨bb, rfl⟩, q8⟩ := q7
    have f4' : Frm (ow cs σ) g2 H' g4 H4 := f4.mono fun a _ _ h => s1 a (s2 a h)
    have f5' : Frm (ow cs σ) g4 H4 g4 H5 := f5.mono fun a _ _ h => s1 a (s2 a (s4 a h))
    cases r5
    exact ⟨bb, rfl, k _ cs3 g4 H5 q8 R5 (fun a h => s1 a (s2 a (s4 a h))) (((f12.trans f3').trans f4').trans f5')⟩
end

/-! ### calls of a built-in -/
abbrev C1X := PyData → (SV → Prop) → Prop
def rC1 (K : KW) (o : C1X) : List V → Hp → VK → Prop := fun xs H Q => ∃ x fz d, xs = [x] ∧ RB K H fz d x ∧ ∃ Q', o d Q' ∧ ∀ sv z H', Q' sv → Res K H fz sv z H' → Q z H'
def rC2 (K : KW) (o : OpX) : List V → Hp → VK → Prop := fun xs H Q => ∃ x y fz d e, xs = [x, y] ∧ RB K H fz d x ∧ RB K H fz e y ∧ ∃ Q', o d e Q' ∧ ∀ sv z H', Q' sv → Res K H fz sv z H' → Q z H'
def t_c1 (o : C1X) (ta : TLD) : TD := fun cs Q => ta cs fun l cs1 => match l.get cs1 with
  | some d => o d fun sv => Q sv cs1
  | none => False
section
variable {X : Cx} {ZP : ZT} {a b : Expr} {pos p : Pos} {ta tb : TLD} {o : C1X} {o2 : OpX} {x : Str} {id T : String}
theorem c1_core {σ : L2.St} {H : Hp} {Q : VK} (h : tD X.kw ZP (t_c1 o ta) σ H Q) : tCB (rC1 X.kw o) (tCons (tLt X.kw ZP ta) tNil) σ H Q := by
  obtain ⟨B, cs, g, R, Q', q, k⟩ := h
  refine ⟨B, cs, g, R, _, q, fun l cs1 v g1 H1 q1 R1 r1 s1 f1 => ?_⟩
  cases e1 : l.get cs1 with
  | none => rw [e1] at q1; exact q1.elim
  | some d =>
    rw [e1] at q1
    refine ⟨v, g1.fz, d, rfl, r1.rb R1 e1, _, q1, fun sv z H' q3 rz => ?_⟩
    obtain ⟨R3, r3, t3, f3⟩ := rz.fin R1
    refine k sv cs1 z g1 H' q3 R3 r3 (fun xs a e3 e4 => ?_) s1 (f1.trans (f3.mono fun a _ _ h => s1 a h))
    obtain ⟨n1, n2⟩ := t3 xs a e3 e4
    refine ⟨n1, ?_⟩
    cases e5 : H a with
    | none => rfl
    | some u =>
      obtain ⟨u', e6⟩ := f1.any a u e5
      rw [n2] at e6; cases e6
theorem de_b1 (hc : CallR X (.builtin id) (rC1 X.kw o)) (hg : Gl X x) (hm : X.mg x = none) (hv : bootBuiltins x = some (.builtin id)) (ha : DL X ZP a ta) (hn : x ≠ "__name__" := by decide) (hdb : (x == ("__debug__" : Str)) = false := by decide)
    (he : starEach [a] X.env = (false, eval a X.env) :: starEach [] X.env := by rfl) : DE X ZP (.Call (.Name x p) [a] [] pos) (t_c1 o ta) :=
  ⟨PE.imp (pe_callB hc hg hm hv (pa_cons ha.pe pa_nil he) hn hdb he rfl) fun σ H Q h => c1_core h⟩
theorem de_t1 (hc : CallR X (.type T) (rC1 X.kw o)) (hg : Gl X x) (hm : X.mg x = none) (hv : bootBuiltins x = some (.type T)) (ha : DL X ZP a ta) (hn : x ≠ "__name__" := by decide) (hdb : (x == ("__debug__" : Str)) = false := by decide)
    (he : starEach [a] X.env = (false, eval a X.env) :: starEach [] X.env := by rfl) : DE X ZP (.Call (.Name x p) [a] [] pos) (t_c1 o ta) :=
  ⟨PE.imp (pe_callTy hc hg hm hv (pa_cons ha.pe pa_nil he) hn hdb he rfl) fun σ H Q h => c1_core h⟩
theorem c2_core {σ : L2.St} {H : Hp} {Q : VK} (h : tD X.kw ZP (t_op o2 ta tb) σ H Q) : tCB (rC2 X.kw o2) (tCons (tLt X.kw ZP ta) (tCons (tLt X.kw ZP tb) tNil)) σ H Q := by
  have h := op_core (X := X) h
  obtain ⟨B, cs, g, R, Q', q, k⟩ := h
  refine ⟨B, cs, g, R, Q', q, fun l cs1 v g1 H1 q1 R1 r1 s1 f1 => ?_⟩
  obtain ⟨B', cs', g', R', Q2, q2, k2⟩ := k l cs1 v g1 H1 q1 R1 r1 s1 f1
  refine ⟨B', cs', g', R', Q2, q2, fun m cs2 u g2 H2 q3 R2 r2 s2 f2 => ?_⟩
  obtain ⟨fz, d, e, hd, he, z⟩ := k2 m cs2 u g2 H2 q3 R2 r2 s2 f2
  exact ⟨v, u, fz, d, e, rfl, hd, he, z⟩
theorem de_b2 (hc : CallR X (.builtin id) (rC2 X.kw o2)) (hg : Gl X x) (hm : X.mg x = none) (hv : bootBuiltins x = some (.builtin id)) (ha : DL X ZP a ta) (hb : DL X ZP b tb) (hn : x ≠ "__name__" := by decide) (hdb : (x == ("__debug__" : Str)) = false := by decide)
    (he : starEach [a, b] X.env = (false, eval a X.env) :: starEach [b] X.env := by rfl) (he2 : starEach [b] X.env = (false, eval b X.env) :: starEach [] X.env := by rfl) (hpl : (backTo pos (starEach [b] X.env)).any (·.1) = false := by rfl) : DE X ZP (.Call (.Name x p) [a, b] [] pos) (t_op o2 ta tb) :=
  ⟨PE.imp (pe_callB hc hg hm hv (pa_cons ha.pe (pa_cons hb.pe pa_nil he2) he) hn hdb he hpl) fun σ H Q h => c2_core h⟩
end

/-! ### isinstance -/
def isT (d : PyData) (T : String) : Bool := match d with
  | .none => T == "NoneType"
  | .bool _ => T == "bool" || T == "int"
  | .int _ => T == "int"
  | .str _ => T == "str"
  | .list _ => T == "list"
  | .tuple _ => T == "tuple"
  | .dict _ => T == "dict"
def tyD : PyData → String
  | .none => "NoneType"
  | .bool _ => "bool"
  | .int _ => "int"
  | .str _ => "str"
  | .list _ => "list"
  | .tuple _ => "tuple"
  | .dict _ => "dict"
theorem kit_data {K : KW} {h : Heap} {u : Value} {d : PyData} {as : List Addr} (r : Reads h u d as) : ∃ P : Heap → Prop, PySem.W.KitX K u (.type (tyD d)) P ∧ P h ∧ u ≠ .builtin "__main__.__loader__#opaque" := by
  cases r with
  | none => exact ⟨_, PySem.W.kitx_none, True.intro, fun z => nomatch z⟩
  | bool b => exact ⟨_, PySem.W.kitx_bool, True.intro, fun z => nomatch z⟩
  | int i t => exact ⟨_, PySem.W.kitx_int, True.intro, fun z => nomatch z⟩
  | str x t => exact ⟨_, PySem.W.kitx_str, True.intro, fun z => nomatch z⟩
  | list h1 h2 _ _ => exact ⟨_, PySem.W.kitx_list, ⟨_, h1, h2⟩, fun z => nomatch z⟩
  | tuple h1 h2 _ _ => exact ⟨_, PySem.W.kitx_tuple, ⟨_, h1, h2⟩, fun z => nomatch z⟩
  | dict h1 h2 _ _ _ => exact ⟨_, PySem.W.kitx_dict, ⟨_, h1, h2⟩, fun z => nomatch z⟩
def isTy (T : String) : Prop := ∀ d : PyData, kitB (tyD d) T = some (isT d T)
def isTs (t T : String) : Bool := if t == "bool" then (T == "bool" || T == "int") else T == t
theorem isT_ts (d : PyData) (T : String) : isT d T = isTs (tyD d) T := by cases d <;> rfl
theorem isTy_of {T : String} (h : ∀ t ∈ ["NoneType", "bool", "int", "str", "list", "tuple", "dict"], kitB t T = some (isTs t T)) : isTy T := fun d => by
  rw [isT_ts]
  exact h (tyD d) (by cases d <;> simp [tyD])
theorem isTy_int : isTy "int" := isTy_of (by decide +kernel)
theorem isTy_bool : isTy "bool" := isTy_of (by decide +kernel)
theorem isTy_str : isTy "str" := isTy_of (by decide +kernel)
theorem isTy_tuple : isTy "tuple" := isTy_of (by decide +kernel)
theorem isTy_list : isTy "list" := isTy_of (by decide +kernel)
theorem isTy_dict : isTy "dict" := isTy_of (by decide +kernel)
def rIsD (K : KW) (T : String) : List V → Hp → VK → Prop := fun xs H Q => ∃ x fz d, xs = [x, .ty T] ∧ RB K H fz d x ∧ Q (.bl (isT d T)) H
def t_isi (T : String) (ta : TLD) : TVD := fun cs Q => ta cs fun l cs1 => match l.get cs1 with
  | some d => Q (.bool (isT d T)) cs1
  | none => False
section
variable {X : Cx} {ZP : ZT} {a : Expr} {pos p p2 : Pos} {ta : TLD} {x : Str} {T : String}
theorem cr_isD (ht : isTy T) : CallR X (.builtin "isinstance") (rIsD X.kw T) := by
  rintro pins s σ H xs us Q I r ⟨x, fz, d, rfl, hd, q⟩
  obtain ⟨u1, u2, rfl, r1, r2⟩ := vals2 r
  cases (show u2 = Value.type T from r2)
  obtain ⟨as, rd, _⟩ := RB.reads I hd r1
  obtain ⟨P, Z, p, hx⟩ := kit_data (K := X.kw) rd
  exact PySem.W.kia_one Z I.kIn p (kit_ty (ht d)) hx fun tk => ⟨.bl _, H, I.tok tk, rfl, q⟩
theorem dv_isi (ht : isTy T) (hg : Gl X "isinstance") (hm : X.mg "isinstance" = none) (hg2 : Gl X x) (hm2 : X.mg x = none) (hv2 : bootBuiltins x = some (.type T)) (ha : DL X ZP a ta) (hn : x ≠ "__name__" := by decide) (hdb : (x == ("__debug__" : Str)) = false := by decide)
    (he : starEach [a, .Name x p2] X.env = (false, eval a X.env) :: starEach [.Name x p2] X.env := by rfl) : DV X ZP (.Call (.Name "isinstance" p) [a, .Name x p2] [] pos) (t_isi T ta) := by
  refine ⟨PE.imp (pe_callB (cr_isD ht) hg hm (by decide +kernel) (pa_cons ha.pe (pa_cons (pe_bltn (v := .ty T) hg2 hm2 hv2 rfl hn hdb) pa_nil) he) (by decide) (by decide) he rfl) ?_⟩
  rintro σ H Q ⟨B, cs, g, R, Q', q, k⟩
  refine ⟨B, cs, g, R, _, q, fun l cs1 v g1 H1 q1 R1 r1 s1 f1 => ?_⟩
  cases e1 : l.get cs1 with
  | none => rw [e1] at q1; exact q1.elim
  | some d =>
    rw [e1] at q1
    exact ⟨v, g1.fz, d, rfl, r1.rb R1 e1, k _ cs1 _ g1 H1 q1 R1 (.bl _) s1 f1⟩
end
end Cl

/-! a def's promise where nothing is being shown (the guards are empty): repr of containers is allowed there -/
namespace Cl
open PySem PySem.Spec PyProof.Rows L2

structure FnG (P : Program) (w : World) (K : PySem.W.Frag) (mg : Str → Option Value) (base : Heap) (CX : CXT) (k : Nat) (f : Addr) (fd : FuncData) (ps : List Str) (sp : Sp) : Prop where
  len : ∀ vs H Q E, sp vs H Q E → vs.length = ps.length
  run : ∀ (A : Around) (outer : List Env) (s : Shared) (H : Hp) (args : Args) (us : List Value) (vs : List V) (Q : VK) (E : XK), A.guards = some [] → Room k A →
    Env0 P w K mg base A outer s H → BindsTo s fd args (ps.zip us) → Vals vs us → sp vs H Q E → codeAny (model P w) A (.call (.ref f) args) (CR CX outer P w H s Q E) s

theorem FnG.mono {P : Program} {w : World} {K : PySem.W.Frag} {mg : Str → Option Value} {base : Heap} {CX : CXT} {j k : Nat} {f : Addr} {fd : FuncData} {ps : List Str} {sp : Sp}
    (F : FnG P w K mg base CX j f fd ps sp) (h : j ≤ k) : FnG P w K mg base CX k f fd ps sp :=
  ⟨F.len, fun A o s H a us vs Q E hg hr => F.run A o s H a us vs Q E hg (hr.mono h)⟩
theorem FnG.imp {P : Program} {w : World} {K : PySem.W.Frag} {mg : Str → Option Value} {base : Heap} {CX : CXT} {k : Nat} {f : Addr} {fd : FuncData} {ps : List Str} {sp sp' : Sp}
    (F : FnG P w K mg base CX k f fd ps sp) (h : ∀ vs H Q E, sp' vs H Q E → sp vs H Q E) : FnG P w K mg base CX k f fd ps sp' :=
  ⟨fun vs H Q E q => F.len vs H Q E (h _ _ _ _ q), fun A o s H a us vs Q E hg hr he hb hv hs => F.run A o s H a us vs Q E hg hr he hb hv (h _ _ _ _ hs)⟩

theorem fnG_of {CX : CXT} {P : Program} {w : World} {K : PySem.W.Frag} {mg : Str → Option Value} {base : Heap} {k : Nat} {f : Addr} {name qual : Str} {params : Arguments} {body : List Stmt} {scope : Scope}
    {dV kV doc pm cdv ct oc : Value} {an od : Option Addr} {osl : Array (Option Value)} {N ps : List Str} {sp : Sp}
    (lk : K.lookup f = some ⟨oc, od, .func (PySem.W.fnOf name qual params body scope dV kV doc pm an cdv ct), osl⟩) (cdk : PySem.W.codeIn K cdv qual = true) (S : FnScope N ps scope)
    (len : ∀ vs H Q E, sp vs H Q E → vs.length = ps.length)
    (bod : ∀ (A : Around) (outer : List Env) (s : Shared) (H : Hp) (vs : List V) (Q : VK) (E : XK), A.guards = some [] →
      Room k (A.deeper (envOfC qual scope s.heap.objs.size f cdv)) → sp vs H Q E →
      ∃ t, PSs (cxOf CX P w K mg base N qual scope f cdv A outer s H E) body t ∧ t { nx := fun _ H' => Q .non H', rt := Q } (L2.start N vs) H) :
    FnG P w K mg base CX (k + 1) f (PySem.W.fnOf name qual params body scope dV kV doc pm an cdv ct) ps sp := by
  refine ⟨len, fun A outer s H args us vs Q E hg hr e0 bind rel want => ?_⟩
  have nl := len _ _ _ _ want
  have inK : K.In s.heap := e0.mod.kin.keeps fun c ob => fun z => (e0.bs c ob z).1
  have noLim : s.heap.NoLimit := e0.mod.nolimit.keeps fun c ob => fun z => (e0.bs c ob z).1
  have kinds : ∀ y ∈ ps.zip us, scope.names.lookup y.1 = some .local ∨
      (scope.names.lookup y.1 = some .cell ∧ ((cellsFrom (s.heap.objs.size + 1) scope.names []).lookup y.1).isSome = true) := by
    rintro ⟨n, v⟩ hy
    have hn : n ∈ ps := (List.of_mem_zip hy).1
    rcases S.par n hn with c | c
    · exact Or.inl c
    · exact Or.inr ⟨c, PySem.W.cellsFrom_some _ _ _ (Or.inl c)⟩
  refine codeAny_call_function hr.depth (inK _ _ lk) rfl S.co S.gen rfl (PySem.W.codeRec_of inK cdk) (bind _ _ _ _ ?_)
  refine wpAny_newFunctionEnv_cells S.kind kinds fun env eqE st inC => ?_
  subst eqE
  refine ⟨noLim.keeps inC.toInCall.keep, codeAny_func ?_⟩
  obtain ⟨t, ht, wt⟩ := bod A outer s H vs Q E hg (hr.deeper _) want
  have J0 := inv_start (CX := CX) (P := P) (w := w) (K := K) (mg := mg) (base := base) (E := E) S hr.hd e0 nl rel inC
  refine wpAny_mono (ht.run [] st (L2.start N vs) H _ J0 wt) ?_ fun e s' z => z
  intro fl s' res
  cases fl with
  | ret u =>
    obtain ⟨v, σ', H', J, rv, q⟩ := res
    exact ⟨v, H', J.os, J.bare, J.base, J.hok, rv, q⟩
  | next =>
    obtain ⟨σ', H', J, q⟩ := res
    exact ⟨.non, H', J.os, J.bare, J.base, J.hok, rfl, q⟩
  | brk => exact res.elim fun _ z => z.elim fun _ z => z.2.elim
  | cont => exact res.elim fun _ z => z.elim fun _ z => z.2.elim

section
variable {P : Program} {w : World} {K : PySem.W.Frag} {mg : Str → Option Value} {base : Heap}
/-- a def of the text, no exception leaves it -/
theorem funG {x qual : Str} {st : Stmt} {f : Addr} {fd : FuncData} {N ps : List Str} {k : Nat} {sp : Sp} (F : Fun K x qual st f fd) (S : FnScope N ps (defScope st))
    (len : ∀ vs H Q E, sp vs H Q E → vs.length = ps.length)
    (bod : ∀ (cdv : Value) (A : Around) (outer : List Env) (s : Shared) (H : Hp) (vs : List V) (Q : VK) (E : XK), A.guards = some [] →
      Room k (A.deeper (envOfC qual (defScope st) s.heap.objs.size f cdv)) → sp vs H Q E →
      ∃ t, PSs (cxOf CX0 P w K mg base N qual (defScope st) f cdv A outer s H E).nox (defBody st) t ∧ t { nx := fun _ H' => Q .non H', rt := Q } (L2.start N vs) H) :
    FnG P w K mg base CX0 (k + 1) f fd ps sp := by
  obtain ⟨oc, od, kV, doc, pm, an, cdv, ct, osl, rfl, lk, cdk⟩ := F.ex
  refine fnG_of lk cdk S len fun A outer s H vs Q E hg hr want => ?_
  obtain ⟨t, h, q⟩ := bod cdv A outer s H vs Q E hg hr want
  exact ⟨t, PSs.nox h, q⟩
end

section
variable {X : Cx} {CX : CXT} {k : Nat} {f : Addr} {fd : FuncData} {ps ks : List Str} {sp : Sp} {E : XK} {x : Str} {p pos : Pos} {e : Expr} {es : List Expr} {kws : List Keyword} {t tk : TA}
theorem run_G {pins : List (Addr × Obj)} {σ : L2.St} {H : Hp} {s : Shared} {Q : VK} {args : Args} {us : List Value} {vs : List V} (F : FnG X.prog X.w X.K X.mg X.base CX k f fd ps sp) (hg : X.A.guards = some []) (hr : Room k X.A) (hx : Passes CX X E)
    (I : Inv X pins σ H s) (hb : BindsTo s fd args (ps.zip us)) (r : Vals vs us) (h : sp vs H Q E) : wpAny (model X.prog X.w) X.A (call (.ref f) args.pos args.kw) (EP X pins σ Q) X.xe s := by
  refine wpAny_call (codeAny_mono (F.run X.A X.stack s H args us vs Q E hg hr I.env0 hb r h) ?_)
  intro res s' z
  cases res with
  | error e => exact hx pins σ H s e s' I z
  | ok fl =>
    cases fl with
    | ret u => exact I.after z
    | next => exact z.elim
    | brk => exact z.elim
    | cont => exact z.elim
/-- f(e, ..), every parameter given by its place -/
def tCallG (sp : Sp) (E : XK) (t : TA) : TE := fun σ H Q => t σ H fun vs H1 => sp vs H1 Q E
theorem pe_callG1 (F : FnG X.prog X.w X.K X.mg X.base CX k f fd ps sp) (hgd : X.A.guards = some []) (hr : Room k X.A) (hg : Gl X x) (hm : X.mg x = some (.ref f)) (hk : PySem.W.keepIn X.K (.ref f) = true) (hb : Binds X.K fd ps []) (hx : Passes CX X E)
    (ha : PA X (e :: es) t) (hdb : (x == ("__debug__" : Str)) = false := by decide) (he : starEach (e :: es) X.env = (false, eval e X.env) :: starEach es X.env := by rfl) (hpl : (backTo pos (starEach es X.env)).any (·.1) = false := by rfl) :
    PE X (.Call (.Name x p) (e :: es) [] pos) (tCallG sp E t) := by
  constructor
  intro pins s σ H Q I h
  refine wpAny_Call_Name_kw (ld_glob I hg hm ?_ hdb)
  refine PySem.W.callWith_K (h₀ := X.base) I.ok.mod.kin hk (thn (ha.run pos pins s σ H _ I h) ?_) he hpl
  rintro us s1 ⟨vs, H1, I1, r, q⟩
  refine ⟨I1.kIn, ?_⟩
  have hl : us.length = ps.length := by rw [← r.length]; exact F.len _ _ _ _ q
  have b := hb s1 us I1.kIn (by rw [List.append_nil]; exact hl)
  rw [List.append_nil] at b
  exact run_G (args := ⟨us, []⟩) F hgd hr hx I1 b r q
end
end Cl

namespace Cl
open PySem PySem.Spec PyProof.Rows L2

/-- how a call with n places and the keywords ks binds -/
def KBd (K : PySem.W.Frag) (fd : FuncData) (ps ks : List Str) (n : Nat) (g : List Value → List Value → List Value) : Prop :=
  ∀ (s : Shared) (us ws : List Value), K.In s.heap → us.length = n → ws.length = ks.length → BindsTo s fd ⟨us, ks.zip ws⟩ (ps.zip (g us ws))
def KRel (gV : List V → List V → List V) (g : List Value → List Value → List Value) : Prop :=
  ∀ (vs : List V) (us : List Value) (zs : List V) (ws : List Value), Vals vs us → Vals zs ws → Vals (gV vs zs) (g us ws)
theorem kbd {K : PySem.W.Frag} {x qual : Str} {st : Stmt} {f : Addr} {fd : FuncData} {ps ks : List Str} {n : Nat} {g : List Value → List Value → List Value} (F : Fun K x qual st f fd)
    (h : ∀ (kV doc pm : Value) (an : Option Addr) (cdv ct : Value) (us ws : List Value), us.length = n → ws.length = ks.length →
      bindArgs (PySem.W.fnOf x qual (defArgs st) (defBody st) (defScope st) .none kV doc pm an cdv ct) ⟨us, ks.zip ws⟩ = pure (ps.zip (g us ws))) : KBd K fd ps ks n g := by
  obtain ⟨oc, od, kV, doc, pm, an, cdv, ct, osl, rfl, lk, cdk⟩ := F.ex
  exact fun s us ws _ h1 h2 => .of_eq (h kV doc pm an cdv ct us ws h1 h2)
section
variable {X : Cx} {CX : CXT} {k n : Nat} {f : Addr} {fd : FuncData} {ps ks : List Str} {sp : Sp} {E : XK} {x : Str} {p pos : Pos} {e : Expr} {es : List Expr} {kws : List Keyword} {t tk : TA}
variable {g : List Value → List Value → List Value} {gV : List V → List V → List V}
def tCallGK (n m : Nat) (sp : Sp) (gV : List V → List V → List V) (E : XK) (t tk : TA) : TE := fun σ H Q => t σ H fun vs H1 => tk σ H1 fun zs H2 => vs.length = n ∧ zs.length = m ∧ sp (gV vs zs) H2 Q E
theorem pe_callGK (F : FnG X.prog X.w X.K X.mg X.base CX k f fd ps sp) (hgd : X.A.guards = some []) (hr : Room k X.A) (hg : Gl X x) (hm : X.mg x = some (.ref f)) (hk : PySem.W.keepIn X.K (.ref f) = true) (hb : KBd X.K fd ps ks n g) (hrel : KRel gV g) (hx : Passes CX X E)
    (ha : PA X (e :: es) t) (hkw : PK X kws tk) (hall : (backToKw pos (keywordEach kws X.env)).all (·.1.isSome) = true := by rfl) (hks : (backToKw pos (keywordEach kws X.env)).filterMap (·.1) = ks := by rfl)
    (hdb : (x == ("__debug__" : Str)) = false := by decide) (he : starEach (e :: es) X.env = (false, eval e X.env) :: starEach es X.env := by rfl)
    (hpl : ((backTo pos (starEach (e :: es) X.env)).any (·.1) || (backToKw pos (keywordEach kws X.env)).any (·.1.isNone)) = false := by rfl) :
    PE X (.Call (.Name x p) (e :: es) kws pos) (tCallGK n ks.length sp gV E t tk) := by
  constructor
  intro pins s σ H Q I h
  refine wpAny_Call_Name_kw (ld_glob I hg hm ?_ hdb)
  refine PySem.W.callWith_KW (h₀ := X.base) I.ok.mod.kin hk hall (thn (ha.run pos pins s σ H _ I h) ?_) hpl he
  rintro us s1 ⟨vs, H1, I1, r, q⟩
  refine thn (hkw.run pos pins s1 σ H1 _ I1 q) ?_
  rintro ws s2 ⟨zs, H2, I2, rz, l1, l2, q2⟩
  refine ⟨I2.kIn, ?_⟩
  rw [hks]
  exact run_G (args := ⟨us, ks.zip ws⟩) F hgd hr hx I2 (hb s2 us ws I2.kIn (r.length.symm.trans l1) (rz.length.symm.trans l2)) (hrel _ _ _ _ r rz) q2
theorem pe_callGK0 (F : FnG X.prog X.w X.K X.mg X.base CX k f fd ps sp) (hgd : X.A.guards = some []) (hr : Room k X.A) (hg : Gl X x) (hm : X.mg x = some (.ref f)) (hk : PySem.W.keepIn X.K (.ref f) = true) (hb : KBd X.K fd ps ks 0 g) (hrel : KRel gV g) (hx : Passes CX X E)
    (hkw : PK X kws tk) (hall : (backToKw pos (keywordEach kws X.env)).all (·.1.isSome) = true := by rfl) (hks : (backToKw pos (keywordEach kws X.env)).filterMap (·.1) = ks := by rfl)
    (hdb : (x == ("__debug__" : Str)) = false := by decide)
    (hpl : ((backTo pos (starEach [] X.env)).any (·.1) || (backToKw pos (keywordEach kws X.env)).any (·.1.isNone)) = false := by rfl) :
    PE X (.Call (.Name x p) [] kws pos) (tCallGK 0 ks.length sp gV E tNil tk) := by
  constructor
  intro pins s σ H Q I h
  refine wpAny_Call_Name_kw (ld_glob I hg hm ?_ hdb)
  refine PySem.W.callWith_KW0 (h₀ := X.base) I.ok.mod.kin hk hall ?_ hpl
  refine thn (hkw.run pos pins s σ H _ I h) ?_
  rintro ws s2 ⟨zs, H2, I2, rz, l1, l2, q2⟩
  refine ⟨I2.kIn, ?_⟩
  rw [hks]
  exact run_G (args := ⟨[], ks.zip ws⟩) F hgd hr hx I2 (hb s2 [] ws I2.kIn rfl (rz.length.symm.trans l2)) (hrel _ _ _ _ .nil rz) q2
end

/-! ### the law's end -/
theorem lawG {P : Program} {w : World} {K : PySem.W.Frag} {mg mb : Str → Option Value} {CX : CXT} {k : Nat} {fa a : Addr} {fd : FuncData} {x : Str} {sp : Sp} {s1 : Shared} {vs : List Value} {ns : List Int}
    (inK : K.In s1.heap) (gm : s1.heap.Ns mainGlobals mg) (gb : s1.heap.Ns builtinsNs mb) (blt : ∀ y : Str, y ≠ "__name__" → mb y = bootBuiltins y) (nol : s1.heap.NoLimit) (ge : s1.gens = #[])
    (ha : s1.heap.get? a = some { cls := .type "list", data := .seq vs.toArray }) (hi : IntsAre vs ns) (hl : ns.length ≤ sizeLine) (hr : Room k callerA)
    (F : ∀ base : Heap, K.In base → base.Ns mainGlobals mg → FnG P w K mg base CX k fa fd [x] sp) (bind : ∀ (s : Shared) (u : Value), BindsTo s fd ⟨[u], []⟩ [(x, u)])
    (want : ∀ H : Hp, Only H → SqL K H a (ns.map V.int) → sp [.ref a] H (fun v _ => v = .bl true) fun _ _ _ => False)
    (noX : ∀ H e s', CX [] H s1 (fun _ _ _ => False) e s' → False) :
    codeAny (model P w) callerA (.call (.ref fa) ⟨[.ref a], []⟩) (fun r s' => r = .ok (.ret (.bool true)) ∧ OldK s1.heap s'.heap ∧ s'.os = s1.os ∧ AllBare s'.gens) s1 := by
  have rel := vals_ints hi
  have len := hi.length
  have main : ∀ H : Hp, Only H → SqL K H a (ns.map V.int) → HOk P w H s1.heap → (∀ b, H b ≠ none → b = a) → (H a ≠ none → K.lookup a = none) →
      codeAny (model P w) callerA (.call (.ref fa) ⟨[.ref a], []⟩) (fun r s' => r = .ok (.ret (.bool true)) ∧ OldK s1.heap s'.heap ∧ s'.os = s1.os ∧ AllBare s'.gens) s1 := by
    intro H only seq hok onlyA freeK
    have low : ∀ {b : Addr} {o : Obj}, s1.heap.get? b = some o → (H b ≠ none → False) → (hidT s1.heap H).get? b = some o := fun {b o} e n => hidT_get e (by
      cases z : H b with
      | none => rfl
      | some u => exact (n (by simp [z])).elim)
    have dictNot : ∀ {b : Addr} {o : Obj} {es : Array DictEntry} {ep : Nat}, s1.heap.get? b = some o → o.data = .dict es ep → H b ≠ none → False := fun {b o es ep} e d n => by
      have := onlyA b n
      subst this
      rw [ha] at e; cases e
      exact absurd d (fun z => nomatch (show Data.seq vs.toArray _ = Data.dict es ep from z))
    have nsLow : ∀ {b : Addr} {m : Str → Option Value}, s1.heap.Ns b m → (hidT s1.heap H).Ns b m := fun {b m} z => by
      obtain ⟨o, es, ep, e, d, r⟩ := z
      exact ⟨o, es, ep, low e (dictNot e d), d, r⟩
    have kLow : K.In (hidT s1.heap H) := fun b o e => low (inK b o e) fun n => by
      have := onlyA b n
      subst this
      rw [freeK n] at e; cases e
    obtain ⟨mc, c1, c2⟩ := nol
    have hM : Mod K mg (hidT s1.heap H) := ⟨kLow, nsLow gm, ⟨mb, nsLow gb, blt⟩, ⟨mc, nsLow c1, c2⟩⟩
    have start0 : Env0 P w K mg (hidT s1.heap H) callerA [] s1 H :=
      ⟨rfl, hM, fun b o e => of_hidT e, Nat.le_of_eq (hidT_size _ _), trivial, (fun b z => absurd (show b ∈ ([] : List Addr) from z) (by simp)), hok, .of_eq ge⟩
    refine codeAny_mono ((F _ kLow (nsLow gm)).run callerA [] s1 H ⟨[.ref a], []⟩ [.ref a] [.ref a] _ _ rfl hr start0 (bind s1 (.ref a)) (.cons rfl .nil) (want H only seq)) ?_
    intro r s' z
    cases r with
    | error e => exact (noX H e s' z).elim
    | ok fl =>
      cases fl with
      | next => exact z.elim
      | brk => exact z.elim
      | cont => exact z.elim
      | ret u =>
        obtain ⟨v, H', os, bare, un, hok2, rv, q⟩ := z
        have q : v = V.bl true := q
        subst q
        cases (show u = Value.bool true from rv)
        refine ⟨rfl, OldK.of_keep fun b o e => ?_, os, bare⟩
        cases hb : H b with
        | none => exact un.keep b o e hb (fun z => absurd (show b ∈ ([] : List Addr) from z) (by simp)) (by simp)
        | some u =>
          rcases only b with z | ⟨ob, xs, z⟩
          · rw [hb] at z; cases z
          · have z2 := un.frzs b ob _ z
            have g1 := (hok b _ z).1
            have g2 := (hok2 b _ z2).1
            rw [e] at g1; cases g1
            exact g2
  cases hk : K.lookup a with
  | some o =>
    have e := inK a o hk
    rw [ha] at e
    cases e
    refine main (fun _ => none) (fun _ => Or.inl rfl) (Or.inr ⟨_, vs.toArray, _, hk, rfl, rfl, rfl, ?_, ?_⟩) ?_ ?_ ?_
    · rw [List.size_toArray, len]; exact hl
    · simpa using rel
    · intro b u z; exact nomatch (show (none : Option HO) = some u from z)
    · intro b z; exact (z rfl).elim
    · intro z; exact (z rfl).elim
  | none =>
    have at_a : ∀ b, (if b = a then some (HO.frz { cls := .type "list", data := .seq vs.toArray } (.lst (ns.map V.int))) else none) ≠ none → b = a := fun b z => by
      by_cases hb : b = a
      · exact hb
      · rw [if_neg hb] at z; exact (z rfl).elim
    refine main (fun b => if b = a then some (HO.frz { cls := .type "list", data := .seq vs.toArray } (.lst (ns.map V.int))) else none) (fun b => ?_) (Or.inl (Or.inr ⟨{ cls := .type "list", data := .seq vs.toArray }, if_pos rfl⟩)) (fun b u z => ?_) at_a fun _ => hk
    · by_cases hb : b = a
      · exact Or.inr ⟨_, _, if_pos hb⟩
      · exact Or.inl (if_neg hb)
    · have z : (if b = a then some (HO.frz { cls := .type "list", data := .seq vs.toArray } (.lst (ns.map V.int))) else none) = some u := z
      have hb := at_a b (fun q => by rw [q] at z; cases z)
      subst hb
      rw [if_pos rfl] at z; cases z
      refine ⟨ha, ?_, vs, _, rel, ha⟩
      rw [List.length_map]; exact hl
theorem walkG {l : PySem.W.OpenLaw} {n k : Nat} {q : Program} {loose : List Str} {XP : (Str → Option Value) → Heap → Prop} {YP : World → Heap → Prop} {d : DefRec} {K : Params → PySem.W.Frag} {CX : World → CXT} {sp : World → Sp} {x : Str}
    (hn : l.most = some n) (hn2 : n ≤ sizeLine) (hdf : d.params.defaults = []) (hr : Room k callerA)
    (hY : ∀ (w : World) (h : Heap), YP w h → (K w.params).In h)
    (F : ∀ (w : World) (mg : Str → Option Value) (fa : Addr) (h : Heap), (K w.params).In h → h.Ns mainGlobals mg → mg d.name = some (.ref fa) →
      ∃ fd : FuncData, (∀ (s : Shared) (u : Value), BindsTo s fd ⟨[u], []⟩ [(x, u)]) ∧
        ∀ base : Heap, (K w.params).In base → base.Ns mainGlobals mg → FnG l.prog w (K w.params) mg base (CX w) k fa fd [x] (sp w))
    (want : ∀ (w : World) (H : Hp) (a : Addr) (ns : List Int), ns.length ≤ n → Only H → SqL (K w.params) H a (ns.map V.int) → sp w [.ref a] H (fun v _ => v = .bl true) fun _ _ _ => False)
    (noX : ∀ (w : World) (H : Hp) (s : Shared) (e : Value) (s' : Shared), CX w [] H s (fun _ _ _ => False) e s' → False) :
    PySem.W.WalkO q loose XP YP l.row.toRowW d [] (fun f vs => PySem.call f vs) := by
  refine Att.attach_call hn hdf ?_
  intro w s₀ s1 mg mb fa o pm cd doc a vs ns G Y ho hd hcd hmg hobj hints hlen hgs
  have inK := hY w _ Y
  obtain ⟨fd, hb, hF⟩ := F w mg fa _ inK G.T.g hmg
  exact lawG inK G.T.g G.T.b G.T.builtins G.T.nolimit hgs hobj hints (Nat.le_trans hlen hn2) hr hF hb (fun H hO hS => want w H a ns hlen hO hS) fun H e s' => noX w H s1 e s'
end Cl

namespace Cl
open PySem PySem.Spec PyProof.Rows L2

/-! ### built-ins of one argument -/
def lenX : C1X := fun d Q => match d with
  | .str s => s.length ≤ sizeLine ∧ Q (.dat (.int s.length))
  | .list xs => Q (.dat (.int xs.length))
  | .tuple xs => Q (.dat (.int xs.length))
  | _ => False
def listX : C1X := fun d Q => match d with
  | .list xs => Q (.own xs)
  | .tuple xs => Q (.own xs)
  | _ => False
def tupleX : C1X := fun d Q => match d with
  | .list xs => Q (.dat (.tuple xs))
  | .tuple xs => Q (.dat (.tuple xs))
  | _ => False
def reprOk (d : PyData) : Prop := d.showable = true ∧ (d.hasDict = true → listFree d = true) ∧ d.depth ≤ 60 ∧ d.shown.length ≤ sizeLine
def reprX : C1X := fun d Q => reprOk d ∧ Q (.dat (.str d.shown))
def intX : C1X := fun d Q => match d with
  | .int i => Q (.dat (.int i))
  | .bool b => Q (.dat (.int (if b then 1 else 0)))
  | _ => False
def boolsD : List PyData → Option (List Bool)
  | [] => some []
  | .bool b :: r => (boolsD r).map (b :: ·)
  | _ :: _ => none
def intsD : List PyData → Option (List Int)
  | [] => some []
  | .int b :: r => (intsD r).map (b :: ·)
  | _ :: _ => none
def allX : C1X := fun d Q => match d with
  | .list xs => (match boolsD xs with
    | some bs => Q (.dat (.bool (bs.all id)))
    | none => False)
  | _ => False
def sumX : C1X := fun d Q => match d with
  | .list xs => (match intsD xs with
    | some ns => Q (.dat (.int ns.sum))
    | none => False)
  | _ => False
def absX : C1X := fun d Q => match d with
  | .int i => Q (.dat (.int (if i < 0 then -i else i)))
  | _ => False
section
variable {K : KW} {H : Hp} {fz : Addr → Prop}
theorem RpAll.boolsOf : ∀ {ds : List PyData} {vs : List V} {bs : List Bool}, RpAll K H fz ds vs → boolsD ds = some bs → vs = bs.map V.bl
  | [], _, bs, .nil, e => by simp [boolsD] at e; subst e; rfl
  | d :: ds, _, bs, .cons r s, e => by
    cases d with
    | bool b =>
      simp only [boolsD, Option.map_eq_some_iff] at e
      obtain ⟨cs, e1, rfl⟩ := e
      cases r
      rw [RpAll.boolsOf s e1]; rfl
    | _ => simp [boolsD] at e
theorem RpAll.intsOf : ∀ {ds : List PyData} {vs : List V} {bs : List Int}, RpAll K H fz ds vs → intsD ds = some bs → vs = bs.map V.int
  | [], _, bs, .nil, e => by simp [intsD] at e; subst e; rfl
  | d :: ds, _, bs, .cons r s, e => by
    cases d with
    | int b =>
      simp only [intsD, Option.map_eq_some_iff] at e
      obtain ⟨cs, e1, rfl⟩ := e
      cases r
      rw [RpAll.intsOf s e1]; rfl
    | _ => simp [intsD] at e
end
section
variable {X : Cx}
theorem c_len : CallR X (.builtin "len") (rC1 X.kw lenX) := by
  rintro pins s σ H xs us Q I r ⟨x, fz, d, rfl, hd, Q', q, k⟩
  cases d with
  | str z => cases hd.str; exact call_len_str pins s σ H _ us Q I r ⟨z, rfl, q.1, k _ _ _ q.2 (.same (.int _))⟩
  | list ds =>
    obtain ⟨a, vs, rfl, h, ra⟩ := hd.lst
    refine call_len_seq pins s σ H _ us Q I r ⟨a, vs, rfl, .inl (SqL.of h), ?_⟩
    rw [← ra.length]; exact k _ _ _ q (.same (.int _))
  | tuple ds =>
    obtain ⟨a, vs, rfl, h, ra⟩ := hd.tup
    refine call_len_seq pins s σ H _ us Q I r ⟨a, vs, rfl, .inr (SqT.of h), ?_⟩
    rw [← ra.length]; exact k _ _ _ q (.same (.int _))
  | _ => exact q.elim
theorem c_list : CallR X (.type "list") (rC1 X.kw listX) := by
  rintro pins s σ H xs us Q I r ⟨x, fz, d, rfl, hd, Q', q, k⟩
  cases d with
  | list ds =>
    obtain ⟨a, vs, rfl, h, ra⟩ := hd.lst
    exact call_list_of pins s σ H _ us Q I r ⟨a, vs, rfl, .inl (SqL.of h), fun l hl => k _ _ _ q (.lst hl ra)⟩
  | tuple ds =>
    obtain ⟨a, vs, rfl, h, ra⟩ := hd.tup
    exact call_list_of pins s σ H _ us Q I r ⟨a, vs, rfl, .inr (SqT.of h), fun l hl => k _ _ _ q (.lst hl ra)⟩
  | _ => exact q.elim
theorem c_tuple : CallR X (.type "tuple") (rC1 X.kw tupleX) := by
  rintro pins s σ H xs us Q I r ⟨x, fz, d, rfl, hd, Q', q, k⟩
  cases d with
  | list ds =>
    obtain ⟨a, vs, rfl, h, ra⟩ := hd.lst
    exact call_tuple_of pins s σ H _ us Q I r ⟨a, vs, rfl, .inl ⟨SqL.of h, fun l hl => k _ _ _ q (.tup hl ra)⟩⟩
  | tuple ds =>
    obtain ⟨a, vs, rfl, h, ra⟩ := hd.tup
    exact call_tuple_of pins s σ H _ us Q I r ⟨a, vs, rfl, .inr ⟨SqT.of h, k _ _ _ q (.same (.tup h ra))⟩⟩
  | _ => exact q.elim
theorem c_int : CallR X (.type "int") (rC1 X.kw intX) := by
  rintro pins s σ H xs us Q I r ⟨x, fz, d, rfl, hd, Q', q, k⟩
  cases d with
  | int i => cases hd.int; exact call_int1 pins s σ H _ us Q I r (.inl ⟨i, rfl, k _ _ _ q (.same (.int _))⟩)
  | bool b => cases hd.bl; exact call_int1 pins s σ H _ us Q I r (.inr ⟨b, rfl, k _ _ _ q (.same (.int _))⟩)
  | _ => exact q.elim
theorem c_abs : CallR X (.builtin "abs") (rC1 X.kw absX) := by
  rintro pins s σ H xs us Q I r ⟨x, fz, d, rfl, hd, Q', q, k⟩
  cases d with
  | int i => cases hd.int; exact call_abs pins s σ H _ us Q I r ⟨i, rfl, k _ _ _ q (.same (.int _))⟩
  | _ => exact q.elim
theorem c_all (hc : X.calm = true) : CallR X (.builtin "all") (rC1 X.kw allX) := by
  rintro pins s σ H xs us Q I r ⟨x, fz, d, rfl, hd, Q', q, k⟩
  cases d with
  | list ds =>
    obtain ⟨a, vs, rfl, h, ra⟩ := hd.lst
    cases e : boolsD ds with
    | none => simp only [allX, e] at q
    | some bs =>
      simp only [allX, e] at q
      exact cr_all hc pins s σ H _ us Q I r ⟨a, bs, rfl, SqL.of (by rw [← ra.boolsOf e]; exact h), k _ _ _ q (.same (.bl _))⟩
  | _ => exact q.elim
theorem c_sum (hc : X.calm = true) : CallR X (.builtin "sum") (rC1 X.kw sumX) := by
  rintro pins s σ H xs us Q I r ⟨x, fz, d, rfl, hd, Q', q, k⟩
  cases d with
  | list ds =>
    obtain ⟨a, vs, rfl, h, ra⟩ := hd.lst
    cases e : intsD ds with
    | none => simp only [sumX, e] at q
    | some bs =>
      simp only [sumX, e] at q
      exact cr_sum hc pins s σ H _ us Q I r ⟨a, bs, rfl, SqL.of (by rw [← ra.intsOf e]; exact h), k _ _ _ q (.same (.int _))⟩
  | _ => exact q.elim
theorem c_repr (hg : X.A.guards = some []) (hu : X.A.units + 64 < cLine) : CallR X (.builtin "repr") (rC1 X.kw reprX) := by
  rintro pins s σ H xs us Q I r ⟨x, fz, d, rfl, hd, Q', ⟨⟨z1, z2, z3, z4⟩, q⟩, k⟩
  obtain ⟨u, rfl, ru⟩ := vals1 r
  have done : ∀ (h' : Heap) (t tk : Nat), (∀ b o, s.heap.get? b = some o → h'.get? b = some o) → EP X pins σ Q (.str d.shown t) { s with heap := h', toks := tk } := fun h' t tk hk =>
    ⟨.str _, H, I.kept hk, ⟨t, rfl⟩, k _ _ _ q (.same (.str _))⟩
  have ref : ∀ a, u = Value.ref a → wpAny (model X.prog X.w) X.A (call (.builtin "repr") [u]) (EP X pins σ Q) X.xe s := fun a e => by
    obtain ⟨as, rd, hs⟩ := RB.reads I hd ru
    subst e
    exact repr_of_reads' rd z1 (fun h => hs (z2 h)) hg (by omega) (fun _ _ e => e) (fun h' u tk hk => done h' u tk hk) z4
  cases d with
  | none => cases hd.non; cases ru; exact PySem.P.repr_of_none (done s.heap _ _ fun _ _ e => e)
  | bool b => cases hd.bl; cases ru; exact PySem.P.repr_of_bool (done s.heap _ _ fun _ _ e => e)
  | int i =>
    cases hd.int
    obtain ⟨t, rfl⟩ := ru
    exact PySem.P.repr_of_int (by simpa [PyData.showable] using z1) (done s.heap _ _ fun _ _ e => e)
  | str x =>
    cases hd.str
    obtain ⟨t, rfl⟩ := ru
    exact PySem.P.repr_of_str (done s.heap _ _ fun _ _ e => e) z4
  | list ds => obtain ⟨a, vs, rfl, _⟩ := hd.lst; exact ref a ru
  | tuple ds => obtain ⟨a, vs, rfl, _⟩ := hd.tup; exact ref a ru
  | dict ds => obtain ⟨a, ep, es, ks, vs, rfl, _⟩ := hd; exact ref a ru
end

/-! ### items and slices -/
def ixX : OpX := fun x y Q => match x, y with
  | .list xs, .int i => (match atI xs i with
    | some d => Q (.dat d)
    | none => False)
  | .tuple xs, .int i => (match atI xs i with
    | some d => Q (.dat d)
    | none => False)
  | .str z, .int i => z.length ≤ sizeLine ∧ (match atI z.cps.toList i with
    | some c => Q (.dat (.str ⟨#[c]⟩))
    | none => False)
  | _, _ => False
theorem RpAll.at_ {K : KW} {H : Hp} {fz : Addr → Prop} {ds : List PyData} {vs : List V} {i : Int} {d : PyData} (r : RpAll K H fz ds vs) (e : atI ds i = some d) : ∃ v, atI vs i = some v ∧ Rp K H fz d v := by
  unfold atI at e ⊢
  rw [← r.length]
  cases e1 : ixN ds.length i with
  | none => rw [e1] at e; cases e
  | some j =>
    rw [e1] at e
    exact r.get' e
def cutD (xs : List PyData) (lo hi : Option Int) : List PyData := (xs.drop (HT.sIx xs.length 0 lo)).take (HT.sIx xs.length xs.length hi - HT.sIx xs.length 0 lo)
theorem RpAll.cut {K : KW} {H : Hp} {fz : Addr → Prop} {ds : List PyData} {vs : List V} (r : RpAll K H fz ds vs) (lo hi : Option Int) : RpAll K H fz (cutD ds lo hi) (cutV vs lo hi) := by
  unfold cutD cutV
  rw [← r.length]
  exact (r.drop _).take _
theorem cutD_whole {xs : List PyData} {lo hi : Option Int} (h : HT.sIx xs.length 0 lo = 0 ∧ HT.sIx xs.length xs.length hi = xs.length) : cutD xs lo hi = xs := by
  unfold cutD
  rw [h.1, h.2]
  simp
section
variable {X : Cx}
theorem ix_data : IxR X (rO X.kw ixX) := by
  rintro value slice pins s σ H x y v u Q I rx ry ⟨fz, d, e, hd, he, Q', q, k⟩ hs
  cases d with
  | list ds =>
    cases e with
    | int i =>
      obtain ⟨a, vs, rfl, h, ra⟩ := hd.lst
      cases he.int
      cases e1 : atI ds i with
      | none => simp only [ixX, e1] at q
      | some c =>
        simp only [ixX, e1] at q
        obtain ⟨w, e2, rw_⟩ := ra.at_ e1
        exact ix_list value slice pins s σ H _ _ v u Q I rx ry ⟨a, vs, i, w, rfl, rfl, SqL.of h, e2, k _ _ _ q (.same rw_)⟩ hs
    | _ => exact q.elim
  | tuple ds =>
    cases e with
    | int i =>
      obtain ⟨a, vs, rfl, h, ra⟩ := hd.tup
      cases he.int
      cases e1 : atI ds i with
      | none => simp only [ixX, e1] at q
      | some c =>
        simp only [ixX, e1] at q
        obtain ⟨w, e2, rw_⟩ := ra.at_ e1
        exact ix_tup value slice pins s σ H _ _ v u Q I rx ry ⟨a, vs, i, w, rfl, rfl, SqT.of h, e2, k _ _ _ q (.same rw_)⟩ hs
    | _ => exact q.elim
  | str z =>
    cases e with
    | int i =>
      cases hd.str
      cases he.int
      obtain ⟨q1, q⟩ := q
      cases e1 : atI z.cps.toList i with
      | none => simp only [e1] at q
      | some c =>
        simp only [e1] at q
        exact ix_str value slice pins s σ H _ _ v u Q I rx ry ⟨z, i, c, rfl, rfl, q1, e1, k _ _ _ q (.same (.str _))⟩ hs
    | _ => exact q.elim
  | _ => cases e <;> exact q.elim
variable {ZP : ZT} {a b : Expr} {pos : Pos} {ta tb : TLD}
theorem de_ix (ha : DL X ZP a ta) (hb : DL X ZP b tb) (hs : PlainIx b := by exact fun _ _ => rfl) : DE X ZP (.Subscript a b pos) (t_op ixX ta tb) :=
  ⟨PE.imp (pe_ix ix_data ha.pe hb.pe hs) fun σ H Q h => op_core h⟩
end
/-- an optional part of a slice -/
abbrev TOD := CS → (Option Int → CS → Prop) → Prop
def tOp_ (K : KW) (ZP : ZT) (t : TOD) : TO := fun σ H Q => ∃ B cs g, Rel K ZP B g H cs σ ∧ ∃ Q', t cs Q' ∧
  ∀ o cs' g' H', Q' o cs' → Rel K ZP B g' H' cs' σ → (∀ a, ow cs' σ a → ow cs σ a) → Frm (ow cs σ) g H g' H' → Q o H'
structure DO (X : Cx) (ZP : ZT) (e : Option Expr) (t : TOD) : Prop where
  po : PO X e (tOp_ X.kw ZP t)
def t_no : TOD := fun cs Q => Q none cs
def t_some (t : TVD) : TOD := fun cs Q => t cs fun d cs' => match d with
  | .int i => Q (some i) cs'
  | _ => False
theorem PO.imp {X : Cx} {e : Option Expr} {t t' : TO} (h : PO X e t) (m : ∀ σ H Q, t' σ H Q → t σ H Q) : PO X e t' := ⟨fun pins s σ H Q I q => h.run pins s σ H Q I (m _ _ _ q)⟩
theorem do_none {X : Cx} {ZP : ZT} : DO X ZP none t_no := ⟨PO.imp po_none fun σ H Q ⟨B, cs, g, R, Q', q, k⟩ => k none cs g H q R (fun _ h => h) .refl⟩
theorem do_some {X : Cx} {ZP : ZT} {e : Expr} {t : TVD} (h : DV X ZP e t) : DO X ZP (some e) (t_some t) := by
  refine ⟨PO.imp (po_some h.pe) ?_⟩
  rintro σ H Q ⟨B, cs, g, R, Q', q, k⟩
  refine ⟨B, cs, g, R, _, q, fun d cs1 v g1 H1 q1 R1 r1 s1 f1 => ?_⟩
  cases d with
  | int i => cases r1; exact ⟨i, rfl, k _ cs1 g1 H1 q1 R1 s1 f1⟩
  | _ => exact q1.elim
def slX (d : PyData) (lo hi : Option Int) (Q : SV → Prop) : Prop := match d with
  | .list xs => Q (.own (cutD xs lo hi))
  | .tuple xs => Q (.dat (.tuple (cutD xs lo hi)))
  | .str z => z.length ≤ sizeLine ∧ Q (.dat (.str (cutS z lo hi)))
  | _ => False
def rSlD (K : KW) : V → Option Int → Option Int → Hp → VK → Prop := fun x lo hi H Q => ∃ fz d, RB K H fz d x ∧ ∃ Q', slX d lo hi Q' ∧ ∀ sv z H', Q' sv → Res K H fz sv z H' → Q z H'
theorem sl_data {X : Cx} : SlR X (rSlD X.kw) := by
  rintro pins s σ H x v vl vu lo hi sl Q I rx hs pl pu ⟨fz, d, hd, Q', q, k⟩
  cases d with
  | list ds =>
    obtain ⟨a, vs, rfl, h, ra⟩ := hd.lst
    exact sl_list pins s σ H _ v vl vu lo hi sl Q I rx hs pl pu ⟨a, vs, rfl, SqL.of h, fun p hp => k _ _ _ q (.lst hp (ra.cut lo hi))⟩
  | tuple ds =>
    obtain ⟨a, vs, rfl, h, ra⟩ := hd.tup
    refine sl_tupA pins s σ H _ v vl vu lo hi sl Q I rx hs pl pu ⟨a, vs, rfl, SqT.of h, fun e => ?_, fun _ p hp => k _ _ _ q (.tup hp (ra.cut lo hi))⟩
    rw [← ra.length] at e
    have q : Q' (.dat (.tuple (cutD ds lo hi))) := q
    rw [cutD_whole e] at q
    exact k _ _ _ q (.same (.tup h ra))
  | str z => cases hd.str; exact sl_str pins s σ H _ v vl vu lo hi sl Q I rx hs pl pu ⟨z, rfl, q.1, k _ _ _ q.2 (.same (.str _))⟩
  | _ => exact q.elim
def t_slice (ta : TLD) (tl th : TOD) : TD := fun cs Q => ta cs fun l cs1 => tl cs1 fun lo cs2 => th cs2 fun hi cs3 => match l.get cs3 with
  | some d => slX d lo hi fun sv => Q sv cs3
  | none => False
section
variable {X : Cx} {ZP : ZT} {a : Expr} {lo hi : Option Expr} {pos p2 : Pos} {ta : TLD} {tl th : TOD}
theorem Tmp.back {H H1 : Hp} {cs : CS} {σ : L2.St} {sv : SV} {v : V} {w : Addr → Prop} {g g1 : GW} (f : Frm w g H g1 H1) (t : Tmp H1 cs σ sv v) : Tmp H cs σ sv v := fun xs a e3 e4 => by
  obtain ⟨n1, n2⟩ := t xs a e3 e4
  refine ⟨n1, ?_⟩
  cases e5 : H a with
  | none => rfl
  | some u =>
    obtain ⟨u', e6⟩ := f.any a u e5
    rw [n2] at e6; cases e6
theorem de_slice (ha : DL X ZP a ta) (hl : DO X ZP lo tl) (hh : DO X ZP hi th) : DE X ZP (.Subscript a (.Slice lo hi none p2) pos) (t_slice ta tl th) := by
  refine ⟨PE.imp (pe_slice sl_data ha.pe hl.po hh.po) ?_⟩
  rintro σ H Q ⟨B, cs, g, R, Q', q, k⟩
  refine ⟨B, cs, g, R, _, q, fun l cs1 v g1 H1 q1 R1 r1 s1 f1 => ?_⟩
  refine ⟨B, cs1, g1, R1, _, q1, fun o1 cs2 g2 H2 q2 R2 s2 f2 => ?_⟩
  refine ⟨B, cs2, g2, R2, _, q2, fun o2 cs3 g3 H3 q3 R3 s3 f3 => ?_⟩
  have r3 := (r1.frm R1 f2).frm R2 f3
  cases e1 : l.get cs3 with
  | none => rw [e1] at q3; exact q3.elim
  | some d =>
    rw [e1] at q3
    refine ⟨g3.fz, d, r3.rb R3 e1, _, q3, fun sv z H' q4 rz => ?_⟩
    obtain ⟨R4, r4, t4, f4⟩ := rz.fin R3
    have f13 : Frm (ow cs σ) g H g3 H3 := (f1.trans (f2.mono fun a _ _ h => s1 a h)).trans (f3.mono fun a _ _ h => s1 a (s2 a h))
    exact k sv cs3 z g3 H' q4 R4 r4 (t4.back f13) (fun a h => s1 a (s2 a (s3 a h))) (f13.trans (f4.mono fun a _ _ h => s1 a (s2 a (s3 a h))))
end
end Cl

namespace Cl
open PySem PySem.Spec PyProof.Rows L2

/-! ### arguments -/
def settled : SV → Bool
  | .obj _ => false
  | _ => true
abbrev RSs (K : KW) (g : GW) (H : Hp) : List SV → List V → Prop := Paired (RS K g H)
abbrev TSA := CS → (List SV → CS → Prop) → Prop
def tA (K : KW) (ZP : ZT) (t : TSA) : TA := fun σ H Q => ∃ B cs g, Rel K ZP B g H cs σ ∧ ∃ Q', t cs Q' ∧
  ∀ svs cs' vs g' H', Q' svs cs' → Rel K ZP B g' H' cs' σ → RSs K g' H' svs vs → (∀ sv ∈ svs, settled sv = true) → (∀ a, ow cs' σ a → ow cs σ a) → Frm (ow cs σ) g H g' H' → Q vs H'
structure DA (X : Cx) (ZP : ZT) (es : List Expr) (t : TSA) : Prop where
  pa : PA X es (tA X.kw ZP t)
structure DK (X : Cx) (ZP : ZT) (kws : List Keyword) (t : TSA) : Prop where
  pk : PK X kws (tA X.kw ZP t)
section
variable {X : Cx} {ZP : ZT} {e : Expr} {es : List Expr} {kws : List Keyword} {pos kpos : Pos} {tv : TVD} {td : TD} {ts : TSA} {nm : Option Str}
theorem PA.imp {t t' : TA} (h : PA X es t) (m : ∀ σ H Q, t' σ H Q → t σ H Q) : PA X es t' := ⟨fun pos pins s σ H Q I q => h.run pos pins s σ H Q I (m _ _ _ q)⟩
theorem PK.imp {t t' : TA} (h : PK X kws t) (m : ∀ σ H Q, t' σ H Q → t σ H Q) : PK X kws t' := ⟨fun pos pins s σ H Q I q => h.run pos pins s σ H Q I (m _ _ _ q)⟩
theorem RSs.frm {K : KW} {g g' : GW} {H H' : Hp} {w : Addr → Prop} (f : Frm w g H g' H') (hw : ∀ a, g.fz a → g.zs a = none ∧ ¬ w a) : ∀ {svs : List SV} {vs : List V}, (∀ sv ∈ svs, settled sv = true) → RSs K g H svs vs → RSs K g' H' svs vs
  | _, _, _, .nil => .nil
  | sv :: _, _, h, .cons r t => .cons (r.frm f hw fun xs a e _ => by
      have := h sv List.mem_cons_self
      rw [e] at this; cases this) (RSs.frm f hw (fun sv hm => h sv (List.mem_cons_of_mem _ hm)) t)
def t_anil : TSA := fun cs Q => Q [] cs
def t_acons (t : TVD) (u : TSA) : TSA := fun cs Q => t cs fun d cs1 => u cs1 fun svs cs2 => Q (.dat d :: svs) cs2
/-- an argument that may be a thing of the typed region, or the script -/
def t_aconsR (t : TD) (u : TSA) : TSA := fun cs Q => t cs fun sv cs1 => settled sv = true ∧ u cs1 fun svs cs2 => Q (sv :: svs) cs2
theorem da_nil : DA X ZP [] t_anil := ⟨PA.imp pa_nil fun σ H Q ⟨B, cs, g, R, Q', q, k⟩ => k [] cs [] g H q R .nil (fun _ z => by cases z) (fun _ h => h) .refl⟩
theorem acons_core {tr : TA} {σ : L2.St} {H : Hp} {Q : List V → Hp → Prop} (h : tA X.kw ZP (t_aconsR td ts) σ H Q) : tCons (tD X.kw ZP td) (tA X.kw ZP ts) σ H Q := by
  obtain ⟨B, cs, g, R, Q', q, k⟩ := h
  refine ⟨B, cs, g, R, _, q, fun sv cs1 v g1 H1 q1 R1 r1 t1 s1 f1 => ?_⟩
  obtain ⟨hs, q1⟩ := q1
  refine ⟨B, cs1, g1, R1, _, q1, fun svs cs2 vs g2 H2 q2 R2 r2 st s2 f2 => ?_⟩
  refine k (sv :: svs) cs2 (v :: vs) g2 H2 q2 R2 (.cons (r1.frm f2 R1.fzow fun xs a e _ => ?_) r2) (fun sv' hm => ?_) (fun a h => s1 a (s2 a h)) (f1.trans (f2.mono fun a _ _ h => s1 a h))
  · rw [e] at hs; cases hs
  · rcases List.mem_cons.mp hm with rfl | hm
    · exact hs
    · exact st sv' hm
theorem da_consR (h : DE X ZP e td) (r : DA X ZP es ts) (hs : starEach (e :: es) X.env = (false, eval e X.env) :: starEach es X.env := by rfl) : DA X ZP (e :: es) (t_aconsR td ts) :=
  ⟨PA.imp (pa_cons h.pe r.pa hs) fun σ H Q q => acons_core (tr := tNil) q⟩
theorem acons_v {σ : L2.St} {H : Hp} {Q : List V → Hp → Prop} (h : tA X.kw ZP (t_acons tv ts) σ H Q) : tCons (tV X.kw ZP tv) (tA X.kw ZP ts) σ H Q := by
  obtain ⟨B, cs, g, R, Q', q, k⟩ := h
  refine ⟨B, cs, g, R, _, q, fun d cs1 v g1 H1 q1 R1 r1 s1 f1 => ?_⟩
  refine ⟨B, cs1, g1, R1, _, q1, fun svs cs2 vs g2 H2 q2 R2 r2 st s2 f2 => ?_⟩
  refine k (.dat d :: svs) cs2 (v :: vs) g2 H2 q2 R2 (.cons (Rp.frm f2 R1.fzow r1) r2) (fun sv' hm => ?_) (fun a h => s1 a (s2 a h)) (f1.trans (f2.mono fun a _ _ h => s1 a h))
  rcases List.mem_cons.mp hm with rfl | hm
  · rfl
  · exact st sv' hm
theorem da_cons (h : DV X ZP e tv) (r : DA X ZP es ts) (hs : starEach (e :: es) X.env = (false, eval e X.env) :: starEach es X.env := by rfl) : DA X ZP (e :: es) (t_acons tv ts) :=
  ⟨PA.imp (pa_cons h.pe r.pa hs) fun σ H Q q => acons_v q⟩
theorem dk_nil : DK X ZP [] t_anil := ⟨PK.imp pk_nil fun σ H Q ⟨B, cs, g, R, Q', q, k⟩ => k [] cs [] g H q R .nil (fun _ z => by cases z) (fun _ h => h) .refl⟩
theorem dk_cons (h : DV X ZP e tv) (r : DK X ZP kws ts) : DK X ZP (⟨nm, e, kpos⟩ :: kws) (t_acons tv ts) := ⟨PK.imp (pk_cons h.pe r.pk) fun σ H Q q => acons_v q⟩
theorem dk_consR (h : DE X ZP e td) (r : DK X ZP kws ts) : DK X ZP (⟨nm, e, kpos⟩ :: kws) (t_aconsR td ts) := ⟨PK.imp (pk_cons h.pe r.pk) fun σ H Q q => acons_core (tr := tNil) q⟩
end

/-! ### displays -/
def datsOf : List SV → Option (List PyData)
  | [] => some []
  | .dat d :: r => (datsOf r).map (d :: ·)
  | _ :: _ => none
theorem RSs.dats {K : KW} {g : GW} {H : Hp} : ∀ {svs : List SV} {vs : List V} {ds : List PyData}, RSs K g H svs vs → datsOf svs = some ds → RpAll K H g.fz ds vs
  | [], _, _, .nil, e => by simp [datsOf] at e; subst e; exact .nil
  | sv :: _, _, _, .cons r t, e => by
    cases sv with
    | dat d =>
      simp only [datsOf, Option.map_eq_some_iff] at e
      obtain ⟨ds, e1, rfl⟩ := e
      exact .cons r (RSs.dats t e1)
    | _ => simp [datsOf] at e
def t_tupd (t : TSA) : TVD := fun cs Q => t cs fun svs cs1 => match datsOf svs with
  | some ds => ds.length ≤ sizeLine ∧ Q (.tuple ds) cs1
  | none => False
def t_lstd (t : TSA) : TD := fun cs Q => t cs fun svs cs1 => match datsOf svs with
  | some ds => ds.length ≤ sizeLine ∧ Q (.own ds) cs1
  | none => False
section
variable {X : Cx} {ZP : ZT} {es : List Expr} {pos : Pos} {x1 : Nat} {ts : TSA}
theorem dv_tup (h : DA X ZP es ts) : DV X ZP (.Tuple es x1 pos) (t_tupd ts) := by
  refine ⟨PE.imp (pe_tup h.pa) ?_⟩
  rintro σ H Q ⟨B, cs, g, R, Q', q, k⟩
  refine ⟨B, cs, g, R, _, q, fun svs cs1 vs g1 H1 q1 R1 r1 st s1 f1 => ?_⟩
  cases e : datsOf svs with
  | none => rw [e] at q1; exact q1.elim
  | some ds =>
    rw [e] at q1
    have ra := r1.dats e
    refine ⟨by rw [← ra.length]; exact q1.1, fun p hp => ?_⟩
    obtain ⟨R3, r3, t3, f3⟩ := (Res.tup hp ra).fin R1
    exact k _ cs1 _ g1 _ q1.2 R3 r3 s1 (f1.trans (f3.mono fun a _ _ h => s1 a h))
theorem de_lst (h : DA X ZP es ts) : DE X ZP (.List es pos) (t_lstd ts) := by
  refine ⟨PE.imp (pe_lst h.pa) ?_⟩
  rintro σ H Q ⟨B, cs, g, R, Q', q, k⟩
  refine ⟨B, cs, g, R, _, q, fun svs cs1 vs g1 H1 q1 R1 r1 st s1 f1 => ?_⟩
  cases e : datsOf svs with
  | none => rw [e] at q1; exact q1.elim
  | some ds =>
    rw [e] at q1
    have ra := r1.dats e
    refine ⟨by rw [← ra.length]; exact q1.1, fun p hp => ?_⟩
    obtain ⟨R3, r3, t3, f3⟩ := (Res.lst hp ra).fin R1
    exact k _ cs1 _ g1 _ q1.2 R3 r3 (t3.back f1) s1 (f1.trans (f3.mono fun a _ _ h => s1 a h))
end

/-! ### a def's contract, its call -/
abbrev TF := List SV → (SV → Prop) → Prop
structure GOk (ZP : ZF) (g : GW) (H : Hp) : Prop where
  zok : ∀ a t, g.zs a = some t → ∃ o, H a = some o ∧ ZP t g.zs o
  fzok : ∀ a, g.fz a → (∃ o, H a = some o) ∧ g.zs a = none
def spD (K : KW) (ZP : ZF) (n : Nat) (C : TF) : Sp := fun vs H Q _ => vs.length = n ∧ ∃ svs g, RSs K g H svs vs ∧ (∀ sv ∈ svs, settled sv = true) ∧ GOk ZP g H ∧ ∃ Q', C svs Q' ∧
  ∀ sv v g' H', Q' sv → GOk ZP g' H' → RS K g' H' sv v → (∀ xs a, sv = .obj xs → v = .ref a → H a = none) → Frm (fun _ => False) g H g' H' → Q v H'
def t_call (C : TF) (t : TSA) : TD := fun cs Q => t cs fun svs cs1 => C svs fun sv => Q sv cs1
section
variable {X : Cx} {ZP : ZT} {k n : Nat} {f : Addr} {fd : FuncData} {ps : List Str} {x : Str} {p pos : Pos} {e : Expr} {es : List Expr} {C : TF} {t tk : TSA}
theorem call_fin {B : Bs} {cs : CS} {g : GW} {H : Hp} {σ : L2.St} {svs : List SV} {vs : List V} {Q : VK} {Q' : SV → Prop} (R : Rel X.kw ZP B g H cs σ) (r : RSs X.kw g H svs vs) (st : ∀ sv ∈ svs, settled sv = true) (hl : vs.length = n) (q : C svs Q')
    (h : ∀ sv v g' H', Q' sv → Rel X.kw ZP B g' H' cs σ → RS X.kw g' H' sv v → Tmp H cs σ sv v → Frm (fun _ => False) g H g' H' → Q v H') (E : XK) : spD X.kw ZP.zp n C vs H Q E := by
  refine ⟨hl, svs, g, r, st, ⟨R.zok, R.fzok⟩, _, q, fun sv v g' H' q' G' r' fr f' => ?_⟩
  refine h sv v g' H' q' (R.go f' G'.zok G'.fzok) r' (fun xs a e1 e2 => ⟨fun ho => ?_, fr xs a e1 e2⟩) f'
  obtain ⟨vs, ho⟩ := R.owsome ho
  rw [fr xs a e1 e2] at ho; cases ho
theorem de_call (F : FnG X.prog X.w X.kw X.mg X.base CX0 k f fd ps (spD X.kw ZP.zp n C)) (hgd : X.A.guards = some []) (hr : Room k X.A) (hg : Gl X x) (hm : X.mg x = some (.ref f)) (hk : PySem.W.keepIn X.kw (.ref f) = true) (hb : Binds X.kw fd ps [])
    (hC : ∀ svs Q, C svs Q → svs.length = n)
    (ha : DA X ZP (e :: es) t) (hdb : (x == ("__debug__" : Str)) = false := by decide) (he : starEach (e :: es) X.env = (false, eval e X.env) :: starEach es X.env := by rfl) (hpl : (backTo pos (starEach es X.env)).any (·.1) = false := by rfl) :
    DE X ZP (.Call (.Name x p) (e :: es) [] pos) (t_call C t) := by
  refine ⟨PE.imp (pe_callG1 F hgd hr hg hm hk hb pass0 ha.pa hdb he hpl) ?_⟩
  rintro σ H Q ⟨B, cs, g, R, Q', q, k⟩
  refine ⟨B, cs, g, R, _, q, fun svs cs1 vs g1 H1 q1 R1 r1 st s1 f1 => ?_⟩
  refine call_fin R1 r1 st (by rw [← hC _ _ q1]; exact (Paired.length r1).symm) q1 (fun sv v g' H' q' R' r' t' f' => ?_) _
  exact k sv cs1 v g' H' q' R' r' (t'.back f1) s1 (f1.trans (f'.mono fun _ _ _ z => z.elim))
end

/-! ### statements -/
structure DEnds where
  nx : CS → Prop
  rt : SV → Prop
  bk : CS → Prop := fun _ => False
  ct : CS → Prop := fun _ => False
abbrev TSD := DEnds → CS → Prop
/-- what is frozen stays as it is -/
structure Stay (g : GW) (H : Hp) (g' : GW) (H' : Hp) : Prop where
  fzm : ∀ a, g.fz a → g'.fz a
  keep : ∀ a o, g.fz a → H a = some o → H' a = some o
  tups : ∀ a xs, H a = some (.tup xs) → H' a = some (.tup xs)
theorem Stay.refl {g : GW} {H : Hp} : Stay g H g H := ⟨fun _ h => h, fun _ _ _ e => e, fun _ _ h => h⟩
theorem Stay.trans {g g1 g2 : GW} {H H1 H2 : Hp} (a : Stay g H g1 H1) (b : Stay g1 H1 g2 H2) : Stay g H g2 H2 :=
  ⟨fun c h => b.fzm c (a.fzm c h), fun c o h e => b.keep c o (a.fzm c h) (a.keep c o h e), fun c xs h => b.tups c xs (a.tups c xs h)⟩
theorem Frm.stay {w : Addr → Prop} {g g' : GW} {H H' : Hp} (f : Frm w g H g' H') (hw : ∀ a, g.fz a → g.zs a = none ∧ ¬ w a) : Stay g H g' H' :=
  ⟨f.fzm, fun a o h e => f.keep a o e (hw a h).1 (hw a h).2, f.tups⟩
theorem Stay.rp {K : KW} {g g' : GW} {H H' : Hp} {d : PyData} {v : V} (f : Stay g H g' H') (r : Rp K H g.fz d v) : Rp K H' g'.fz d v := Rp.go f.fzm f.keep f.tups r
theorem Stay.rps {K : KW} {g g' : GW} {H H' : Hp} {d : List PyData} {v : List V} (f : Stay g H g' H') (r : RpAll K H g.fz d v) : RpAll K H' g'.fz d v := RpAll.go f.fzm f.keep f.tups r
structure SPost (K : KW) (ZP : ZT) (B : Bs) (g : GW) (H : Hp) (D' : DEnds) (D : Ends) : Prop where
  nx : ∀ cs' σ' g' H', Rel K ZP B g' H' cs' σ' → Stay g H g' H' → D'.nx cs' → D.nx σ' H'
  bk : ∀ cs' σ' g' H', Rel K ZP B g' H' cs' σ' → Stay g H g' H' → D'.bk cs' → D.bk σ' H'
  ct : ∀ cs' σ' g' H', Rel K ZP B g' H' cs' σ' → Stay g H g' H' → D'.ct cs' → D.ct σ' H'
  rt : ∀ sv v cs' σ' g' H', Rel K ZP B g' H' cs' σ' → Stay g H g' H' → RS K g' H' sv v → (∀ xs a, sv = .obj xs → v = .ref a → B.1 a = none) → D'.rt sv → D.rt v H'
theorem SPost.from {K : KW} {ZP : ZT} {B : Bs} {g g1 : GW} {H H1 : Hp} {D' : DEnds} {D : Ends} (p : SPost K ZP B g H D' D) (s : Stay g H g1 H1) : SPost K ZP B g1 H1 D' D :=
  ⟨fun a b c d r t => p.nx a b c d r (s.trans t), fun a b c d r t => p.bk a b c d r (s.trans t), fun a b c d r t => p.ct a b c d r (s.trans t), fun a b c d e f r t => p.rt a b c d e f r (s.trans t)⟩
def tS (K : KW) (ZP : ZT) (t : TSD) : TS := fun D σ H => ∃ B cs g, Rel K ZP B g H cs σ ∧ ∃ D', t D' cs ∧ SPost K ZP B g H D' D
structure DS (X : Cx) (ZP : ZT) (st : Stmt) (t : TSD) : Prop where
  ps : PS X st (tS X.kw ZP t)
structure DSs (X : Cx) (ZP : ZT) (st : List Stmt) (t : TSD) : Prop where
  pss : PSs X st (tS X.kw ZP t)
section
variable {X : Cx} {ZP : ZT} {st : Stmt} {rest : List Stmt} {t u : TSD} {pos : Pos} {e : Expr}
def t_next : TSD := fun D cs => D.nx cs
def t_seq (t u : TSD) : TSD := fun D cs => t { D with nx := u D } cs
theorem dss_nil : DSs X ZP [] t_next := ⟨PSs.imp pss_nil fun D σ H ⟨B, cs, g, R, D', q, p⟩ => p.nx cs σ g H R .refl q⟩
theorem dss_one (h : DS X ZP st t) : DSs X ZP [st] t := ⟨pss_one h.ps⟩
theorem dss_cons (h : DS X ZP st t) (h2 : DSs X ZP rest u) : DSs X ZP (st :: rest) (t_seq t u) := by
  refine ⟨PSs.imp (pss_cons h.ps h2.pss) ?_⟩
  rintro D σ H ⟨B, cs, g, R, D', q, p⟩
  refine ⟨B, cs, g, R, { D' with nx := u D' }, q, ⟨fun cs1 σ1 g1 H1 R1 s1 q1 => ⟨B, cs1, g1, R1, D', q1, p.from s1⟩, p.bk, p.ct, p.rt⟩⟩
theorem ds_pass : DS X ZP (.Pass pos) t_next := ⟨PS.imp ps_pass fun D σ H ⟨B, cs, g, R, D', q, p⟩ => p.nx cs σ g H R .refl q⟩
def t_brk : TSD := fun D cs => D.bk cs
def t_cnt : TSD := fun D cs => D.ct cs
theorem ds_break : DS X ZP (.Break pos) t_brk := ⟨PS.imp ps_break fun D σ H ⟨B, cs, g, R, D', q, p⟩ => p.bk cs σ g H R .refl q⟩
theorem ds_continue : DS X ZP (.Continue pos) t_cnt := ⟨PS.imp ps_continue fun D σ H ⟨B, cs, g, R, D', q, p⟩ => p.ct cs σ g H R .refl q⟩
theorem ds_doc {x : Str} {j : Nat} {pos' : Pos} : DS X ZP (.Expr (.Constant (.str x) j pos) pos') t_next := ⟨PS.imp ps_doc fun D σ H ⟨B, cs, g, R, D', q, p⟩ => p.nx cs σ g H R .refl q⟩
def t_if (c : TTD) (t u : TSD) : TSD := fun D cs => c cs fun b cs1 => if b = true then t D cs1 else u D cs1
theorem ds_if {c : Expr} {a b : List Stmt} {tc : TTD} (hc : DT X ZP c tc) (ha : DSs X ZP a t) (hb : DSs X ZP b u) : DS X ZP (.If c a b pos) (t_if tc t u) := by
  refine ⟨PS.imp (ps_if hc.pt ha.pss hb.pss) ?_⟩
  rintro D σ H ⟨B, cs, g, R, D', q, p⟩
  refine ⟨B, cs, g, R, _, q, fun c cs1 g1 H1 q1 R1 s1 f1 => ?_⟩
  have p1 := p.from (f1.stay R.fzow)
  cases c with
  | true =>
    rw [if_pos rfl] at q1
    show tS X.kw ZP t D σ H1
    exact ⟨B, cs1, g1, R1, D', q1, p1⟩
  | false =>
    rw [if_neg Bool.false_ne_true] at q1
    show tS X.kw ZP u D σ H1
    exact ⟨B, cs1, g1, R1, D', q1, p1⟩
def t_ret (t : TD) : TSD := fun D cs => t cs fun sv _ => D.rt sv
theorem ds_ret {td : TD} (h : DE X ZP e td) : DS X ZP (.Return (some e) pos) (t_ret td) := by
  refine ⟨PS.imp (ps_ret h.pe) ?_⟩
  rintro D σ H ⟨B, cs, g, R, D', q, p⟩
  refine ⟨B, cs, g, R, _, q, fun sv cs1 v g1 H1 q1 R1 r1 t1 s1 f1 => ?_⟩
  exact p.rt sv v cs1 σ g1 H1 R1 (f1.stay R.fzow) r1 (fun xs a e1 e2 => R.bnone (t1 xs a e1 e2).2) q1
/-- return x: the frame's own list is handed on -/
def t_retn (i : Nat) : TSD := fun D cs => match cs[i]? with
  | some (some sv) => D.rt sv
  | _ => False
theorem ds_retn {i : Nat} {x : Str} {p2 : Pos} (hN : X.N[i]? = some x) (hv : Vis X.env.scope x) (hd : (x == ("__debug__" : Str)) = false := by decide) (hcd : (x == ("__classdict__" : Str)) = false := by decide) : DS X ZP (.Return (some (.Name x p2)) pos) (t_retn i) := by
  refine ⟨PS.imp (ps_ret (pe_var hN hv hd hcd)) ?_⟩
  rintro D σ H ⟨B, cs, g, R, D', q, p⟩
  unfold t_retn at q
  cases e1 : cs[i]? with
  | none => rw [e1] at q; exact q.elim
  | some osv =>
    cases osv with
    | none => rw [e1] at q; exact q.elim
    | some sv =>
      rw [e1] at q
      obtain ⟨v, e2, r⟩ := R.slot i sv e1
      exact ⟨v, e2, p.rt sv v cs σ g H R .refl r (fun xs a e3 e4 => R.fresh a ⟨i, xs, by rw [e1, e3], by rw [e2, e4]⟩) q⟩
theorem ds_retN : DS X ZP (.Return none pos) (fun D _ => D.rt (.dat .none)) := ⟨PS.imp ps_retN fun D σ H ⟨B, cs, g, R, D', q, p⟩ => p.rt (.dat .none) .non cs σ g H R .refl .non (fun _ _ e => by cases e) q⟩
def t_drop (t : TD) : TSD := fun D cs => t cs fun _ cs1 => D.nx cs1
theorem ds_expr {td : TD} (h : DE X ZP e td) (hs : swapsWith e none pos.line X.env = pure false := by rfl) : DS X ZP (.Expr e pos) (t_drop td) := by
  refine ⟨PS.imp (ps_expr h.pe hs) ?_⟩
  rintro D σ H ⟨B, cs, g, R, D', q, p⟩
  refine ⟨B, cs, g, R, _, q, fun sv cs1 v g1 H1 q1 R1 r1 t1 s1 f1 => ?_⟩
  exact p.nx cs1 σ g1 H1 R1 (f1.stay R.fzow) q1
end

/-! ### a slot is stored -/
section
variable {K : KW} {ZP : ZT} {B : Bs} {g : GW} {H : Hp} {cs : CS} {σ : L2.St}
theorem Rel.store {i : Nat} {sv : SV} {v : V} (R : Rel K ZP B g H cs σ) (hi : i < cs.length) (r : RS K g H sv v) (n : ∀ xs a, sv = .obj xs → v = .ref a → ¬ ow cs σ a ∧ B.1 a = none) : Rel K ZP B g H (cs.set i (some sv)) (σ.set i (some v)) := by
  have hi2 : i < σ.length := by rw [← R.len]; exact hi
  have c1 : ∀ (j : Nat) (s : SV), (cs.set i (some sv))[j]? = some (some s) → (j = i ∧ s = sv) ∨ (j ≠ i ∧ cs[j]? = some (some s)) := fun j s e => by
    by_cases hj : j = i
    · subst hj
      rw [List.getElem?_set_self hi] at e
      cases e; exact .inl ⟨rfl, rfl⟩
    · rw [List.getElem?_set_ne (Ne.symm hj)] at e
      exact .inr ⟨hj, e⟩
  have c2 : ∀ (j : Nat) (s : V), (σ.set i (some v))[j]? = some (some s) → (j = i ∧ s = v) ∨ (j ≠ i ∧ σ[j]? = some (some s)) := fun j s e => by
    by_cases hj : j = i
    · subst hj
      rw [List.getElem?_set_self hi2] at e
      cases e; exact .inl ⟨rfl, rfl⟩
    · rw [List.getElem?_set_ne (Ne.symm hj)] at e
      exact .inr ⟨hj, e⟩
  have sub : ∀ a, ow (cs.set i (some sv)) (σ.set i (some v)) a → ow cs σ a ∨ (∃ xs, sv = .obj xs ∧ v = .ref a) := fun a ⟨j, xs, e1, e2⟩ => by
    rcases c1 j _ e1 with ⟨h1, h2⟩ | ⟨h1, h2⟩
    · rcases c2 j _ e2 with ⟨_, h3⟩ | ⟨h3, _⟩
      · exact .inr ⟨xs, h2.symm, h3.symm⟩
      · exact absurd h1 h3
    · rcases c2 j _ e2 with ⟨h3, _⟩ | ⟨_, h3⟩
      · exact absurd h3 h1
      · exact .inl ⟨j, xs, h2, h3⟩
  refine ⟨by rw [List.length_set, List.length_set]; exact R.len, fun j s e => ?_, fun j k xs ys a e1 e2 e3 e4 => ?_, R.zok, R.fzok, R.base, fun a h => ?_, R.bs⟩
  · rcases c1 j s e with ⟨rfl, rfl⟩ | ⟨hj, e⟩
    · exact ⟨v, List.getElem?_set_self hi2, r⟩
    · obtain ⟨w, e1, r1⟩ := R.slot j s e
      exact ⟨w, by rw [List.getElem?_set_ne (Ne.symm hj)]; exact e1, r1⟩
  · rcases c1 j _ e1 with ⟨h1, h2⟩ | ⟨h1, h2⟩
    · rcases c1 k _ e2 with ⟨h3, h4⟩ | ⟨h3, h4⟩
      · rw [h1, h3]
      · exfalso
        rcases c2 j _ e3 with ⟨_, z⟩ | ⟨z, _⟩
        · rcases c2 k _ e4 with ⟨y, _⟩ | ⟨_, y⟩
          · exact h3 y
          · exact (n xs a h2.symm z.symm).1 ⟨k, ys, h4, y⟩
        · exact z h1
    · rcases c1 k _ e2 with ⟨h3, h4⟩ | ⟨h3, h4⟩
      · exfalso
        rcases c2 k _ e4 with ⟨_, z⟩ | ⟨z, _⟩
        · rcases c2 j _ e3 with ⟨y, _⟩ | ⟨_, y⟩
          · exact h1 y
          · exact (n ys a h4.symm z.symm).1 ⟨j, xs, h2, y⟩
        · exact z h3
      · rcases c2 j _ e3 with ⟨z, _⟩ | ⟨_, z⟩
        · exact absurd z h1
        · rcases c2 k _ e4 with ⟨y, _⟩ | ⟨_, y⟩
          · exact absurd y h3
          · exact R.sep j k xs ys a h2 h4 z y
  · rcases sub a h with h | ⟨xs, h1, h2⟩
    · exact R.fresh a h
    · exact (n xs a h1 h2).2
/-- a slot is forgotten -/
theorem Rel.drop {i : Nat} (R : Rel K ZP B g H cs σ) : Rel K ZP B g H (cs.set i none) σ := by
  have c1 : ∀ (j : Nat) (s : SV), (cs.set i none)[j]? = some (some s) → cs[j]? = some (some s) := fun j s e => by
    by_cases hj : j = i
    · subst hj
      by_cases hi : j < cs.length
      · rw [List.getElem?_set_self hi] at e; cases e
      · rw [List.getElem?_eq_none (by rw [List.length_set]; omega)] at e; cases e
    · rw [List.getElem?_set_ne (Ne.symm hj)] at e
      exact e
  refine ⟨by rw [List.length_set]; exact R.len, fun j s e => R.slot j s (c1 j s e), fun j k xs ys a e1 e2 e3 e4 => R.sep j k xs ys a (c1 _ _ e1) (c1 _ _ e2) e3 e4, R.zok, R.fzok, R.base, fun a ⟨j, xs, e1, e2⟩ => R.fresh a ⟨j, xs, c1 _ _ e1, e2⟩, R.bs⟩
end

/-! ### targets -/
abbrev TGD := SV → CS → (CS → Prop) → Prop
def tG (K : KW) (ZP : ZT) (t : TGD) : TG := fun v σ H Q => ∃ B cs g sv, Rel K ZP B g H cs σ ∧ RS K g H sv v ∧ (∀ xs a, sv = .obj xs → v = .ref a → ¬ ow cs σ a ∧ B.1 a = none) ∧ ∃ Q', t sv cs Q' ∧
  ∀ cs' σ' g' H', Q' cs' → Rel K ZP B g' H' cs' σ' → Stay g H g' H' → Q σ' H'
structure DG (X : Cx) (ZP : ZT) (tg : Expr) (t : TGD) : Prop where
  pg : PG X tg (tG X.kw ZP t)
section
variable {X : Cx} {ZP : ZT} {pos : Pos}
theorem PG.imp {tg : Expr} {t t' : TG} (h : PG X tg t) (m : ∀ v σ H Q, t' v σ H Q → t v σ H Q) : PG X tg t' := ⟨fun pins s σ H v u Q I r q => h.run pins s σ H v u Q I r (m _ _ _ _ q)⟩
def g_name (i : Nat) : TGD := fun sv cs Q => i < cs.length ∧ Q (cs.set i (some sv))
theorem dg_name {i : Nat} {x : Str} (hN : X.N.Nodup) (hi : X.N[i]? = some x) (hx : Loc X.env.scope x) (hf : X.fn x = true ∨ X.env.scope.names.lookup x = some .local := by first | exact .inl rfl | exact .inr rfl | assumption) : DG X ZP (.Name x pos) (g_name i) := by
  refine ⟨PG.imp (pg_name hN hi hx hf) ?_⟩
  rintro v σ H Q ⟨B, cs, g, sv, R, r, n, Q', ⟨hl, q⟩, k⟩
  exact k _ _ g H q (R.store hl r n) .refl
/-- a tuple of names -/
structure DGs (X : Cx) (ZP : ZT) (ts : List Expr) (t : List PyData → CS → (CS → Prop) → Prop) : Prop where
  pgs : PGs X ts fun vs σ H Q => ∃ B cs g ds, Rel X.kw ZP B g H cs σ ∧ RpAll X.kw H g.fz ds vs ∧ ∃ Q', t ds cs Q' ∧ ∀ cs' σ' g' H', Q' cs' → Rel X.kw ZP B g' H' cs' σ' → Stay g H g' H' → Q σ' H'
def g_nil : List PyData → CS → (CS → Prop) → Prop := fun ds cs Q => ds = [] ∧ Q cs
def g_cons (t : TGD) (u : List PyData → CS → (CS → Prop) → Prop) : List PyData → CS → (CS → Prop) → Prop := fun ds cs Q => match ds with
  | d :: r => t (.dat d) cs fun cs1 => u r cs1 Q
  | [] => False
theorem PGs.imp {ts : List Expr} {t t' : TGs} (h : PGs X ts t) (m : ∀ v σ H Q, t' v σ H Q → t v σ H Q) : PGs X ts t' := ⟨fun pins s σ H v u Q I r q => h.run pins s σ H v u Q I r (m _ _ _ _ q)⟩
theorem dgs_nil : DGs X ZP [] g_nil := by
  refine ⟨PGs.imp pgs_nil ?_⟩
  rintro vs σ H Q ⟨B, cs, g, ds, R, r, Q', ⟨rfl, q⟩, k⟩
  cases r
  exact ⟨rfl, k _ _ g H q R .refl⟩
theorem dgs_cons {e : Expr} {es : List Expr} {t : TGD} {u : List PyData → CS → (CS → Prop) → Prop} (h : DG X ZP e t) (h2 : DGs X ZP es u)
    (hs : (assignEach (e :: es) X.env).map (·.2) = assign e X.env :: (assignEach es X.env).map (·.2) := by rfl) : DGs X ZP (e :: es) (g_cons t u) := by
  refine ⟨PGs.imp (pgs_cons h.pg h2.pgs hs) ?_⟩
  rintro vs σ H Q ⟨B, cs, g, ds, R, r, Q', q, k⟩
  cases r with
  | nil => exact q.elim
  | @cons v vs d ds r1 r2 =>
    refine ⟨v, vs, rfl, B, cs, g, .dat d, R, r1, (fun _ _ e => by cases e), _, q, fun cs1 σ1 g1 H1 q1 R1 s1 => ?_⟩
    exact ⟨B, cs1, g1, ds, R1, s1.rps r2, Q', q1, fun cs' σ' g' H' q' R' s' => k cs' σ' g' H' q' R' (s1.trans s')⟩
def g_tup (n : Nat) (t : List PyData → CS → (CS → Prop) → Prop) : TGD := fun sv cs Q => match sv with
  | .dat (.tuple ds) => ds.length = n ∧ t ds cs Q
  | .obj (.lst ds) => ds.length = n ∧ t ds cs Q
  | _ => False
theorem PG.or {tg : Expr} {t t' : TG} (h : PG X tg t) (h' : PG X tg t') : PG X tg (fun v σ H Q => t v σ H Q ∨ t' v σ H Q) :=
  ⟨fun pins s σ H v u Q I r q => q.elim (h.run pins s σ H v u Q I r) (h'.run pins s σ H v u Q I r)⟩
theorem dg_tup {es : List Expr} {k : Nat} {t : List PyData → CS → (CS → Prop) → Prop} {n : Nat} (hc : X.calm = true) (h : DGs X ZP es t)
    (hn : (assignEach es X.env).length = n := by rfl) (hst : (assignEach es X.env).findIdx? (·.1) = none := by rfl) : DG X ZP (.Tuple es k pos) (g_tup n t) := by
  refine ⟨PG.imp (PG.or (pg_tup hc h.pgs hn hst) (pg_unl hc h.pgs hn hst)) ?_⟩
  rintro v σ H Q ⟨B, cs, g, sv, R, r, n, Q', q, k⟩
  cases sv with
  | dat d =>
    cases d with
    | tuple ds =>
      obtain ⟨a, xs, rfl, hq, ra⟩ := (Rp.rb r).tup
      refine .inl ⟨a, xs, rfl, SqT.of hq, by rw [← ra.length]; exact q.1, B, cs, g, ds, R, ra, Q', q.2, k⟩
    | _ => exact q.elim
  | obj o =>
    cases o with
    | dct _ => exact q.elim
    | gdc _ => exact q.elim
    | lst ds =>
    obtain ⟨a, vs, rfl, h, _, _, ra⟩ := r
    exact .inr ⟨a, vs, rfl, .inl (.inl h), by rw [← ra.length]; exact q.1, B, cs, g, ds, R, ra, Q', q.2, k⟩
  | _ => exact q.elim
/-- target = value -/
def t_asg (t : TD) (g : TGD) : TSD := fun D cs => t cs fun sv cs1 => g sv cs1 D.nx
theorem ds_asg {tg e : Expr} {td : TD} {tg' : TGD} (he : DE X ZP e td) (hg : DG X ZP tg tg') (hs : swapsWithSole [tg] e pos.line X.env = pure false := by rfl) (hw : swappedStores [tg] e X.env = pure none := by rfl)
    (h1 : (assignEach [tg] X.env).map (·.2) = [assign tg X.env] := by rfl) : DS X ZP (.Assign [tg] e pos) (t_asg td tg') := by
  refine ⟨PS.imp (ps_asg he.pe hg.pg hs hw h1) ?_⟩
  rintro D σ H ⟨B, cs, g, R, D', q, p⟩
  refine ⟨B, cs, g, R, _, q, fun sv cs1 v g1 H1 q1 R1 r1 t1 s1 f1 => ?_⟩
  have st := f1.stay R.fzow
  exact ⟨B, cs1, g1, sv, R1, r1, fun xs a e1 e2 => ⟨(t1 xs a e1 e2).1, R.bnone (t1 xs a e1 e2).2⟩, _, q1, fun cs' σ' g' H' q' R' s' => p.nx cs' σ' g' H' R' (st.trans s') q'⟩
end
end Cl

namespace Cl
open PySem PySem.Spec PyProof.Rows L2

/-! ### enumerate of anything that begins -/
set_option maxHeartbeats 1000000 in
theorem meets_enum1 {v : Value} {o : Obj} {G : Heap → Prop} (B : Begins v o G) :
    Meets (Builtin.«enumerate.__new__» ⟨[.type "enumerate", v], []⟩) (fun _ R s => G s.heap ∧
      R (.ok (.ret (.ref (s.heap.push o).objs.size))) { s with heap := (s.heap.push o).push { cls := .type "enumerate", data := .fields #[.none, .bool false, .ref s.heap.objs.size, rawInt 0, .none, .none] } }) := by
  refine .of_wp ?_
  intro prog w A R s h
  obtain ⟨hp, g, d, tk, os⟩ := s
  obtain ⟨h1, h⟩ := h
  have hsub := sub_enumerate
  have qi : ∀ {A' : Around} {E : Value → Shared → Prop} {Q : Value → Shared → Prop}, Q (.ref hp.objs.size) ⟨hp.push o, g, d, tk, os⟩ → wpAny (model prog w) A' (pyIter v) Q E ⟨hp, g, d, tk, os⟩ := by
    intro A' E Q q
    exact B.iter prog w _ _ ⟨hp, g, d, tk, os⟩ _ h1 q
  wp_walk using qi
  refine wpAny_stack_any fun st => ?_
  refine wpAny_pure ?_
  split
  · rename_i c _ _ _ _ _
    cases (c == Value.type "enumerate") <;> (wp_walk using qi; exact ⟨_, rfl, h⟩)
  · wp_walk using qi
    exact ⟨_, rfl, h⟩
theorem enum1_begins {prog : Program} {w : World} {A : Around} {E : Value → Shared → Prop} {s : Shared} {v : Value} {o : Obj} {G : Heap → Prop} {Q : Value → Shared → Prop} (B : Begins v o G) (h1 : G s.heap)
    (h : ∀ h', IsEnum h' (s.heap.objs.size + 1) s.heap.objs.size 0 .none → h'.get? s.heap.objs.size = some o → h'.objs.size = s.heap.objs.size + 2 →
      (∀ b ob, s.heap.get? b = some ob → h'.get? b = some ob) → Q (.ref (s.heap.objs.size + 1)) { s with heap := h' }) :
    wpAny (model prog w) A (call (.type "enumerate") [v]) Q E s := by
  refine callType_new F.called_enumerate (by decide) (F.typeCall_enumerate_1 _) (F.newCall_enumerate_1 _) (fun obj => F.args_object_init_2 obj _) F.entry_enumerate_new (meets_enum1 B) ⟨h1, ?_⟩
  have sz : (s.heap.push o).objs.size = s.heap.objs.size + 1 := by rw [Heap.size_push]
  show _ ∧ _
  rw [sz]
  have new := Heap.get?_push_size (s.heap.push o) (o := { cls := .type "enumerate", data := .fields #[.none, .bool false, .ref s.heap.objs.size, rawInt 0, .none, .none] }) rfl
  rw [sz] at new
  refine ⟨⟨_, new, rfl⟩, h _ new (Heap.get?_push_of_some _ (Heap.get?_push_size _ B.free)) ?_ fun b ob x => Heap.get?_push_of_some _ (Heap.get?_push_of_some _ x)⟩
  rw [Heap.size_push, sz]

/-! ### iterators that hand out new tuples -/
/-- S: the sources stand; rows: what is handed out -/
def ItP (S : Hp → Prop) (rows : List (List V)) : It :=
  ⟨fun i H => S H ∧ i < rows.length, fun i H x H' => ∃ T vs, rows[i]? = some vs ∧ x = .ref T ∧ H T = none ∧ H' = upd H T (.tup vs), fun i H => S H ∧ i = rows.length⟩
def YP (rows : List (List V)) : Nat → Heap → Value → Heap → Prop := fun i h0 v h => ∃ T us vs, v = .ref T ∧ h0.objs.size ≤ T ∧ rows[i]? = some vs ∧ Vals vs us ∧ h.IsTuple T us.toArray
theorem turn_pairs {P : Program} {w : World} {K : PySem.W.Frag} {tg : Expr} {S : Hp → Prop} {rows : List (List V)} {it : Addr} {fp wr : List Addr} {tn : Nat → Heap → Prop}
    (hm : it ∈ fp) (hwr : ∀ b ∈ wr, b ∈ fp) (hsz : ∀ r ∈ rows, r.length ≤ sizeLine)
    (hob : ∀ i h, tn i h → ∀ b ∈ fp, ∃ o, h.get? b = some o ∧ ∀ v, o.data ≠ .cell v)
    (hkeep : ∀ i h h', tn i h → (∀ b ∈ fp, ∀ o, h.get? b = some o → h'.get? b = some o) → tn i h')
    (hG : ∀ (X : Cx), X.prog = P → X.w = w → X.K = K → X.calm = true → ∀ (pins : List (Addr × Obj)) (s : Shared) (σ : L2.St) (H : Hp) (i : Nat), Inv X pins σ H s → (∀ b ∈ fp, FpOk X pins H b) → S H → tn i s.heap →
      ∃ fp0 St, GoesN P w X.A tg it fp0 wr rows.length (YP rows) St ∧ St i s.heap ∧ ∀ j h, St j h → tn j h)
    (hself : ∀ (A : Around) (i : Nat) (s : Shared) (Q : Value → Shared → Prop) (E : Value → Shared → Prop), tn i s.heap → Q (.ref it) s → wpAny (model P w) A (pyIter (.ref it)) Q E s) :
    Turn P w K tg (ItP S rows) fp it tn where
  mem := hm
  obj := hob
  keep := hkeep
  item := by
    intro X hP hw hK hc i pins s σ H E I hf st hg
    obtain ⟨hS, hi⟩ := hg
    obtain ⟨fp0, St, G, st0, hSt⟩ := hG X hP hw hK hc pins s σ H i I hf hS st
    refine G.goes i s _ E hi st0 fun v h' tk Y st' hk _ => ?_
    obtain ⟨T, us, vs, rfl, hT, hr, rv, ht⟩ := Y
    have hl : vs.length ≤ sizeLine := hsz vs (List.mem_of_getElem? hr)
    have I1 := I.turnedNew (t' := tk) (ch := wr) (T := T) (ob := .tup vs) (fun b o hb e => hk b o hb e) (fun b hb => hf b (hwr b hb)) hT ⟨hl, us, rv, ht⟩
    refine ⟨.ref T, _, I1, rfl, ⟨T, vs, hr, rfl, I.hok.fresh hT, rfl⟩, hSt _ _ st', fun b hb => ?_⟩
    obtain ⟨o, e, _⟩ := hob _ _ st b hb
    rw [upd_ne (Nat.ne_of_lt (Nat.lt_of_lt_of_le (Heap.lt_size e) hT))]
    exact (hf b hb).1
  done := by
    intro X hP hw hK hc i pins s σ H E I hf st hg
    obtain ⟨hS, hi⟩ := hg
    subst hi
    obtain ⟨fp0, St, G, st0, hSt⟩ := hG X hP hw hK hc pins s σ H _ I hf hS st
    refine G.stops s (fun s1 => Inv X pins σ H s1) E st0 fun h' tk hk _ => ?_
    refine I.step (h' := h') (t' := tk) (g' := s.gens) (d' := s.drawn) (ch := wr) (fun b hb => ?_) (fun b o _ _ hb e _ => hk b o hb e) (fun b o _ _ hb e _ => ⟨o.slots, hk b o hb e⟩) (fun _ _ _ _ n => n)
      (fun b o hb e => ⟨o, hk b o hb e⟩) (fun _ _ e => e) (fun _ _ _ e => e) (fun b ps e => ⟨#[], by rw [e]; simp⟩) (fun m hm => ?_) (fun b u e => ?_) I.bare
    · obtain ⟨f0, f1, f2, f3, f4, f5⟩ := hf b (hwr b hb)
      exact ⟨f3, f1, f4, f5⟩
    · obtain ⟨o, es, ep, ho, r⟩ := hm
      exact ⟨o, es, ep, hk _ o (fun z => (hf _ (hwr _ z)).2.1 rfl) ho, r⟩
    · have nit : ∀ c y, H c = some y → c ∉ wr := fun c y q z => by
        have := (hf c (hwr c z)).1
        rw [q] at this; cases this
      refine (I.hok b u e).stay (fun c v hcc q => hk c v ?_ q) (fun _ q => q) fun _ _ q => q
      rcases hcc with z | z
      · rw [z]; exact nit b u e
      · exact nit c _ z
  self := hself

/-! ### the sources: a list, a tuple -/
inductive SrcK where
  | lst | tup
def SrcS (K : PySem.W.Frag) (k : SrcK) (a : Addr) (xs : List V) (H : Hp) : Prop := match k with
  | .lst => H a = some (.lst xs)
  | .tup => SqT K H a xs
def srcI (k : SrcK) (a it : Addr) (i : Nat) (h : Heap) : Prop := match k with
  | .lst => h.IsListIter it a i
  | .tup => h.IsTupleIter it a i
def srcO (k : SrcK) (a : Addr) : Obj := match k with
  | .lst => { cls := .type "list_iterator", data := .fields #[.ref a, .int 0 0] }
  | .tup => { cls := .type "tuple_iterator", data := .fields #[.ref a, .int 0 0] }
def srcG (k : SrcK) (a : Addr) (its : Array Value) (h : Heap) : Prop := match k with
  | .lst => h.IsList a its
  | .tup => h.IsTuple a its
section
variable {X : Cx} {pins : List (Addr × Obj)} {σ : L2.St} {H : Hp} {s : Shared} {k : SrcK} {a it : Addr} {xs : List V}
theorem src_its (I : Inv X pins σ H s) (h : SrcS X.K k a xs H) : ∃ its : List Value, Vals xs its ∧ srcG k a its.toArray s.heap ∧ xs.length ≤ sizeLine := by
  cases k with
  | lst =>
    obtain ⟨its, rv, p, z⟩ := I.list (SqL.of h)
    exact ⟨its, rv, p.isList, z⟩
  | tup =>
    obtain ⟨its, rv, p, z⟩ := I.tuple h
    exact ⟨its, rv, p, z⟩
theorem src_begins (k : SrcK) (a : Addr) (its : Array Value) : Begins (.ref a) (srcO k a) (srcG k a its) := by
  cases k with
  | lst => exact begins_list a its
  | tup => exact begins_tuple a its
theorem src_start {h : Heap} (e : h.get? it = some (srcO k a)) : srcI k a it 0 h := by
  cases k with
  | lst => exact ⟨_, e, rfl, rfl⟩
  | tup => exact ⟨_, e, rfl, rfl⟩
theorem src_obj {h : Heap} {i : Nat} (e : srcI k a it i h) : ∃ o, h.get? it = some o ∧ ∀ v, o.data ≠ .cell v := by
  cases k with
  | lst => obtain ⟨o, e, _, d⟩ := e; exact ⟨o, e, fun v z => by rw [d] at z; cases z⟩
  | tup => obtain ⟨o, e, _, d⟩ := e; exact ⟨o, e, fun v z => by rw [d] at z; cases z⟩
theorem src_keep {h h' : Heap} {i : Nat} (e : srcI k a it i h) (hk : ∀ o, h.get? it = some o → h'.get? it = some o) : srcI k a it i h' := by
  cases k with
  | lst => exact e.at hk
  | tup => exact e.at hk
theorem src_ne (I : Inv X pins σ H s) (f : FpOk X pins H it) (h : SrcS X.K k a xs H) : a ≠ it := by
  have tr : ∀ u, H a = some u → a ≠ it := fun u e z => by
    subst z; rw [f.1] at e; cases e
  cases k with
  | lst => exact tr _ h
  | tup =>
    rcases h with (h | ⟨o, h⟩) | ⟨o, its, n, hk, _⟩
    · exact tr _ h
    · exact tr _ h
    · intro z
      subst z
      have e := I.ok.mod.kin a o hk
      rcases f.2.2.2.1 with q | q
      · exact I.ok.noex a o e q
      · have l := Nat.lt_of_lt_of_le (Heap.lt_size e) I.ok.bsz
        exact absurd (Nat.lt_of_lt_of_le l q) (Nat.lt_irrefl _)
theorem src_draws {P : Program} {w : World} {A : Around} (hh : A.handled = none) (hne : a ≠ it) (its : Array Value) : Draws P w A it [it, a] its.size (fun i v => its[i]? = some v) (fun i h => srcI k a it i h ∧ srcG k a its h) := by
  cases k with
  | lst => exact .list hh it a hne its
  | tup => exact .tuple hh it a hne its
theorem srcG_lt {h : Heap} {its : Array Value} (g : srcG k a its h) : a < h.objs.size := by
  cases k with
  | lst => obtain ⟨o, e, _⟩ := g; exact Heap.lt_size e
  | tup => obtain ⟨o, e, _⟩ := g; exact Heap.lt_size e
end

/-! ### enumerate -/
def enumR : Nat → List V → List (List V)
  | _, [] => []
  | k, x :: xs => [.int (k : Nat), x] :: enumR (k + 1) xs
theorem enumR_len : ∀ (k : Nat) (xs : List V), (enumR k xs).length = xs.length
  | _, [] => rfl
  | k, x :: xs => by simp [enumR, enumR_len (k + 1) xs]
theorem enumR_get : ∀ (xs : List V) (k i : Nat), (enumR k xs)[i]? = (xs[i]?).map fun x => [V.int ((k + i : Nat) : Int), x]
  | [], _, _ => by simp [enumR]
  | x :: xs, k, 0 => by simp [enumR]
  | x :: xs, k, i + 1 => by
    simp only [enumR, List.getElem?_cons_succ]
    rw [enumR_get xs (k + 1) i, show k + 1 + i = k + (i + 1) by omega]
theorem enumR_sz (k : Nat) (xs : List V) : ∀ r ∈ enumR k xs, r.length ≤ sizeLine := by
  induction xs generalizing k with
  | nil => intro r h; cases h
  | cons x xs ih =>
    intro r h
    rcases List.mem_cons.mp h with rfl | h
    · show 2 ≤ sizeLine; decide
    · exact ih _ r h
def iEnumS (K : PySem.W.Frag) (ta : TA) : TI := fun σ H R => ta σ H fun vs H1 => ∃ k a xs, vs = [.ref a] ∧ SrcS K k a xs H1 ∧ R (ItP (SrcS K k a xs) (enumR 0 xs)) H1
theorem turn_enumS {P : Program} {w : World} {K : PySem.W.Frag} {elts : List Expr} {kk : Nat} {tpos : Pos} (k : SrcK) (a e it : Addr) (xs : List V) (hne : e ≠ it) :
    Turn P w K (.Tuple elts kk tpos) (ItP (SrcS K k a xs) (enumR 0 xs)) [e, it] e (fun i h => (∃ old, IsEnum h e it ((i : Nat) : Int) old) ∧ srcI k a it i h) := by
  refine turn_pairs (wr := [e, it]) (by simp) (fun b h => h) (enumR_sz 0 xs) ?_ ?_ ?_ ?_
  · rintro i h ⟨⟨old, he⟩, hi⟩ b hb
    have hb : b = e ∨ b = it := by simpa using hb
    rcases hb with rfl | rfl
    · exact ⟨_, he, fun v z => nomatch z⟩
    · exact src_obj hi
  · rintro i h h' ⟨⟨old, he⟩, hi⟩ hk
    exact ⟨⟨old, hk e (by simp) _ he⟩, src_keep hi fun o q => hk it (by simp) o q⟩
  · rintro X rfl rfl rfl hc pins s σ H i I hf hS ⟨⟨old, he⟩, hi⟩
    obtain ⟨its, rv, g, hz⟩ := src_its I hS
    have f := hf it (by simp)
    have fe := hf e (by simp)
    have n1 := src_ne I f hS
    have n2 := src_ne I fe hS
    have D := src_draws (P := X.prog) (w := X.w) (A := X.A.in1) (k := k) (I.ok.hd hc) n1 its.toArray
    have G := GoesN.enumFrom (elts := elts) (x1 := kk) (pos := tpos) 0 D e hne (by simp [hne, n2.symm]) (by simp)
    rw [show its.toArray.size = (enumR 0 xs).length by rw [enumR_len, List.size_toArray, rv.length]] at G
    refine ⟨_, _, G.mono ?_, ⟨⟨old, by rw [Int.zero_add]; exact he⟩, hi, g⟩, ?_⟩
    · rintro j h0 v h hj ⟨T, t, x, rfl, hT, hx, ht⟩
      have hx : its[j]? = some x := by simpa using hx
      have hj2 : j < xs.length := by rw [enumR_len] at hj; exact hj
      obtain ⟨u, hu, ru⟩ := rv.get (List.getElem?_eq_getElem hj2)
      rw [hx] at hu; cases hu
      refine ⟨T, [.int ((j : Nat) : Int) t, x], [.int ((j : Nat) : Int), xs[j]], rfl, hT, ?_, .cons ⟨t, rfl⟩ (.cons ru .nil), ?_⟩
      · rw [enumR_get, List.getElem?_eq_getElem hj2]; simp
      · rw [Int.zero_add] at ht; exact ht
    · rintro j h ⟨⟨old, he⟩, hi, _⟩
      exact ⟨⟨old, by rw [Int.zero_add] at he; exact he⟩, hi⟩
  · rintro A i s Q E ⟨⟨old, he⟩, hi⟩ q
    exact wpAny_pyIter_enum he q
theorem pi_enumS {X : Cx} {e : Expr} {ta : TA} {p pos tpos : Pos} {elts : List Expr} {kk : Nat} (hg : Gl X "enumerate") (hm : X.mg "enumerate" = none) (ha : PA X [e] ta) (hs : starEach [e] X.env = [(false, eval e X.env)] := by rfl) :
    PI X (.Tuple elts kk tpos) (.Call (.Name "enumerate" p) [e] [] pos) (iEnumS X.K ta) := by
  constructor
  intro pins s σ H R I h
  refine Call_ (ld_blt I hg hm boot_enumerate (PyProof.Rows.callWith_type1 (thn (ha.run pos pins s σ H _ I h) ?_) hs rfl))
  rintro us s1 ⟨vs, H1, I1, r1, k, a, xs, rfl, hS, q⟩
  rw [Vals.ref1 r1]
  obtain ⟨its, rv, g, hz⟩ := src_its I1 hS
  refine enum1_begins (src_begins k a its.toArray) g fun h' he hit hsz hk => wpAny_pyIter_enum he ?_
  have I2 : Inv X pins σ H1 { s1 with heap := h' } := I1.kept (t' := s1.toks) hk
  refine ⟨s1.heap.objs.size + 1, [s1.heap.objs.size + 1, s1.heap.objs.size], _, _, H1, rfl, I2, turn_enumS k a (s1.heap.objs.size + 1) s1.heap.objs.size xs (Nat.succ_ne_self _), ⟨⟨.none, he⟩, src_start hit⟩, fun b hb => ?_, q⟩
  have hle : s1.heap.objs.size ≤ b := by
    have hb : b = s1.heap.objs.size + 1 ∨ b = s1.heap.objs.size := by simpa using hb
    rcases hb with rfl | rfl
    · exact Nat.le_add_right _ _
    · exact Nat.le_refl _
  exact I1.fpOk hle (I1.hok.fresh hle)

/-! ### zip of two -/
def zipR : List V → List V → List (List V)
  | x :: xs, y :: ys => [x, y] :: zipR xs ys
  | _, _ => []
theorem zipR_len : ∀ (xs ys : List V), (zipR xs ys).length = min xs.length ys.length
  | [], _ => by simp [zipR]
  | _ :: _, [] => by simp [zipR]
  | x :: xs, y :: ys => by simp [zipR, zipR_len xs ys]
theorem zipR_get : ∀ (xs ys : List V) (i : Nat) (x y : V), xs[i]? = some x → ys[i]? = some y → (zipR xs ys)[i]? = some [x, y]
  | [], _, _, _, _, h, _ => by simp at h
  | _ :: _, [], _, _, _, _, h => by simp at h
  | a :: xs, b :: ys, 0, x, y, h1, h2 => by simp at h1 h2; subst h1 h2; rfl
  | a :: xs, b :: ys, i + 1, x, y, h1, h2 => by
    simp only [zipR, List.getElem?_cons_succ]
    exact zipR_get xs ys i x y (by simpa using h1) (by simpa using h2)
theorem zipR_sz : ∀ (xs ys : List V), ∀ r ∈ zipR xs ys, r.length ≤ sizeLine
  | [], _ => by simp [zipR]
  | _ :: _, [] => by simp [zipR]
  | x :: xs, y :: ys => by
    intro r h
    rcases List.mem_cons.mp h with rfl | h
    · show 2 ≤ sizeLine; decide
    · exact zipR_sz xs ys r h
def ZipA (z TI TO i1 i2 : Addr) : Prop := TI ≠ z ∧ TO ≠ z ∧ TI ≠ TO ∧ TI ≠ i1 ∧ TI ≠ i2 ∧ z ≠ i1 ∧ z ≠ i2 ∧ TO ≠ i1 ∧ TO ≠ i2 ∧ i1 ≠ i2
theorem turn_zipS {P : Program} {w : World} {K : PySem.W.Frag} {elts : List Expr} {kk : Nat} {tpos : Pos} (k1 k2 : SrcK) (a b z TI TO i1 i2 : Addr) (xs ys : List V) (D : ZipA z TI TO i1 i2) :
    Turn P w K (.Tuple elts kk tpos) (ItP (fun H => SrcS K k1 a xs H ∧ SrcS K k2 b ys H) (zipR xs ys)) [z, TI, TO, i1, i2] z
      (fun i h => IsZip h z TI TO .none ∧ IsTupOf2 h TI (.ref i1) (.ref i2) ∧ (∃ x y, IsTupOf2 h TO x y) ∧ srcI k1 a i1 i h ∧ srcI k2 b i2 i h) := by
  obtain ⟨d1, d2, d3, d4, d5, d6, d7, d8, d9, d10⟩ := D
  refine turn_pairs (wr := [z, TO, i1, i2]) (by simp) (fun b h => ?_) (zipR_sz xs ys) ?_ ?_ ?_ ?_
  · have h : b = z ∨ b = TO ∨ b = i1 ∨ b = i2 := by simpa using h
    rcases h with rfl | rfl | rfl | rfl <;> simp
  · rintro i h ⟨hz, hT, ⟨x, y, hO⟩, h1, h2⟩ c hc
    have hc : c = z ∨ c = TI ∨ c = TO ∨ c = i1 ∨ c = i2 := by simpa using hc
    rcases hc with rfl | rfl | rfl | rfl | rfl
    · exact ⟨_, hz, fun v z => nomatch z⟩
    · exact ⟨_, hT, fun v z => nomatch z⟩
    · exact ⟨_, hO, fun v z => nomatch z⟩
    · exact src_obj h1
    · exact src_obj h2
  · rintro i h h' ⟨hz, hT, ⟨x, y, hO⟩, h1, h2⟩ hk
    exact ⟨hk z (by simp) _ hz, hk TI (by simp) _ hT, ⟨x, y, hk TO (by simp) _ hO⟩, src_keep h1 fun o q => hk i1 (by simp) o q, src_keep h2 fun o q => hk i2 (by simp) o q⟩
  · rintro X rfl rfl rfl hc pins s σ H i I hf ⟨hS1, hS2⟩ ⟨hz, hT, hO, h1, h2⟩
    obtain ⟨its1, rv1, g1, _⟩ := src_its I hS1
    obtain ⟨its2, rv2, g2, _⟩ := src_its I hS2
    have fz := hf z (by simp)
    have fTI := hf TI (by simp)
    have fTO := hf TO (by simp)
    have f1 := hf i1 (by simp)
    have f2 := hf i2 (by simp)
    have D1 := src_draws (P := X.prog) (w := X.w) (A := X.A.in1) (k := k1) (I.ok.hd hc) (src_ne I f1 hS1) its1.toArray
    have D2 := src_draws (P := X.prog) (w := X.w) (A := X.A.in1) (k := k2) (I.ok.hd hc) (src_ne I f2 hS2) its2.toArray
    have Z : ZipSep2 z TI TO i1 i2 [i1, a] [i2, b] :=
      { TIz := d1, TOz := d2, TITO := d3, TIi1 := d4, mem1 := by simp, zf1 := by simp [d6, (src_ne I fz hS1).symm], Tf1 := by simp [d8, (src_ne I fTO hS1).symm],
        TIi2 := d5, mem2 := by simp, zf2 := by simp [d7, (src_ne I fz hS2).symm], Tf2 := by simp [d9, (src_ne I fTO hS2).symm],
        sep1_2 := by simp [d10, (src_ne I f1 hS2).symm], sep2_1 := by simp [d10.symm, (src_ne I f2 hS1).symm] }
    have G := GoesN.zip2 (elts := elts) (x1 := kk) (pos := tpos) Z D1 D2
    rw [show min its1.toArray.size its2.toArray.size = (zipR xs ys).length by rw [zipR_len, List.size_toArray, List.size_toArray, rv1.length, rv2.length]] at G
    refine ⟨_, _, G.mono ?_, ⟨hz, hT, hO, ⟨h1, g1⟩, h2, g2⟩, ?_⟩
    · rintro j h0 v h hj ⟨T, x, y, rfl, hT, hx, hy, ht⟩
      have hx : its1[j]? = some x := by simpa using hx
      have hy : its2[j]? = some y := by simpa using hy
      rw [zipR_len] at hj
      have hj1 : j < xs.length := by omega
      have hj2 : j < ys.length := by omega
      obtain ⟨u, hu, ru⟩ := rv1.get (List.getElem?_eq_getElem hj1)
      obtain ⟨u2, hu2, ru2⟩ := rv2.get (List.getElem?_eq_getElem hj2)
      rw [hx] at hu; cases hu
      rw [hy] at hu2; cases hu2
      exact ⟨T, [x, y], [xs[j], ys[j]], rfl, hT, zipR_get xs ys j _ _ (List.getElem?_eq_getElem hj1) (List.getElem?_eq_getElem hj2), .cons ru (.cons ru2 .nil), ht⟩
    · rintro j h ⟨hz, hT, hO, ⟨h1, _⟩, h2, _⟩
      exact ⟨hz, hT, hO, h1, h2⟩
  · rintro A i s Q E ⟨hz, _⟩ q
    exact wpAny_pyIter_zip hz q
def iZipS (K : PySem.W.Frag) (ta : TA) : TI := fun σ H R => ta σ H fun vs H1 => ∃ k1 k2 a b xs ys, vs = [.ref a, .ref b] ∧ SrcS K k1 a xs H1 ∧ SrcS K k2 b ys H1 ∧ R (ItP (fun H => SrcS K k1 a xs H ∧ SrcS K k2 b ys H) (zipR xs ys)) H1
theorem zipA (n : Nat) : ZipA (n + 4) (n + 2) (n + 3) n (n + 1) := by
  refine ⟨?_, ?_, ?_, ?_, ?_, ?_, ?_, ?_, ?_, ?_⟩ <;> (show (_ : Nat) ≠ _; omega)
theorem pi_zipS {X : Cx} {e e2 : Expr} {ta : TA} {p pos tpos : Pos} {elts : List Expr} {kk : Nat} (hg : Gl X "zip") (hm : X.mg "zip" = none) (ha : PA X [e, e2] ta)
    (hs : starEach [e, e2] X.env = (false, eval e X.env) :: starEach [e2] X.env := by rfl) (hpl : (backTo pos (starEach [e2] X.env)).any (·.1) = false := by rfl) :
    PI X (.Tuple elts kk tpos) (.Call (.Name "zip" p) [e, e2] [] pos) (iZipS X.K ta) := by
  constructor
  intro pins s σ H R I h
  refine Call_ (ld_blt I hg hm PyProof.Rows.boot_zip (PyProof.Rows.callWith_type1 (thn (ha.run pos pins s σ H _ I h) ?_) hs hpl))
  rintro us s1 ⟨vs, H1, I1, r1, k1, k2, a, b, xs, ys, rfl, hS1, hS2, q⟩
  obtain ⟨u1, u2, rfl, q1, q2⟩ := vals2 r1
  cases q1; cases q2
  obtain ⟨its1, rv1, g1, _⟩ := src_its I1 hS1
  obtain ⟨its2, rv2, g2, _⟩ := src_its I1 hS2
  refine zip_begins2 (src_begins k1 a its1.toArray) (src_begins k2 b its2.toArray) g1 g2 fun h' hz hTI hTO e1 e2 hsz hk => wpAny_pyIter_zip hz ?_
  have I2 : Inv X pins σ H1 { s1 with heap := h' } := I1.kept (t' := s1.toks) hk
  refine ⟨s1.heap.objs.size + 4, [s1.heap.objs.size + 4, s1.heap.objs.size + 2, s1.heap.objs.size + 3, s1.heap.objs.size, s1.heap.objs.size + 1], _, _, H1, rfl, I2, turn_zipS k1 k2 a b _ _ _ _ _ xs ys (zipA _), ⟨hz, hTI, ⟨_, _, hTO⟩, src_start e1, src_start e2⟩, fun c hc => ?_, q⟩
  have hle : s1.heap.objs.size ≤ c := by
    have hc : c = s1.heap.objs.size + 4 ∨ c = s1.heap.objs.size + 2 ∨ c = s1.heap.objs.size + 3 ∨ c = s1.heap.objs.size ∨ c = s1.heap.objs.size + 1 := by simpa using hc
    rcases hc with rfl | rfl | rfl | rfl | rfl
    · exact Nat.le_add_right _ _
    · exact Nat.le_add_right _ _
    · exact Nat.le_add_right _ _
    · exact Nat.le_refl _
    · exact Nat.le_add_right _ _
  exact I1.fpOk hle (I1.hok.fresh hle)
end Cl

namespace Cl
open PySem PySem.Spec PyProof.Rows L2

/-! ### what is walked, as data -/
def WalkD (K : KW) (J : It) (g : GW) (H : Hp) (ds : List PyData) : Prop := ∀ g' H', Stay g H g' H' →
  (∀ i d, ds[i]? = some d → J.go i H' ∧ ∀ x H'', J.yld i H' x H'' → Res K H' g'.fz (.dat d) x H'') ∧ J.stop ds.length H'
abbrev TID := CS → (List PyData → CS → Prop) → Prop
def tI (K : KW) (ZP : ZT) (t : TID) : TI := fun σ H R => ∃ B cs g, Rel K ZP B g H cs σ ∧ ∃ Q', t cs Q' ∧
  ∀ ds cs' J g' H', Q' ds cs' → Rel K ZP B g' H' cs' σ → WalkD K J g' H' ds → (∀ a, ow cs' σ a → ow cs σ a) → Frm (ow cs σ) g H g' H' → R J H'
structure DI (X : Cx) (ZP : ZT) (tg iter : Expr) (t : TID) : Prop where
  pi : PI X tg iter (tI X.kw ZP t)
section
variable {X : Cx} {ZP : ZT} {tg e e2 : Expr} {p pos tpos : Pos} {elts : List Expr} {kk : Nat}
theorem PI.imp {iter : Expr} {t t' : TI} (h : PI X tg iter t) (m : ∀ σ H R, t' σ H R → t σ H R) : PI X tg iter t' := ⟨fun pins s σ H R I q => h.run pins s σ H R I (m _ _ _ q)⟩
/-- a list (frozen by the walk) -/
def t_wlist (t : TVD) : TID := fun cs Q => t cs fun d cs1 => match d with
  | .list ds => Q ds cs1
  | _ => False
def t_wtup (t : TVD) : TID := fun cs Q => t cs fun d cs1 => match d with
  | .tuple ds => Q ds cs1
  | _ => False
def t_wstr (t : TVD) : TID := fun cs Q => t cs fun d cs1 => match d with
  | .str z => Q (z.cps.toList.map fun c => .str ⟨#[c]⟩) cs1
  | _ => False
theorem di_list {t : TVD} (h : DV X ZP e t) : DI X ZP tg e (t_wlist t) := by
  refine ⟨PI.imp (pi_list h.pe) ?_⟩
  rintro σ H R ⟨B, cs, g, Re, Q', q, k⟩
  refine ⟨B, cs, g, Re, _, q, fun d cs1 v g1 H1 q1 R1 r1 s1 f1 => ?_⟩
  cases d with
  | list ds =>
    cases r1 with
    | @lst a xs _ hf ha ra =>
      refine ⟨a, rfl, ⟨xs, SqL.of ha⟩, k ds cs1 _ g1 H1 q1 R1 (fun g2 H2 st => ?_) s1 f1⟩
      have ha2 : H2 a = some (.lst xs) := st.keep a _ hf ha
      have ra2 := st.rps ra
      refine ⟨fun i d hd => ?_, xs, SqL.of ha2, ?_⟩
      · obtain ⟨v, hv, rv⟩ := ra2.get' hd
        refine ⟨⟨xs, v, SqL.of ha2, hv⟩, fun x H'' hy => ?_⟩
        obtain ⟨rfl, hx⟩ := hy
        have := hx xs (SqL.of ha2)
        rw [hv] at this; cases this
        exact .same rv
      · rw [ra.length]; exact Nat.le_refl _
  | _ => exact q1.elim
theorem di_tup {t : TVD} (h : DV X ZP e t) : DI X ZP tg e (t_wtup t) := by
  refine ⟨PI.imp (pi_tup h.pe) ?_⟩
  rintro σ H R ⟨B, cs, g, Re, Q', q, k⟩
  refine ⟨B, cs, g, Re, _, q, fun d cs1 v g1 H1 q1 R1 r1 s1 f1 => ?_⟩
  cases d with
  | tuple ds =>
    cases r1 with
    | @tup a xs _ ha ra =>
      refine ⟨a, rfl, ⟨xs, SqT.of ha⟩, k ds cs1 _ g1 H1 q1 R1 (fun g2 H2 st => ?_) s1 f1⟩
      have ha2 : SqT X.kw H2 a xs := SqT.of (st.tups _ _ ha)
      have ra2 := st.rps ra
      refine ⟨fun i d hd => ?_, xs, ha2, ?_⟩
      · obtain ⟨v, hv, rv⟩ := ra2.get' hd
        refine ⟨⟨xs, v, ha2, hv⟩, fun x H'' hy => ?_⟩
        obtain ⟨rfl, hx⟩ := hy
        have := hx xs ha2
        rw [hv] at this; cases this
        exact .same rv
      · rw [ra.length]; exact Nat.le_refl _
  | _ => exact q1.elim
theorem di_str {t : TVD} (h : DV X ZP e t) : DI X ZP tg e (t_wstr t) := by
  refine ⟨PI.imp (pi_str h.pe) ?_⟩
  rintro σ H R ⟨B, cs, g, Re, Q', q, k⟩
  refine ⟨B, cs, g, Re, _, q, fun d cs1 v g1 H1 q1 R1 r1 s1 f1 => ?_⟩
  cases d with
  | str z =>
    cases r1
    refine ⟨z, rfl, k _ cs1 _ g1 H1 q1 R1 (fun g2 H2 st => ⟨fun i d hd => ?_, ?_⟩) s1 f1⟩
    · rw [List.getElem?_map] at hd
      cases e1 : z.cps.toList[i]? with
      | none => rw [e1] at hd; cases hd
      | some c =>
        rw [e1] at hd
        cases hd
        have hi : i < z.cps.size := by
          have := (List.getElem?_eq_some_iff.mp e1).1
          simpa using this
        refine ⟨hi, fun x H'' hy => ?_⟩
        obtain ⟨rfl, c', hc', rfl⟩ := hy
        have : z.cps[i]? = some c := by simpa using e1
        rw [this] at hc'; cases hc'
        exact .same (.str _)
    · show z.cps.size ≤ _
      simp
  | _ => exact q1.elim
/-- range(n), range(a, b) -/
def rangeD (lo hi : Int) : List PyData := (List.range (hi - lo).toNat).map fun i => .int (lo + (i : Nat))
def t_wrng1 (t : TSA) : TID := fun cs Q => t cs fun svs cs1 => match svs with
  | [.dat (.int j)] => -(2 ^ 62) ≤ j ∧ j < 2 ^ 62 ∧ Q (rangeD 0 j) cs1
  | _ => False
def t_wrng2 (t : TSA) : TID := fun cs Q => t cs fun svs cs1 => match svs with
  | [.dat (.int i), .dat (.int j)] => (-(2 ^ 62) ≤ i ∧ i < 2 ^ 62 ∧ -(2 ^ 62) ≤ j ∧ j < 2 ^ 62) ∧ Q (rangeD i j) cs1
  | _ => False
theorem walk_rng (K : KW) (g : GW) (H : Hp) (lo hi : Int) : WalkD K (Itr lo (hi - lo).toNat) g H (rangeD lo hi) := fun g2 H2 st => by
  refine ⟨fun i d hd => ?_, ?_⟩
  · unfold rangeD at hd
    rw [List.getElem?_map] at hd
    cases e1 : (List.range (hi - lo).toNat)[i]? with
    | none => rw [e1] at hd; cases hd
    | some c =>
      rw [e1] at hd
      cases hd
      obtain ⟨hi, e2⟩ := List.getElem?_eq_some_iff.mp e1
      rw [List.getElem_range] at e2
      subst e2
      rw [List.length_range] at hi
      refine ⟨hi, fun x H'' hy => ?_⟩
      obtain ⟨rfl, rfl⟩ := hy
      exact .same (.int _)
  · show (hi - lo).toNat ≤ (rangeD lo hi).length
    unfold rangeD
    rw [List.length_map, List.length_range]
    exact Nat.le_refl _
theorem di_range1 {t : TSA} (hg : Gl X "range") (hm : X.mg "range" = none) (ha : DA X ZP [e] t) (hs : starEach [e] X.env = [(false, eval e X.env)] := by rfl) : DI X ZP tg (.Call (.Name "range" p) [e] [] pos) (t_wrng1 t) := by
  refine ⟨PI.imp (pi_range1 hg hm ha.pa hs) ?_⟩
  rintro σ H R ⟨B, cs, g, Re, Q', q, k⟩
  refine ⟨B, cs, g, Re, _, q, fun svs cs1 vs g1 H1 q1 R1 r1 st s1 f1 => ?_⟩
  match svs, r1, q1 with
  | [.dat (.int j)], .cons r .nil, q1 =>
    cases r
    refine ⟨j, rfl, q1.1, q1.2.1, k _ cs1 _ g1 H1 q1.2.2 R1 ?_ s1 f1⟩
    have := walk_rng X.kw g1 H1 0 j
    rw [Int.sub_zero] at this
    exact this
theorem di_range2 {t : TSA} (hg : Gl X "range") (hm : X.mg "range" = none) (ha : DA X ZP [e, e2] t) (hs : starEach [e, e2] X.env = [(false, eval e X.env), (false, eval e2 X.env)] := by rfl) (hs2 : starEach [e2] X.env = [(false, eval e2 X.env)] := by rfl) : DI X ZP tg (.Call (.Name "range" p) [e, e2] [] pos) (t_wrng2 t) := by
  refine ⟨PI.imp (pi_range2 hg hm ha.pa hs hs2) ?_⟩
  rintro σ H R ⟨B, cs, g, Re, Q', q, k⟩
  refine ⟨B, cs, g, Re, _, q, fun svs cs1 vs g1 H1 q1 R1 r1 st s1 f1 => ?_⟩
  match svs, r1, q1 with
  | [.dat (.int i), .dat (.int j)], .cons r (.cons r' .nil), q1 =>
    cases r; cases r'
    exact ⟨i, j, rfl, q1.1, k _ cs1 _ g1 H1 q1.2 R1 (walk_rng X.kw g1 H1 i j) s1 f1⟩
/-- the items of a list or a tuple -/
def seqOf : PyData → Option (List PyData)
  | .list ds => some ds
  | .tuple ds => some ds
  | _ => none
theorem Rp.src {K : KW} {H : Hp} {g : GW} {d : PyData} {v : V} {ds : List PyData} (r : Rp K H g.fz d v) (e : seqOf d = some ds) :
    ∃ k a xs, v = .ref a ∧ RpAll K H g.fz ds xs ∧ SrcS K k a xs H ∧ ∀ g' H', Stay g H g' H' → SrcS K k a xs H' := by
  cases r with
  | @lst a xs _ hf ha ra => cases e; exact ⟨.lst, a, xs, rfl, ra, ha, fun g' H' st => st.keep a _ hf ha⟩
  | @tup a xs _ ha ra => cases e; exact ⟨.tup, a, xs, rfl, ra, SqT.of ha, fun g' H' st => SqT.of (st.tups _ _ ha)⟩
  | _ => cases e
def enumD : Nat → List PyData → List PyData
  | _, [] => []
  | k, d :: ds => .tuple [.int (k : Nat), d] :: enumD (k + 1) ds
def zipD : List PyData → List PyData → List PyData
  | x :: xs, y :: ys => .tuple [x, y] :: zipD xs ys
  | _, _ => []
def rowsD (rows : List (List PyData)) : List PyData := rows.map .tuple
/-- the rows of an ItP as data -/
theorem walk_pairs {K : KW} {S : Hp → Prop} {rows : List (List V)} {g : GW} {H : Hp} {rs : List (List PyData)} (hS : ∀ g' H', Stay g H g' H' → S H') (hl : rs.length = rows.length)
    (hr : ∀ (i : Nat) (r : List PyData) (vs : List V), rs[i]? = some r → rows[i]? = some vs → RpAll K H g.fz r vs) : WalkD K (ItP S rows) g H (rowsD rs) := fun g2 H2 st => by
  refine ⟨fun i d hd => ?_, hS _ _ st, by unfold rowsD; rw [List.length_map]; exact hl⟩
  unfold rowsD at hd
  rw [List.getElem?_map] at hd
  cases e1 : rs[i]? with
  | none => rw [e1] at hd; cases hd
  | some r =>
    rw [e1] at hd
    cases hd
    have hi : i < rows.length := by rw [← hl]; exact (List.getElem?_eq_some_iff.mp e1).1
    refine ⟨⟨hS _ _ st, hi⟩, fun x H'' hy => ?_⟩
    obtain ⟨T, vs, e2, rfl, hT, rfl⟩ := hy
    exact .tup hT (st.rps (hr i r vs e1 e2))
def enumRs : Nat → List PyData → List (List PyData)
  | _, [] => []
  | k, d :: ds => [.int (k : Nat), d] :: enumRs (k + 1) ds
theorem enumRs_ok {K : KW} {H : Hp} {fz : Addr → Prop} : ∀ {ds : List PyData} {vs : List V} (k : Nat), RpAll K H fz ds vs → (enumRs k ds).length = (enumR k vs).length ∧ ∀ (i : Nat) (r : List PyData) (us : List V), (enumRs k ds)[i]? = some r → (enumR k vs)[i]? = some us → RpAll K H fz r us
  | [], _, k, .nil => ⟨rfl, fun i r us h => by simp [enumRs] at h⟩
  | d :: ds, _, k, .cons r t => by
    obtain ⟨h1, h2⟩ := enumRs_ok (k + 1) t
    refine ⟨by simp [enumRs, enumR, h1], fun i r' us e1 e2 => ?_⟩
    cases i with
    | zero => simp [enumRs, enumR] at e1 e2; subst e1 e2; exact .cons (.int _) (.cons r .nil)
    | succ i => exact h2 i r' us (by simpa [enumRs] using e1) (by simpa [enumR] using e2)
def zipRs : List PyData → List PyData → List (List PyData)
  | x :: xs, y :: ys => [x, y] :: zipRs xs ys
  | _, _ => []
theorem zipRs_ok {K : KW} {H : Hp} {fz : Addr → Prop} : ∀ {ds es : List PyData} {vs ws : List V}, RpAll K H fz ds vs → RpAll K H fz es ws → (zipRs ds es).length = (zipR vs ws).length ∧ ∀ (i : Nat) (r : List PyData) (us : List V), (zipRs ds es)[i]? = some r → (zipR vs ws)[i]? = some us → RpAll K H fz r us
  | [], _, _, _, .nil, _ => ⟨rfl, fun i r us h => by simp [zipRs] at h⟩
  | _ :: _, [], _, _, .cons _ _, .nil => ⟨rfl, fun i r us h => by simp [zipRs] at h⟩
  | d :: ds, e :: es, _, _, .cons r t, .cons r' t' => by
    obtain ⟨h1, h2⟩ := zipRs_ok t t'
    refine ⟨by simp [zipRs, zipR, h1], fun i q us e1 e2 => ?_⟩
    cases i with
    | zero => simp [zipRs, zipR] at e1 e2; subst e1 e2; exact .cons r (.cons r' .nil)
    | succ i => exact h2 i q us (by simpa [zipRs] using e1) (by simpa [zipR] using e2)
def t_wenum (t : TSA) : TID := fun cs Q => t cs fun svs cs1 => match svs with
  | [.dat d] => (match seqOf d with
    | some ds => Q (rowsD (enumRs 0 ds)) cs1
    | none => False)
  | _ => False
def t_wzip (t : TSA) : TID := fun cs Q => t cs fun svs cs1 => match svs with
  | [.dat d, .dat e] => (match seqOf d, seqOf e with
    | some ds, some es => Q (rowsD (zipRs ds es)) cs1
    | _, _ => False)
  | _ => False
theorem di_enum {t : TSA} (hg : Gl X "enumerate") (hm : X.mg "enumerate" = none) (ha : DA X ZP [e] t) (hs : starEach [e] X.env = [(false, eval e X.env)] := by rfl) : DI X ZP (.Tuple elts kk tpos) (.Call (.Name "enumerate" p) [e] [] pos) (t_wenum t) := by
  refine ⟨PI.imp (pi_enumS hg hm ha.pa hs) ?_⟩
  rintro σ H R ⟨B, cs, g, Re, Q', q, k⟩
  refine ⟨B, cs, g, Re, _, q, fun svs cs1 vs g1 H1 q1 R1 r1 st s1 f1 => ?_⟩
  match svs, r1, q1 with
  | [.dat d], .cons r .nil, q1 =>
    cases e1 : seqOf d with
    | none => simp only [e1] at q1
    | some ds =>
      simp only [e1] at q1
      obtain ⟨kk, a, xs, rfl, ra, hS, hst⟩ := Rp.src r e1
      obtain ⟨h1, h2⟩ := enumRs_ok 0 ra
      exact ⟨kk, a, xs, rfl, hS, k _ cs1 _ g1 H1 q1 R1 (walk_pairs hst h1 h2) s1 f1⟩
theorem di_zip {t : TSA} (hg : Gl X "zip") (hm : X.mg "zip" = none) (ha : DA X ZP [e, e2] t) (hs : starEach [e, e2] X.env = (false, eval e X.env) :: starEach [e2] X.env := by rfl) (hpl : (backTo pos (starEach [e2] X.env)).any (·.1) = false := by rfl) : DI X ZP (.Tuple elts kk tpos) (.Call (.Name "zip" p) [e, e2] [] pos) (t_wzip t) := by
  refine ⟨PI.imp (pi_zipS hg hm ha.pa hs hpl) ?_⟩
  rintro σ H R ⟨B, cs, g, Re, Q', q, k⟩
  refine ⟨B, cs, g, Re, _, q, fun svs cs1 vs g1 H1 q1 R1 r1 st s1 f1 => ?_⟩
  match svs, r1, q1 with
  | [.dat d, .dat d2], .cons r (.cons r' .nil), q1 =>
    cases e1 : seqOf d with
    | none => simp only [e1] at q1
    | some ds =>
      cases e2 : seqOf d2 with
      | none => simp only [e1, e2] at q1
      | some es =>
        simp only [e1, e2] at q1
        obtain ⟨k1, a, xs, rfl, ra, hS, hst⟩ := Rp.src r e1
        obtain ⟨k2, b, ys, rfl, rb, hS2, hst2⟩ := Rp.src r' e2
        obtain ⟨h1, h2⟩ := zipRs_ok ra rb
        exact ⟨k1, k2, a, b, xs, ys, rfl, hS, hS2, k _ cs1 _ g1 H1 q1 R1 (walk_pairs (fun g' H' s => ⟨hst g' H' s, hst2 g' H' s⟩) h1 h2) s1 f1⟩
end

/-! ### for -/
def forD (gt : TGD) (tb : TSD) (D : DEnds) : List PyData → CS → Prop
  | [], cs => D.nx cs
  | d :: ds, cs => gt (.dat d) cs fun cs1 => tb { nx := forD gt tb D ds, rt := D.rt, bk := D.nx, ct := forD gt tb D ds } cs1
def t_for (ti : TID) (gt : TGD) (tb : TSD) : TSD := fun D cs => ti cs fun ds cs1 => forD gt tb D ds cs1
section
variable {X : Cx} {ZP : ZT} {tg iter : Expr} {body : List Stmt} {pos : Pos} {ti : TID} {gt : TGD} {tb : TSD}
theorem ds_for (hp : PassesOwn (model X.prog X.w) X.A X.env X.xe) (hc : X.calm = true) (hi : DI X ZP tg iter ti) (hg : DG X ZP tg gt) (hb : DSs X ZP body tb)
    (hs : ∀ x, foldedSetIterable iter X.env x = pure x := by intro _; rfl) : DS X ZP (.For tg iter body [] pos) (t_for ti gt tb) := by
  refine ⟨PS.imp (ps_for hp hc hi.pi hg.pg hb.pss hs) ?_⟩
  rintro D σ H ⟨B, cs, g, R, D', q, p⟩
  refine ⟨B, cs, g, R, _, q, fun ds cs1 J g1 H1 q1 R1 wk s1 f1 => ?_⟩
  have p1 := p.from (f1.stay R.fzow)
  refine ⟨fun i m σ H => m + i = ds.length ∧ ∃ cs g, Rel X.kw ZP B g H cs σ ∧ Stay g1 H1 g H ∧ forD gt tb D' (ds.drop i) cs, ⟨ds.length, rfl, cs1, g1, R1, .refl, q1⟩, ?_⟩
  rintro i m σ2 H2 ⟨hm, cs2, g2, R2, st2, q2⟩
  obtain ⟨w1, w2⟩ := wk g2 H2 st2
  by_cases hlt : i < ds.length
  · have e1 : ds[i]? = some ds[i] := List.getElem?_eq_getElem hlt
    obtain ⟨go, hy⟩ := w1 i _ e1
    rw [List.drop_eq_getElem_cons hlt] at q2
    refine .inr ⟨go, fun σ' H' => ∃ cs g, Rel X.kw ZP B g H' cs σ' ∧ Stay g1 H1 g H' ∧ forD gt tb D' (ds.drop (i + 1)) cs, fun σ' H' ⟨cs, g, a, b, c⟩ => ⟨m - 1, by omega, by omega, cs, g, a, b, c⟩, fun x H3 y => ?_⟩
    obtain ⟨R3, r3, t3, f3⟩ := (hy x H3 y).fin R2
    have st3 := f3.stay R2.fzow
    refine ⟨B, cs2, g2, _, R3, r3, (fun _ _ e => by cases e), _, q2, fun cs4 σ4 g4 H4 q4 R4 st4 => ?_⟩
    have st : Stay g1 H1 g4 H4 := (st2.trans st3).trans st4
    refine ⟨B, cs4, g4, R4, _, q4, ⟨fun cs' σ' g' H' R' s' q' => ⟨cs', g', R', st.trans s', q'⟩, fun cs' σ' g' H' R' s' q' => p1.nx cs' σ' g' H' R' (st.trans s') q', fun cs' σ' g' H' R' s' q' => ⟨cs', g', R', st.trans s', q'⟩,
      fun sv v cs' σ' g' H' R' s' r' t' q' => p1.rt sv v cs' σ' g' H' R' (st.trans s') r' t' q'⟩⟩
  · have e : i = ds.length := by omega
    subst e
    rw [List.drop_length] at q2
    exact .inl ⟨w2, p1.nx cs2 σ2 g2 H2 R2 st2 q2⟩
end
end Cl

namespace Cl
open PySem PySem.Spec PyProof.Rows L2

/-! ### a comprehension's slots -/
def wipeC (cs : CS) : List Nat → CS
  | [] => cs
  | v :: vs => (wipeC cs vs).set v none
theorem wipeC_length (cs : CS) : ∀ vs : List Nat, (wipeC cs vs).length = cs.length
  | [] => rfl
  | v :: vs => by unfold wipeC; rw [List.length_set, wipeC_length cs vs]
theorem wipeC_some {cs : CS} {i : Nat} {x : SV} : ∀ {vs : List Nat}, (wipeC cs vs)[i]? = some (some x) → cs[i]? = some (some x) ∧ i ∉ vs
  | [], h => ⟨h, by simp⟩
  | v :: vs, h => by
    unfold wipeC at h
    by_cases hi : v = i
    · subst hi
      by_cases hv : v < (wipeC cs vs).length
      · rw [List.getElem?_set_self hv] at h; cases h
      · rw [List.getElem?_eq_none (by rw [List.length_set]; omega)] at h; cases h
    · rw [List.getElem?_set_ne hi] at h
      obtain ⟨h1, h2⟩ := wipeC_some h
      exact ⟨h1, by simp [h2]; exact Ne.symm hi⟩
theorem wipe_notin {σ : L2.St} {i : Nat} : ∀ {vs : List Nat}, i ∉ vs → (wipe σ vs)[i]? = σ[i]?
  | [], _ => rfl
  | v :: vs, h => by
    unfold wipe
    rw [List.getElem?_set_ne (fun e => h (by simp [e])), wipe_notin fun z => h (by simp [z])]
theorem wipe_set_in {σ : L2.St} {i : Nat} {x : Option V} : ∀ {vs : List Nat}, i ∈ vs → wipe (σ.set i x) vs = wipe σ vs
  | [], h => by cases h
  | v :: vs, h => by
    unfold wipe
    by_cases hv : i ∈ vs
    · rw [wipe_set_in hv]
    · have hi : i = v := by
        rcases List.mem_cons.mp h with h | h
        · exact h
        · exact absurd h hv
      subst hi
      have key : ∀ (us : List Nat), wipe (σ.set i x) us = (wipe σ us).set i x ∨ i ∈ us := fun us => by
        induction us with
        | nil => exact .inl rfl
        | cons u us ih =>
          by_cases hu : i = u
          · exact .inr (by simp [hu])
          · rcases ih with ih | ih
            · left
              unfold wipe
              rw [ih, List.set_comm _ _ hu]
            · exact .inr (by simp [ih])
      rcases key vs with e | e
      · rw [e, List.set_set]
      · exact absurd e hv
theorem wipe_in {σ : L2.St} {i : Nat} : ∀ {vs : List Nat}, i ∈ vs → i < σ.length → (L2.wipe σ vs)[i]? = some none
  | [], h, _ => by cases h
  | v :: vs, h, hl => by
    unfold L2.wipe
    by_cases hv : v = i
    · subst hv
      rw [List.getElem?_set_self (by rw [wipe_length]; exact hl)]
    · rw [List.getElem?_set_ne hv]
      refine wipe_in ?_ hl
      rcases List.mem_cons.mp h with h | h
      · exact absurd h.symm hv
      · exact h
theorem wipe_idem (σ : L2.St) (vs : List Nat) : L2.wipe (L2.wipe σ vs) vs = L2.wipe σ vs := by
  apply List.ext_getElem?
  intro i
  by_cases hi : i ∈ vs
  · by_cases hl : i < σ.length
    · rw [wipe_in hi hl, wipe_in hi (by rw [wipe_length]; exact hl)]
    · rw [List.getElem?_eq_none (by rw [wipe_length, wipe_length]; omega), List.getElem?_eq_none (by rw [wipe_length]; omega)]
  · rw [wipe_notin hi]
section
variable {K : KW} {ZP : ZT} {B : Bs} {g g1 : GW} {H H1 : Hp} {cs cs1 csb : CS} {σ : L2.St}
theorem Rel.wipe (R : Rel K ZP B g H cs σ) (vs : List Nat) : Rel K ZP B g H (wipeC cs vs) (L2.wipe σ vs) where
  len := by rw [wipeC_length, wipe_length]; exact R.len
  slot := fun i sv e => by
    obtain ⟨e1, n⟩ := wipeC_some e
    obtain ⟨v, e2, r⟩ := R.slot i sv e1
    exact ⟨v, by rw [wipe_notin n]; exact e2, r⟩
  sep := fun i j xs ys a e1 e2 e3 e4 => by
    obtain ⟨h1, n1⟩ := wipeC_some e1
    obtain ⟨h2, n2⟩ := wipeC_some e2
    rw [wipe_notin n1] at e3
    rw [wipe_notin n2] at e4
    exact R.sep i j xs ys a h1 h2 e3 e4
  zok := R.zok
  fzok := R.fzok
  base := R.base
  fresh := fun a ⟨i, xs, e1, e2⟩ => by
    obtain ⟨h1, n1⟩ := wipeC_some e1
    rw [wipe_notin n1] at e2
    exact R.fresh a ⟨i, xs, h1, e2⟩
  bs := R.bs
theorem ow_wipe {vs : List Nat} {a : Addr} (h : ow (wipeC cs vs) (L2.wipe σ vs) a) : ow cs σ a := by
  obtain ⟨i, xs, e1, e2⟩ := h
  obtain ⟨h1, n1⟩ := wipeC_some e1
  rw [wipe_notin n1] at e2
  exact ⟨i, xs, h1, e2⟩
/-- the outer frame's values of those slots are put back -/
def restC (vs : List Nat) (cs1 csb : CS) : CS := csb.mapIdx fun j x => if j ∈ vs then cs1.getD j none else x
theorem restC_some {vs : List Nat} {j : Nat} {sv : SV} (e : (restC vs cs1 csb)[j]? = some (some sv)) : (j ∈ vs ∧ cs1[j]? = some (some sv)) ∨ (j ∉ vs ∧ csb[j]? = some (some sv)) := by
  unfold restC at e
  rw [List.getElem?_mapIdx] at e
  cases e1 : csb[j]? with
  | none => rw [e1] at e; cases e
  | some x =>
    rw [e1] at e
    by_cases hj : j ∈ vs
    · simp only [hj, if_true, Option.map_some, Option.some.injEq] at e
      left
      refine ⟨hj, ?_⟩
      rw [List.getD_eq_getElem?_getD] at e
      cases e2 : cs1[j]? with
      | none => rw [e2] at e; cases e
      | some y => rw [e2] at e; simp at e; rw [e]
    · simp only [hj, if_false, Option.map_some, Option.some.injEq] at e
      subst e
      exact .inr ⟨hj, rfl⟩
theorem Rel.rest {vs : List Nat} (R1 : Rel K ZP B g1 H1 cs1 σ) (R : Rel K ZP B g H csb (L2.wipe σ vs)) (f : Frm (ow (wipeC cs1 vs) (L2.wipe σ vs)) g1 H1 g H) (sub : ∀ a, ow csb (L2.wipe σ vs) a → ow (wipeC cs1 vs) (L2.wipe σ vs) a) :
    Rel K ZP B g H (restC vs cs1 csb) σ ∧ ∀ a, ow (restC vs cs1 csb) σ a → ow cs1 σ a := by
  have own1 : ∀ (j : Nat) (xs : OwnC) (a : Addr), j ∈ vs → cs1[j]? = some (some (.obj xs)) → σ[j]? = some (some (.ref a)) → ¬ ow (wipeC cs1 vs) (L2.wipe σ vs) a := fun j xs a hj e1 e2 ⟨k, ys, e3, e4⟩ => by
    obtain ⟨h1, n1⟩ := wipeC_some e3
    rw [wipe_notin n1] at e4
    have := R1.sep j k xs ys a e1 h1 e2 e4
    subst this
    exact n1 hj
  have back : ∀ (j : Nat) (v : V), j ∉ vs → (L2.wipe σ vs)[j]? = some (some v) → σ[j]? = some (some v) := fun j v hj e => by rw [wipe_notin hj] at e; exact e
  have sub2 : ∀ a, ow (restC vs cs1 csb) σ a → ow cs1 σ a := fun a ⟨j, xs, e1, e2⟩ => by
    rcases restC_some e1 with ⟨hj, e⟩ | ⟨hj, e⟩
    · exact ⟨j, xs, e, e2⟩
    · exact ow_wipe (sub a ⟨j, xs, e, by rw [wipe_notin hj]; exact e2⟩)
  refine ⟨⟨?_, fun j sv e => ?_, fun j k xs ys a e1 e2 e3 e4 => ?_, R.zok, R.fzok, R.base, fun a h => R1.fresh a (sub2 a h), R.bs⟩, sub2⟩
  · unfold restC
    rw [List.length_mapIdx]
    have := R.len
    rw [wipe_length] at this
    exact this
  · rcases restC_some e with ⟨hj, e⟩ | ⟨hj, e⟩
    · obtain ⟨v, e1, r⟩ := R1.slot j sv e
      refine ⟨v, e1, r.frm f (fun a h => ⟨(R1.fzow a h).1, fun z => (R1.fzow a h).2 (ow_wipe z)⟩) fun xs a e2 e3 => ?_⟩
      subst e2; subst e3
      exact own1 j xs a hj e e1
    · obtain ⟨v, e1, r⟩ := R.slot j sv e
      exact ⟨v, back j v hj e1, r⟩
  · rcases restC_some e1 with ⟨hj, h1⟩ | ⟨hj, h1⟩
    · rcases restC_some e2 with ⟨hk, h2⟩ | ⟨hk, h2⟩
      · exact R1.sep j k xs ys a h1 h2 e3 e4
      · exact absurd (sub a ⟨k, ys, h2, by rw [wipe_notin hk]; exact e4⟩) (own1 j xs a hj h1 e3)
    · rcases restC_some e2 with ⟨hk, h2⟩ | ⟨hk, h2⟩
      · exact absurd (sub a ⟨j, xs, h1, by rw [wipe_notin hj]; exact e3⟩) (own1 k ys a hk h2 e4)
      · exact R.sep j k xs ys a h1 h2 (by rw [wipe_notin hj]; exact e3) (by rw [wipe_notin hk]; exact e4)
/-- a temporary list is changed -/
theorem Rel.updTmp {p : Addr} {vs ws : List V} (R : Rel K ZP B g H cs σ) (h : H p = some (.lst vs)) (n1 : ¬ g.fz p) (n2 : g.zs p = none) (n3 : ¬ ow cs σ p) (hb : B.1 p = none) : Rel K ZP B g (upd H p (.lst ws)) cs σ ∧ Frm (fun a => a = p) g H g (upd H p (.lst ws)) := by
  have tups : ∀ a xs, H a = some (.tup xs) → (upd H p (.lst ws)) a = some (.tup xs) := fun a xs q => by
    have hne : a ≠ p := fun e => by
      subst e
      (rw [h] at q; cases q)
    rw [upd_ne hne]; exact q
  have any : ∀ a o, H a = some o → ∃ o', upd H p (.lst ws) a = some o' := fun a o e => by
    by_cases hp : a = p
    · subst hp; exact ⟨_, upd_same⟩
    · exact ⟨o, by rw [upd_ne hp]; exact e⟩
  have f : Frm (fun a => a = p) g H g (upd H p (.lst ws)) :=
    ⟨fun a o e _ n => by rw [upd_ne n]; exact e, fun _ h => h, fun _ _ h => h, fun _ _ _ _ h => h, fun _ _ _ h => h, tups, any⟩
  refine ⟨⟨R.len, fun i sv e => ?_, R.sep, fun a t z => ?_, fun a z => ?_, ?_, R.fresh, R.bs⟩, f⟩
  · obtain ⟨v, e1, r⟩ := R.slot i sv e
    refine ⟨v, e1, r.frm f (fun a z => ⟨(R.fzow a z).1, fun q => ?_⟩) fun xs a e2 e3 q => ?_⟩
    · have q : a = p := q
      subst q; exact n1 z
    · have q : a = p := q
      subst q; subst e2; subst e3
      exact n3 ⟨i, xs, e, e1⟩
  · obtain ⟨o, e, q⟩ := R.zok a t z
    refine ⟨o, ?_, q⟩
    rw [upd_ne (fun e => by subst e; rw [n2] at z; cases z)]
    exact e
  · obtain ⟨⟨o, e⟩, q⟩ := R.fzok a z
    exact ⟨any a o e, q⟩
  · have nb : ∀ a o, B.1 a = some o → a ≠ p := fun a o e z => by subst z; rw [hb] at e; cases e
    refine ⟨fun a o e z n => ?_, R.base.fzm, R.base.zsm, R.base.fzn, R.base.zsn, fun a xs q => tups a xs (R.base.tups a xs q), fun a o e => ?_⟩
    · rw [upd_ne (nb a o e)]; exact R.base.keep a o e z n
    · obtain ⟨o', e'⟩ := R.base.any a o e
      exact any a o' e'
end

/-! ### targets of a comprehension: names of its own -/
def tGN (K : KW) (ZP : ZT) (vs : List Nat) (t : TGD) : TG := fun v σ H Q => ∃ B cs g sv, Rel K ZP B g H cs σ ∧ RS K g H sv v ∧ settled sv = true ∧ ∃ Q', t sv cs Q' ∧
  ∀ cs' σ', Q' cs' → Rel K ZP B g H cs' σ' → L2.wipe σ' vs = L2.wipe σ vs → (∀ a, ow cs' σ' a → ow cs σ a) → Q σ' H
structure DGN (X : Cx) (ZP : ZT) (vs : List Nat) (tg : Expr) (t : TGD) : Prop where
  pg : PG X tg (tGN X.kw ZP vs t)
structure DGNs (X : Cx) (ZP : ZT) (vs : List Nat) (ts : List Expr) (t : List PyData → CS → (CS → Prop) → Prop) : Prop where
  pgs : PGs X ts fun ws σ H Q => ∃ B cs g ds, Rel X.kw ZP B g H cs σ ∧ RpAll X.kw H g.fz ds ws ∧ ∃ Q', t ds cs Q' ∧ ∀ cs' σ', Q' cs' → Rel X.kw ZP B g H cs' σ' → L2.wipe σ' vs = L2.wipe σ vs → (∀ a, ow cs' σ' a → ow cs σ a) → Q σ' H
section
variable {X : Cx} {ZP : ZT} {vs : List Nat} {pos : Pos}
theorem ow_store {cs : CS} {σ : L2.St} {i : Nat} {sv : SV} {v : V} (hs : settled sv = true) (hl : cs.length = σ.length) : ∀ a, ow (cs.set i (some sv)) (σ.set i (some v)) a → ow cs σ a := fun a ⟨j, xs, e1, e2⟩ => by
  by_cases hj : j = i
  · subst hj
    by_cases hi : j < cs.length
    · rw [List.getElem?_set_self hi] at e1
      cases e1; cases hs
    · rw [List.getElem?_eq_none (by rw [List.length_set]; omega)] at e1; cases e1
  · rw [List.getElem?_set_ne (Ne.symm hj)] at e1 e2
    exact ⟨j, xs, e1, e2⟩
theorem dgn_name {i : Nat} {x : Str} (hv : i ∈ vs) (hN : X.N.Nodup) (hi : X.N[i]? = some x) (hx : Loc X.env.scope x) (hf : X.fn x = true ∨ X.env.scope.names.lookup x = some .local := by first | exact .inl rfl | exact .inr rfl | assumption) : DGN X ZP vs (.Name x pos) (g_name i) := by
  refine ⟨PG.imp (pg_name hN hi hx hf) ?_⟩
  rintro v σ H Q ⟨B, cs, g, sv, R, r, n, Q', ⟨hl, q⟩, k⟩
  refine k _ _ q (R.store hl r fun xs a e _ => ?_) (wipe_set_in hv) (ow_store n R.len)
  rw [e] at n; cases n
theorem dgns_nil : DGNs X ZP vs [] g_nil := by
  refine ⟨PGs.imp pgs_nil ?_⟩
  rintro ws σ H Q ⟨B, cs, g, ds, R, r, Q', ⟨rfl, q⟩, k⟩
  cases r
  exact ⟨rfl, k _ _ q R rfl fun _ h => h⟩
theorem dgns_cons {e : Expr} {es : List Expr} {t : TGD} {u : List PyData → CS → (CS → Prop) → Prop} (h : DGN X ZP vs e t) (h2 : DGNs X ZP vs es u)
    (hs : (assignEach (e :: es) X.env).map (·.2) = assign e X.env :: (assignEach es X.env).map (·.2) := by rfl) : DGNs X ZP vs (e :: es) (g_cons t u) := by
  refine ⟨PGs.imp (pgs_cons h.pg h2.pgs hs) ?_⟩
  rintro ws σ H Q ⟨B, cs, g, ds, R, r, Q', q, k⟩
  cases r with
  | nil => exact q.elim
  | @cons v ws d ds r1 r2 =>
    refine ⟨v, ws, rfl, B, cs, g, .dat d, R, r1, rfl, _, q, fun cs1 σ1 q1 R1 w1 s1 => ?_⟩
    exact ⟨B, cs1, g, ds, R1, r2, Q', q1, fun cs' σ' q' R' w' s' => k cs' σ' q' R' (w'.trans w1) fun a h => s1 a (s' a h)⟩
theorem dgn_tup {es : List Expr} {k : Nat} {t : List PyData → CS → (CS → Prop) → Prop} {n : Nat} (hc : X.calm = true) (h : DGNs X ZP vs es t)
    (hn : (assignEach es X.env).length = n := by rfl) (hst : (assignEach es X.env).findIdx? (·.1) = none := by rfl) : DGN X ZP vs (.Tuple es k pos) (g_tup n t) := by
  refine ⟨PG.imp (PG.or (pg_tup hc h.pgs hn hst) (pg_unl hc h.pgs hn hst)) ?_⟩
  rintro v σ H Q ⟨B, cs, g, sv, R, r, n, Q', q, k⟩
  cases sv with
  | dat d =>
    cases d with
    | tuple ds =>
      obtain ⟨a, xs, rfl, hq, ra⟩ := (Rp.rb r).tup
      exact .inl ⟨a, xs, rfl, SqT.of hq, by rw [← ra.length]; exact q.1, B, cs, g, ds, R, ra, Q', q.2, k⟩
    | _ => exact q.elim
  | obj o =>
    cases o with
    | dct _ => exact q.elim
    | gdc _ => exact q.elim
    | lst ds =>
    obtain ⟨a, vs, rfl, h, _, _, ra⟩ := r
    exact .inr ⟨a, vs, rfl, .inl (.inl h), by rw [← ra.length]; exact q.1, B, cs, g, ds, R, ra, Q', q.2, k⟩
  | _ => exact q.elim
end
/-- the tests -/
structure DTs (X : Cx) (ZP : ZT) (ifs : List Expr) (t : TTD) : Prop where
  pts : PTs X ifs (tT X.kw ZP t)
def t_yes : TTD := fun cs Q => Q true cs
theorem PTs.imp {X : Cx} {ifs : List Expr} {t t' : TT} (h : PTs X ifs t) (m : ∀ σ H Q, t' σ H Q → t σ H Q) : PTs X ifs t' := ⟨fun pins s σ H Q I q => h.run pins s σ H Q I (m _ _ _ q)⟩
theorem dts_nil {X : Cx} {ZP : ZT} : DTs X ZP [] t_yes := ⟨PTs.imp pts_nil fun σ H Q ⟨B, cs, g, R, Q', q, k⟩ => k true cs g H q R (fun _ h => h) .refl⟩
theorem dts_one {X : Cx} {ZP : ZT} {c : Expr} {t : TTD} (h : DT X ZP c t) : DTs X ZP [c] t := ⟨pts_one h.pt⟩

/-! ### the comprehension -/
def lcD (vs : List Nat) (gt : TGD) (tt : TTD) (te : TVD) (Q : List PyData → CS → Prop) : List PyData → List PyData → CS → Prop
  | [], acc, cs => Q acc cs
  | d :: ds, acc, cs => gt (.dat d) cs fun cs1 => tt cs1 fun b cs2 => if b = true then te cs2 fun y cs3 => acc.length < sizeLine ∧ lcD vs gt tt te Q ds (acc ++ [y]) (wipeC cs3 vs) else lcD vs gt tt te Q ds acc (wipeC cs2 vs)
def t_lc (vs : List Nat) (ti : TID) (gt : TGD) (tt : TTD) (te : TVD) : TD := fun cs Q => ti cs fun ds cs1 => lcD vs gt tt te (fun acc csb => Q (.own acc) (restC vs cs1 csb)) ds [] (wipeC cs1 vs)
section
variable {X : Cx} {ZP : ZT} {elt tg iter : Expr} {ifs : List Expr} {scope : Scope} {own : List (Str × Nat)} {pos : Pos} {ti : TID} {gt : TGD} {tt : TTD} {te : TVD} {vs : List Nat}
theorem lc_core' {K : KW} {σ : L2.St} {H : Hp} {Q : VK} (h : tD K ZP (t_lc vs ti gt tt te) σ H Q) : tLc (tI K ZP ti) (tGN K ZP vs gt) (tT K ZP tt) (tV K ZP te) vs σ H Q := by
  obtain ⟨B, cs, g, R, Q', q, k⟩ := h
  refine ⟨B, cs, g, R, _, q, fun ds cs1 J g1 H1 q1 R1 wk s1 f1 => ?_⟩
  intro D hD
  have hB : B.1 D = none := R1.bnone hD
  refine ⟨fun i m H => m + i = ds.length ∧ ∃ csb g acc vacc, Rel K ZP B g H csb (L2.wipe σ vs) ∧ Frm (ow (wipeC cs1 vs) (L2.wipe σ vs)) g1 H1 g H ∧ (∀ a, ow csb (L2.wipe σ vs) a → ow (wipeC cs1 vs) (L2.wipe σ vs) a) ∧
    H D = some (.lst vacc) ∧ RpAll K H g.fz acc vacc ∧ ¬ g.fz D ∧ g.zs D = none ∧ lcD vs gt tt te (fun acc csb => Q' (.own acc) (restC vs cs1 csb)) (ds.drop i) acc csb, ⟨ds.length, rfl, wipeC cs1 vs, g1, [], [], (R1.laid hD).wipe vs, .laid hD, fun _ h => h, upd_same, .nil, (R1.nofz hD).1, (R1.nofz hD).2, q1⟩, ?_⟩
  rintro i m H2 ⟨hm, csb, g2, acc, vacc, R2, f2, s2, hD2, ra, n1, n2, q2⟩
  have st2 : Stay g1 H1 g2 H2 := f2.stay fun a h => ⟨(R1.fzow a h).1, fun z => (R1.fzow a h).2 (ow_wipe z)⟩
  have nD : ∀ {cs : CS} {σ' : L2.St}, (∀ a, ow cs σ' a → ow csb (L2.wipe σ vs) a) → ¬ ow cs σ' D := fun hs z => by
    have z2 := ow_wipe (s2 D (hs D z))
    obtain ⟨ws, e⟩ := R1.owsome z2
    rw [hD] at e; cases e
  obtain ⟨w1, w2⟩ := wk g2 H2 st2
  by_cases hlt : i < ds.length
  · have e1 : ds[i]? = some ds[i] := List.getElem?_eq_getElem hlt
    obtain ⟨go, hy⟩ := w1 i _ e1
    rw [List.drop_eq_getElem_cons hlt] at q2
    refine .inr ⟨go, fun H' => ∃ csb g acc vacc, Rel K ZP B g H' csb (L2.wipe σ vs) ∧ Frm (ow (wipeC cs1 vs) (L2.wipe σ vs)) g1 H1 g H' ∧ (∀ a, ow csb (L2.wipe σ vs) a → ow (wipeC cs1 vs) (L2.wipe σ vs) a) ∧
      H' D = some (.lst vacc) ∧ RpAll K H' g.fz acc vacc ∧ ¬ g.fz D ∧ g.zs D = none ∧ lcD vs gt tt te (fun acc csb => Q' (.own acc) (restC vs cs1 csb)) (ds.drop (i + 1)) acc csb, fun H' z => ⟨m - 1, by omega, by omega, z⟩, fun x H3 y => ?_⟩
    obtain ⟨R3, r3, t3, f3⟩ := (hy x H3 y).fin R2
    refine ⟨B, csb, g2, _, R3, r3, rfl, _, q2, fun cs4 σ4 q4 R4 we4 s4 => ?_⟩
    rw [wipe_idem] at we4
    refine ⟨we4, B, cs4, g2, R4, _, q4, fun b cs5 g5 H5 q5 R5 s5 f5 => ?_⟩
    have f35 : Frm (ow csb (L2.wipe σ vs)) g2 H2 g5 H5 := f3.trans (f5.mono fun a _ _ h => s4 a h)
    have nDb := nD (cs := csb) (σ' := L2.wipe σ vs) fun _ h => h
    -- the new list and what it holds, behind a step
    have keepD : ∀ {g' : GW} {H' : Hp}, Frm (ow csb (L2.wipe σ vs)) g2 H2 g' H' → H' D = some (.lst vacc) ∧ RpAll K H' g'.fz acc vacc ∧ ¬ g'.fz D ∧ g'.zs D = none := fun {g' H'} f =>
      ⟨f.keep D _ hD2 n2 nDb, ra.frm f R2.fzow, fun z => n1 (f.fzn D _ hD2 nDb z), f.zsn D _ hD2 n2⟩
    have wipeOk : ∀ {cs' : CS} {g' : GW} {H' : Hp}, Rel K ZP B g' H' cs' σ4 → Rel K ZP B g' H' (wipeC cs' vs) (L2.wipe σ vs) := fun {cs' g' H'} R' => by
      have := R'.wipe vs
      rw [we4] at this
      exact this
    have owOk : ∀ {cs' : CS}, (∀ a, ow cs' σ4 a → ow cs4 σ4 a) → ∀ a, ow (wipeC cs' vs) (L2.wipe σ vs) a → ow (wipeC cs1 vs) (L2.wipe σ vs) a := fun {cs'} hs a h => by
      rw [← we4] at h
      exact s2 a (s4 a (hs a (ow_wipe h)))
    cases b with
    | false =>
      rw [if_neg Bool.false_ne_true] at q5
      refine iteF ?_
      obtain ⟨k1, k2, k3, k4⟩ := keepD f35
      exact ⟨_, g5, acc, vacc, wipeOk R5, f2.trans (f35.mono fun a _ _ h => s2 a h), owOk s5, k1, k2, k3, k4, q5⟩
    | true =>
      rw [if_pos rfl] at q5
      refine iteT ?_
      refine ⟨B, cs5, g5, R5, _, q5, fun d cs6 v g6 H6 q6 R6 r6 s6 f6 => ?_⟩
      have f36 : Frm (ow csb (L2.wipe σ vs)) g2 H2 g6 H6 := f35.trans (f6.mono fun a _ _ h => s4 a (s5 a h))
      obtain ⟨k1, k2, k3, k4⟩ := keepD f36
      refine ⟨vacc, k1, by rw [← k2.length]; exact q6.1, ?_⟩
      have nD6 := nD (cs := cs6) (σ' := σ4) fun a h => s4 a (s5 a (s6 a h))
      obtain ⟨R7, f7⟩ := R6.updTmp (ws := vacc ++ [v]) k1 k3 k4 nD6 hB
      have hne : ∀ a, g6.fz a → g6.zs a = none ∧ ¬ a = D := fun a h => ⟨(R6.fzow a h).1, fun z => by subst z; exact k3 h⟩
      refine ⟨_, g6, acc ++ [d], vacc ++ [v], wipeOk R7, ?_, owOk fun a h => s5 a (s6 a h), upd_same, (k2.frm f7 hne).append (.cons (Rp.frm f7 hne r6) .nil), k3, k4, q6.2⟩
      have ff : Frm (ow (wipeC cs1 vs) (L2.wipe σ vs)) g1 H1 g6 H6 := f2.trans (f36.mono fun a _ _ h => s2 a h)
      refine ⟨fun a o e z n => ?_, ff.fzm, ff.zsm, ff.fzn, ff.zsn, fun a xs q => f7.tups a xs (ff.tups a xs q), fun a o e => ?_⟩
      · rw [upd_ne (fun z => by subst z; rw [hD] at e; cases e)]
        exact ff.keep a o e z n
      · obtain ⟨o', e'⟩ := ff.any a o e
        exact f7.any a o' e'
  · have e : i = ds.length := by omega
    subst e
    rw [List.drop_length] at q2
    refine .inl ⟨w2, ?_⟩
    obtain ⟨R3, sub⟩ := R1.rest R2 f2 s2
    have fo : Frm (ow cs1 σ) g1 H1 g2 H2 := f2.mono fun a _ _ h => ow_wipe h
    refine k (.own acc) _ (.ref D) g2 H2 q2 R3 ⟨D, vacc, rfl, hD2, n1, n2, ra⟩ (Tmp.back f1 (fun xs a e1 e2 => ?_)) (fun a h => s1 a (sub a h)) (f1.trans (fo.mono fun a _ _ h => s1 a h))
    cases e2
    refine ⟨fun z => ?_, hD⟩
    obtain ⟨ws, e⟩ := R1.owsome (sub D z)
    rw [hD] at e; cases e
theorem de_lc (hc : X.calm = true) (hN : X.N.Nodup) (hi : DI X ZP tg iter ti) (ok : BlkOk X.N X.env.scope scope own) (hvs : own.map (·.2) = vs)
    (hg : ∀ (s : Shared) (H : Hp) (C : Addr) (cl : List (Str × Addr)) (fp : List Addr), DGN (X.blk s H scope (compEnvC scope cl C X.env) fp) ZP vs tg gt) (ht : ∀ (s : Shared) (H : Hp) (C : Addr) (cl : List (Str × Addr)) (fp : List Addr), DTs (X.blk s H scope (compEnvC scope cl C X.env) fp) ZP ifs tt)
    (he : ∀ (s : Shared) (H : Hp) (C : Addr) (cl : List (Str × Addr)) (fp : List Addr), DV (X.blk s H scope (compEnvC scope cl C X.env) fp) ZP elt te) (hs : ∀ x, foldedSetIterable iter X.env x = pure x := by intro _; rfl) :
    DE X ZP (.ListComp elt [⟨tg, iter, ifs, 0⟩] scope pos) (t_lc vs ti gt tt te) := by
  subst hvs
  exact ⟨PE.imp (pe_lc hc hN hi.pi ok (fun s H C cl fp => (hg s H C cl fp).pg) (fun s H C cl fp => (ht s H C cl fp).pts) (fun s H C cl fp => (he s H C cl fp).pe) hs) fun σ H Q h => lc_core' h⟩
/-- name = [..] on one line -/
theorem ds_setLc {i : Nat} {y : Str} {py : Pos} {spos : Pos} (hc : X.calm = true) (hN : X.N.Nodup) (hy : X.N[i]? = some y) (hyl : X.env.scope.names.lookup y = some .local)
    (hsw : swapsWith (.ListComp elt [⟨tg, iter, ifs, 0⟩] scope pos) (some (.Name y py)) spos.line X.env = pure true) (hi : DI X ZP tg iter ti) (ok : BlkOk X.N X.env.scope scope own) (hvs : own.map (·.2) = vs)
    (hg : ∀ (s : Shared) (H : Hp) (C : Addr) (cl : List (Str × Addr)) (fp : List Addr), DGN (X.blk s H scope (compEnvC scope cl C X.env) fp) ZP vs tg gt) (ht : ∀ (s : Shared) (H : Hp) (C : Addr) (cl : List (Str × Addr)) (fp : List Addr), DTs (X.blk s H scope (compEnvC scope cl C X.env) fp) ZP ifs tt)
    (he : ∀ (s : Shared) (H : Hp) (C : Addr) (cl : List (Str × Addr)) (fp : List Addr), DV (X.blk s H scope (compEnvC scope cl C X.env) fp) ZP elt te) (hs : ∀ x, foldedSetIterable iter X.env x = pure x := by intro _; rfl) :
    DS X ZP (.Assign [.Name y py] (.ListComp elt [⟨tg, iter, ifs, 0⟩] scope pos) spos) (t_asg (t_lc vs ti gt tt te) (g_name i)) := by
  subst hvs
  refine ⟨PS.imp (ps_setLc (i := i) (wi := tI X.kw ZP ti) (g := tGN X.kw ZP (own.map (·.2)) gt) (tt := tT X.kw ZP tt) (te := tV X.kw ZP te) hc hN hy hyl hsw hi.pi ok (fun s H C cl fp => (hg s H C cl fp).pg) (fun s H C cl fp => (ht s H C cl fp).pts) (fun s H C cl fp => (he s H C cl fp).pe) hs) ?_⟩
  rintro D σ H ⟨B, cs, g, R, D', q, p⟩
  refine lc_core' (ZP := ZP) ⟨B, cs, g, R, _, q, fun sv cs1 v g1 H1 q1 R1 r1 t1 s1 f1 => ?_⟩
  exact p.nx _ _ g1 H1 (R1.store q1.1 r1 fun xs a e1 e2 => ⟨(t1 xs a e1 e2).1, R.bnone (t1 xs a e1 e2).2⟩) (f1.stay R.fzow) q1.2
end
end Cl

namespace Cl
open PySem PySem.Spec PyProof.Rows L2

/-! ### a def -/
def initC (N : List Str) (svs : List SV) : CS := svs.map some ++ List.replicate (N.length - svs.length) none
def runD (t : TSD) (N : List Str) (n : Nat) : TF := fun svs Q => svs.length = n ∧ t { nx := fun _ => Q (.dat .none), rt := Q } (initC N svs)
section
variable {P : Program} {w : World} {K : KW} {mg : Str → Option Value} {base : Heap} {ZP : ZT}
theorem GOk.rel {g : GW} {H : Hp} {N : List Str} {svs : List SV} {vs : List V} (G : GOk ZP.zp g H) (hb : ZP.bs (H, g)) (r : RSs K g H svs vs) (st : ∀ sv ∈ svs, settled sv = true) : Rel K ZP (H, g) g H (initC N svs) (L2.start N vs) := by
  have hl := Paired.length r
  have get : ∀ (i : Nat) (sv : SV), (initC N svs)[i]? = some (some sv) → svs[i]? = some sv := fun i sv e => by
    unfold initC at e
    by_cases hi : i < svs.length
    · rw [List.getElem?_append_left (by simpa using hi), List.getElem?_map] at e
      cases e1 : svs[i]? with
      | none => rw [e1] at e; cases e
      | some x => rw [e1] at e; cases e; rfl
    · rw [List.getElem?_append_right (by simpa using hi), List.getElem?_replicate] at e
      split at e <;> cases e
  have noOwn : ∀ (i : Nat) (xs : OwnC), (initC N svs)[i]? ≠ some (some (.obj xs)) := fun i xs e => by
    have := st _ (List.mem_of_getElem? (get i _ e))
    cases this
  have pget : ∀ {svs : List SV} {vs : List V} {i : Nat} {sv : SV}, RSs K g H svs vs → svs[i]? = some sv → ∃ v, vs[i]? = some v ∧ RS K g H sv v := by
    intro svs vs i sv r
    induction r generalizing i with
    | nil => intro e; simp at e
    | cons r t ih =>
      intro e
      cases i with
      | zero => simp at e; subst e; exact ⟨_, rfl, r⟩
      | succ i => obtain ⟨v, h1, h2⟩ := ih (by simpa using e); exact ⟨v, by simpa using h1, h2⟩
  refine ⟨?_, fun i sv e => ?_, fun i j xs ys a e => absurd e (noOwn i xs), G.zok, G.fzok, .refl, fun a ⟨i, xs, e, _⟩ => absurd e (noOwn i xs), hb⟩
  · unfold initC L2.start
    simp [hl]
  · obtain ⟨v, e1, r1⟩ := pget r (get i sv e)
    refine ⟨v, ?_, r1⟩
    have hi : i < vs.length := (List.getElem?_eq_some_iff.mp e1).1
    unfold L2.start
    rw [List.getElem?_append_left (by simpa using hi), List.getElem?_map, e1]
    rfl
theorem fnD {K : PySem.W.Frag} {zp : ZF} {x qual : Str} {st : Stmt} {f : Addr} {fd : FuncData} {N ps : List Str} {k : Nat} {t : TSD} (F : Fun K x qual st f fd) (S : FnScope N ps (defScope st))
    (bod : ∀ (cdv : Value) (A : Around) (outer : List Env) (s : Shared) (H : Hp) (E : XK), A.guards = some [] → Room k (A.deeper (envOfC qual (defScope st) s.heap.objs.size f cdv)) →
      DSs (cxOf CX0 P w K mg base N qual (defScope st) f cdv A outer s H E).nox ⟨zp, fun _ => True⟩ (defBody st) t) :
    FnG P w K mg base CX0 (k + 1) f fd ps (spD ⟨K, w⟩ zp ps.length (runD t N ps.length)) := by
  refine funG F S (fun vs H Q E h => h.1) fun cdv A outer s H vs Q E hg hr h => ?_
  refine ⟨_, (bod cdv A outer s H E hg hr).pss, ?_⟩
  obtain ⟨hl, svs, g, r, st, G, Q', ⟨_, q⟩, k⟩ := h
  refine ⟨(H, g), initC N svs, g, G.rel (ZP := ⟨zp, fun _ => True⟩) True.intro r st, _, q, ⟨fun cs' σ' g' H' R' s' q' => ?_, fun _ _ _ _ _ _ z => z.elim, fun _ _ _ _ _ _ z => z.elim, fun sv v cs' σ' g' H' R' s' r' t' q' => ?_⟩⟩
  · exact k _ .non g' H' q' ⟨R'.zok, R'.fzok⟩ .non (fun _ _ e => by cases e) R'.base
  · exact k sv v g' H' q' ⟨R'.zok, R'.fzok⟩ r' t' R'.base
end

/-! ### a slot's own list is changed -/
section
variable {K : KW} {ZP : ZT} {B : Bs} {g : GW} {H : Hp} {cs : CS} {σ : L2.St}
theorem Rel.updOwn {i : Nat} {xs ys : List PyData} {a : Addr} {ws : List V} (R : Rel K ZP B g H cs σ) (e1 : cs[i]? = some (some (.own xs))) (e2 : σ[i]? = some (some (.ref a))) (r : RpAll K H g.fz ys ws) :
    Rel K ZP B g (upd H a (.lst ws)) (cs.set i (some (.own ys))) σ ∧ Frm (ow cs σ) g H g (upd H a (.lst ws)) ∧ (∀ b, ow (cs.set i (some (.own ys))) σ b → ow cs σ b) := by
  obtain ⟨v, e3, b, vs, e, h, n1, n2, q⟩ := R.slot i _ e1
  rw [e2] at e3; cases e3
  cases e
  have hi : i < cs.length := (List.getElem?_eq_some_iff.mp e1).1
  have hb : B.1 a = none := R.fresh a ⟨i, _, e1, e2⟩
  have tups : ∀ c zs, H c = some (.tup zs) → (upd H a (.lst ws)) c = some (.tup zs) := fun c zs q => by
    have hne : c ≠ a := fun e => by
      subst e
      (rw [h] at q; cases q)
    rw [upd_ne hne]; exact q
  have any : ∀ c o, H c = some o → ∃ o', upd H a (.lst ws) c = some o' := fun c o e => by
    by_cases hp : c = a
    · subst hp; exact ⟨_, upd_same⟩
    · exact ⟨o, by rw [upd_ne hp]; exact e⟩
  have f : Frm (fun c => c = a) g H g (upd H a (.lst ws)) :=
    ⟨fun c o e _ n => by rw [upd_ne n]; exact e, fun _ h => h, fun _ _ h => h, fun _ _ _ _ h => h, fun _ _ _ h => h, tups, any⟩
  have hfz : ∀ c, g.fz c → g.zs c = none ∧ ¬ c = a := fun c z => ⟨(R.fzow c z).1, fun q => by subst q; exact n1 z⟩
  have hset : ∀ (j : Nat) (sv : SV), (cs.set i (some (.own ys)))[j]? = some (some sv) → (j = i ∧ sv = .own ys) ∨ (j ≠ i ∧ cs[j]? = some (some sv)) := fun j sv e => by
    by_cases hj : j = i
    · subst hj
      rw [List.getElem?_set_self hi] at e
      cases e; exact .inl ⟨rfl, rfl⟩
    · rw [List.getElem?_set_ne (Ne.symm hj)] at e
      exact .inr ⟨hj, e⟩
  have own2 : ∀ (j : Nat) (zs : OwnC), (cs.set i (some (.own ys)))[j]? = some (some (.obj zs)) → ∃ zs', cs[j]? = some (some (.obj zs')) := fun j zs e => by
    rcases hset j _ e with ⟨rfl, _⟩ | ⟨_, e⟩
    · exact ⟨_, e1⟩
    · exact ⟨zs, e⟩
  have sub : ∀ c, ow (cs.set i (some (.own ys))) σ c → ow cs σ c := fun c ⟨j, zs, h1, h2⟩ => by
    obtain ⟨zs', h3⟩ := own2 j zs h1
    exact ⟨j, zs', h3, h2⟩
  refine ⟨⟨by rw [List.length_set]; exact R.len, fun j sv e => ?_, fun j k zs us c h1 h2 h3 h4 => ?_, fun c t z => ?_, fun c z => ?_, ?_, fun c z => R.fresh c (sub c z), R.bs⟩, f.mono fun c o _ z => by
      have z : c = a := z
      subst z; exact ⟨i, _, e1, e2⟩, sub⟩
  · rcases hset j sv e with ⟨rfl, rfl⟩ | ⟨hj, e⟩
    · exact ⟨_, e2, a, ws, rfl, upd_same, n1, n2, r.frm f hfz⟩
    · obtain ⟨v, e3, r1⟩ := R.slot j sv e
      refine ⟨v, e3, r1.frm f hfz fun zs c e4 e5 q => ?_⟩
      have q : c = a := q
      subst q; subst e4; subst e5
      exact hj (R.sep j i zs _ c e e1 e3 e2)
  · obtain ⟨zs', h5⟩ := own2 j zs h1
    obtain ⟨us', h6⟩ := own2 k us h2
    exact R.sep j k zs' us' c h5 h6 h3 h4
  · obtain ⟨o, e, q⟩ := R.zok c t z
    refine ⟨o, ?_, q⟩
    rw [upd_ne (fun e => by subst e; rw [n2] at z; cases z)]
    exact e
  · obtain ⟨⟨o, e⟩, q⟩ := R.fzok c z
    exact ⟨any c o e, q⟩
  · have nb : ∀ c o, B.1 c = some o → c ≠ a := fun c o e z => by subst z; rw [hb] at e; cases e
    refine ⟨fun c o e z n => ?_, R.base.fzm, R.base.zsm, R.base.fzn, R.base.zsn, fun c zs q => tups c zs (R.base.tups c zs q), fun c o e => ?_⟩
    · rw [upd_ne (nb c o e)]; exact R.base.keep c o e z n
    · obtain ⟨o', e'⟩ := R.base.any c o e
      exact any c o' e'
end

/-! ### methods of a slot's list -/
section
variable {X : Cx} {ZP : ZT} {e : Expr} {x : Str} {xpos apos cpos pos : Pos} {i : Nat} {te : TVD}
def t_append (i : Nat) (te : TVD) : TVD := fun cs Q => (∃ xs, cs[i]? = some (some (.own xs))) ∧ te cs fun d cs1 => match cs1[i]? with
  | some (some (.obj (.lst xs))) => xs.length < sizeLine ∧ Q .none (cs1.set i (some (.own (xs ++ [d]))))
  | _ => False
theorem ty_own {K : KW} {B : Bs} {g : GW} {H : Hp} {cs : CS} {σ : L2.St} {xs : List PyData} {v : V} (R : Rel K ZP B g H cs σ) (e1 : cs[i]? = some (some (.own xs))) (e2 : σ[i]? = some (some v)) : tyV K "list" v H ∧ ∃ a vs, v = .ref a ∧ H a = some (.lst vs) ∧ RpAll K H g.fz xs vs := by
  obtain ⟨w, e3, a, vs, rfl, h, _, _, q⟩ := R.slot i _ e1
  rw [e2] at e3; cases e3
  exact ⟨.inl ⟨rfl, vs, SqL.of h⟩, a, vs, rfl, h, q⟩
theorem dv_append (hN : X.N[i]? = some x) (hv : Vis X.env.scope x) (h : DV X ZP e te) (hd : (x == ("__debug__" : Str)) = false := by decide) (hcd : (x == ("__classdict__" : Str)) = false := by decide)
    (hst : starEach [e] X.env = (false, eval e X.env) :: starEach [] X.env := by rfl) (hbase : attributeBase (.Name x xpos) "append" X.env (eval (.Name x xpos) X.env) = eval (.Name x xpos) X.env := by rfl) (hfew : ((backTo cpos (starEach [e] X.env)).all (fun x => !x.1) && (backToKw cpos (keywordEach [] X.env)).all (fun x => x.1.isSome)
      && decide (([e] : List Expr).length + ([] : List Keyword).length + (if ([] : List Keyword).isEmpty then 0 else 1) < 30)) = true := by rfl) (hline : (apos.endLine == cpos.line) = true := by rfl) :
    DV X ZP (.Call (.Attribute (.Name x xpos) "append" apos) [e] [] cpos) (t_append i te) := by
  refine ⟨PE.imp (pe_bm PySem.F.plainAttrs_list PySem.F.slot_list_append PySem.F.type_list_append mt_append (pe_var hN hv hd hcd) (pa_cons h.pe pa_nil hst) hbase hfew hline hst rfl) ?_⟩
  rintro σ H Q ⟨B, cs, g, R, Q', ⟨⟨xs, e1⟩, q⟩, k⟩
  obtain ⟨v, e2, _⟩ := R.slot i _ e1
  refine ⟨v, e2, (ty_own R e1 e2).1, B, cs, g, R, _, q, fun d cs1 u g1 H1 q1 R1 r1 s1 f1 => ?_⟩
  cases e3 : cs1[i]? with
  | none => rw [e3] at q1; exact q1.elim
  | some osv =>
    rw [e3] at q1
    match osv, e3, q1 with
    | some (.obj (.lst ys)), e3, q1 =>
      obtain ⟨_, a, vs, rfl, ha, ra⟩ := ty_own R1 e3 e2
      refine ⟨a, vs, u, rfl, rfl, ha, by rw [← ra.length]; exact q1.1, ?_⟩
      obtain ⟨R2, f2, s2⟩ := R1.updOwn e3 e2 (ra.append (.cons r1 .nil))
      exact k _ _ .non g1 _ q1.2 R2 .non (fun b h => s1 b (s2 b h)) (f1.trans (f2.mono fun b _ _ h => s1 b h))
def t_extend (i : Nat) (te : TVD) : TVD := fun cs Q => (∃ xs, cs[i]? = some (some (.own xs))) ∧ te cs fun d cs1 => match cs1[i]?, d with
  | some (some (.obj (.lst xs))), .list ds => xs.length + ds.length ≤ sizeLine ∧ Q .none (cs1.set i (some (.own (xs ++ ds))))
  | _, _ => False
theorem dv_extend (hN : X.N[i]? = some x) (hv : Vis X.env.scope x) (h : DV X ZP e te) (hd : (x == ("__debug__" : Str)) = false := by decide) (hcd : (x == ("__classdict__" : Str)) = false := by decide)
    (hst : starEach [e] X.env = (false, eval e X.env) :: starEach [] X.env := by rfl) (hbase : attributeBase (.Name x xpos) "extend" X.env (eval (.Name x xpos) X.env) = eval (.Name x xpos) X.env := by rfl) (hfew : ((backTo cpos (starEach [e] X.env)).all (fun x => !x.1) && (backToKw cpos (keywordEach [] X.env)).all (fun x => x.1.isSome)
      && decide (([e] : List Expr).length + ([] : List Keyword).length + (if ([] : List Keyword).isEmpty then 0 else 1) < 30)) = true := by rfl) (hline : (apos.endLine == cpos.line) = true := by rfl) :
    DV X ZP (.Call (.Attribute (.Name x xpos) "extend" apos) [e] [] cpos) (t_extend i te) := by
  refine ⟨PE.imp (pe_bm PySem.F.plainAttrs_list PySem.F.slot_list_extend PySem.F.type_list_extend mt_extend (pe_var hN hv hd hcd) (pa_cons h.pe pa_nil hst) hbase hfew hline hst rfl) ?_⟩
  rintro σ H Q ⟨B, cs, g, R, Q', ⟨⟨xs, e1⟩, q⟩, k⟩
  obtain ⟨v, e2, _⟩ := R.slot i _ e1
  refine ⟨v, e2, (ty_own R e1 e2).1, B, cs, g, R, _, q, fun d cs1 u g1 H1 q1 R1 r1 s1 f1 => ?_⟩
  cases e3 : cs1[i]? with
  | none => rw [e3] at q1; exact q1.elim
  | some osv =>
    rw [e3] at q1
    match osv, d, e3, q1, r1 with
    | some (.obj (.lst ys)), .list ds, e3, q1, r1 =>
      obtain ⟨_, a, vs, rfl, ha, ra⟩ := ty_own R1 e3 e2
      cases r1 with
      | @lst b zs _ hf hb rb =>
        refine ⟨a, b, vs, zs, rfl, rfl, ha, hb, by rw [← ra.length, ← rb.length]; exact q1.1, ?_⟩
        obtain ⟨R2, f2, s2⟩ := R1.updOwn e3 e2 (ra.append rb)
        exact k _ _ .non g1 _ q1.2 R2 .non (fun b h => s1 b (s2 b h)) (f1.trans (f2.mono fun b _ _ h => s1 b h))
theorem RpAll.dropLast {K : KW} {H : Hp} {fz : Addr → Prop} {ds : List PyData} {vs : List V} (r : RpAll K H fz ds vs) : RpAll K H fz ds.dropLast vs.dropLast := by
  rw [List.dropLast_eq_take, List.dropLast_eq_take, ← r.length]
  exact r.take _
def t_pop (i : Nat) : TVD := fun cs Q => match cs[i]? with
  | some (some (.obj (.lst xs))) => (match xs.getLast? with
    | some d => Q d (cs.set i (some (.own xs.dropLast)))
    | none => False)
  | _ => False
theorem dv_pop (hN : X.N[i]? = some x) (hv : Vis X.env.scope x) (hd : (x == ("__debug__" : Str)) = false := by decide) (hcd : (x == ("__classdict__" : Str)) = false := by decide)
    (hbase : attributeBase (.Name x xpos) "pop" X.env (eval (.Name x xpos) X.env) = eval (.Name x xpos) X.env := by rfl) (hline : (apos.endLine == cpos.line) = true := by rfl) :
    DV X ZP (.Call (.Attribute (.Name x xpos) "pop" apos) [] [] cpos) (t_pop i) := by
  refine ⟨PE.imp (pe_bm0 PySem.F.plainAttrs_list PySem.F.slot_list_pop PySem.F.type_list_pop mt_pop (pe_var hN hv hd hcd) hbase hline) ?_⟩
  rintro σ H Q ⟨B, cs, g, R, Q', q, k⟩
  unfold t_pop at q
  cases e1 : cs[i]? with
  | none => rw [e1] at q; exact q.elim
  | some osv =>
    rw [e1] at q
    match osv, e1, q with
    | some (.obj (.lst xs)), e1, q =>
      obtain ⟨v, e2, _⟩ := R.slot i _ e1
      obtain ⟨ty, a, vs, rfl, ha, ra⟩ := ty_own R e1 e2
      cases e3 : xs.getLast? with
      | none => simp only [e3] at q
      | some d =>
        simp only [e3] at q
        rw [List.getLast?_eq_getElem?] at e3
        obtain ⟨y, e4, ry⟩ := ra.get' e3
        rw [ra.length] at e4
        refine ⟨_, e2, ty, a, vs, y, rfl, rfl, ha, e4, ?_⟩
        obtain ⟨R2, f2, s2⟩ := R.updOwn e1 e2 ra.dropLast
        exact k _ _ y g _ q R2 (Rp.frm f2 R.fzow ry) s2 f2
end
/-! x[i] = e -/
section
variable {X : Cx} {ZP : ZT} {ie : Expr} {x : Str} {xpos pos : Pos} {i : Nat} {ti : TVD}
def g_setix (i : Nat) (ti : TVD) : TGD := fun sv cs Q => (∃ xs, cs[i]? = some (some (.own xs))) ∧ match sv with
  | .dat d => ti cs fun iv cs1 => (match cs1[i]?, iv with
    | some (some (.obj (.lst xs))), .int k => (match ixN xs.length k with
      | some j => Q (cs1.set i (some (.own (xs.set j d))))
      | none => False)
    | _, _ => False)
  | _ => False
theorem dg_setix (hN : X.N[i]? = some x) (hv : Vis X.env.scope x) (h : DV X ZP ie ti) (hd : (x == ("__debug__" : Str)) = false := by decide) (hcd : (x == ("__classdict__" : Str)) = false := by decide)
    (ha : ∀ v, assign (.Subscript (.Name x xpos) ie pos) X.env v = (do
      let ov ← holding [v] (eval (.Name x xpos) X.env)
      let iv ← holding [v, ov] (eval ie X.env)
      standAt pos
      holding [v, ov, iv] (setItem ov iv v)
      release [v, ov, iv] []) := by intro _; rfl) : DG X ZP (.Subscript (.Name x xpos) ie pos) (g_setix i ti) := by
  refine ⟨PG.imp (pg_sub (pe_var hN hv hd hcd) h.pe set_list ha) ?_⟩
  rintro v σ H Q ⟨B, cs, g, sv, R, r, n, Q', ⟨⟨xs0, e0⟩, q⟩, k⟩
  cases sv with
  | obj _ => exact q.elim
  | raw _ => exact q.elim
  | scr _ => exact q.elim
  | exc _ _ _ _ => exact q.elim
  | dat d =>
    obtain ⟨u, e2, _⟩ := R.slot i _ e0
    refine ⟨u, e2, B, cs, g, R, _, q, fun iv cs1 w g1 H1 q1 R1 r1 s1 f1 => ?_⟩
    cases e3 : cs1[i]? with
    | none => rw [e3] at q1; exact q1.elim
    | some osv =>
      rw [e3] at q1
      match osv, iv, e3, q1, r1 with
      | some (.obj (.lst ys)), .int kk, e3, q1, r1 =>
        obtain ⟨_, a, vs, rfl, ha, ra⟩ := ty_own R1 e3 e2
        cases r1
        cases e4 : ixN ys.length kk with
        | none => simp only [e4] at q1
        | some j =>
          simp only [e4] at q1
          refine ⟨a, vs, kk, j, rfl, rfl, ha, by rw [← ra.length]; exact e4, ?_⟩
          obtain ⟨R2, f2, s2⟩ := R1.updOwn e3 e2 (RpAll.set (Rp.frm f1 R.fzow r) j ra)
          exact k _ σ g1 _ q1 R2 ((f1.stay R.fzow).trans (f2.stay R1.fzow))
end

/-! ### while -/
def t_while (tc : TTD) (tb : TSD) : TSD := fun D cs => ∃ W : Nat → CS → Prop, (∃ m, W m cs) ∧ ∀ m cs, W m cs → tc cs fun b cs1 => if b = true then tb { nx := fun cs' => ∃ m', m' < m ∧ W m' cs', rt := D.rt, bk := D.nx, ct := fun cs' => ∃ m', m' < m ∧ W m' cs' } cs1 else D.nx cs1
section
variable {X : Cx} {ZP : ZT} {c : Expr} {body : List Stmt} {pos : Pos} {tc : TTD} {tb : TSD}
theorem ds_while (hp : PassesOwn (model X.prog X.w) X.A X.env X.xe) (hc : DT X ZP c tc) (hb : DSs X ZP body tb) : DS X ZP (.While c body [] pos) (t_while tc tb) := by
  refine ⟨PS.imp (ps_while hp hc.pt hb.pss) ?_⟩
  rintro D σ H ⟨B, cs, g, R, D', ⟨W, ⟨m0, w0⟩, turn⟩, p⟩
  refine ⟨fun m σ' H' => ∃ cs' g', Rel X.kw ZP B g' H' cs' σ' ∧ Stay g H g' H' ∧ W m cs', ⟨m0, cs, g, R, .refl, w0⟩, ?_⟩
  rintro m σ1 H1 ⟨cs1, g1, R1, st1, w1⟩
  refine ⟨B, cs1, g1, R1, _, turn m cs1 w1, fun b cs2 g2 H2 q2 R2 s2 f2 => ?_⟩
  have st2 : Stay g H g2 H2 := st1.trans (f2.stay R1.fzow)
  cases b with
  | true =>
    rw [if_pos rfl] at q2
    refine iteT ?_
    refine ⟨fun σ' H' => ∃ m', m' < m ∧ ∃ cs' g', Rel X.kw ZP B g' H' cs' σ' ∧ Stay g H g' H' ∧ W m' cs', fun σ' H' ⟨m', h, z⟩ => ⟨m', h, z⟩, ?_⟩
    refine ⟨B, cs2, g2, R2, _, q2, ⟨fun cs' σ' g' H' R' s' ⟨m', h, w'⟩ => ⟨m', h, cs', g', R', st2.trans s', w'⟩, fun cs' σ' g' H' R' s' q' => p.nx cs' σ' g' H' R' (st2.trans s') q',
      fun cs' σ' g' H' R' s' ⟨m', h, w'⟩ => ⟨m', h, cs', g', R', st2.trans s', w'⟩, fun sv v cs' σ' g' H' R' s' r' t' q' => p.rt sv v cs' σ' g' H' R' (st2.trans s') r' t' q'⟩⟩
  | false =>
    rw [if_neg Bool.false_ne_true] at q2
    refine iteF ?_
    exact p.nx cs2 σ1 g2 H2 R2 st2 q2
end

/-! ### calls with keywords -/
section
variable {X : Cx} {ZP : ZT} {k n : Nat} {f : Addr} {fd : FuncData} {ps ks : List Str} {x : Str} {p pos : Pos} {e : Expr} {es : List Expr} {kws : List Keyword} {C : TF} {t tk : TSA}
variable {gg : List Value → List Value → List Value} {gV : List V → List V → List V} {gS : List SV → List SV → List SV}
def t_callK (gS : List SV → List SV → List SV) (m mk : Nat) (C : TF) (t tk : TSA) : TD := fun cs Q => t cs fun svs cs1 => tk cs1 fun zvs cs2 => (svs.length = m ∧ zvs.length = mk) ∧ C (gS svs zvs) fun sv => Q sv cs2
/-- how data goes to the parameters -/
def SRel (gV : List V → List V → List V) (gS : List SV → List SV → List SV) : Prop := ∀ (K : KW) (g : GW) (H : Hp) (svs zvs : List SV) (vs zs : List V), RSs K g H svs vs → RSs K g H zvs zs →
  RSs K g H (gS svs zvs) (gV vs zs) ∧ ((∀ sv ∈ svs, settled sv = true) → (∀ sv ∈ zvs, settled sv = true) → ∀ sv ∈ gS svs zvs, settled sv = true)
theorem de_callK0 (F : FnG X.prog X.w X.kw X.mg X.base CX0 k f fd ps (spD X.kw ZP.zp n C)) (hgd : X.A.guards = some []) (hr : Room k X.A) (hg : Gl X x) (hm : X.mg x = some (.ref f)) (hk : PySem.W.keepIn X.kw (.ref f) = true)
    (hb : KBd X.kw fd ps ks 0 gg) (hrel : KRel gV gg) (hS : SRel gV gS) (hn : ∀ zs : List V, zs.length = ks.length → (gV [] zs).length = n)
    (hkw : DK X ZP kws tk) (hall : (backToKw pos (keywordEach kws X.env)).all (·.1.isSome) = true := by rfl) (hks : (backToKw pos (keywordEach kws X.env)).filterMap (·.1) = ks := by rfl)
    (hdb : (x == ("__debug__" : Str)) = false := by decide)
    (hpl : ((backTo pos (starEach [] X.env)).any (·.1) || (backToKw pos (keywordEach kws X.env)).any (·.1.isNone)) = false := by rfl) :
    DE X ZP (.Call (.Name x p) [] kws pos) (t_callK gS 0 ks.length C t_anil tk) := by
  refine ⟨PE.imp (pe_callGK0 F hgd hr hg hm hk hb hrel pass0 hkw.pk hall hks hdb hpl) ?_⟩
  rintro σ H Q ⟨B, cs, g, R, Q', q, kk⟩
  show tA X.kw ZP tk σ H _
  refine ⟨B, cs, g, R, _, q, fun svs cs1 vs g1 H1 q1 R1 r1 st s1 f1 => ?_⟩
  have hl : vs.length = ks.length := by rw [← Paired.length r1]; exact q1.1.2
  obtain ⟨r2, st2⟩ := hS X.kw g1 H1 [] svs [] vs .nil r1
  refine ⟨rfl, hl, ?_⟩
  refine call_fin R1 r2 (st2 (fun _ z => by cases z) st) (hn vs hl) q1.2 (fun sv v g' H' q' R' r' t' f' => ?_) _
  exact kk sv cs1 v g' H' q' R' r' (t'.back f1) s1 (f1.trans (f'.mono fun _ _ _ z => z.elim))
theorem de_callK (F : FnG X.prog X.w X.kw X.mg X.base CX0 k f fd ps (spD X.kw ZP.zp n C)) (hgd : X.A.guards = some []) (hr : Room k X.A) (hg : Gl X x) (hm : X.mg x = some (.ref f)) (hk : PySem.W.keepIn X.kw (.ref f) = true) {m : Nat}
    (hb : KBd X.kw fd ps ks m gg) (hrel : KRel gV gg) (hS : SRel gV gS) (hn : ∀ vs zs : List V, vs.length = m → zs.length = ks.length → (gV vs zs).length = n)
    (ha : DA X ZP (e :: es) t) (hkw : DK X ZP kws tk) (hall : (backToKw pos (keywordEach kws X.env)).all (·.1.isSome) = true := by rfl) (hks : (backToKw pos (keywordEach kws X.env)).filterMap (·.1) = ks := by rfl)
    (hdb : (x == ("__debug__" : Str)) = false := by decide) (he : starEach (e :: es) X.env = (false, eval e X.env) :: starEach es X.env := by rfl)
    (hpl : ((backTo pos (starEach (e :: es) X.env)).any (·.1) || (backToKw pos (keywordEach kws X.env)).any (·.1.isNone)) = false := by rfl) :
    DE X ZP (.Call (.Name x p) (e :: es) kws pos) (t_callK gS m ks.length C t tk) := by
  refine ⟨PE.imp (pe_callGK F hgd hr hg hm hk hb hrel pass0 ha.pa hkw.pk hall hks hdb he hpl) ?_⟩
  rintro σ H Q ⟨B, cs, g, R, Q', q, kk⟩
  refine ⟨B, cs, g, R, _, q, fun svs cs1 vs g1 H1 q1 R1 r1 st s1 f1 => ?_⟩
  refine ⟨B, cs1, g1, R1, _, q1, fun zvs cs2 zs g2 H2 q2 R2 r2 st2 s2 f2 => ?_⟩
  have l1 : vs.length = m := by rw [← Paired.length r1]; exact q2.1.1
  have l2 : zs.length = ks.length := by rw [← Paired.length r2]; exact q2.1.2
  obtain ⟨r3, st3⟩ := hS X.kw g2 H2 svs zvs vs zs (RSs.frm f2 R1.fzow st r1) r2
  refine ⟨l1, l2, ?_⟩
  have f12 : Frm (ow cs σ) g H g2 H2 := f1.trans (f2.mono fun a _ _ h => s1 a h)
  refine call_fin R2 r3 (st3 st st2) (hn vs zs l1 l2) q2.2 (fun sv v g' H' q' R' r' t' f' => ?_) _
  exact kk sv cs2 v g' H' q' R' r' (t'.back f12) (fun a h => s1 a (s2 a h)) (f12.trans (f'.mono fun _ _ _ z => z.elim))
end
end Cl

/-! the rules with their side conditions filled in -/
namespace Cl
open PySem PySem.Spec PyProof.Rows L2
section
variable {X : Cx} {ZP : ZT} {x : Str} {pos : Pos}
theorem dln (i : Nat) (hN : X.N[i]? = some x := by rfl) (hv : Vis X.env.scope x := by first | exact Or.inl rfl | exact Or.inr (Or.inl rfl) | exact Or.inr (Or.inr rfl)) (hd : (x == ("__debug__" : Str)) = false := by decide)
    (hcd : (x == ("__classdict__" : Str)) = false := by decide) : DL X ZP (.Name x pos) (t_lname i) := dl_name hN hv hd hcd
theorem den (i : Nat) (hN : X.N[i]? = some x := by rfl) (hv : Vis X.env.scope x := by first | exact Or.inl rfl | exact Or.inr (Or.inl rfl) | exact Or.inr (Or.inr rfl)) (hd : (x == ("__debug__" : Str)) = false := by decide)
    (hcd : (x == ("__classdict__" : Str)) = false := by decide) : DE X ZP (.Name x pos) (t_name i) := de_name hN hv hd hcd
theorem dsrn {p2 : Pos} (i : Nat) (hN : X.N[i]? = some x := by rfl) (hv : Vis X.env.scope x := by first | exact Or.inl rfl | exact Or.inr (Or.inl rfl) | exact Or.inr (Or.inr rfl)) (hd : (x == ("__debug__" : Str)) = false := by decide)
    (hcd : (x == ("__classdict__" : Str)) = false := by decide) : DS X ZP (.Return (some (.Name x p2)) pos) (t_retn i) := ds_retn hN hv hd hcd
theorem dgm (i : Nat) (hN : X.N.Nodup) (hi : X.N[i]? = some x := by rfl) (hx : Loc X.env.scope x := by first | exact Or.inl rfl | exact Or.inr rfl) (hf : X.fn x = true ∨ X.env.scope.names.lookup x = some .local := by first | exact .inl rfl | exact .inr rfl) : DG X ZP (.Name x pos) (g_name i) := dg_name hN hi hx hf
theorem dgb (i : Nat) {vs : List Nat} (hN : X.N.Nodup) (hv : i ∈ vs := by decide) (hi : X.N[i]? = some x := by rfl) (hx : Loc X.env.scope x := by first | exact Or.inl rfl | exact Or.inr rfl) (hf : X.fn x = true ∨ X.env.scope.names.lookup x = some .local := by first | exact .inl rfl | exact .inr rfl) : DGN X ZP vs (.Name x pos) (g_name i) := dgn_name hv hN hi hx hf
variable {e : Expr} {te : TVD} {xpos apos cpos : Pos}
theorem dvap (i : Nat) (h : DV X ZP e te) (hN : X.N[i]? = some x := by rfl) (hv : Vis X.env.scope x := by first | exact Or.inl rfl | exact Or.inr (Or.inl rfl) | exact Or.inr (Or.inr rfl)) (hd : (x == ("__debug__" : Str)) = false := by decide)
    (hcd : (x == ("__classdict__" : Str)) = false := by decide) (hst : starEach [e] X.env = (false, eval e X.env) :: starEach [] X.env := by rfl) (hbase : attributeBase (.Name x xpos) "append" X.env (eval (.Name x xpos) X.env) = eval (.Name x xpos) X.env := by rfl)
    (hfew : ((backTo cpos (starEach [e] X.env)).all (fun x => !x.1) && (backToKw cpos (keywordEach [] X.env)).all (fun x => x.1.isSome)
      && decide (([e] : List Expr).length + ([] : List Keyword).length + (if ([] : List Keyword).isEmpty then 0 else 1) < 30)) = true := by rfl) (hline : (apos.endLine == cpos.line) = true := by rfl) :
    DV X ZP (.Call (.Attribute (.Name x xpos) "append" apos) [e] [] cpos) (t_append i te) := dv_append hN hv h hd hcd hst hbase hfew hline
theorem dvex (i : Nat) (h : DV X ZP e te) (hN : X.N[i]? = some x := by rfl) (hv : Vis X.env.scope x := by first | exact Or.inl rfl | exact Or.inr (Or.inl rfl) | exact Or.inr (Or.inr rfl)) (hd : (x == ("__debug__" : Str)) = false := by decide)
    (hcd : (x == ("__classdict__" : Str)) = false := by decide) (hst : starEach [e] X.env = (false, eval e X.env) :: starEach [] X.env := by rfl) (hbase : attributeBase (.Name x xpos) "extend" X.env (eval (.Name x xpos) X.env) = eval (.Name x xpos) X.env := by rfl)
    (hfew : ((backTo cpos (starEach [e] X.env)).all (fun x => !x.1) && (backToKw cpos (keywordEach [] X.env)).all (fun x => x.1.isSome)
      && decide (([e] : List Expr).length + ([] : List Keyword).length + (if ([] : List Keyword).isEmpty then 0 else 1) < 30)) = true := by rfl) (hline : (apos.endLine == cpos.line) = true := by rfl) :
    DV X ZP (.Call (.Attribute (.Name x xpos) "extend" apos) [e] [] cpos) (t_extend i te) := dv_extend hN hv h hd hcd hst hbase hfew hline
theorem dvpop (i : Nat) (hN : X.N[i]? = some x := by rfl) (hv : Vis X.env.scope x := by first | exact Or.inl rfl | exact Or.inr (Or.inl rfl) | exact Or.inr (Or.inr rfl)) (hd : (x == ("__debug__" : Str)) = false := by decide)
    (hcd : (x == ("__classdict__" : Str)) = false := by decide) (hbase : attributeBase (.Name x xpos) "pop" X.env (eval (.Name x xpos) X.env) = eval (.Name x xpos) X.env := by rfl) (hline : (apos.endLine == cpos.line) = true := by rfl) :
    DV X ZP (.Call (.Attribute (.Name x xpos) "pop" apos) [] [] cpos) (t_pop i) := dv_pop hN hv hd hcd hbase hline
end
end Cl

namespace Cl
open PySem PySem.Spec PyProof.Rows L2

/-! ### -x -/
section
variable {X : Cx} {ZP : ZT} {e e2 : Expr} {pos : Pos} {ta tb : TLD} {va vb : TVD}
def t_neg (ta : TLD) : TVD := fun cs Q => ta cs fun l cs1 => match l.get cs1 with
  | some (.int i) => Q (.int (-i)) cs1
  | _ => False
theorem dv_neg (h : DL X ZP e ta) : DV X ZP (.UnaryOp .USub e pos) (t_neg ta) := by
  refine ⟨PE.imp (pe_un un_neg h.pe) ?_⟩
  rintro σ H Q ⟨B, cs, g, R, Q', q, k⟩
  refine ⟨B, cs, g, R, _, q, fun l cs1 v g1 H1 q1 R1 r1 s1 f1 => ?_⟩
  cases e1 : l.get cs1 with
  | none => rw [e1] at q1; exact q1.elim
  | some d =>
    rw [e1] at q1
    cases d with
    | int i => exact ⟨i, (r1.rb R1 e1).int, k _ cs1 _ g1 H1 q1 R1 (.int _) s1 f1⟩
    | _ => exact q1.elim

/-! ### ( *a, b) -/
def t_star1 (va vb : TVD) : TVD := fun cs Q => va cs fun d cs1 => match seqOf d with
  | some ds => vb cs1 fun e cs2 => ds.length < sizeLine ∧ Q (.tuple (ds ++ [e])) cs2
  | none => False
theorem dv_star1 {p : Pos} {k : Nat} (ha : DV X ZP e va) (hb : DV X ZP e2 vb) (hs : starEach [.Starred e p, e2] X.env = (true, eval e X.env) :: starEach [e2] X.env := by rfl) (hs2 : starEach [e2] X.env = (false, eval e2 X.env) :: starEach [] X.env := by rfl) :
    DV X ZP (.Tuple [.Starred e p, e2] k pos) (t_star1 va vb) := by
  refine ⟨PE.imp (pe_tup (StX.pa_star ha.pe (pa_cons hb.pe pa_nil hs2) hs)) ?_⟩
  rintro σ H Q ⟨B, cs, g, R, Q', q, k⟩
  refine ⟨B, cs, g, R, _, q, fun d cs1 v g1 H1 q1 R1 r1 s1 f1 => ?_⟩
  cases e1 : seqOf d with
  | none => rw [e1] at q1; exact q1.elim
  | some ds =>
    rw [e1] at q1
    obtain ⟨kk, a, xs, rfl, ra, hS, hst⟩ := Rp.src r1 e1
    refine ⟨a, xs, rfl, ?_, B, cs1, g1, R1, _, q1, fun d2 cs2 u g2 H2 q2 R2 r2 s2 f2 => ?_⟩
    · cases kk with
      | lst => exact .inr (SqL.of hS)
      | tup => exact .inl hS
    · have ra2 := ra.frm f2 R1.fzow
      refine ⟨by rw [List.length_append, ← ra2.length]; exact q2.1, fun p hp => ?_⟩
      obtain ⟨R3, r3, t3, f3⟩ := (Res.tup hp (ra2.append (.cons r2 .nil))).fin R2
      exact k _ cs2 _ g2 _ q2.2 R3 r3 (fun a h => s1 a (s2 a h)) ((f1.trans (f2.mono fun a _ _ h => s1 a h)).trans (f3.mono fun a _ _ h => s1 a (s2 a h)))

/-! ### a, b = x, y -/
def t_par (i j : Nat) (ta tb : TD) : TSD := fun D cs => ta cs fun sv cs1 => tb cs1 fun sw cs2 => i < cs2.length ∧ j < cs2.length ∧ D.nx ((cs2.set i (some sv)).set j (some sw))
theorem ds_par {i j : Nat} {x y : Str} {a b : Expr} {td te : TD} {px py pt : Pos} {kt k2 : Nat} {pt2 : Pos} (hc : X.calm = true) (hN : X.N.Nodup) (hi : X.N[i]? = some x) (hj : X.N[j]? = some y) (hij : i ≠ j)
    (hx : X.env.scope.names.lookup x = some .local) (hy : X.env.scope.names.lookup y = some .local) (ha : DE X ZP a td) (hb : DE X ZP b te)
    (hw : swappedStores [.Tuple [.Name x px, .Name y py] kt pt] (.Tuple [a, b] k2 pt2) X.env = pure (some [x, y]) := by rfl)
    (hs : swapsWithSole [.Tuple [.Name x px, .Name y py] kt pt] (.Tuple [a, b] k2 pt2) pos.line X.env = pure false := by rfl)
    (hs1 : starEach [a, b] X.env = (false, eval a X.env) :: starEach [b] X.env := by rfl) (hs2 : starEach [b] X.env = (false, eval b X.env) :: starEach [] X.env := by rfl) :
    DS X ZP (.Assign [.Tuple [.Name x px, .Name y py] kt pt] (.Tuple [a, b] k2 pt2) pos) (t_par i j td te) := by
  refine ⟨PS.imp (ps_par hc hN hi hj hij hx hy (pa_cons ha.pe (pa_cons hb.pe pa_nil hs2) hs1) hw hs) ?_⟩
  rintro D σ H ⟨B, cs, g, R, D', q, p⟩
  refine ⟨B, cs, g, R, _, q, fun sv cs1 v g1 H1 q1 R1 r1 t1 s1 f1 => ?_⟩
  refine ⟨B, cs1, g1, R1, _, q1, fun sw cs2 u g2 H2 q2 R2 r2 t2 s2 f2 => ?_⟩
  obtain ⟨l1, l2, q2⟩ := q2
  refine ⟨v, u, rfl, ?_⟩
  have n1 : ∀ xs a, sv = .obj xs → v = .ref a → ¬ ow cs1 σ a := fun xs a e1 e2 => (t1 xs a e1 e2).1
  have R3 := R2.store l1 (r1.frm f2 R1.fzow n1) fun xs a e1 e2 => ⟨fun z => n1 xs a e1 e2 (s2 a z), R.bnone (t1 xs a e1 e2).2⟩
  have R4 := R3.store (i := j) (by rw [List.length_set]; exact l2) r2 fun xs a e1 e2 => ⟨fun z => ?_, R1.bnone (t2 xs a e1 e2).2⟩
  · exact p.nx _ _ g2 H2 R4 ((f1.stay R.fzow).trans (f2.stay R1.fzow)) q2
  · obtain ⟨m, ys, h1, h2⟩ := z
    obtain ⟨n2, n3⟩ := t2 xs a e1 e2
    by_cases hm : m = i
    · subst hm
      rw [List.getElem?_set_self l1] at h1
      rw [List.getElem?_set_self (by rw [← R2.len]; exact l1)] at h2
      cases h1; cases h2
      obtain ⟨b', vs, e3, h, _⟩ := r1.ownAt
      cases e3
      rw [n3] at h; cases h
    · rw [List.getElem?_set_ne (Ne.symm hm)] at h1 h2
      exact n2 ⟨m, ys, h1, h2⟩
end

/-! ### str(x) -/
def strX : C1X := fun d Q => match d with
  | .str s => Q (.dat (.str s))
  | .none => False
  | .bool _ => False
  | d => reprOk d ∧ Q (.dat (.str d.shown))
section
variable {X : Cx}
theorem c_str (hg : X.A.guards = some []) (hu : X.A.units + 64 < cLine) : CallR X (.type "str") (rC1 X.kw strX) := by
  rintro pins s σ H xs us Q I r ⟨x, fz, d, rfl, hd, Q', q, k⟩
  obtain ⟨u, rfl, ru⟩ := vals1 r
  have done : ∀ (h' : Heap) (t tk : Nat), (∀ b o, s.heap.get? b = some o → h'.get? b = some o) → Q' (.dat (.str d.shown)) → EP X pins σ Q (.str d.shown t) { s with heap := h', toks := tk } := fun h' t tk hk q =>
    ⟨.str _, H, I.kept hk, ⟨t, rfl⟩, k _ _ _ q (.same (.str _))⟩
  have ref : ∀ a, u = Value.ref a → reprOk d ∧ Q' (.dat (.str d.shown)) → wpAny (model X.prog X.w) X.A (call (.type "str") [u]) (EP X pins σ Q) X.xe s := fun a e ⟨⟨z1, z2, z3, z4⟩, q⟩ => by
    obtain ⟨as, rd, hs⟩ := RB.reads I hd ru
    subst e
    exact str_of_reads rd z1 (fun h => hs (z2 h)) hg (by omega) (fun _ _ e => e) (fun h' u tk hk => done h' u tk hk q) z4
  cases d with
  | none => exact q.elim
  | bool b => exact q.elim
  | int i =>
    cases hd.int
    obtain ⟨t, rfl⟩ := ru
    exact PySem.P.str_of_int (by simpa [PyData.showable] using q.1.1) (done s.heap _ _ (fun _ _ e => e) q.2)
  | str x =>
    cases hd.str
    obtain ⟨t, rfl⟩ := ru
    exact PySem.P.str_of_str ⟨.str _, H, I, ⟨t, rfl⟩, k _ _ _ q (.same (.str _))⟩
  | list ds => obtain ⟨a, vs, rfl, _⟩ := hd.lst; exact ref a ru q
  | tuple ds => obtain ⟨a, vs, rfl, _⟩ := hd.tup; exact ref a ru q
  | dict ds => obtain ⟨a, ep, es, ks, vs, rfl, _⟩ := hd; exact ref a ru q
end
end Cl

namespace Cl
open PySem PySem.Spec PyProof.Rows L2

section
variable {K : KW} {ZP : ZT} {B : Bs} {g : GW} {H : Hp} {cs : CS} {σ : L2.St} {w : Addr → Prop} {p : Addr} {o : HO}
theorem Frm.newFz (hp : H p = none) : Frm w g H (g.freeze p) (upd H p o) := (Frm.laid hp).freezeTmp hp
/-- a new object, frozen at once -/
theorem Rel.newFz (R : Rel K ZP B g H cs σ) (hp : H p = none) : Rel K ZP B (g.freeze p) (upd H p o) cs σ := by
  refine R.go (Frm.newFz hp) (fun a t h => ?_) fun a h => ?_
  · obtain ⟨u, e, q⟩ := R.zok a t h
    exact ⟨u, by rw [upd_ne (ne_of_none e hp)]; exact e, q⟩
  · rcases h with h | h
    · obtain ⟨⟨u, e⟩, q⟩ := R.fzok a h
      exact ⟨⟨u, by rw [upd_ne (ne_of_none e hp)]; exact e⟩, q⟩
    · subst h
      exact ⟨⟨o, upd_same⟩, (R.nofz hp).2⟩
end
section
variable {K : KW} {ZP : ZT} {B : Bs} {g : GW} {H : Hp} {cs : CS} {σ : L2.St} {p : Addr} {o o' : HO}
/-- a thing that no one has yet is changed, and frozen -/
theorem Rel.updFz (R : Rel K ZP B g H cs σ) (h : H p = some o) (ht : ∀ xs, H p ≠ some (.tup xs)) (n1 : ¬ g.fz p) (n2 : g.zs p = none) (n3 : ¬ ow cs σ p) (hb : B.1 p = none) :
    Rel K ZP B (g.freeze p) (upd H p o') cs σ ∧ Frm (fun a => a = p) g H (g.freeze p) (upd H p o') := by
  have tups : ∀ a xs, H a = some (.tup xs) → (upd H p o') a = some (.tup xs) := fun a xs q => by
    have hne : a ≠ p := fun e => by
      subst e
      exact ht xs q
    rw [upd_ne hne]; exact q
  have any : ∀ a u, H a = some u → ∃ u', upd H p o' a = some u' := fun a u e => by
    by_cases hp : a = p
    · subst hp; exact ⟨_, upd_same⟩
    · exact ⟨u, by rw [upd_ne hp]; exact e⟩
  have f : Frm (fun a => a = p) g H (g.freeze p) (upd H p o') :=
    ⟨fun a u e _ n => by rw [upd_ne n]; exact e, fun _ h => .inl h, fun _ _ h => h, fun a u e n q => q.elim id fun z => absurd z n, fun _ _ _ h => h, tups, any⟩
  refine ⟨⟨R.len, fun i sv e => ?_, R.sep, fun a t z => ?_, fun a z => ?_, ?_, R.fresh, R.bs⟩, f⟩
  · obtain ⟨v, e1, r⟩ := R.slot i sv e
    refine ⟨v, e1, r.frm f (fun a z => ⟨(R.fzow a z).1, fun q => ?_⟩) fun xs a e2 e3 q => ?_⟩
    · have q : a = p := q
      subst q; exact n1 z
    · have q : a = p := q
      subst q; subst e2; subst e3
      exact n3 ⟨i, xs, e, e1⟩
  · obtain ⟨u, e, q⟩ := R.zok a t z
    refine ⟨u, ?_, q⟩
    have z2 : g.zs a = some t := z
    rw [upd_ne (fun e => by subst e; rw [n2] at z2; cases z2)]
    exact e
  · rcases z with z | z
    · obtain ⟨⟨u, e⟩, q⟩ := R.fzok a z
      exact ⟨any a u e, q⟩
    · subst z; exact ⟨⟨_, upd_same⟩, n2⟩
  · have nb : ∀ a u, B.1 a = some u → a ≠ p := fun a u e z => by subst z; rw [hb] at e; cases e
    refine ⟨fun a u e z n => ?_, fun a h => .inl (R.base.fzm a h), R.base.zsm, fun a u e n q => q.elim (R.base.fzn a u e n) fun z => absurd z (nb a u e), R.base.zsn, fun a xs q => tups a xs (R.base.tups a xs q), fun a u e => ?_⟩
    · rw [upd_ne (nb a u e)]; exact R.base.keep a u e z n
    · obtain ⟨u', e'⟩ := R.base.any a u e
      exact any a u' e'
end
/-! ### {} -/
section
variable {X : Cx} {ZP : ZT} {pos : Pos}
theorem ext_dict {P : Program} {w : World} {H : Hp} {h : Heap} {a : Addr} {ep : Nat} {es : List DictEntry} (d : DictHas a ep es h) : ObjOk P w H h a (.ext (DictHas a ep es)) :=
  ⟨d, let ⟨_, o, e, _⟩ := d; ⟨o, e⟩, fun h1 h2 ⟨n, o, e, r⟩ k => ⟨n, o, k o e, r⟩⟩
def t_dict0 : TVD := fun cs Q => Q (.dict []) cs
theorem dv_dict0 : DV X ZP (.Dict [] [] pos) t_dict0 := by
  refine ⟨⟨fun pins s σ H Q I h => ?_⟩⟩
  obtain ⟨B, cs, g, R, Q', q, k⟩ := h
  have hn := I.hok.fresh (Nat.le_refl s.heap.objs.size)
  have hd : DictHas s.heap.objs.size 0 [] (s.heap.push { cls := .type "dict", data := .dict #[] }) :=
    ⟨Ne.symm (Nat.ne_of_lt I.big), _, Heap.get?_push_size _ rfl, ⟨rfl, rfl, rfl⟩, rfl⟩
  refine wpAny_Dict_empty ⟨.ref s.heap.objs.size, _, I.laid (a := s.heap.objs.size) (o := .ext (DictHas s.heap.objs.size 0 [])) (t' := s.toks) (fun _ _ q => Heap.get?_push_of_some _ q) (Nat.le_refl _) (ext_dict hd), rfl, ?_⟩
  exact k _ cs _ (g.freeze s.heap.objs.size) _ q (R.newFz hn) (.dct (kvs := []) (.inr rfl) upd_same .nil .nil .nil .nil ⟨[], rfl, .nil, (fun _ z => nomatch z), rfl⟩) (fun _ h => h) (Frm.newFz hn)
end

/-! ### {t: v}, t a tuple of ints -/
theorem ints_key {prog : Program} {w : World} : ∀ {ns : List Int} {us : List Value}, Vals (ns.map V.int) us → ItemsAre (intKind prog w) ns us
  | [], _, .nil => .nil
  | n :: ns, _, .cons ⟨t, e⟩ r => by
    subst e
    exact .cons (intKind_is _ _ _ _) (ints_key r)
section
variable {prog : Program} {w : World} {K : Type} [DecidableEq K] {knd : HeapKind prog w K} {A : Around} {E : Value → Shared → Prop} {s : Shared}
theorem dict1_h {env : Env} {k v : Expr} {pos : Pos} {Q : Value → Shared → Prop} (hu : knd.room A)
    (h : wpAny (model prog w) A (evalPairs (pairTrees [some k] [v] env pos)) (fun vs s₁ => ∃ ps, CarriesH knd s₁.heap vs ps ∧ s₁.heap.DictOfH knd s.heap.objs.size [] ∧
      ∀ h' tk, h'.DictOfH knd s.heap.objs.size (storedAllH [] ps) → Heap.SameBut s.heap.objs.size s₁.heap h' → Q (.ref s.heap.objs.size) { s₁ with heap := h', toks := tk }) E
      { s with heap := s.heap.push { cls := .type "dict", data := .dict #[] } }) :
    wpAny (model prog w) A (eval (.Dict [some k] [v] pos) env) Q E s := by
  rw [arm_eval_Dict, zip_pairTrees [some k] [v] env pos rfl rfl, dictDisplay_pairs (pairTrees [some k] [v] env pos) (by simp [pairTrees]) (by simp [pairTrees])]
  exact wpAny_bind (wpAny_standAt (wpAny_bind (wpAny_subDictH (knd := knd) (Q := fun d s' => wpAny (model prog w) A (pure (Value.ref d)) Q E s') hu (by simp [pairTrees])
    (wpAny_mono h (fun vs s₁ ⟨ps, hc, hm, hq⟩ => ⟨ps, hc, hm, fun h' tk a b => wpAny_pure (hq h' tk a b)⟩) fun _ _ e => e))))
end
section
variable {X : Cx} {ZP : ZT} {pos : Pos} {ke ve : Expr} {tk tv : TVD}
theorem rps_ints {K : KW} {H : Hp} {fz : Addr → Prop} : ∀ {ns : List Int} {vs : List V}, RpAll K H fz (ns.map .int) vs → vs = ns.map V.int
  | [], _, .nil => rfl
  | n :: ns, _, .cons r t => by
    cases r
    rw [rps_ints t]; rfl
end

/-! ### t[::-1] -/
section
variable {prog : Program} {w : World} {A : Around} {E : Value → Shared → Prop} {s : Shared}
theorem pick_rev (items : Array Value) : ((List.range items.size).filterMap fun (m : Nat) => items[(((items.size : Int) - 1) + (m : Int) * -1).toNat]?).toArray = items.toList.reverse.toArray := by
  congr 1
  have e : ∀ m, m < items.size → items[(((items.size : Int) - 1) + (m : Int) * -1).toNat]? = items.toList.reverse[m]? := fun m hm => by
    rw [show (((items.size : Int) - 1) + (m : Int) * -1).toNat = items.size - 1 - m by omega, List.getElem?_reverse (by simpa using hm)]
    simp
  have key : ∀ n, n ≤ items.size → (List.range n).filterMap (fun (m : Nat) => items[(((items.size : Int) - 1) + (m : Int) * -1).toNat]?) = items.toList.reverse.take n := fun n => by
    induction n with
    | zero => intro _; rfl
    | succ n ih =>
      intro hn
      rw [List.range_succ, List.filterMap_append, ih (by omega), List.take_add_one]
      congr 1
      simp only [List.filterMap_cons, List.filterMap_nil]
      rw [e n (by omega)]
      cases (items.toList.reverse[n]?) <;> rfl
  rw [key items.size (Nat.le_refl _), List.take_of_length_le (by simp)]
theorem getItem_tuple_rev {t sl : Addr} {items : Array Value} {vs : Value} {Q : Value → Shared → Prop} (ht : IsTup s.heap t items) (hs : s.heap.IsSliceOf sl .none .none vs) (ps : IsPart vs (some (-1)))
    (h : Q (.ref s.heap.objs.size) { s with heap := s.heap.push { cls := .type "tuple", data := .seq items.toList.reverse.toArray } })
    (hsz : items.size ≤ sizeLine) : wpAny (model prog w) A (getItem (.ref t) (.ref sl)) Q E s := by
  have hrev : sizeOk (.seq items.toList.reverse.toArray) := by
    show items.toList.reverse.toArray.size ≤ sizeLine
    simpa using hsz
  obtain ⟨os, hos, hcs, hds⟩ := id hs
  have hTs : s.TypeIs (.ref sl) "slice" := ⟨os, hos, hcs⟩
  unfold getItem
  try with_reducible refine wpAny_holding ?_
  first | refine wpAny_bind (wpAny_pure ?_) | skip
  refine wpAny_bind (wpAny_sequenceKey ht.typeIs (by decide) ?_)
  refine wpAny_bind (wpAny_callSpecial?_slot (name := Str.ofString "__getitem__") ht.typeIs PyProof.Rows.slot_tuple_getitem
    (wpAny_call_entry PyProof.Rows.slot_tuple_getitem ht.typeIs entry_tuple_getitem ?_ (args_tuple_getitem _ _)))
  show wpAny _ _ (Builtin.Tuple.tupleItemsOf (.ref t) >>= _) _ _ s
  refine wpAny_bind (tupleItemsOf_ ht ?_)
  refine wpAny_bind (wpAny_typeOf hTs ?_)
  rw [if_pos (by decide)]
  have ap : ∀ (A' : Around) (E' : Value → Shared → Prop), wpAny (model prog w) A' (Builtin.Slice.sliceApplied (.ref sl) (pure (items.size : Int))) (fun r s' => r = ((items.size : Int) - 1, -1, items.size) ∧ s' = s) E' s := by
    intro A' E'
    unfold Builtin.Slice.sliceApplied Builtin.Slice.sliceFields
    refine wpAny_bind (wpAny_bind (wpAny_field hos hds (x := .none) rfl (wpAny_bind (wpAny_field hos hds (x := .none) rfl (wpAny_bind (wpAny_field hos hds (x := vs) rfl (wpAny_pure ?_)))))))
    refine wpAny_bind (HT.slicePart_ ps ?_)
    show wpAny _ _ (if ((-1 : Int) == 0) = true then _ else _) _ _ s
    rw [if_neg (by decide)]
    refine wpAny_bind (slicePart_none (wpAny_bind (slicePart_none (wpAny_bind (wpAny_pure ?_)))))
    refine wpAny_pure ⟨?_, rfl⟩
    refine Prod.ext rfl (Prod.ext rfl ?_)
    show Builtin.Slice.slicePlaces ((items.size : Int) - 1) (-1) (-1) = items.size
    unfold Builtin.Slice.slicePlaces
    simp only [show ¬ ((-1 : Int) > 0) by omega, if_false]
    split <;> simp <;> omega
  refine wpAny_bind (wpAny_mono (ap _ _) ?_ fun _ _ e => e)
  rintro r0 s0 ⟨er, es⟩
  subst er; subst es
  have hno : ¬ ((((items.size : Int) - 1) == 0 && (-1 : Int) == 1 && items.size == items.size) = true) := by simp
  show wpAny _ _ (if (((items.size : Int) - 1) == 0 && (-1 : Int) == 1 && items.size == items.size) = true then _ else _) _ _ _
  rw [if_neg hno, pick_rev]
  first
    | exact wpAny_bind (m := Builtin.Tuple.tupleExact _) (wpAny_newObj_type (wpAny_pure ⟨_, rfl, wpAny_pure h⟩) hrev)
    | exact wpAny_bind (m := Builtin.Tuple.tupleExact _) (wpAny_newObj_type (wpAny_bind (wpAny_pure (wpAny_pure ⟨_, rfl, wpAny_pure h⟩))) hrev)
    | exact wpAny_bind (wpAny_bind (m := Builtin.Tuple.tupleExact _) (wpAny_newObj_type (wpAny_pure (wpAny_pure ⟨_, rfl, wpAny_pure h⟩)) hrev))
    | exact wpAny_bind (wpAny_bind (m := Builtin.Tuple.tupleExact _) (wpAny_newObj_type (wpAny_pure ⟨_, rfl, wpAny_pure h⟩) hrev))
end
section
variable {X : Cx} {ZP : ZT} {e : Expr} {te : TE} {ta : TLD} {k : Nat} {p1 p2 p3 pos : Pos}
def tRevT (K : KW) (te : TE) : TE := fun σ H Q => te σ H fun x H1 => ∃ a xs, x = .ref a ∧ SqT K H1 a xs ∧ ∀ p, H1 p = none → Q (.ref p) (upd H1 p (.tup xs.reverse))
theorem pe_revT (he : PE X e te) : PE X (.Subscript e (.Slice none none (some (.UnaryOp .USub (.Constant (.int 1) k p1) p2)) p3) pos) (tRevT X.kw te) := by
  refine ⟨fun pins s σ H Q I h => ?_⟩
  refine Subscript_ (thn (he.run pins s σ H _ I h) fun v s1 ⟨x, H1, I1, r1, a, xs, ex, hx, q⟩ => ?_)
  subst ex
  cases r1
  have hst : PO X (some (.UnaryOp .USub (.Constant (.int 1) k p1) p2)) (tPart (tUn (rU fun i => .int (-i)) (tC (.int 1)))) := po_some (pe_un un_neg pe_int)
  refine wpAny_Slice (thn (po_none.run pins s1 σ H1 (fun o H2 => o = none ∧ H2 = H1) I1 ⟨rfl, rfl⟩) fun vl s2 ⟨l, H2, I2, pl, el, e2⟩ => ?_)
  subst el e2
  refine thn (po_none.run pins s2 σ H2 (fun o H3 => o = none ∧ H3 = H2) I2 ⟨rfl, rfl⟩) fun vu s3 ⟨u, H3, I3, pu, eu, e3⟩ => ?_
  subst eu e3
  refine thn (hst.run pins s3 σ H3 (fun o H4 => o = some (-1) ∧ H4 = H3) I3 ⟨1, rfl, -1, rfl, rfl, rfl⟩) fun vs s4 ⟨o, H4, I4, ps, eo, e4⟩ => ?_
  subst eo e4
  cases pl; cases pu
  have I5 : L2.Inv X pins σ H4 { s4 with heap := s4.heap.push { cls := .type "slice", data := .fields #[.none, .none, vs] } } := I4.kept (t' := s4.toks) fun b ob q => Heap.get?_push_of_some _ q
  obtain ⟨its, r, ht, hz⟩ := I5.tuple hx
  have hlen := r.length
  show wpAny (model X.prog X.w) X.A (subscriptTail e (.Slice none none (some (.UnaryOp .USub (.Constant (.int 1) k p1) p2)) p3) (.ref a) (.ref s4.heap.objs.size)) (EP X pins σ Q) X.xe { s4 with heap := s4.heap.push { cls := .type "slice", data := .fields #[.none, .none, vs] } }
  refine tail_any (ops := [.ref a, .ref s4.heap.objs.size]) ht.typeIs (PyProof.Rows.slot_tuple_getitem.lookup) ?_ (by with_unfolding_all rfl)
  refine getItem_tuple_rev ht (Heap.IsSliceOf.new _ .none .none vs) ps ?_ (by rw [List.size_toArray]; omega)
  refine ⟨.ref _, _, I5.laid (t' := s4.toks) (o := .tup xs.reverse) (fun b ob q => Heap.get?_push_of_some _ q) (Nat.le_refl _) ?_, rfl, q _ (I5.hok.fresh (Nat.le_refl _))⟩
  exact ⟨by rw [List.length_reverse]; exact hz, _, r.reverse, IsTup.new _ _⟩
theorem RpAll.reverse {K : KW} {H : Hp} {fz : Addr → Prop} : ∀ {ds : List PyData} {vs : List V}, RpAll K H fz ds vs → RpAll K H fz ds.reverse vs.reverse
  | _, _, .nil => .nil
  | _, _, .cons r t => by
    rw [List.reverse_cons, List.reverse_cons]
    exact (RpAll.reverse t).append (.cons r .nil)
def t_rev (ta : TLD) : TVD := fun cs Q => ta cs fun l cs1 => match l.get cs1 with
  | some (.tuple ds) => Q (.tuple ds.reverse) cs1
  | _ => False
theorem dv_rev (h : DL X ZP e ta) : DV X ZP (.Subscript e (.Slice none none (some (.UnaryOp .USub (.Constant (.int 1) k p1) p2)) p3) pos) (t_rev ta) := by
  refine ⟨PE.imp (pe_revT h.pe) ?_⟩
  rintro σ H Q ⟨B, cs, g, R, Q', q, k⟩
  refine ⟨B, cs, g, R, _, q, fun l cs1 v g1 H1 q1 R1 r1 s1 f1 => ?_⟩
  cases e1 : l.get cs1 with
  | none => rw [e1] at q1; exact q1.elim
  | some d =>
    rw [e1] at q1
    cases d with
    | tuple ds =>
      obtain ⟨a, xs, rfl, hq, ra⟩ := (r1.rb R1 e1).tup
      refine ⟨a, xs, rfl, SqT.of hq, fun p hp => ?_⟩
      obtain ⟨R3, r3, t3, f3⟩ := (Res.tup hp ra.reverse).fin R1
      exact k _ cs1 _ g1 _ q1 R3 r3 s1 (f1.trans (f3.mono fun a _ _ h => s1 a h))
    | _ => exact q1.elim
end
end Cl

namespace Cl
open PySem PySem.Spec PyProof.Rows L2

/-! ### the script -/
section
variable {X : Cx} {ZP : ZT} {pos p p2 p3 : Pos} {x : Str} {i : Nat}
theorem scr_sq {K : KW} {g : GW} {H : Hp} {ns : List Int} {v : V} (r : RS K g H (.scr ns) v) : ∃ a, v = .ref a ∧ SqL K H a (ns.map V.int) := by
  obtain ⟨a, rfl, h⟩ := r
  refine ⟨a, rfl, ?_⟩
  rcases h with ⟨_, o, h⟩ | h
  · exact .inl (.inr ⟨o, h⟩)
  · exact .inr h
theorem RpAll.ints' {K : KW} {H : Hp} {fz : Addr → Prop} (ns : List Int) : RpAll K H fz (ns.map PyData.int) (ns.map V.int) := RpAll.ints ns
def t_sliceScr (i : Nat) (tl th : TOD) : TD := fun cs Q => match cs[i]? with
  | some (some (.scr ns)) => tl cs fun lo cs2 => th cs2 fun hi cs3 => Q (.own (cutD (ns.map .int) lo hi)) cs3
  | _ => False
theorem de_sliceScr {lo hi : Option Expr} {tl th : TOD} (i : Nat) (hl : DO X ZP lo tl) (hh : DO X ZP hi th) (hN : X.N[i]? = some x := by rfl) (hv : Vis X.env.scope x := by first | exact Or.inl rfl | exact Or.inr (Or.inl rfl) | exact Or.inr (Or.inr rfl)) (hd : (x == ("__debug__" : Str)) = false := by decide)
    (hcd : (x == ("__classdict__" : Str)) = false := by decide) : DE X ZP (.Subscript (.Name x p) (.Slice lo hi none p2) pos) (t_sliceScr i tl th) := by
  refine ⟨PE.imp (pe_slice sl_list (pe_var hN hv hd hcd) hl.po hh.po) ?_⟩
  rintro σ H Q ⟨B, cs, g, R, Q', q, k⟩
  unfold t_sliceScr at q
  cases e1 : cs[i]? with
  | none => rw [e1] at q; exact q.elim
  | some osv =>
    rw [e1] at q
    rcases osv with _ | sv
    · exact q.elim
    · cases sv with
      | dat d => exact q.elim
      | obj d => exact q.elim
      | raw d => exact q.elim
      | exc _ _ _ _ => exact q.elim
      | scr ns =>
      obtain ⟨v, e2, r⟩ := R.slot i _ e1
      refine ⟨v, e2, B, cs, g, R, _, q, fun o1 cs2 g2 H2 q2 R2 s2 f2 => ?_⟩
      refine ⟨B, cs2, g2, R2, _, q2, fun o2 cs3 g3 H3 q3 R3 s3 f3 => ?_⟩
      have r3 : RS X.kw g3 H3 (.scr ns) v := (r.frm f2 R.fzow (fun _ _ e _ => by cases e)).frm f3 R2.fzow (fun _ _ e _ => by cases e)
      obtain ⟨a, rfl, hs⟩ := scr_sq r3
      refine ⟨a, _, rfl, hs, fun p hp => ?_⟩
      obtain ⟨R4, r4, t4, f4⟩ := (Res.lst hp ((RpAll.ints' ns).cut o1 o2)).fin R3
      have f13 : Frm (ow cs σ) g H g3 H3 := f2.trans (f3.mono fun a _ _ h => s2 a h)
      exact k _ cs3 _ g3 _ q3 R4 r4 (t4.back f13) (fun a h => s2 a (s3 a h)) (f13.trans (f4.mono fun a _ _ h => s2 a (s3 a h)))
end

/-! ### boxes: what a law's draws work on -/
inductive RF where
  | l (t : Nat)
  | i
/-- 2: a list of ints; 3: .. that is not empty; 1: [2, 3, int, int]; 4: [2, int, int] -/
def shp : Nat → Option (List RF)
  | 1 => some [.l 2, .l 3, .i, .i]
  | 4 => some [.l 2, .i, .i]
  | _ => none
/-- dicts with texts as keys -/
def dshp : Nat → Option (List Str × List RF)
  | 5 => some (["great", "stirred", "count"], [.l 2, .i, .i])
  | 6 => some (["far", "cells", "sum", "count"], [.l 2, .l 3, .i, .i])
  | 7 => some (["deep", "state"], [.l 2, .i])
  | _ => none
def Fld (zs : Addr → Option Nat) : List RF → List V → Prop
  | [], [] => True
  | .l t :: fs, .ref a :: vs => zs a = some t ∧ Fld zs fs vs
  | .i :: fs, .int _ :: vs => Fld zs fs vs
  | _, _ => False
def ZPu : ZF := fun t zs o => (t = 2 ∧ ∃ ns : List Int, ns.length ≤ 1000 ∧ o = .lst (ns.map V.int)) ∨ (t = 3 ∧ ∃ ns : List Int, ns ≠ [] ∧ o = .lst (ns.map V.int)) ∨ (∃ fs vs, shp t = some fs ∧ o = .lst vs ∧ Fld zs fs vs) ∨
  ∃ ks fs vs, dshp t = some (ks, fs) ∧ o = .dK ((ks.map Sum.inr).zip vs) ∧ Fld zs fs vs
/-- the things of a box -/
def BoxOk : List RF → List SV → Prop
  | [], [] => True
  | .l t :: fs, .obj (.lst xs) :: svs => (∃ ns : List Int, xs = ns.map .int ∧ ((t = 2 ∧ ns.length ≤ 1000) ∨ (t = 3 ∧ ns ≠ []))) ∧ BoxOk fs svs
  | .i :: fs, .dat (.int _) :: svs => BoxOk fs svs
  | _, _ => False
def typ : List RF → List V → Addr → Option Nat
  | .l t :: fs, .ref b :: vs, a => if a = b then some t else typ fs vs a
  | .i :: fs, _ :: vs, a => typ fs vs a
  | _, _, _ => none
/-- arguments, own lists among them -/
def tX (K : KW) (ZP : ZT) (t : TSA) : TA := fun σ H Q => ∃ B cs g, Rel K ZP B g H cs σ ∧ ∃ Q', t cs Q' ∧
  ∀ svs cs' vs g' H', Q' svs cs' → Rel K ZP B g' H' cs' σ → RSs K g' H' svs vs → (∀ (i : Nat) (xs : OwnC) (a : Addr), svs[i]? = some (.obj xs) → vs[i]? = some (.ref a) → ¬ ow cs' σ a ∧ H a = none) →
    (∀ (i j : Nat) (xs ys : OwnC) (a : Addr), svs[i]? = some (.obj xs) → svs[j]? = some (.obj ys) → vs[i]? = some (.ref a) → vs[j]? = some (.ref a) → i = j) → (∀ a, ow cs' σ a → ow cs σ a) → Frm (ow cs σ) g H g' H' → Q vs H'
structure DX (X : Cx) (ZP : ZT) (es : List Expr) (t : TSA) : Prop where
  pa : PA X es (tX X.kw ZP t)
def t_xcons (t : TD) (u : TSA) : TSA := fun cs Q => t cs fun sv cs1 => u cs1 fun svs cs2 => Q (sv :: svs) cs2
section
variable {X : Cx} {ZP : ZT} {e : Expr} {es : List Expr} {td : TD} {ts : TSA}
theorem dx_nil : DX X ZP [] t_anil := ⟨PA.imp pa_nil fun σ H Q ⟨B, cs, g, R, Q', q, k⟩ => k [] cs [] g H q R .nil (fun i xs a e => by simp at e) (fun i j xs ys a e => by simp at e) (fun _ h => h) .refl⟩
theorem dx_cons (h : DE X ZP e td) (r : DX X ZP es ts) (hs : starEach (e :: es) X.env = (false, eval e X.env) :: starEach es X.env := by rfl) : DX X ZP (e :: es) (t_xcons td ts) := by
  refine ⟨PA.imp (pa_cons h.pe r.pa hs) ?_⟩
  rintro σ H Q ⟨B, cs, g, R, Q', q, k⟩
  refine ⟨B, cs, g, R, _, q, fun sv cs1 v g1 H1 q1 R1 r1 t1 s1 f1 => ?_⟩
  refine ⟨B, cs1, g1, R1, _, q1, fun svs cs2 vs g2 H2 q2 R2 r2 t2 d2 s2 f2 => ?_⟩
  have old : ∀ xs a, sv = .obj xs → v = .ref a → ∃ o, H1 a = some o := fun xs a e1 e2 => by
    subst e1; subst e2
    obtain ⟨b, ws, e, h, _⟩ := r1.ownAt
    cases e; exact ⟨_, h⟩
  refine k (sv :: svs) cs2 (v :: vs) g2 H2 q2 R2 (.cons (r1.frm f2 R1.fzow fun xs a e1 e2 => (t1 xs a e1 e2).1) r2) (fun i xs a e1 e2 => ?_) (fun i j xs ys a e1 e2 e3 e4 => ?_) (fun a h => s1 a (s2 a h)) (f1.trans (f2.mono fun a _ _ h => s1 a h))
  · cases i with
    | zero =>
      simp only [List.getElem?_cons_zero, Option.some.injEq] at e1 e2
      obtain ⟨n1, n2⟩ := t1 xs a e1 e2
      exact ⟨fun z => n1 (s2 a z), n2⟩
    | succ i =>
      simp only [List.getElem?_cons_succ] at e1 e2
      obtain ⟨n1, n2⟩ := t2 i xs a e1 e2
      refine ⟨n1, ?_⟩
      cases e5 : H a with
      | none => rfl
      | some u =>
        obtain ⟨u', e6⟩ := f1.any a u e5
        rw [n2] at e6; cases e6
  · cases i with
    | zero =>
      cases j with
      | zero => rfl
      | succ j =>
        simp only [List.getElem?_cons_succ, List.getElem?_cons_zero, Option.some.injEq] at e1 e2 e3 e4
        obtain ⟨o, h⟩ := old xs a e1 e3
        rw [(t2 j ys a e2 e4).2] at h; cases h
    | succ i =>
      cases j with
      | zero =>
        simp only [List.getElem?_cons_succ, List.getElem?_cons_zero, Option.some.injEq] at e1 e2 e3 e4
        obtain ⟨o, h⟩ := old ys a e2 e4
        rw [(t2 i xs a e1 e3).2] at h; cases h
      | succ j =>
        simp only [List.getElem?_cons_succ] at e1 e2 e3 e4
        rw [d2 i j xs ys a e1 e2 e3 e4]
end
section
variable {K : KW} {g : GW} {H : Hp}
theorem typ_some : ∀ {fs : List RF} {svs : List SV} {vs : List V} {a : Addr} {t : Nat}, BoxOk fs svs → RSs K g H svs vs → typ fs vs a = some t →
    ∃ (i : Nat) (ns : List Int), svs[i]? = some (.own (ns.map .int)) ∧ vs[i]? = some (.ref a) ∧ H a = some (.lst (ns.map V.int)) ∧ ¬ g.fz a ∧ g.zs a = none ∧ ((t = 2 ∧ ns.length ≤ 1000) ∨ (t = 3 ∧ ns ≠ []))
  | [], svs, vs, a, t, _, _, e => by cases vs <;> simp [typ] at e
  | .l t0 :: fs, [], _, a, t, b, _, e => b.elim
  | .l t0 :: fs, sv :: svs, _, a, t, b, .cons r rs, e => by
    cases sv with
    | obj o =>
      cases o with
      | dct _ => exact b.elim
      | gdc _ => exact b.elim
      | lst xs =>
      obtain ⟨⟨ns, rfl, ht⟩, b⟩ := b
      obtain ⟨c, ws, rfl, h, n1, n2, q⟩ := r
      cases rps_ints q
      unfold typ at e
      by_cases hac : a = c
      · rw [if_pos hac] at e
        cases e; subst hac
        exact ⟨0, ns, rfl, rfl, h, n1, n2, ht⟩
      · rw [if_neg hac] at e
        obtain ⟨i, ms, h1, h2, h3⟩ := typ_some b rs e
        exact ⟨i + 1, ms, by simpa using h1, by simpa using h2, h3⟩
    | dat d => exact b.elim
    | raw d => exact b.elim
    | scr d => exact b.elim
    | exc _ _ _ _ => exact b.elim
  | .i :: fs, [], _, a, t, b, _, e => b.elim
  | .i :: fs, sv :: svs, _, a, t, b, .cons r rs, e => by
    cases sv with
    | dat d =>
      cases d with
      | int n =>
        cases r
        have b : BoxOk fs svs := b
        unfold typ at e
        obtain ⟨i, ms, h1, h2, h3⟩ := typ_some b rs e
        exact ⟨i + 1, ms, by simpa using h1, by simpa using h2, h3⟩
      | _ => exact b.elim
    | obj d => exact b.elim
    | raw d => exact b.elim
    | scr d => exact b.elim
    | exc _ _ _ _ => exact b.elim
theorem fld_of : ∀ {fs : List RF} {svs : List SV} {vs : List V} {zs : Addr → Option Nat}, BoxOk fs svs → RSs K g H svs vs →
    (∀ (i j : Nat) (xs ys : OwnC) (a : Addr), svs[i]? = some (.obj xs) → svs[j]? = some (.obj ys) → vs[i]? = some (.ref a) → vs[j]? = some (.ref a) → i = j) →
    (∀ a t, typ fs vs a = some t → zs a = some t) → Fld zs fs vs
  | [], [], _, zs, _, .nil, _, _ => True.intro
  | [], _ :: _, _, zs, b, _, _, _ => b.elim
  | .l t0 :: fs, [], _, zs, b, _, _, _ => b.elim
  | .l t0 :: fs, sv :: svs, _, zs, b, .cons r rs, d, h => by
    cases sv with
    | obj o =>
      cases o with
      | dct _ => exact b.elim
      | gdc _ => exact b.elim
      | lst xs =>
      obtain ⟨⟨ns, rfl, ht⟩, b⟩ := b
      obtain ⟨c, ws, rfl, hc, n1, n2, q⟩ := r
      refine ⟨h c t0 (by unfold typ; rw [if_pos rfl]), fld_of b rs (fun i j xs ys a e1 e2 e3 e4 => ?_) fun a t e => h a t ?_⟩
      · have := d (i + 1) (j + 1) xs ys a (by simpa using e1) (by simpa using e2) (by simpa using e3) (by simpa using e4)
        omega
      · unfold typ
        by_cases hac : a = c
        · subst hac
          exfalso
          obtain ⟨i, ms, e1, e2, _⟩ := typ_some b rs e
          have := d 0 (i + 1) _ _ a rfl (by simpa using e1) rfl (by simpa using e2)
          omega
        · rw [if_neg hac]; exact e
    | dat d => exact b.elim
    | raw d => exact b.elim
    | scr d => exact b.elim
    | exc _ _ _ _ => exact b.elim
  | .i :: fs, [], _, zs, b, _, _, _ => b.elim
  | .i :: fs, sv :: svs, _, zs, b, .cons r rs, d, h => by
    cases sv with
    | dat dd =>
      cases dd with
      | int n =>
        cases r
        have b : BoxOk fs svs := b
        refine fld_of (fs := fs) b rs (fun i j xs ys a e1 e2 e3 e4 => ?_) fun a t e => h a t (by unfold typ; exact e)
        have := d (i + 1) (j + 1) xs ys a (by simpa using e1) (by simpa using e2) (by simpa using e3) (by simpa using e4)
        omega
      | _ => exact b.elim
    | obj d => exact b.elim
    | raw d => exact b.elim
    | scr d => exact b.elim
    | exc _ _ _ _ => exact b.elim
theorem Fld.mono {zs zs' : Addr → Option Nat} (m : ∀ a t, zs a = some t → zs' a = some t) : ∀ {fs : List RF} {vs : List V}, Fld zs fs vs → Fld zs' fs vs
  | [], [], _ => True.intro
  | .l t :: fs, .ref a :: vs, h => ⟨m _ _ h.1, Fld.mono m h.2⟩
  | .i :: fs, .int _ :: vs, h => by
    have h : Fld zs fs vs := h
    exact Fld.mono (fs := fs) m h
theorem ZPu.mono {zs zs' : Addr → Option Nat} {t : Nat} {o : HO} (m : ∀ a t, zs a = some t → zs' a = some t) (h : ZPu t zs o) : ZPu t zs' o := by
  rcases h with h | h | ⟨fs, vs, e1, e2, h⟩ | ⟨ks, fs, vs, e1, e2, h⟩
  · exact .inl h
  · exact .inr (.inl h)
  · exact .inr (.inr (.inl ⟨fs, vs, e1, e2, h.mono m⟩))
  · exact .inr (.inr (.inr ⟨ks, fs, vs, e1, e2, h.mono m⟩))
theorem BoxOk.length : ∀ {fs : List RF} {svs : List SV}, BoxOk fs svs → fs.length = svs.length
  | [], [], _ => rfl
  | .l t :: fs, .obj (.lst xs) :: svs, h => by simp [BoxOk.length h.2]
  | .i :: fs, .dat (.int _) :: svs, h => by
    have h : BoxOk fs svs := h
    simp [BoxOk.length h]
end
/-- return [..], a box of kind t -/
def t_retbox (t : Nat) (ts : TSA) : TSD := fun D cs => ts cs fun svs _ => ∃ fs, shp t = some fs ∧ svs.length ≤ sizeLine ∧ BoxOk fs svs ∧ D.rt (.raw t)
section
variable {X : Cx} {es : List Expr} {ts : TSA} {p pos : Pos} {t : Nat}
theorem ds_retbox {bs : Bs → Prop} (h : DX X ⟨ZPu, bs⟩ es ts) : DS X ⟨ZPu, bs⟩ (.Return (some (.List es p)) pos) (t_retbox t ts) := by
  refine ⟨PS.imp (ps_ret (pe_lst h.pa)) ?_⟩
  rintro D σ H ⟨B, cs, g, R, D', q, pp⟩
  refine ⟨B, cs, g, R, _, q, fun svs cs1 vs g1 H1 q1 R1 r1 t1 d1 s1 f1 => ?_⟩
  obtain ⟨fs, hsh, hl, hb, hrt⟩ := q1
  refine ⟨by rw [← Paired.length r1]; exact hl, fun p hp => ?_⟩
  have np := R1.nofz hp
  -- the new region
  let zs' : Addr → Option Nat := fun a => if a = p then some t else match typ fs vs a with
    | some u => some u
    | none => g1.zs a
  have tf : ∀ a u, typ fs vs a = some u → H a = none ∧ ¬ ow cs1 σ a ∧ ¬ g1.fz a ∧ g1.zs a = none ∧ a ≠ p ∧ ∃ ns : List Int, H1 a = some (.lst (ns.map V.int)) ∧ ((u = 2 ∧ ns.length ≤ 1000) ∨ (u = 3 ∧ ns ≠ [])) := fun a u e => by
    obtain ⟨i, ns, e1, e2, h1, n1, n2, ht⟩ := typ_some hb r1 e
    obtain ⟨m1, m2⟩ := t1 i _ a e1 e2
    exact ⟨m2, m1, n1, n2, (fun z => by subst z; rw [hp] at h1; cases h1), ns, h1, ht⟩
  have zm : ∀ a u, g1.zs a = some u → zs' a = some u := fun a u e => by
    have hne : a ≠ p := fun z => by subst z; rw [np.2] at e; cases e
    show (if a = p then some t else _) = _
    rw [if_neg hne]
    cases e1 : typ fs vs a with
    | none => exact e
    | some u' => rw [(tf a u' e1).2.2.2.1] at e; cases e
  have zn : ∀ a, a ≠ p → typ fs vs a = none → zs' a = g1.zs a := fun a h1 h2 => by
    show (if a = p then some t else _) = _
    rw [if_neg h1, h2]
  have zt : ∀ a u, typ fs vs a = some u → zs' a = some u := fun a u e => by
    show (if a = p then some t else _) = _
    rw [if_neg (tf a u e).2.2.2.2.1, e]
  have f2 : Frm (ow cs1 σ) g1 H1 { g1 with zs := zs' } (upd H1 p (.lst vs)) → True := fun _ => True.intro
  have keep : ∀ a o, H1 a = some o → upd H1 p (.lst vs) a = some o := fun a o e => by rw [upd_ne (ne_of_none e hp)]; exact e
  have R2 : Rel X.kw ⟨ZPu, bs⟩ B { g1 with zs := zs' } (upd H1 p (.lst vs)) cs1 σ := by
    refine ⟨R1.len, fun i sv e => ?_, R1.sep, fun a u z => ?_, fun a z => ?_, ?_, R1.fresh, R1.bs⟩
    · obtain ⟨v, e1, r⟩ := R1.slot i sv e
      refine ⟨v, e1, ?_⟩
      cases sv with
      | dat d => exact Rp.go (fun _ h => h) (fun a o _ e => keep a o e) (fun a xs h => updn hp h) r
      | obj xs =>
        refine r.objGo (fun _ h => h) (fun a o _ e => keep a o e) (fun a xs h => updn hp h) fun a u e3 h m1 m2 => ⟨keep _ _ h, m1, ?_⟩
        subst e3
        show zs' a = none
        rw [zn a (ne_of_none h hp) ?_]
        · exact m2
        · cases e2 : typ fs vs a with
          | none => rfl
          | some u => exact absurd ⟨i, xs, e, e1⟩ (tf a u e2).2.1
      | raw u => obtain ⟨a, rfl, h⟩ := r; exact ⟨a, rfl, zm a u h⟩
      | exc a n d fs => exact ⟨r.1, r.2.go (fun _ h => h) (fun a o _ e => keep a o e) (fun a xs h => updn hp h)⟩
      | scr ns =>
        obtain ⟨a, rfl, h⟩ := r
        refine ⟨a, rfl, ?_⟩
        rcases h with ⟨h1, o, h2⟩ | h
        · exact .inl ⟨h1, o, keep _ _ h2⟩
        · exact .inr h
    · have z : zs' a = some u := z
      by_cases hap : a = p
      · subst hap
        have : zs' a = some t := by show (if a = a then some t else _) = _; rw [if_pos rfl]
        rw [this] at z; cases z
        exact ⟨_, upd_same, .inr (.inr (.inl ⟨fs, vs, hsh, rfl, fld_of hb r1 d1 zt⟩))⟩
      · cases e1 : typ fs vs a with
        | some u' =>
          rw [zt a u' e1] at z; cases z
          obtain ⟨_, _, _, _, hne, ns, h1, ht⟩ := tf a u e1
          refine ⟨_, keep _ _ h1, ?_⟩
          rcases ht with ⟨rfl, hn⟩ | ⟨rfl, hn⟩
          · exact .inl ⟨rfl, ns, hn, rfl⟩
          · exact .inr (.inl ⟨rfl, ns, hn, rfl⟩)
        | none =>
          rw [zn a hap e1] at z
          obtain ⟨o, e, q⟩ := R1.zok a u z
          exact ⟨o, keep _ _ e, q.mono zm⟩
    · obtain ⟨⟨o, e⟩, h⟩ := R1.fzok a z
      refine ⟨⟨o, keep _ _ e⟩, ?_⟩
      show zs' a = none
      rw [zn a (ne_of_none e hp) ?_]
      · exact h
      · cases e2 : typ fs vs a with
        | none => rfl
        | some u => exact absurd z (tf a u e2).2.2.1
    · have bn : ∀ a o, B.1 a = some o → a ≠ p ∧ typ fs vs a = none := fun a o e => by
        refine ⟨fun z => ?_, ?_⟩
        · subst z; rw [R1.bnone hp] at e; cases e
        · cases e2 : typ fs vs a with
          | none => rfl
          | some u => rw [R.bnone (tf a u e2).1] at e; cases e
      refine ⟨fun a o e z n => keep _ _ (R1.base.keep a o e z n), R1.base.fzm, fun a u z => zm a u (R1.base.zsm a u z), R1.base.fzn, fun a o e z => ?_, fun a xs h => updn hp (R1.base.tups a xs h), fun a o e => ?_⟩
      · show zs' a = none
        rw [zn a (bn a o e).1 (bn a o e).2]
        exact R1.base.zsn a o e z
      · obtain ⟨o', e'⟩ := R1.base.any a o e
        exact ⟨o', keep _ _ e'⟩
  have st : Stay g H { g1 with zs := zs' } (upd H1 p (.lst vs)) := by
    have st1 := f1.stay R.fzow
    exact ⟨st1.fzm, fun a o h e => keep _ _ (st1.keep a o h e), fun a xs h => updn hp (st1.tups a xs h)⟩
  refine pp.rt (.raw t) (.ref p) cs1 σ _ _ R2 st ⟨p, rfl, ?_⟩ (fun xs a e => nomatch e) hrt
  show (if p = p then some t else _) = _
  rw [if_pos rfl]
end
end Cl

namespace Cl
open PySem PySem.Spec PyProof.Rows L2

/-! ### a thing of the region is changed -/
section
variable {g : GW} {H H1 H2 : Hp} {p : Addr} {t : Nat} {o o' : HO}
structure Step (g : GW) (H H' : Hp) : Prop where
  ok : GOk ZPu g H'
  fr : Frm (fun _ => False) g H g H'
theorem Step.refl (G : GOk ZPu g H) : Step g H H := ⟨G, .refl⟩
theorem Step.trans (a : Step g H H1) (b : Step g H1 H2) : Step g H H2 := ⟨b.ok, a.fr.trans b.fr⟩
theorem Step.region' (G : GOk ZPu g H) (hz : g.zs p = some t) {o : HO} (h : H p = some o) (ht : ∀ xs, o ≠ .tup xs) (hf : ∀ b u, o ≠ .frz b u) (n : ZPu t g.zs o') : Step g H (upd H p o') := by
  have any : ∀ a u, H a = some u → ∃ u', upd H p o' a = some u' := fun a u e => by
    by_cases hp : a = p
    · subst hp; exact ⟨_, upd_same⟩
    · exact ⟨u, by rw [upd_ne hp]; exact e⟩
  refine ⟨⟨fun a u z => ?_, fun a z => ?_⟩, ⟨fun a u e z _ => ?_, fun _ h => h, fun _ _ h => h, fun _ _ _ _ h => h, fun _ _ _ h => h, fun a xs q => ?_, any⟩⟩
  · by_cases hp : a = p
    · subst hp; rw [hz] at z; cases z; exact ⟨_, upd_same, n⟩
    · rw [upd_ne hp]; exact G.zok a u z
  · obtain ⟨⟨u, e⟩, q⟩ := G.fzok a z
    exact ⟨any a u e, q⟩
  · rw [upd_ne (fun q => by subst q; rw [hz] at z; cases z)]; exact e
  · have hne : a ≠ p := fun e => by
      subst e
      rw [h] at q; exact ht _ (Option.some.inj q)
    rw [upd_ne hne]; exact q
theorem Step.region (G : GOk ZPu g H) (hz : g.zs p = some t) {vs : List V} (h : H p = some (.lst vs)) (n : ZPu t g.zs o') : Step g H (upd H p o') :=
  Step.region' G hz h (fun _ e => by cases e) (fun _ _ e => by cases e) n
theorem Step.laid (G : GOk ZPu g H) (hp : H p = none) : Step g H (upd H p o) := by
  refine ⟨⟨fun a u z => ?_, fun a z => ?_⟩, .laid hp⟩
  · obtain ⟨w, e, q⟩ := G.zok a u z
    exact ⟨w, by rw [upd_ne (ne_of_none e hp)]; exact e, q⟩
  · obtain ⟨⟨w, e⟩, q⟩ := G.fzok a z
    exact ⟨⟨w, by rw [upd_ne (ne_of_none e hp)]; exact e⟩, q⟩
theorem ints_of_two (G : GOk ZPu g H) (h : g.zs p = some 2) : ∃ ns : List Int, ns.length ≤ 1000 ∧ H p = some (.lst (ns.map V.int)) := by
  obtain ⟨o, e, h | h | ⟨fs, vs, e1, _⟩ | ⟨ks, fs, vs, e1, _⟩⟩ := G.zok p 2 h
  · obtain ⟨_, ns, hn, rfl⟩ := h; exact ⟨ns, hn, e⟩
  · obtain ⟨h, _⟩ := h; cases h
  · cases e1
  · cases e1
theorem ints_of_three (G : GOk ZPu g H) (h : g.zs p = some 3) : ∃ ns : List Int, ns ≠ [] ∧ H p = some (.lst (ns.map V.int)) := by
  obtain ⟨o, e, h | h | ⟨fs, vs, e1, _⟩ | ⟨ks, fs, vs, e1, _⟩⟩ := G.zok p 3 h
  · obtain ⟨h, _⟩ := h; cases h
  · obtain ⟨_, ns, hn, rfl⟩ := h; exact ⟨ns, hn, e⟩
  · cases e1
  · cases e1
theorem box_of {fs : List RF} (G : GOk ZPu g H) (h : g.zs p = some t) (e : shp t = some fs) (hd : dshp t = none := by rfl) : ∃ vs, H p = some (.lst vs) ∧ Fld g.zs fs vs := by
  obtain ⟨o, e0, h | h | ⟨fs', vs, e1, rfl, f⟩ | ⟨ks, fs', vs, e1, _⟩⟩ := G.zok p t h
  · obtain ⟨rfl, _⟩ := h; cases e
  · obtain ⟨rfl, _⟩ := h; cases e
  · rw [e] at e1; cases e1; exact ⟨vs, e0, f⟩
  · rw [hd] at e1; cases e1
theorem dbox_of {ks : List Str} {fs : List RF} (G : GOk ZPu g H) (h : g.zs p = some t) (e : dshp t = some (ks, fs)) (hd : shp t = none := by rfl) : ∃ vs, H p = some (.dK ((ks.map Sum.inr).zip vs)) ∧ Fld g.zs fs vs := by
  obtain ⟨o, e0, h | h | ⟨fs', vs, e1, _⟩ | ⟨ks, fs', vs, e1, rfl, f⟩⟩ := G.zok p t h
  · obtain ⟨rfl, _⟩ := h; cases e
  · obtain ⟨rfl, _⟩ := h; cases e
  · rw [hd] at e1; cases e1
  · rw [e] at e1; cases e1; exact ⟨vs, e0, f⟩
end

/-! ### ints, told at once -/
section
variable {K : KW} {H : Hp} {Q : VK} {o : OpX} {c : C1X} {i j k : Int} {b : Bool}
theorem rOi (k : Int) (h : ∀ Q' : SV → Prop, Q' (.dat (.int k)) → o (.int i) (.int j) Q') (q : Q (.int k) H) : rO K o (.int i) (.int j) H Q :=
  ⟨fun _ => False, .int i, .int j, Rp.rb (.int i), Rp.rb (.int j), (fun sv => sv = .dat (.int k)), h _ rfl, fun sv z H' e r => by
    subst e
    cases r with
    | same r => cases r; exact q⟩
theorem rOb (b : Bool) (h : ∀ Q' : SV → Prop, Q' (.dat (.bool b)) → o (.int i) (.int j) Q') (q : Q (.bl b) H) : rO K o (.int i) (.int j) H Q :=
  ⟨fun _ => False, .int i, .int j, Rp.rb (.int i), Rp.rb (.int j), (fun sv => sv = .dat (.bool b)), h _ rfl, fun sv z H' e r => by
    subst e
    cases r with
    | same r => cases r; exact q⟩
theorem rCi (k : Int) (h : ∀ Q' : SV → Prop, Q' (.dat (.int k)) → c (.int i) Q') (q : Q (.int k) H) : rC1 K c [.int i] H Q :=
  ⟨_, fun _ => False, .int i, rfl, Rp.rb (.int i), (fun sv => sv = .dat (.int k)), h _ rfl, fun sv z H' e r => by
    subst e
    cases r with
    | same r => cases r; exact q⟩
theorem rClen {a : Addr} {ns : List Int} (h : H a = some (.lst (ns.map V.int))) (q : Q (.int (ns.length : Nat)) H) : rC1 K lenX [.ref a] H Q :=
  ⟨_, fun _ => False, .list (ns.map .int), rfl, ⟨a, _, rfl, h, RpAll.ints ns⟩, (fun sv => sv = .dat (.int (ns.length : Nat))), by show _ = _; rw [List.length_map], fun sv z H' e r => by
    subst e
    cases r with
    | same r => cases r; exact q⟩
theorem canInts : ∀ ns : List Int, PyData.canLayAll0 (ns.map .int) = true
  | [] => by simp [PyData.canLayAll0]
  | n :: ns => by simp [PyData.canLayAll0, PyData.canLay0, canInts ns]
theorem depInts : ∀ ns : List Int, PyData.depthAll (ns.map .int) ≤ 1
  | [] => by simp [PyData.depthAll]
  | n :: ns => by have := depInts ns; simp [PyData.depthAll, PyData.depth]; omega
theorem shaped_ints (ns : List Int) : SeqAt.shaped (.list (ns.map .int)) = true := by
  unfold SeqAt.shaped
  have := depInts ns
  simp [PyData.canLay0, canInts, PyData.depth]
  omega
theorem rNeNil {a p : Addr} {ns : List Int} (h : H a = some (.lst (ns.map V.int))) (hp : H p = some (.lst [])) (q : Q (.bl (!ns.isEmpty)) H) : rO K neX (.ref a) (.ref p) H Q := by
  refine ⟨fun _ => False, .list (ns.map .int), .list [], ⟨a, _, rfl, h, RpAll.ints ns⟩, ⟨p, _, rfl, hp, .nil⟩, (fun sv => sv = .dat (.bool (!ns.isEmpty))), ⟨shaped_ints ns, shaped_ints [], ?_⟩, fun sv z H' e r => by
    subst e
    cases r with
    | same r => cases r; exact q⟩
  cases ns <;> rfl
theorem rIx0 {K : PySem.W.Frag} {a : Addr} {xs : List V} {v : V} (h : H a = some (.lst xs)) (i : Int) (e : atI xs i = some v) (q : Q v H) : rIxL K (.ref a) (.int i) H Q := ⟨a, xs, i, v, rfl, rfl, SqL.of h, e, q⟩
end
section
variable {X : Cx} {x : Str} {pos : Pos}
theorem pvn (i : Nat) (hN : X.N[i]? = some x := by rfl) (hv : Vis X.env.scope x := by first | exact Or.inl rfl | exact Or.inr (Or.inl rfl) | exact Or.inr (Or.inr rfl)) (hd : (x == ("__debug__" : Str)) = false := by decide)
    (hcd : (x == ("__classdict__" : Str)) = false := by decide) : PE X (.Name x pos) (tVar i) := pe_var hN hv hd hcd
theorem pgn (i : Nat) (hN : X.N.Nodup) (hi : X.N[i]? = some x := by rfl) (hx : Loc X.env.scope x := by first | exact Or.inl rfl | exact Or.inr rfl) (hf : X.fn x = true ∨ X.env.scope.names.lookup x = some .local := by first | exact .inl rfl | exact .inr rfl) : PG X (.Name x pos) (gName i) := pg_name hN hi hx hf
end
theorem atInt {ns : List Int} {i : Int} (h1 : 0 ≤ i) (h2 : i < (ns.length : Nat)) : ∃ c, atI (ns.map V.int) i = some (.int c) := by
  have h : i.toNat < ns.length := by omega
  refine ⟨ns[i.toNat], ?_⟩
  unfold atI ixN
  rw [List.length_map]
  rw [if_pos h1, if_pos h2]
  simp [h]
theorem fdiv_small {n : Int} (h : n < 2 ^ 60) (h0 : 0 < n := by first | assumption | decide) : n.natAbs < 2 ^ 9000 :=
  Nat.lt_of_lt_of_le (show n.natAbs < 2 ^ 60 by omega) (Nat.pow_le_pow_right (by decide) (by decide))
theorem mulOk_r {a b : Int} (h1 : -(2 ^ 64) < b) (h2 : b < 2 ^ 64) : IntMulOk a b := IntMulOk.of_right (intBits_le_64 h1 h2)
theorem mulOk_l {a b : Int} (h1 : -(2 ^ 64) < a) (h2 : a < 2 ^ 64) : IntMulOk a b := IntMulOk.of_left (intBits_le_64 h1 h2)
/-- the contract of a draw: any number below the size -/
def drawC (t : Nat) : TF := fun svs Q => svs.length = 2 ∧ ∃ n : Int, svs = [.raw t, .dat (.int n)] ∧ 0 < n ∧ n < 2 ^ 60 ∧ ∀ r : Int, 0 ≤ r → r < n → Q (.dat (.int r))
theorem draw_in {K : KW} {t : Nat} {vs : List V} {H : Hp} {Q : VK} {E : XK} (h : spD K ZPu 2 (drawC t) vs H Q E) :
    ∃ (a : Addr) (n : Int) (g : GW), vs = [.ref a, .int n] ∧ g.zs a = some t ∧ GOk ZPu g H ∧ 0 < n ∧ n < 2 ^ 60 ∧ ∀ r H', 0 ≤ r → r < n → Step g H H' → Q (.int r) H' := by
  obtain ⟨hl, svs, g, r, st, G, Q', ⟨_, n, rfl, h1, h2, q⟩, k⟩ := h
  cases r with
  | cons r r2 =>
    cases r2 with
    | cons r2 r3 =>
      cases r3
      obtain ⟨a, rfl, hz⟩ := r
      cases r2
      refine ⟨a, n, g, rfl, hz, G, h1, h2, fun r H' h3 h4 s => k _ _ g H' (q r h3 h4) s.ok (.int r) (fun xs b e => nomatch e) s.fr⟩
section
variable {X : Cx} {ZP : ZT} {pos : Pos}
theorem dspar {x y : Str} {a b : Expr} {td te : TD} {px py pt : Pos} {kt k2 : Nat} {pt2 : Pos} (i j : Nat) (hN : X.N.Nodup) (ha : DE X ZP a td) (hb : DE X ZP b te) (hc : X.calm = true := by rfl) (hi : X.N[i]? = some x := by rfl) (hj : X.N[j]? = some y := by rfl) (hij : i ≠ j := by decide)
    (hx : X.env.scope.names.lookup x = some .local := by rfl) (hy : X.env.scope.names.lookup y = some .local := by rfl)
    (hw : swappedStores [.Tuple [.Name x px, .Name y py] kt pt] (.Tuple [a, b] k2 pt2) X.env = pure (some [x, y]) := by rfl)
    (hs : swapsWithSole [.Tuple [.Name x px, .Name y py] kt pt] (.Tuple [a, b] k2 pt2) pos.line X.env = pure false := by rfl)
    (hs1 : starEach [a, b] X.env = (false, eval a X.env) :: starEach [b] X.env := by rfl) (hs2 : starEach [b] X.env = (false, eval b X.env) :: starEach [] X.env := by rfl) :
    DS X ZP (.Assign [.Tuple [.Name x px, .Name y py] kt pt] (.Tuple [a, b] k2 pt2) pos) (t_par i j td te) := ds_par hc hN hi hj hij hx hy ha hb hw hs hs1 hs2
end
end Cl

namespace Cl
open PySem PySem.Spec PyProof.Rows L2

/-! ### repr of data that hold lists and dicts -/
section
variable {X : Cx} {pins : List (Addr × Obj)} {σ : L2.St} {H : Hp} {s : Shared} {fz : Addr → Prop}
def RK (X : Cx) (s : Shared) (d : PyData) (u : Value) : Prop := ∃ B, ReadAtMost s.heap d.depth B ∧ ReprK X.prog X.w B s.heap d.depth u d.shown
def RKs (X : Cx) (s : Shared) (ds : List PyData) (us : List Value) : Prop := ∃ B, ReadAtMost s.heap (PyData.depthAll ds) B ∧ ReprAllK X.prog X.w B s.heap (PyData.depthAll ds) us (PyData.shownAll ds)
theorem rks_nil : RKs X s [] [] := ⟨[], (fun _ z => by cases z), by simp only [PyData.shownAll]; exact ReprAllK.nil⟩
theorem rks_cons {d : PyData} {ds : List PyData} {u : Value} {us : List Value} (h1 : RK X s d u) (h2 : RKs X s ds us) : RKs X s (d :: ds) (u :: us) := by
  obtain ⟨B1, a1, k1⟩ := h1
  obtain ⟨B2, a2, k2⟩ := h2
  refine ⟨B1 ++ B2, fun b hb => ?_, ?_⟩
  · simp only [PyData.depthAll]
    rcases List.mem_append.mp hb with hb | hb
    · obtain ⟨e, as, r, le⟩ := a1 b hb
      exact ⟨e, as, r, by omega⟩
    · obtain ⟨e, as, r, le⟩ := a2 b hb
      exact ⟨e, as, r, by omega⟩
  · simp only [PyData.depthAll, PyData.shownAll]
    have m1 : PyData.depth d ≤ max (PyData.depth d) (PyData.depthAll ds) := Nat.le_max_left _ _
    have m2 : PyData.depthAll ds ≤ max (PyData.depth d) (PyData.depthAll ds) := Nat.le_max_right _ _
    exact .cons ((k1.more fun b z => List.mem_append_left _ z).level_le m1) (k2.more_le (fun b z => List.mem_append_right _ z) m2)
theorem rk_list {a : Addr} {ds : List PyData} {its : List Value} {n : Nat} {as : List Addr} (e : s.heap.get? a = some { cls := .type "list", data := .seq its.toArray n }) (hr : Reads s.heap (.ref a) (.list ds) as) (h : RKs X s ds its) : RK X s (.list ds) (.ref a) := by
  obtain ⟨B, hb, hk⟩ := h
  have no : a ∉ B := not_mem_of_deeper hr (show PyData.depthAll ds < _ by simp only [PyData.depth]; omega) hb
  refine ⟨a :: B, ReadAtMost.cons hr (Nat.le_refl _) (fun b z => let ⟨d, as, r, q⟩ := hb b z; ⟨d, as, r, by simp only [PyData.depth]; omega⟩), ?_⟩
  simp only [PyData.depth, PyData.shown]
  cases its with
  | nil =>
    cases hr with
    | list g1 g2 g3 g4 =>
      rw [e] at g1; cases g1
      cases g3
      cases g4
      simp only [PyData.shownAll, listText_nil]
      exact ReprK.listEmpty e rfl rfl
  | cons x l => exact ReprK.list e rfl rfl no (by simpa using hk.length_eq) (fun i y z => hk.item i y (by simpa using z))
theorem rk_tuple {a : Addr} {ds : List PyData} {its : List Value} {as : List Addr} (e : IsTup s.heap a its.toArray) (hr : Reads s.heap (.ref a) (.tuple ds) as) (h : RKs X s ds its) : RK X s (.tuple ds) (.ref a) := by
  obtain ⟨B, hb, hk⟩ := h
  obtain ⟨o, g1, g2, n, g3⟩ := e
  have no : a ∉ B := not_mem_of_deeper hr (show PyData.depthAll ds < _ by simp only [PyData.depth]; omega) hb
  refine ⟨a :: B, ReadAtMost.cons hr (Nat.le_refl _) (fun b z => let ⟨d, as, r, q⟩ := hb b z; ⟨d, as, r, by simp only [PyData.depth]; omega⟩), ?_⟩
  simp only [PyData.depth, PyData.shown]
  exact ReprK.tuple g1 g2 g3 no hk
theorem rk_dict {a : Addr} {kvs : List (PyData × PyData)} {es : List DictEntry} {as : List Addr} {ep : Nat} (e : DictHas a ep es s.heap) (hr : Reads s.heap (.ref a) (.dict kvs) as)
    (h1 : RKs X s (kvs.map (·.1)) (es.map (·.key))) (h2 : RKs X s (kvs.map (·.2)) (es.map (·.val))) : RK X s (.dict kvs) (.ref a) := by
  obtain ⟨ne, o, g1, g2, g3⟩ := e
  obtain ⟨B1, a1, k1⟩ := h1
  obtain ⟨B2, a2, k2⟩ := h2
  have hb : ReadAtMost s.heap (PyData.depthKv kvs) (B1 ++ B2) := (a1.mono (PyData.depthAll_keys_le kvs)).append (a2.mono (PyData.depthAll_vals_le kvs))
  have no : a ∉ B1 ++ B2 := not_mem_of_deeper hr (show PyData.depthKv kvs < _ by simp only [PyData.depth]; omega) hb
  refine ⟨a :: (B1 ++ B2), ReadAtMost.cons hr (Nat.le_refl _) (fun b z => let ⟨d, as, r, q⟩ := hb b z; ⟨d, as, r, by simp only [PyData.depth]; omega⟩), ?_⟩
  simp only [PyData.depth, PyData.shown, PyData.shownKv_eq]
  exact ReprK.dict g1 g2.1 g3 (beq_eq_false_iff_ne.mpr ne) no (ReprEntriesK.of_two es _ _ (k1.more_le (fun b z => List.mem_append_left _ z) (PyData.depthAll_keys_le kvs)) (k2.more_le (fun b z => List.mem_append_right _ z) (PyData.depthAll_vals_le kvs)))
theorem rk_flat {d : PyData} {u : Value} (h : ReprIs X.prog X.w u d.shown) : RK X s d u := ⟨[], (fun _ z => by cases z), .of_is h _ _ _⟩
theorem szL {ds : List PyData} (h : (PyData.shown (.list ds)).length ≤ sizeLine) : ∀ t ∈ PyData.shownAll ds, t.length ≤ sizeLine := fun t ht => by
  simp only [PyData.shown] at h
  exact Nat.le_trans (listText_mem_le ht) h
theorem szT {ds : List PyData} (h : (PyData.shown (.tuple ds)).length ≤ sizeLine) : ∀ t ∈ PyData.shownAll ds, t.length ≤ sizeLine := fun t ht => by
  simp only [PyData.shown] at h
  exact Nat.le_trans (tupleText_mem_le ht) h
theorem szD {kvs : List (PyData × PyData)} (h : (PyData.shown (.dict kvs)).length ≤ sizeLine) : (∀ t ∈ PyData.shownAll (kvs.map (·.1)), t.length ≤ sizeLine) ∧ ∀ t ∈ PyData.shownAll (kvs.map (·.2)), t.length ≤ sizeLine := by
  simp only [PyData.shown] at h
  refine ⟨fun t ht => ?_, fun t ht => ?_⟩
  · obtain ⟨p, h1, h2⟩ := PyData.shownKv_key_le kvs t ht
    have := dictText_mem_le h1; omega
  · obtain ⟨p, h1, h2⟩ := PyData.shownKv_val_le kvs t ht
    have := dictText_mem_le h1; omega
mutual
theorem Rp.rk (I : L2.Inv X pins σ H s) : ∀ (d : PyData) (v : V) (u : Value), Rp X.kw H fz d v → RelV v u → d.showable = true → d.shown.length ≤ sizeLine → RK X s d u
  | .none, _, _, h, r, hs, hz => by cases h; cases r; exact rk_flat (by simp only [PyData.shown]; exact ReprIs.none)
  | .bool b, _, _, h, r, hs, hz => by cases h; cases r; exact rk_flat (by simp only [PyData.shown]; exact ReprIs.bool b)
  | .int i, _, _, h, r, hs, hz => by cases h; obtain ⟨t, rfl⟩ := r; exact rk_flat (by simp only [PyData.shown]; exact ReprIs.int t (by simpa [PyData.showable] using hs))
  | .str x, _, _, h, r, hs, hz => by cases h; obtain ⟨t, rfl⟩ := r; exact rk_flat (by simp only [PyData.shown] at hz ⊢; exact ReprIs.str x t hz)
  | .list ds, v, u, h, r, hs, hz => by
    have h0 := h
    cases h with
    | @lst a xs _ hf hq ha =>
      cases r
      obtain ⟨_, its, n, rv, e⟩ := Inv.lstR I hq
      obtain ⟨as, hr, _⟩ := Rp.reads I (.list ds) _ (.ref a) h0 rfl
      exact rk_list e hr (Rp.rks I ds _ its ha rv (by simpa [PyData.showable] using hs) (szL hz))
  | .tuple ds, v, u, h, r, hs, hz => by
    have h0 := h
    cases h with
    | @tup a xs _ hq ha =>
      cases r
      obtain ⟨its, rv, ht, _⟩ := I.tuple (SqT.of hq)
      obtain ⟨as, hr, _⟩ := Rp.reads I (.tuple ds) _ (.ref a) h0 rfl
      exact rk_tuple ht hr (Rp.rks I ds _ its ha rv (by simpa [PyData.showable] using hs) (szT hz))
  | .dict kvs, v, u, h, r, hs, hz => by
    have h0 := h
    cases h with
    | @dct a ep es ks vs _ hf hq k1 v1 r1 r2 _ =>
      cases r
      obtain ⟨hd, _⟩ := I.hok a _ hq
      obtain ⟨as, hr, _⟩ := Rp.reads I (.dict kvs) _ (.ref a) h0 rfl
      obtain ⟨hs1, hs2⟩ := PyData.showableKv_split kvs (by simpa [PyData.showable] using hs)
      obtain ⟨z1, z2⟩ := szD hz
      exact rk_dict hd hr (Rp.rkKey I kvs _ _ r1 k1 hs1 z1) (Rp.rkVal I kvs _ _ r2 v1 hs2 z2)
theorem Rp.rks (I : L2.Inv X pins σ H s) : ∀ (ds : List PyData) (vs : List V) (us : List Value), RpAll X.kw H fz ds vs → Vals vs us → PyData.showableAll ds = true → (∀ t ∈ PyData.shownAll ds, t.length ≤ sizeLine) → RKs X s ds us
  | [], _, _, h, r, _, _ => by cases h; cases r; exact rks_nil
  | d :: ds, _, _, h, r, hs, hz => by
    cases h with
    | cons h1 h2 =>
      cases r with
      | cons r1 r2 =>
        have hs : d.showable = true ∧ PyData.showableAll ds = true := by simpa [PyData.showableAll] using hs
        have z : ∀ t ∈ d.shown :: PyData.shownAll ds, t.length ≤ sizeLine := by simpa only [PyData.shownAll] using hz
        exact rks_cons (Rp.rk I d _ _ h1 r1 hs.1 (z _ List.mem_cons_self)) (Rp.rks I ds _ _ h2 r2 hs.2 fun t ht => z t (List.mem_cons_of_mem _ ht))
theorem Rp.rkKey (I : L2.Inv X pins σ H s) : ∀ (kvs : List (PyData × PyData)) (vs : List V) (us : List Value), RpAll X.kw H fz (kvs.map (·.1)) vs → Vals vs us → PyData.showableAll (kvs.map (·.1)) = true → (∀ t ∈ PyData.shownAll (kvs.map (·.1)), t.length ≤ sizeLine) → RKs X s (kvs.map (·.1)) us
  | [], _, _, h, r, _, _ => by cases h; cases r; exact rks_nil
  | (d, e) :: ds, _, _, h, r, hs, hz => by
    cases h with
    | cons h1 h2 =>
      cases r with
      | cons r1 r2 =>
        have hs : d.showable = true ∧ PyData.showableAll (ds.map (·.1)) = true := by simpa [PyData.showableAll] using hs
        have z : ∀ t ∈ d.shown :: PyData.shownAll (ds.map (·.1)), t.length ≤ sizeLine := by simpa only [PyData.shownAll, List.map_cons] using hz
        exact rks_cons (Rp.rk I d _ _ h1 r1 hs.1 (z _ List.mem_cons_self)) (Rp.rkKey I ds _ _ h2 r2 hs.2 fun t ht => z t (List.mem_cons_of_mem _ ht))
theorem Rp.rkVal (I : L2.Inv X pins σ H s) : ∀ (kvs : List (PyData × PyData)) (vs : List V) (us : List Value), RpAll X.kw H fz (kvs.map (·.2)) vs → Vals vs us → PyData.showableAll (kvs.map (·.2)) = true → (∀ t ∈ PyData.shownAll (kvs.map (·.2)), t.length ≤ sizeLine) → RKs X s (kvs.map (·.2)) us
  | [], _, _, h, r, _, _ => by cases h; cases r; exact rks_nil
  | (e, d) :: ds, _, _, h, r, hs, hz => by
    cases h with
    | cons h1 h2 =>
      cases r with
      | cons r1 r2 =>
        have hs : d.showable = true ∧ PyData.showableAll (ds.map (·.2)) = true := by simpa [PyData.showableAll] using hs
        have z : ∀ t ∈ d.shown :: PyData.shownAll (ds.map (·.2)), t.length ≤ sizeLine := by simpa only [PyData.shownAll, List.map_cons] using hz
        exact rks_cons (Rp.rk I d _ _ h1 r1 hs.1 (z _ List.mem_cons_self)) (Rp.rkVal I ds _ _ h2 r2 hs.2 fun t ht => z t (List.mem_cons_of_mem _ ht))
end
/-- how the top of it is shown -/
theorem shows_list {a : Addr} {ds : List PyData} {its : List Value} {n : Nat} {as : List Addr} (e : s.heap.get? a = some { cls := .type "list", data := .seq its.toArray n }) (hr : Reads s.heap (.ref a) (.list ds) as) (h : RKs X s ds its)
    (hz : (PyData.shown (.list ds)).length ≤ sizeLine) : ShowsBy X.prog X.w s.heap a (.list ds) "list" "list.__repr__" := by
  obtain ⟨B, hb, hk⟩ := h
  have no : a ∉ B := not_mem_of_deeper hr (show PyData.depthAll ds < _ by simp only [PyData.depth]; omega) hb
  refine { slotRepr := F.slot_list_repr.toG, slotStr := F.slot_list_str, slotFmt := F.slot_list_format, typeIs := fun s' k => ⟨_, k _ _ e, rfl⟩, call := fun A E s' Q hg hu k0 q => ?_ }
  simp only [PyData.depth] at hu
  simp only [PyData.shown] at q hz
  cases its with
  | nil =>
    cases hr with
    | list g1 g2 g3 g4 =>
      rw [e] at g1; cases g1
      cases g3
      cases g4
      simp only [PyData.shownAll, listText_nil] at q
      exact call_list_repr_empty ⟨_, k0 _ _ e, rfl⟩ (k0 _ _ e) rfl (q s'.heap _ _ fun _ _ z => z)
  | cons x l => exact call_list_reprK e rfl rfl no (by simpa using hk.length_eq) (fun i y z => hk.item i y (by simpa using z)) hg (fun b _ => Clear.nil b) hu k0 q hz
theorem shows_tuple {a : Addr} {ds : List PyData} {its : List Value} {as : List Addr} (e : IsTup s.heap a its.toArray) (hr : Reads s.heap (.ref a) (.tuple ds) as) (h : RKs X s ds its)
    (hz : (PyData.shown (.tuple ds)).length ≤ sizeLine) : ShowsBy X.prog X.w s.heap a (.tuple ds) "tuple" "tuple.__repr__" := by
  obtain ⟨B, hb, hk⟩ := h
  obtain ⟨o, g1, g2, n, g3⟩ := e
  have no : a ∉ B := not_mem_of_deeper hr (show PyData.depthAll ds < _ by simp only [PyData.depth]; omega) hb
  refine { slotRepr := F.slot_tuple_repr, slotStr := F.slot_tuple_str, slotFmt := F.slot_tuple_format, typeIs := fun s' k => ⟨o, k _ _ g1, g2⟩, call := fun A E s' Q hg hu k0 q => ?_ }
  simp only [PyData.depth] at hu
  simp only [PyData.shown] at q hz
  exact call_tuple_reprK g1 g2 g3 no hk hg (fun b _ => Clear.nil b) hu k0 q hz
theorem shows_dict {a : Addr} {kvs : List (PyData × PyData)} {es : List DictEntry} {as : List Addr} {ep : Nat} (e : DictHas a ep es s.heap) (hr : Reads s.heap (.ref a) (.dict kvs) as)
    (h1 : RKs X s (kvs.map (·.1)) (es.map (·.key))) (h2 : RKs X s (kvs.map (·.2)) (es.map (·.val))) (hz : (PyData.shown (.dict kvs)).length ≤ sizeLine) : ShowsBy X.prog X.w s.heap a (.dict kvs) "dict" "dict.__repr__" := by
  obtain ⟨ne, o, g1, g2, g3⟩ := e
  obtain ⟨B1, a1, k1⟩ := h1
  obtain ⟨B2, a2, k2⟩ := h2
  have hb : ReadAtMost s.heap (PyData.depthKv kvs) (B1 ++ B2) := (a1.mono (PyData.depthAll_keys_le kvs)).append (a2.mono (PyData.depthAll_vals_le kvs))
  have no : a ∉ B1 ++ B2 := not_mem_of_deeper hr (show PyData.depthKv kvs < _ by simp only [PyData.depth]; omega) hb
  refine { slotRepr := F.slot_dict_repr, slotStr := F.slot_dict_str, slotFmt := F.slot_dict_format, typeIs := fun s' k => ⟨o, k _ _ g1, g2.1⟩, call := fun A E s' Q hg hu k0 q => ?_ }
  simp only [PyData.depth] at hu
  simp only [PyData.shown, PyData.shownKv_eq] at q
  simp only [PyData.shown] at hz
  exact call_dict_reprK g1 g2.1 g3 (beq_eq_false_iff_ne.mpr ne) no (ReprEntriesK.of_two es _ _ (k1.more_le (fun b z => List.mem_append_left _ z) (PyData.depthAll_keys_le kvs))
    (k2.more_le (fun b z => List.mem_append_right _ z) (PyData.depthAll_vals_le kvs))) hg (fun b _ => Clear.nil b) hu k0 q (by rw [← PyData.shownKv_eq]; exact hz)
theorem RB.shows (I : L2.Inv X pins σ H s) {d : PyData} {a : Addr} (h : RB X.kw H fz d (.ref a)) (hs : d.showable = true) (hz : d.shown.length ≤ sizeLine) : ∃ T idr, ShowsBy X.prog X.w s.heap a d T idr := by
  obtain ⟨as, hr, _⟩ := RB.reads I (u := .ref a) h rfl
  cases d with
  | list ds =>
    obtain ⟨b, xs, e, hq, ha⟩ := h.lst
    cases e
    obtain ⟨_, its, n, rv, e⟩ := Inv.lstR I hq
    exact ⟨_, _, shows_list e hr (Rp.rks I ds _ its ha rv (by simpa [PyData.showable] using hs) (szL hz)) hz⟩
  | tuple ds =>
    obtain ⟨b, xs, e, hq, ha⟩ := h.tup
    cases e
    obtain ⟨its, rv, ht, _⟩ := I.tuple (SqT.of hq)
    exact ⟨_, _, shows_tuple ht hr (Rp.rks I ds _ its ha rv (by simpa [PyData.showable] using hs) (szT hz)) hz⟩
  | dict kvs =>
    obtain ⟨b, ep, es, ks, vs, e, hq, k1, v1, r1, r2, _⟩ := h
    cases e
    obtain ⟨hd, _⟩ := I.hok a _ hq
    obtain ⟨hs1, hs2⟩ := PyData.showableKv_split kvs (by simpa [PyData.showable] using hs)
    obtain ⟨z1, z2⟩ := szD hz
    exact ⟨_, _, shows_dict hd hr (Rp.rkKey I kvs _ _ r1 k1 hs1 z1) (Rp.rkVal I kvs _ _ r2 v1 hs2 z2) hz⟩
  | none => cases h.non
  | bool b => cases h.bl
  | int b => cases h.int
  | str b => cases h.str
end

def shOk (d : PyData) : Prop := d.showable = true ∧ d.depth ≤ 60 ∧ d.shown.length ≤ sizeLine
def shX : C1X := fun d Q => shOk d ∧ Q (.dat (.str d.shown))
section
variable {X : Cx}
theorem c_show (hg : X.A.guards = some []) (hu : X.A.units + 64 < cLine) : CallR X (.builtin "repr") (rC1 X.kw shX) := by
  rintro pins s σ H xs us Q I r ⟨x, fz, d, rfl, hd, Q', ⟨⟨z1, z3, z4⟩, q⟩, k⟩
  obtain ⟨u, rfl, ru⟩ := vals1 r
  have done : ∀ (h' : Heap) (t tk : Nat), (∀ b o, s.heap.get? b = some o → h'.get? b = some o) → EP X pins σ Q (.str d.shown t) { s with heap := h', toks := tk } := fun h' t tk hk =>
    ⟨.str _, H, I.kept hk, ⟨t, rfl⟩, k _ _ _ q (.same (.str _))⟩
  have ref : ∀ a, x = V.ref a → wpAny (model X.prog X.w) X.A (call (.builtin "repr") [u]) (EP X pins σ Q) X.xe s := fun a e => by
    subst e
    cases ru
    obtain ⟨T, idr, S⟩ := RB.shows I hd z1 z4
    exact call_repr_slot (by omega) (S.typeIs s fun _ _ e => e) S.slotRepr (S.call X.A.in1 _ s _ hg (by show X.A.units + 1 + d.depth < cLine; omega) (fun _ _ e => e) fun h' u tk hk => ⟨_, _, rfl, done h' u tk hk⟩)
  cases d with
  | none => cases hd.non; cases ru; exact PySem.P.repr_of_none (done s.heap _ _ fun _ _ e => e)
  | bool b => cases hd.bl; cases ru; exact PySem.P.repr_of_bool (done s.heap _ _ fun _ _ e => e)
  | int i =>
    cases hd.int
    obtain ⟨t, rfl⟩ := ru
    exact PySem.P.repr_of_int (by simpa [PyData.showable] using z1) (done s.heap _ _ fun _ _ e => e)
  | str x =>
    cases hd.str
    obtain ⟨t, rfl⟩ := ru
    exact PySem.P.repr_of_str (done s.heap _ _ fun _ _ e => e) z4
  | list ds => obtain ⟨a, vs, e, _⟩ := id hd.lst; exact ref a e
  | tuple ds => obtain ⟨a, vs, e, _⟩ := id hd.tup; exact ref a e
  | dict ds => obtain ⟨a, ep, es, ks, vs, e, _⟩ := id hd; exact ref a e
end
end Cl

namespace Cl
open PySem PySem.Spec PyProof.Rows L2

/-- ==, texts and ints without a condition -/
def eqY : OpX := fun x y Q => match x, y with
  | .str a, .str b => Q (.dat (.bool (decide (a = b))))
  | .int a, .int b => Q (.dat (.bool (decide (a = b))))
  | x, y => eqX x y Q
def neY : OpX := fun x y Q => match x, y with
  | .str a, .str b => Q (.dat (.bool (!decide (a = b))))
  | .int a, .int b => Q (.dat (.bool (!decide (a = b))))
  | x, y => neX x y Q
theorem oy_eq {X : Cx} (hu : X.A.units + 64 < cLine) : OpR X (compareOp .Eq) (rO X.kw eqY) := by
  rintro pins s σ H x y v u Q I rx ry ⟨fz, d, e, hd, he, Q', q, k⟩
  have old : eqX d e Q' → wpAny (model X.prog X.w) X.A (compareOp .Eq v u) (EP X pins σ Q) X.xe s := fun q => ox_eq hu pins s σ H x y v u Q I rx ry ⟨fz, d, e, hd, he, Q', q, k⟩
  cases d with
  | str a =>
    cases e with
    | str b =>
      cases hd.str; cases he.str
      refine op_eq pins s σ H _ _ v u Q I rx ry ⟨rfl, k _ _ _ q ?_⟩
      rw [show decide (V.str a = V.str b) = decide (a = b) by simp]
      exact .same (.bl _)
    | _ => exact old q
  | int a =>
    cases e with
    | int b =>
      cases hd.int; cases he.int
      refine op_eq pins s σ H _ _ v u Q I rx ry ⟨rfl, k _ _ _ q ?_⟩
      rw [show decide (V.int a = V.int b) = decide (a = b) by simp]
      exact .same (.bl _)
    | _ => exact old q
  | _ => cases e <;> exact old q
theorem oy_ne {X : Cx} (hu : X.A.units + 64 < cLine) : OpR X (compareOp .NotEq) (rO X.kw neY) := by
  rintro pins s σ H x y v u Q I rx ry ⟨fz, d, e, hd, he, Q', q, k⟩
  have old : neX d e Q' → wpAny (model X.prog X.w) X.A (compareOp .NotEq v u) (EP X pins σ Q) X.xe s := fun q => ox_ne hu pins s σ H x y v u Q I rx ry ⟨fz, d, e, hd, he, Q', q, k⟩
  cases d with
  | str a =>
    cases e with
    | str b =>
      cases hd.str; cases he.str
      refine op_ne pins s σ H _ _ v u Q I rx ry ⟨rfl, k _ _ _ q ?_⟩
      rw [show decide (V.str a = V.str b) = decide (a = b) by simp]
      exact .same (.bl _)
    | _ => exact old q
  | int a =>
    cases e with
    | int b =>
      cases hd.int; cases he.int
      refine op_ne pins s σ H _ _ v u Q I rx ry ⟨rfl, k _ _ _ q ?_⟩
      rw [show decide (V.int a = V.int b) = decide (a = b) by simp]
      exact .same (.bl _)
    | _ => exact old q
  | _ => cases e <;> exact old q

/-! ### tame data -/
structure Tm (W D : Nat) (d : PyData) : Prop where
  lv : d.leavesShort 200 = true
  sh : d.showable = true
  wt : d.weight ≤ W
  dp : d.depth ≤ D
structure TmA (W D : Nat) (ds : List PyData) : Prop where
  lv : PyData.leavesShortAll 200 ds = true
  sh : PyData.showableAll ds = true
  wt : PyData.weightAll ds ≤ W
  dp : PyData.depthAll ds ≤ D
theorem TmA.nil {W D : Nat} : TmA W D [] := ⟨by simp [PyData.leavesShortAll], by simp [PyData.showableAll], by simp [PyData.weightAll], by simp [PyData.depthAll]⟩
theorem TmA.cons {W V D : Nat} {d : PyData} {ds : List PyData} (h : Tm W D d) (r : TmA V D ds) : TmA (W + 1 + V) D (d :: ds) := by
  refine ⟨by simp [PyData.leavesShortAll, h.lv, r.lv], by simp [PyData.showableAll, h.sh, r.sh], ?_, ?_⟩
  · have := h.wt; have := r.wt; simp only [PyData.weightAll]; omega
  · have := h.dp; have := r.dp; simp only [PyData.depthAll]; omega
theorem TmA.of {W D : Nat} : ∀ {ds : List PyData}, (∀ d ∈ ds, Tm W D d) → TmA (ds.length * (W + 1)) D ds
  | [], _ => TmA.nil
  | d :: ds, h => by
    have := TmA.cons (h d List.mem_cons_self) (TmA.of fun x hx => h x (List.mem_cons_of_mem _ hx))
    rw [List.length_cons, Nat.succ_mul, Nat.add_comm]
    exact this
theorem Tm.mono {W D W' D' : Nat} {d : PyData} (h : Tm W D d) (h1 : W ≤ W') (h2 : D ≤ D') : Tm W' D' d := ⟨h.lv, h.sh, Nat.le_trans h.wt h1, Nat.le_trans h.dp h2⟩
theorem TmA.mono {W D W' D' : Nat} {d : List PyData} (h : TmA W D d) (h1 : W ≤ W') (h2 : D ≤ D') : TmA W' D' d := ⟨h.lv, h.sh, Nat.le_trans h.wt h1, Nat.le_trans h.dp h2⟩
theorem TmA.tup {W D : Nat} {ds : List PyData} (h : TmA W D ds) : Tm W (D + 1) (.tuple ds) :=
  ⟨by simpa [PyData.leavesShort] using h.lv, by simpa [PyData.showable] using h.sh, by simpa [PyData.weight] using h.wt, by have := h.dp; simp only [PyData.depth]; omega⟩
theorem TmA.lst {W D : Nat} {ds : List PyData} (h : TmA W D ds) : Tm W (D + 1) (.list ds) :=
  ⟨by simpa [PyData.leavesShort] using h.lv, by simpa [PyData.showable] using h.sh, by simpa [PyData.weight] using h.wt, by have := h.dp; simp only [PyData.depth]; omega⟩
theorem Tm.tupOf {W D n : Nat} {ds : List PyData} (h : ∀ d ∈ ds, Tm W D d) (hn : ds.length ≤ n) : Tm (n * (W + 1)) (D + 1) (.tuple ds) :=
  ((TmA.of h).mono (Nat.mul_le_mul_right _ hn) (Nat.le_refl _)).tup
theorem Tm.lstOf {W D n : Nat} {ds : List PyData} (h : ∀ d ∈ ds, Tm W D d) (hn : ds.length ≤ n) : Tm (n * (W + 1)) (D + 1) (.list ds) :=
  ((TmA.of h).mono (Nat.mul_le_mul_right _ hn) (Nat.le_refl _)).lst
theorem Tm.dct1 {W V D : Nat} {k v : PyData} (h1 : Tm W D k) (h2 : Tm V D v) : Tm (W + V + 2) (D + 1) (.dict [(k, v)]) := by
  refine ⟨by simp [PyData.leavesShort, PyData.leavesShortKv, h1.lv, h2.lv], by simp [PyData.showable, PyData.showableKv, h1.sh, h2.sh], ?_, ?_⟩
  · have := h1.wt; have := h2.wt; simp only [PyData.weight, PyData.weightKv]; omega
  · have := h1.dp; have := h2.dp; simp only [PyData.depth, PyData.depthKv]; omega
theorem Tm.ok {W D : Nat} {d : PyData} (h : Tm W D d) (h1 : W ≤ 80000 := by decide) (h2 : D ≤ 60 := by decide) : shOk d := by
  refine ⟨h.sh, Nat.le_trans h.dp h2, ?_⟩
  have e := PyData.shown_le 200 (by decide) d h.lv
  have w := h.wt
  rw [sizeLine_eq]
  omega
theorem Tm.int {i : Int} (h0 : -190 < i) (h1 : i < 190) : Tm 10 0 (.int i) := by
  have hl := len_str_of_int i
  have hb : i.natAbs < 2 ^ 8 := by omega
  have h8 : i.natAbs.log2 < 8 := PySem.Flt.log2_lt_of (by decide) hb
  refine ⟨?_, ?_, ?_, by simp [PyData.depth]⟩
  · have hl2 : ((Str.ofString (toString i)).length : Int) ≤ 200 := by omega
    have hl3 : (Str.ofString (toString i)).length ≤ 200 := Int.ofNat_le.mp hl2
    exact (show PyData.leavesShort 200 (.int i) = decide ((Str.ofString (toString i)).length ≤ 200) by simp only [PyData.leavesShort, PyData.shown]; rfl) ▸ decide_eq_true hl3
  · simp only [PyData.showable, decide_eq_true_eq]
    omega
  · simp only [PyData.weight]
    split <;> omega

/-! ### loops -/
theorem forD_ind {gt : TGD} {tb : TSD} {D : DEnds} (I : List PyData → CS → Prop) (h0 : ∀ cs, I [] cs → D.nx cs)
    (hs : ∀ d ds cs (N : CS → Prop), (∀ cs', I ds cs' → N cs') → I (d :: ds) cs → gt (.dat d) cs fun cs1 => tb { nx := N, rt := D.rt, bk := D.nx, ct := N } cs1) : ∀ ds cs, I ds cs → forD gt tb D ds cs
  | [], cs, h => h0 cs h
  | d :: ds, cs, h => hs d ds cs _ (fun cs' z => forD_ind I h0 hs ds cs' z) h
theorem lcD_ind {vs : List Nat} {gt : TGD} {tt : TTD} {te : TVD} {Q : List PyData → CS → Prop} (I : List PyData → List PyData → CS → Prop) (h0 : ∀ acc cs, I [] acc cs → Q acc cs)
    (hs : ∀ d ds acc cs (N : List PyData → CS → Prop), (∀ acc' cs', I ds acc' cs' → N acc' cs') → I (d :: ds) acc cs →
      gt (.dat d) cs fun cs1 => tt cs1 fun b cs2 => if b = true then te cs2 fun y cs3 => acc.length < sizeLine ∧ N (acc ++ [y]) (wipeC cs3 vs) else N acc (wipeC cs2 vs)) : ∀ ds acc cs, I ds acc cs → lcD vs gt tt te Q ds acc cs
  | [], acc, cs, h => h0 acc cs h
  | d :: ds, acc, cs, h => hs d ds acc cs _ (fun acc' cs' z => lcD_ind I h0 hs ds acc' cs' z) h

def t_chI (ta tb : TLD) (k : Int) : TD := fun cs Q => ta cs fun l cs1 => tb cs1 fun m cs2 => ∃ i j, l.get cs2 = some (.int i) ∧ m.get cs2 = some (.int j) ∧ Q (.dat (.bool (decide (i ≤ j ∧ j ≤ k)))) cs2
theorem chI_eq (ta tb : TLD) (k : Int) : t_chain' leX leX ta tb (t_l (t_c (.int k))) = t_chI ta tb k := by
  funext cs Q
  unfold t_chain' t_chI
  congr 1
  funext l cs1
  congr 1
  funext m cs2
  apply propext
  constructor
  · rintro ⟨d, e, h1, h2, h3⟩
    cases d with
    | int i =>
      cases e with
      | int j =>
        refine ⟨i, j, h1, h2, ?_⟩
        rcases h3 with ⟨b, q⟩ | ⟨b, e', f, g1, g2, g3⟩
        · have b : decide (i ≤ j) = false := by simpa using b
          have nb : ¬ i ≤ j := by simpa using b
          rw [decide_eq_false (fun z => nb z.1)]
          exact q
        · rw [h2] at g1; cases g1
          have g2 : some (PyData.int k) = some f := g2
          cases g2
          have b : decide (i ≤ j) = true := by simpa using b
          have nb : i ≤ j := by simpa using b
          rw [show decide (i ≤ j ∧ j ≤ k) = decide (j ≤ k) by simp [nb]]
          exact g3.2
      | _ => exact h3.elim
    | _ => cases e <;> exact h3.elim
  · rintro ⟨i, j, h1, h2, h3⟩
    refine ⟨_, _, h1, h2, ?_⟩
    by_cases h : i ≤ j
    · refine .inr ⟨by simp [h], _, _, h2, rfl, ⟨_, rfl⟩, ?_⟩
      rw [show decide (i ≤ j ∧ j ≤ k) = decide (j ≤ k) by simp [h]] at h3
      exact h3
    · refine .inl ⟨by simp [h], ?_⟩
      rw [decide_eq_false (fun z => h z.1)] at h3
      exact h3
theorem forD_nil {gt : TGD} {tb : TSD} {D : DEnds} {cs : CS} : forD gt tb D [] cs = D.nx cs := rfl
theorem enumRs_nil {k : Nat} : enumRs k [] = [] := rfl
theorem enumRs_cons {k : Nat} {d : PyData} {ds : List PyData} : enumRs k (d :: ds) = [.int (k : Nat), d] :: enumRs (k + 1) ds := rfl
theorem rowsD_nil : rowsD [] = [] := rfl
theorem rowsD_cons {r : List PyData} {rs : List (List PyData)} : rowsD (r :: rs) = .tuple r :: rowsD rs := rfl

theorem seq_step {a b : TSD} {D : DEnds} {cs : CS} (P : CS → Prop) (h : ∀ N : CS → Prop, (∀ cs', P cs' → N cs') → a { D with nx := N } cs) (h2 : ∀ cs', P cs' → b D cs') : t_seq a b D cs := h _ h2
theorem cut_take (xs : List PyData) (k : Nat) : cutD xs none (some (k : Nat)) = xs.take k := by
  unfold cutD
  rw [HT.sIx_none, HT.sIx_nat, List.drop_zero, Nat.sub_zero]
  by_cases h : k ≤ xs.length
  · rw [Nat.min_eq_left h]
  · rw [Nat.min_eq_right (by omega), List.take_length, List.take_of_length_le (by omega)]
theorem cut_drop (xs : List PyData) (k : Nat) : cutD xs (some (k : Nat)) none = xs.drop k := by
  unfold cutD
  rw [HT.sIx_none, HT.sIx_nat]
  by_cases h : k ≤ xs.length
  · rw [Nat.min_eq_left h, List.take_of_length_le (by simp)]
  · rw [Nat.min_eq_right (by omega), List.drop_length, List.drop_of_length_le (by omega)]
    simp

theorem lcD_filter {vs : List Nat} {gt : TGD} {tt : TTD} {te : TVD} {Q : List PyData → CS → Prop} (p : PyData → Bool) (f : PyData → PyData) (S : CS) : ∀ (ds acc : List PyData), acc.length + ds.length ≤ sizeLine →
    (∀ d ∈ ds, ∀ (K : PyData → CS → Prop) (N : CS → Prop), (p d = true → K (f d) S) → (p d = false → N S) → gt (.dat d) S fun cs1 => tt cs1 fun b cs2 => if b = true then te cs2 (fun y cs3 => K y (wipeC cs3 vs)) else N (wipeC cs2 vs)) →
    Q (acc ++ (ds.filter p).map f) S → lcD vs gt tt te Q ds acc S
  | [], acc, _, _, h => by
    simp only [List.filter_nil, List.map_nil, List.append_nil] at h
    exact h
  | d :: ds, acc, hl, hs, h => by
    rw [List.length_cons] at hl
    refine hs d List.mem_cons_self (fun y cs => acc.length < sizeLine ∧ lcD vs gt tt te Q ds (acc ++ [y]) cs) (fun cs => lcD vs gt tt te Q ds acc cs) (fun hp => ⟨by omega, ?_⟩) fun hp => ?_
    · refine lcD_filter p f S ds (acc ++ [f d]) (by rw [List.length_append, List.length_singleton]; omega) (fun x hx => hs x (List.mem_cons_of_mem _ hx)) ?_
      rw [List.filter_cons_of_pos hp, List.map_cons] at h
      simpa using h
    · refine lcD_filter p f S ds acc (by omega) (fun x hx => hs x (List.mem_cons_of_mem _ hx)) ?_
      rw [List.filter_cons_of_neg (by simp [hp])] at h
      exact h
theorem lcD_map {vs : List Nat} {gt : TGD} {tt : TTD} {te : TVD} {Q : List PyData → CS → Prop} (f : PyData → PyData) (S : CS) (ds : List PyData) (hl : ds.length ≤ sizeLine)
    (hs : ∀ d ∈ ds, ∀ (K : PyData → CS → Prop) (N : CS → Prop), K (f d) S → gt (.dat d) S fun cs1 => tt cs1 fun b cs2 => if b = true then te cs2 (fun y cs3 => K y (wipeC cs3 vs)) else N (wipeC cs2 vs)) (h : Q (ds.map f) S) : lcD vs gt tt te Q ds [] S :=
  lcD_filter (fun _ => true) f S ds [] (by simpa using hl) (fun d hd K N h1 _ => hs d hd K N (h1 rfl)) (by rw [List.nil_append, List.filter_eq_self.mpr (fun _ _ => rfl)]; exact h)
theorem rangeD_len {n : Int} : (rangeD 0 n).length = n.toNat := by simp [rangeD]
end Cl

namespace Cl
open PySem PySem.Spec PyProof.Rows L2
/-- the law at a script -/
theorem law_want {K : KW} {C : TF} {H : Hp} {a : Addr} {ns : List Int} (only : Only H) (hS : SqL K H a (ns.map V.int)) (hC : C [.scr ns] fun sv => sv = .dat (.bool true)) :
    spD K ZPu 1 C [.ref a] H (fun v _ => v = .bl true) fun _ _ _ => False := by
  refine ⟨rfl, [.scr ns], ⟨fun b => ∃ o, H b = some o, fun _ => none⟩, .cons ⟨a, rfl, ?_⟩ .nil, fun sv hm => ?_, ⟨fun b t e => (by cases e), fun b h => ⟨h, rfl⟩⟩, _, hC, fun sv v g' H' e _ r _ _ => ?_⟩
  · rcases hS with h | h
    · rcases h with h | ⟨o, h⟩
      · rcases only a with z | ⟨ob, xs, z⟩
        · rw [h] at z; cases z
        · rw [h] at z; cases z
      · exact .inl ⟨⟨_, h⟩, o, h⟩
    · exact .inr h
  · rw [List.mem_singleton] at hm; subst hm; rfl
  · subst e
    cases r
    rfl
end Cl

namespace Cl
open PySem PySem.Spec PyProof.Rows L2

/-! ### order of data that are alike -/
def alk (x y : PyData) : Prop := PySem.W.alike x y = true ∧ x ≠ .none ∧ min x.depth y.depth ≤ 60
def ltY : OpX := fun x y Q => match x, y with
  | .int i, .int j => Q (.dat (.bool (decide (i < j))))
  | x, y => alk x y ∧ Q (.dat (.bool (PySem.W.dataLt x y)))
def gtY : OpX := fun x y Q => match x, y with
  | .int i, .int j => Q (.dat (.bool (decide (j < i))))
  | x, y => alk x y ∧ Q (.dat (.bool (PySem.W.dataLt y x)))
section
variable {X : Cx}
theorem oy_lt (hu : X.A.units + 64 < cLine) : OpR X (compareOp .Lt) (rO X.kw ltY) := by
  rintro pins s σ H x y v u Q I rx ry ⟨fz, d, e, hd, he, Q', q, k⟩
  have gen : alk d e ∧ Q' (.dat (.bool (PySem.W.dataLt d e))) → wpAny (model X.prog X.w) X.A (compareOp .Lt v u) (EP X pins σ Q) X.xe s := fun ⟨⟨a1, a2, a3⟩, q⟩ => by
    obtain ⟨as, r1, _⟩ := RB.reads I hd rx
    obtain ⟨bs, r2, _⟩ := RB.reads I he ry
    exact PySem.W.lt_data r1 r2 a1 a2 (by omega) ⟨.bl _, H, I, rfl, k _ _ _ q (.same (.bl _))⟩
  cases d with
  | int i =>
    cases e with
    | int j =>
      cases hd.int; cases he.int
      exact op_lt pins s σ H _ _ v u Q I rx ry ⟨i, j, rfl, rfl, k _ _ _ q (.same (.bl _))⟩
    | _ => exact gen q
  | _ => cases e <;> exact gen q
theorem oy_gt (hu : X.A.units + 64 < cLine) : OpR X (compareOp .Gt) (rO X.kw gtY) := by
  rintro pins s σ H x y v u Q I rx ry ⟨fz, d, e, hd, he, Q', q, k⟩
  have gen : alk d e ∧ Q' (.dat (.bool (PySem.W.dataLt e d))) → wpAny (model X.prog X.w) X.A (compareOp .Gt v u) (EP X pins σ Q) X.xe s := fun ⟨⟨a1, a2, a3⟩, q⟩ => by
    obtain ⟨as, r1, _⟩ := RB.reads I hd rx
    obtain ⟨bs, r2, _⟩ := RB.reads I he ry
    exact PySem.W.gt_data r1 r2 a1 a2 (by omega) ⟨.bl _, H, I, rfl, k _ _ _ q (.same (.bl _))⟩
  cases d with
  | int i =>
    cases e with
    | int j =>
      cases hd.int; cases he.int
      exact op_gt pins s σ H _ _ v u Q I rx ry ⟨i, j, rfl, rfl, k _ _ _ q (.same (.bl _))⟩
    | _ => exact gen q
  | _ => cases e <;> exact gen q
end

/-! ### x in l, x not in l -/
def inB (d : PyData) (ds : List PyData) : Bool := ds.any fun z => PyData.eqv z d
def inOk (d : PyData) (ds : List PyData) : Prop := PyData.canLayAll0 ds = true ∧ d.canLay0 = true ∧ min (PyData.depthAll ds) d.depth ≤ 60
def inX : OpX := fun x y Q => match y with
  | .list ds => inOk x ds ∧ Q (.dat (.bool (inB x ds)))
  | .tuple ds => inOk x ds ∧ Q (.dat (.bool (inB x ds)))
  | .str z => ∃ c, x = .str ⟨#[c]⟩ ∧ Q (.dat (.bool (decide (c ∈ z.cps.toList))))
  | _ => False
def notinX : OpX := fun x y Q => match y with
  | .list ds => inOk x ds ∧ Q (.dat (.bool (!inB x ds)))
  | .tuple ds => inOk x ds ∧ Q (.dat (.bool (!inB x ds)))
  | .str z => ∃ c, x = .str ⟨#[c]⟩ ∧ Q (.dat (.bool (!decide (c ∈ z.cps.toList))))
  | _ => False
section
variable {X : Cx}
theorem ox_in (hu : X.A.units + 64 < cLine) : OpR X (compareOp .In) (rO X.kw inX) := by
  rintro pins s σ H x y v u Q I rx ry ⟨fz, d, e, hd, he, Q', q, k⟩
  obtain ⟨as, r1, _⟩ := RB.reads I hd rx
  obtain ⟨bs, r2, _⟩ := RB.reads I he ry
  cases e with
  | list ds =>
    obtain ⟨⟨h1, h2, h3⟩, q⟩ := q
    exact SeqAt.in_list_reads r2 r1 h1 h2 (by omega) ⟨.bl _, H, I, rfl, k _ _ _ q (.same (.bl _))⟩
  | tuple ds =>
    obtain ⟨⟨h1, h2, h3⟩, q⟩ := q
    exact SeqAt.in_tuple_reads r2 r1 h1 h2 (by omega) ⟨.bl _, H, I, rfl, k _ _ _ q (.same (.bl _))⟩
  | str z =>
    obtain ⟨c, rfl, q⟩ := q
    cases hd.str; cases he.str
    exact op_in_sign pins s σ H _ _ v u Q I rx ry ⟨c, z, rfl, rfl, k _ _ _ q (.same (.bl _))⟩
  | _ => exact q.elim
theorem ox_notin (hu : X.A.units + 64 < cLine) : OpR X (compareOp .NotIn) (rO X.kw notinX) := by
  rintro pins s σ H x y v u Q I rx ry ⟨fz, d, e, hd, he, Q', q, k⟩
  obtain ⟨as, r1, _⟩ := RB.reads I hd rx
  obtain ⟨bs, r2, _⟩ := RB.reads I he ry
  cases e with
  | list ds =>
    obtain ⟨⟨h1, h2, h3⟩, q⟩ := q
    exact SeqAt.notIn_list_reads r2 r1 h1 h2 (by omega) ⟨.bl _, H, I, rfl, k _ _ _ q (.same (.bl _))⟩
  | tuple ds =>
    obtain ⟨⟨h1, h2, h3⟩, q⟩ := q
    exact SeqAt.notIn_tuple_reads r2 r1 h1 h2 (by omega) ⟨.bl _, H, I, rfl, k _ _ _ q (.same (.bl _))⟩
  | str z =>
    obtain ⟨c, rfl, q⟩ := q
    cases hd.str; cases he.str
    exact op_notIn_sign pins s σ H _ _ v u Q I rx ry ⟨c, z, rfl, rfl, k _ _ _ q (.same (.bl _))⟩
  | _ => exact q.elim
end

/-! ### ord, bool -/
def ordX : C1X := fun d Q => match d with
  | .str z => z.length = 1 ∧ Q (.dat (.int (z.cps.getD 0 0 : Nat)))
  | _ => False
def boolX : C1X := fun d Q => match d with
  | .int i => Q (.dat (.bool (i != 0)))
  | .bool b => Q (.dat (.bool b))
  | _ => False
section
variable {X : Cx}
theorem c_ord : CallR X (.builtin "ord") (rC1 X.kw ordX) := by
  rintro pins s σ H xs us Q I r ⟨x, fz, d, rfl, hd, Q', q, k⟩
  cases d with
  | str z => cases hd.str; exact call_ord pins s σ H _ us Q I r ⟨z, rfl, q.1, k _ _ _ q.2 (.same (.int _))⟩
  | _ => exact q.elim
theorem c_bool : CallR X (.type "bool") (rC1 X.kw boolX) := by
  rintro pins s σ H xs us Q I r ⟨x, fz, d, rfl, hd, Q', q, k⟩
  cases d with
  | int i => cases hd.int; exact call_bool1 pins s σ H _ us Q I r (.inl ⟨i, rfl, k _ _ _ q (.same (.bl _))⟩)
  | bool b => cases hd.bl; exact call_bool1 pins s σ H _ us Q I r (.inr ⟨b, rfl, k _ _ _ q (.same (.bl _))⟩)
  | _ => exact q.elim
end
end Cl

namespace Cl
open PySem PySem.Spec PyProof.Rows L2

/-! ### a dict display as a box -/
structure DXP (X : Cx) (ZP : ZT) (pos : Pos) (keys : List (Option Expr)) (values : List Expr) (ks : List Str) (t : TSA) : Prop where
  ex : ∃ trs, PPs X pos keys values trs ∧ ∀ σ H Q, tX X.kw ZP t σ H (fun vs H' => vs.length = ks.length ∧ Q ((ks.map V.str).zip vs) H') → tPairs trs σ H Q
section
variable {X : Cx} {ZP : ZT} {pos kpos : Pos} {keys : List (Option Expr)} {values : List Expr} {ks : List Str} {ts : TSA} {td : TD} {e : Expr} {x : Str} {j : Nat}
theorem dxp_nil : DXP X ZP pos [] [] [] t_anil := ⟨[], pps_nil, fun σ H Q ⟨B, cs, g, R, Q', q, k⟩ => (k [] cs [] g H q R .nil (fun i xs a e => by simp at e) (fun i j xs ys a e => by simp at e) (fun _ h => h) .refl).2⟩
theorem tx_cons {K : KW} {σ : L2.St} {H : Hp} {Q : List V → Hp → Prop} (h : tX K ZP (t_xcons td ts) σ H Q) : tD K ZP td σ H fun v H1 => tX K ZP ts σ H1 fun vs H2 => Q (v :: vs) H2 := by
  obtain ⟨B, cs, g, R, Q', q, k⟩ := h
  refine ⟨B, cs, g, R, _, q, fun sv cs1 v g1 H1 q1 R1 r1 t1 s1 f1 => ?_⟩
  refine ⟨B, cs1, g1, R1, _, q1, fun svs cs2 vs g2 H2 q2 R2 r2 t2 d2 s2 f2 => ?_⟩
  have old : ∀ xs a, sv = .obj xs → v = .ref a → ∃ o, H1 a = some o := fun xs a e1 e2 => by
    subst e1; subst e2
    obtain ⟨b, ws, e, h, _⟩ := r1.ownAt
    cases e; exact ⟨_, h⟩
  refine k (sv :: svs) cs2 (v :: vs) g2 H2 q2 R2 (.cons (r1.frm f2 R1.fzow fun xs a e1 e2 => (t1 xs a e1 e2).1) r2) (fun i xs a e1 e2 => ?_) (fun i j xs ys a e1 e2 e3 e4 => ?_) (fun a h => s1 a (s2 a h)) (f1.trans (f2.mono fun a _ _ h => s1 a h))
  · cases i with
    | zero =>
      simp only [List.getElem?_cons_zero, Option.some.injEq] at e1 e2
      obtain ⟨n1, n2⟩ := t1 xs a e1 e2
      exact ⟨fun z => n1 (s2 a z), n2⟩
    | succ i =>
      simp only [List.getElem?_cons_succ] at e1 e2
      obtain ⟨n1, n2⟩ := t2 i xs a e1 e2
      refine ⟨n1, ?_⟩
      cases e5 : H a with
      | none => rfl
      | some u =>
        obtain ⟨u', e6⟩ := f1.any a u e5
        rw [n2] at e6; cases e6
  · cases i with
    | zero =>
      cases j with
      | zero => rfl
      | succ j =>
        simp only [List.getElem?_cons_succ, List.getElem?_cons_zero, Option.some.injEq] at e1 e2 e3 e4
        obtain ⟨o, h⟩ := old xs a e1 e3
        rw [(t2 j ys a e2 e4).2] at h; cases h
    | succ i =>
      cases j with
      | zero =>
        simp only [List.getElem?_cons_succ, List.getElem?_cons_zero, Option.some.injEq] at e1 e2 e3 e4
        obtain ⟨o, h⟩ := old ys a e2 e4
        rw [(t2 i xs a e1 e3).2] at h; cases h
      | succ j =>
        simp only [List.getElem?_cons_succ] at e1 e2 e3 e4
        rw [d2 i j xs ys a e1 e2 e3 e4]
theorem dxp_cons (h : DE X ZP e td) (r : DXP X ZP pos keys values ks ts) : DXP X ZP pos (some (.Constant (.str x) j kpos) :: keys) (e :: values) (x :: ks) (t_xcons td ts) := by
  obtain ⟨trs, hp, hr⟩ := r
  refine ⟨_, pps_cons pe_str h.pe hp, fun σ H Q q => ?_⟩
  show tD X.kw ZP td σ H _
  have z := tx_cons q
  obtain ⟨B, cs, g, R, Q', q', k⟩ := z
  refine ⟨B, cs, g, R, Q', q', fun sv cs1 v g1 H1 q1 R1 r1 t1 s1 f1 => hr σ H1 _ ?_⟩
  have z2 := k sv cs1 v g1 H1 q1 R1 r1 t1 s1 f1
  obtain ⟨B, cs, g, R, Q2, q2, k2⟩ := z2
  exact ⟨B, cs, g, R, Q2, q2, fun svs cs' vs g' H' a b c d e f h => by
    obtain ⟨z1, z2⟩ := k2 svs cs' vs g' H' a b c d e f h
    exact ⟨by simpa using z1, z2⟩⟩
end
/-- new things become a box -/
theorem Rel.toBox {bs : Bs → Prop} {K : KW} {B : Bs} {g1 : GW} {H1 : Hp} {cs1 : CS} {σ : L2.St} {fs : List RF} {svs : List SV} {vs : List V} {p : Addr} {o : HO} {t : Nat} (R1 : Rel K ⟨ZPu, bs⟩ B g1 H1 cs1 σ) (r1 : RSs K g1 H1 svs vs) (hb : BoxOk fs svs)
    (t1 : ∀ (i : Nat) (xs : OwnC) (a : Addr), svs[i]? = some (.obj xs) → vs[i]? = some (.ref a) → ¬ ow cs1 σ a ∧ B.1 a = none ∧ a ≠ p)
    (n1 : ¬ g1.fz p) (n2 : g1.zs p = none) (n3 : ¬ ow cs1 σ p) (n4 : B.1 p = none) (n5 : ∀ xs, H1 p ≠ some (.tup xs)) (ho : ∀ zs' : Addr → Option Nat, (∀ a u, typ fs vs a = some u → zs' a = some u) → ZPu t zs' o) :
    ∃ g', Rel K ⟨ZPu, bs⟩ B g' (upd H1 p o) cs1 σ ∧ g'.zs p = some t ∧ Stay g1 H1 g' (upd H1 p o) := by
  let zs' : Addr → Option Nat := fun a => if a = p then some t else match typ fs vs a with
    | some u => some u
    | none => g1.zs a
  have tf : ∀ a u, typ fs vs a = some u → B.1 a = none ∧ ¬ ow cs1 σ a ∧ ¬ g1.fz a ∧ g1.zs a = none ∧ a ≠ p ∧ ∃ ns : List Int, H1 a = some (.lst (ns.map V.int)) ∧ ((u = 2 ∧ ns.length ≤ 1000) ∨ (u = 3 ∧ ns ≠ [])) := fun a u e => by
    obtain ⟨i, ns, e1, e2, h1, m1, m2, ht⟩ := typ_some hb r1 e
    obtain ⟨q1, q2, q3⟩ := t1 i _ a e1 e2
    exact ⟨q2, q1, m1, m2, q3, ns, h1, ht⟩
  have zm : ∀ a u, g1.zs a = some u → zs' a = some u := fun a u e => by
    have hne : a ≠ p := fun z => by subst z; rw [n2] at e; cases e
    show (if a = p then some t else _) = _
    rw [if_neg hne]
    cases e1 : typ fs vs a with
    | none => exact e
    | some u' => rw [(tf a u' e1).2.2.2.1] at e; cases e
  have zn : ∀ a, a ≠ p → typ fs vs a = none → zs' a = g1.zs a := fun a h1 h2 => by
    show (if a = p then some t else _) = _
    rw [if_neg h1, h2]
  have zt : ∀ a u, typ fs vs a = some u → zs' a = some u := fun a u e => by
    show (if a = p then some t else _) = _
    rw [if_neg (tf a u e).2.2.2.2.1, e]
  have zp : zs' p = some t := by show (if p = p then some t else _) = _; rw [if_pos rfl]
  have keep : ∀ a u, a ≠ p → H1 a = some u → upd H1 p o a = some u := fun a u n e => by rw [upd_ne n]; exact e
  have tups : ∀ a xs, H1 a = some (.tup xs) → (upd H1 p o) a = some (.tup xs) := fun a xs q => by
    have hne : a ≠ p := fun e => by subst e; exact n5 xs q
    exact keep _ _ hne q
  have fp : ∀ a, g1.fz a → a ≠ p := fun a h z => by subst z; exact n1 h
  refine ⟨{ g1 with zs := zs' }, ⟨R1.len, fun i sv e => ?_, R1.sep, fun a u z => ?_, fun a z => ?_, ?_, R1.fresh, R1.bs⟩, zp, fun _ h => h, fun a u h e => keep a u (fp a h) e, tups⟩
  · obtain ⟨v, e1, r⟩ := R1.slot i sv e
    refine ⟨v, e1, ?_⟩
    cases sv with
    | dat d => exact Rp.go (fun _ h => h) (fun a u h e => keep a u (fp a h) e) tups r
    | obj xs =>
      refine r.objGo (fun _ h => h) (fun a u h e => keep a u (fp a h) e) tups fun a u e3 h m1 m2 => ?_
      subst e3
      have hne : a ≠ p := fun z => by subst z; exact n3 ⟨i, xs, e, e1⟩
      refine ⟨keep _ _ hne h, m1, ?_⟩
      show zs' a = none
      rw [zn a hne ?_]
      · exact m2
      · cases e2 : typ fs vs a with
        | none => rfl
        | some u => exact absurd ⟨i, xs, e, e1⟩ (tf a u e2).2.1
    | raw u => obtain ⟨a, rfl, h⟩ := r; exact ⟨a, rfl, zm a u h⟩
    | exc a n d fs => exact ⟨r.1, r.2.go (fun _ h => h) (fun a u h e => keep a u (fp a h) e) tups⟩
    | scr ns =>
      obtain ⟨a, rfl, h⟩ := r
      refine ⟨a, rfl, ?_⟩
      rcases h with ⟨h1, u, h2⟩ | h
      · exact .inl ⟨h1, u, keep _ _ (fp a h1) h2⟩
      · exact .inr h
  · have z : zs' a = some u := z
    by_cases hap : a = p
    · subst hap
      rw [zp] at z; cases z
      exact ⟨_, upd_same, ho _ zt⟩
    · cases e1 : typ fs vs a with
      | some u' =>
        rw [zt a u' e1] at z; cases z
        obtain ⟨_, _, _, _, hne, ns, h1, ht⟩ := tf a u e1
        refine ⟨_, keep _ _ hne h1, ?_⟩
        rcases ht with ⟨rfl, hn⟩ | ⟨rfl, hn⟩
        · exact .inl ⟨rfl, ns, hn, rfl⟩
        · exact .inr (.inl ⟨rfl, ns, hn, rfl⟩)
      | none =>
        rw [zn a hap e1] at z
        obtain ⟨w, e, q⟩ := R1.zok a u z
        exact ⟨w, keep _ _ hap e, q.mono zm⟩
  · obtain ⟨⟨w, e⟩, h⟩ := R1.fzok a z
    refine ⟨⟨w, keep _ _ (fp a z) e⟩, ?_⟩
    show zs' a = none
    rw [zn a (fp a z) ?_]
    · exact h
    · cases e2 : typ fs vs a with
      | none => rfl
      | some u => exact absurd z (tf a u e2).2.2.1
  · have bn : ∀ a u, B.1 a = some u → a ≠ p ∧ typ fs vs a = none := fun a u e => by
      refine ⟨fun z => (by subst z; rw [n4] at e; cases e), ?_⟩
      cases e2 : typ fs vs a with
      | none => rfl
      | some w => rw [(tf a w e2).1] at e; cases e
    refine ⟨fun a u e z n => keep _ _ (bn a u e).1 (R1.base.keep a u e z n), R1.base.fzm, fun a u z => zm a u (R1.base.zsm a u z), R1.base.fzn, fun a u e z => ?_, fun a xs h => tups a xs (R1.base.tups a xs h), fun a u e => ?_⟩
    · show zs' a = none
      rw [zn a (bn a u e).1 (bn a u e).2]
      exact R1.base.zsn a u e z
    · obtain ⟨u', e'⟩ := R1.base.any a u e
      exact ⟨u', keep _ _ (bn a u e).1 e'⟩
section
variable {X : Cx} {keys : List (Option Expr)} {es : List Expr} {ks : List Str} {ts : TSA} {p pos : Pos} {t : Nat}
theorem zip_kv : ∀ (ks : List Str) (vs : List V), (ks.map V.str).zip vs = ((ks.map Sum.inr).zip vs).map fun kv : Key × V => (kV kv.1, kv.2)
  | [], _ => rfl
  | k :: ks, [] => rfl
  | k :: ks, v :: vs => by
    simp only [List.map_cons, List.zip_cons_cons]
    rw [zip_kv ks vs]; rfl
theorem merge_nodup : ∀ (more kvs : List (Key × V)), ((kvs ++ more).map (·.1)).Nodup → mergeK kvs more = kvs ++ more
  | [], kvs, _ => by simp [mergeK]
  | m :: more, kvs, h => by
    have hnot : ¬ m.1 ∈ kvs.map (·.1) := by
      rw [List.map_append, List.map_cons, List.nodup_append] at h
      exact fun z => h.2.2 m.1 z m.1 (by simp) rfl
    have e : putK kvs m.1 m.2 = kvs ++ [m] := by
      unfold putK
      rw [if_neg]
      simp only [List.any_eq_true, decide_eq_true_eq, not_exists, not_and]
      intro x hx e
      exact hnot (e ▸ List.mem_map_of_mem hx)
    show mergeK (putK kvs m.1 m.2) more = _
    rw [e, merge_nodup more (kvs ++ [m]) (by simpa using h)]
    simp
def t_retdbox (t : Nat) (fs : List RF) (ts : TSA) : TSD := fun D cs => ts cs fun svs _ => BoxOk fs svs ∧ D.rt (.raw t)
theorem ds_retdbox {bs : Bs → Prop} (h : DXP X ⟨ZPu, bs⟩ p keys es ks ts) (hall : keys.all (·.isSome) = true) (hl : keys.length = es.length) (h0 : keys ≠ []) (h15 : keys.length ≤ 15) {fs : List RF} (hsh : dshp t = some (ks, fs)) (hnd : (ks.map Sum.inr : List Key).Nodup) (hk15 : ks.length ≤ 15) :
    DS X ⟨ZPu, bs⟩ (.Return (some (.Dict keys es p)) pos) (t_retdbox t fs ts) := by
  obtain ⟨trs, hp, hr⟩ := h
  refine ⟨PS.imp (ps_ret (pe_disp hp hall hl h0 h15)) ?_⟩
  rintro D σ H ⟨B, cs, g, R, D', q, pp⟩
  intro d hd
  refine hr σ _ _ ?_
  have nd := R.nofz hd
  have od : ¬ ow cs σ d := fun z => by
    obtain ⟨ws, e⟩ := R.owsome z
    rw [hd] at e; cases e
  refine ⟨B, cs, g, R.laid (o := .dK []) hd, _, q, fun svs cs1 vs g1 H1 q1 R1 r1 t1 d1 s1 f1 => ?_⟩
  have e1 : H1 d = some (.dK []) := f1.keep d _ upd_same nd.2 od
  obtain ⟨hb, hrt⟩ := q1
  have hlen : vs.length = ks.length := by
    rw [← Paired.length r1, ← hb.length]
    cases t with
    | _ =>
      have : ∀ t, dshp t = some (ks, fs) → fs.length = ks.length := fun t e => by
        unfold dshp at e
        split at e <;> cases e <;> rfl
      exact this _ hsh
  refine ⟨hlen, e1, (ks.map Sum.inr).zip vs, zip_kv ks vs, by rw [List.length_zip, List.length_map]; omega, ?_⟩
  have hmap : ((ks.map (Sum.inr : Str → Key)).zip vs).map (·.1) = ks.map Sum.inr := List.map_fst_zip (by rw [List.length_map]; omega)
  rw [merge_nodup _ [] (by rw [List.nil_append, hmap]; exact hnd), List.nil_append]
  have none_of : ∀ a, upd H d (.dK []) a = none → B.1 a = none ∧ a ≠ d := fun a e => by
    have hne : a ≠ d := fun z => by subst z; rw [upd_same] at e; cases e
    rw [upd_ne hne] at e
    exact ⟨R.bnone e, hne⟩
  obtain ⟨g', R2, z2, st2⟩ := R1.toBox (p := d) (o := .dK ((ks.map Sum.inr).zip vs)) (t := t) r1 hb (fun i xs a e2 e3 => by
      obtain ⟨m1, m2⟩ := t1 i xs a e2 e3
      obtain ⟨m3, m4⟩ := none_of a m2
      exact ⟨m1, m3, m4⟩) (fun z => nd.1 (f1.fzn d _ upd_same od z)) (f1.zsn d _ upd_same nd.2) (fun z => od (s1 d z)) (R.bnone hd) (fun xs z => by rw [e1] at z; cases z)
    fun zs' hz => .inr (.inr (.inr ⟨ks, fs, vs, hsh, rfl, fld_of hb r1 d1 hz⟩))
  have st1 : Stay g H g1 H1 := ⟨f1.fzm, fun a u h e => f1.keep a u (by rw [upd_ne (ne_of_none e hd)]; exact e) (R.fzow a h).1 (R.fzow a h).2, fun a xs h => f1.tups a xs (updn hd h)⟩
  exact pp.rt (.raw t) (.ref d) cs1 σ _ _ R2 (st1.trans st2) ⟨d, rfl, z2⟩ (fun xs a e => nomatch e) hrt
end
theorem rNeNil' {K : KW} {H : Hp} {Q : VK} {a p : Addr} {ns : List Int} (h : H a = some (.lst (ns.map V.int))) (hp : H p = some (.lst [])) (q : Q (.bl (!ns.isEmpty)) H) : rO K neY (.ref a) (.ref p) H Q := by
  obtain ⟨fz, d, e, hd, he, Q', q1, k⟩ := rNeNil (K := K) h hp q
  refine ⟨fz, d, e, hd, he, Q', ?_, k⟩
  cases d with
  | str x => cases hd.str
  | int x => cases hd.int
  | _ => exact q1
end Cl

/-! exceptions of the program's own classes -/
namespace Cl
open PySem PySem.Spec PyProof.Rows L2

/-! ### Base.__init__(self, ..), Base a class of the program over ValueError -/
structure BaseC (K : KW) (C0 : Addr) : Prop where
  sp : PySem.W.specialIn K (.ref C0) "__getattribute__" = some (some (.builtin "type.__getattribute__"))
  rd : PySem.W.readsIn K C0 (.type "type") = true
  ini : PySem.W.findCls K (.ref C0) (.type "type") "__init__" = some (.val (.builtin "ValueError.__init__"))
section
variable {X : Cx} {e : Expr} {es : List Expr} {ta : TA} {x : Str} {C0 : Addr} {p1 p2 pos : Pos}
theorem pe_ovinit {pl : Sem Bool} (hg : Gl X x) (hm : X.mg x = some (.ref C0)) (B : BaseC X.kw C0) (ha : PA X (e :: es) ta) (hd : (x == ("__debug__" : Str)) = false := by decide)
    (hc : eval (.Call (.Attribute (.Name x p1) "__init__" p2) (e :: es) [] pos) X.env = (do
      let ov ← eval (.Name x p1) X.env
      standAt p2.atName
      let fp ← holding [ov] (getMethod ov "__init__" pl)
      callWith pos fp.1 fp.2 (backTo pos (starEach (e :: es) X.env)) (backToKw pos (keywordEach [] X.env))) := by rfl)
    (he : starEach (e :: es) X.env = (false, eval e X.env) :: starEach es X.env := by rfl) (hpl : (backTo pos (starEach es X.env)).any (·.1) = false := by rfl) :
    PE X (.Call (.Attribute (.Name x p1) "__init__" p2) (e :: es) [] pos) (tVeI X.kw ta) := by
  refine ⟨fun pins s σ H Q I h => ?_⟩
  refine PySem.W.methodCall_KW (ld_glob I hg hm ?_ hd) hc
  refine PySem.W.method_cls I.kIn B.sp (PySem.W.cls_value I.kIn B.rd B.ini (by decide +kernel) ?_)
  refine PyProof.Rows.callWith_method1 (thn (ha.run pos pins _ σ H _ (I.tok _) h) fun us s1 ⟨vs, H1, I1, r1, a, C, ws, ev, hl, T, ea, q⟩ => ?_) he hpl
  subst ev
  cases r1 with
  | @cons _ u0 _ ur ra rest =>
    cases (show u0 = Value.ref a from ra)
    exact oinit_ok T I1 ea (by rw [← Paired.length rest, sizeLine_eq]; omega) fun s' J => ⟨.non, H1, J, rfl, q⟩
end
end Cl

namespace Cl
open PySem PySem.Spec PyProof.Rows L2

/-! ### __init__(self, given): Base.__init__(self, text); self.f = given -/
def spI (C : Addr) (f : Str) : Sp := fun vs H Q _ => ∃ a v, vs = [.ref a, v] ∧ H a = some (exo a C none) ∧ ∀ dx, H dx = none → dx ≠ a → Q .non (upd (upd H dx (exd dx [(f, v)])) a (exo a C (some dx)))
section
variable {X : Cx} {x f : Str} {C C0 : Addr} {self given : Str} {m : Str} {p1 p2 p3 p4 p5 p6 p7 p8 p9 : Pos} {j : Nat}
def tInit1 (K : KW) (f : Str) (m : Str) : TS := tSeq (tDrop (tVeI K (tCons (tVar 0) (tCons (tC (.str m)) tNil)))) (tOst K f (tVar 0) (tVar 1))
theorem init1_run {K : KW} {D : Ends} {H : Hp} {vs : List V} {E : XK} {N : List Str} (T : OexC K C) (hno : PySem.W.findIn K (.ref C) f = some none) (h : spI C f vs H D.rt E) (hD : ∀ H', D.rt .non H' → ∀ σ, D.nx σ H') : tInit1 K f m D (start N vs) H := by
  obtain ⟨a, v, rfl, ha, q⟩ := h
  exact ⟨.ref a, rfl, a, C, [.str m], rfl, by show 1 ≤ 1000; decide, T, ha, v, rfl, .ref a, rfl, a, C, rfl, T, hno, .inl ⟨ha, fun dx h1 h2 => hD _ (q dx h1 h2) _⟩⟩
end
/-- the class whose __init__ is that -/
structure Exc1 (X : Cx) (x f : Str) (C : Addr) (k : Nat) : Prop where
  T : OexC X.kw C
  fI : ∃ (fi : Addr) (fd : FuncData), PySem.W.findIn X.kw (.ref C) "__init__" = some (some (.ref fi)) ∧ PySem.W.typeIn X.kw (.ref fi) = some (.type "function") ∧ FnOk X.prog X.w X.kw X.mg X.base CX0 k fi fd ["self", f] (spI C f) ∧ Binds X.kw fd ["self", f] []
  g : X.mg x = some (.ref C)
section
variable {X : Cx} {x f : Str} {C : Addr} {k : Nat} {e : Expr} {te : TE} {p pos : Pos}
theorem pmk1 (c : Exc1 X x f C k) (hr : Room (k + 1) X.A) (hg : Gl X x) (he : PE X e te) (hdb : (x == ("__debug__" : Str)) = false := by decide) (hst : starEach [e] X.env = (false, eval e X.env) :: starEach [] X.env := by rfl) :
    PMk X (.Call (.Name x p) [e] [] pos) (tMkO C (spI C f) [] (tCons te tNil)) := by
  obtain ⟨fi, fd, iC, tI, F, hb⟩ := c.fI
  exact pmk_oex (p := p) (pos := pos) (sp := spI C f) c.T iC tI F hr hb (dvs := []) .nil pass0 hg c.g (pa_cons he pa_nil hst) hdb hst rfl
theorem mk1_ok {H1 : Hp} {Q : XK} {v : V} (q : ∀ dx, H1 dx = none → Q (.ref C) (some dx) (upd H1 dx (.xd [(f, v)]))) : [v].length ≤ 1000 ∧ ∀ a, H1 a = none → spI C f (.ref a :: ([v] ++ [])) (upd H1 a (exo a C none))
    (fun v H2 => v = .non ∧ ∃ (d : Addr) (fs : List (Str × V)), H2 a = some (exo a C (some d)) ∧ H2 d = some (exd d fs) ∧ H1 d = none ∧ Q (.ref C) (some d) (upd (del H2 a) d (.xd fs))) (fun _ _ _ => False) := by
  refine ⟨by show 1 ≤ 1000; decide, fun a ha => ⟨a, v, rfl, upd_same, fun dx h1 h2 => ⟨rfl, dx, [(f, v)], upd_same, ?_, ?_, ?_⟩⟩⟩
  · rw [upd_ne h2, upd_same]
  · rw [upd_ne h2] at h1; exact h1
  · have hd : H1 dx = none := by rw [upd_ne h2] at h1; exact h1
    have e : upd (del (upd (upd (upd H1 a (exo a C none)) dx (exd dx [(f, v)])) a (exo a C (some dx))) a) dx (.xd [(f, v)]) = upd H1 dx (.xd [(f, v)]) := by
      funext b
      by_cases hb : b = dx
      · subst hb; rw [upd_same, upd_same]
      · rw [upd_ne hb, upd_ne hb]
        by_cases ha2 : b = a
        · subst ha2; rw [del_same, ha]
        · rw [del_ne ha2, upd_ne ha2, upd_ne hb, upd_ne ha2]
    rw [e]
    exact q dx hd
end

/-! ### exceptions by value: the class by its number -/
structure EV where
  cls : Nat
  fs : List (Str × PyData)
def Xr (K : KW) (ca : Nat → Addr) (g : GW) (H : Hp) (ev : EV) (cls : Value) (d : Option Addr) : Prop :=
  cls = .ref (ca ev.cls) ∧ ExF K g H d ev.fs
/-- what is wished of the exceptions that leave -/
def WD (K : KW) (ca : Nat → Addr) (ZP : ZT) (E : EV → CS → Prop) : WX := fun cls d σ H => ∃ B g cs ev, Rel K ZP B g H cs σ ∧ Xr K ca g H ev cls d ∧ E ev cs
def TakesD (X : Cx) (ca : Nat → Addr) (ZP : ZT) (E : EV → CS → Prop) : Prop := Takes X (WD X.kw ca ZP E)
section
variable {X : Cx} {ca : Nat → Addr} {ZP : ZT} {x f : Str} {n : Nat} {k : Nat} {e : Expr} {tv : TVD} {p pos pos' : Pos} {E : EV → CS → Prop}
def t_raise1 (E : EV → CS → Prop) (n : Nat) (f : Str) (tv : TVD) : TSD := fun _ cs => tv cs fun d cs1 => E ⟨n, [(f, d)]⟩ cs1
theorem ds_raise1 (hc : X.calm = true) (tk : TakesD X ca ZP E) (c : Exc1 X x f (ca n) k) (hr : Room (k + 1) X.A) (hg : Gl X x) (he : DV X ZP e tv) (hdb : (x == ("__debug__" : Str)) = false := by decide) (hst : starEach [e] X.env = (false, eval e X.env) :: starEach [] X.env := by rfl) :
    DS X ZP (.Raise (some (.Call (.Name x p) [e] [] pos)) none pos') (t_raise1 E n f tv) := by
  refine ⟨PS.imp (ps_raise hc tk (pmk1 (p := p) (pos := pos) c hr hg he.pe hdb hst)) ?_⟩
  rintro D σ H ⟨B, cs, g, R, D', q, pp⟩
  refine ⟨B, cs, g, R, _, q, fun d cs1 v g1 H1 q1 R1 r1 s1 f1 => ?_⟩
  have fin : ∀ dx, H1 dx = none → WD X.kw ca ZP E (.ref (ca n)) (some dx) σ (upd H1 dx (.xd [(f, v)])) := fun dx hdx => by
    refine ⟨B, g1.freeze dx, cs1, ⟨n, [(f, d)]⟩, R1.newFz hdx, ⟨rfl, .inr ⟨dx, [v], rfl, upd_same, .inr rfl, ?_⟩⟩, q1⟩
    exact .cons (Rp.go (fun _ h => .inl h) (fun a u h e => by rw [upd_ne (ne_of_none e hdx)]; exact e) (fun a xs h => updn hdx h) r1) .nil
  exact mk1_ok (Q := fun cls d H' => WD X.kw ca ZP E cls d σ H') fin
end

/-! ### contracts with exceptions -/
abbrev TX := List SV → (SV → Prop) → (EV → Prop) → Prop
def spX (K : KW) (ca : Nat → Addr) (ZP : ZF) (n : Nat) (C : TX) : Sp := fun vs H Q E => vs.length = n ∧ ∃ svs g, RSs K g H svs vs ∧ (∀ sv ∈ svs, settled sv = true) ∧ GOk ZP g H ∧ ∃ Q' E', C svs Q' E' ∧
  (∀ sv v g' H', Q' sv → GOk ZP g' H' → RS K g' H' sv v → (∀ xs a, sv = .obj xs → v = .ref a → H a = none) → Frm (fun _ => False) g H g' H' → Q v H') ∧
  ∀ ev cls d g' H', E' ev → GOk ZP g' H' → Xr K ca g' H' ev cls d → Frm (fun _ => False) g H g' H' → E cls d H'
/-- f(e, ..), f may raise -/
def t_callX (E : EV → CS → Prop) (C : TX) (t : TSA) : TD := fun cs Q => t cs fun svs cs1 => C svs (fun sv => Q sv cs1) fun ev => E ev cs1
section
variable {X : Cx} {ca : Nat → Addr} {ZP : ZT} {k n m : Nat} {f : Addr} {fd : FuncData} {ps ks : List Str} {x : Str} {p pos : Pos} {e : Expr} {es : List Expr} {kw : Keyword} {kws : List Keyword} {C : TX} {t tk : TSA} {E : EV → CS → Prop}
  {gg : List Value → List Value → List Value} {gV : List V → List V → List V} {gS : List SV → List SV → List SV}
theorem run_GS {pins : List (Addr × Obj)} {σ : L2.St} {H : Hp} {s : Shared} {Q : VK} {args : Args} {us : List Value} {vs : List V} {sp : Sp} {W : WX} (F : FnG X.prog X.w X.kw X.mg X.base (L2.CX X.prog X.w) k f fd ps sp) (hg : X.A.guards = some []) (hr : Room k X.A) (tk : Takes X W)
    (I : L2.Inv X pins σ H s) (hb : BindsTo s fd args (ps.zip us)) (r : Vals vs us) (h : sp vs H Q (WE W σ)) : wpAny (model X.prog X.w) X.A (call (.ref f) args.pos args.kw) (EP X pins σ Q) X.xe s := by
  refine wpAny_call (codeAny_mono (F.run X.A X.stack s H args us vs Q (WE W σ) hg hr I.env0 hb r h) ?_)
  intro res s' z
  cases res with
  | error e => exact passAt tk σ pins H s e s' I z
  | ok fl =>
    cases fl with
    | ret u => exact I.after z
    | next => exact z.elim
    | brk => exact z.elim
    | cont => exact z.elim
theorem callX_fin {B : Bs} {cs1 : CS} {g1 : GW} {H1 : Hp} {σ : L2.St} {svs : List SV} {vs : List V} {Q : VK} {Q1 : SV → Prop} (R1 : Rel X.kw ZP B g1 H1 cs1 σ) (r1 : RSs X.kw g1 H1 svs vs) (st : ∀ sv ∈ svs, settled sv = true) (hl : vs.length = n) (q1 : C svs Q1 fun ev => E ev cs1)
    (k : ∀ sv v g' H', Q1 sv → Rel X.kw ZP B g' H' cs1 σ → RS X.kw g' H' sv v → Tmp H1 cs1 σ sv v → Frm (fun _ => False) g1 H1 g' H' → Q v H') : spX X.kw ca ZP.zp n C vs H1 Q (WE (WD X.kw ca ZP E) σ) := by
  refine ⟨hl, svs, g1, r1, st, ⟨R1.zok, R1.fzok⟩, _, _, q1, fun sv v g' H' q' G' r' fr f' => ?_, fun ev cls d g' H' q' G' x' f' => ?_⟩
  · have R' := R1.go f' G'.zok G'.fzok
    have tm : Tmp H1 cs1 σ sv v := fun xs a e1 e2 => by
      refine ⟨fun ho => ?_, fr xs a e1 e2⟩
      obtain ⟨ws, ho⟩ := R1.owsome ho
      rw [fr xs a e1 e2] at ho; cases ho
    exact k sv v g' H' q' R' r' tm f'
  · exact ⟨B, g', cs1, ev, R1.go f' G'.zok G'.fzok, x', q'⟩
theorem de_callX (F : FnG X.prog X.w X.kw X.mg X.base (L2.CX X.prog X.w) k f fd ps (spX X.kw ca ZP.zp n C)) (hgd : X.A.guards = some []) (hr : Room k X.A) (tk : TakesD X ca ZP E) (hg : Gl X x) (hm : X.mg x = some (.ref f)) (hk : PySem.W.keepIn X.kw (.ref f) = true) (hb : Binds X.kw fd ps [])
    (hC : ∀ svs Q E, C svs Q E → svs.length = n)
    (ha : DA X ZP (e :: es) t) (hdb : (x == ("__debug__" : Str)) = false := by decide) (he : starEach (e :: es) X.env = (false, eval e X.env) :: starEach es X.env := by rfl) (hpl : (backTo pos (starEach es X.env)).any (·.1) = false := by rfl) :
    DE X ZP (.Call (.Name x p) (e :: es) [] pos) (t_callX E C t) := by
  refine ⟨⟨fun pins s σ H Q I h => ?_⟩⟩
  obtain ⟨B, cs, g, R, Q', q, kk⟩ := h
  refine wpAny_Call_Name_kw (ld_glob I hg hm ?_ hdb)
  refine PySem.W.callWith_K (h₀ := X.base) I.ok.mod.kin hk (thn (ha.pa.run pos pins s σ H (fun vs H1 => vs.length = n ∧ spX X.kw ca ZP.zp n C vs H1 Q (WE (WD X.kw ca ZP E) σ)) I ⟨B, cs, g, R, _, q, fun svs cs1 vs g1 H1 q1 R1 r1 st s1 f1 => ?_⟩) ?_) he hpl
  · have hl : vs.length = n := by rw [← hC _ _ _ q1]; exact (Paired.length r1).symm
    exact ⟨hl, callX_fin R1 r1 st hl q1 fun sv v g' H' q' R' r' tm f' => kk sv cs1 v g' H' q' R' r' (tm.back f1) s1 (f1.trans (f'.mono fun _ _ _ z => z.elim))⟩
  · rintro us s1 ⟨vs, H1, I1, r, hl, q⟩
    refine ⟨I1.kIn, ?_⟩
    have hl2 : us.length = ps.length := by rw [← r.length]; exact F.len _ _ _ _ q
    have b := hb s1 us I1.kIn (by rw [List.append_nil]; exact hl2)
    rw [List.append_nil] at b
    exact run_GS (args := ⟨us, []⟩) F hgd hr tk I1 b r q
end
end Cl

namespace Cl
open PySem PySem.Spec PyProof.Rows L2

/-! ### calls with keywords of a def that may raise -/
section
variable {X : Cx} {ca : Nat → Addr} {ZP : ZT} {k n m : Nat} {f : Addr} {fd : FuncData} {ps ks : List Str} {sp : Sp} {W : WX} {x : Str} {p pos : Pos} {e : Expr} {es : List Expr} {kws : List Keyword} {C : TX} {ta tka : TA} {t tk : TSA} {E : EV → CS → Prop}
  {gg : List Value → List Value → List Value} {gV : List V → List V → List V} {gS : List SV → List SV → List SV}
def tCallGKX (n m : Nat) (sp : Sp) (gV : List V → List V → List V) (W : WX) (t tk : TA) : TE := fun σ H Q => t σ H fun vs H1 => tk σ H1 fun zs H2 => vs.length = n ∧ zs.length = m ∧ sp (gV vs zs) H2 Q (WE W σ)
theorem pe_callGKX (F : FnG X.prog X.w X.kw X.mg X.base (L2.CX X.prog X.w) k f fd ps sp) (hgd : X.A.guards = some []) (hr : Room k X.A) (hg : Gl X x) (hm : X.mg x = some (.ref f)) (hk : PySem.W.keepIn X.kw (.ref f) = true) (hb : KBd X.kw fd ps ks n gg) (hrel : KRel gV gg) (hx : Takes X W)
    (ha : PA X (e :: es) ta) (hkw : PK X kws tka) (hall : (backToKw pos (keywordEach kws X.env)).all (·.1.isSome) = true := by rfl) (hks : (backToKw pos (keywordEach kws X.env)).filterMap (·.1) = ks := by rfl)
    (hdb : (x == ("__debug__" : Str)) = false := by decide) (he : starEach (e :: es) X.env = (false, eval e X.env) :: starEach es X.env := by rfl)
    (hpl : ((backTo pos (starEach (e :: es) X.env)).any (·.1) || (backToKw pos (keywordEach kws X.env)).any (·.1.isNone)) = false := by rfl) :
    PE X (.Call (.Name x p) (e :: es) kws pos) (tCallGKX n ks.length sp gV W ta tka) := by
  constructor
  intro pins s σ H Q I h
  refine wpAny_Call_Name_kw (ld_glob I hg hm ?_ hdb)
  refine PySem.W.callWith_KW (h₀ := X.base) I.ok.mod.kin hk hall (thn (ha.run pos pins s σ H _ I h) ?_) hpl he
  rintro us s1 ⟨vs, H1, I1, r, q⟩
  refine thn (hkw.run pos pins s1 σ H1 _ I1 q) ?_
  rintro ws s2 ⟨zs, H2, I2, rz, l1, l2, q2⟩
  refine ⟨I2.kIn, ?_⟩
  rw [hks]
  exact run_GS (args := ⟨us, ks.zip ws⟩) F hgd hr hx I2 (hb s2 us ws I2.kIn (r.length.symm.trans l1) (rz.length.symm.trans l2)) (hrel _ _ _ _ r rz) q2
theorem pe_callGK0X (F : FnG X.prog X.w X.kw X.mg X.base (L2.CX X.prog X.w) k f fd ps sp) (hgd : X.A.guards = some []) (hr : Room k X.A) (hg : Gl X x) (hm : X.mg x = some (.ref f)) (hk : PySem.W.keepIn X.kw (.ref f) = true) (hb : KBd X.kw fd ps ks 0 gg) (hrel : KRel gV gg) (hx : Takes X W)
    (hkw : PK X kws tka) (hall : (backToKw pos (keywordEach kws X.env)).all (·.1.isSome) = true := by rfl) (hks : (backToKw pos (keywordEach kws X.env)).filterMap (·.1) = ks := by rfl)
    (hdb : (x == ("__debug__" : Str)) = false := by decide)
    (hpl : ((backTo pos (starEach [] X.env)).any (·.1) || (backToKw pos (keywordEach kws X.env)).any (·.1.isNone)) = false := by rfl) :
    PE X (.Call (.Name x p) [] kws pos) (tCallGKX 0 ks.length sp gV W tNil tka) := by
  constructor
  intro pins s σ H Q I h
  refine wpAny_Call_Name_kw (ld_glob I hg hm ?_ hdb)
  refine PySem.W.callWith_KW0 (h₀ := X.base) I.ok.mod.kin hk hall ?_ hpl
  refine thn (hkw.run pos pins s σ H _ I h) ?_
  rintro ws s2 ⟨zs, H2, I2, rz, l1, l2, q2⟩
  refine ⟨I2.kIn, ?_⟩
  rw [hks]
  exact run_GS (args := ⟨[], ks.zip ws⟩) F hgd hr hx I2 (hb s2 [] ws I2.kIn rfl (rz.length.symm.trans l2)) (hrel _ _ _ _ .nil rz) q2
def t_callKX (E : EV → CS → Prop) (gS : List SV → List SV → List SV) (m mk : Nat) (C : TX) (t tk : TSA) : TD := fun cs Q => t cs fun svs cs1 => tk cs1 fun zvs cs2 => (svs.length = m ∧ zvs.length = mk) ∧ C (gS svs zvs) (fun sv => Q sv cs2) fun ev => E ev cs2
theorem de_callK0X (F : FnG X.prog X.w X.kw X.mg X.base (L2.CX X.prog X.w) k f fd ps (spX X.kw ca ZP.zp n C)) (hgd : X.A.guards = some []) (hr : Room k X.A) (hx : TakesD X ca ZP E) (hg : Gl X x) (hm : X.mg x = some (.ref f)) (hk : PySem.W.keepIn X.kw (.ref f) = true)
    (hb : KBd X.kw fd ps ks 0 gg) (hrel : KRel gV gg) (hS : SRel gV gS) (hn : ∀ zs : List V, zs.length = ks.length → (gV [] zs).length = n)
    (hkw : DK X ZP kws tk) (hall : (backToKw pos (keywordEach kws X.env)).all (·.1.isSome) = true := by rfl) (hks : (backToKw pos (keywordEach kws X.env)).filterMap (·.1) = ks := by rfl)
    (hdb : (x == ("__debug__" : Str)) = false := by decide)
    (hpl : ((backTo pos (starEach [] X.env)).any (·.1) || (backToKw pos (keywordEach kws X.env)).any (·.1.isNone)) = false := by rfl) :
    DE X ZP (.Call (.Name x p) [] kws pos) (t_callKX E gS 0 ks.length C t_anil tk) := by
  refine ⟨PE.imp (pe_callGK0X F hgd hr hg hm hk hb hrel hx hkw.pk hall hks hdb hpl) ?_⟩
  rintro σ H Q ⟨B, cs, g, R, Q', q, kk⟩
  show tA X.kw ZP tk σ H _
  refine ⟨B, cs, g, R, _, q, fun svs cs1 vs g1 H1 q1 R1 r1 st s1 f1 => ?_⟩
  have hl : vs.length = ks.length := by rw [← Paired.length r1]; exact q1.1.2
  obtain ⟨r2, st2⟩ := hS X.kw g1 H1 [] svs [] vs .nil r1
  refine ⟨rfl, hl, ?_⟩
  refine callX_fin R1 r2 (st2 (fun _ z => by cases z) st) (hn vs hl) q1.2 fun sv v g' H' q' R' r' t' f' => ?_
  exact kk sv cs1 v g' H' q' R' r' (t'.back f1) s1 (f1.trans (f'.mono fun _ _ _ z => z.elim))
theorem de_callKX (F : FnG X.prog X.w X.kw X.mg X.base (L2.CX X.prog X.w) k f fd ps (spX X.kw ca ZP.zp n C)) (hgd : X.A.guards = some []) (hr : Room k X.A) (hx : TakesD X ca ZP E) (hg : Gl X x) (hm : X.mg x = some (.ref f)) (hk : PySem.W.keepIn X.kw (.ref f) = true) {m : Nat}
    (hb : KBd X.kw fd ps ks m gg) (hrel : KRel gV gg) (hS : SRel gV gS) (hn : ∀ vs zs : List V, vs.length = m → zs.length = ks.length → (gV vs zs).length = n)
    (ha : DA X ZP (e :: es) t) (hkw : DK X ZP kws tk) (hall : (backToKw pos (keywordEach kws X.env)).all (·.1.isSome) = true := by rfl) (hks : (backToKw pos (keywordEach kws X.env)).filterMap (·.1) = ks := by rfl)
    (hdb : (x == ("__debug__" : Str)) = false := by decide) (he : starEach (e :: es) X.env = (false, eval e X.env) :: starEach es X.env := by rfl)
    (hpl : ((backTo pos (starEach (e :: es) X.env)).any (·.1) || (backToKw pos (keywordEach kws X.env)).any (·.1.isNone)) = false := by rfl) :
    DE X ZP (.Call (.Name x p) (e :: es) kws pos) (t_callKX E gS m ks.length C t tk) := by
  refine ⟨PE.imp (pe_callGKX F hgd hr hg hm hk hb hrel hx ha.pa hkw.pk hall hks hdb he hpl) ?_⟩
  rintro σ H Q ⟨B, cs, g, R, Q', q, kk⟩
  refine ⟨B, cs, g, R, _, q, fun svs cs1 vs g1 H1 q1 R1 r1 st s1 f1 => ?_⟩
  refine ⟨B, cs1, g1, R1, _, q1, fun zvs cs2 zs g2 H2 q2 R2 r2 st2 s2 f2 => ?_⟩
  have l1 : vs.length = m := by rw [← Paired.length r1]; exact q2.1.1
  have l2 : zs.length = ks.length := by rw [← Paired.length r2]; exact q2.1.2
  obtain ⟨r3, st3⟩ := hS X.kw g2 H2 svs zvs vs zs (RSs.frm f2 R1.fzow st r1) r2
  refine ⟨l1, l2, ?_⟩
  have f12 : Frm (ow cs σ) g H g2 H2 := f1.trans (f2.mono fun a _ _ h => s1 a h)
  refine callX_fin R2 r3 (st3 st st2) (hn vs zs l1 l2) q2.2 fun sv v g' H' q' R' r' t' f' => ?_
  exact kk sv cs2 v g' H' q' R' r' (t'.back f12) (fun a h => s1 a (s2 a h)) (f12.trans (f'.mono fun _ _ _ z => z.elim))
end

/-! ### statements at a def's top: what comes behind is told from the def's start -/
def tS0 (K : KW) (ZP : ZT) (t : TSD) : TS := fun D σ H => ∃ B cs g, Rel K ZP B g H cs σ ∧ ∃ D', t D' cs ∧ SPost K ZP B B.2 B.1 D' D
structure DS0 (X : Cx) (ZP : ZT) (st : Stmt) (t : TSD) : Prop where
  ps : PS X st (tS0 X.kw ZP t)
structure DSs0 (X : Cx) (ZP : ZT) (st : List Stmt) (t : TSD) : Prop where
  pss : PSs X st (tS0 X.kw ZP t)
section
variable {X : Cx} {ZP : ZT} {st : Stmt} {sts rest : List Stmt} {t u : TSD}
theorem tS0_of {K : KW} {D : Ends} {σ : L2.St} {H : Hp} (h : tS0 K ZP t D σ H) : tS K ZP t D σ H := by
  obtain ⟨B, cs, g, R, D', q, p⟩ := h
  have hz : ∀ a, B.2.fz a → B.2.zs a = none ∧ ¬ (fun _ => False) a := fun a h => by
    refine ⟨?_, fun z => z⟩
    cases e : B.2.zs a with
    | none => rfl
    | some t =>
      have e2 := R.base.zsm a t e
      rw [(R.fzok a (R.base.fzm a h)).2] at e2; cases e2
  exact ⟨B, cs, g, R, D', q, p.from (R.base.stay hz)⟩
theorem ds0_of (h : DS X ZP st t) : DS0 X ZP st t := ⟨PS.imp h.ps fun D σ H q => tS0_of q⟩
theorem dss0_of (h : DSs X ZP sts t) : DSs0 X ZP sts t := ⟨PSs.imp h.pss fun D σ H q => tS0_of q⟩
theorem dss0_one (h : DS0 X ZP st t) : DSs0 X ZP [st] t := ⟨pss_one h.ps⟩
theorem dss0_cons (h : DS0 X ZP st t) (h2 : DSs0 X ZP rest u) : DSs0 X ZP (st :: rest) (t_seq t u) := by
  refine ⟨PSs.imp (pss_cons h.ps h2.pss) ?_⟩
  rintro D σ H ⟨B, cs, g, R, D', q, p⟩
  exact ⟨B, cs, g, R, { D' with nx := u D' }, q, ⟨fun cs1 σ1 g1 H1 R1 s1 q1 => ⟨B, cs1, g1, R1, D', q1, p⟩, p.bk, p.ct, p.rt⟩⟩
end

/-! ### a def that may raise -/
def runX (t : (EV → CS → Prop) → TSD) (N : List Str) (n : Nat) : TX := fun svs Q E => svs.length = n ∧ t (fun ev _ => E ev) { nx := fun _ => Q (.dat .none), rt := Q } (initC N svs)
section
variable {P : Program} {w : World} {K : KW} {mg : Str → Option Value} {base : Heap} {zp : ZF} {ca : Nat → Addr}
theorem fnDX {K : PySem.W.Frag} {x qual : Str} {st : Stmt} {f : Addr} {fd : FuncData} {N ps : List Str} {k : Nat} {t : (EV → CS → Prop) → TSD} (F : Fun K x qual st f fd) (S : FnScope N ps (defScope st))
    (bod : ∀ (cdv : Value) (A : Around) (outer : List Env) (s : Shared) (H : Hp) (E0 : XK) (bs : Bs → Prop) (E : EV → CS → Prop), A.guards = some [] → Room k (A.deeper (envOfC qual (defScope st) s.heap.objs.size f cdv)) → (∀ B1 B2, bs B1 → bs B2 → B1 = B2) →
      TakesD (cxOf (L2.CX P w) P w K mg base N qual (defScope st) f cdv A outer s H E0) ca ⟨zp, bs⟩ E →
      DSs0 (cxOf (L2.CX P w) P w K mg base N qual (defScope st) f cdv A outer s H E0) ⟨zp, bs⟩ (defBody st) (t E)) :
    FnG P w K mg base (L2.CX P w) (k + 1) f fd ps (spX ⟨K, w⟩ ca zp ps.length (runX t N ps.length)) := by
  obtain ⟨oc, od, kV, doc, pm, an, cdv, ct, osl, rfl, lk, cdk⟩ := F.ex
  refine fnG_of lk cdk S (fun vs H Q E h => h.1) fun A outer s H vs Q E0 hg hr want => ?_
  obtain ⟨hl, svs, g, r, sty, G, Q', E', ⟨_, q⟩, kn, kx⟩ := want
  have tk : TakesD (cxOf (L2.CX P w) P w K mg base N qual (defScope st) f cdv A outer s H E0) ca ⟨zp, fun B => B = (H, g)⟩ (fun ev _ => E' ev) := by
    refine Takes.imp (takes_of rfl rfl rfl rfl) ?_
    rintro cls d σ H' ⟨B, g', cs, ev, R, xr, e⟩
    have hB : B = (H, g) := R.bs
    subst hB
    exact kx ev cls d g' H' e ⟨R.zok, R.fzok⟩ xr R.base
  refine ⟨_, (bod cdv A outer s H E0 _ _ hg hr (fun B1 B2 e1 e2 => e1.trans e2.symm) tk).pss, ?_⟩
  refine ⟨(H, g), initC N svs, g, G.rel (ZP := ⟨zp, fun B => B = (H, g)⟩) rfl r sty, _, q, ⟨fun cs' σ' g' H' R' s' q' => ?_, fun _ _ _ _ _ _ z => z.elim, fun _ _ _ _ _ _ z => z.elim, fun sv v cs' σ' g' H' R' s' r' t' q' => ?_⟩⟩
  · exact kn _ .non g' H' q' ⟨R'.zok, R'.fzok⟩ .non (fun _ _ e => by cases e) R'.base
  · exact kn sv v g' H' q' ⟨R'.zok, R'.fzok⟩ r' t' R'.base
/-- a def that lets nothing out, with a try at its top -/
theorem fnD0 {K : PySem.W.Frag} {x qual : Str} {st : Stmt} {f : Addr} {fd : FuncData} {N ps : List Str} {k : Nat} {t : TSD} (F : Fun K x qual st f fd) (S : FnScope N ps (defScope st))
    (bod : ∀ (cdv : Value) (A : Around) (outer : List Env) (s : Shared) (H : Hp) (E : XK) (bs : Bs → Prop), A.guards = some [] → Room k (A.deeper (envOfC qual (defScope st) s.heap.objs.size f cdv)) → (∀ B1 B2, bs B1 → bs B2 → B1 = B2) →
      DSs0 (cxOf CX0 P w K mg base N qual (defScope st) f cdv A outer s H E).nox ⟨zp, bs⟩ (defBody st) t) :
    FnG P w K mg base CX0 (k + 1) f fd ps (spD ⟨K, w⟩ zp ps.length (runD t N ps.length)) := by
  refine funG F S (fun vs H Q E h => h.1) fun cdv A outer s H vs Q E hg hr h => ?_
  obtain ⟨hl, svs, g, r, st, G, Q', ⟨_, q⟩, k⟩ := h
  refine ⟨_, (bod cdv A outer s H E (fun B => B = (H, g)) hg hr (fun B1 B2 e1 e2 => e1.trans e2.symm)).pss, ?_⟩
  refine ⟨(H, g), initC N svs, g, G.rel (ZP := ⟨zp, fun B => B = (H, g)⟩) rfl r st, _, q, ⟨fun cs' σ' g' H' R' s' q' => ?_, fun _ _ _ _ _ _ z => z.elim, fun _ _ _ _ _ _ z => z.elim, fun sv v cs' σ' g' H' R' s' r' t' q' => ?_⟩⟩
  · exact k _ .non g' H' q' ⟨R'.zok, R'.fzok⟩ .non (fun _ _ e => by cases e) R'.base
  · exact k sv v g' H' q' ⟨R'.zok, R'.fzok⟩ r' t' R'.base
end
end Cl

/-! try, the caught exception's fields, its classes -/
namespace Cl
open PySem PySem.Spec PyProof.Rows L2

/-- a slot is emptied -/
theorem Rel.gone {K : KW} {ZP : ZT} {B : Bs} {g : GW} {H : Hp} {cs : CS} {σ : L2.St} (R : Rel K ZP B g H cs σ) (i : Nat) : Rel K ZP B g H (cs.set i none) (σ.set i none) := by
  have key : ∀ {j : Nat} {sv : SV}, (cs.set i none)[j]? = some (some sv) → j ≠ i ∧ cs[j]? = some (some sv) := fun {j sv} e => by
    by_cases h : j = i
    · subst h
      by_cases hl : j < cs.length
      · rw [List.getElem?_set_self hl] at e; cases e
      · rw [List.getElem?_eq_none (by simpa using hl)] at e; cases e
    · exact ⟨h, by rw [List.getElem?_set_ne (Ne.symm h)] at e; exact e⟩
  have sg : ∀ {j : Nat} {v : V}, j ≠ i → (σ.set i none)[j]? = some (some v) → σ[j]? = some (some v) := fun {j v} h e => by
    rw [List.getElem?_set_ne (Ne.symm h)] at e; exact e
  refine ⟨by simp [R.len], fun j sv e => ?_, fun j k xs ys a e1 e2 e3 e4 => ?_, R.zok, R.fzok, R.base, fun a h => ?_, R.bs⟩
  · obtain ⟨h, e⟩ := key e
    obtain ⟨v, e1, r⟩ := R.slot j sv e
    exact ⟨v, by rw [List.getElem?_set_ne (Ne.symm h)]; exact e1, r⟩
  · obtain ⟨h1, e1⟩ := key e1
    obtain ⟨h2, e2⟩ := key e2
    exact R.sep j k xs ys a e1 e2 (sg h1 e3) (sg h2 e4)
  · obtain ⟨j, xs, e1, e2⟩ := h
    obtain ⟨h1, e1⟩ := key e1
    exact R.fresh a ⟨j, xs, e1, sg h1 e2⟩

/-! ### try: body, except x as e: suite -/
/-- tb: the body, by what is wished of exceptions; th: the suite, by the exception's address, class and dict; sub: whether a class is caught -/
def t_try (sub : Nat → Option Bool) (i : Nat) (tb : (EV → CS → Prop) → TSD) (th : Addr → Nat → Option Addr → TSD) (E : EV → CS → Prop) : TSD := fun D cs => ∀ E2 : EV → CS → Prop,
  (∀ ev cs', (∃ b, sub ev.cls = some b ∧ (b = true → i < cs'.length ∧ ∀ a d, th a ev.cls d { nx := fun c => D.nx (c.set i none), rt := D.rt, bk := fun c => D.bk (c.set i none), ct := fun c => D.ct (c.set i none) } (cs'.set i (some (.exc a ev.cls d ev.fs)))) ∧ (b = false → E ev cs')) → E2 ev cs') → tb E2 D cs
section
variable {X : Cx} {ca : Nat → Addr} {ZP : ZT} {x nm : Str} {c : Value} {i : Nat} {sub : Nat → Option Bool} {body suite : List Stmt} {b₀ : Stmt} {np pos pos' : Pos} {tb : (EV → CS → Prop) → TSD} {th : Addr → Nat → Option Addr → TSD} {E : EV → CS → Prop}
theorem ds0_try (hbs : ∀ B1 B2, ZP.bs B1 → ZP.bs B2 → B1 = B2) (hs : X.stack = X.env :: X.outer) (hf : X.env.frame = some X.env.locals) (hN : X.N.Nodup) (hi : X.N[i]? = some nm) (hln : X.env.kindOf nm = some .local) (hc : Names X x c)
    (hsub : ∀ n b, sub n = some b → PySem.W.exmOne X.kw (.ref (ca n)) c = some b) (tk : TakesD X ca ZP E)
    (hb : ∀ (pn : List (Addr × Obj)) (xe : Value → Shared → Prop) (E2 : EV → CS → Prop), TakesD (X.tr pn xe) ca ZP E2 → DSs0 (X.tr pn xe) ZP body (tb E2))
    (hsu : ∀ (a : Addr) (oe : Obj) (n : Nat) (d : Option Addr) (pn : List (Addr × Obj)), Zc (.ref (ca n)) d oe → (∃ vs, oe.data = .fields vs) → DSs0 (X.suite a ((a, oe) :: pn)) ZP (b₀ :: suite) (th a n d)) :
    DS0 X ZP (.Try body [.ExceptHandler (some (.Name x np)) (some nm) (b₀ :: suite) pos'] [] [] pos) (t_try sub i tb th E) := by
  let EW : WX → EV → CS → Prop := fun W ev cs => ∀ B σ g H cls d, Rel X.kw ZP B g H cs σ → Xr X.kw ca g H ev cls d → W cls d σ H
  refine ⟨PS.imp (ps_try_as (tb := fun W => tS0 X.kw ZP (tb (EW W))) (ts := fun a cls d D σ H => ∃ n, cls = .ref (ca n) ∧ tS0 X.kw ZP (th a n d) D σ H) hs hf hN hi hln hc tk (fun W pn xe tkW _ => ?_) (fun a oe cls d pn hz hfl => ?_)) ?_⟩
  · refine (hb pn xe (EW W) ?_).pss
    refine Takes.imp tkW ?_
    rintro cls d σ H ⟨B, g, cs, ev, R, xr, e⟩
    exact e B σ g H cls d R xr
  · refine ⟨fun pins s σ H D I h => ?_⟩
    obtain ⟨n, e, h⟩ := h
    subst e
    exact (hsu a oe n d pn hz hfl).pss.run pins s σ H D I h
  · rintro D σ H ⟨B, cs, g, R, D', q, p⟩
    refine ⟨B, cs, g, R, D', q _ fun ev cs' hh => ?_, p⟩
    rintro B1 σ1 g1 H1 cls d R1 ⟨rfl, xr⟩
    obtain ⟨b, eb, h1, h2⟩ := hh
    have eB : B1 = B := hbs B1 B R1.bs R.bs
    rw [eB] at R1
    refine ⟨b, hsub _ _ eb, fun hb a ha => ?_, fun hb => ?_⟩
    · obtain ⟨hlen, h3⟩ := h1 hb
      refine ⟨ev.cls, rfl, B, cs'.set i (some (.exc a ev.cls d ev.fs)), g1, R1.store hlen ⟨rfl, xr⟩ (fun _ _ e => by cases e), _, h3 a d, ?_⟩
      constructor
      · exact fun c2 σ2 g2 H2 R2 s2 q2 => p.nx (c2.set i none) (σ2.set i none) g2 H2 (R2.gone i) s2 q2
      · exact fun c2 σ2 g2 H2 R2 s2 q2 => p.bk (c2.set i none) (σ2.set i none) g2 H2 (R2.gone i) s2 q2
      · exact fun c2 σ2 g2 H2 R2 s2 q2 => p.ct (c2.set i none) (σ2.set i none) g2 H2 (R2.gone i) s2 q2
      · exact p.rt
    · exact ⟨B, g1, cs', ev, R1, ⟨rfl, xr⟩, h2 hb⟩
/-- in a frame that lets nothing out -/
theorem takesD_no {X : Cx} {ca : Nat → Addr} {ZP : ZT} : TakesD X ca ZP (fun _ _ => False) := by
  rintro u s' ⟨a, B, sI, pins, σ, H, cls, d, e, I, nb, up, sky, na, os, ag, B', g, cs, ev, R, xr, z⟩
  exact z.elim
end

/-! ### e.f in the suite -/
def t_xf (n0 : Nat) (a : Addr) (n : Nat) (d : Option Addr) (f : Str) (i : Nat) : TVD := fun cs Q => n = n0 ∧ ∃ fs v, cs[i]? = some (some (.exc a n d fs)) ∧ fs.lookup f = some v ∧ Q v cs
theorem lookup_zip {K : KW} {H : Hp} {fz : Addr → Prop} {f : Str} : ∀ {fs : List (Str × PyData)} {vs : List V} {d : PyData}, RpAll K H fz (fs.map (·.2)) vs → fs.lookup f = some d → ∃ v, ((fs.map (·.1)).zip vs).lookup f = some v ∧ Rp K H fz d v
  | [], _, _, _, e => by cases e
  | (y, c) :: fs, _, d, .cons (v := v) (vs := vs) r rs, e => by
    rw [List.lookup_cons] at e
    by_cases h : f == y
    · rw [h] at e
      cases e
      exact ⟨v, by rw [List.map_cons, List.zip_cons_cons, List.lookup_cons, h], r⟩
    · have h' : (f == y) = false := by simpa using h
      rw [h'] at e
      obtain ⟨u, e1, e2⟩ := lookup_zip rs e
      exact ⟨u, by rw [List.map_cons, List.zip_cons_cons, List.lookup_cons, h']; exact e1, e2⟩
section
variable {X : Cx} {ca : Nat → Addr} {ZP : ZT} {a : Addr} {oe : Obj} {n n0 : Nat} {d : Option Addr} {pn : List (Addr × Obj)} {x f : Str} {i : Nat} {pos p2 : Pos}
theorem dv_xf (T : XfC X.kw (ca n0)) (hno : PySem.W.findIn X.kw (.ref (ca n0)) f = some none) (hz : Zc (.ref (ca n)) d oe) (hf : ∃ vs, oe.data = .fields vs) (hN : X.N[i]? = some x) (hv : Vis X.env.scope x) (hd : (x == ("__debug__" : Str)) = false := by decide) (hcd : (x == ("__classdict__" : Str)) = false := by decide)
    (hb : attributeBase (.Name x p2) f X.env (eval (.Name x p2) X.env) = eval (.Name x p2) X.env := by rfl) :
    DV (X.suite a ((a, oe) :: pn)) ZP (.Attribute (.Name x p2) f pos) (t_xf n0 a n d f i) := by
  by_cases hn : n = n0
  · subst hn
    refine ⟨PE.imp (pe_xf T hno hz hf (pe_var (X := X.suite a ((a, oe) :: pn)) hN hv hd hcd) hb) ?_⟩
    rintro σ H Q ⟨B, cs, g, R, Q', ⟨_, fs, v, e, l, q⟩, k⟩
    obtain ⟨u, e1, rfl, xr⟩ := R.slot i _ e
    rcases xr with ⟨_, e4⟩ | ⟨dx, vs, e4, e5, e6, e7⟩
    · subst e4; cases l
    · obtain ⟨w, e8, r⟩ := lookup_zip e7 l
      exact ⟨_, e1, rfl, rfl, dx, _, w, e4, e5, e8, k v cs w g H q R r (fun _ h => h) .refl⟩
  · refine ⟨⟨fun pins s σ H Q I h => ?_⟩⟩
    obtain ⟨B, cs, g, R, Q', ⟨h0, _⟩, k⟩ := h
    exact absurd h0 hn
end
/-! ### isinstance of a caught exception that has fields: a twin for any dict -/
section
open PySem.W PySem.Calls
variable {prog : Program} {w : World} {A : Around} {E : Value → Shared → Prop} {s : Shared} {K : PySem.W.Frag} {x D : Addr} {ox : Obj} {od : Option Obj}
theorem bindN {C : Addr} {name : Str} {b v : Value} (isC : (clsIn K C).isSome = true) (inC : findIn K (.ref C) name = some (some b)) (getB : specialIn K b "__get__" = some (some v)) (tkB : takesIn K b = some true) : findObj K C od name = some (.bind v b) := by
  cases od with
  | some o => exact findObj_data isC inC getB tkB
  | none => exact findObj_dataN isC inC getB tkB
theorem class_of_exc {Q : Option Value → Shared → Prop} (c : ExcC K D) (inK : K.In s.heap) (J : InstAt s.heap x ox D od) (q : Q (some (.ref D)) { s with toks := s.toks + 1 }) :
    wpAny (model prog w) A (getAttr? (.ref x) "__class__") Q E s := by
  have bd : findObj K D od "__class__" = some (.bind (.builtin "getset_descriptor.__get__") (.builtin "object.__class__")) := by
    refine bindN ?_ c.ha c.hn c.ht
    obtain ⟨cd, e, _⟩ := any_some c.hd
    rw [e]; rfl
  obtain ⟨hh, gs, dr, tk, os⟩ := s
  have k0 := J.type (M := model prog w)
  have k1 := looks_findIn (M := model prog w) inK c.hg
  have k2 := looks_findIn (M := model prog w) inK c.hk
  have k3 := looks_find (M := model prog w) inK J bd
  have below : Looks (model prog w) hh (isInstance (.ref x) (.type "BaseException")) true := k0.andThen (looks_subIn inK c.hs)
  have z0 : (false && onTheHeap (Value.builtin "BaseException.__getattribute__")) = false := rfl
  have z2 : (Value.builtin "BaseException.__getattribute__" == Value.builtin "object.__getattribute__") = false := by decide +kernel
  have z1 : (onTheHeap (Value.ref D) && Value.builtin "BaseException.__getattribute__" == Value.builtin "object.__getattribute__") = false := by
    rw [z2]; rfl
  unfold getAttr? getAttrBy? getAttrBy
  refine wpAny_bind (wpAny_mkText (wpAny_bind (wpAny_attempt (wpAny_holding (wpAny_bind (k0.at (wpAny_bind (k1.at ?_))))))))
  show wpAny _ _ (if (onTheHeap (Value.ref D) && Value.builtin "BaseException.__getattribute__" == Value.builtin "object.__getattribute__") = true then _ else _) _ _ _
  rw [z1, if_neg Bool.false_ne_true]
  unfold getAttrByItsOwn hookBefore
  refine wpAny_bind ?_
  rw [if_pos (show onTheHeap (Value.ref D) = true from rfl)]
  refine k2.at (wpAny_bind (wpAny_attempt (wpAny_holding ?_)))
  unfold callGetattribute
  rw [z0, if_neg Bool.false_ne_true]
  unfold boundAndCalled
  rw [PySem.F.excAttr_ValueError.ga.bind (.ref x)]
  refine wpAny_bind (wpAny_pure ?_)
  show wpAny _ _ (call (.builtin "BaseException.__getattribute__") [.ref x, .str "__class__" tk]) _ _ _
  refine wpAny_call (codeAny_call_builtin PySem.F.excAttr_ValueError.ga.plain PySem.F.entry_bexc_ga ?_)
  refine @check_slot (model prog w) _ _ ⟨hh, gs, dr, tk + 1, os⟩ "BaseException.__getattribute__" "BaseException" "__getattribute__" (.ref x) [.str "__class__" tk] [] _ (by decide +kernel) (by decide +kernel) below (PySem.F.args_bexc_ga (.ref x) (.str "__class__" tk)) ?_
  unfold Builtin.«object.__getattribute__»
  refine wpAny_bind (wpAny_of_eq (a := ((Value.ref x : Value), [Value.str "__class__" tk])) (by first | rfl | (simp only [slotArgs]; rfl)) ?_)
  refine wpAny_bind (wpAny_pure (wpAny_bind (k0.at (wpAny_bind (k3.at ?_)))))
  show wpAny _ _ (holding [Value.builtin "object.__class__"] (call (.builtin "getset_descriptor.__get__") [.builtin "object.__class__", .ref x, .ref D]) >>= ret) _ _ _
  refine wpAny_bind (wpAny_holding (wpAny_call (class_get (s := ⟨hh, gs, dr, tk + 1, os⟩) (ox := ox) (od := od) inK J c.hm ?_)))
  refine wpAny_pure ?_
  show wpAny _ _ (handedOut (.ref D)) _ _ _
  rw [handedOut_of (v := .ref D) rfl]
  first
    | exact wpAny_pure (wpAny_pure q)
    | exact wpAny_pure q
    | exact wpAny_pure (wpAny_bind (wpAny_pure (wpAny_pure q)))
theorem kit_excO (c : ExcC K D) : KitX K (.ref x) (.ref D) (fun h => InstAt h x ox D od) where
  ty := fun _ _ _ J => J.type
  it := fun _ _ inK _ => by
    obtain ⟨cd, e, _⟩ := any_some c.hd
    unfold clsIn at e
    split at e
    · rename_i c1 d1 cd1 sl1 eo
      intro A1 Q1 E1 s1 kk qq
      unfold isType loadHead
      exact wpAny_bind (wpAny_loadPart (kk _ _ (inK _ _ eo)) (wpAny_pure qq))
    · cases e
  ne := fun h tp dd its n sl inK htp => by
    obtain ⟨cd, e, _⟩ := any_some c.hd
    refine Bool.eq_false_iff.mpr fun q => ?_
    cases (Value.ref.inj (beq_iff_eq.mp q) : D = tp)
    unfold clsIn at e
    split at e
    · rename_i c1 d1 cd1 sl1 eo
      cases (inK _ _ eo).symm.trans htp
    · cases e
  ca := fun inK J k => class_of_exc c inK J k
end
/-- isinstance(e, c) -/
def rIsX (K : PySem.W.Frag) (C a : Addr) (d : Option Addr) : List V → Hp → VK → Prop := fun xs H Q => ∃ (c : V) (cv : Value) (b : Bool), xs = [.ref a, c] ∧ (∀ u, RelV c u → u = cv) ∧ PySem.W.kitOne K (.ref C) cv = some b ∧
  (d = none ∨ ∃ dx fs, d = some dx ∧ H dx = some (.xd fs)) ∧ Q (.bl b) H
theorem call_isX {X : Cx} {a C : Addr} {d : Option Addr} {oe : Obj} {pn : List (Addr × Obj)} (c : ExcC X.kw C) (hz : Zc (.ref C) d oe) (hf : ∃ vs, oe.data = .fields vs) : CallR (X.suite a ((a, oe) :: pn)) (.builtin "isinstance") (rIsX X.K C a d) := by
  rintro pins s σ H xs us Q I r ⟨w, cv, b, rfl, hcv, e, hd, q⟩
  obtain ⟨u1, u2, rfl, r1, r2⟩ := vals2 r
  cases (show u1 = Value.ref a from r1)
  cases hcv _ r2
  obtain ⟨hget, _⟩ := I.pin (a, oe) (List.mem_append.mpr (.inl List.mem_cons_self))
  obtain ⟨vs, hv⟩ := hf
  have nc : PySem.W.notCls oe = true := by unfold PySem.W.notCls; rw [hv]
  have fin : ∀ od, PySem.W.InstAt s.heap a oe C od → wpAny (model X.prog X.w) (X.suite a ((a, oe) :: pn)).A (call (.builtin "isinstance") [.ref a, cv]) (EP (X.suite a ((a, oe) :: pn)) pins σ Q) (X.suite a ((a, oe) :: pn)).xe s := fun od J =>
    PySem.W.kia_one (kit_excO c) I.kIn J e (fun z => nomatch z) fun tk => ⟨.bl b, H, I.kept (t' := tk) fun _ _ z => z, rfl, q⟩
  rcases hd with hd | ⟨dx, fs, hd, hx⟩
  · refine fin none ⟨hget, hz.1, nc, ?_⟩
    rw [hz.2, hd]
    trivial
  · obtain ⟨mA, ⟨o, es, ep, ho, _⟩, _⟩ := (show ObjOk X.prog X.w H s.heap dx (.xd fs) from I.hok dx _ hx)
    refine fin (some o) ⟨hget, hz.1, nc, ?_⟩
    rw [hz.2, hd]
    exact ho
def t_isx (sub : Nat → Option Bool) (a : Addr) (n : Nat) (d : Option Addr) (i : Nat) : TVD := fun cs Q => ∃ b fs, sub n = some b ∧ cs[i]? = some (some (.exc a n d fs)) ∧ Q (.bool b) cs
section
variable {X : Cx} {ca : Nat → Addr} {ZP : ZT} {a : Addr} {oe : Obj} {n : Nat} {d : Option Addr} {pn : List (Addr × Obj)} {x y : Str} {i : Nat} {pos p2 p3 p : Pos} {sub : Nat → Option Bool} {v : V} {cv : Value}
theorem dv_isx (hE : ∀ m b, sub m = some b → ExcC X.kw (ca m) ∧ PySem.W.kitOne X.kw (.ref (ca m)) cv = some b) (hz : Zc (.ref (ca n)) d oe) (hf : ∃ vs, oe.data = .fields vs) (hg : Gl X "isinstance") (hm : X.mg "isinstance" = none)
    (hN : X.N[i]? = some x) (hv : Vis X.env.scope x) (hc : PE (X.suite a ((a, oe) :: pn)) (.Name y p3) (tC v)) (hcv : ∀ u, RelV v u → u = cv) (hd : (x == ("__debug__" : Str)) = false := by decide) (hcd : (x == ("__classdict__" : Str)) = false := by decide)
    (he : starEach [.Name x p2, .Name y p3] X.env = (false, eval (.Name x p2) X.env) :: starEach [.Name y p3] X.env := by rfl) :
    DV (X.suite a ((a, oe) :: pn)) ZP (.Call (.Name "isinstance" p) [.Name x p2, .Name y p3] [] pos) (t_isx sub a n d i) := by
  cases hs : sub n with
  | none =>
    refine ⟨⟨fun pins s σ H Q I h => ?_⟩⟩
    obtain ⟨B, cs, g, R, Q', ⟨b, fs, h0, _⟩, k⟩ := h
    rw [hs] at h0; cases h0
  | some b0 =>
    obtain ⟨c, kk⟩ := hE n b0 hs
    refine ⟨PE.imp (pe_callB (X := X.suite a ((a, oe) :: pn)) (call_isX c hz hf) hg hm (by decide +kernel) (pa_cons (pe_var (X := X.suite a ((a, oe) :: pn)) hN hv hd hcd) (pa_cons hc pa_nil) he) (by decide) (by decide) he rfl) ?_⟩
    rintro σ H Q ⟨B, cs, g, R, Q', ⟨b, fs, h0, e, q⟩, k⟩
    rw [hs] at h0; cases h0
    obtain ⟨u, e1, rfl, xr⟩ := R.slot i _ e
    refine ⟨_, e1, v, cv, b0, rfl, hcv, kk, ?_, k _ cs _ g H q R (.bl b0) (fun _ h => h) .refl⟩
    rcases xr with ⟨h1, _⟩ | ⟨dx, vs, e4, e5, _, _⟩
    · exact .inl h1
    · exact .inr ⟨dx, _, e4, e5⟩
end
end Cl

/-! len of the script; x[i] = e with its side conditions -/
namespace Cl
open PySem PySem.Spec PyProof.Rows L2
section
variable {X : Cx} {ZP : ZT} {pos p p2 : Pos} {x : Str}
def t_lenScr (i : Nat) : TVD := fun cs Q => ∃ ns, cs[i]? = some (some (.scr ns)) ∧ Q (.int ns.length) cs
theorem dv_lenScr (i : Nat) (hm : X.mg "len" = none) (hg : Gl X "len" := by rfl) (hN : X.N[i]? = some x := by rfl) (hv : Vis X.env.scope x := by first | exact Or.inl rfl | exact Or.inr (Or.inl rfl) | exact Or.inr (Or.inr rfl)) (hd : (x == ("__debug__" : Str)) = false := by decide)
    (hcd : (x == ("__classdict__" : Str)) = false := by decide) (he : starEach [.Name x p2] X.env = (false, eval (.Name x p2) X.env) :: starEach [] X.env := by rfl) : DV X ZP (.Call (.Name "len" p) [.Name x p2] [] pos) (t_lenScr i) := by
  refine ⟨PE.imp (pe_callB call_len_seq hg hm (by decide +kernel) (pa_cons (pe_var hN hv hd hcd) pa_nil he) (by decide) (by decide) he rfl) ?_⟩
  rintro σ H Q ⟨B, cs, g, R, Q', ⟨ns, e, q⟩, k⟩
  obtain ⟨v, e1, r⟩ := R.slot i _ e
  obtain ⟨a, rfl, hs⟩ := scr_sq r
  refine ⟨_, e1, a, ns.map V.int, rfl, .inl hs, ?_⟩
  rw [List.length_map]
  exact k _ cs _ g H q R (.int _) (fun _ h => h) .refl
variable {ie : Expr} {ti : TVD} {xpos : Pos}
theorem dgix (i : Nat) (h : DV X ZP ie ti) (hN : X.N[i]? = some x := by rfl) (hv : Vis X.env.scope x := by first | exact Or.inl rfl | exact Or.inr (Or.inl rfl) | exact Or.inr (Or.inr rfl)) (hd : (x == ("__debug__" : Str)) = false := by decide)
    (hcd : (x == ("__classdict__" : Str)) = false := by decide)
    (ha : ∀ v, assign (.Subscript (.Name x xpos) ie pos) X.env v = (do
      let ov ← holding [v] (eval (.Name x xpos) X.env)
      let iv ← holding [v, ov] (eval ie X.env)
      standAt pos
      holding [v, ov, iv] (setItem ov iv v)
      release [v, ov, iv] []) := by intro _; rfl) : DG X ZP (.Subscript (.Name x xpos) ie pos) (g_setix i ti) := dg_setix hN hv h hd hcd ha
end
end Cl

/-! tuple * 1; a def that may raise, but does not; the law's end for it -/
namespace Cl
open PySem PySem.Spec PyProof.Rows L2
theorem mul_one {l : Addr} {its : Array Value} {n : Nat} {dd : Option Addr} {sl : Array (Option Value)} {u : Tok} :
    Meets (Builtin.«tuple.__mul__» ⟨[.ref l, .int 1 u], []⟩) (fun _ R s => s.heap.get? l = some { cls := .type "tuple", dict := dd, data := .seq its n, slots := sl } ∧ R (.ok (.ret (Value.ref l))) s) :=
  .of_wp fun prog w A R s h => by
    obtain ⟨hp, g, d, tk, os⟩ := s
    obtain ⟨hl, h⟩ := h
    have f1 := AutoSeq1.idx_int
    wp_walk using wpAny_loadPart' hl
    repeat (first
      | (refine wpAny_ite_false (by decide) ?_; wp_walk using wpAny_loadPart' hl)
      | (refine wpAny_ite_true (by simp) ?_; wp_walk using wpAny_loadPart' hl))
    exact ⟨_, rfl, h⟩
theorem op_rep1 {X : Cx} : OpR X (binaryOp .Mult) (fun x y H Q => ∃ l xs, x = .ref l ∧ y = .int 1 ∧ SqT X.kw H l xs ∧ Q (.ref l) H) := by
  rintro pins s σ H x y v u Q I rx ry ⟨l, xs, rfl, rfl, hT, q⟩
  cases rx
  obtain ⟨t, rfl⟩ := ry
  obtain ⟨its, r, ⟨⟨cls, dd, data, sl⟩, ho, hc, n, hd⟩, hs⟩ := I.tuple hT
  simp only at hc hd
  subst hc hd
  exact wpAny_binaryOp_repeat_ref (T := "tuple") (U := "int") (by decide) ⟨_, ho, rfl⟩ (fun s' => typeIs_int s' 1 t) noFill_tuple_mul F.fills_int_mul F.slot_int_rmul repeat_tuple F.slot_int_index.lookup
    (call_meets F.slot_int_rmul (typeIs_int s 1 t) F.entry_int_rmul (F.args_int_rmul_2 _ _) (int_rmul_tuple 1 t l its.toArray n dd sl)
      ⟨ho, rfl, ⟨_, ho, rfl⟩, call_meets F.slot_tuple_mul ⟨_, ho, rfl⟩ F.entry_tuple_mul (F.args_tuple_mul_2 _ _) mul_one ⟨ho, ⟨.ref l, H, I, rfl, q⟩⟩⟩)
/-- *, a tuple once too -/
def mulY : OpX := fun x y Q => match x, y with
  | .tuple xs, .int k => if k = 1 then Q (.dat (.tuple xs)) else mulX (.tuple xs) (.int k) Q
  | x, y => mulX x y Q
theorem oy_mul {X : Cx} : OpR X (binaryOp .Mult) (rO X.kw mulY) := by
  rintro pins s σ H x y v u Q I rx ry ⟨fz, d, e, hd, he, Q', q, k⟩
  have old : mulX d e Q' → wpAny (model X.prog X.w) X.A (binaryOp .Mult v u) (EP X pins σ Q) X.xe s := fun q => ox_mul pins s σ H x y v u Q I rx ry ⟨fz, d, e, hd, he, Q', q, k⟩
  cases d with
  | tuple xs =>
    cases e with
    | int j =>
      have q : (if j = 1 then Q' (.dat (.tuple xs)) else mulX (.tuple xs) (.int j) Q') := q
      by_cases hj : j = 1
      · rw [if_pos hj] at q
        subst hj
        obtain ⟨a, vs, rfl, ha, ra⟩ := hd.tup
        cases he.int
        exact op_rep1 pins s σ H _ _ v u Q I rx ry ⟨a, vs, rfl, rfl, SqT.of ha, k _ _ _ q (.same (.tup ha ra))⟩
      · rw [if_neg hj] at q
        exact old q
    | _ => exact old q
  | _ => cases e <;> exact old q
/-- the promise of a def that may raise, told of its calls that do not -/
theorem FnG.quiet {P : Program} {w : World} {K : KW} {mg : Str → Option Value} {base : Heap} {k : Nat} {f : Addr} {fd : FuncData} {ps : List Str} {ca : Nat → Addr} {zp : ZF} {n : Nat} {C : TX} (F : FnG P w K mg base (L2.CX P w) k f fd ps (spX K ca zp n C)) :
    FnG P w K mg base CX0 k f fd ps (spD K zp n fun svs Q => C svs Q fun _ => False) := by
  have up : ∀ vs H Q E, spD K zp n (fun svs Q => C svs Q fun _ => False) vs H Q E → spX K ca zp n C vs H Q (fun _ _ _ => False) := by
    rintro vs H Q E ⟨hl, svs, g, r, st, G, Q', q, h⟩
    exact ⟨hl, svs, g, r, st, G, Q', _, q, h, fun _ _ _ _ _ z => z.elim⟩
  refine ⟨fun vs H Q E h => F.len _ _ _ _ (up _ _ _ _ h), fun A o s H a us vs Q E hg hr he hb hv hs => ?_⟩
  refine codeAny_mono (F.run A o s H a us vs Q _ hg hr he hb hv (up _ _ _ _ hs)) fun r s' z => ?_
  cases r with
  | error e =>
    obtain ⟨_, _, _, _, _, _, _, _, _, _, _, _, z⟩ := z
    exact z.elim
  | ok fl => cases fl <;> exact z
end Cl

/-! sum of a tuple, min and max of ints -/
namespace Cl
open PySem PySem.Spec PyProof.Rows L2
def sumY : C1X := fun d Q => match d with
  | .tuple xs => (match intsD xs with
    | some ns => Q (.dat (.int ns.sum))
    | none => False)
  | d => sumX d Q
theorem c_sumY {X : Cx} (hc : X.calm = true) : CallR X (.builtin "sum") (rC1 X.kw sumY) := by
  rintro pins s σ H xs us Q I r ⟨x, fz, d, rfl, hd, Q', q, k⟩
  cases d with
  | tuple ds =>
    obtain ⟨a, vs, rfl, h, ra⟩ := hd.tup
    cases e : intsD ds with
    | none => simp only [sumY, e] at q
    | some ns =>
      simp only [sumY, e] at q
      have hv := ra.intsOf e
      rw [hv] at h
      obtain ⟨its, rv, ht, _⟩ := I.tuple (SqT.of h)
      rw [Vals.ref1 r]
      have hi : IntsAre its ns := rv.ints
      obtain ⟨ys, ey⟩ := hi.allInts.items
      have hn : numsOf (intItems ys).toList = ns := by rw [← ey]; exact hi.numsOf
      rw [nums_intItems] at hn
      rw [ey] at ht
      refine PySem.W.ktm_sumG (I.ok.hd hc) ht fun h' tk t' hk => ?_
      rw [preSum_eq, List.take_of_length_le (by simp), hn]
      exact ⟨.int _, H, I.kept hk, ⟨_, rfl⟩, k _ _ _ q (.same (.int _))⟩
  | _ => exact c_sum hc pins s σ H _ us Q I r ⟨x, fz, _, rfl, hd, Q', q, k⟩
/-- the greatest, the least of some ints -/
def maxX : C1X := fun d Q => match d with
  | .list xs => (match intsD xs with
    | some ns => 0 < ns.length ∧ ∀ m, m ∈ ns → (∀ y, y ∈ ns → y ≤ m) → Q (.dat (.int m))
    | none => False)
  | _ => False
def minX : C1X := fun d Q => match d with
  | .list xs => (match intsD xs with
    | some ns => 0 < ns.length ∧ ∀ m, m ∈ ns → (∀ y, y ∈ ns → m ≤ y) → Q (.dat (.int m))
    | none => False)
  | _ => False
theorem c_max {X : Cx} (hc : X.calm = true) : CallR X (.builtin "max") (rC1 X.kw maxX) := by
  rintro pins s σ H xs us Q I r ⟨x, fz, d, rfl, hd, Q', q, k⟩
  cases d with
  | list ds =>
    obtain ⟨a, vs, rfl, h, ra⟩ := hd.lst
    cases e : intsD ds with
    | none => simp only [maxX, e] at q
    | some bs =>
      simp only [maxX, e] at q
      exact cr_max hc pins s σ H _ us Q I r ⟨a, bs, rfl, SqL.of (by rw [← ra.intsOf e]; exact h), q.1, fun m h1 h2 => k _ _ _ (q.2 m h1 h2) (.same (.int _))⟩
  | _ => exact q.elim
theorem c_min {X : Cx} (hc : X.calm = true) : CallR X (.builtin "min") (rC1 X.kw minX) := by
  rintro pins s σ H xs us Q I r ⟨x, fz, d, rfl, hd, Q', q, k⟩
  cases d with
  | list ds =>
    obtain ⟨a, vs, rfl, h, ra⟩ := hd.lst
    cases e : intsD ds with
    | none => simp only [minX, e] at q
    | some bs =>
      simp only [minX, e] at q
      exact cr_min hc pins s σ H _ us Q I r ⟨a, bs, rfl, SqL.of (by rw [← ra.intsOf e]; exact h), q.1, fun m h1 h2 => k _ _ _ (q.2 m h1 h2) (.same (.int _))⟩
  | _ => exact q.elim
end Cl

/-! what the top says of the classes of errors -/
namespace Cl
open PySem PySem.Spec PyProof.Rows L2
theorem kit_vE {K : KW} {c : Addr} {b : Bool} (h : PySem.W.subIn K (.ref c) (.type "ValueError") = some b) : PySem.W.kitOne K (.ref c) (.type "ValueError") = some b := by
  unfold PySem.W.kitOne
  rw [if_neg (by intro z; cases z)]
  show (if PySem.W.kitMeta "ValueError" = true then PySem.W.subIn K (.ref c) (.type "ValueError") else none) = some b
  rw [if_pos (by decide +kernel)]
  exact h
theorem kit_cl {K : KW} {c d : Addr} {b : Bool} (hc : PySem.W.isClsIn K d = true) (ht : PySem.W.typeIn K (.ref d) = some (.type "type")) (hd : PySem.W.subIn K (.ref d) (.ref d) = some true) (h : PySem.W.subIn K (.ref c) (.ref d) = some b) : PySem.W.kitOne K (.ref c) (.ref d) = some b := by
  unfold PySem.W.kitOne
  by_cases e : c = d
  · subst e
    rw [h] at hd
    rw [if_pos (by simp)]
    exact hd.symm
  · rw [if_neg (by simpa using e)]
    show (if ((PySem.W.clsIn K d).isSome && PySem.W.typeIn K (.ref d) == some (.type "type")) = true then PySem.W.subIn K (.ref c) (.ref d) else none) = some b
    have hc' : (PySem.W.clsIn K d).isSome = true := hc
    rw [if_pos (by rw [hc', ht]; rfl)]
    exact h
theorem oex_of {K : KW} {C : Addr} {nm q : Str} {N : Addr} {bs bm : List Value} {sn : List Str} {sub : List Value} {ab : Bool} {col : Option Bool} {dd : Option Addr} {m0 m1 m2 m3 m5 : Option Value}
    (l : K.F.lookup C = some (excClassObj nm q C N bs bm true sn sub ab col dd m0 m1 m2 m3 m5 "ValueError.__new__")) (hb : PySem.HandSPX.refsVE bm = true) (sa : PySem.W.findIn K (.ref C) "__setattr__" = some (some (.builtin "object.__setattr__"))) (eC : PySem.W.subIn K (.ref C) (.type "BaseException") = some true)
    (tC : PySem.W.typeIn K (.ref C) = some (.type "type")) (kC : PySem.W.keepIn K (.ref C) = true) : OexC K C := ⟨⟨nm, q, N, bs, bm, sn, sub, ab, col, dd, m0, m1, m2, m3, m5, l, hb⟩, sa, eC, tC, kC⟩
end Cl

/-! dicts of the frame's own whose keys are tuples of ints and texts -/
namespace Cl
open PySem PySem.Spec PyProof.Rows L2

/-! ### keys -/
def keyOf : PyData → Option Key
  | .int i => some (.inl i)
  | .str x => some (.inr x)
  | _ => none
def keysOf : List PyData → Option (List Key)
  | [] => some []
  | d :: ds => match keyOf d, keysOf ds with
    | some k, some ks => some (k :: ks)
    | _, _ => none
def keyD : PyData → Option (List Key)
  | .tuple ds => keysOf ds
  | _ => none
def datK : Key → PyData
  | .inl i => .int i
  | .inr x => .str x
theorem keyOf_rp {K : KW} {H : Hp} {fz : Addr → Prop} {d : PyData} {v : V} {k : Key} (r : Rp K H fz d v) (e : keyOf d = some k) : v = kV k ∧ d = datK k := by
  cases r with
  | int i => cases e; exact ⟨rfl, rfl⟩
  | str x => cases e; exact ⟨rfl, rfl⟩
  | _ => cases e
theorem keysOf_rp {K : KW} {H : Hp} {fz : Addr → Prop} : ∀ {ds : List PyData} {vs : List V} {ks : List Key}, RpAll K H fz ds vs → keysOf ds = some ks → vs = ks.map kV ∧ ds = ks.map datK
  | [], _, ks, .nil, e => by cases e; exact ⟨rfl, rfl⟩
  | d :: ds, _, ks, .cons r rs, e => by
    unfold keysOf at e
    cases h1 : keyOf d with
    | none => rw [h1] at e; cases e
    | some k =>
      cases h2 : keysOf ds with
      | none => rw [h1, h2] at e; cases e
      | some ks' =>
        rw [h1, h2] at e
        cases e
        obtain ⟨a1, a2⟩ := keyOf_rp r h1
        obtain ⟨b1, b2⟩ := keysOf_rp rs h2
        rw [a1, b1]
        exact ⟨rfl, by rw [List.map_cons, ← a2, ← b2]⟩
theorem keyD_rp {K : KW} {H : Hp} {fz : Addr → Prop} {d : PyData} {v : V} {ks : List Key} (r : Rp K H fz d v) (e : keyD d = some ks) : ∃ b, v = .ref b ∧ H b = some (.tup (ks.map kV)) := by
  cases r with
  | tup q ra =>
    obtain ⟨h1, _⟩ := keysOf_rp ra e
    subst h1
    exact ⟨_, rfl, q⟩
  | _ => cases e
/-! ### what a dict holds -/
abbrev KD := List (List Key × PyData)
def getP (kvs : KD) (k : List Key) : Option PyData := (kvs.find? fun kv => decide (kv.1 = k)).map (·.2)
def putP (kvs : KD) (k : List Key) (d : PyData) : KD :=
  if (kvs.any fun kv => decide (kv.1 = k)) = true then kvs.map (fun kv => if kv.1 = k then (kv.1, d) else kv) else kvs ++ [(k, d)]
abbrev zipK (kvs : KD) (vs : List V) : List (List Key × V) := (kvs.map (·.1)).zip vs
section
variable {K : KW} {H : Hp} {fz : Addr → Prop}
theorem getP_val : ∀ {kvs : KD} {vs : List V} (k : List Key), RpAll K H fz (kvs.map (·.2)) vs → match getP kvs k with
    | some d => ∃ v, valV (zipK kvs vs) k = some v ∧ Rp K H fz d v
    | none => valV (zipK kvs vs) k = none
  | [], vs, k, r => by cases r; rfl
  | (j, d) :: kvs, _, k, .cons (v := v) (vs := vs) r rs => by
    have ih := getP_val (kvs := kvs) k rs
    by_cases h : j = k
    · have e : getP ((j, d) :: kvs) k = some d := by simp [getP, List.find?_cons, h]
      rw [e]
      exact ⟨v, valV_pos (p := (j, v)) h, r⟩
    · have e : getP ((j, d) :: kvs) k = getP kvs k := by simp [getP, List.find?_cons, h]
      have e2 : valV (zipK ((j, d) :: kvs) (v :: vs)) k = valV (zipK kvs vs) k := valV_neg (p := (j, v)) h
      rw [e, e2]
      exact ih
theorem zip_any : ∀ {kvs : KD} {vs : List V} (k : List Key), kvs.length = vs.length → ((zipK kvs vs).any fun kv => decide (kv.1 = k)) = kvs.any fun kv => decide (kv.1 = k)
  | [], _, _, _ => by simp [zipK]
  | (j, d) :: kvs, v :: vs, k, h => by
    show (decide (j = k) || ((zipK kvs vs).any fun kv => decide (kv.1 = k))) = (decide (j = k) || kvs.any fun kv => decide (kv.1 = k))
    rw [zip_any k (by simpa using h)]
  | _ :: _, [], _, h => by simp at h
theorem zip_map : ∀ {kvs : KD} {vs : List V} {k : List Key} {d : PyData} {v : V}, RpAll K H fz (kvs.map (·.2)) vs → Rp K H fz d v →
    ∃ ws, (zipK kvs vs).map (fun kv => if kv.1 = k then (kv.1, v) else kv) = zipK (kvs.map (fun kv => if kv.1 = k then (kv.1, d) else kv)) ws ∧ RpAll K H fz ((kvs.map (fun kv => if kv.1 = k then (kv.1, d) else kv)).map (·.2)) ws
  | [], _, _, _, _, .nil, _ => ⟨[], rfl, .nil⟩
  | (j, e) :: kvs, _, k, d, v, .cons (v := u) (vs := us) r rs, rd => by
    obtain ⟨ws, h1, h2⟩ := zip_map (k := k) rs rd
    by_cases h : j = k
    · refine ⟨v :: ws, ?_, ?_⟩
      · show (if j = k then (j, v) else (j, u)) :: (zipK kvs us).map _ = _
        rw [h1, if_pos h]
        show _ = zipK ((if j = k then (j, d) else (j, e)) :: _) (v :: ws)
        rw [if_pos h]
        rfl
      · show RpAll K H fz ((if j = k then (j, d) else (j, e)).2 :: _) (v :: ws)
        rw [if_pos h]
        exact .cons rd h2
    · refine ⟨u :: ws, ?_, ?_⟩
      · show (if j = k then (j, v) else (j, u)) :: (zipK kvs us).map _ = _
        rw [h1, if_neg h]
        show _ = zipK ((if j = k then (j, d) else (j, e)) :: _) (u :: ws)
        rw [if_neg h]
        rfl
      · show RpAll K H fz ((if j = k then (j, d) else (j, e)).2 :: _) (u :: ws)
        rw [if_neg h]
        exact .cons r h2
theorem zip_put {kvs : KD} {vs : List V} {k : List Key} {d : PyData} {v : V} (r : RpAll K H fz (kvs.map (·.2)) vs) (rd : Rp K H fz d v) : ∃ ws, putK (zipK kvs vs) k v = zipK (putP kvs k d) ws ∧ RpAll K H fz ((putP kvs k d).map (·.2)) ws := by
  have hl : kvs.length = vs.length := by rw [← r.length]; simp
  unfold putK putP
  rw [zip_any k hl]
  by_cases h : (kvs.any fun kv => decide (kv.1 = k)) = true
  · rw [if_pos h, if_pos h]
    exact zip_map r rd
  · rw [if_neg h, if_neg h]
    refine ⟨vs ++ [v], ?_, ?_⟩
    · unfold zipK
      rw [List.map_append, List.zip_append (by simpa using hl)]
      rfl
    · rw [List.map_append]
      exact r.append (.cons rd .nil)
end

/-! ### an own object is changed -/
section
variable {K : KW} {ZP : ZT} {B : Bs} {g : GW} {H : Hp} {cs : CS} {σ : L2.St}
theorem Rel.updObj {i : Nat} {o o2 : OwnC} {a : Addr} {u : HO} (R : Rel K ZP B g H cs σ) (e1 : cs[i]? = some (some (.obj o))) (e2 : σ[i]? = some (some (.ref a)))
    (r : RS K g (upd H a u) (.obj o2) (.ref a)) : Rel K ZP B g (upd H a u) (cs.set i (some (.obj o2))) σ ∧ Frm (ow cs σ) g H g (upd H a u) ∧ (∀ b, ow (cs.set i (some (.obj o2))) σ b → ow cs σ b) := by
  obtain ⟨v, e3, r1⟩ := R.slot i _ e1
  rw [e2] at e3; cases e3
  obtain ⟨b, u0, eb, h, n1, n2, nt⟩ := r1.ownAt
  cases eb
  have hi : i < cs.length := (List.getElem?_eq_some_iff.mp e1).1
  have hb : B.1 a = none := R.fresh a ⟨i, o, e1, e2⟩
  have tups : ∀ c zs, H c = some (.tup zs) → (upd H a u) c = some (.tup zs) := fun c zs q => by
    have hne : c ≠ a := fun e => by
      subst e
      rw [h] at q
      exact nt _ (Option.some.inj q)
    rw [upd_ne hne]; exact q
  have any : ∀ c o, H c = some o → ∃ o', upd H a u c = some o' := fun c o e => by
    by_cases hp : c = a
    · subst hp; exact ⟨_, upd_same⟩
    · exact ⟨o, by rw [upd_ne hp]; exact e⟩
  have f : Frm (fun c => c = a) g H g (upd H a u) :=
    ⟨fun c o e _ n => by rw [upd_ne n]; exact e, fun _ h => h, fun _ _ h => h, fun _ _ _ _ h => h, fun _ _ _ h => h, tups, any⟩
  have hfz : ∀ c, g.fz c → g.zs c = none ∧ ¬ c = a := fun c z => ⟨(R.fzow c z).1, fun q => by subst q; exact n1 z⟩
  have hset : ∀ (j : Nat) (sv : SV), (cs.set i (some (.obj o2)))[j]? = some (some sv) → (j = i ∧ sv = .obj o2) ∨ (j ≠ i ∧ cs[j]? = some (some sv)) := fun j sv e => by
    by_cases hj : j = i
    · subst hj
      rw [List.getElem?_set_self hi] at e
      cases e; exact .inl ⟨rfl, rfl⟩
    · rw [List.getElem?_set_ne (Ne.symm hj)] at e
      exact .inr ⟨hj, e⟩
  have own2 : ∀ (j : Nat) (zs : OwnC), (cs.set i (some (.obj o2)))[j]? = some (some (.obj zs)) → ∃ zs', cs[j]? = some (some (.obj zs')) := fun j zs e => by
    rcases hset j _ e with ⟨rfl, _⟩ | ⟨_, e⟩
    · exact ⟨_, e1⟩
    · exact ⟨zs, e⟩
  have sub : ∀ c, ow (cs.set i (some (.obj o2))) σ c → ow cs σ c := fun c ⟨j, zs, h1, h2⟩ => by
    obtain ⟨zs', h3⟩ := own2 j zs h1
    exact ⟨j, zs', h3, h2⟩
  refine ⟨⟨by rw [List.length_set]; exact R.len, fun j sv e => ?_, fun j k zs us c h1 h2 h3 h4 => ?_, fun c t z => ?_, fun c z => ?_, ?_, fun c z => R.fresh c (sub c z), R.bs⟩, f.mono fun c o _ z => by
      have z : c = a := z
      subst z; exact ⟨i, _, e1, e2⟩, sub⟩
  · rcases hset j sv e with ⟨rfl, rfl⟩ | ⟨hj, e⟩
    · exact ⟨_, e2, r⟩
    · obtain ⟨v, e3, r1⟩ := R.slot j sv e
      refine ⟨v, e3, r1.frm f hfz fun zs c e4 e5 q => ?_⟩
      have q : c = a := q
      subst q; subst e4; subst e5
      exact hj (R.sep j i zs _ c e e1 e3 e2)
  · obtain ⟨zs', h5⟩ := own2 j zs h1
    obtain ⟨us', h6⟩ := own2 k us h2
    exact R.sep j k zs' us' c h5 h6 h3 h4
  · obtain ⟨o, e, q⟩ := R.zok c t z
    refine ⟨o, ?_, q⟩
    rw [upd_ne (fun e => by subst e; rw [n2] at z; cases z)]
    exact e
  · obtain ⟨⟨o, e⟩, q⟩ := R.fzok c z
    exact ⟨any c o e, q⟩
  · have nb : ∀ c o, B.1 c = some o → c ≠ a := fun c o e z => by subst z; rw [hb] at e; cases e
    refine ⟨fun c o e z n => ?_, R.base.fzm, R.base.zsm, R.base.fzn, R.base.zsn, fun c zs q => tups c zs (R.base.tups c zs q), fun c o e => ?_⟩
    · rw [upd_ne (nb c o e)]; exact R.base.keep c o e z n
    · obtain ⟨o', e'⟩ := R.base.any c o e
      exact any c o' e'
theorem Rel.dicAt {i : Nat} {kvs : KD} {v : V} (R : Rel K ZP B g H cs σ) (e1 : cs[i]? = some (some (.dic kvs))) (e2 : σ[i]? = some (some v)) : ∃ a vs, v = .ref a ∧ H a = some (.dT (zipK kvs vs)) ∧ ¬ g.fz a ∧ g.zs a = none ∧ RpAll K H g.fz (kvs.map (·.2)) vs := by
  obtain ⟨w, e3, r⟩ := R.slot i _ e1
  rw [e2] at e3; cases e3
  exact r
end

/-! ### the rules -/
section
variable {X : Cx} {ZP : ZT} {x : Str} {pos xpos apos cpos pos' : Pos} {i : Nat} {e f : Expr} {tk tx : TVD}
def t_dnew : TD := fun cs Q => Q (.dic []) cs
theorem de_dnew : DE X ZP (.Dict [] [] pos) t_dnew := by
  refine ⟨PE.imp pe_dnewT ?_⟩
  rintro σ H Q ⟨B, cs, g, R, Q', q, k⟩
  intro p hp
  have n := R.nofz hp
  refine k (.dic []) cs (.ref p) g (upd H p (.dT [])) q (R.laid hp) ⟨p, [], rfl, upd_same, n.1, n.2, .nil⟩ (fun xs a e1 e2 => ?_) (fun _ h => h) (.laid hp)
  cases e2
  refine ⟨fun h => ?_, hp⟩
  obtain ⟨u, h⟩ := R.owsome h
  rw [hp] at h; cases h
/-- d[k] -/
def t_dix (i : Nat) (tk : TVD) : TVD := fun cs Q => (∃ kvs, cs[i]? = some (some (.dic kvs))) ∧ tk cs fun k cs1 => ∃ kvs ks d, cs1[i]? = some (some (.dic kvs)) ∧ keyD k = some ks ∧ getP kvs ks = some d ∧ Q d cs1
theorem dv_dix (hu : X.A.units + 64 < cLine) (i : Nat) (h : DV X ZP e tk) (hN : X.N[i]? = some x := by rfl) (hv : Vis X.env.scope x := by first | exact Or.inl rfl | exact Or.inr (Or.inl rfl) | exact Or.inr (Or.inr rfl)) (hd : (x == ("__debug__" : Str)) = false := by decide)
    (hcd : (x == ("__classdict__" : Str)) = false := by decide) (hs : NoSl e := by exact fun _ _ => rfl) : DV X ZP (.Subscript (.Name x xpos) e pos) (t_dix i tk) := by
  refine ⟨PE.imp (pe_dget (by omega) (pe_var hN hv hd hcd) h.pe hs) ?_⟩
  rintro σ H Q ⟨B, cs, g, R, Q', ⟨⟨kvs0, e0⟩, q⟩, k⟩
  obtain ⟨u, e2, _⟩ := R.slot i _ e0
  refine ⟨u, e2, B, cs, g, R, _, q, fun kd cs1 w g1 H1 q1 R1 r1 s1 f1 => ?_⟩
  obtain ⟨kvs, ks, d, e3, ek, eg, q2⟩ := q1
  obtain ⟨a, vs, rfl, ha, _, _, ra⟩ := R1.dicAt e3 e2
  obtain ⟨b, rfl, hb⟩ := keyD_rp r1 ek
  have z := getP_val ks ra
  rw [eg] at z
  obtain ⟨v, ev, rv⟩ := z
  exact ⟨a, v, rfl, by rw [← ev]; exact DGet.t ha hb, k d cs1 v g1 H1 q2 R1 rv s1 f1⟩
/-- d.get(k, x) -/
def t_dget2 (i : Nat) (tk tx : TVD) : TVD := fun cs Q => (∃ kvs, cs[i]? = some (some (.dic kvs))) ∧ tk cs fun k cs1 => tx cs1 fun d cs2 => ∃ kvs ks, cs2[i]? = some (some (.dic kvs)) ∧ keyD k = some ks ∧ Q ((getP kvs ks).getD d) cs2
theorem dv_dget2 (hu : X.A.units + 64 < cLine) (i : Nat) (h : DV X ZP e tk) (h2 : DV X ZP f tx) (hN : X.N[i]? = some x := by rfl) (hv : Vis X.env.scope x := by first | exact Or.inl rfl | exact Or.inr (Or.inl rfl) | exact Or.inr (Or.inr rfl)) (hd : (x == ("__debug__" : Str)) = false := by decide)
    (hcd : (x == ("__classdict__" : Str)) = false := by decide) (m : M2 X (.Name x xpos) "get" apos e f cpos := by exact ⟨rfl, rfl, rfl, rfl⟩) : DV X ZP (.Call (.Attribute (.Name x xpos) "get" apos) [e, f] [] cpos) (t_dget2 i tk tx) := by
  refine ⟨PE.imp (pe_dget2 (by omega) (pe_var hN hv hd hcd) h.pe h2.pe m) ?_⟩
  rintro σ H Q ⟨B, cs, g, R, Q', ⟨⟨kvs0, e0⟩, q⟩, k⟩
  obtain ⟨u, e2, _⟩ := R.slot i _ e0
  obtain ⟨a0, vs0, rfl, ha0, _⟩ := R.dicAt e0 e2
  refine ⟨_, e2, a0, rfl, .inr ⟨_, .inl ha0⟩, B, cs, g, R, _, q, fun kd cs1 w g1 H1 q1 R1 r1 s1 f1 => ?_⟩
  refine ⟨B, cs1, g1, R1, _, q1, fun d cs2 y g2 H2 q2 R2 r2 s2 f2 => ?_⟩
  obtain ⟨kvs, ks, e3, ek, q3⟩ := q2
  obtain ⟨a, vs, ea, ha, _, _, ra⟩ := R2.dicAt e3 e2
  cases ea
  obtain ⟨b, rfl, hb⟩ := keyD_rp (Rp.frm f2 R1.fzow r1) ek
  refine ⟨_, DGet.t ha hb, ?_⟩
  have z := getP_val ks ra
  have f12 := f1.trans (f2.mono fun a _ _ h => s1 a h)
  cases eg : getP kvs ks with
  | none =>
    rw [eg] at z q3
    rw [z]
    exact k d cs2 y g2 H2 q3 R2 r2 (fun a h => s1 a (s2 a h)) f12
  | some dd =>
    rw [eg] at z q3
    obtain ⟨v, ev, rv⟩ := z
    rw [ev]
    exact k dd cs2 v g2 H2 q3 R2 rv (fun a h => s1 a (s2 a h)) f12
/-- k in d, k not in d -/
def t_din (b : Bool) (i : Nat) (tk : TVD) : TD := fun cs Q => tk cs fun k cs1 => ∃ kvs ks, cs1[i]? = some (some (.dic kvs)) ∧ keyD k = some ks ∧ Q (.dat (.bool (if b then (getP kvs ks).isSome else !(getP kvs ks).isSome))) cs1
theorem din_core {b : Bool} {σ : L2.St} {H : Hp} {Q : VK} (h : tD X.kw ZP (t_din b i tk) σ H Q) : tV X.kw ZP tk σ H fun y H1 => tVar i σ H1 fun x H2 => ∃ a o, x = .ref a ∧ DGet H2 a y o ∧ Q (.bl (if b then o.isSome else !o.isSome)) H2 := by
  obtain ⟨B, cs, g, R, Q', q, k⟩ := h
  refine ⟨B, cs, g, R, _, q, fun kd cs1 w g1 H1 q1 R1 r1 s1 f1 => ?_⟩
  obtain ⟨kvs, ks, e3, ek, q2⟩ := q1
  obtain ⟨u, e2, _⟩ := R1.slot i _ e3
  obtain ⟨a, vs, rfl, ha, _, _, ra⟩ := R1.dicAt e3 e2
  obtain ⟨c, rfl, hb⟩ := keyD_rp r1 ek
  refine ⟨_, e2, a, _, rfl, DGet.t ha hb, ?_⟩
  have z := getP_val ks ra
  have eo : (valV (zipK kvs vs) ks).isSome = (getP kvs ks).isSome := by
    cases eg : getP kvs ks with
    | none => rw [eg] at z; rw [z]; rfl
    | some d => rw [eg] at z; obtain ⟨v, ev, _⟩ := z; rw [ev]; rfl
  rw [eo]
  exact k _ cs1 _ g1 H1 q2 R1 (.bl _) (fun _ _ e => nomatch e) s1 f1
theorem de_din (hu : X.A.units + 64 < cLine) (i : Nat) (h : DV X ZP e tk) (hN : X.N[i]? = some x := by rfl) (hv : Vis X.env.scope x := by first | exact Or.inl rfl | exact Or.inr (Or.inl rfl) | exact Or.inr (Or.inr rfl)) (hd : (x == ("__debug__" : Str)) = false := by decide)
    (hcd : (x == ("__classdict__" : Str)) = false := by decide) : DE X ZP (.Compare e [.In] [.Name x xpos] pos) (t_din true i tk) :=
  ⟨PE.imp (pe_cmp (pc_din (by omega) h.pe (pe_var hN hv hd hcd))) fun σ H Q q => by
    obtain ⟨B, cs, g, R, Q', q1, k⟩ := din_core q
    exact ⟨B, cs, g, R, Q', q1, k⟩⟩
theorem de_dnotin (hu : X.A.units + 64 < cLine) (i : Nat) (h : DV X ZP e tk) (hN : X.N[i]? = some x := by rfl) (hv : Vis X.env.scope x := by first | exact Or.inl rfl | exact Or.inr (Or.inl rfl) | exact Or.inr (Or.inr rfl)) (hd : (x == ("__debug__" : Str)) = false := by decide)
    (hcd : (x == ("__classdict__" : Str)) = false := by decide) : DE X ZP (.Compare e [.NotIn] [.Name x xpos] pos) (t_din false i tk) :=
  ⟨PE.imp (pe_cmp (pc_dnotin (by omega) h.pe (pe_var hN hv hd hcd))) fun σ H Q q => by
    obtain ⟨B, cs, g, R, Q', q1, k⟩ := din_core q
    exact ⟨B, cs, g, R, Q', q1, k⟩⟩
/-- list(d), d a slot -/
def t_dlist (i : Nat) : TD := fun cs Q => ∃ kvs, cs[i]? = some (some (.dic kvs)) ∧ Q (.own (kvs.map fun kv => .tuple (kv.1.map datK))) cs
theorem datK_rp {K : KW} {H : Hp} {fz : Addr → Prop} : ∀ ks : List Key, RpAll K H fz (ks.map datK) (ks.map kV)
  | [] => .nil
  | .inl i :: ks => .cons (.int i) (datK_rp ks)
  | .inr x :: ks => .cons (.str x) (datK_rp ks)
theorem isKeys_rp {K : KW} {H : Hp} {fz : Addr → Prop} : ∀ {kvs : KD} {vs : List V} {bs : List Addr}, kvs.length = vs.length → IsKeys H (zipK kvs vs) bs → RpAll K H fz (kvs.map fun kv => .tuple (kv.1.map datK)) (bs.map V.ref)
  | [], _, _, _, .nil => .nil
  | kv :: kvs, v :: vs, _, hl, .cons h t => .cons (.tup h (datK_rp kv.1)) (isKeys_rp (by simpa using hl) t)
  | _ :: _, [], _, hl, _ => by simp at hl
theorem de_dlist (hc : X.calm = true) (i : Nat) (hm : X.mg "list" = none) (hg : Gl X "list" := by rfl) (hN : X.N[i]? = some x := by rfl) (hv : Vis X.env.scope x := by first | exact Or.inl rfl | exact Or.inr (Or.inl rfl) | exact Or.inr (Or.inr rfl)) (hd : (x == ("__debug__" : Str)) = false := by decide)
    (hcd : (x == ("__classdict__" : Str)) = false := by decide) (he : starEach [.Name x xpos] X.env = (false, eval (.Name x xpos) X.env) :: starEach [] X.env := by rfl) : DE X ZP (.Call (.Name "list" apos) [.Name x xpos] [] pos) (t_dlist i) := by
  refine ⟨PE.imp (pe_callTy (call_list_dT hc) hg hm (by decide +kernel) (pa_cons (pe_var hN hv hd hcd) pa_nil he) (by decide) (by decide) he rfl) ?_⟩
  rintro σ H Q ⟨B, cs, g, R, Q', ⟨kvs, e, q⟩, k⟩
  obtain ⟨u, e2, _⟩ := R.slot i _ e
  obtain ⟨a, vs, rfl, ha, _, _, ra⟩ := R.dicAt e e2
  refine ⟨_, e2, a, _, rfl, .inl ha, fun p bs hp hk => ?_⟩
  have hl : kvs.length = vs.length := by rw [← ra.length]; simp
  obtain ⟨R3, r3, t3, f3⟩ := (Res.lst hp (isKeys_rp (K := X.kw) (fz := g.fz) hl hk)).fin R
  exact k _ cs _ g _ q R3 r3 t3 (fun _ h => h) f3
/-- d[k] = e -/
def t_dput (i : Nat) (tk tx : TVD) : TSD := fun D cs => tx cs fun d cs1 => (∃ kvs, cs1[i]? = some (some (.dic kvs))) ∧ tk cs1 fun k cs2 => ∃ kvs ks, cs2[i]? = some (some (.dic kvs)) ∧ keyD k = some ks ∧ kvs.length < sizeLine ∧ D.nx (cs2.set i (some (.dic (putP kvs ks d))))
theorem ds_dput (hu : X.A.units + 64 < cLine) (i : Nat) (h : DV X ZP e tk) (h2 : DV X ZP f tx) (hN : X.N[i]? = some x := by rfl) (hv : Vis X.env.scope x := by first | exact Or.inl rfl | exact Or.inr (Or.inl rfl) | exact Or.inr (Or.inr rfl)) (hd : (x == ("__debug__" : Str)) = false := by decide)
    (hcd : (x == ("__classdict__" : Str)) = false := by decide) (hs : swapsWith f (some (.Subscript (.Name x xpos) e pos')) pos.line X.env = pure false := by rfl) : DS X ZP (.Assign [.Subscript (.Name x xpos) e pos'] f pos) (t_dput i tk tx) := by
  refine ⟨PS.imp (ps_dput (by omega) (pe_var hN hv hd hcd) h.pe h2.pe hs) ?_⟩
  rintro D σ H ⟨B, cs, g, R, D', q, p⟩
  refine ⟨B, cs, g, R, _, q, fun d cs1 w g1 H1 q1 R1 r1 s1 f1 => ?_⟩
  obtain ⟨⟨kvs0, e0⟩, q1⟩ := q1
  obtain ⟨u, e2, _⟩ := R1.slot i _ e0
  refine ⟨u, e2, B, cs1, g1, R1, _, q1, fun kd cs2 y g2 H2 q2 R2 r2 s2 f2 => ?_⟩
  obtain ⟨kvs, ks, e3, ek, hl, q3⟩ := q2
  obtain ⟨a, vs, rfl, ha, n1, n2, ra⟩ := R2.dicAt e3 e2
  obtain ⟨b, rfl, hb⟩ := keyD_rp r2 ek
  have rd := Rp.frm f2 R1.fzow r1
  obtain ⟨ws, ew, rw_⟩ := zip_put (k := ks) ra rd
  have hll : (zipK kvs vs).length < sizeLine := by
    unfold zipK
    rw [List.length_zip, List.length_map]
    omega
  refine ⟨a, _, rfl, DPut.t ha hb hll, ?_⟩
  have fz : ∀ c, g2.fz c → c ≠ a := fun c h z => by subst z; exact n1 h
  have tn : ∀ c zs, H2 c = some (.tup zs) → c ≠ a := fun c zs q z => by subst z; rw [ha] at q; cases q
  have r3 : RS X.kw g2 (upd H2 a (.dT (putK (zipK kvs vs) ks w))) (.dic (putP kvs ks d)) (.ref a) := by
    refine ⟨a, ws, rfl, by rw [upd_same, ew], n1, n2, ?_⟩
    exact RpAll.go (fun _ h => h) (fun c o h e => by rw [upd_ne (fz c h)]; exact e) (fun c zs q => by rw [upd_ne (tn c zs q)]; exact q) rw_
  obtain ⟨R3, f3, s3⟩ := R2.updObj e3 e2 r3
  exact p.nx _ _ g2 _ R3 (((f1.stay R.fzow).trans (f2.stay R1.fzow)).trans (f3.stay R2.fzow)) q3
end
end Cl

/-! starred arguments, sorted of data that are alike, len of a set of tuples, three names at once -/
namespace Cl
open PySem PySem.Spec PyProof.Rows L2
section
variable {X : Cx} {ZP : ZT} {e : Expr} {es : List Expr} {p pos : Pos} {va : TVD} {ts : TSA}
/-! ### f( *a, ..), [ *a, ..], ( *a, ..) -/
def t_astar (va : TVD) (u : TSA) : TSA := fun cs Q => va cs fun d cs1 => match seqOf d with
  | some ds => u cs1 fun svs cs2 => Q (ds.map .dat ++ svs) cs2
  | none => False
theorem rss_dat {K : KW} {g : GW} {H : Hp} : ∀ {ds : List PyData} {vs : List V}, RpAll K H g.fz ds vs → RSs K g H (ds.map .dat) vs
  | [], _, .nil => .nil
  | _ :: _, _, .cons r rs => .cons r (rss_dat rs)
theorem rss_append {K : KW} {g : GW} {H : Hp} : ∀ {a b : List SV} {vs ws : List V}, RSs K g H a vs → RSs K g H b ws → RSs K g H (a ++ b) (vs ++ ws)
  | _, _, _, _, .nil, s => s
  | _, _, _, _, .cons r t, s => .cons r (rss_append t s)
theorem da_star (h : DV X ZP e va) (r : DA X ZP es ts) (hs : starEach (.Starred e p :: es) X.env = (true, eval e X.env) :: starEach es X.env := by rfl) : DA X ZP (.Starred e p :: es) (t_astar va ts) := by
  refine ⟨PA.imp (StX.pa_star h.pe r.pa hs) ?_⟩
  rintro σ H Q ⟨B, cs, g, R, Q', q, k⟩
  refine ⟨B, cs, g, R, _, q, fun d cs1 v g1 H1 q1 R1 r1 s1 f1 => ?_⟩
  cases e1 : seqOf d with
  | none => rw [e1] at q1; exact q1.elim
  | some ds =>
    rw [e1] at q1
    obtain ⟨kk, a, xs, rfl, ra, hS, hst⟩ := Rp.src r1 e1
    refine ⟨a, xs, rfl, ?_, B, cs1, g1, R1, _, q1, fun svs cs2 vs g2 H2 q2 R2 r2 st s2 f2 => ?_⟩
    · cases kk with
      | lst => exact .inr (SqL.of hS)
      | tup => exact .inl hS
    · have ra2 := ra.frm f2 R1.fzow
      refine k _ cs2 _ g2 H2 q2 R2 (rss_append (rss_dat ra2) r2) (fun sv hm => ?_) (fun a h => s1 a (s2 a h)) (f1.trans (f2.mono fun a _ _ h => s1 a h))
      rcases List.mem_append.mp hm with hm | hm
      · obtain ⟨d, _, rfl⟩ := List.mem_map.mp hm
        rfl
      · exact st sv hm
end
theorem datsOf_app : ∀ (ds : List PyData) (svs : List SV), datsOf (ds.map .dat ++ svs) = (datsOf svs).map (ds ++ ·)
  | [], svs => by cases h : datsOf svs <;> simp [h]
  | d :: ds, svs => by
    show (datsOf (ds.map .dat ++ svs)).map (d :: ·) = _
    rw [datsOf_app ds svs]
    cases datsOf svs <;> rfl
/-! ### sorted(xs) -/
def sortOk (ds : List PyData) : Prop := PySem.W.AllAlike ds ∧ PySem.W.Sortable ds ∧ ds.length ≤ sizeLine ∧ ∀ d ∈ ds, d.depth ≤ 60
def sortD (ds : List PyData) : List PyData := ds.mergeSort (PySem.W.dataLe false fun d => d)
def sortedX : C1X := fun d Q => match d with
  | .list ds => sortOk ds ∧ Q (.own (sortD ds))
  | _ => False
theorem each_zip {K : KW} {H : Hp} {fz : Addr → Prop} : ∀ {ds : List PyData} {vs : List V} {us : List Value}, RpAll K H fz ds vs → Vals vs us → PySem.W.EachIs (fun (u : Value) (b : PyData × V) => RelV b.2 u ∧ Rp K H fz b.1 b.2) us (ds.zip vs)
  | [], _, _, .nil, .nil => .nil
  | _ :: _, _, _, .cons r rs, .cons q qs => .cons ⟨q, r⟩ (each_zip rs qs)
theorem zip_fst : ∀ {ds : List PyData} {vs : List V}, ds.length = vs.length → (ds.zip vs).map (·.1) = ds
  | [], _, _ => by simp
  | d :: ds, v :: vs, h => by simp [zip_fst (ds := ds) (vs := vs) (by simpa using h)]
  | _ :: _, [], h => by simp at h
theorem each_out {K : KW} {H : Hp} {fz : Addr → Prop} : ∀ {us : List Value} {bs : List (PyData × V)}, PySem.W.EachIs (fun (u : Value) (b : PyData × V) => RelV b.2 u ∧ Rp K H fz b.1 b.2) us bs → Vals (bs.map (·.2)) us ∧ RpAll K H fz (bs.map (·.1)) (bs.map (·.2))
  | _, _, .nil => ⟨.nil, .nil⟩
  | _, _, .cons h t => ⟨.cons h.1 (each_out t).1, .cons h.2 (each_out t).2⟩
theorem c_sorted {X : Cx} (hu : X.A.units + 64 < cLine) : CallR X (.builtin "sorted") (rC1 X.kw sortedX) := by
  rintro pins s σ H xs us Q I r ⟨x, fz, d, rfl, hd, Q', q, k⟩
  cases d with
  | list ds =>
    obtain ⟨a, vs, rfl, h, ra⟩ := hd.lst
    obtain ⟨⟨h1, h2, h3, h4⟩, q⟩ := q
    rw [Vals.ref1 r]
    obtain ⟨its, rv, pl, hz⟩ := I.list (SqL.of h)
    have hl := ra.length
    have ez := each_zip ra rv
    have ef : (ds.zip vs).map (fun b => b.1) = ds := zip_fst hl
    have er : PySem.W.EachIs (fun (v : Value) (b : PyData × V) => ∃ as, Reads s.heap v ((fun b : PyData × V => b.1) b) as) its (ds.zip vs) := ez.mono fun u b z => by
      obtain ⟨as, rd, _⟩ := RB.reads I (Rp.rb z.2) z.1
      exact ⟨as, rd⟩
    refine PySem.W.sorted_data (enc := fun b : PyData × V => b.1) pl.isList ez er (by rw [ef]; exact h1) (by rw [ef]; exact h2) (by rw [List.length_zip]; omega) (fun b hb => ?_) fun out ho eo => ?_
    · have := h4 b.1 (List.of_mem_zip hb).1
      omega
    · obtain ⟨o1, o2⟩ := each_out eo
      have em : ((ds.zip vs).mergeSort (PySem.W.dataLe false fun b : PyData × V => b.1)).map (·.1) = sortD ds := by
        have e := List.map_mergeSort (r := PySem.W.dataLe false fun b : PyData × V => b.1) (s := PySem.W.dataLe false fun d : PyData => d) (f := fun b : PyData × V => b.1) (l := ds.zip vs) (fun a _ b _ => rfl)
        rw [ef] at e
        exact e
      rw [em] at o2
      have hn : H (s.heap.objs.size + 1) = none := I.hok.fresh (Nat.le_succ _)
      obtain ⟨en, hen⟩ := sortedAll_at s.heap its out.toArray
      have I2 := I.laid (t' := s.toks) (a := s.heap.objs.size + 1) (o := .lst (((ds.zip vs).mergeSort (PySem.W.dataLe false fun b : PyData × V => b.1)).map (·.2))) (h' := sortedAll s.heap its out.toArray) (fun b o e => sortedAll_old e) (Nat.le_succ _)
        ⟨by rw [List.length_map, List.length_mergeSort, List.length_zip]; omega, out, en, o1, hen⟩
      exact ⟨.ref (s.heap.objs.size + 1), _, I2, rfl, k _ _ _ q (.lst hn o2)⟩
  | _ => exact q.elim
/-! ### a, b, c = x, y, z -/
theorem ow_set {cs : CS} {σ : L2.St} {i : Nat} {sv : SV} {v : V} {a : Addr} (h1 : i < cs.length) (h2 : cs.length = σ.length) (h : ow (cs.set i (some sv)) (σ.set i (some v)) a) : ow cs σ a ∨ ∃ o, sv = .obj o ∧ v = .ref a := by
  obtain ⟨j, o, e1, e2⟩ := h
  by_cases hj : j = i
  · subst hj
    rw [List.getElem?_set_self h1] at e1
    rw [List.getElem?_set_self (by omega)] at e2
    cases e1; cases e2
    exact .inr ⟨o, rfl, rfl⟩
  · rw [List.getElem?_set_ne (Ne.symm hj)] at e1 e2
    exact .inl ⟨j, o, e1, e2⟩
def t_par3 (i j l : Nat) (ta tb tc : TD) : TSD := fun D cs => ta cs fun sv cs1 => tb cs1 fun sw cs2 => tc cs2 fun sx cs3 => i < cs3.length ∧ j < cs3.length ∧ l < cs3.length ∧ D.nx (((cs3.set i (some sv)).set j (some sw)).set l (some sx))
section
variable {X : Cx} {ZP : ZT}
theorem dspar3 (i j l : Nat) {x y z : Str} {a b c : Expr} {td te tf : TD} {px py pz pt pos : Pos} {kt k2 : Nat} {pt2 : Pos} (hN : X.N.Nodup) (ha : DE X ZP a td) (hb : DE X ZP b te) (hcc : DE X ZP c tf) (hc : X.calm = true := by rfl) (hi : X.N[i]? = some x := by rfl) (hj : X.N[j]? = some y := by rfl) (hl : X.N[l]? = some z := by rfl) (hij : i ≠ j := by decide) (hil : i ≠ l := by decide) (hjl : j ≠ l := by decide)
    (hx : X.env.scope.names.lookup x = some .local := by rfl) (hy : X.env.scope.names.lookup y = some .local := by rfl) (hz : X.env.scope.names.lookup z = some .local := by rfl)
    (hw : swappedStores [.Tuple [.Name x px, .Name y py, .Name z pz] kt pt] (.Tuple [a, b, c] k2 pt2) X.env = pure (some [x, y, z]) := by rfl)
    (hs : swapsWithSole [.Tuple [.Name x px, .Name y py, .Name z pz] kt pt] (.Tuple [a, b, c] k2 pt2) pos.line X.env = pure false := by rfl)
    (hs1 : starEach [a, b, c] X.env = (false, eval a X.env) :: starEach [b, c] X.env := by rfl) (hs2 : starEach [b, c] X.env = (false, eval b X.env) :: starEach [c] X.env := by rfl) (hs3 : starEach [c] X.env = (false, eval c X.env) :: starEach [] X.env := by rfl) :
    DS X ZP (.Assign [.Tuple [.Name x px, .Name y py, .Name z pz] kt pt] (.Tuple [a, b, c] k2 pt2) pos) (t_par3 i j l td te tf) := by
  refine ⟨PS.imp (ps_par3 hc hN hi hj hl hij hil hjl hx hy hz (pa_cons ha.pe (pa_cons hb.pe (pa_cons hcc.pe pa_nil hs3) hs2) hs1) hw hs) ?_⟩
  rintro D σ H ⟨B, cs, g, R, D', q, p⟩
  refine ⟨B, cs, g, R, _, q, fun sv cs1 v g1 H1 q1 R1 r1 t1 s1 f1 => ?_⟩
  refine ⟨B, cs1, g1, R1, _, q1, fun sw cs2 u g2 H2 q2 R2 r2 t2 s2 f2 => ?_⟩
  refine ⟨B, cs2, g2, R2, _, q2, fun sx cs3 w g3 H3 q3 R3 r3 t3 s3 f3 => ?_⟩
  obtain ⟨l1, l2, l3, q3⟩ := q3
  refine ⟨v, u, w, rfl, ?_⟩
  have n1 : ∀ xs a, sv = .obj xs → v = .ref a → ¬ ow cs1 σ a := fun xs a e1 e2 => (t1 xs a e1 e2).1
  have n2 : ∀ xs a, sw = .obj xs → u = .ref a → ¬ ow cs2 σ a := fun xs a e1 e2 => (t2 xs a e1 e2).1
  have r1b := r1.frm f2 R1.fzow n1
  have r1c := r1b.frm f3 R2.fzow fun xs a e1 e2 z => n1 xs a e1 e2 (s2 a z)
  have r2c := r2.frm f3 R2.fzow n2
  have at1 : ∀ xs a, sv = .obj xs → v = .ref a → ∃ o, H1 a = some o := fun xs a e1 e2 => by
    subst e1; subst e2
    obtain ⟨b, o, e, h, _⟩ := r1.ownAt
    cases e; exact ⟨o, h⟩
  have at2 : ∀ xs a, sw = .obj xs → u = .ref a → ∃ o, H2 a = some o := fun xs a e1 e2 => by
    subst e1; subst e2
    obtain ⟨b, o, e, h, _⟩ := r2.ownAt
    cases e; exact ⟨o, h⟩
  have R4 := R3.store l1 r1c fun xs a e1 e2 => ⟨fun z => n1 xs a e1 e2 (s2 a (s3 a z)), R.bnone (t1 xs a e1 e2).2⟩
  have R5 := R4.store (i := j) (by rw [List.length_set]; exact l2) r2c fun xs a e1 e2 => by
    refine ⟨fun z => ?_, R1.bnone (t2 xs a e1 e2).2⟩
    rcases ow_set l1 R3.len z with z | ⟨o, eo, ev⟩
    · exact n2 xs a e1 e2 (s3 a z)
    · obtain ⟨o2, h⟩ := at1 _ a eo ev
      rw [(t2 xs a e1 e2).2] at h; cases h
  have R6 := R5.store (i := l) (by rw [List.length_set, List.length_set]; exact l3) r3 fun xs a e1 e2 => by
    obtain ⟨m1, m2⟩ := t3 xs a e1 e2
    refine ⟨fun z => ?_, R2.bnone m2⟩
    rcases ow_set (by rw [List.length_set]; exact l2) R4.len z with z | ⟨o, eo, ev⟩
    · rcases ow_set l1 R3.len z with z | ⟨o, eo, ev⟩
      · exact m1 z
      · obtain ⟨o2, h⟩ := at1 _ a eo ev
        obtain ⟨o3, h3⟩ := f2.any a o2 h
        rw [m2] at h3; cases h3
    · obtain ⟨o2, h⟩ := at2 _ a eo ev
      rw [m2] at h; cases h
  exact p.nx _ _ g3 H3 R6 (((f1.stay R.fzow).trans (f2.stay R1.fzow)).trans (f3.stay R2.fzow)) q3
end
/-! ### len(set(xs)), xs a list of tuples of ints -/
def tLenSetT (K : KW) (ta : TE) : TE := fun σ H Q => ta σ H fun x H1 => ∃ (l : Addr) (ks : List (Addr × List Int)), x = .ref l ∧ SqL K H1 l (ks.map fun p => V.ref p.1) ∧ (∀ p ∈ ks, SqT K H1 p.1 (p.2.map V.int)) ∧ ks.length < 64 ∧
  ∀ L : List (Addr × List Int), (L.map (·.2)).Nodup → (∀ p ∈ L, p ∈ ks) → (∀ p ∈ ks, p.2 ∈ L.map (·.2)) → Q (.int L.length) H1
section
variable {X : Cx} {ZP : ZT} {a : Expr} {ta : TE} {tl : TLD} {p p2 q pos : Pos}
theorem pe_lenSetT (hc : X.calm = true) (hu : X.A.units + 64 < cLine) (hg : Gl X "len") (hm : X.mg "len" = none) (hg2 : Gl X "set") (hm2 : X.mg "set" = none) (ha : PE X a ta) (na : starEach [a] X.env = (false, eval a X.env) :: starEach [] X.env := by rfl) :
    PE X (.Call (.Name "len" p) [.Call (.Name "set" p2) [a] [] q] [] pos) (tLenSetT X.kw ta) := by
  refine ⟨fun pins s σ H Q I h => ?_⟩
  refine Call_ (ld_blt I hg hm PySem.boot_len ?_)
  refine PyProof.Rows.callWith_builtin1 (PyProof.Rows.args_cons ?_ rfl) rfl rfl
  refine Call_ (ld_blt I hg2 hm2 PyProof.Rows.boot_set ?_)
  refine PyProof.Rows.callWith_type1 (PyProof.Rows.args_cons (thn (ha.run pins s σ H _ I h) fun v s1 hh => PyProof.Rows.args_nil ?_) na) na rfl
  obtain ⟨x, H1, I1, r1, l, ks, rfl, hq, hk, hf, q1⟩ := hh
  cases r1
  obtain ⟨its, r, pl, hz⟩ := I1.list hq
  refine call_set_tups (P := X.prog) (w := X.w) ks (I1.ok.hd hc) pl.isList (by simpa using refs_of_vals r) (fun p hp => I1.isT (hk p hp)) hf (by omega) fun h' tk L es ep t R g k => ?_
  refine PyProof.Rows.args_nil ?_
  have I2 : Inv X _ σ H1 { s1 with heap := h', toks := tk } := I1.kept fun b o e => k b o e
  obtain ⟨o, ho, hex, hd⟩ := R.ob
  have hsz : es.size = L.length := SetTR.size (s := { s1 with heap := h', toks := tk }) R
  refine call_len_set ho hex hd (SetTR.fits (s := { s1 with heap := h', toks := tk }) R) (by rw [hsz]; have := R.few; omega) ⟨.int L.length, H1, I2.tok _, ⟨_, by rw [hsz]⟩, ?_⟩
  exact q1 L R.nd (fun p hp => List.mem_of_mem_take (g.sub p hp)) fun p hp => g.all p (by rw [List.take_length]; exact hp)
def t_lenset (t : TLD) : TVD := fun cs Q => t cs fun l cs1 => ∃ nss : List (List Int), l.get cs1 = some (.list (nss.map fun ns => .tuple (ns.map .int))) ∧ nss.length < 64 ∧ ∀ L : List (List Int), L.Nodup → (∀ x ∈ L, x ∈ nss) → (∀ x ∈ nss, x ∈ L) → Q (.int L.length) cs1
theorem tups_at {K : KW} {H : Hp} {fz : Addr → Prop} : ∀ {nss : List (List Int)} {vs : List V}, RpAll K H fz (nss.map fun ns => .tuple (ns.map .int)) vs → ∃ ks : List (Addr × List Int), vs = ks.map (fun p => V.ref p.1) ∧ (∀ p ∈ ks, SqT K H p.1 (p.2.map V.int)) ∧ ks.map (·.2) = nss
  | [], _, .nil => ⟨[], rfl, fun _ h => (by cases h), rfl⟩
  | ns :: nss, _, .cons r rs => by
    obtain ⟨ks, h1, h2, h3⟩ := tups_at rs
    cases r with
    | @tup a xs _ hq ra =>
      cases rps_ints ra
      refine ⟨(a, ns) :: ks, by rw [h1]; rfl, fun p hp => ?_, by rw [← h3]; rfl⟩
      rcases List.mem_cons.mp hp with rfl | hp
      · exact SqT.of hq
      · exact h2 p hp
theorem dv_lenset (hc : X.calm = true) (hu : X.A.units + 64 < cLine) (hm : X.mg "len" = none) (hm2 : X.mg "set" = none) (ha : DL X ZP a tl) (hg : Gl X "len" := by rfl) (hg2 : Gl X "set" := by rfl) (na : starEach [a] X.env = (false, eval a X.env) :: starEach [] X.env := by rfl) :
    DV X ZP (.Call (.Name "len" p) [.Call (.Name "set" p2) [a] [] q] [] pos) (t_lenset tl) := by
  refine ⟨PE.imp (pe_lenSetT hc hu hg hm hg2 hm2 ha.pe na) ?_⟩
  rintro σ H Q ⟨B, cs, g, R, Q', q, k⟩
  refine ⟨B, cs, g, R, _, q, fun l cs1 v g1 H1 q1 R1 r1 s1 f1 => ?_⟩
  obtain ⟨nss, e, hl, q2⟩ := q1
  obtain ⟨b, vs, rfl, h, ra⟩ := (r1.rb R1 e).lst
  obtain ⟨ks, rfl, h2, h3⟩ := tups_at ra
  refine ⟨b, ks, rfl, SqL.of h, h2, by rw [← h3, List.length_map] at hl; exact hl, fun L nd sub all => ?_⟩
  have z := q2 (L.map (·.2)) nd (fun x hx => by
    obtain ⟨p, hp, rfl⟩ := List.mem_map.mp hx
    rw [← h3]
    exact List.mem_map.mpr ⟨p, sub p hp, rfl⟩) fun x hx => by
    rw [← h3] at hx
    obtain ⟨p, hp, rfl⟩ := List.mem_map.mp hx
    exact all p hp
  rw [List.length_map] at z
  exact k _ cs1 _ g1 H1 z R1 (.int _) s1 f1
end
end Cl

/-! zip of three; a, b = x, y with names that a comprehension uses -/
namespace Cl
open PySem PySem.Spec PyProof.Rows L2
def zipR3 : List V → List V → List V → List (List V)
  | x :: xs, y :: ys, w :: ws => [x, y, w] :: zipR3 xs ys ws
  | _, _, _ => []
theorem zipR3_len : ∀ (xs ys ws : List V), (zipR3 xs ys ws).length = min (min xs.length ys.length) ws.length
  | [], _, _ => by simp [zipR3]
  | _ :: _, [], _ => by simp [zipR3]
  | _ :: _, _ :: _, [] => by simp [zipR3]
  | x :: xs, y :: ys, w :: ws => by
    simp only [zipR3, List.length_cons, zipR3_len xs ys ws]
    omega
theorem zipR3_get : ∀ (xs ys ws : List V) (i : Nat) (x y w : V), xs[i]? = some x → ys[i]? = some y → ws[i]? = some w → (zipR3 xs ys ws)[i]? = some [x, y, w]
  | [], _, _, _, _, _, _, h, _, _ => by simp at h
  | _ :: _, [], _, _, _, _, _, _, h, _ => by simp at h
  | _ :: _, _ :: _, [], _, _, _, _, _, _, h => by simp at h
  | a :: xs, b :: ys, c :: ws, 0, x, y, w, h1, h2, h3 => by simp at h1 h2 h3; subst h1 h2 h3; rfl
  | a :: xs, b :: ys, c :: ws, i + 1, x, y, w, h1, h2, h3 => by
    simp only [zipR3, List.getElem?_cons_succ]
    exact zipR3_get xs ys ws i x y w (by simpa using h1) (by simpa using h2) (by simpa using h3)
theorem zipR3_sz : ∀ (xs ys ws : List V), ∀ r ∈ zipR3 xs ys ws, r.length ≤ sizeLine
  | [], _, _ => by simp [zipR3]
  | _ :: _, [], _ => by simp [zipR3]
  | _ :: _, _ :: _, [] => by simp [zipR3]
  | x :: xs, y :: ys, w :: ws => by
    intro r h
    rcases List.mem_cons.mp h with rfl | h
    · show 3 ≤ sizeLine; decide
    · exact zipR3_sz xs ys ws r h
theorem turn_zip3S {P : Program} {w : World} {K : PySem.W.Frag} {elts : List Expr} {kk : Nat} {tpos : Pos} (k1 k2 k3 : SrcK) (a b c : Addr) (n : Nat) (xs ys ws : List V) :
    Turn P w K (.Tuple elts kk tpos) (ItP (fun H => SrcS K k1 a xs H ∧ SrcS K k2 b ys H ∧ SrcS K k3 c ws H) (zipR3 xs ys ws)) [n + 5, n + 3, n + 4, n, n + 1, n + 2] (n + 5)
      (fun i h => IsZip h (n + 5) (n + 3) (n + 4) .none ∧ IsTupOf3 h (n + 3) (.ref n) (.ref (n + 1)) (.ref (n + 2)) ∧ (∃ x y z, IsTupOf3 h (n + 4) x y z) ∧ srcI k1 a n i h ∧ srcI k2 b (n + 1) i h ∧ srcI k3 c (n + 2) i h) := by
  refine turn_pairs (wr := [n + 5, n + 4, n, n + 1, n + 2]) (by simp) (fun b h => ?_) (zipR3_sz xs ys ws) ?_ ?_ ?_ ?_
  · have h : b = n + 5 ∨ b = n + 4 ∨ b = n ∨ b = n + 1 ∨ b = n + 2 := by simpa using h
    rcases h with rfl | rfl | rfl | rfl | rfl <;> simp
  · rintro i h ⟨hz, hT, ⟨x, y, z, hO⟩, h1, h2, h3⟩ c hc
    have hc : c = n + 5 ∨ c = n + 3 ∨ c = n + 4 ∨ c = n ∨ c = n + 1 ∨ c = n + 2 := by simpa using hc
    rcases hc with rfl | rfl | rfl | rfl | rfl | rfl
    · exact ⟨_, hz, fun v z => nomatch z⟩
    · exact ⟨_, hT, fun v z => nomatch z⟩
    · exact ⟨_, hO, fun v z => nomatch z⟩
    · exact src_obj h1
    · exact src_obj h2
    · exact src_obj h3
  · rintro i h h' ⟨hz, hT, ⟨x, y, z, hO⟩, h1, h2, h3⟩ hk
    exact ⟨hk (n + 5) (by simp) _ hz, hk (n + 3) (by simp) _ hT, ⟨x, y, z, hk (n + 4) (by simp) _ hO⟩, src_keep h1 fun o q => hk n (by simp) o q, src_keep h2 fun o q => hk (n + 1) (by simp) o q, src_keep h3 fun o q => hk (n + 2) (by simp) o q⟩
  · rintro X rfl rfl rfl hc pins s σ H i I hf ⟨hS1, hS2, hS3⟩ ⟨hz, hT, hO, h1, h2, h3⟩
    obtain ⟨its1, rv1, g1, _⟩ := src_its I hS1
    obtain ⟨its2, rv2, g2, _⟩ := src_its I hS2
    obtain ⟨its3, rv3, g3, _⟩ := src_its I hS3
    have fz := hf (n + 5) (by simp)
    have fTO := hf (n + 4) (by simp)
    have f1 := hf n (by simp)
    have f2 := hf (n + 1) (by simp)
    have f3 := hf (n + 2) (by simp)
    have D1 := src_draws (P := X.prog) (w := X.w) (A := X.A.in1) (k := k1) (I.ok.hd hc) (src_ne I f1 hS1) its1.toArray
    have D2 := src_draws (P := X.prog) (w := X.w) (A := X.A.in1) (k := k2) (I.ok.hd hc) (src_ne I f2 hS2) its2.toArray
    have D3 := src_draws (P := X.prog) (w := X.w) (A := X.A.in1) (k := k3) (I.ok.hd hc) (src_ne I f3 hS3) its3.toArray
    have q : ∀ (i j : Nat), i ≠ j → n + i ≠ n + j := fun i j h => by omega
    have ne : ∀ {x y : Addr}, (show Nat from x) ≠ (show Nat from y) → x ≠ y := fun h => h
    have Z : ZipSep3 (n + 5) (n + 3) (n + 4) n (n + 1) (n + 2) [n, a] [n + 1, b] [n + 2, c] :=
      { TIz := ne (show n + 3 ≠ n + 5 by omega), TOz := ne (show n + 4 ≠ n + 5 by omega), TITO := ne (show n + 3 ≠ n + 4 by omega),
        TIi1 := ne (show n + 3 ≠ n by omega), mem1 := by simp, zf1 := by
          rw [List.mem_cons, List.mem_singleton, not_or]; exact ⟨ne (show n + 5 ≠ n by omega), (src_ne I fz hS1).symm⟩
        Tf1 := by rw [List.mem_cons, List.mem_singleton, not_or]; exact ⟨ne (show n + 4 ≠ n by omega), (src_ne I fTO hS1).symm⟩
        TIi2 := ne (show n + 3 ≠ n + 1 by omega), mem2 := by simp, zf2 := by
          rw [List.mem_cons, List.mem_singleton, not_or]; exact ⟨ne (show n + 5 ≠ n + 1 by omega), (src_ne I fz hS2).symm⟩
        Tf2 := by rw [List.mem_cons, List.mem_singleton, not_or]; exact ⟨ne (show n + 4 ≠ n + 1 by omega), (src_ne I fTO hS2).symm⟩
        TIi3 := ne (show n + 3 ≠ n + 2 by omega), mem3 := by simp, zf3 := by
          rw [List.mem_cons, List.mem_singleton, not_or]; exact ⟨ne (show n + 5 ≠ n + 2 by omega), (src_ne I fz hS3).symm⟩
        Tf3 := by rw [List.mem_cons, List.mem_singleton, not_or]; exact ⟨ne (show n + 4 ≠ n + 2 by omega), (src_ne I fTO hS3).symm⟩
        sep1_2 := by rw [List.mem_cons, List.mem_singleton, not_or]; exact ⟨ne (show n ≠ n + 1 by omega), (src_ne I f1 hS2).symm⟩
        sep1_3 := by rw [List.mem_cons, List.mem_singleton, not_or]; exact ⟨ne (show n ≠ n + 2 by omega), (src_ne I f1 hS3).symm⟩
        sep2_1 := by rw [List.mem_cons, List.mem_singleton, not_or]; exact ⟨ne (show n + 1 ≠ n by omega), (src_ne I f2 hS1).symm⟩
        sep2_3 := by rw [List.mem_cons, List.mem_singleton, not_or]; exact ⟨ne (show n + 1 ≠ n + 2 by omega), (src_ne I f2 hS3).symm⟩
        sep3_1 := by rw [List.mem_cons, List.mem_singleton, not_or]; exact ⟨ne (show n + 2 ≠ n by omega), (src_ne I f3 hS1).symm⟩
        sep3_2 := by rw [List.mem_cons, List.mem_singleton, not_or]; exact ⟨ne (show n + 2 ≠ n + 1 by omega), (src_ne I f3 hS2).symm⟩ }
    have G := GoesN.zip3 (elts := elts) (x1 := kk) (pos := tpos) Z D1 D2 D3
    rw [show min (min its1.toArray.size its2.toArray.size) its3.toArray.size = (zipR3 xs ys ws).length by rw [zipR3_len, List.size_toArray, List.size_toArray, List.size_toArray, rv1.length, rv2.length, rv3.length]] at G
    refine ⟨_, _, G.mono ?_, ⟨hz, hT, hO, ⟨h1, g1⟩, ⟨h2, g2⟩, h3, g3⟩, ?_⟩
    · rintro j h0 v h hj ⟨T, x, y, u, rfl, hT, hx, hy, hu, ht⟩
      have hx : its1[j]? = some x := by simpa using hx
      have hy : its2[j]? = some y := by simpa using hy
      have hu : its3[j]? = some u := by simpa using hu
      rw [zipR3_len] at hj
      have hj1 : j < xs.length := by omega
      have hj2 : j < ys.length := by omega
      have hj3 : j < ws.length := by omega
      obtain ⟨u1, e1, ru1⟩ := rv1.get (List.getElem?_eq_getElem hj1)
      obtain ⟨u2, e2, ru2⟩ := rv2.get (List.getElem?_eq_getElem hj2)
      obtain ⟨u3, e3, ru3⟩ := rv3.get (List.getElem?_eq_getElem hj3)
      rw [hx] at e1; cases e1
      rw [hy] at e2; cases e2
      rw [hu] at e3; cases e3
      exact ⟨T, [x, y, u], [xs[j], ys[j], ws[j]], rfl, hT, zipR3_get xs ys ws j _ _ _ (List.getElem?_eq_getElem hj1) (List.getElem?_eq_getElem hj2) (List.getElem?_eq_getElem hj3), .cons ru1 (.cons ru2 (.cons ru3 .nil)), ht⟩
    · rintro j h ⟨hz, hT, hO, ⟨h1, _⟩, ⟨h2, _⟩, h3, _⟩
      exact ⟨hz, hT, hO, h1, h2, h3⟩
  · rintro A i s Q E ⟨hz, _⟩ q
    exact wpAny_pyIter_zip hz q
def iZip3S (K : PySem.W.Frag) (ta : TA) : TI := fun σ H R => ta σ H fun vs H1 => ∃ k1 k2 k3 a b c xs ys ws, vs = [.ref a, .ref b, .ref c] ∧ SrcS K k1 a xs H1 ∧ SrcS K k2 b ys H1 ∧ SrcS K k3 c ws H1 ∧ R (ItP (fun H => SrcS K k1 a xs H ∧ SrcS K k2 b ys H ∧ SrcS K k3 c ws H) (zipR3 xs ys ws)) H1
theorem three_of {x y z : V} {us : List Value} (r : Vals [x, y, z] us) : ∃ u w t, us = [u, w, t] ∧ RelV x u ∧ RelV y w ∧ RelV z t := by
  cases r with
  | cons p q =>
    cases q with
    | cons p' q' =>
      cases q' with
      | cons p'' q'' =>
        cases q''
        exact ⟨_, _, _, rfl, p, p', p''⟩
theorem pi_zip3S {X : Cx} {e e2 e3 : Expr} {ta : TA} {p pos tpos : Pos} {elts : List Expr} {kk : Nat} (hg : Gl X "zip") (hm : X.mg "zip" = none) (ha : PA X [e, e2, e3] ta)
    (hs : starEach [e, e2, e3] X.env = (false, eval e X.env) :: starEach [e2, e3] X.env := by rfl) (hpl : (backTo pos (starEach [e2, e3] X.env)).any (·.1) = false := by rfl) :
    PI X (.Tuple elts kk tpos) (.Call (.Name "zip" p) [e, e2, e3] [] pos) (iZip3S X.K ta) := by
  constructor
  intro pins s σ H R I h
  refine Call_ (ld_blt I hg hm PyProof.Rows.boot_zip (PyProof.Rows.callWith_type1 (thn (ha.run pos pins s σ H _ I h) ?_) hs hpl))
  rintro us s1 ⟨vs, H1, I1, r1, k1, k2, k3, a, b, c, xs, ys, ws, rfl, hS1, hS2, hS3, q⟩
  obtain ⟨u1, u2, u3, rfl, q1, q2, q3⟩ := three_of r1
  cases q1; cases q2; cases q3
  obtain ⟨its1, rv1, g1, _⟩ := src_its I1 hS1
  obtain ⟨its2, rv2, g2, _⟩ := src_its I1 hS2
  obtain ⟨its3, rv3, g3, _⟩ := src_its I1 hS3
  refine zip_begins3 (src_begins k1 a its1.toArray) (src_begins k2 b its2.toArray) (src_begins k3 c its3.toArray) g1 g2 g3 fun h' hz hTI hTO e1 e2 e3 hsz hk => wpAny_pyIter_zip hz ?_
  have I2 : Inv X pins σ H1 { s1 with heap := h' } := I1.kept (t' := s1.toks) hk
  refine ⟨s1.heap.objs.size + 5, [s1.heap.objs.size + 5, s1.heap.objs.size + 3, s1.heap.objs.size + 4, s1.heap.objs.size, s1.heap.objs.size + 1, s1.heap.objs.size + 2], _, _, H1, rfl, I2, turn_zip3S k1 k2 k3 a b c s1.heap.objs.size xs ys ws, ⟨hz, hTI, ⟨_, _, _, hTO⟩, src_start e1, src_start e2, src_start e3⟩, fun c hc => ?_, q⟩
  have hle : s1.heap.objs.size ≤ c := by
    have hc : c = s1.heap.objs.size + 5 ∨ c = s1.heap.objs.size + 3 ∨ c = s1.heap.objs.size + 4 ∨ c = s1.heap.objs.size ∨ c = s1.heap.objs.size + 1 ∨ c = s1.heap.objs.size + 2 := by simpa using hc
    rcases hc with rfl | rfl | rfl | rfl | rfl | rfl
    · exact Nat.le_add_right _ _
    · exact Nat.le_add_right _ _
    · exact Nat.le_add_right _ _
    · exact Nat.le_refl _
    · exact Nat.le_add_right _ _
    · exact Nat.le_add_right _ _
  exact I1.fpOk hle (I1.hok.fresh hle)
def zipRs3 : List PyData → List PyData → List PyData → List (List PyData)
  | x :: xs, y :: ys, w :: ws => [x, y, w] :: zipRs3 xs ys ws
  | _, _, _ => []
theorem zipRs3_ok {K : KW} {H : Hp} {fz : Addr → Prop} : ∀ {ds es fs : List PyData} {vs ws us : List V}, RpAll K H fz ds vs → RpAll K H fz es ws → RpAll K H fz fs us → (zipRs3 ds es fs).length = (zipR3 vs ws us).length ∧
    ∀ (i : Nat) (r : List PyData) (us' : List V), (zipRs3 ds es fs)[i]? = some r → (zipR3 vs ws us)[i]? = some us' → RpAll K H fz r us'
  | [], _, _, _, _, _, .nil, _, _ => ⟨rfl, fun i r us h => by simp [zipRs3] at h⟩
  | _ :: _, [], _, _, _, _, .cons _ _, .nil, _ => ⟨rfl, fun i r us h => by simp [zipRs3] at h⟩
  | _ :: _, _ :: _, [], _, _, _, .cons _ _, .cons _ _, .nil => ⟨rfl, fun i r us h => by simp [zipRs3] at h⟩
  | d :: ds, e :: es, f :: fs, _, _, _, .cons r t, .cons r' t', .cons r'' t'' => by
    obtain ⟨h1, h2⟩ := zipRs3_ok t t' t''
    refine ⟨by simp [zipRs3, zipR3, h1], fun i q us e1 e2 => ?_⟩
    cases i with
    | zero => simp [zipRs3, zipR3] at e1 e2; subst e1 e2; exact .cons r (.cons r' (.cons r'' .nil))
    | succ i => exact h2 i q us (by simpa [zipRs3] using e1) (by simpa [zipR3] using e2)
def t_wzip3 (t : TSA) : TID := fun cs Q => t cs fun svs cs1 => match svs with
  | [.dat d, .dat e, .dat f] => (match seqOf d, seqOf e, seqOf f with
    | some ds, some es, some fs => Q (rowsD (zipRs3 ds es fs)) cs1
    | _, _, _ => False)
  | _ => False
theorem di_zip3 {X : Cx} {ZP : ZT} {e e2 e3 : Expr} {p pos tpos : Pos} {elts : List Expr} {kk : Nat} {t : TSA} (hg : Gl X "zip") (hm : X.mg "zip" = none) (ha : DA X ZP [e, e2, e3] t) (hs : starEach [e, e2, e3] X.env = (false, eval e X.env) :: starEach [e2, e3] X.env := by rfl) (hpl : (backTo pos (starEach [e2, e3] X.env)).any (·.1) = false := by rfl) : DI X ZP (.Tuple elts kk tpos) (.Call (.Name "zip" p) [e, e2, e3] [] pos) (t_wzip3 t) := by
  refine ⟨PI.imp (pi_zip3S hg hm ha.pa hs hpl) ?_⟩
  rintro σ H R ⟨B, cs, g, Re, Q', q, k⟩
  refine ⟨B, cs, g, Re, _, q, fun svs cs1 vs g1 H1 q1 R1 r1 st s1 f1 => ?_⟩
  match svs, r1, q1 with
  | [.dat d, .dat d2, .dat d3], .cons r (.cons r' (.cons r'' .nil)), q1 =>
    cases e1 : seqOf d with
    | none => simp only [e1] at q1
    | some ds =>
      cases e2 : seqOf d2 with
      | none => simp only [e1, e2] at q1
      | some es =>
        cases e3 : seqOf d3 with
        | none => simp only [e1, e2, e3] at q1
        | some fs =>
          simp only [e1, e2, e3] at q1
          obtain ⟨k1, a, xs, rfl, ra, hS, hst⟩ := Rp.src r e1
          obtain ⟨k2, b, ys, rfl, rb, hS2, hst2⟩ := Rp.src r' e2
          obtain ⟨k3, c, ws, rfl, rc, hS3, hst3⟩ := Rp.src r'' e3
          obtain ⟨h1, h2⟩ := zipRs3_ok ra rb rc
          exact ⟨k1, k2, k3, a, b, c, xs, ys, ws, rfl, hS, hS2, hS3, k _ cs1 _ g1 H1 q1 R1 (walk_pairs (fun g' H' s => ⟨hst g' H' s, hst2 g' H' s, hst3 g' H' s⟩) h1 h2) s1 f1⟩

/-! ### a, b = x, y with names that a comprehension uses: by the tuple -/
section
variable {X : Cx} {ZP : ZT}
theorem dsparC (i j : Nat) {x y : Str} {a b : Expr} {td te : TD} {px py pt pos : Pos} {kt k2 : Nat} {pt2 : Pos} (hN : X.N.Nodup) (ha : DE X ZP a td) (hb : DE X ZP b te) (hc : X.calm = true := by rfl) (hi : X.N[i]? = some x := by rfl) (hj : X.N[j]? = some y := by rfl)
    (hx : Loc X.env.scope x := by first | exact Or.inl rfl | exact Or.inr rfl) (hfx : X.fn x = true ∨ X.env.scope.names.lookup x = some .local := by first | exact .inl rfl | exact .inr rfl)
    (hy : Loc X.env.scope y := by first | exact Or.inl rfl | exact Or.inr rfl) (hfy : X.fn y = true ∨ X.env.scope.names.lookup y = some .local := by first | exact .inl rfl | exact .inr rfl)
    (hn : (assignEach [.Name x px, .Name y py] X.env).length = 2 := by rfl) (hst : (assignEach [.Name x px, .Name y py] X.env).findIdx? (·.1) = none := by rfl)
    (hs : swapsWithSole [.Tuple [.Name x px, .Name y py] kt pt] (.Tuple [a, b] k2 pt2) pos.line X.env = pure false := by rfl) (hw : swappedStores [.Tuple [.Name x px, .Name y py] kt pt] (.Tuple [a, b] k2 pt2) X.env = pure none := by rfl)
    (hs1 : starEach [a, b] X.env = (false, eval a X.env) :: starEach [b] X.env := by rfl) (hs2 : starEach [b] X.env = (false, eval b X.env) :: starEach [] X.env := by rfl) :
    DS X ZP (.Assign [.Tuple [.Name x px, .Name y py] kt pt] (.Tuple [a, b] k2 pt2) pos) (t_par i j td te) := by
  refine ⟨PS.imp (ps_asg (pe_tup (pa_cons ha.pe (pa_cons hb.pe pa_nil hs2) hs1)) (pg_tup hc (pgs_cons (pg_name hN hi hx hfx) (pgs_cons (pg_name hN hj hy hfy) pgs_nil)) hn hst) hs hw) ?_⟩
  rintro D σ H ⟨B, cs, g, R, D', q, p⟩
  refine ⟨B, cs, g, R, _, q, fun sv cs1 v g1 H1 q1 R1 r1 t1 s1 f1 => ?_⟩
  refine ⟨B, cs1, g1, R1, _, q1, fun sw cs2 u g2 H2 q2 R2 r2 t2 s2 f2 => ?_⟩
  obtain ⟨l1, l2, q2⟩ := q2
  refine ⟨by show 2 ≤ sizeLine; decide, fun pp hp => ?_⟩
  refine ⟨pp, [v, u], rfl, SqT.of upd_same, rfl, ?_⟩
  have n1 : ∀ xs a, sv = .obj xs → v = .ref a → ¬ ow cs1 σ a := fun xs a e1 e2 => (t1 xs a e1 e2).1
  have r1b := r1.frm f2 R1.fzow n1
  have R2' := R2.laid (o := .tup [v, u]) hp
  have fl : Frm (fun _ => False) g2 H2 g2 (upd H2 pp (.tup [v, u])) := Frm.laid hp
  have r1c := r1b.frm fl (fun a h => ⟨(R2.fzow a h).1, fun z => z⟩) (fun _ _ _ _ z => z)
  have r2c := r2.frm fl (fun a h => ⟨(R2.fzow a h).1, fun z => z⟩) (fun _ _ _ _ z => z)
  have at1 : ∀ xs a, sv = .obj xs → v = .ref a → ∃ o, H1 a = some o := fun xs a e1 e2 => by
    subst e1; subst e2
    obtain ⟨b, o, e, h, _⟩ := r1.ownAt
    cases e; exact ⟨o, h⟩
  have R3 := R2'.store l1 r1c fun xs a e1 e2 => ⟨fun z => n1 xs a e1 e2 (s2 a z), R.bnone (t1 xs a e1 e2).2⟩
  have R4 := R3.store (i := j) (by rw [List.length_set]; exact l2) r2c fun xs a e1 e2 => by
    refine ⟨fun z => ?_, R1.bnone (t2 xs a e1 e2).2⟩
    rcases ow_set l1 R2'.len z with z | ⟨o, eo, ev⟩
    · exact (t2 xs a e1 e2).1 z
    · obtain ⟨o2, h⟩ := at1 _ a eo ev
      rw [(t2 xs a e1 e2).2] at h; cases h
  refine ⟨v, [u], rfl, u, [], rfl, rfl, ?_⟩
  exact p.nx _ _ g2 _ R4 (((f1.stay R.fzow).trans (f2.stay R1.fzow)).trans (fl.stay fun a h => ⟨(R2.fzow a h).1, fun z => z⟩)) q2
theorem dspar3C (i j l : Nat) {x y z : Str} {a b c : Expr} {td te tf : TD} {px py pz pt pos : Pos} {kt k2 : Nat} {pt2 : Pos} (hN : X.N.Nodup) (ha : DE X ZP a td) (hb : DE X ZP b te) (hcc : DE X ZP c tf) (hc : X.calm = true := by rfl) (hi : X.N[i]? = some x := by rfl) (hj : X.N[j]? = some y := by rfl) (hl : X.N[l]? = some z := by rfl)
    (hx : Loc X.env.scope x := by first | exact Or.inl rfl | exact Or.inr rfl) (hfx : X.fn x = true ∨ X.env.scope.names.lookup x = some .local := by first | exact .inl rfl | exact .inr rfl)
    (hy : Loc X.env.scope y := by first | exact Or.inl rfl | exact Or.inr rfl) (hfy : X.fn y = true ∨ X.env.scope.names.lookup y = some .local := by first | exact .inl rfl | exact .inr rfl)
    (hz : Loc X.env.scope z := by first | exact Or.inl rfl | exact Or.inr rfl) (hfz : X.fn z = true ∨ X.env.scope.names.lookup z = some .local := by first | exact .inl rfl | exact .inr rfl)
    (hn : (assignEach [.Name x px, .Name y py, .Name z pz] X.env).length = 3 := by rfl) (hst : (assignEach [.Name x px, .Name y py, .Name z pz] X.env).findIdx? (·.1) = none := by rfl)
    (hs : swapsWithSole [.Tuple [.Name x px, .Name y py, .Name z pz] kt pt] (.Tuple [a, b, c] k2 pt2) pos.line X.env = pure false := by rfl) (hw : swappedStores [.Tuple [.Name x px, .Name y py, .Name z pz] kt pt] (.Tuple [a, b, c] k2 pt2) X.env = pure none := by rfl)
    (hs1 : starEach [a, b, c] X.env = (false, eval a X.env) :: starEach [b, c] X.env := by rfl) (hs2 : starEach [b, c] X.env = (false, eval b X.env) :: starEach [c] X.env := by rfl) (hs3 : starEach [c] X.env = (false, eval c X.env) :: starEach [] X.env := by rfl) :
    DS X ZP (.Assign [.Tuple [.Name x px, .Name y py, .Name z pz] kt pt] (.Tuple [a, b, c] k2 pt2) pos) (t_par3 i j l td te tf) := by
  refine ⟨PS.imp (ps_asg (pe_tup (pa_cons ha.pe (pa_cons hb.pe (pa_cons hcc.pe pa_nil hs3) hs2) hs1)) (pg_tup hc (pgs_cons (pg_name hN hi hx hfx) (pgs_cons (pg_name hN hj hy hfy) (pgs_cons (pg_name hN hl hz hfz) pgs_nil))) hn hst) hs hw) ?_⟩
  rintro D σ H ⟨B, cs, g, R, D', q, p⟩
  refine ⟨B, cs, g, R, _, q, fun sv cs1 v g1 H1 q1 R1 r1 t1 s1 f1 => ?_⟩
  refine ⟨B, cs1, g1, R1, _, q1, fun sw cs2 u g2 H2 q2 R2 r2 t2 s2 f2 => ?_⟩
  refine ⟨B, cs2, g2, R2, _, q2, fun sx cs3 w g3 H3 q3 R3 r3 t3 s3 f3 => ?_⟩
  obtain ⟨l1, l2, l3, q3⟩ := q3
  refine ⟨by show 3 ≤ sizeLine; decide, fun pp hp => ?_⟩
  refine ⟨pp, [v, u, w], rfl, SqT.of upd_same, rfl, ?_⟩
  have n1 : ∀ xs a, sv = .obj xs → v = .ref a → ¬ ow cs1 σ a := fun xs a e1 e2 => (t1 xs a e1 e2).1
  have n2 : ∀ xs a, sw = .obj xs → u = .ref a → ¬ ow cs2 σ a := fun xs a e1 e2 => (t2 xs a e1 e2).1
  have fl : Frm (fun _ => False) g3 H3 g3 (upd H3 pp (.tup [v, u, w])) := Frm.laid hp
  have ff : ∀ a, g3.fz a → g3.zs a = none ∧ ¬ (fun _ => False) a := fun a h => ⟨(R3.fzow a h).1, fun z => z⟩
  have r1c := ((r1.frm f2 R1.fzow n1).frm f3 R2.fzow fun xs a e1 e2 z => n1 xs a e1 e2 (s2 a z)).frm fl ff (fun _ _ _ _ z => z)
  have r2c := (r2.frm f3 R2.fzow n2).frm fl ff (fun _ _ _ _ z => z)
  have r3c := r3.frm fl ff (fun _ _ _ _ z => z)
  have R3' := R3.laid (o := .tup [v, u, w]) hp
  have at1 : ∀ xs a, sv = .obj xs → v = .ref a → ∃ o, H1 a = some o := fun xs a e1 e2 => by
    subst e1; subst e2
    obtain ⟨b, o, e, h, _⟩ := r1.ownAt
    cases e; exact ⟨o, h⟩
  have at2 : ∀ xs a, sw = .obj xs → u = .ref a → ∃ o, H2 a = some o := fun xs a e1 e2 => by
    subst e1; subst e2
    obtain ⟨b, o, e, h, _⟩ := r2.ownAt
    cases e; exact ⟨o, h⟩
  have R4 := R3'.store l1 r1c fun xs a e1 e2 => ⟨fun z => n1 xs a e1 e2 (s2 a (s3 a z)), R.bnone (t1 xs a e1 e2).2⟩
  have R5 := R4.store (i := j) (by rw [List.length_set]; exact l2) r2c fun xs a e1 e2 => by
    refine ⟨fun z => ?_, R1.bnone (t2 xs a e1 e2).2⟩
    rcases ow_set l1 R3'.len z with z | ⟨o, eo, ev⟩
    · exact n2 xs a e1 e2 (s3 a z)
    · obtain ⟨o2, h⟩ := at1 _ a eo ev
      rw [(t2 xs a e1 e2).2] at h; cases h
  have R6 := R5.store (i := l) (by rw [List.length_set, List.length_set]; exact l3) r3c fun xs a e1 e2 => by
    obtain ⟨m1, m2⟩ := t3 xs a e1 e2
    refine ⟨fun z => ?_, R2.bnone m2⟩
    rcases ow_set (by rw [List.length_set]; exact l2) R4.len z with z | ⟨o, eo, ev⟩
    · rcases ow_set l1 R3'.len z with z | ⟨o, eo, ev⟩
      · exact m1 z
      · obtain ⟨o2, h⟩ := at1 _ a eo ev
        obtain ⟨o3, h3⟩ := f2.any a o2 h
        rw [m2] at h3; cases h3
    · obtain ⟨o2, h⟩ := at2 _ a eo ev
      rw [m2] at h; cases h
  refine ⟨v, [u, w], rfl, u, [w], rfl, w, [], rfl, rfl, ?_⟩
  exact p.nx _ _ g3 _ R6 ((((f1.stay R.fzow).trans (f2.stay R1.fzow)).trans (f3.stay R2.fzow)).trans (fl.stay ff)) q3
end

/-! ### k in d, k not in d as tests -/
section
variable {X : Cx} {ZP : ZT} {e : Expr} {tk : TVD} {x : Str} {xpos pos : Pos}
theorem dtin_core {b : Bool} {op : CmpOp} {eb : Expr} {pos : Pos} {T : TE} (i : Nat) (hT : ∀ σ H Q, (tV X.kw ZP tk σ H fun y H1 => tVar i σ H1 fun x H2 => ∃ a o, x = .ref a ∧ DGet H2 a y o ∧ Q (.bl (if b then o.isSome else !o.isSome)) H2) → T σ H Q) (hc : PC X op e eb T) (hm : behindInMarks op eb = false) : DT X ZP (.Compare e [op] [eb] pos) (t_tst (t_din b i tk)) := by
  refine ⟨PT.imp (pt_cmp hc hm) ?_⟩
  rintro σ H Q ⟨B, cs, g, R, Q', q, k⟩
  refine hT σ H _ (din_core (ZP := ZP) (Q := fun x H1 => ∃ c, x = .bl c ∧ Q c H1) ⟨B, cs, g, R, _, q, fun sv cs' v g' H' q' R' r tm s f => ?_⟩)
  cases sv with
  | dat d =>
    cases d with
    | bool b => cases r; exact ⟨b, rfl, k b cs' g' H' q' R' s f⟩
    | _ => exact q'.elim
  | _ => exact q'.elim
theorem dt_din (hu : X.A.units + 64 < cLine) (i : Nat) (h : DV X ZP e tk) (hN : X.N[i]? = some x := by rfl) (hv : Vis X.env.scope x := by first | exact Or.inl rfl | exact Or.inr (Or.inl rfl) | exact Or.inr (Or.inr rfl)) (hd : (x == ("__debug__" : Str)) = false := by decide)
    (hcd : (x == ("__classdict__" : Str)) = false := by decide) : DT X ZP (.Compare e [.In] [.Name x xpos] pos) (t_tst (t_din true i tk)) :=
  dtin_core i (fun _ _ _ q => q) (pc_din (by omega) h.pe (pe_var hN hv hd hcd)) rfl
theorem dt_dnotin (hu : X.A.units + 64 < cLine) (i : Nat) (h : DV X ZP e tk) (hN : X.N[i]? = some x := by rfl) (hv : Vis X.env.scope x := by first | exact Or.inl rfl | exact Or.inr (Or.inl rfl) | exact Or.inr (Or.inr rfl)) (hd : (x == ("__debug__" : Str)) = false := by decide)
    (hcd : (x == ("__classdict__" : Str)) = false := by decide) : DT X ZP (.Compare e [.NotIn] [.Name x xpos] pos) (t_tst (t_din false i tk)) :=
  dtin_core i (fun _ _ _ q => q) (pc_dnotin (by omega) h.pe (pe_var hN hv hd hcd)) rfl
end

/-! ### the block of a comprehension in a comprehension -/
def relab (sc esc : Scope) : Scope :=
  { sc with names := sc.names.map fun (n, k) => if (k == NameKind.free && esc.kind == .function && esc.names.lookup n == some .cell) then (n, NameKind.cell) else (n, k) }
theorem relab_of (sc : Scope) (env : Env) : relabel sc env = relab sc env.scope := rfl

/-! ### for x in a list or a tuple -/
def iSeq (K : PySem.W.Frag) (tl : TE) : TI := fun σ H R => tl σ H fun x H1 => ∃ a, x = .ref a ∧ ((∃ xs, SqL K H1 a xs) ∧ R (Itl K a) H1 ∨ (∃ xs, SqT K H1 a xs) ∧ R (Itt K a) H1)
section
variable {X : Cx} {ZP : ZT} {tg e : Expr}
theorem pi_seqS {l : Expr} {tl : TE} (hl : PE X l tl) : PI X tg l (iSeq X.K tl) := by
  refine ⟨fun pins s σ H R I h => ?_⟩
  refine thn (hl.run pins s σ H _ I h) fun v s1 ⟨x, H1, I1, r1, q1⟩ => ?_
  obtain ⟨a, e, q⟩ := q1
  subst e
  cases r1
  rcases q with ⟨⟨xs, hq⟩, q⟩ | ⟨⟨xs, hq⟩, q⟩
  · obtain ⟨its, rv, p, hz⟩ := I1.list hq
    refine wpAny_pyIter_list p.isList ?_
    refine ⟨s1.heap.objs.size, [s1.heap.objs.size], _, _, H1, rfl, I1.kept (t' := s1.toks) fun b o e => Heap.get?_push_of_some _ e, turn_list a _, ⟨_, Heap.get?_push_size _ rfl, rfl, rfl⟩, fun b hb => ?_, q⟩
    have e : b = s1.heap.objs.size := by simpa using hb
    subst e
    exact I1.fpOk (Nat.le_refl _) (I1.hok.fresh (Nat.le_refl _))
  · obtain ⟨its, rv, p, hz⟩ := I1.tuple hq
    refine wpAny_pyIter_tuple (show s1.heap.IsTuple a its.toArray from p) ?_
    refine ⟨s1.heap.objs.size, [s1.heap.objs.size], _, _, H1, rfl, I1.kept (t' := s1.toks) fun b o e => Heap.get?_push_of_some _ e, turn_tuple a _, ⟨_, Heap.get?_push_size _ rfl, rfl, rfl⟩, fun b hb => ?_, q⟩
    have e : b = s1.heap.objs.size := by simpa using hb
    subst e
    exact I1.fpOk (Nat.le_refl _) (I1.hok.fresh (Nat.le_refl _))
def t_wseq (t : TVD) : TID := fun cs Q => t cs fun d cs1 => match seqOf d with
  | some ds => Q ds cs1
  | none => False
theorem di_seq {t : TVD} (h : DV X ZP e t) : DI X ZP tg e (t_wseq t) := by
  refine ⟨PI.imp (pi_seqS h.pe) ?_⟩
  rintro σ H R ⟨B, cs, g, Re, Q', q, k⟩
  refine ⟨B, cs, g, Re, _, q, fun d cs1 v g1 H1 q1 R1 r1 s1 f1 => ?_⟩
  cases d with
  | list ds =>
    cases r1 with
    | @lst a xs _ hf ha ra =>
      refine ⟨a, rfl, .inl ⟨⟨xs, SqL.of ha⟩, k ds cs1 _ g1 H1 q1 R1 (fun g2 H2 st => ?_) s1 f1⟩⟩
      have ha2 : H2 a = some (.lst xs) := st.keep a _ hf ha
      have ra2 := st.rps ra
      refine ⟨fun i d hd => ?_, xs, SqL.of ha2, ?_⟩
      · obtain ⟨v, hv, rv⟩ := ra2.get' hd
        refine ⟨⟨xs, v, SqL.of ha2, hv⟩, fun x H'' hy => ?_⟩
        obtain ⟨rfl, hx⟩ := hy
        have := hx xs (SqL.of ha2)
        rw [hv] at this; cases this
        exact .same rv
      · rw [ra.length]; exact Nat.le_refl _
  | tuple ds =>
    cases r1 with
    | @tup a xs _ ha ra =>
      refine ⟨a, rfl, .inr ⟨⟨xs, SqT.of ha⟩, k ds cs1 _ g1 H1 q1 R1 (fun g2 H2 st => ?_) s1 f1⟩⟩
      have ha2 : SqT X.kw H2 a xs := SqT.of (st.tups _ _ ha)
      have ra2 := st.rps ra
      refine ⟨fun i d hd => ?_, xs, ha2, ?_⟩
      · obtain ⟨v, hv, rv⟩ := ra2.get' hd
        refine ⟨⟨xs, v, ha2, hv⟩, fun x H'' hy => ?_⟩
        obtain ⟨rfl, hx⟩ := hy
        have := hx xs ha2
        rw [hv] at this; cases this
        exact .same rv
      · rw [ra.length]; exact Nat.le_refl _
  | _ => exact q1.elim
end
end Cl

/-! loops and comprehensions over a mapped list; numbers as data; sorted rows -/
namespace Cl
open PySem PySem.Spec PyProof.Rows L2
theorem forD_A {α : Type} {gt : TGD} {tb : TSD} {D : DEnds} (e : α → PyData) (I : List α → CS → Prop) (xs : List α) (h0 : ∀ cs, I xs cs → D.nx cs)
    (hs : ∀ done x todo cs (N : CS → Prop), xs = done ++ x :: todo → (∀ cs', I (done ++ [x]) cs' → N cs') → I done cs → gt (.dat (e x)) cs fun cs1 => tb { nx := N, rt := D.rt, bk := D.nx, ct := N } cs1) {cs : CS} (h : I [] cs) : forD gt tb D (xs.map e) cs := by
  refine forD_ind (I := fun ds cs => ∃ done todo, xs = done ++ todo ∧ ds = todo.map e ∧ I done cs) ?_ ?_ _ _ ⟨[], xs, rfl, rfl, h⟩
  · rintro cs ⟨done, todo, e1, e2, h⟩
    cases todo with
    | nil => rw [List.append_nil] at e1; subst e1; exact h0 _ h
    | cons => cases e2
  · rintro d ds cs N hN ⟨done, todo, e1, e2, h⟩
    cases todo with
    | nil => cases e2
    | cons x todo =>
      cases e2
      exact hs done x todo cs N e1 (fun cs' z => hN cs' ⟨done ++ [x], todo, by rw [e1]; simp, rfl, z⟩) h
theorem lcD_A {α : Type} {vs : List Nat} {gt : TGD} {tt : TTD} {te : TVD} {Q : List PyData → CS → Prop} (e f : α → PyData) (p : α → Bool) (S : CS) : ∀ (xs : List α) (acc : List PyData), acc.length + xs.length ≤ sizeLine →
    (∀ x ∈ xs, ∀ (K : PyData → CS → Prop) (N : CS → Prop), (p x = true → K (f x) S) → (p x = false → N S) → gt (.dat (e x)) S fun cs1 => tt cs1 fun b cs2 => if b = true then te cs2 (fun y cs3 => K y (wipeC cs3 vs)) else N (wipeC cs2 vs)) →
    Q (acc ++ (xs.filter p).map f) S → lcD vs gt tt te Q (xs.map e) acc S
  | [], acc, _, _, h => by
    simp only [List.filter_nil, List.map_nil, List.append_nil] at h
    exact h
  | d :: ds, acc, hl, hs, h => by
    rw [List.length_cons] at hl
    refine hs d List.mem_cons_self (fun y cs => acc.length < sizeLine ∧ lcD vs gt tt te Q (ds.map e) (acc ++ [y]) cs) (fun cs => lcD vs gt tt te Q (ds.map e) acc cs) (fun hp => ⟨by omega, ?_⟩) fun hp => ?_
    · refine lcD_A e f p S ds (acc ++ [f d]) (by rw [List.length_append, List.length_singleton]; omega) (fun x hx => hs x (List.mem_cons_of_mem _ hx)) ?_
      rw [List.filter_cons_of_pos hp, List.map_cons] at h
      simpa using h
    · refine lcD_A e f p S ds acc (by omega) (fun x hx => hs x (List.mem_cons_of_mem _ hx)) ?_
      rw [List.filter_cons_of_neg (by simp [hp])] at h
      exact h
theorem lcD_M {α : Type} {vs : List Nat} {gt : TGD} {tt : TTD} {te : TVD} {Q : List PyData → CS → Prop} (e f : α → PyData) (S : CS) (xs : List α) (hl : xs.length ≤ sizeLine)
    (hs : ∀ x ∈ xs, ∀ (K : PyData → CS → Prop) (N : CS → Prop), K (f x) S → gt (.dat (e x)) S fun cs1 => tt cs1 fun b cs2 => if b = true then te cs2 (fun y cs3 => K y (wipeC cs3 vs)) else N (wipeC cs2 vs)) (h : Q (xs.map f) S) : lcD vs gt tt te Q (xs.map e) [] S :=
  lcD_A e f (fun _ => true) S xs [] (by simpa using hl) (fun d hd K N h1 _ => hs d hd K N (h1 rfl)) (by rw [List.nil_append, List.filter_eq_self.mpr (fun _ _ => rfl)]; exact h)
theorem zip_rows {α β : Type} (f : α → PyData) (g : β → PyData) : ∀ (as : List α) (bs : List β), rowsD (zipRs (as.map f) (bs.map g)) = (as.zip bs).map fun p => .tuple [f p.1, g p.2]
  | [], _ => rfl
  | _ :: _, [] => rfl
  | a :: as, b :: bs => by
    show _ :: rowsD (zipRs (as.map f) (bs.map g)) = _ :: _
    rw [zip_rows f g as bs]
    rfl
theorem zip3_rows {α β γ : Type} (f : α → PyData) (g : β → PyData) (h : γ → PyData) : ∀ (as : List α) (bs : List β) (cs : List γ), rowsD (zipRs3 (as.map f) (bs.map g) (cs.map h)) = (as.zip (bs.zip cs)).map fun p => .tuple [f p.1, g p.2.1, h p.2.2]
  | [], _, _ => rfl
  | _ :: _, [], _ => rfl
  | _ :: _, _ :: _, [] => rfl
  | a :: as, b :: bs, c :: cs => by
    show _ :: rowsD (zipRs3 (as.map f) (bs.map g) (cs.map h)) = _ :: _
    rw [zip3_rows f g h as bs cs]
    rfl
theorem enum_rows {α : Type} (f : α → PyData) : ∀ (as : List α) (k : Nat), rowsD (enumRs k (as.map f)) = (as.zipIdx k).map fun p => .tuple [.int (p.2 : Nat), f p.1]
  | [], _ => rfl
  | a :: as, k => by
    show _ :: rowsD (enumRs (k + 1) (as.map f)) = _ :: _
    rw [enum_rows f as (k + 1)]
theorem range_nat (n : Nat) : rangeD 0 (n : Nat) = (List.range n).map fun (k : Nat) => .int (k : Nat) := by
  unfold rangeD
  refine List.map_congr_left fun a _ => ?_
  congr 1
  omega
theorem range_lo (l n : Nat) : rangeD (l : Nat) ((l : Nat) + (n : Nat) : Int) = (List.range n).map fun (k : Nat) => .int ((l + k : Nat) : Int) := by
  unfold rangeD
  rw [show ((l : Int) + (n : Int) - l).toNat = n by omega]
  refine List.map_congr_left fun a _ => ?_
  congr 1
def iN (xs : List Nat) : List PyData := xs.map fun n => .int (n : Nat)
abbrev tN (xs : List Nat) : PyData := .tuple (iN xs)
theorem iN_len (xs : List Nat) : (iN xs).length = xs.length := by simp [iN]
theorem iN_append (a b : List Nat) : iN (a ++ b) = iN a ++ iN b := List.map_append
theorem iN_cons (a : Nat) (b : List Nat) : iN (a :: b) = .int (a : Nat) :: iN b := rfl
theorem iN_nil : iN [] = [] := rfl
theorem iN_ints (xs : List Nat) : iN xs = (xs.map fun n => ((n : Nat) : Int)).map PyData.int := by simp [iN, Function.comp_def]
theorem intsD_ints : ∀ bs : List Int, intsD (bs.map .int) = some bs
  | [] => rfl
  | b :: bs => by show (intsD (bs.map .int)).map _ = _; rw [intsD_ints bs]; rfl
theorem can_iN : ∀ a : List Nat, PyData.canLayAll0 (iN a) = true
  | [] => by simp [iN, PyData.canLayAll0]
  | x :: a => by
    have ih := can_iN a
    rw [iN_cons]
    simp [PyData.canLayAll0, PyData.canLay0, ih]
theorem depth_iN (a : List Nat) : PyData.depthAll (iN a) = 0 := by rw [iN_ints]; exact PySem.W.depth_ints _
theorem iN_inj : ∀ {a b : List Nat}, iN a = iN b → a = b
  | [], [], _ => rfl
  | x :: a, y :: b, h => by
    rw [iN_cons, iN_cons] at h
    obtain ⟨h1, h2⟩ := List.cons.inj h
    rw [iN_inj h2]
    have := PyData.int.inj h1
    rw [show x = y by omega]
  | [], _ :: _, h => by cases h
  | _ :: _, [], h => by cases h
/-! ### keys of rows of numbers -/
def kN (e : List Nat) : List Key := e.map fun n => .inl (n : Nat)
theorem kN_inj : ∀ {a b : List Nat}, kN a = kN b → a = b
  | [], [], _ => rfl
  | x :: a, y :: b, h => by
    obtain ⟨h1, h2⟩ := List.cons.inj h
    rw [kN_inj h2]
    have := Sum.inl.inj h1
    rw [show x = y by omega]
  | [], _ :: _, h => by cases h
  | _ :: _, [], h => by cases h
theorem keysOf_iN : ∀ e : List Nat, keysOf (iN e) = some (kN e)
  | [] => rfl
  | x :: e => by
    rw [iN_cons]
    unfold keysOf
    rw [keysOf_iN e]
    rfl
theorem keyD_tN (e : List Nat) : keyD (tN e) = some (kN e) := keysOf_iN e
theorem datK_kN (e : List Nat) : (kN e).map datK = iN e := by simp [kN, iN, Function.comp_def, datK]
def insL (L : List (List Nat)) (x : List Nat) : List (List Nat) := if x ∈ L then L else L ++ [x]
theorem insL_nd {L : List (List Nat)} {x : List Nat} (h : L.Nodup) : (insL L x).Nodup := by
  unfold insL
  split
  · exact h
  · rename_i hx
    exact List.nodup_append.mpr ⟨h, by simp, fun a ha b hb e => by rw [List.mem_singleton] at hb; subst hb; subst e; exact hx ha⟩
theorem insL_mem {L : List (List Nat)} {x e : List Nat} : e ∈ insL L x ↔ e ∈ L ∨ e = x := by
  unfold insL
  split
  · rename_i hx
    exact ⟨.inl, fun h => h.elim id fun h => by rw [h]; exact hx⟩
  · simp
theorem getP_map (L : List (List Nat)) (F : List Nat → PyData) (e0 : List Nat) : getP (L.map fun e => (kN e, F e)) (kN e0) = if e0 ∈ L then some (F e0) else none := by
  unfold getP
  induction L with
  | nil => rfl
  | cons x L ih =>
    rw [List.map_cons, List.find?_cons]
    by_cases h : x = e0
    · subst h
      simp
    · have hk : ¬ kN x = kN e0 := fun z => h (kN_inj z)
      rw [decide_eq_false hk]
      simp only [ih, List.mem_cons]
      have : (e0 = x ∨ e0 ∈ L) ↔ e0 ∈ L := ⟨fun z => z.elim (fun z => absurd z.symm h) id, .inr⟩
      simp only [this]
theorem putP_map (L : List (List Nat)) (F : List Nat → PyData) (e0 : List Nat) (d : PyData) : putP (L.map fun e => (kN e, F e)) (kN e0) d = (insL L e0).map fun e => (kN e, if e = e0 then d else F e) := by
  have any : ((L.map fun e => (kN e, F e)).any fun kv => decide (kv.1 = kN e0)) = decide (e0 ∈ L) := by
    induction L with
    | nil => rfl
    | cons x L ih =>
      rw [List.map_cons, List.any_cons, ih]
      by_cases h : x = e0
      · subst h
        simp
      · have hk : ¬ kN x = kN e0 := fun z => h (kN_inj z)
        rw [decide_eq_false hk, Bool.false_or]
        simp [show ¬ e0 = x from fun z => h z.symm]
  unfold putP insL
  rw [any]
  by_cases h : e0 ∈ L
  · rw [if_pos (decide_eq_true h), if_pos h, List.map_map]
    refine List.map_congr_left fun x _ => ?_
    show (if kN x = kN e0 then (kN x, d) else (kN x, F x)) = _
    by_cases hx : x = e0
    · rw [if_pos (by rw [hx]), if_pos hx]
    · rw [if_neg fun z => hx (kN_inj z), if_neg hx]
  · rw [if_neg (by simp [h]), if_neg h, List.map_append]
    congr 1
    · refine List.map_congr_left fun x hx => ?_
      rw [if_neg (fun z : x = e0 => h (by rw [← z]; exact hx))]
    · simp
/-! ### sorted rows -/
theorem le_tN : (fun a b : List Nat => PySem.W.dataLe false (fun d => d) (tN a) (tN b)) = fun a b => decide ((a.map fun n => ((n : Nat) : Int)) ≤ b.map fun n => ((n : Nat) : Int)) := by
  have h := PySem.W.dataLe_rows (β := List Nat) (fun a => a.map fun n => ((n : Nat) : Int))
  rw [← h]
  funext a b
  show PySem.W.sortLe _ _ _ _ _ = PySem.W.sortLe _ _ _ _ _
  unfold PySem.W.sortLe
  simp only [PySem.W.keyToks, iN_ints]
theorem sortD_rows (L : List (List Nat)) : sortD (L.map tN) = (L.mergeSort fun a b => decide ((a.map fun n => ((n : Nat) : Int)) ≤ b.map fun n => ((n : Nat) : Int))).map tN := by
  unfold sortD
  rw [PySem.W.sort_maps (r := fun a b => decide ((a.map fun n => ((n : Nat) : Int)) ≤ b.map fun n => ((n : Nat) : Int))) (s := PySem.W.dataLe false fun d => d) tN fun a _ b _ => (congrFun (congrFun le_tN a) b).symm]
theorem sort_same {L M : List (List Nat)} (h1 : L.Nodup) (h2 : M.Nodup) (h : ∀ e, e ∈ L ↔ e ∈ M) : sortD (L.map tN) = sortD (M.map tN) := by
  rw [sortD_rows, sortD_rows]
  congr 1
  have hp : L.Perm M := by
    rw [List.perm_iff_count]
    intro a
    rw [h1.count, h2.count]
    simp only [h]
  have tr : ∀ a b c : List Nat, decide ((a.map fun n => ((n : Nat) : Int)) ≤ b.map fun n => ((n : Nat) : Int)) = true → decide ((b.map fun n => ((n : Nat) : Int)) ≤ c.map fun n => ((n : Nat) : Int)) = true → decide ((a.map fun n => ((n : Nat) : Int)) ≤ c.map fun n => ((n : Nat) : Int)) = true := fun a b c x y => by
    rw [decide_eq_true_eq] at *
    exact List.le_trans x y
  have tt : ∀ a b : List Nat, (decide ((a.map fun n => ((n : Nat) : Int)) ≤ b.map fun n => ((n : Nat) : Int)) || decide ((b.map fun n => ((n : Nat) : Int)) ≤ a.map fun n => ((n : Nat) : Int))) = true := fun a b => by
    rw [Bool.or_eq_true, decide_eq_true_eq, decide_eq_true_eq]
    exact List.le_total _ _
  have p1 := List.mergeSort_perm L fun a b => decide ((a.map fun n => ((n : Nat) : Int)) ≤ b.map fun n => ((n : Nat) : Int))
  have p2 := List.mergeSort_perm M fun a b => decide ((a.map fun n => ((n : Nat) : Int)) ≤ b.map fun n => ((n : Nat) : Int))
  refine List.Perm.eq_of_pairwise (le := fun a b => decide ((a.map fun n => ((n : Nat) : Int)) ≤ b.map fun n => ((n : Nat) : Int)) = true) (fun a b _ _ x y => ?_) (List.pairwise_mergeSort tr tt L) (List.pairwise_mergeSort tr tt M) ((p1.trans hp).trans p2.symm)
  rw [decide_eq_true_eq] at x y
  have e := List.le_antisymm x y
  refine iN_inj ?_
  rw [iN_ints, iN_ints, e]
theorem sortOk_rows {L : List (List Nat)} (h : ∀ e ∈ L, e ≠ []) (hl : L.length ≤ sizeLine) : sortOk (L.map tN) := by
  refine ⟨fun d hd d' hd' => ?_, .inl fun d hd => ?_, by rw [List.length_map]; exact hl, fun d hd => ?_⟩
  · obtain ⟨a, _, rfl⟩ := List.mem_map.mp hd
    obtain ⟨b, _, rfl⟩ := List.mem_map.mp hd'
    show PySem.W.alikeAll (iN a) (iN b) = true
    rw [iN_ints, iN_ints]
    exact PySem.W.alike_ints _ _
  · obtain ⟨a, ha, rfl⟩ := List.mem_map.mp hd
    cases a with
    | nil => exact absurd rfl (h _ ha)
    | cons x a => exact ⟨_, _, rfl⟩
  · obtain ⟨a, ha, rfl⟩ := List.mem_map.mp hd
    show (PyData.tuple (iN a)).depth ≤ 60
    simp [PyData.depth, depth_iN]
theorem sort_len (L : List (List Nat)) : (sortD (L.map tN)).length = L.length := by
  unfold sortD
  rw [List.length_mergeSort, List.length_map]
theorem sort_mem {L : List (List Nat)} {d : PyData} (h : d ∈ sortD (L.map tN)) : ∃ e ∈ L, d = tN e := by
  unfold sortD at h
  rw [List.mem_mergeSort] at h
  obtain ⟨e, he, rfl⟩ := List.mem_map.mp h
  exact ⟨e, he, rfl⟩
theorem restC_self (vs : List Nat) (cs : CS) : restC vs cs cs = cs := by
  unfold restC
  apply List.ext_getElem?
  intro j
  rw [List.getElem?_mapIdx]
  cases h : cs[j]? with
  | none => rfl
  | some x =>
    show some (if j ∈ vs then cs.getD j none else x) = some x
    split
    · rw [List.getD_eq_getElem?_getD, h]; rfl
    · rfl
theorem restC_nop {vs : List Nat} {S : CS} (h : wipeC S vs = S) : restC vs S (wipeC S vs) = S := by rw [h]; exact restC_self vs S
theorem wipeC_len2 (cs : CS) : ∀ vs : List Nat, (wipeC cs vs).length = cs.length
  | [] => rfl
  | v :: vs => by show ((wipeC cs vs).set v none).length = cs.length; rw [List.length_set, wipeC_len2 cs vs]
theorem wipeC_get (cs : CS) : ∀ (vs : List Nat) (j : Nat), j ∉ vs → (wipeC cs vs)[j]? = cs[j]?
  | [], _, _ => rfl
  | v :: vs, j, h => by
    show ((wipeC cs vs).set v none)[j]? = cs[j]?
    rw [List.getElem?_set_ne (fun e => h (by rw [e]; exact List.mem_cons_self)), wipeC_get cs vs j (fun z => h (List.mem_cons_of_mem _ z))]
theorem restC_wipe (vs : List Nat) (cs : CS) : restC vs cs (wipeC cs vs) = cs := by
  unfold restC
  apply List.ext_getElem?
  intro j
  rw [List.getElem?_mapIdx]
  by_cases hj : j ∈ vs
  · by_cases hl : j < cs.length
    · rw [List.getElem?_eq_getElem (by rw [wipeC_len2]; exact hl), List.getElem?_eq_getElem hl]
      show some (if j ∈ vs then cs.getD j none else _) = _
      rw [if_pos hj, List.getD_eq_getElem?_getD, List.getElem?_eq_getElem hl]
      rfl
    · rw [List.getElem?_eq_none (by rw [wipeC_len2]; omega), List.getElem?_eq_none (by omega)]
      rfl
  · rw [wipeC_get cs vs j hj]
    cases h : cs[j]? with
    | none => rfl
    | some x =>
      show some (if j ∈ vs then cs.getD j none else x) = some x
      rw [if_neg hj]
theorem restC_wipe2 (vs : List Nat) {S0 S1 : CS} (hl : S0.length = S1.length) (h : ∀ j ∈ vs, S0[j]? = S1[j]?) : restC vs S0 (wipeC S1 vs) = S1 := by
  unfold restC
  apply List.ext_getElem?
  intro j
  rw [List.getElem?_mapIdx]
  by_cases hj : j ∈ vs
  · by_cases hl2 : j < S1.length
    · rw [List.getElem?_eq_getElem (by rw [wipeC_len2]; exact hl2)]
      show some (if j ∈ vs then S0.getD j none else _) = _
      rw [if_pos hj, List.getD_eq_getElem?_getD, h j hj, List.getElem?_eq_getElem hl2]
      rfl
    · rw [List.getElem?_eq_none (by rw [wipeC_len2]; omega), List.getElem?_eq_none (by omega)]
      rfl
  · rw [wipeC_get S1 vs j hj]
    cases h : S1[j]? with
    | none => rfl
    | some x =>
      show some (if j ∈ vs then S0.getD j none else x) = some x
      rw [if_neg hj]
end Cl

/-! {t: v} as a dict of one's own -/
namespace Cl
open PySem PySem.Spec PyProof.Rows L2
section
variable {K : KW} {ZP : ZT} {B : Bs} {g : GW} {H : Hp} {cs : CS} {σ : L2.St} {p : Addr} {o o' : HO}
/-- a thing that no one has yet is changed -/
theorem Rel.updLoose (R : Rel K ZP B g H cs σ) (h : H p = some o) (ht : ∀ xs, H p ≠ some (.tup xs)) (n1 : ¬ g.fz p) (n2 : g.zs p = none) (n3 : ¬ ow cs σ p) (hb : B.1 p = none) :
    Rel K ZP B g (upd H p o') cs σ ∧ Frm (fun a => a = p) g H g (upd H p o') := by
  have tups : ∀ a xs, H a = some (.tup xs) → (upd H p o') a = some (.tup xs) := fun a xs q => by
    have hne : a ≠ p := fun e => by
      subst e
      exact ht xs q
    rw [upd_ne hne]; exact q
  have any : ∀ a u, H a = some u → ∃ u', upd H p o' a = some u' := fun a u e => by
    by_cases hp : a = p
    · subst hp; exact ⟨_, upd_same⟩
    · exact ⟨u, by rw [upd_ne hp]; exact e⟩
  have f : Frm (fun a => a = p) g H g (upd H p o') :=
    ⟨fun a u e _ n => by rw [upd_ne n]; exact e, fun _ h => h, fun _ _ h => h, fun a u e n q => q, fun _ _ _ h => h, tups, any⟩
  refine ⟨⟨R.len, fun i sv e => ?_, R.sep, fun a t z => ?_, fun a z => ?_, ?_, R.fresh, R.bs⟩, f⟩
  · obtain ⟨v, e1, r⟩ := R.slot i sv e
    refine ⟨v, e1, r.frm f (fun a z => ⟨(R.fzow a z).1, fun q => ?_⟩) fun xs a e2 e3 q => ?_⟩
    · have q : a = p := q
      subst q; exact n1 z
    · have q : a = p := q
      subst q; subst e2; subst e3
      exact n3 ⟨i, xs, e, e1⟩
  · obtain ⟨u, e, q⟩ := R.zok a t z
    refine ⟨u, ?_, q⟩
    have z2 : g.zs a = some t := z
    rw [upd_ne (fun e => by subst e; rw [n2] at z2; cases z2)]
    exact e
  · obtain ⟨⟨u, e⟩, q⟩ := R.fzok a z
    exact ⟨any a u e, q⟩
  · have nb : ∀ a u, B.1 a = some u → a ≠ p := fun a u e z => by subst z; rw [hb] at e; cases e
    refine ⟨fun a u e z n => ?_, R.base.fzm, R.base.zsm, R.base.fzn, R.base.zsn, fun a xs q => tups a xs (R.base.tups a xs q), fun a u e => ?_⟩
    · rw [upd_ne (nb a u e)]; exact R.base.keep a u e z n
    · obtain ⟨u', e'⟩ := R.base.any a u e
      exact any a u' e'
end
def tDisp1T (tk tv : TE) : TE := fun σ H Q => ∀ p, H p = none → tk σ (upd H p (.dT [])) fun x H1 => tv σ H1 fun y H2 => H2 p = some (.dT []) ∧ ∃ b ks, x = .ref b ∧ H2 b = some (.tup (ks.map kV)) ∧ Q (.ref p) (upd H2 p (.dT [(ks, y)]))
section
variable {X : Cx} {ZP : ZT} {pos : Pos} {ke ve : Expr}
theorem pe_disp1T {tk tv : TE} (hu : X.A.units + 64 < cLine) (hk : PE X ke tk) (hv : PE X ve tv) : PE X (.Dict [some ke] [ve] pos) (tDisp1T tk tv) := by
  refine ⟨fun pins s σ H Q I q => ?_⟩
  have hn := I.hok.fresh (Nat.le_refl s.heap.objs.size)
  have I1 := I.laid (a := s.heap.objs.size) (o := .dT []) (h' := s.heap.push { cls := .type "dict", data := .dict #[] }) (t' := s.toks) (fun _ _ q => Heap.get?_push_of_some _ q) (Nat.le_refl _) (dt_empty s.heap I.big)
  refine dict1_h (knd := tupleKind (mixKind X.prog X.w)) (show X.A.units < cLine by omega) ?_
  generalize hD : s.heap.objs.size = D at hn I1
  refine pairTrees_cons_walk (thn (hk.run pins _ σ _ _ I1 (q D hn)) fun u s1 ⟨x, H1, J1, rx, q1⟩ => thn (hv.run pins s1 σ H1 _ J1 q1) fun w2 s2 ⟨y, H2, I2, ry, e, b, ks, ex, eb, q2⟩ => pairTrees_nil_walk ?_)
  subst ex
  cases rx
  obtain ⟨z, hd, xs, rel, dd⟩ := dt_of I2.hok e
  cases rel
  refine ⟨[(ks, b, w2)], ⟨rfl, rfl, key_of I2.hok eb, True.intro⟩, dd, fun h' tk dd' hs => ?_⟩
  obtain ⟨q', es, ep, hq, h2, h3, h4, _, h5⟩ := dd'
  refine ⟨.ref D, upd H2 D (.dT [(ks, y)]), d_write (ob := .dT [(ks, y)]) I2 (by rw [e]; exact True.intro) hs ⟨q', hq⟩ ⟨by show 1 ≤ _; decide, hd, [(ks, b, w2)], .cons ⟨rfl, ?_, ry⟩ .nil, q', es, ep, hq, h2, h3, h4, h5⟩, rfl, q2⟩
  show upd H2 D _ b = _
  rw [upd_ne (fun z => by subst z; rw [e] at eb; cases eb)]
  exact eb
variable {tk tx : TVD}
def t_dnew1 (tk tx : TVD) : TD := fun cs Q => tk cs fun kd cs1 => tx cs1 fun d cs2 => ∃ ks, keyD kd = some ks ∧ Q (.dic [(ks, d)]) cs2
theorem de_dnew1 (hu : X.A.units + 64 < cLine) (hk : DV X ZP ke tk) (hv : DV X ZP ve tx) : DE X ZP (.Dict [some ke] [ve] pos) (t_dnew1 tk tx) := by
  refine ⟨PE.imp (pe_disp1T hu hk.pe hv.pe) ?_⟩
  rintro σ H Q ⟨B, cs, g, R, Q', q, k⟩
  intro p hp
  have n := R.nofz hp
  have np : ¬ ow cs σ p := fun z => by
    obtain ⟨u, h⟩ := R.owsome z
    rw [hp] at h; cases h
  have f0 : Frm (fun _ => False) g H g (upd H p (.dT [])) := .laid hp
  refine ⟨B, cs, g, R.laid hp, _, q, fun kd cs1 x g1 H1 q1 R1 r1 s1 f1 => ?_⟩
  refine ⟨B, cs1, g1, R1, _, q1, fun d cs2 y g2 H2 q2 R2 r2 s2 f2 => ?_⟩
  obtain ⟨ks, ek, q3⟩ := q2
  have f12 : Frm (ow cs σ) g (upd H p (.dT [])) g2 H2 := f1.trans (f2.mono fun a _ _ h => s1 a h)
  have ep : H2 p = some (.dT []) := f12.keep p _ upd_same n.2 np
  obtain ⟨b, rfl, hb⟩ := keyD_rp (Rp.frm f2 R1.fzow r1) ek
  have nf : ¬ g2.fz p := fun z => n.1 (f12.fzn p _ upd_same np z)
  have nz : g2.zs p = none := f12.zsn p _ upd_same n.2
  have no : ¬ ow cs2 σ p := fun z => np (s1 _ (s2 _ z))
  have hB : B.1 p = none := R.bnone hp
  obtain ⟨R3, f3⟩ := R2.updLoose (o' := .dT [(ks, y)]) ep (fun xs z => by rw [ep] at z; cases z) nf nz no hB
  refine ⟨ep, b, ks, rfl, hb, ?_⟩
  have r3 : Rp X.kw (upd H2 p (.dT [(ks, y)])) g2.fz d y := Rp.frm f3 (fun a h => ⟨(R2.fzow a h).1, fun z => by
    have z : a = p := z
    subst z; exact nf h⟩) r2
  have up : ∀ {a : Addr} {o : HO}, H a = some o → upd H p (.dT []) a = some o := fun {a o} e => by rw [upd_ne (ne_of_none e hp)]; exact e
  refine k (.dic [(ks, d)]) cs2 (.ref p) g2 (upd H2 p (.dT [(ks, y)])) q3 R3 ⟨p, [y], rfl, upd_same, nf, nz, .cons r3 .nil⟩ (fun xs a e1 e2 => ?_) (fun a h => s1 a (s2 a h)) ?_
  · cases e2
    exact ⟨no, hp⟩
  · refine ⟨fun a o e z nn => ?_, fun a h => f12.fzm a h, f12.zsm, fun a o e nn h => f12.fzn a o (up e) nn h, fun a o e z => f12.zsn a o (up e) z, fun a xs h => f3.tups a xs (f12.tups a xs (up h)), fun a o e => ?_⟩
    · rw [upd_ne (ne_of_none e hp)]
      exact f12.keep a o (up e) z nn
    · obtain ⟨o1, e1⟩ := f12.any a o (up e)
      exact f3.any a o1 e1
end
end Cl

/-! lcm(a, b) -/
namespace Cl
open PySem PySem.Spec PyProof.Rows L2
section
variable {X : Cx} {ZP : ZT} {es : List Expr} {e : Expr} {pos p : Pos} {x : Str} {t : TSA}
def rLcm : List V → Hp → VK → Prop := fun vs H Q => ∃ a b : Int, vs = [.int a, .int b] ∧ a.natAbs < 2 ^ 64 ∧ b.natAbs < 2 ^ 64 ∧ Q (.int ((Nat.lcm a.natAbs b.natAbs : Nat) : Int)) H
theorem cr_lcm : CallR X (.builtin "math.lcm") rLcm := by
  intro pins s σ H vs us Q I r h
  obtain ⟨a, b, rfl, ha, hb, q⟩ := h
  obtain ⟨t, u, rfl⟩ := Vals.int2 r
  exact PySem.W.mc_lcm ha hb fun _ => ⟨.int _, H, I.tok _, ⟨_, rfl⟩, q⟩
def t_lcm (t : TSA) : TVD := fun cs Q => t cs fun svs cs1 => match svs with
  | [.dat (.int a), .dat (.int b)] => a.natAbs < 2 ^ 64 ∧ b.natAbs < 2 ^ 64 ∧ Q (.int ((Nat.lcm a.natAbs b.natAbs : Nat) : Int)) cs1
  | _ => False
theorem dv_lcm (hg : Gl X x) (hm : X.mg x = some (.builtin "math.lcm")) (ha : DA X ZP (e :: es) t) (hdb : (x == ("__debug__" : Str)) = false := by decide)
    (he : starEach (e :: es) X.env = (false, eval e X.env) :: starEach es X.env := by rfl) (hpl : (backTo pos (starEach es X.env)).any (·.1) = false := by rfl) : DV X ZP (.Call (.Name x p) (e :: es) [] pos) (t_lcm t) := by
  refine ⟨PE.imp (pe_callBfun cr_lcm hg hm ha.pa hdb he hpl) ?_⟩
  rintro σ H Q ⟨B, cs, g, Re, Q', q, k⟩
  refine ⟨B, cs, g, Re, _, q, fun svs cs1 vs g1 H1 q1 R1 r1 st s1 f1 => ?_⟩
  match svs, r1, q1 with
  | [.dat (.int a), .dat (.int b)], .cons r (.cons r' .nil), q1 =>
    cases r; cases r'
    exact ⟨a, b, rfl, q1.1, q1.2.1, k _ cs1 _ g1 H1 q1.2.2 R1 (.int _) s1 f1⟩
end
end Cl

/-! b is True, b is not True, b a bool -/
namespace Cl
open PySem PySem.Spec PyProof.Rows L2
def isY : OpX := fun x y Q => match x, y with
  | .bool a, .bool b => Q (.dat (.bool (a == b)))
  | _, _ => False
def isnY : OpX := fun x y Q => match x, y with
  | .bool a, .bool b => Q (.dat (.bool (!(a == b))))
  | _, _ => False
section
variable {X : Cx}
theorem oy_is : OpR X (compareOp .Is) (rO X.kw isY) := by
  rintro pins s σ H x y v u Q I rx ry ⟨fz, d, e, hd, he, Q', q, k⟩
  cases d with
  | bool a =>
    cases e with
    | bool b =>
      cases hd.bl; cases he.bl
      cases rx; cases ry
      refine wpAny_is_plain (by cases a <;> cases b <;> rfl) ⟨.bl _, H, I, ?_, k _ _ _ q (.same (.bl _))⟩
      cases a <;> cases b <;> rfl
    | _ => exact q.elim
  | _ => cases e <;> exact q.elim
theorem oy_isn : OpR X (compareOp .IsNot) (rO X.kw isnY) := by
  rintro pins s σ H x y v u Q I rx ry ⟨fz, d, e, hd, he, Q', q, k⟩
  cases d with
  | bool a =>
    cases e with
    | bool b =>
      cases hd.bl; cases he.bl
      cases rx; cases ry
      refine wpAny_isNot_plain (by cases a <;> cases b <;> rfl) ⟨.bl _, H, I, ?_, k _ _ _ q (.same (.bl _))⟩
      cases a <;> cases b <;> rfl
    | _ => exact q.elim
  | _ => cases e <;> exact q.elim
end
end Cl

/-! f(stock, xs), xs a list of one's own that the callee only reads: it stays one's own -/
namespace Cl
open PySem PySem.Spec PyProof.Rows L2
def atom : PyData → Prop
  | .none => True
  | .bool _ => True
  | .int _ => True
  | .str _ => True
  | _ => False
def flat : PyData → Prop
  | .tuple ds => ∀ d ∈ ds, atom d
  | d => atom d
section
variable {K : KW} {H : Hp} {fz fz' : Addr → Prop}
theorem Rp.atom {d : PyData} {v : V} (h : atom d) (r : Rp K H fz d v) : Rp K H fz' d v := by
  cases r with
  | non => exact .non
  | bl b => exact .bl b
  | int i => exact .int i
  | str x => exact .str x
  | _ => exact h.elim
theorem RpAll.atoms : ∀ {ds : List PyData} {vs : List V}, (∀ d ∈ ds, Cl.atom d) → RpAll K H fz ds vs → RpAll K H fz' ds vs
  | [], _, _, .nil => .nil
  | d :: ds, _, h, .cons r t => .cons (Rp.atom (h d List.mem_cons_self) r) (RpAll.atoms (fun x hx => h x (List.mem_cons_of_mem _ hx)) t)
theorem Rp.flat {d : PyData} {v : V} (h : flat d) (r : Rp K H fz d v) : Rp K H fz' d v := by
  cases d with
  | tuple ds =>
    cases r with
    | tup q ra => exact .tup q (RpAll.atoms h ra)
  | _ => exact Rp.atom h r
end
def t_callB (C : TF) (i j : Nat) : TD := fun cs Q => ∃ t xs, cs[i]? = some (some (.raw t)) ∧ cs[j]? = some (some (.own xs)) ∧ C [.raw t, .dat (.list xs)] fun sv => ∃ d, sv = .dat d ∧ flat d ∧ Q (.dat d) cs
section
variable {X : Cx} {ZP : ZT} {k : Nat} {f : Addr} {fd : FuncData} {ps : List Str} {x y z : Str} {p pos p1 p2 : Pos} {C : TF}
theorem de_callB (F : FnG X.prog X.w X.kw X.mg X.base CX0 k f fd ps (spD X.kw ZP.zp 2 C)) (hgd : X.A.guards = some []) (hr : Room k X.A) (hg : Gl X x) (hm : X.mg x = some (.ref f)) (hk : PySem.W.keepIn X.kw (.ref f) = true) (hb : Binds X.kw fd ps [])
    (i j : Nat) (hN : X.N[i]? = some y := by rfl) (hv : Vis X.env.scope y := by first | exact Or.inl rfl | exact Or.inr (Or.inl rfl) | exact Or.inr (Or.inr rfl)) (hN2 : X.N[j]? = some z := by rfl) (hv2 : Vis X.env.scope z := by first | exact Or.inl rfl | exact Or.inr (Or.inl rfl) | exact Or.inr (Or.inr rfl))
    (hd : (y == ("__debug__" : Str)) = false := by decide) (hcd : (y == ("__classdict__" : Str)) = false := by decide) (hd2 : (z == ("__debug__" : Str)) = false := by decide) (hcd2 : (z == ("__classdict__" : Str)) = false := by decide)
    (hdb : (x == ("__debug__" : Str)) = false := by decide)
    (he : starEach [.Name y p1, .Name z p2] X.env = (false, eval (.Name y p1) X.env) :: starEach [.Name z p2] X.env := by rfl) (he2 : starEach [.Name z p2] X.env = (false, eval (.Name z p2) X.env) :: starEach [] X.env := by rfl) (hpl : (backTo pos (starEach [.Name z p2] X.env)).any (·.1) = false := by rfl) :
    DE X ZP (.Call (.Name x p) [.Name y p1, .Name z p2] [] pos) (t_callB C i j) := by
  refine ⟨PE.imp (pe_callG1 F hgd hr hg hm hk hb pass0 (pa_cons (pe_var hN hv hd hcd) (pa_cons (pe_var hN2 hv2 hd2 hcd2) pa_nil he2) he) hdb he hpl) ?_⟩
  rintro σ H Q ⟨B, cs, g, R, Q', ⟨t, xs, e1, e2, q⟩, k⟩
  obtain ⟨v1, s1, r1⟩ := R.slot i _ e1
  obtain ⟨v2, s2, r2⟩ := R.slot j _ e2
  obtain ⟨a, vs, rfl, ha, n1, n2, ra⟩ := id r2
  obtain ⟨R2, rp, f0, _⟩ := R.freezeSlot e2 s2
  have hij : i ≠ j := fun e => by subst e; rw [e1] at e2; cases e2
  have r1' : RS X.kw (g.freeze a) H (.raw t) v1 := by
    obtain ⟨w1, s1', r⟩ := R2.slot i (.raw t) (by rw [List.getElem?_set_ne (Ne.symm hij)]; exact e1)
    rw [s1] at s1'; cases s1'
    exact r
  refine ⟨v1, s1, .ref a, s2, rfl, [.raw t, .dat (.list xs)], g.freeze a, .cons r1' (.cons rp .nil), fun sv hsv => ?_, ⟨R2.zok, R2.fzok⟩, _, q, fun sv v g' H' q' G' r' fr f' => ?_⟩
  · simp only [List.mem_cons, List.not_mem_nil, or_false] at hsv
    rcases hsv with rfl | rfl <;> rfl
  · obtain ⟨d, rfl, hfl, q2⟩ := q'
    have fr2 : Frm (fun _ => False) g H { fz := fun b => g'.fz b ∧ b ≠ a, zs := g'.zs } H' :=
      ⟨fun b o e z n => f'.keep b o e z n, fun b h => ⟨f'.fzm b (.inl h), fun z => by subst z; exact n1 h⟩, f'.zsm, fun b o e n h => (f'.fzn b o e n h.1).elim id fun z => absurd z h.2, f'.zsn, f'.tups, f'.any⟩
    exact k (.dat d) cs v _ H' q2 (R.go fr2 G'.zok fun b h => G'.fzok b h.1) (Rp.flat hfl r') (fun _ _ e => nomatch e) (fun _ h => h) (fr2.mono fun _ _ _ z => z.elim)
end
end Cl

/-! dicts with keys of any kind: tables of entries by what the keys stand for -/
namespace Cl
open PySem PySem.Spec PyProof.Rows L2

def KeyIs (h : Heap) (k : NestedKey) (u : Value) : Prop := NestedIs h k u ∧ k.depth ≤ 8
/-- the entries' keys are ks -/
def Tab (w : World) (h : Heap) : List NestedKey → List DictEntry → Prop := Paired fun k e => KeyIs h k e.key ∧ e.hash = k.hash w
def spotN (ks : List NestedKey) (k : NestedKey) : Option Nat := ks.findIdx? fun x => decide (x = k)
section
variable {w : World} {h h' : Heap}
theorem Tab.at {ks : List NestedKey} {es : List DictEntry} (t : Tab w h ks es) {i : Nat} {e : DictEntry} (he : es[i]? = some e) : ∃ k, ks[i]? = some k ∧ KeyIs h k e.key ∧ e.hash = k.hash w := by
  induction t generalizing i with
  | nil => simp at he
  | cons r _ ih =>
    cases i with
    | zero => simp at he; subst he; exact ⟨_, rfl, r⟩
    | succ i => simpa using ih (i := i) (by simpa using he)
theorem Tab.at' {ks : List NestedKey} {es : List DictEntry} (t : Tab w h ks es) {i : Nat} {k : NestedKey} (hk : ks[i]? = some k) : ∃ e, es[i]? = some e ∧ KeyIs h k e.key ∧ e.hash = k.hash w := by
  induction t generalizing i with
  | nil => simp at hk
  | cons r _ ih =>
    cases i with
    | zero => simp at hk; subst hk; exact ⟨_, rfl, r⟩
    | succ i => simpa using ih (i := i) (by simpa using hk)
theorem Tab.len {ks : List NestedKey} {es : List DictEntry} (t : Tab w h ks es) : ks.length = es.length := Paired.length t
theorem Tab.mono {ks : List NestedKey} {es : List DictEntry} (t : Tab w h ks es) (f : ∀ k u, KeyIs h k u → KeyIs h' k u) : Tab w h' ks es := Paired.mapP t fun _ _ r => ⟨f _ _ r.1, r.2⟩
theorem spotN_some {ks : List NestedKey} (hn : ks.Nodup) {k : NestedKey} {j : Nat} (e : ks[j]? = some k) : spotN ks k = some j := by
  obtain ⟨hj, rfl⟩ := List.getElem?_eq_some_iff.mp e
  refine List.findIdx?_eq_some_iff_getElem.mpr ⟨hj, by simp, fun i hi => ?_⟩
  have : ks[i]'(Nat.lt_trans hi hj) ≠ ks[j] := fun z => by
    have := (List.getElem_inj hn).mp z
    omega
  simpa using this
theorem spotN_none {ks : List NestedKey} {k : NestedKey} (e : ∀ j : Nat, ks[j]? ≠ some k) : spotN ks k = none := by
  refine List.findIdx?_eq_none_iff.mpr fun x hx => ?_
  obtain ⟨j, hj⟩ := List.mem_iff_getElem?.mp hx
  exact decide_eq_false fun z => e j (by rw [hj, z])
theorem spotN_get {ks : List NestedKey} {k : NestedKey} {j : Nat} (e : spotN ks k = some j) : ks[j]? = some k := by
  obtain ⟨hj, h1, _⟩ := List.findIdx?_eq_some_iff_getElem.mp e
  rw [List.getElem?_eq_getElem hj]
  exact congrArg some (of_decide_eq_true h1)
end

section
variable {prog : Program} {w : World} {A : Around} {E : Value → Shared → Prop} {s : Shared}
theorem tells_not {u : Value} {k : NestedKey} {st : List Value} {Q : Bool → Shared → Prop} (hk : KeyIs s.heap k u) (hs : ∀ v ∈ st, ∃ k', KeyIs s.heap k' v) (h : Q false s) :
    wpAny (model prog w) A (tableMayTell u st) Q E s := by
  unfold tableMayTell
  by_cases he : st.isEmpty = true
  · rw [if_pos he]; exact wpAny_pure h
  · rw [if_neg he]
    refine wpAny_bind (quiet_key k u 8 s hk.1 hk.2 _ _ _ ?_)
    rw [if_neg (by decide)]
    refine wpAny_bind (wpAny_forIn_list _ (fun r b t => t = s ∧ b = (none, ()) ∧ ∀ v ∈ r, ∃ k', KeyIs s.heap k' v) _ (fun x r b t hI => ?_) (fun b t hI => ?_) _ _ ⟨rfl, rfl, hs⟩)
    · obtain ⟨rfl, rfl, hr⟩ := hI
      obtain ⟨k', hx⟩ := hr x List.mem_cons_self
      refine wpAny_bind (quiet_key k' x 8 t hx.1 hx.2 _ _ _ ?_)
      rw [if_neg (by decide)]
      exact wpAny_pure ⟨rfl, rfl, fun v hv => hr v (List.mem_cons_of_mem _ hv)⟩
    · obtain ⟨rfl, rfl, _⟩ := hI
      exact wpAny_pure h
theorem same_key {k k' : NestedKey} {u v : Value} {Q : Bool → Shared → Prop} (hu : A.units + 8 < cLine) (h1 : KeyIs s.heap k' v) (h2 : KeyIs s.heap k u) (h : Q (decide (k' = k)) s) : wpAny (model prog w) A (eqBool v u) Q E s := by
  have e := eqAt_key k' k A s v u h1.1 h2.1 (by have := h1.2; omega)
  rw [NestedKey.decide_eq] at h
  exact e _ _ _ _ h
/-- where the key stands -/
theorem find_key {d : Addr} {o : Obj} {es : List DictEntry} {ep : Nat} {ks : List NestedKey} {k : NestedKey} {u : Value} {Q : Option Nat → Shared → Prop} (hu : A.units + 8 < cLine) (hk : KeyIs s.heap k u)
    (ho : s.heap.get? d = some o) (hd : o.data = .dict es.toArray ep) (t : Tab w s.heap ks es) (hn : ks.Nodup) (h : Q (spotN ks k) s) : wpAny (model prog w) A (dictFind d u (k.hash w)) Q E s := by
  have noe : ∀ {i : Nat} {e : DictEntry}, es.toArray[i]? = some e → es[i]? = some e := fun z => by simpa using z
  have epoch : ∀ {R : Nat → Shared → Prop}, R ep s → wpAny (model prog w) A (dictEpoch d (keyPart u)) R E s := fun r => wpAny_dictEpoch ho hd r
  unfold dictFind
  try with_reducible refine wpAny_holding ?_
  refine wpAny_bind (wpAny_dictEntries ho hd ?_)
  have hpl : ∀ j, ks[j]? = some k → j ∈ placesWithHash es.toArray.size (fun i => es.toArray[i]?.map (·.hash)) (k.hash w) := fun j hj => by
    obtain ⟨e, he, _, hh⟩ := t.at' hj
    refine List.mem_filter.mpr ⟨List.mem_range.mpr (by simpa using (List.getElem?_eq_some_iff.mp he).1), ?_⟩
    have : es.toArray[j]? = some e := by simpa using he
    show (es.toArray[j]?.map (·.hash) == some (k.hash w)) = true
    rw [this]
    simp [hh]
  have hnd : (placesWithHash es.toArray.size (fun i => es.toArray[i]?.map (·.hash)) (k.hash w)).Nodup := List.nodup_range.filter _
  have hst : ∀ v ∈ (placesWithHash es.toArray.size (fun i => es.toArray[i]?.map (·.hash)) (k.hash w)).filterMap (fun i => es.toArray[i]?.map (·.key)), ∃ k', KeyIs s.heap k' v := fun v hv => by
    obtain ⟨i, _, hi⟩ := List.mem_filterMap.mp hv
    obtain ⟨e, he, rfl⟩ := Option.map_eq_some_iff.mp hi
    obtain ⟨k', _, q, _⟩ := t.at (noe he)
    exact ⟨k', q⟩
  generalize placesWithHash es.toArray.size (fun i => es.toArray[i]?.map (·.hash)) (k.hash w) = pl at hpl hnd hst
  have plain : wpAny (model prog w) A (dictWalkPlain d u (k.hash w) es.toArray pl) Q E s := by
    unfold dictWalkPlain
    refine wpAny_bind (wpAny_forIn_list _ (fun r b t => t = s ∧ b = (none, ()) ∧ ∀ j, ks[j]? = some k → j ∈ r) _ (fun i r b t' hI => ?_) (fun b t' hI => ?_) _ _ ⟨rfl, rfl, hpl⟩)
    · obtain ⟨rfl, rfl, hr⟩ := hI
      have skip : ks[i]? ≠ some k → ∀ j, ks[j]? = some k → j ∈ r := fun z j hj => by
        rcases List.mem_cons.mp (hr j hj) with rfl | q
        · exact absurd hj z
        · exact q
      cases he : es.toArray[i]? with
      | none => exact wpAny_pure ⟨rfl, rfl, skip fun z => by obtain ⟨e, q, _⟩ := t.at' z; rw [show es.toArray[i]? = some e by simpa using q] at he; cases he⟩
      | some e =>
        obtain ⟨k', hk', q, hh⟩ := t.at (noe he)
        dsimp only
        by_cases hb : (e.hash == k.hash w) = true
        · rw [if_pos hb]
          refine wpAny_bind (epoch (wpAny_bind (same_key hu q hk (wpAny_bind (epoch ?_)))))
          rw [if_neg (by simp)]
          by_cases hkk : k' = k
          · subst hkk
            rw [decide_eq_true rfl, if_pos rfl]
            refine wpAny_bind (wpAny_rule (wpAny_pure ?_))
            rw [spotN_some hn hk'] at h
            exact wpAny_pure h
          · rw [decide_eq_false hkk, if_neg Bool.false_ne_true]
            exact wpAny_bind (wpAny_rule (wpAny_pure ⟨rfl, rfl, skip fun z => hkk (by rw [hk'] at z; exact Option.some.inj z)⟩))
        · rw [if_neg hb]
          exact wpAny_pure ⟨rfl, rfl, skip fun z => hb (by rw [hk'] at z; cases z; simp [hh])⟩
    · obtain ⟨rfl, rfl, hr⟩ := hI
      rw [spotN_none fun j hj => nomatch hr j hj] at h
      exact wpAny_pure h
  have txts : ∀ (jp : Sem (Option Nat)), wpAny (model prog w) A jp Q E s → wpAny (model prog w) A (match u with
      | .str y _ => if (es.toArray.all fun e => isExactStrKey e.key) = true then foundByValue d u es.toArray y else jp
      | _ => jp) Q E s := fun jp hj => by
    split
    · rename_i y tk
      split
      · rename_i hall
        obtain ⟨hk1, hk2⟩ := hk
        cases hk1 with
        | text _ _ =>
        have all' : ∀ (i : Nat) (e : DictEntry), es[i]? = some e → ∃ (z : Str) (v : Tok), e.key = Value.str z v ∧ ks[i]? = some (NestedKey.text z) := fun i e he => by
          obtain ⟨k', e1, ⟨e2, _⟩, _⟩ := t.at he
          have e3 : isExactStrKey e.key = true := by
            rw [← Array.all_toList, List.all_eq_true] at hall
            exact hall e (List.mem_of_getElem? he)
          cases hz : e.key with
          | str z v => rw [hz] at e2; cases e2; exact ⟨z, v, rfl, e1⟩
          | _ => rw [hz] at e3; cases e3
        have eqf : (es.findIdx? fun e => e.key.isStr y) = spotN ks (.text y) := by
          cases hs : spotN ks (.text y) with
          | none =>
            refine List.findIdx?_eq_none_iff.mpr fun e he => ?_
            obtain ⟨i, hi⟩ := List.mem_iff_getElem?.mp he
            obtain ⟨z, v, e1, e2⟩ := all' i e hi
            rw [e1]
            by_cases hz : z = y
            · subst hz; rw [spotN_some hn e2] at hs; cases hs
            · simp [Value.isStr, hz]
          | some j =>
            have hj := spotN_get hs
            obtain ⟨e, he, _⟩ := t.at' hj
            obtain ⟨hjl, hje⟩ := List.getElem?_eq_some_iff.mp he
            refine List.findIdx?_eq_some_iff_getElem.mpr ⟨hjl, ?_, fun i hi => ?_⟩
            · obtain ⟨z, v, e1, e2⟩ := all' j e he
              rw [hj] at e2; cases e2
              rw [hje, e1]; simp [Value.isStr]
            · obtain ⟨z, v, e1, e2⟩ := all' i _ (List.getElem?_eq_getElem (Nat.lt_trans hi hjl))
              rw [e1]
              have : z ≠ y := fun q => by subst q; rw [spotN_some hn e2] at hs; cases hs; omega
              simp [Value.isStr, this]
        unfold foundByValue
        rw [show (es.toArray.findIdx? fun e => e.key.isStr y) = es.findIdx? fun e => e.key.isStr y by simp, eqf]
        cases hs : spotN ks (.text y) with
        | none => rw [hs] at h; exact wpAny_pure h
        | some j =>
          rw [hs] at h
          obtain ⟨e, he, q, _⟩ := t.at' (spotN_get hs)
          dsimp only
          rw [show es.toArray[j]? = some e by simpa using he]
          refine wpAny_bind (epoch (wpAny_bind (same_key hu q ⟨.text y tk, hk2⟩ (wpAny_bind (epoch ?_)))))
          rw [if_neg (by simp), decide_eq_true rfl, if_pos rfl]
          exact wpAny_bind (wpAny_rule (wpAny_pure h))
      · exact hj
    · exact hj
  have refs : ∀ (jp : Sem (Option Nat)) (bad : Sem (Option Nat)), wpAny (model prog w) A jp Q E s → wpAny (model prog w) A (match u with
      | .ref _ => if (es.toArray.any fun e => e.key == u && e.hash != k.hash w) = true then bad else jp
      | _ => jp) Q E s := fun jp bad hj => by
    split
    · rename_i a
      rw [if_neg ?_]
      · exact hj
      · rw [← Array.any_toList, List.any_eq_true]
        rintro ⟨e, he, hc⟩
        simp only [Bool.and_eq_true, beq_iff_eq, bne_iff_ne, ne_eq] at hc
        obtain ⟨i, hi⟩ := List.mem_iff_getElem?.mp he
        obtain ⟨k', _, q, hh⟩ := t.at hi
        rw [hc.1] at q
        exact hc.2 (by rw [hh, NestedIs.inj _ _ _ q.1 hk.1])
    · exact hj
  have both : ∀ (c : Bool) (jp : Bool → Sem (Option Nat)) (st : List Value), (∀ v ∈ st, ∃ k', KeyIs s.heap k' v) → wpAny (model prog w) A (jp false) Q E s →
      wpAny (model prog w) A (if c = true then (pure false >>= jp) else (tableMayTell u st >>= jp)) Q E s := fun c jp st hs hj => by
    split
    · exact wpAny_bind (wpAny_pure hj)
    · exact wpAny_bind (tells_not hk hs hj)
  refine txts _ ?_
  by_cases hcv : (u :: pl.filterMap fun i => es.toArray[i]?.map (·.key)).all carriedByValue = true
  · rw [if_pos hcv]; exact plain
  rw [if_neg hcv]
  refine refs _ _ ?_
  refine both _ _ _ hst ?_
  dsimp only
  rw [if_neg (by simp)]
  refine wpAny_bind (wpAny_forIn_list _ (fun r b t => t = s ∧ r.Nodup ∧ ∃ hit, b = (none, hit) ∧ ((hit = none ∧ ∀ j, ks[j]? = some k → j ∈ r) ∨ ∃ j, hit = some j ∧ ks[j]? = some k ∧ ∀ i ∈ r, ks[i]? ≠ some k)) _ (fun i r b t' hI => ?_) (fun b t' hI => ?_) _ _ ⟨rfl, hnd, none, rfl, .inl ⟨rfl, hpl⟩⟩)
  · obtain ⟨rfl, hr, hit, rfl, hH⟩ := hI
    rw [List.nodup_cons] at hr
    have skip : ks[i]? ≠ some k → ((hit = none ∧ ∀ j, ks[j]? = some k → j ∈ r) ∨ ∃ j, hit = some j ∧ ks[j]? = some k ∧ ∀ i ∈ r, ks[i]? ≠ some k) := fun z => by
      rcases hH with ⟨e1, e2⟩ | ⟨j, e1, e2, e3⟩
      · refine .inl ⟨e1, fun j hj => ?_⟩
        rcases List.mem_cons.mp (e2 j hj) with rfl | q
        · exact absurd hj z
        · exact q
      · exact .inr ⟨j, e1, e2, fun x hx => e3 x (List.mem_cons_of_mem _ hx)⟩
    cases he : es.toArray[i]? with
    | none => exact wpAny_pure ⟨rfl, hr.2, hit, rfl, skip fun z => by obtain ⟨e, q, _⟩ := t.at' z; rw [show es.toArray[i]? = some e by simpa using q] at he; cases he⟩
    | some e =>
      obtain ⟨k', hk', q, hh⟩ := t.at (noe he)
      dsimp only
      by_cases hb : (e.hash == k.hash w) = true
      · rw [if_pos hb]
        refine wpAny_bind (epoch (wpAny_bind (same_key hu q hk (wpAny_bind (epoch ?_)))))
        rw [if_neg (by simp)]
        by_cases hkk : k' = k
        · subst hkk
          rw [decide_eq_true rfl, if_pos rfl]
          rcases hH with ⟨e1, e2⟩ | ⟨j, e1, e2, e3⟩
          · subst e1
            rw [if_neg (by simp)]
            refine wpAny_bind (wpAny_rule ?_)
            split
            · rw [spotN_some hn hk'] at h
              exact wpAny_pure (wpAny_pure h)
            · refine wpAny_pure ⟨rfl, hr.2, some i, rfl, .inr ⟨i, rfl, hk', fun x hx z => hr.1 ?_⟩⟩
              have := (List.getElem?_inj (List.getElem?_eq_some_iff.mp hk').1 hn).mp (hk'.trans z.symm)
              rw [this]; exact hx
          · exact absurd hk' (e3 i List.mem_cons_self)
        · rw [decide_eq_false hkk, if_neg Bool.false_ne_true]
          refine wpAny_bind (wpAny_rule ?_)
          first | rw [if_neg (by simp)] | skip
          exact wpAny_pure ⟨rfl, hr.2, hit, rfl, skip fun z => hkk (by rw [hk'] at z; exact Option.some.inj z)⟩
      · rw [if_neg hb]
        exact wpAny_pure ⟨rfl, hr.2, hit, rfl, skip fun z => hb (by rw [hk'] at z; cases z; simp [hh])⟩
  · obtain ⟨rfl, _, hit, rfl, hH⟩ := hI
    rcases hH with ⟨rfl, e2⟩ | ⟨j, rfl, e2, _⟩
    · rw [spotN_none fun j hj => nomatch e2 j hj] at h
      exact wpAny_pure h
    · rw [spotN_some hn e2] at h
      exact wpAny_pure h
/-- the dict at d has the entries es -/
def DAt (h : Heap) (d : Addr) (es : List DictEntry) : Prop := ∃ ep, DictHas d ep es h
def valE (es : List DictEntry) : Option Nat → Option Value
  | some i => (es[i]?).map (·.val)
  | none => none
def setE (w : World) (es : List DictEntry) (k : NestedKey) (u v : Value) : Option Nat → List DictEntry
  | some i => es.modify i fun e => { e with val := v }
  | none => es ++ [⟨k.hash w, u, v⟩]
def delE (es : List DictEntry) : Option Nat → List DictEntry
  | some i => es.eraseIdx i
  | none => es
variable {d : Addr} {es : List DictEntry} {ks : List NestedKey} {k : NestedKey} {u : Value}
theorem DAt.typeIs (h : DAt s.heap d es) : s.TypeIs (.ref d) "dict" := let ⟨_, _, o, ho, hc, _⟩ := h; ⟨o, ho, hc.1⟩
theorem DAt.ne (h : DAt s.heap d es) : (d == sysModules) = false := let ⟨_, h⟩ := h; beq_eq_false_iff_ne.mpr h.1
theorem DAt.bare (h : DAt s.heap d es) : ∀ a, Value.ref d = .ref a → ∃ ob, s.heap.get? a = some ob ∧ ob.dict = none := fun a e => by
  cases e
  obtain ⟨_, _, o, ho, hc, _⟩ := h
  exact ⟨o, ho, hc.2.1⟩
theorem get_at {Q : Option Value → Shared → Prop} (hu : A.units + 8 < cLine) (hk : KeyIs s.heap k u) (D : DAt s.heap d es) (t : Tab w s.heap ks es) (hn : ks.Nodup) (h : ∀ tk, Q (valE es (spotN ks k)) { s with toks := tk }) :
    wpAny (model prog w) A (dictGet d u) Q E s := by
  obtain ⟨ep, _, o, ho, _, hd⟩ := D
  unfold dictGet
  try with_reducible refine wpAny_holding ?_
  refine wpAny_bind (pyHash_key k u A s _ hk.1 (by have := hk.2; omega) (wpAny_bind ?_))
  refine find_key (s := { s with toks := s.toks + k.draws }) hu hk ho hd t hn ?_
  have h := h (s.toks + k.draws)
  cases e : spotN ks k with
  | none => rw [e] at h; exact wpAny_pure h
  | some i =>
    rw [e] at h
    refine wpAny_bind (wpAny_dictEntries (s := { s with toks := s.toks + k.draws }) ho hd (wpAny_pure ?_))
    show Q ((es.toArray[i]?).map (·.val)) _
    rw [show es.toArray[i]? = es[i]? by simp]
    exact h
theorem set_at {v : Value} {Q : Unit → Shared → Prop} (hu : A.units + 8 < cLine) (hk : KeyIs s.heap k u) (D : DAt s.heap d es) (t : Tab w s.heap ks es) (hn : ks.Nodup) (hz : es.length ≤ sizeLine)
    (h : ∀ h' tk, DAt h' d (setE w es k u v (spotN ks k)) → Heap.SameBut d s.heap h' → Q () { s with heap := h', toks := tk }) : wpAny (model prog w) A (dictSet d u v) Q E s := by
  obtain ⟨ep, hs, o, ho, hx, hd⟩ := D
  unfold dictSet
  try with_reducible refine wpAny_holding ?_
  refine wpAny_bind (pyHash_key k u A s _ hk.1 (by have := hk.2; omega) ?_)
  unfold dictSetHashed
  try with_reducible refine wpAny_holding ?_
  refine wpAny_bind ?_
  refine find_key (s := { s with toks := s.toks + k.draws }) hu hk ho hd t hn ?_
  cases e : spotN ks k with
  | none =>
    rw [e] at h
    refine wpAny_bind (wpAny_rule (wpAny_updateDictKeys (hz := by simpa using hz) (s := { s with toks := s.toks + k.draws }) ho hd (h _ _ ⟨ep + 1, hs, _, Heap.get?_update_self _ ho (Obj.isFreed_of_dict (Obj.data_mapDictKeys hd _)), hx.mapDictKeys _, ?_⟩ (Heap.SameBut.update ..))))
    rw [Obj.data_mapDictKeys hd]
    simp [setE]
  | some i =>
    rw [e] at h
    refine wpAny_bind (wpAny_rule (wpAny_bind (wpAny_updateDict (s := { s with toks := s.toks + k.draws }) ho hd (wpAny_point (h _ _ ⟨ep, hs, _, Heap.get?_update_self _ ho (Obj.isFreed_of_dict (Obj.data_mapDict hd _)), hx.mapDict _, ?_⟩ (Heap.SameBut.update ..))))))
    rw [Obj.data_mapDict hd]
    simp [setE]
theorem del_at {Q : Option Value → Shared → Prop} (hu : A.units + 8 < cLine) (hk : KeyIs s.heap k u) (D : DAt s.heap d es) (t : Tab w s.heap ks es) (hn : ks.Nodup) (hz : es.length ≤ sizeLine)
    (h : ∀ h' tk, DAt h' d (delE es (spotN ks k)) → Heap.SameBut d s.heap h' → Q (valE es (spotN ks k)) { s with heap := h', toks := tk }) : wpAny (model prog w) A (dictDel d u) Q E s := by
  obtain ⟨ep, hs, o, ho, hx, hd⟩ := D
  unfold dictDel
  try with_reducible refine wpAny_holding ?_
  refine wpAny_bind (pyHash_key k u A s _ hk.1 (by have := hk.2; omega) (wpAny_bind ?_))
  refine find_key (s := { s with toks := s.toks + k.draws }) hu hk ho hd t hn ?_
  cases e : spotN ks k with
  | none =>
    rw [e] at h
    refine wpAny_bind (wpAny_rule (wpAny_pure (h _ _ ⟨ep, hs, o, ho, hx, hd⟩ ⟨rfl, fun _ _ => rfl⟩)))
  | some i =>
    rw [e] at h
    refine wpAny_bind (wpAny_rule (wpAny_bind (wpAny_dictEntries (s := { s with toks := s.toks + k.draws }) ho hd ?_)))
    refine wpAny_bind (wpAny_updateDictKeys (hz := by simpa using hz) (s := { s with toks := s.toks + k.draws }) ho hd (wpAny_pure ?_))
    have h := h (s.heap.update d (Obj.mapDictKeys (·.eraseIdxIfInBounds i))) (s.toks + k.draws) ⟨ep + 1, hs, _, Heap.get?_update_self _ ho (Obj.isFreed_of_dict (Obj.data_mapDictKeys hd _)), hx.mapDictKeys _, by
      rw [Obj.data_mapDictKeys hd]
      simp [delE]⟩ (Heap.SameBut.update ..)
    show Q ((es.toArray[i]?).map (·.val)) _
    rw [show es.toArray[i]? = es[i]? by simp]
    exact h
/-- k in d -/
theorem has_at {Q : Bool → Shared → Prop} (hu : A.units + 9 < cLine) (hk : KeyIs s.heap k u) (D : DAt s.heap d es) (t : Tab w s.heap ks es) (hn : ks.Nodup) (h : ∀ tk, Q (spotN ks k).isSome { s with toks := tk }) :
    wpAny (model prog w) A (contains (.ref d) u) Q E s := by
  refine wpAny_contains_slot D.typeIs F.slot_dict_contains ?_
  refine call_meetsIn F.slot_dict_contains D.typeIs F.entry_dict_contains (F.args_dict_contains_2 _ _) (S := fun A' R s' => A' = A ∧ s' = s ∧ ∀ tk, R (.ok (.ret (.bool (spotN ks k).isSome))) { s with toks := tk }) (fun A' R s' hS => ?_) ⟨rfl, rfl, fun tk => wpAny_truthy_bool (h tk)⟩
  obtain ⟨rfl, rfl, hq⟩ := hS
  show wpAny _ _ (dictGet d u >>= _) _ _ s'
  refine wpAny_bind (get_at (by simp only [Around.in1_units]; omega) hk D t hn fun tk => ?_)
  have hq := hq tk
  cases hf : spotN ks k with
  | some i =>
    obtain ⟨e, he, _⟩ := t.at' (spotN_get hf)
    rw [hf] at hq
    simp only [valE, he, Option.map_some]
    show wpAny _ _ (ret (.bool true)) _ _ _
    exact wpAny_pure hq
  | none =>
    rw [hf] at hq
    show wpAny _ _ (Builtin.Dict.pendingKey? d u >>= _) _ _ _
    exact wpAny_bind (wpAny_pendingKey_other D.ne (wpAny_pure hq))
theorem in_at {Q : Value → Shared → Prop} (hu : A.units + 9 < cLine) (hk : KeyIs s.heap k u) (D : DAt s.heap d es) (t : Tab w s.heap ks es) (hn : ks.Nodup) (h : ∀ tk, Q (.bool (spotN ks k).isSome) { s with toks := tk }) :
    wpAny (model prog w) A (compareOp .In u (.ref d)) Q E s := by
  show wpAny _ _ (do return .bool (← contains (.ref d) u)) Q E s
  exact wpAny_bind (has_at hu hk D t hn fun tk => wpAny_pure (h tk))
theorem notin_at {Q : Value → Shared → Prop} (hu : A.units + 9 < cLine) (hk : KeyIs s.heap k u) (D : DAt s.heap d es) (t : Tab w s.heap ks es) (hn : ks.Nodup) (h : ∀ tk, Q (.bool (!(spotN ks k).isSome)) { s with toks := tk }) :
    wpAny (model prog w) A (compareOp .NotIn u (.ref d)) Q E s := by
  show wpAny _ _ (do return .bool (!(← contains (.ref d) u))) Q E s
  exact wpAny_bind (has_at hu hk D t hn fun tk => wpAny_pure (h tk))
/-- d[k] -/
theorem item_at {v : Value} {Q : Value → Shared → Prop} (hu : A.units + 9 < cLine) (hk : KeyIs s.heap k u) (D : DAt s.heap d es) (t : Tab w s.heap ks es) (hn : ks.Nodup) (hv : valE es (spotN ks k) = some v) (h : ∀ tk, Q v { s with toks := tk }) :
    wpAny (model prog w) A (getItem (.ref d) u) Q E s := by
  unfold getItem
  try with_reducible refine wpAny_holding ?_
  refine wpAny_bind (wpAny_sequenceKey D.typeIs (by decide) ?_)
  refine wpAny_bind (wpAny_callSpecial?_slot (name := Str.ofString "__getitem__") D.typeIs slot_dict_getitem (wpAny_call_entry slot_dict_getitem D.typeIs entry_dict_getitem ?_ (args_dict_getitem _ _)))
  show wpAny _ _ (dictGet d u >>= _) _ _ s
  refine wpAny_bind (get_at (by simp only [Around.in1_units]; omega) hk D t hn fun tk => ?_)
  rw [hv]
  exact wpAny_pure ⟨v, rfl, wpAny_pure (h tk)⟩
/-- d[k] = v -/
theorem put_at {v : Value} {Q : Unit → Shared → Prop} (hu : A.units + 9 < cLine) (hk : KeyIs s.heap k u) (D : DAt s.heap d es) (t : Tab w s.heap ks es) (hn : ks.Nodup) (hz : es.length ≤ sizeLine)
    (h : ∀ h' tk, DAt h' d (setE w es k u v (spotN ks k)) → Heap.SameBut d s.heap h' → Q () { s with heap := h', toks := tk }) : wpAny (model prog w) A (setItem (.ref d) u v) Q E s := by
  unfold setItem
  try with_reducible refine wpAny_holding ?_
  refine wpAny_bind (wpAny_sequenceKey D.typeIs (by decide) ?_)
  refine wpAny_bind (wpAny_callSpecial?_slot (name := Str.ofString "__setitem__") D.typeIs slot_dict_setitem (wpAny_call_entry slot_dict_setitem D.typeIs entry_dict_setitem ?_ (args_dict_setitem _ _ _)))
  show wpAny _ _ (Builtin.Dict.notOrdered "__setitem__" ⟨[.ref d, u, v], []⟩ >>= _) _ _ s
  refine wpAny_bind (wpAny_notOrdered_dict D.typeIs ?_)
  show wpAny _ _ (dictSet d u v >>= _) _ _ s
  exact wpAny_bind (set_at (by simp only [Around.in1_units]; omega) hk D t hn hz fun h' tk h1 h2 => wpAny_pure ⟨.none, rfl, wpAny_pure (h h' tk h1 h2)⟩)
/-- d.get(k), d.get(k, x) -/
theorem getd_at {xs : List Value} {Q : Value → Shared → Prop} (hu : A.units + 9 < cLine) (hk : KeyIs s.heap k u) (D : DAt s.heap d es) (t : Tab w s.heap ks es) (hn : ks.Nodup) (hx : xs = [] ∨ ∃ x, xs = [x]) (h : ∀ tk, Q ((valE es (spotN ks k)).getD (xs.headD .none)) { s with toks := tk }) :
    wpAny (model prog w) A (call (.builtin "dict.get") (.ref d :: u :: xs)) Q E s := by
  rcases hx with rfl | ⟨x, rfl⟩
  · refine call_meetsIn F.slot_dict_get D.typeIs F.entry_dict_get (F.args_dict_get_2 _ _) (S := fun A' R s' => A' = A ∧ s' = s ∧ ∀ tk, R (.ok (.ret ((valE es (spotN ks k)).getD .none))) { s with toks := tk }) (.of_wp fun A' R s' hS => ?_) ⟨rfl, rfl, h⟩
    obtain ⟨rfl, rfl, hq⟩ := hS
    show wpAny _ _ (dictGet d u >>= _) _ _ s'
    refine wpAny_bind (get_at (by simp only [Around.in1_units]; omega) hk D t hn fun tk => ?_)
    have hq := hq tk
    cases hf : valE es (spotN ks k) with
    | some v =>
      rw [hf] at hq
      exact wpAny_pure ⟨v, rfl, hq⟩
    | none =>
      rw [hf] at hq
      show wpAny _ _ (Builtin.Dict.missed d u >>= _) _ _ _
      exact wpAny_bind (wpAny_missed_other D.ne (wpAny_pure ⟨.none, rfl, hq⟩))
  · refine call_meetsIn F.slot_dict_get D.typeIs F.entry_dict_get (F.args_dict_get_3 _ _ _) (S := fun A' R s' => A' = A ∧ s' = s ∧ ∀ tk, R (.ok (.ret ((valE es (spotN ks k)).getD x))) { s with toks := tk }) (.of_wp fun A' R s' hS => ?_) ⟨rfl, rfl, h⟩
    obtain ⟨rfl, rfl, hq⟩ := hS
    show wpAny _ _ (dictGet d u >>= _) _ _ s'
    refine wpAny_bind (get_at (by simp only [Around.in1_units]; omega) hk D t hn fun tk => ?_)
    have hq := hq tk
    cases hf : valE es (spotN ks k) with
    | some v =>
      rw [hf] at hq
      exact wpAny_pure ⟨v, rfl, hq⟩
    | none =>
      rw [hf] at hq
      show wpAny _ _ (Builtin.Dict.missed d u >>= _) _ _ _
      exact wpAny_bind (wpAny_missed_other D.ne (wpAny_pure ⟨x, rfl, hq⟩))
end
end Cl

/-! dicts with keys of any kind, by data -/
namespace Cl
open PySem PySem.Spec PyProof.Rows L2

/-! ### what a dict holds -/
abbrev GKV := List (PyData × PyData)
def sameK (a b : PyData) : Bool := decide (nkey a = nkey b)
def hashK (d : PyData) : Bool := match nkey d with
  | some k => decide (k.depth ≤ 8)
  | none => false
def getG : GKV → PyData → Option PyData
  | [], _ => none
  | (x, y) :: r, d => if sameK x d = true then some y else getG r d
def putG : GKV → PyData → PyData → GKV
  | [], d, e => [(d, e)]
  | (x, y) :: r, d, e => if sameK x d = true then (x, e) :: r else (x, y) :: putG r d e
def delG : GKV → PyData → GKV
  | [], _ => []
  | (x, y) :: r, d => if sameK x d = true then r else (x, y) :: delG r d
theorem hashK_of {d : PyData} (h : hashK d = true) : ∃ k, nkey d = some k ∧ k.depth ≤ 8 := by
  unfold hashK at h
  cases e : nkey d with
  | none => rw [e] at h; cases h
  | some k => rw [e] at h; exact ⟨k, rfl, of_decide_eq_true h⟩
theorem nkeys_cons {d : PyData} {ds : List PyData} {ks : List NestedKey} (e : nkeys (d :: ds) = some ks) : ∃ k ks', nkey d = some k ∧ nkeys ds = some ks' ∧ ks = k :: ks' := by
  rw [nkeys] at e
  cases h1 : nkey d with
  | none => rw [h1] at e; cases e
  | some k =>
    cases h2 : nkeys ds with
    | none => rw [h1, h2] at e; cases e
    | some ks' => rw [h1, h2] at e; cases e; exact ⟨k, ks', rfl, rfl, rfl⟩
theorem nkeys_mk {d : PyData} {ds : List PyData} {k : NestedKey} {ks : List NestedKey} (h1 : nkey d = some k) (h2 : nkeys ds = some ks) : nkeys (d :: ds) = some (k :: ks) := by
  rw [nkeys, h1, h2]
theorem sameK_iff {a b : PyData} {x y : NestedKey} (h1 : nkey a = some x) (h2 : nkey b = some y) : sameK a b = decide (x = y) := by
  unfold sameK
  rw [h1, h2]
  by_cases h : x = y
  · subst h; simp
  · rw [decide_eq_false h, decide_eq_false fun z => h (Option.some.inj z)]
/-! ### data as keys of the heap -/
section
variable {X : Cx} {pins : List (Addr × Obj)} {σ : L2.St} {H : Hp} {s : Shared} {fz : Addr → Prop}
mutual
theorem Rp.nested (I : L2.Inv X pins σ H s) : ∀ (d : PyData) (v : V) (u : Value) (k : NestedKey), Rp X.kw H fz d v → RelV v u → nkey d = some k → NestedIs s.heap k u
  | .none, _, _, k, h, r, e => by cases h; cases r; cases e; exact .none
  | .bool b, _, _, k, h, r, e => by cases h; cases r; cases e; exact .bool rfl
  | .int i, _, _, k, h, r, e => by cases h; obtain ⟨t, rfl⟩ := r; cases e; exact .int _ _
  | .str x, _, _, k, h, r, e => by cases h; obtain ⟨t, rfl⟩ := r; cases e; exact .text _ _
  | .list ds, _, _, k, h, r, e => by rw [nkey] at e; cases e
  | .dict ds, _, _, k, h, r, e => by rw [nkey] at e; cases e
  | .tuple ds, _, _, k, h, r, e => by
    rw [nkey, Option.map_eq_some_iff] at e
    obtain ⟨ks, e1, rfl⟩ := e
    cases h with
    | tup hq ra =>
      cases r
      obtain ⟨its, rv, ⟨o, ho, hc, n, hd⟩, _⟩ := I.tuple (SqT.of hq)
      exact .tup ho hc hd (by simpa using Rp.nestedAll I ds _ its ks ra rv e1)
theorem Rp.nestedAll (I : L2.Inv X pins σ H s) : ∀ (ds : List PyData) (vs : List V) (us : List Value) (ks : List NestedKey), RpAll X.kw H fz ds vs → Vals vs us → nkeys ds = some ks → NestedAll s.heap ks us
  | [], _, _, ks, h, r, e => by cases h; cases r; rw [nkeys] at e; cases e; exact .nil
  | d :: ds, _, _, ks, h, r, e => by
    obtain ⟨k, ks', e1, e2, rfl⟩ := nkeys_cons e
    cases h with
    | cons h1 h2 =>
      cases r with
      | cons r1 r2 => exact .cons (Rp.nested I d _ _ k h1 r1 e1) (Rp.nestedAll I ds _ _ ks' h2 r2 e2)
end
theorem RB.keyIs (I : L2.Inv X pins σ H s) {d : PyData} {v : V} {u : Value} {k : NestedKey} (h : RB X.kw H fz d v) (r : RelV v u) (e : nkey d = some k) (hk : k.depth ≤ 8) : KeyIs s.heap k u := by
  refine ⟨?_, hk⟩
  cases d with
  | list ds => rw [nkey] at e; cases e
  | dict ds => rw [nkey] at e; cases e
  | none => exact Rp.nested I _ _ _ _ h r e
  | bool b => exact Rp.nested I _ _ _ _ h r e
  | int b => exact Rp.nested I _ _ _ _ h r e
  | str b => exact Rp.nested I _ _ _ _ h r e
  | tuple b => exact Rp.nested I _ _ _ _ h r e
theorem tab_of (I : L2.Inv X pins σ H s) : ∀ {ds : List PyData} {ks : List V} {es : List DictEntry} {nks : List NestedKey}, RpAll X.kw H fz ds ks → Vals ks (es.map (·.key)) → nkeys ds = some nks → (∀ k ∈ nks, k.depth ≤ 8) →
    es.map (·.hash) = nks.map (NestedKey.hash X.w) → Tab X.w s.heap nks es
  | [], _, es, nks, .nil, k1, e, _, _ => by
    rw [nkeys] at e; cases e
    cases es with
    | nil => exact .nil
    | cons _ _ => cases k1
  | d :: ds, _, es, nks, .cons r t, k1, e, hd, hh => by
    obtain ⟨k, ks', e1, e2, rfl⟩ := nkeys_cons e
    cases es with
    | nil => cases k1
    | cons e0 es =>
      cases k1 with
      | cons q1 q2 =>
        rw [List.map_cons, List.map_cons, List.cons.injEq] at hh
        exact .cons ⟨⟨Rp.nested I d _ _ k r q1 e1, hd k List.mem_cons_self⟩, hh.1⟩ (tab_of I t q2 e2 (fun k hk => hd k (List.mem_cons_of_mem _ hk)) hh.2)
end
theorem spotN_cons (n : NestedKey) (ns : List NestedKey) (k : NestedKey) : spotN (n :: ns) k = if n = k then some 0 else (spotN ns k).map (· + 1) := by
  unfold spotN
  rw [List.findIdx?_cons]
  by_cases h : n = k
  · subst h; simp
  · simp [h]
section
variable {K : KW} {H : Hp} {fz : Addr → Prop}
theorem getG_at : ∀ {kvs : GKV} {vs : List V} {es : List DictEntry} {nks : List NestedKey} {d : PyData} {k : NestedKey}, RpAll K H fz (kvs.map (·.2)) vs → Vals vs (es.map (·.val)) → nkeys (kvs.map (·.1)) = some nks → nkey d = some k →
    match getG kvs d with
    | some e => ∃ v u, valE es (spotN nks k) = some u ∧ RelV v u ∧ Rp K H fz e v
    | none => spotN nks k = none
  | [], _, es, nks, d, k, .nil, v1, e1, e2 => by
    rw [List.map_nil, nkeys] at e1; cases e1
    rfl
  | (x, y) :: kvs, _, es, nks, d, k, .cons (v := v) r t, v1, e1, e2 => by
    obtain ⟨n, ns, h1, h2, rfl⟩ := nkeys_cons e1
    cases es with
    | nil => cases v1
    | cons e0 es =>
      cases v1 with
      | cons q1 q2 =>
        have ih := getG_at (d := d) t q2 h2 e2
        rw [getG, sameK_iff h1 e2, spotN_cons]
        by_cases h : n = k
        · rw [decide_eq_true h, if_pos rfl, if_pos h]
          exact ⟨v, e0.val, rfl, q1, r⟩
        · rw [decide_eq_false h, if_neg Bool.false_ne_true, if_neg h]
          cases hg : getG kvs d with
          | none => rw [hg] at ih; rw [ih]; rfl
          | some e =>
            rw [hg] at ih
            obtain ⟨v', u, a1, a2, a3⟩ := ih
            refine ⟨v', u, ?_, a2, a3⟩
            cases hs : spotN ns k with
            | none => rw [hs] at a1; cases a1
            | some j => rw [hs] at a1; exact a1
theorem getG_some_iff {kvs : GKV} {nks : List NestedKey} {d : PyData} {k : NestedKey} (e1 : nkeys (kvs.map (·.1)) = some nks) (e2 : nkey d = some k) : (spotN nks k).isSome = (getG kvs d).isSome := by
  induction kvs generalizing nks with
  | nil => rw [List.map_nil, nkeys] at e1; cases e1; rfl
  | cons p kvs ih =>
    obtain ⟨x, y⟩ := p
    obtain ⟨n, ns, h1, h2, rfl⟩ := nkeys_cons e1
    rw [getG, sameK_iff h1 e2, spotN_cons]
    by_cases h : n = k
    · rw [decide_eq_true h, if_pos rfl, if_pos h]; rfl
    · rw [decide_eq_false h, if_neg Bool.false_ne_true, if_neg h, Option.isSome_map]
      exact ih h2
/-- the entries behind a store -/
theorem putG_at {w : World} : ∀ {kvs : GKV} {ks vs : List V} {es : List DictEntry} {nks : List NestedKey} {d e : PyData} {k : NestedKey} {x v : V} {u z : Value}, RpAll K H fz (kvs.map (·.1)) ks → RpAll K H fz (kvs.map (·.2)) vs → Vals ks (es.map (·.key)) → Vals vs (es.map (·.val)) →
    nkeys (kvs.map (·.1)) = some nks → nkey d = some k → es.map (·.hash) = nks.map (NestedKey.hash w) → Rp K H fz d x → Rp K H fz e v → RelV x u → RelV v z →
    ∃ ks' vs' nks', RpAll K H fz ((putG kvs d e).map (·.1)) ks' ∧ RpAll K H fz ((putG kvs d e).map (·.2)) vs' ∧ Vals ks' ((setE w es k u z (spotN nks k)).map (·.key)) ∧ Vals vs' ((setE w es k u z (spotN nks k)).map (·.val)) ∧
      nkeys ((putG kvs d e).map (·.1)) = some nks' ∧ (setE w es k u z (spotN nks k)).map (·.hash) = nks'.map (NestedKey.hash w) ∧ (∀ y, y ∈ nks' ↔ y ∈ nks ∨ y = k) ∧ (nks.Nodup → nks'.Nodup)
  | [], _, _, es, nks, d, e, k, x, v, u, z, .nil, .nil, k1, v1, e1, e2, hh, rx, rv, ru, rz => by
    rw [List.map_nil, nkeys] at e1; cases e1
    cases es with
    | cons _ _ => cases k1
    | nil => exact ⟨[x], [v], [k], .cons rx .nil, .cons rv .nil, .cons ru .nil, .cons rz .nil, nkeys_mk e2 (show nkeys [] = some [] by rw [nkeys]), rfl, fun y => by simp, fun _ => by simp⟩
  | (p, q) :: kvs, _, _, es, nks, d, e, k, x, v, u, z, .cons (v := kp) (vs := kps) rk tk, .cons (v := vp) (vs := vps) rq tq, k1, v1, e1, e2, hh, rx, rv, ru, rz => by
    obtain ⟨n, ns, h1, h2, rfl⟩ := nkeys_cons e1
    cases es with
    | nil => cases k1
    | cons e0 es =>
      cases k1 with
      | cons q1 q2 =>
        cases v1 with
        | cons p1 p2 =>
          rw [List.map_cons, List.map_cons, List.cons.injEq] at hh
          rw [putG, sameK_iff h1 e2, spotN_cons]
          by_cases h : n = k
          · rw [decide_eq_true h, if_pos rfl, if_pos h]
            refine ⟨kp :: kps, v :: vps, n :: ns, .cons rk tk, .cons rv tq, .cons q1 q2, .cons rz p2, nkeys_mk h1 h2, ?_, fun y => ?_, id⟩
            · show e0.hash :: es.map (·.hash) = _
              rw [hh.1, hh.2]; rfl
            · subst h; exact ⟨.inl, fun z => z.elim id fun e => by rw [e]; exact List.mem_cons_self⟩
          · rw [decide_eq_false h, if_neg Bool.false_ne_true, if_neg h]
            obtain ⟨ks', vs', nks', a1, a2, a3, a4, a5, a6, a7, a8⟩ := putG_at tk tq q2 p2 h2 e2 hh.2 rx rv ru rz
            have es_ : setE w (e0 :: es) k u z ((spotN ns k).map (· + 1)) = e0 :: setE w es k u z (spotN ns k) := by
              cases spotN ns k with
              | none => rfl
              | some j => rfl
            rw [es_]
            refine ⟨kp :: ks', vp :: vs', n :: nks', .cons rk a1, .cons rq a2, .cons q1 a3, .cons p1 a4, nkeys_mk h1 a5, ?_, fun y => ?_, fun hn => ?_⟩
            · show e0.hash :: _ = _
              rw [hh.1, a6]; rfl
            · rw [List.mem_cons, a7, List.mem_cons]
              constructor
              · rintro (z | z | z)
                · exact .inl (.inl z)
                · exact .inl (.inr z)
                · exact .inr z
              · rintro ((z | z) | z)
                · exact .inl z
                · exact .inr (.inl z)
                · exact .inr (.inr z)
            · rw [List.nodup_cons] at hn ⊢
              refine ⟨fun hm => ?_, a8 hn.2⟩
              rcases (a7 n).mp hm with z | z
              · exact hn.1 z
              · exact h z
end
end Cl

/-! rules for dicts with keys of any kind -/
namespace Cl
open PySem PySem.Spec PyProof.Rows L2

/-! ### what holds of a dict at every state -/
def KeyV (X : Cx) (H : Hp) (y : V) (k : NestedKey) : Prop := ∀ (pins : List (Addr × Obj)) (σ : L2.St) (s : Shared) (u : Value), L2.Inv X pins σ H s → RelV y u → KeyIs s.heap k u
def GTab (X : Cx) (H : Hp) (nks : List NestedKey) (es : List DictEntry) : Prop := ∀ (pins : List (Addr × Obj)) (σ : L2.St) (s : Shared), L2.Inv X pins σ H s → Tab X.w s.heap nks es
section
variable {X : Cx} {H : Hp} {fz : Addr → Prop}
theorem RB.keyV {d : PyData} {v : V} {k : NestedKey} (h : RB X.kw H fz d v) (e : nkey d = some k) (hk : k.depth ≤ 8) : KeyV X H v k := fun _ _ _ _ I r => RB.keyIs I h r e hk
theorem gtab {ds : List PyData} {ks : List V} {es : List DictEntry} {nks : List NestedKey} (r : RpAll X.kw H fz ds ks) (k1 : Vals ks (es.map (·.key))) (e : nkeys ds = some nks) (hd : ∀ k ∈ nks, k.depth ≤ 8)
    (hh : es.map (·.hash) = nks.map (NestedKey.hash X.w)) : GTab X H nks es := fun _ _ _ I => tab_of I r k1 e hd hh
theorem DAt.of {pins : List (Addr × Obj)} {σ : L2.St} {s : Shared} {a : Addr} {ep : Nat} {es : List DictEntry} (I : L2.Inv X pins σ H s) (e : H a = some (.ext (DictHas a ep es))) : DAt s.heap a es := ⟨ep, (I.hok a _ e).1⟩
end

/-! ### d[k], k in d, d.get -/
def ixG : OpX := fun x y Q => match x with
  | .dict kvs => hashK y = true ∧ ∃ d, getG kvs y = some d ∧ Q (.dat d)
  | _ => ixX x y Q
def inY : OpX := fun x y Q => match y with
  | .dict kvs => hashK x = true ∧ Q (.dat (.bool (getG kvs x).isSome))
  | _ => inX x y Q
def notinY : OpX := fun x y Q => match y with
  | .dict kvs => hashK x = true ∧ Q (.dat (.bool (!(getG kvs x).isSome)))
  | _ => notinX x y Q
def lenY : C1X := fun d Q => match d with
  | .dict kvs => kvs.length ≤ sizeLine ∧ Q (.dat (.int kvs.length))
  | _ => lenX d Q
section
variable {X : Cx}
theorem ix_G (hu : X.A.units + 64 < cLine) : IxR X (rO X.kw ixG) := by
  rintro value slice pins s σ H x y v u Q I rx ry ⟨fz, d, e, hd, he, Q', q, k⟩ hs
  cases d with
  | dict kvs =>
    obtain ⟨hk, r, hg, q⟩ := q
    obtain ⟨nk, e1, e2⟩ := hashK_of hk
    obtain ⟨a, ep, es, ks, vs, rfl, hq, k1, v1, r1, r2, nks, n1, n2, n3, n4⟩ := hd
    cases rx
    have z := getG_at r2 v1 n1 e1
    rw [hg] at z
    obtain ⟨rv, ru, z1, z2, z3⟩ := z
    have D := DAt.of I hq
    refine subscriptTail_builtinR (x := ru) D.typeIs slot_dict_getitem.lookup ?_ hs
    exact item_at (by omega) (RB.keyIs I he ry e1 e2) D (gtab r1 k1 n1 n3 n4 _ _ _ I) n2 z1 fun tk => ⟨rfl, rv, H, I.tok tk, z2, k _ _ _ q (.same z3)⟩
  | _ => exact ix_data value slice pins s σ H x y v u Q I rx ry ⟨fz, _, e, hd, he, Q', q, k⟩ hs
theorem oy_in (hu : X.A.units + 64 < cLine) : OpR X (compareOp .In) (rO X.kw inY) := by
  rintro pins s σ H x y v u Q I rx ry ⟨fz, d, e, hd, he, Q', q, k⟩
  cases e with
  | dict kvs =>
    obtain ⟨hk, q⟩ := q
    obtain ⟨nk, e1, e2⟩ := hashK_of hk
    obtain ⟨a, ep, es, ks, vs, rfl, hq, k1, v1, r1, r2, nks, n1, n2, n3, n4⟩ := he
    cases ry
    refine in_at (by omega) (RB.keyIs I hd rx e1 e2) (DAt.of I hq) (gtab r1 k1 n1 n3 n4 _ _ _ I) n2 fun tk => ⟨.bl _, H, I.tok tk, rfl, ?_⟩
    rw [getG_some_iff n1 e1]
    exact k _ _ _ q (.same (.bl _))
  | _ => exact ox_in hu pins s σ H x y v u Q I rx ry ⟨fz, d, _, hd, he, Q', q, k⟩
theorem oy_notin (hu : X.A.units + 64 < cLine) : OpR X (compareOp .NotIn) (rO X.kw notinY) := by
  rintro pins s σ H x y v u Q I rx ry ⟨fz, d, e, hd, he, Q', q, k⟩
  cases e with
  | dict kvs =>
    obtain ⟨hk, q⟩ := q
    obtain ⟨nk, e1, e2⟩ := hashK_of hk
    obtain ⟨a, ep, es, ks, vs, rfl, hq, k1, v1, r1, r2, nks, n1, n2, n3, n4⟩ := he
    cases ry
    refine notin_at (by omega) (RB.keyIs I hd rx e1 e2) (DAt.of I hq) (gtab r1 k1 n1 n3 n4 _ _ _ I) n2 fun tk => ⟨.bl _, H, I.tok tk, rfl, ?_⟩
    rw [getG_some_iff n1 e1]
    exact k _ _ _ q (.same (.bl _))
  | _ => exact ox_notin hu pins s σ H x y v u Q I rx ry ⟨fz, d, _, hd, he, Q', q, k⟩
variable {ZP : ZT} {a b : Expr} {pos : Pos} {ta tb : TLD}
theorem de_ixG (hu : X.A.units + 64 < cLine) (ha : DL X ZP a ta) (hb : DL X ZP b tb) (hs : PlainIx b := by exact fun _ _ => rfl) : DE X ZP (.Subscript a b pos) (t_op ixG ta tb) :=
  ⟨PE.imp (pe_ix (ix_G hu) ha.pe hb.pe hs) fun σ H Q h => op_core h⟩
theorem c_lenY : CallR X (.builtin "len") (rC1 X.kw lenY) := by
  rintro pins s σ H xs us Q I r ⟨x, fz, d, rfl, hd, Q', q, k⟩
  cases d with
  | dict kvs =>
    obtain ⟨hz, q⟩ := q
    obtain ⟨a, ep, es, ks, vs, rfl, hq, k1, v1, r1, r2, hh⟩ := hd
    obtain ⟨u, rfl, ru⟩ := vals1 r
    cases ru
    have D := DAt.of I hq
    obtain ⟨ep, _, o, ho, hex, hdd⟩ := id D
    have hl : kvs.length = es.length := by
      have h1 := r1.length
      have h2 := k1.length
      simp only [List.length_map] at h1 h2
      omega
    refine PyProof.Rows.call_len_slot (n := kvs.length) D.typeIs F.slot_dict_len (fun Q'' hq => call_len_raw D.ne ⟨o, ho, hex, hdd⟩ (by rw [show es.toArray.size = kvs.length by simp [hl]]; exact hq)) (by omega) (by rw [sizeLine_eq] at hz; omega) ?_
    exact ⟨.int _, H, I.tok _, ⟨_, rfl⟩, k _ _ _ q (.same (.int _))⟩
  | _ => exact c_len pins s σ H _ us Q I r ⟨x, fz, _, rfl, hd, Q', q, k⟩
end
end Cl

/-! d.get(k), d[k] = v, {k: v, ..}, for k in d -/
namespace Cl
open PySem PySem.Spec PyProof.Rows L2

theorem Frm.skip {w : Addr → Prop} {g g2 : GW} {H H2 H3 : Hp} {p : Addr} {o : HO} (hp : H p = none) (f : Frm w g (upd H p o) g2 H2) (f2 : Frm (fun a => a = p) g2 H2 g2 H3) : Frm w g H g2 H3 := by
  have up : ∀ {a : Addr} {u : HO}, H a = some u → upd H p o a = some u := fun {a u} e => by rw [upd_ne (ne_of_none e hp)]; exact e
  refine ⟨fun a u e z n => f2.keep a u (f.keep a u (up e) z n) (f.zsn a u (up e) z) (ne_of_none e hp), f.fzm, f.zsm, fun a u e n h => f.fzn a u (up e) n h, fun a u e z => f.zsn a u (up e) z, fun a xs h => f2.tups a xs (f.tups a xs (up h)), fun a u e => ?_⟩
  obtain ⟨u', e'⟩ := f.any a u (up e)
  exact f2.any a u' e'

section
variable {X : Cx} {ZP : ZT} {o e f : Expr} {apos cpos pos pos' : Pos} {to : TLD} {tk tx : TVD}
def t_gget1 (to : TLD) (tk : TVD) : TVD := fun cs Q => to cs fun l cs1 => (∃ kvs, l.get cs1 = some (.dict kvs)) ∧ tk cs1 fun k cs2 => ∃ kvs, l.get cs2 = some (.dict kvs) ∧ hashK k = true ∧ Q ((getG kvs k).getD .none) cs2
def t_gget2 (to : TLD) (tk tx : TVD) : TVD := fun cs Q => to cs fun l cs1 => (∃ kvs, l.get cs1 = some (.dict kvs)) ∧ tk cs1 fun k cs2 => tx cs2 fun d cs3 => ∃ kvs, l.get cs3 = some (.dict kvs) ∧ hashK k = true ∧ Q ((getG kvs k).getD d) cs3
theorem gget_fin {pins : List (Addr × Obj)} {σ : L2.St} {H : Hp} {s : Shared} {a : Addr} {y z : V} {u : Value} {fz : Addr → Prop} {kvs : GKV} {k d : PyData} {xs : List Value} {Q : V → Hp → Prop} (hu : X.A.units + 64 < cLine) (I : L2.Inv X pins σ H s)
    (hd : RB X.kw H fz (.dict kvs) (.ref a)) (rk : Rp X.kw H fz k y) (hk : hashK k = true) (ry : RelV y u) (rd : Rp X.kw H fz d z) (rz : RelV z (xs.headD .none)) (hx : xs = [] ∨ ∃ x, xs = [x])
    (q : ∀ v, Rp X.kw H fz ((getG kvs k).getD d) v → Q v H) : wpAny (model X.prog X.w) X.A (call (.builtin "dict.get") (.ref a :: u :: xs)) (EP X pins σ Q) X.xe s := by
  obtain ⟨nk, e1, e2⟩ := hashK_of hk
  obtain ⟨b, ep, es, ks, vs, e, hq, k1, v1, r1, r2, nks, n1, n2, n3, n4⟩ := hd
  cases e
  refine getd_at (by omega) (RB.keyIs I rk.rb ry e1 e2) (DAt.of I hq) (gtab r1 k1 n1 n3 n4 _ _ _ I) n2 hx fun tk => ?_
  have w := getG_at r2 v1 n1 e1
  cases hg : getG kvs k with
  | none =>
    rw [hg] at w q
    rw [w]
    exact ⟨z, H, I.tok tk, rz, q z rd⟩
  | some c =>
    rw [hg] at w q
    obtain ⟨v, r, w1, w2, w3⟩ := w
    rw [w1]
    exact ⟨v, H, I.tok tk, w2, q v w3⟩
theorem ty_dict {pins : List (Addr × Obj)} {σ : L2.St} {H : Hp} {s : Shared} {v : V} {u : Value} {fz : Addr → Prop} {kvs : GKV} (I : L2.Inv X pins σ H s) (hd : RB X.kw H fz (.dict kvs) v) (r : RelV v u) :
    ∃ a, v = .ref a ∧ u = .ref a ∧ s.TypeIs (.ref a) "dict" ∧ ∀ b, Value.ref a = .ref b → ∃ ob, s.heap.get? b = some ob ∧ ob.dict = none := by
  obtain ⟨a, ep, es, ks, vs, rfl, hq, _⟩ := hd
  cases r
  have D := DAt.of I hq
  exact ⟨a, rfl, rfl, D.typeIs, D.bare⟩
theorem dv_gget1 (hu : X.A.units + 64 < cLine) (ho : DL X ZP o to) (h : DV X ZP e tk) (m : M1 X o "get" apos e cpos := by exact ⟨rfl, rfl, rfl, rfl⟩) : DV X ZP (.Call (.Attribute o "get" apos) [e] [] cpos) (t_gget1 to tk) := by
  refine ⟨⟨fun pins s σ H Q I h0 => ?_⟩⟩
  obtain ⟨B, cs, g, R, Q', q, k⟩ := h0
  refine wpAny_Call_method m.base m.few m.line PySem.F.plainAttrs_dict PySem.F.slot_dict_get PySem.F.type_dict_get (thn (ho.pe.run pins s σ H (fun v H1 => ∃ l cs1 g1, (∃ kvs, l.get cs1 = some (.dict kvs)) ∧
      (tk cs1 fun k cs2 => ∃ kvs, l.get cs2 = some (.dict kvs) ∧ hashK k = true ∧ Q' ((getG kvs k).getD .none) cs2) ∧ Rel X.kw ZP B g1 H1 cs1 σ ∧ LOk X.kw g1 H1 σ l v ∧ (∀ a, ow cs1 σ a → ow cs σ a) ∧ Frm (ow cs σ) g H g1 H1) I
      ⟨B, cs, g, R, _, q, fun l cs1 v g1 H1 q1 R1 r1 s1 f1 => ⟨l, cs1, g1, q1.1, q1.2, R1, r1, s1, f1⟩⟩) fun u s1 ⟨x, H1, I1, rx, l, cs1, g1, ⟨kvs0, e0⟩, q1, R1, r1, z1, f1⟩ => ?_)
  obtain ⟨a, rfl, rfl, t1, t2⟩ := ty_dict I1 (r1.rb R1 e0) rx
  refine ⟨t1, t2, ?_⟩
  rw [m.trees]
  refine Calls.callWith_builtin rfl (Calls.evalArgs_plain (Calls.spliced_cons (thn (h.pe.run pins s1 σ H1 (fun y H2 => ∃ kd cs2 g2, (∃ kvs, l.get cs2 = some (.dict kvs) ∧ hashK kd = true ∧ Q' ((getG kvs kd).getD .none) cs2) ∧ Rel X.kw ZP B g2 H2 cs2 σ ∧ Rp X.kw H2 g2.fz kd y ∧
      (∀ a, ow cs2 σ a → ow cs1 σ a) ∧ Frm (ow cs1 σ) g1 H1 g2 H2) I1 ⟨B, cs1, g1, R1, _, q1, fun kd cs2 y g2 H2 q2 R2 r2 s2 f2 => ⟨kd, cs2, g2, q2, R2, r2, s2, f2⟩⟩)
      fun iv s2 ⟨y, H2, I2, ry, kd, cs2, g2, ⟨kvs, e2, hk, q2⟩, R2, r2, z2, f2⟩ => Calls.spliced_nil ?_)))
  refine gget_fin (z := .non) (d := .none) hu I2 ((r1.frm R1 f2).rb R2 e2) r2 hk ry .non rfl (.inl rfl) fun v rv => ?_
  exact k _ cs2 v g2 H2 q2 R2 rv (fun a h => z1 a (z2 a h)) (f1.trans (f2.mono fun a _ _ h => z1 a h))
theorem dv_gget2 (hu : X.A.units + 64 < cLine) (ho : DL X ZP o to) (h : DV X ZP e tk) (h' : DV X ZP f tx) (m : M2 X o "get" apos e f cpos := by exact ⟨rfl, rfl, rfl, rfl⟩) : DV X ZP (.Call (.Attribute o "get" apos) [e, f] [] cpos) (t_gget2 to tk tx) := by
  refine ⟨⟨fun pins s σ H Q I h0 => ?_⟩⟩
  obtain ⟨B, cs, g, R, Q', q, k⟩ := h0
  refine wpAny_Call_method m.base m.few m.line PySem.F.plainAttrs_dict PySem.F.slot_dict_get PySem.F.type_dict_get (thn (ho.pe.run pins s σ H (fun v H1 => ∃ l cs1 g1, (∃ kvs, l.get cs1 = some (.dict kvs)) ∧
      (tk cs1 fun k cs2 => tx cs2 fun d cs3 => ∃ kvs, l.get cs3 = some (.dict kvs) ∧ hashK k = true ∧ Q' ((getG kvs k).getD d) cs3) ∧ Rel X.kw ZP B g1 H1 cs1 σ ∧ LOk X.kw g1 H1 σ l v ∧ (∀ a, ow cs1 σ a → ow cs σ a) ∧ Frm (ow cs σ) g H g1 H1) I
      ⟨B, cs, g, R, _, q, fun l cs1 v g1 H1 q1 R1 r1 s1 f1 => ⟨l, cs1, g1, q1.1, q1.2, R1, r1, s1, f1⟩⟩) fun u s1 ⟨x, H1, I1, rx, l, cs1, g1, ⟨kvs0, e0⟩, q1, R1, r1, z1, f1⟩ => ?_)
  obtain ⟨a, rfl, rfl, t1, t2⟩ := ty_dict I1 (r1.rb R1 e0) rx
  refine ⟨t1, t2, ?_⟩
  rw [m.trees]
  refine Calls.callWith_builtin rfl (Calls.evalArgs_plain (Calls.spliced_cons (thn (h.pe.run pins s1 σ H1 (fun y H2 => ∃ kd cs2 g2, (tx cs2 fun d cs3 => ∃ kvs, l.get cs3 = some (.dict kvs) ∧ hashK kd = true ∧ Q' ((getG kvs kd).getD d) cs3) ∧ Rel X.kw ZP B g2 H2 cs2 σ ∧ Rp X.kw H2 g2.fz kd y ∧
      (∀ a, ow cs2 σ a → ow cs1 σ a) ∧ Frm (ow cs1 σ) g1 H1 g2 H2) I1 ⟨B, cs1, g1, R1, _, q1, fun kd cs2 y g2 H2 q2 R2 r2 s2 f2 => ⟨kd, cs2, g2, q2, R2, r2, s2, f2⟩⟩)
      fun iv s2 ⟨y, H2, I2, ry, kd, cs2, g2, q2, R2, r2, z2, f2⟩ => Calls.spliced_cons (thn (h'.pe.run pins s2 σ H2 (fun z H3 => ∃ d cs3 g3, (∃ kvs, l.get cs3 = some (.dict kvs) ∧ hashK kd = true ∧ Q' ((getG kvs kd).getD d) cs3) ∧ Rel X.kw ZP B g3 H3 cs3 σ ∧ Rp X.kw H3 g3.fz d z ∧
      (∀ a, ow cs3 σ a → ow cs2 σ a) ∧ Frm (ow cs2 σ) g2 H2 g3 H3) I2 ⟨B, cs2, g2, R2, _, q2, fun d cs3 z g3 H3 q3 R3 r3 s3 f3 => ⟨d, cs3, g3, q3, R3, r3, s3, f3⟩⟩)
      fun fv s3 ⟨z, H3, I3, rz, d, cs3, g3, ⟨kvs, e3, hk, q3⟩, R3, r3, z3, f3⟩ => Calls.spliced_nil ?_))))
  have rk := Rp.frm f3 R2.fzow r2
  refine gget_fin hu I3 (((r1.frm R1 f2).frm R2 f3).rb R3 e3) rk hk ry r3 rz (.inr ⟨fv, rfl⟩) fun v rv => ?_
  exact k _ cs3 v g3 H3 q3 R3 rv (fun a h => z1 a (z2 a (z3 a h))) ((f1.trans (f2.mono fun a _ _ h => z1 a h)).trans (f3.mono fun a _ _ h => z1 a (z2 a h)))
end
end Cl

namespace Cl
open PySem PySem.Spec PyProof.Rows L2

/-! ### d[k] = v -/
def sGPut (X : Cx) (td ty tv : TE) : TS := fun D σ H => tv σ H fun v H1 => td σ H1 fun x H2 => ty σ H2 fun y H3 => ∃ a ep es nks k, x = .ref a ∧ H3 a = some (.ext (DictHas a ep es)) ∧ GTab X H3 nks es ∧ nks.Nodup ∧ KeyV X H3 y k ∧ es.length ≤ sizeLine ∧
  ∀ u z ep', RelV y u → RelV v z → D.nx σ (upd H3 a (.ext (DictHas a ep' (setE X.w es k u z (spotN nks k)))))
section
variable {X : Cx} {o i value : Expr} {pos pos' : Pos} {td ty tv : TE}
theorem ext_write {pins : List (Addr × Obj)} {σ : L2.St} {H : Hp} {s : Shared} {a : Addr} {ep ep' : Nat} {es es' : List DictEntry} {h' : Heap} {tk : Nat} (I : L2.Inv X pins σ H s) (e : H a = some (.ext (DictHas a ep es))) (D : DictHas a ep' es' h') (sb : Heap.SameBut a s.heap h') :
    L2.Inv X pins σ (upd H a (.ext (DictHas a ep' es'))) { s with heap := h', toks := tk } :=
  I.write (t' := tk) (by rw [e]; exact True.intro) (.inl rfl) (fun b u hb q => sb.extBut b u hb q) (let ⟨_, o, ho, _⟩ := D; ⟨o, ho⟩) (ext_dict D)
theorem ps_gput (hu : X.A.units + 64 < cLine) (ho : PE X o td) (hi : PE X i ty) (hv : PE X value tv) (hs : swapsWith value (some (.Subscript o i pos')) pos.line X.env = pure false) :
    PS X (.Assign [.Subscript o i pos'] value pos) (sGPut X td ty tv) := by
  refine ⟨fun pins s σ H D I h => ?_⟩
  refine wpAny_Assign_Subscript (thn (hv.run pins s σ H _ I h) fun r s1 ⟨v, H1, I1, rv, q1⟩ => thn (ho.run pins s1 σ H1 _ I1 q1) fun u s2 ⟨x, H2, I2, rx, q2⟩ => thn (hi.run pins s2 σ H2 _ I2 q2) fun iv s3 ⟨y, H3, I3, ry, a, ep, es, nks, k, ex, hq, ht, hn, hk, hz, q3⟩ => ?_) hs
  subst ex
  obtain rfl : u = Value.ref a := rx
  exact put_at (by omega) (hk _ _ _ _ I3 ry) (DAt.of I3 hq) (ht _ _ _ I3) hn hz fun h' tk ⟨ep', D'⟩ sb => ⟨σ, _, ext_write I3 hq D' sb, q3 _ _ _ ry rv⟩
end
section
variable {X : Cx} {ZP : ZT} {x : Str} {xpos pos pos' : Pos} {e f : Expr} {tk tx : TVD}
def t_gput (i : Nat) (tk tx : TVD) : TSD := fun D cs => tx cs fun d cs1 => (∃ kvs, cs1[i]? = some (some (.gd kvs))) ∧ tk cs1 fun k cs2 => ∃ kvs, cs2[i]? = some (some (.gd kvs)) ∧ hashK k = true ∧ kvs.length < sizeLine ∧ D.nx (cs2.set i (some (.gd (putG kvs k d))))
theorem put_rs {K : KW} {g : GW} {H : Hp} {a : Addr} {ep ep' : Nat} {es : List DictEntry} {ks vs : List V} {nks : List NestedKey} {kvs : GKV} {kd d : PyData} {y v : V} {u z : Value} {nk : NestedKey} (hq : H a = some (.ext (DictHas a ep es))) (nf : ¬ g.fz a) (nz : g.zs a = none)
    (k1 : Vals ks (es.map (·.key))) (v1 : Vals vs (es.map (·.val))) (r1 : RpAll K H g.fz (kvs.map (·.1)) ks) (r2 : RpAll K H g.fz (kvs.map (·.2)) vs) (n1 : nkeys (kvs.map (·.1)) = some nks) (n2 : nks.Nodup) (n3 : ∀ k ∈ nks, k.depth ≤ 8) (n4 : es.map (·.hash) = nks.map (NestedKey.hash K.w))
    (e1 : nkey kd = some nk) (e2 : nk.depth ≤ 8) (rk : Rp K H g.fz kd y) (rd : Rp K H g.fz d v) (ry : RelV y u) (rv : RelV v z) :
    RS K g (upd H a (.ext (DictHas a ep' (setE K.w es nk u z (spotN nks nk))))) (.gd (putG kvs kd d)) (.ref a) := by
  obtain ⟨ks', vs', nks', a1, a2, a3, a4, a5, a6, a7, a8⟩ := putG_at r1 r2 k1 v1 n1 e1 n4 rk rd ry rv
  have fz : ∀ c, g.fz c → c ≠ a := fun c h z => by subst z; exact nf h
  have tn : ∀ c zs, H c = some (.tup zs) → c ≠ a := fun c zs q z => by subst z; rw [hq] at q; cases q
  have go : ∀ {ds us}, RpAll K H g.fz ds us → RpAll K (upd H a (.ext (DictHas a ep' (setE K.w es nk u z (spotN nks nk))))) g.fz ds us := fun r => RpAll.go (fun _ h => h) (fun c o h e => by rw [upd_ne (fz c h)]; exact e) (fun c zs q => by rw [upd_ne (tn c zs q)]; exact q) r
  refine ⟨a, rfl, nf, nz, ep', _, ks', vs', upd_same, a3, a4, go a1, go a2, nks', a5, a8 n2, fun k hk => ?_, a6⟩
  rcases (a7 k).mp hk with z | z
  · exact n3 k z
  · rw [z]; exact e2
theorem gd_len {K : KW} {H : Hp} {fz : Addr → Prop} {kvs : GKV} {ks : List V} {es : List DictEntry} (r1 : RpAll K H fz (kvs.map (·.1)) ks) (k1 : Vals ks (es.map (·.key))) : kvs.length = es.length := by
  have h1 := r1.length
  have h2 := k1.length
  simp only [List.length_map] at h1 h2
  omega
theorem ds_gput (hu : X.A.units + 64 < cLine) (i : Nat) (h : DV X ZP e tk) (h2 : DV X ZP f tx) (hN : X.N[i]? = some x := by rfl) (hv : Vis X.env.scope x := by first | exact Or.inl rfl | exact Or.inr (Or.inl rfl) | exact Or.inr (Or.inr rfl)) (hd : (x == ("__debug__" : Str)) = false := by decide)
    (hcd : (x == ("__classdict__" : Str)) = false := by decide) (hs : swapsWith f (some (.Subscript (.Name x xpos) e pos')) pos.line X.env = pure false := by rfl) : DS X ZP (.Assign [.Subscript (.Name x xpos) e pos'] f pos) (t_gput i tk tx) := by
  refine ⟨PS.imp (ps_gput hu (pe_var hN hv hd hcd) h.pe h2.pe hs) ?_⟩
  rintro D σ H ⟨B, cs, g, R, D', q, p⟩
  refine ⟨B, cs, g, R, _, q, fun d cs1 w g1 H1 q1 R1 r1 s1 f1 => ?_⟩
  obtain ⟨⟨kvs0, e0⟩, q1⟩ := q1
  obtain ⟨u, e2, _⟩ := R1.slot i _ e0
  refine ⟨u, e2, B, cs1, g1, R1, _, q1, fun kd cs2 y g2 H2 q2 R2 r2 s2 f2 => ?_⟩
  obtain ⟨kvs, e3, hk, hl, q3⟩ := q2
  obtain ⟨nk, h1, h2⟩ := hashK_of hk
  obtain ⟨u', e2', a, rfl, nf, nz, ep, es, ks, vs, hq, k1, v1, p1, p2, nks, n1, n2, n3, n4⟩ := R2.slot i _ e3
  rw [e2] at e2'; cases e2'
  have rd := Rp.frm f2 R1.fzow r1
  refine ⟨a, ep, es, nks, nk, rfl, hq, gtab p1 k1 n1 n3 n4, n2, (RB.keyV r2.rb h1 h2), by rw [← gd_len p1 k1]; omega, fun u z ep' ry rz => ?_⟩
  obtain ⟨R3, f3, s3⟩ := R2.updObj e3 e2 (put_rs (ep' := ep') hq nf nz k1 v1 p1 p2 n1 n2 n3 n4 h1 h2 r2 rd ry rz)
  exact p.nx _ _ g2 _ R3 (((f1.stay R.fzow).trans (f2.stay R1.fzow)).trans (f3.stay R2.fzow)) q3
end

/-! ### {k: v, ..} -/
def putAll : GKV → GKV → GKV
  | acc, [] => acc
  | acc, (k, v) :: r => putAll (putG acc k v) r
abbrev TPD := CS → (GKV → CS → Prop) → Prop
def tPD (K : KW) (ZP : ZT) (t : TPD) : L2.St → Hp → (List (V × V) → Hp → Prop) → Prop := fun σ H Q => ∃ B cs g, Rel K ZP B g H cs σ ∧ ∃ Q', t cs Q' ∧
  ∀ kvs cs' ps g' H', Q' kvs cs' → Rel K ZP B g' H' cs' σ → RpAll K H' g'.fz (kvs.map (·.1)) (ps.map (·.1)) → RpAll K H' g'.fz (kvs.map (·.2)) (ps.map (·.2)) → (∀ a, ow cs' σ a → ow cs σ a) → Frm (ow cs σ) g H g' H' → Q ps H'
structure DPr (X : Cx) (ZP : ZT) (pos : Pos) (keys : List (Option Expr)) (values : List Expr) (t : TPD) : Prop where
  run : ∀ (pins : List (Addr × Obj)) (s : Shared) (σ : L2.St) (H : Hp) (Q : List (V × V) → Hp → Prop), L2.Inv X pins σ H s → tPD X.kw ZP t σ H Q →
    wpAny (model X.prog X.w) X.A (evalPairs (pairTrees keys values X.env pos)) (fun vs s' => ∃ ps H', L2.Inv X pins σ H' s' ∧ VV ps vs ∧ Q ps H') X.xe s
def t_pnil : TPD := fun cs Q => Q [] cs
def t_pcons (tk tv : TVD) (t : TPD) : TPD := fun cs Q => tk cs fun k cs1 => tv cs1 fun v cs2 => t cs2 fun kvs cs3 => Q ((k, v) :: kvs) cs3
def t_disp (t : TPD) : TD := fun cs Q => t cs fun kvs cs1 => (∀ kv ∈ kvs, hashK kv.1 = true) ∧ kvs.length ≤ 15 ∧ Q (.gd (putAll [] kvs)) cs1
section
variable {X : Cx} {ZP : ZT} {pos : Pos} {keys : List (Option Expr)} {values : List Expr} {ke ve : Expr} {tk tv : TVD} {t : TPD}
theorem dp_nil : DPr X ZP pos [] [] t_pnil := ⟨fun pins s σ H Q I ⟨B, cs, g, R, Q', q, k⟩ => pairTrees_nil_walk ⟨[], H, I, .nil, k [] cs [] g H q R .nil .nil (fun _ h => h) .refl⟩⟩
theorem dp_cons (hk : DV X ZP ke tk) (hv : DV X ZP ve tv) (hr : DPr X ZP pos keys values t) : DPr X ZP pos (some ke :: keys) (ve :: values) (t_pcons tk tv t) := by
  refine ⟨fun pins s σ H Q I ⟨B, cs, g, R, Q', q, k⟩ => ?_⟩
  refine pairTrees_cons_walk (thn (hk.pe.run pins s σ H (fun y H1 => ∃ kd cs1 g1, (tv cs1 fun v cs2 => t cs2 fun kvs cs3 => Q' ((kd, v) :: kvs) cs3) ∧ Rel X.kw ZP B g1 H1 cs1 σ ∧ Rp X.kw H1 g1.fz kd y ∧ (∀ a, ow cs1 σ a → ow cs σ a) ∧ Frm (ow cs σ) g H g1 H1) I
    ⟨B, cs, g, R, _, q, fun kd cs1 y g1 H1 q1 R1 r1 s1 f1 => ⟨kd, cs1, g1, q1, R1, r1, s1, f1⟩⟩) fun u s1 ⟨y, H1, I1, ry, kd, cs1, g1, q1, R1, r1, z1, f1⟩ =>
    thn (hv.pe.run pins s1 σ H1 (fun z H2 => ∃ v cs2 g2, (t cs2 fun kvs cs3 => Q' ((kd, v) :: kvs) cs3) ∧ Rel X.kw ZP B g2 H2 cs2 σ ∧ Rp X.kw H2 g2.fz v z ∧ (∀ a, ow cs2 σ a → ow cs1 σ a) ∧ Frm (ow cs1 σ) g1 H1 g2 H2) I1
    ⟨B, cs1, g1, R1, _, q1, fun v cs2 z g2 H2 q2 R2 r2 s2 f2 => ⟨v, cs2, g2, q2, R2, r2, s2, f2⟩⟩) fun u2 s2 ⟨z, H2, I2, rz, v, cs2, g2, q2, R2, r2, z2, f2⟩ =>
    thn (hr.run pins s2 σ H2 (fun ps H3 => Q ((y, z) :: ps) H3) I2 ⟨B, cs2, g2, R2, _, q2, fun kvs cs3 ps g3 H3 q3 R3 ra rb z3 f3 =>
      k ((kd, v) :: kvs) cs3 ((y, z) :: ps) g3 H3 q3 R3 (.cons (Rp.frm f3 R2.fzow (Rp.frm f2 R1.fzow r1)) ra) (.cons (Rp.frm f3 R2.fzow r2) rb) (fun a h => z1 a (z2 a (z3 a h))) ((f1.trans (f2.mono fun a _ _ h => z1 a h)).trans (f3.mono fun a _ _ h => z1 a (z2 a h)))⟩)
      fun vs s3 ⟨ps, H3, I3, rel, q3⟩ => ⟨(y, z) :: ps, H3, I3, .cons ⟨ry, rz⟩ rel, q3⟩)
theorem putG_len : ∀ (acc : GKV) (k d : PyData), (putG acc k d).length ≤ acc.length + 1
  | [], _, _ => Nat.le_refl _
  | (a, b) :: acc, k, d => by
    have ih := putG_len acc k d
    rw [putG]
    split
    · simp
    · simp only [List.length_cons]; omega
/-- the pairs are stored, one by one -/
theorem put_all {B : Bs} {g : GW} {cs : CS} {σ : L2.St} {pins : List (Addr × Obj)} {E : Value → Shared → Prop} {p : Addr} (hu : X.A.units + 64 < cLine) (nf : ¬ g.fz p) (nz : g.zs p = none) (no : ¬ ow cs σ p) (hb : B.1 p = none) :
    ∀ (kvs : GKV) (ps : List (V × V)) (us : List (Value × Value)) (acc : GKV) (H : Hp) (s : Shared) (Q : PUnit → Shared → Prop), L2.Inv X pins σ H s → Rel X.kw ZP B g H cs σ → RS X.kw g H (.gd acc) (.ref p) → RpAll X.kw H g.fz (kvs.map (·.1)) (ps.map (·.1)) → RpAll X.kw H g.fz (kvs.map (·.2)) (ps.map (·.2)) → VV ps us →
    (∀ kv ∈ kvs, hashK kv.1 = true) → acc.length + kvs.length ≤ sizeLine →
    (∀ H' s', L2.Inv X pins σ H' s' → Rel X.kw ZP B g H' cs σ → RS X.kw g H' (.gd (putAll acc kvs)) (.ref p) → Frm (fun a => a = p) g H g H' → Q PUnit.unit s') →
    wpAny (model X.prog X.w) X.A (forIn us PUnit.unit fun (x : Value × Value) (_ : PUnit) => (do dictSet p x.1 x.2; pure (ForInStep.yield PUnit.unit) : Sem (ForInStep PUnit))) Q E s
  | [], ps, us, acc, H, s, Q, I, R, rs, ra, rb, rel, _, _, k => by
    cases ps with
    | cons _ _ => cases ra
    | nil =>
      cases rel
      rw [List.forIn_nil]
      exact wpAny_pure (k H s I R rs .refl)
  | (kd, d) :: kvs, ps, us, acc, H, s, Q, I, R, rs, ra, rb, rel, hh, hz, k => by
    cases ps with
    | nil => cases ra
    | cons pv ps =>
      obtain ⟨y, v⟩ := pv
      cases ra with
      | cons r1 ra =>
        cases rb with
        | cons r2 rb =>
          cases rel with
          | @cons _ uz _ us ryz rel =>
            obtain ⟨u, z⟩ := uz
            obtain ⟨nk, h1, h2⟩ := hashK_of (hh _ List.mem_cons_self)
            obtain ⟨a, e, _, _, ep, es, ks, vs, hq, k1, v1, p1, p2, nks, n1, n2, n3, n4⟩ := id rs
            cases e
            rw [List.length_cons] at hz
            rw [List.forIn_cons]
            refine wpAny_bind (wpAny_bind (set_at (by omega) (RB.keyIs I r1.rb ryz.1 h1 h2) (DAt.of I hq) (gtab p1 k1 n1 n3 n4 _ _ _ I) n2 (by rw [← gd_len p1 k1]; omega) fun h' tk ⟨ep', D'⟩ sb => wpAny_pure ?_))
            obtain ⟨R1, f1⟩ := R.updLoose (o' := .ext (DictHas p ep' (setE X.w es nk u z (spotN nks nk)))) hq (fun xs q => by rw [hq] at q; cases q) nf nz no hb
            have hz1 : ∀ a, g.fz a → g.zs a = none ∧ ¬ a = p := fun a h => ⟨(R.fzow a h).1, fun q => by subst q; exact nf h⟩
            have rs1 := put_rs (ep' := ep') hq nf nz k1 v1 p1 p2 n1 n2 n3 n4 h1 h2 r1 r2 ryz.1 ryz.2
            have hl := putG_len acc kd d
            exact put_all hu nf nz no hb kvs ps us (putG acc kd d) _ _ Q (ext_write I hq D' sb) R1 rs1 (RpAll.frm f1 hz1 ra) (RpAll.frm f1 hz1 rb) rel (fun kv h => hh kv (List.mem_cons_of_mem _ h)) (by omega)
              fun H' s' I' R' rs' f' => k H' s' I' R' rs' (f1.trans f')
theorem de_disp (hu : X.A.units + 64 < cLine) (h : DPr X ZP pos keys values t) (h0 : keys ≠ [] := by simp) (hall : keys.all (·.isSome) = true := by rfl) (hl : keys.length = values.length := by rfl) (h15 : keys.length ≤ 15 := by decide) : DE X ZP (.Dict keys values pos) (t_disp t) := by
  refine ⟨⟨fun pins s σ H Q I h1 => ?_⟩⟩
  obtain ⟨B, cs, g, R, Q', q, k⟩ := h1
  have hn := I.hok.fresh (Nat.le_refl s.heap.objs.size)
  have hne : s.heap.objs.size ≠ sysModules := Ne.symm (Nat.ne_of_lt I.big)
  have hpl := pairTrees_length keys values X.env pos hall hl
  rw [arm_eval_Dict, zip_pairTrees keys values X.env pos hall hl, dictDisplay_pairs _ (fun z => h0 (by rw [z] at hpl; exact List.length_eq_zero_iff.mp hpl.symm)) (by omega)]
  refine wpAny_bind (wpAny_standAt (wpAny_bind ?_))
  unfold subDict
  refine wpAny_bind (wpAny_alloc ?_)
  refine wpAny_bind (wpAny_holding ?_)
  rw [if_pos (by omega)]
  generalize hD : s.heap.objs.size = D at hn hne
  have hd : DictHas D 0 [] (s.heap.push { cls := .type "dict", data := .dict #[] }) := ⟨hne, _, by rw [← hD]; exact Heap.get?_push_size _ rfl, ⟨rfl, rfl, rfl⟩, rfl⟩
  have I1 : L2.Inv X pins σ (upd H D (.ext (DictHas D 0 []))) { s with heap := s.heap.push { cls := .type "dict", data := .dict #[] } } :=
    I.laid (t' := s.toks) (fun _ _ q => Heap.get?_push_of_some _ q) (by rw [← hD]; exact Nat.le_refl _) (ext_dict hd)
  have nD := R.nofz hn
  have oD : ¬ ow cs σ D := fun z => by
    obtain ⟨ws, e⟩ := R.owsome z
    rw [hn] at e; cases e
  refine wpAny_bind (thn (h.run pins _ σ _ (fun ps H2 => ∃ kvs cs2 g2, ((∀ kv ∈ kvs, hashK kv.1 = true) ∧ kvs.length ≤ 15 ∧ Q' (.gd (putAll [] kvs)) cs2) ∧ Rel X.kw ZP B g2 H2 cs2 σ ∧ RpAll X.kw H2 g2.fz (kvs.map (·.1)) (ps.map (·.1)) ∧ RpAll X.kw H2 g2.fz (kvs.map (·.2)) (ps.map (·.2)) ∧ (∀ a, ow cs2 σ a → ow cs σ a) ∧
    Frm (ow cs σ) g (upd H D (.ext (DictHas D 0 []))) g2 H2) I1 ⟨B, cs, g, R.laid hn, _, q, fun kvs cs2 ps g2 H2 q2 R2 ra rb z2 f2 => ⟨kvs, cs2, g2, q2, R2, ra, rb, z2, f2⟩⟩) fun vs s2 ⟨ps, H2, I2, rel, kvs, cs2, g2, ⟨qh, q15, q2⟩, R2, ra, rb, z2, f2⟩ => ?_)
  refine wpAny_holding ?_
  have eD : H2 D = some (.ext (DictHas D 0 [])) := f2.keep D _ upd_same nD.2 oD
  have nf : ¬ g2.fz D := fun z => nD.1 (f2.fzn D _ upd_same oD z)
  have nz : g2.zs D = none := f2.zsn D _ upd_same nD.2
  have no : ¬ ow cs2 σ D := fun z => oD (z2 _ z)
  have rs0 : RS X.kw g2 H2 (.gd []) (.ref D) := ⟨D, rfl, nf, nz, 0, [], [], [], eD, .nil, .nil, .nil, .nil, [], rfl, .nil, (fun _ z => nomatch z), rfl⟩
  refine wpAny_bind ?_
  refine put_all hu nf nz no (R.bnone hn) kvs ps vs [] H2 s2 _ I2 R2 rs0 ra rb rel qh (by rw [sizeLine_eq, List.length_nil]; omega) fun H3 s3 I3 R3 rs3 f3 => ?_
  refine wpAny_pure (wpAny_pure (wpAny_pure ⟨.ref D, H3, I3, rfl, ?_⟩))
  refine k _ cs2 (.ref D) g2 H3 q2 R3 rs3 (fun xs a e1 e2 => ?_) z2 (Frm.skip hn f2 f3)
  cases e2
  exact ⟨no, hn⟩
end
end Cl

/-! for x in a list, a tuple, a text, a dict -/
namespace Cl
open PySem PySem.Spec PyProof.Rows L2
/-- the keys of a dict at a, as values ks -/
def ItK (a : Addr) (ep : Nat) (es : List DictEntry) (ks : List V) : It :=
  ⟨fun i H => H a = some (.ext (DictHas a ep es)) ∧ ∃ x, ks[i]? = some x, fun i H x H' => H' = H ∧ ks[i]? = some x, fun i H => H a = some (.ext (DictHas a ep es)) ∧ ks.length ≤ i⟩
theorem turn_keys {P : Program} {w : World} {K : PySem.W.Frag} {tg : Expr} (a it : Addr) (ep : Nat) (es : List DictEntry) (ks : List V) (k1 : Vals ks (es.map (·.key))) : Turn P w K tg (ItK a ep es ks) [it] it (fun i h => h.IsKeyIter it a i es.length ep) where
  mem := by simp
  obj := fun i h st b hb => by
    have e : b = it := by simpa using hb
    subst e
    obtain ⟨o, e, c, d⟩ := st
    exact ⟨o, e, fun v z => by rw [d] at z; cases z⟩
  keep := fun i h h' st k => by
    obtain ⟨o, e, c, d⟩ := st
    exact ⟨o, k it (by simp) o e, c, d⟩
  item := by
    intro X hP hw hK hc i pins s σ H E I hf st hg
    subst hP hw hK
    obtain ⟨hq, x, hx⟩ := hg
    obtain ⟨f0, f1, f2, f3, f4, f5⟩ := hf it (by simp)
    obtain ⟨⟨_, o, ho, hex, hd⟩, _⟩ := I.hok a _ hq
    obtain ⟨u, hu, ru⟩ := k1.get hx
    have hl : i < es.toArray.size := by
      have := (List.getElem?_eq_some_iff.mp hu).1
      simpa using this
    have e0 : es.toArray[i].key = u := by
      rw [List.getElem?_map] at hu
      obtain ⟨e1, h1, h2⟩ := Option.map_eq_some_iff.mp hu
      obtain ⟨h3, h4⟩ := List.getElem?_eq_some_iff.mp h1
      rw [← h2, ← h4]; simp
    refine wpAny_pyNext_keys_item_raw (es := es.toArray) (by simpa using st) ⟨o, ho, hex, hd⟩ hl fun h' st' sb => ?_
    rw [e0]
    have I1 : Inv X pins σ H { s with heap := h' } := I.turned (t' := s.toks) (fun b o hb e => (sb.2 b hb).trans e) f0 f1 f3 f4 f5
    obtain ⟨o2, e, c, d⟩ := id st'
    exact ⟨u, rfl, go_of (s := { s with heap := h' }) e c d (by decide) ⟨x, H, I1, ru, ⟨rfl, hx⟩, by simpa using st', fun b hb => (hf b hb).1⟩⟩
  done := by
    intro X hP hw hK hc i pins s σ H E I hf st hg
    subst hP hw hK
    obtain ⟨hq, hx⟩ := hg
    obtain ⟨f0, f1, f2, f3, f4, f5⟩ := hf it (by simp)
    obtain ⟨⟨_, o, ho, hex, hd⟩, _⟩ := I.hok a _ hq
    have hl := k1.length
    rw [List.length_map] at hl
    exact wpAny_pyNext_keys_end_raw (es := es.toArray) (I.ok.hd hc) (by simpa using st) ⟨o, ho, hex, hd⟩ (by simp; omega) fun h' eb => ⟨rfl, I.turned (t' := s.toks) (fun b o hb e => eb b o hb e) f0 f1 f3 f4 f5⟩
  self := fun A i s Q E st h => wpAny_pyIter_keyiter st h

/-- what is walked over -/
def seqY : PyData → Option (List PyData)
  | .list ds => some ds
  | .tuple ds => some ds
  | .str z => some (z.cps.toList.map fun c => .str ⟨#[c]⟩)
  | .dict kvs => some (kvs.map (·.1))
  | _ => none
section
variable {X : Cx} {ZP : ZT} {tg e : Expr}
def iAny (K : PySem.W.Frag) (tl : TE) : TI := fun σ H R => tl σ H fun x H1 => (∃ a, x = .ref a ∧ ((∃ xs, SqL K H1 a xs) ∧ R (Itl K a) H1 ∨ (∃ xs, SqT K H1 a xs) ∧ R (Itt K a) H1)) ∨ (∃ z, x = .str z ∧ R (Its z) H1) ∨
  ∃ a ep es ks, x = .ref a ∧ H1 a = some (.ext (DictHas a ep es)) ∧ Vals ks (es.map (·.key)) ∧ R (ItK a ep es ks) H1
theorem pi_anyS {l : Expr} {tl : TE} (hl : PE X l tl) : PI X tg l (iAny X.K tl) := by
  refine ⟨fun pins s σ H R I h => ?_⟩
  refine thn (hl.run pins s σ H _ I h) fun v s1 ⟨x, H1, I1, r1, q1⟩ => ?_
  have fp : ∀ b ∈ [s1.heap.objs.size], FpOk X pins H1 b := fun b hb => by
    have e : b = s1.heap.objs.size := by simpa using hb
    subst e
    exact I1.fpOk (Nat.le_refl _) (I1.hok.fresh (Nat.le_refl _))
  rcases q1 with ⟨a, e, q⟩ | ⟨z, e, q⟩ | ⟨a, ep, es, ks, e, hq, k1, q⟩
  · subst e
    cases r1
    rcases q with ⟨⟨xs, hq⟩, q⟩ | ⟨⟨xs, hq⟩, q⟩
    · obtain ⟨its, rv, p, hz⟩ := I1.list hq
      refine wpAny_pyIter_list p.isList ?_
      exact ⟨s1.heap.objs.size, [s1.heap.objs.size], _, _, H1, rfl, I1.kept (t' := s1.toks) fun b o e => Heap.get?_push_of_some _ e, turn_list a _, ⟨_, Heap.get?_push_size _ rfl, rfl, rfl⟩, fp, q⟩
    · obtain ⟨its, rv, p, hz⟩ := I1.tuple hq
      refine wpAny_pyIter_tuple (show s1.heap.IsTuple a its.toArray from p) ?_
      exact ⟨s1.heap.objs.size, [s1.heap.objs.size], _, _, H1, rfl, I1.kept (t' := s1.toks) fun b o e => Heap.get?_push_of_some _ e, turn_tuple a _, ⟨_, Heap.get?_push_size _ rfl, rfl, rfl⟩, fp, q⟩
  · subst e
    obtain ⟨t, rfl⟩ := r1
    cases ha : z.cps.all (· < 128)
    · exact wpAny_pyIter_wide ha (pi_one (tk := s1.toks) I1 _ (turn_str _ z t "str_iterator" (.inr rfl)) ⟨_, Heap.get?_push_size _ rfl, rfl, rfl⟩ q)
    · exact wpAny_pyIter_ascii ha (pi_one (tk := s1.toks) I1 _ (turn_str _ z t "str_ascii_iterator" (.inl rfl)) ⟨_, Heap.get?_push_size _ rfl, rfl, rfl⟩ q)
  · subst e
    cases r1
    obtain ⟨⟨hne, o, ho, hex, hd⟩, _⟩ := I1.hok a _ hq
    refine wpAny_pyIter_dict_raw (es := es.toArray) (ep := ep) (beq_eq_false_iff_ne.mpr hne) ⟨o, ho, hex, hd⟩ ?_
    exact ⟨s1.heap.objs.size, [s1.heap.objs.size], _, _, H1, rfl, I1.kept (t' := s1.toks) fun b o e => Heap.get?_push_of_some _ e, turn_keys a _ ep es ks k1, ⟨_, Heap.get?_push_size _ rfl, rfl, by simp [rawInt]⟩, fp, q⟩
def t_wany (t : TVD) : TID := fun cs Q => t cs fun d cs1 => match seqY d with
  | some ds => Q ds cs1
  | none => False
theorem di_any {t : TVD} (h : DV X ZP e t) : DI X ZP tg e (t_wany t) := by
  refine ⟨PI.imp (pi_anyS h.pe) ?_⟩
  rintro σ H R ⟨B, cs, g, Re, Q', q, k⟩
  refine ⟨B, cs, g, Re, _, q, fun d cs1 v g1 H1 q1 R1 r1 s1 f1 => ?_⟩
  cases d with
  | list ds =>
    cases r1 with
    | @lst a xs _ hf ha ra =>
      refine .inl ⟨a, rfl, .inl ⟨⟨xs, SqL.of ha⟩, k ds cs1 _ g1 H1 q1 R1 (fun g2 H2 st => ?_) s1 f1⟩⟩
      have ha2 : H2 a = some (.lst xs) := st.keep a _ hf ha
      have ra2 := st.rps ra
      refine ⟨fun i d hd => ?_, xs, SqL.of ha2, by rw [ra.length]; exact Nat.le_refl _⟩
      obtain ⟨v, hv, rv⟩ := ra2.get' hd
      refine ⟨⟨xs, v, SqL.of ha2, hv⟩, fun x H'' hy => ?_⟩
      obtain ⟨rfl, hx⟩ := hy
      have := hx xs (SqL.of ha2)
      rw [hv] at this; cases this
      exact .same rv
  | tuple ds =>
    cases r1 with
    | @tup a xs _ ha ra =>
      refine .inl ⟨a, rfl, .inr ⟨⟨xs, SqT.of ha⟩, k ds cs1 _ g1 H1 q1 R1 (fun g2 H2 st => ?_) s1 f1⟩⟩
      have ha2 : SqT X.kw H2 a xs := SqT.of (st.tups _ _ ha)
      have ra2 := st.rps ra
      refine ⟨fun i d hd => ?_, xs, ha2, by rw [ra.length]; exact Nat.le_refl _⟩
      obtain ⟨v, hv, rv⟩ := ra2.get' hd
      refine ⟨⟨xs, v, ha2, hv⟩, fun x H'' hy => ?_⟩
      obtain ⟨rfl, hx⟩ := hy
      have := hx xs ha2
      rw [hv] at this; cases this
      exact .same rv
  | str z =>
    cases r1
    refine .inr (.inl ⟨z, rfl, k _ cs1 _ g1 H1 q1 R1 (fun g2 H2 st => ⟨fun i d hd => ?_, by show z.cps.size ≤ _; simp⟩) s1 f1⟩)
    rw [List.getElem?_map] at hd
    obtain ⟨c, e1, rfl⟩ := Option.map_eq_some_iff.mp hd
    have hi : i < z.cps.size := by
      have := (List.getElem?_eq_some_iff.mp e1).1
      simpa using this
    refine ⟨hi, fun x H'' hy => ?_⟩
    obtain ⟨rfl, c', hc', rfl⟩ := hy
    have : z.cps[i]? = some c := by simpa using e1
    rw [this] at hc'; cases hc'
    exact .same (.str _)
  | dict kvs =>
    cases r1 with
    | @dct a ep es ks vs _ hf hq k1 v1 ra rb hh =>
      refine .inr (.inr ⟨a, ep, es, ks, rfl, hq, k1, k (kvs.map Prod.fst) cs1 _ g1 H1 q1 R1 (fun g2 H2 st => ?_) s1 f1⟩)
      have hq2 : H2 a = some (.ext (DictHas a ep es)) := st.keep a _ hf hq
      have ra2 := st.rps ra
      refine ⟨fun i d hd => ?_, hq2, by rw [ra.length]; exact Nat.le_refl _⟩
      obtain ⟨v, hv, rv⟩ := ra2.get' hd
      refine ⟨⟨hq2, v, hv⟩, fun x H'' hy => ?_⟩
      obtain ⟨rfl, hx⟩ := hy
      rw [hv] at hx; cases hx
      exact .same rv
  | _ => exact q1.elim
end
end Cl

/-! < of tuples whose items need not be alike behind the first place that differs -/
namespace PySem.SeqAt
open AutoSeq1 (wpAny_loadPart')
open MeetsSeq MeetsSeq2 MeetsSeq3 SeqRoads2
theorem tupLess (l b : Addr) (us vs : Array Value) (n m : Nat) (dl db : Option Addr) (sl sb : Array (Option Value)) (e r : Nat → Bool) :
    Meets (Builtin.«tuple.__lt__» ⟨[.ref l, .ref b], []⟩)
      (fun A R s => s.heap.get? l = some { cls := .type "tuple", dict := dl, data := .seq us n, slots := sl } ∧ s.heap.get? b = some { cls := .type "tuple", dict := db, data := .seq vs m, slots := sb } ∧
        (∀ j (h1 : j < us.size) (h2 : j < vs.size), EqAt A.in1 s us[j] vs[j] (e j)) ∧ (∀ j (h1 : j < us.size) (h2 : j < vs.size), (∀ i < j, e i = true) → e j = false → RcLt A.in1 s us[j] vs[j] (r j)) ∧
        R (.ok (.ret (.bool (firstLt e r (decide (us.size < vs.size)) (List.range (min us.size vs.size)))))) s) :=
  .of_wp fun prog w A R s h => by
    obtain ⟨hp, g, d, tk, os⟩ := s; obtain ⟨hl, hb, he, hr, h⟩ := h
    have tt := AutoSeq1.sub_tuple_tuple
    have zl : (us.toList.zip vs.toList).length = min us.size vs.size := by simp
    wp_walk using wpAny_loadPart' hl, wpAny_loadPart' hb, wpAny_forIn_list _ (fun rest b s' => b.1 = none ∧ s' = ⟨hp, g, d, tk, os⟩ ∧ ∃ i, rest = (us.toList.zip vs.toList).drop i ∧ (∀ j < i, e j = true) ∧
      R (.ok (.ret (.bool (firstLt e r (decide (us.size < vs.size)) ((List.range (min us.size vs.size)).drop i))))) ⟨hp, g, d, tk, os⟩) _
    case turn =>
      rintro ⟨y, x⟩ rest b s' ⟨hb', rfl, i, hz, hall, hR⟩
      have il : i < (us.toList.zip vs.toList).length := by
        refine Nat.lt_of_not_le fun q => ?_
        rw [List.drop_of_length_le q] at hz; cases hz
      have im : i < min us.size vs.size := zl ▸ il
      have i1 : i < us.size := Nat.lt_of_lt_of_le im (Nat.min_le_left _ _)
      have i2 : i < vs.size := Nat.lt_of_lt_of_le im (Nat.min_le_right _ _)
      rw [List.drop_eq_getElem_cons il] at hz
      injection hz with yx hrest
      have ey : y = us[i] := by simpa using congrArg Prod.fst yx
      have ex : x = vs[i] := by simpa using congrArg Prod.snd yx
      subst ey ex
      rw [show (List.range (min us.size vs.size)).drop i = i :: (List.range (min us.size vs.size)).drop (i + 1) by simp [List.drop_eq_getElem_cons, im]] at hR
      refine wpAny_bind (he i i1 i2 prog w _ _ ?_)
      cases hi : e i with
      | true =>
        rw [firstLt_yes hi] at hR
        wp_walk
        refine ⟨rfl, rfl, i + 1, hrest, fun j hj => ?_, hR⟩
        rcases Nat.lt_succ_iff_lt_or_eq.mp hj with q | q
        · exact hall j q
        · rw [q]; exact hi
      | false =>
        rw [firstLt_no hi] at hR
        rw [if_pos (by decide)]
        dsimp only
        refine wpAny_bind (wpAny_rule (wpAny_bind (hr i i1 i2 hall hi prog w _ _ ?_)))
        wp_walk
        exact ⟨_, rfl, hR⟩
    case fin =>
      rintro ⟨b1, b2⟩ s' ⟨hb', rfl, i, hz, _, hR⟩
      simp only at hb'
      subst hb'
      have ge : min us.size vs.size ≤ i := by
        refine Nat.le_of_not_lt fun q => ?_
        rw [← zl] at q
        rw [List.drop_eq_getElem_cons q] at hz; cases hz
      rw [List.drop_of_length_le (by simpa using ge)] at hR
      wp_walk
      exact ⟨_, rfl, by simpa [Builtin.Tuple.tupleCompareSizes, firstLt] using hR⟩
    case h =>
      exact ⟨rfl, rfl, 0, rfl, fun j hj => absurd hj (Nat.not_lt_zero j), by simpa using h⟩
theorem RcLt.tupF {A : Around} {s : Shared} {l b : Addr} {us vs : Array Value} {e r : Nat → Bool} (hl : s.heap.IsTuple l us) (hb : s.heap.IsTuple b vs) (hu : A.units < cLine)
    (he : ∀ j (h1 : j < us.size) (h2 : j < vs.size), EqAt A.in1 s us[j] vs[j] (e j)) (hr : ∀ j (h1 : j < us.size) (h2 : j < vs.size), (∀ i < j, e i = true) → e j = false → RcLt A.in1 s us[j] vs[j] (r j)) :
    RcLt A s (.ref l) (.ref b) (firstLt e r (decide (us.size < vs.size)) (List.range (min us.size vs.size))) := fun prog w E Q h => by
  obtain ⟨⟨c1, d1, x1, s1⟩, o1, k1, n1, h1⟩ := id hl
  obtain ⟨⟨c2, d2, x2, s2⟩, o2, k2, n2, h2⟩ := id hb
  simp only at k1 h1 k2 h2
  subst k1 h1 k2 h2
  refine richCompare_meets_room (op := .Lt) ⟨_, o1, rfl⟩ ⟨_, o2, rfl⟩ F.slot_tuple_lt F.entry_tuple_lt (F.args_tuple_lt_2 _ _) (tupLess l b us vs n1 n2 d1 d2 s1 s2 e r) ⟨o1, o2, he, hr, ?_⟩ hu
  exact (show Value.bool (firstLt e r (decide (us.size < vs.size)) (List.range (min us.size vs.size))) ≠ Value.notImplemented ∧ Q (.bool (firstLt e r (decide (us.size < vs.size)) (List.range (min us.size vs.size)))) s from ⟨(fun x => nomatch x), h⟩)
end PySem.SeqAt

/-! < of data that is alike up to the first place that differs; sorting by such keys -/
namespace Cl
open PySem PySem.Spec PyProof.Rows L2 PySem.W PySem.SeqAt

mutual
theorem eqv_beq : ∀ (a b : PyData) (x y : NestedKey), nkey a = some x → nkey b = some y → PyData.eqv a b = NestedKey.beq x y
  | .none, b, x, y, e1, e2 => by
    rw [nkey] at e1; cases e1
    cases b with
    | tuple ds => rw [nkey, Option.map_eq_some_iff] at e2; obtain ⟨ks, _, rfl⟩ := e2; rfl
    | _ => rw [nkey] at e2; first | (cases e2; done) | (cases e2; rfl)
  | .bool c, b, x, y, e1, e2 => by
    rw [nkey] at e1; cases e1
    cases b with
    | tuple ds => rw [nkey, Option.map_eq_some_iff] at e2; obtain ⟨ks, _, rfl⟩ := e2; rfl
    | bool d => rw [nkey] at e2; cases e2; cases c <;> cases d <;> rfl
    | int i => rw [nkey] at e2; cases e2; rw [PyData.eqv, NestedKey.beq]; rfl
    | _ => rw [nkey] at e2; first | (cases e2; done) | (cases e2; rfl)
  | .int i, b, x, y, e1, e2 => by
    rw [nkey] at e1; cases e1
    cases b with
    | tuple ds => rw [nkey, Option.map_eq_some_iff] at e2; obtain ⟨ks, _, rfl⟩ := e2; rfl
    | bool d => rw [nkey] at e2; cases e2; rw [PyData.eqv, NestedKey.beq]; rfl
    | int j => rw [nkey] at e2; cases e2; rfl
    | _ => rw [nkey] at e2; first | (cases e2; done) | (cases e2; rfl)
  | .str z, b, x, y, e1, e2 => by
    rw [nkey] at e1; cases e1
    cases b with
    | tuple ds => rw [nkey, Option.map_eq_some_iff] at e2; obtain ⟨ks, _, rfl⟩ := e2; rfl
    | str z' => rw [nkey] at e2; cases e2; rfl
    | _ => rw [nkey] at e2; first | (cases e2; done) | (cases e2; rfl)
  | .list ds, b, x, y, e1, e2 => by rw [nkey] at e1; cases e1
  | .dict ds, b, x, y, e1, e2 => by rw [nkey] at e1; cases e1
  | .tuple ds, b, x, y, e1, e2 => by
    rw [nkey, Option.map_eq_some_iff] at e1
    obtain ⟨ks, h1, rfl⟩ := e1
    cases b with
    | tuple es =>
      rw [nkey, Option.map_eq_some_iff] at e2
      obtain ⟨js, h2, rfl⟩ := e2
      rw [PyData.eqv, NestedKey.beq]
      exact eqv_beqAll ds es ks js h1 h2
    | _ => rw [nkey] at e2; first | (cases e2; done) | (cases e2; rfl)
theorem eqv_beqAll : ∀ (a b : List PyData) (x y : List NestedKey), nkeys a = some x → nkeys b = some y → PyData.eqvAll a b = NestedKey.beqAll x y
  | [], [], x, y, e1, e2 => by rw [nkeys] at e1 e2; cases e1; cases e2; rfl
  | [], b :: bs, x, y, e1, e2 => by
    obtain ⟨k, ks, _, _, rfl⟩ := nkeys_cons e2
    rw [nkeys] at e1; cases e1; rfl
  | a :: as, [], x, y, e1, e2 => by
    obtain ⟨k, ks, _, _, rfl⟩ := nkeys_cons e1
    rw [nkeys] at e2; cases e2; rfl
  | a :: as, b :: bs, x, y, e1, e2 => by
    obtain ⟨k, ks, h1, h2, rfl⟩ := nkeys_cons e1
    obtain ⟨j, js, h3, h4, rfl⟩ := nkeys_cons e2
    rw [eqv_all_cons, NestedKey.beqAll, eqv_beq a b k j h1 h3, eqv_beqAll as bs ks js h2 h4]
end
mutual
theorem Reads.nested {h : Heap} : ∀ (d : PyData) (v : Value) (as : List Addr) (k : NestedKey), Reads h v d as → nkey d = some k → NestedIs h k v
  | .none, _, _, k, r, e => by cases r; rw [nkey] at e; cases e; exact .none
  | .bool b, _, _, k, r, e => by cases r; rw [nkey] at e; cases e; exact .bool rfl
  | .int i, _, _, k, r, e => by cases r; rw [nkey] at e; cases e; exact .int _ _
  | .str x, _, _, k, r, e => by cases r; rw [nkey] at e; cases e; exact .text _ _
  | .list ds, _, _, k, r, e => by rw [nkey] at e; cases e
  | .dict ds, _, _, k, r, e => by rw [nkey] at e; cases e
  | .tuple ds, _, _, k, r, e => by
    rw [nkey, Option.map_eq_some_iff] at e
    obtain ⟨ks, e1, rfl⟩ := e
    cases r with
    | tuple h1 h2 h3 h4 => exact .tup h1 h2 h3 (Reads.nestedAll ds _ _ ks h4 e1)
theorem Reads.nestedAll {h : Heap} : ∀ (ds : List PyData) (vs : List Value) (as : List Addr) (ks : List NestedKey), ReadsAll h vs ds as → nkeys ds = some ks → NestedAll h ks vs
  | [], _, _, ks, r, e => by cases r; rw [nkeys] at e; cases e; exact .nil
  | d :: ds, _, _, ks, r, e => by
    obtain ⟨k, ks', e1, e2, rfl⟩ := nkeys_cons e
    cases r with
    | cons r1 r2 => exact .cons (Reads.nested d _ _ k r1 e1) (Reads.nestedAll ds _ _ ks' r2 e2)
end
mutual
theorem depth_nkey : ∀ (d : PyData) (k : NestedKey), nkey d = some k → k.depth = d.depth
  | .none, k, e => by rw [nkey] at e; cases e; rfl
  | .bool b, k, e => by rw [nkey] at e; cases e; rfl
  | .int i, k, e => by rw [nkey] at e; cases e; rfl
  | .str x, k, e => by rw [nkey] at e; cases e; rfl
  | .list ds, k, e => by rw [nkey] at e; cases e
  | .dict ds, k, e => by rw [nkey] at e; cases e
  | .tuple ds, k, e => by
    rw [nkey, Option.map_eq_some_iff] at e
    obtain ⟨ks, e1, rfl⟩ := e
    rw [NestedKey.depth, PyData.depth, depth_nkeys ds ks e1]
theorem depth_nkeys : ∀ (ds : List PyData) (ks : List NestedKey), nkeys ds = some ks → NestedKey.depthAll ks = PyData.depthAll ds
  | [], ks, e => by rw [nkeys] at e; cases e; rfl
  | d :: ds, ks, e => by
    obtain ⟨k, ks', e1, e2, rfl⟩ := nkeys_cons e
    rw [NestedKey.depthAll, PyData.depthAll, depth_nkey d k e1, depth_nkeys ds ks' e2]
end
theorem eqAt_nk {da db : PyData} {x y : NestedKey} {A : Around} {s : Shared} {a b : Value} {as bs : List Addr} (ra : Reads s.heap a da as) (rb : Reads s.heap b db bs) (e1 : nkey da = some x) (e2 : nkey db = some y) (hu : A.units + min da.depth db.depth < cLine) :
    EqAt A s a b (PyData.eqv da db) := by
  rw [eqv_beq da db x y e1 e2]
  exact eqAt_key x y A s a b (Reads.nested da a as x ra e1) (Reads.nested db b bs y rb e2) (by rw [depth_nkey da x e1, depth_nkey db y e2]; exact hu)
theorem eqAt_nkAll : ∀ (xs ys : List PyData) (A : Around) (s : Shared) (vs ws : List Value) (as bs : List Addr) (ks js : List NestedKey), ReadsAll s.heap vs xs as → ReadsAll s.heap ws ys bs → nkeys xs = some ks → nkeys ys = some js →
    A.units + min (PyData.depthAll xs) (PyData.depthAll ys) < cLine → ∀ j (h1 : j < vs.length) (h2 : j < ws.length), EqAt A s vs[j] ws[j] (pairEq xs ys j)
  | [], _, _, _, _, _, _, _, _, _, ra, _, _, _, _, j, h1, _ => by cases ra; exact absurd h1 (Nat.not_lt_zero _)
  | _ :: _, [], _, _, _, _, _, _, _, _, _, rb, _, _, _, j, _, h2 => by cases rb; exact absurd h2 (Nat.not_lt_zero _)
  | x :: xs, y :: ys, A, s, _, _, _, _, ks, js, ra, rb, e1, e2, hu, j, h1, h2 => by
    obtain ⟨k, ks', a1, a2, rfl⟩ := nkeys_cons e1
    obtain ⟨i, js', b1, b2, rfl⟩ := nkeys_cons e2
    cases ra with
    | cons r rs =>
      cases rb with
      | cons r' rs' =>
        cases j with
        | zero => exact eqAt_nk r r' a1 b1 (room_head hu)
        | succ j => exact eqAt_nkAll xs ys A s _ _ _ _ ks' js' rs rs' a2 b2 (room_tail hu) j (Nat.lt_of_succ_lt_succ h1) (Nat.lt_of_succ_lt_succ h2)

/-! ### comparable up to the first place that differs -/
mutual
def klike : PyData → PyData → Bool
  | .bool _, .bool _ => true
  | .int _, .int _ => true
  | .str _, .str _ => true
  | .tuple xs, .tuple ys => klikeAll xs ys
  | _, _ => false
def klikeAll : List PyData → List PyData → Bool
  | x :: xs, y :: ys => if PyData.eqv x y = true then alike x y && klikeAll xs ys else klike x y
  | [], _ => true
  | _ :: _, [] => true
end
abbrev lexT (a b : List (Int ⊕ List Nat)) : Bool := PyProof.Rows.lexLt itemOrd a b
mutual
theorem kl_toks : ∀ (x y : PyData), klike x y = true → PyData.eqv x y = false → ∀ l m, lexT (keyToks x ++ l) (keyToks y ++ m) = lexT (keyToks x) (keyToks y)
  | .tuple xs, y, h, e => by
    cases y with
    | tuple ys =>
      rw [klike] at h
      rw [PyData.eqv] at e
      intro l m
      simp only [keyToks]
      exact kl_toksAll xs ys h e l m
    | _ => simp [klike] at h
  | .none, y, h, _ => by cases y <;> simp [klike] at h
  | .list _, y, h, _ => by cases y <;> simp [klike] at h
  | .dict _, y, h, _ => by cases y <;> simp [klike] at h
  | .bool a, y, h, e => by
    cases y with
    | bool b => exact (toks_eqv (.bool a) (.bool b) rfl).2 e
    | _ => simp [klike] at h
  | .int a, y, h, e => by
    cases y with
    | int b => exact (toks_eqv (.int a) (.int b) rfl).2 e
    | _ => simp [klike] at h
  | .str a, y, h, e => by
    cases y with
    | str b => exact (toks_eqv (.str a) (.str b) rfl).2 e
    | _ => simp [klike] at h
theorem kl_toksAll : ∀ (xs ys : List PyData), klikeAll xs ys = true → PyData.eqvAll xs ys = false → ∀ l m, lexT (keyToksAll xs ++ l) (keyToksAll ys ++ m) = lexT (keyToksAll xs) (keyToksAll ys)
  | [], [], _, e => by simp [PyData.eqvAll] at e
  | [], y :: ys, _, _ => fun l m => by
    simp only [keyToksAll, List.cons_append, List.nil_append]
    exact (lex_atom (by simp) _ _).trans (lex_atom (by simp) _ _).symm
  | x :: xs, [], _, _ => fun l m => by
    simp only [keyToksAll, List.cons_append, List.nil_append]
    exact (lex_atom (by simp) _ _).trans (lex_atom (by simp) _ _).symm
  | x :: xs, y :: ys, h, e => fun l m => by
    rw [klikeAll] at h
    rw [eqv_all_cons] at e
    rw [toks_all_cons, toks_all_cons]
    simp only [List.cons_append, List.append_assoc]
    unfold lexT
    rw [lex_self (O := itemOrd), lex_self (O := itemOrd)]
    cases hx : PyData.eqv x y with
    | true =>
      rw [hx, if_pos rfl, Bool.and_eq_true] at h
      rw [hx, Bool.true_and] at e
      rw [(toks_eqv x y h.1).1 hx, lex_pre, lex_pre]
      exact kl_toksAll xs ys h.2 e l m
    | false =>
      rw [hx, if_neg Bool.false_ne_true] at h
      exact (kl_toks x y h hx _ _).trans (kl_toks x y h hx _ _).symm
end
theorem kl_yes {x y : PyData} {xs ys : List PyData} (h : alike x y = true) (e : PyData.eqv x y = true) : lexT (keyToksAll (x :: xs)) (keyToksAll (y :: ys)) = lexT (keyToksAll xs) (keyToksAll ys) := dataLt_all_yes h e
theorem kl_no {x y : PyData} {xs ys : List PyData} (h : klike x y = true) (e : PyData.eqv x y = false) : lexT (keyToksAll (x :: xs)) (keyToksAll (y :: ys)) = dataLt x y := by
  rw [toks_all_cons, toks_all_cons]
  unfold lexT
  rw [lex_self (O := itemOrd)]
  exact kl_toks x y h e _ _
theorem firstLt_kl : ∀ (xs ys : List PyData), klikeAll xs ys = true →
    firstLt (pairEq xs ys) (fun j => dataLt (xs.getD j .none) (ys.getD j .none)) (decide (xs.length < ys.length)) (List.range (min xs.length ys.length)) = lexT (keyToksAll xs) (keyToksAll ys)
  | [], [], _ => by simp [firstLt, keyToksAll, lex_irrefl]
  | [], y :: ys, _ => by
    rw [toks_all_cons]
    simp only [keyToksAll]
    unfold lexT
    rw [lex_diff (O := itemOrd) (by simp)]
    simp [firstLt, itemLt]
  | x :: xs, [], _ => by
    rw [toks_all_cons]
    simp only [keyToksAll]
    unfold lexT
    rw [lex_diff (O := itemOrd) (by simp)]
    simp [firstLt, itemLt]
  | x :: xs, y :: ys, h => by
    rw [klikeAll] at h
    have em : min (x :: xs).length (y :: ys).length = min xs.length ys.length + 1 := by simp only [List.length_cons]; omega
    have ed : decide ((x :: xs).length < (y :: ys).length) = decide (xs.length < ys.length) := by
      simp only [List.length_cons]
      exact decide_eq_decide.mpr (by omega)
    rw [em, ed, List.range_succ_eq_map]
    cases hx : PyData.eqv x y with
    | true =>
      rw [hx, if_pos rfl, Bool.and_eq_true] at h
      rw [firstLt_yes (show pairEq (x :: xs) (y :: ys) 0 = true from hx), firstLt_map, kl_yes h.1 hx, ← firstLt_kl xs ys h.2]
      rfl
    | false =>
      rw [hx, if_neg Bool.false_ne_true] at h
      rw [firstLt_no (show pairEq (x :: xs) (y :: ys) 0 = false from hx), kl_no h hx]
      rfl
mutual
/-- a < b -/
theorem rcLt_kl : ∀ (da db : PyData) (A : Around) (s : Shared) (a b : Value) (as bs : List Addr) (k j : NestedKey), Reads s.heap a da as → Reads s.heap b db bs → nkey da = some k → nkey db = some j → klike da db = true → A.units + min da.depth db.depth < cLine → RcLt A s a b (dataLt da db)
  | .none, db, _, _, _, _, _, _, _, _, _, _, _, _, h, _ => by cases db <;> simp [klike] at h
  | .list _, db, _, _, _, _, _, _, _, _, _, _, _, _, h, _ => by cases db <;> simp [klike] at h
  | .dict _, db, _, _, _, _, _, _, _, _, _, _, _, _, h, _ => by cases db <;> simp [klike] at h
  | .bool x, db, A, s, a, b, as, bs, _, _, ra, rb, _, _, h, hu => by
    cases db with
    | bool y => exact rcLt_alike _ _ A s a b as bs ra rb rfl (by simp) hu
    | _ => simp [klike] at h
  | .int x, db, A, s, a, b, as, bs, _, _, ra, rb, _, _, h, hu => by
    cases db with
    | int y => exact rcLt_alike _ _ A s a b as bs ra rb rfl (by simp) hu
    | _ => simp [klike] at h
  | .str x, db, A, s, a, b, as, bs, _, _, ra, rb, _, _, h, hu => by
    cases db with
    | str y => exact rcLt_alike _ _ A s a b as bs ra rb rfl (by simp) hu
    | _ => simp [klike] at h
  | .tuple xs, db, A, s, a, b, as, bs, k, j, ra, rb, e1, e2, h, hu => by
    cases db with
    | tuple ys =>
      rw [klike] at h
      rw [nkey, Option.map_eq_some_iff] at e1 e2
      obtain ⟨ks, n1, rfl⟩ := e1
      obtain ⟨js, n2, rfl⟩ := e2
      cases ra with
      | @tuple l o vs n _ as₁ h1 h2 h3 h4 =>
        cases rb with
        | @tuple l' o' vs' n' _ bs₁ k1 k2 k3 k4 =>
          have m1 : vs.size = xs.length := by simpa using ReadsAll.length _ _ _ h4
          have m2 : vs'.size = ys.length := by simpa using ReadsAll.length _ _ _ k4
          rw [dataLt_tuple]
          have ef := firstLt_kl xs ys h
          unfold lexT at ef
          rw [← ef, ← m1, ← m2]
          refine RcLt.tupF ⟨_, h1, h2, _, h3⟩ ⟨_, k1, k2, _, k3⟩ (room_here hu) (fun i j1 j2 => ?_) fun i j1 j2 ha hi => ?_
          · have := eqAt_nkAll xs ys A.in1 s vs.toList vs'.toList _ _ ks js h4 k4 n1 n2 (room_in hu) i (by simpa using j1) (by simpa using j2)
            simpa using this
          · have := rcLt_klAll xs ys A.in1 s vs.toList vs'.toList _ _ ks js h4 k4 n1 n2 h (room_in hu) i (by simpa using j1) (by simpa using j2) ha hi
            simpa using this
    | _ => simp [klike] at h
theorem rcLt_klAll : ∀ (xs ys : List PyData) (A : Around) (s : Shared) (vs ws : List Value) (as bs : List Addr) (ks js : List NestedKey), ReadsAll s.heap vs xs as → ReadsAll s.heap ws ys bs → nkeys xs = some ks → nkeys ys = some js → klikeAll xs ys = true →
    A.units + min (PyData.depthAll xs) (PyData.depthAll ys) < cLine → ∀ j (h1 : j < vs.length) (h2 : j < ws.length), (∀ i < j, pairEq xs ys i = true) → pairEq xs ys j = false → RcLt A s vs[j] ws[j] (dataLt (xs.getD j .none) (ys.getD j .none))
  | [], _, _, _, _, _, _, _, _, _, ra, _, _, _, _, _, j, h1, _, _, _ => by cases ra; exact absurd h1 (Nat.not_lt_zero _)
  | _ :: _, [], _, _, _, _, _, _, _, _, _, rb, _, _, _, _, j, _, h2, _, _ => by cases rb; exact absurd h2 (Nat.not_lt_zero _)
  | x :: xs, y :: ys, A, s, _, _, _, _, ks, js, ra, rb, e1, e2, h, hu, j, h1, h2, hall, hj => by
    obtain ⟨k, ks', a1, a2, rfl⟩ := nkeys_cons e1
    obtain ⟨i, js', b1, b2, rfl⟩ := nkeys_cons e2
    rw [klikeAll] at h
    cases ra with
    | cons r rs =>
      cases rb with
      | cons r' rs' =>
        cases j with
        | zero =>
          have hx : PyData.eqv x y = false := hj
          rw [hx, if_neg Bool.false_ne_true] at h
          exact rcLt_kl x y A s _ _ _ _ k i r r' a1 b1 h (room_head hu)
        | succ j =>
          have hx : PyData.eqv x y = true := hall 0 (Nat.succ_pos j)
          rw [hx, if_pos rfl, Bool.and_eq_true] at h
          exact rcLt_klAll xs ys A s _ _ _ _ ks' js' rs rs' a2 b2 h.2 (room_tail hu) j (Nat.lt_of_succ_lt_succ h1) (Nat.lt_of_succ_lt_succ h2) (fun i hi => hall (i + 1) (Nat.succ_lt_succ hi)) hj
end
end Cl

/-! sorting by keys that are alike up to the first place that differs -/
namespace Cl
open PySem PySem.Spec PyProof.Rows L2 PySem.W PySem.SeqAt
section
variable {prog : Program} {w : World} {A : Around} {E : Value → Shared → Prop} {s : Shared}
theorem oneLt_kl {f : Bool} {da db : PyData} {a b : Value} {as bs : List Addr} {k j : NestedKey} {Q : Bool → Shared → Prop} (hf : f = true → ∀ xs, da ≠ .tuple xs) (ra : Reads s.heap a da as) (rb : Reads s.heap b db bs) (e1 : nkey da = some k) (e2 : nkey db = some j) (h : klike da db = true)
    (hu : A.units + min da.depth db.depth < cLine) (hq : Q (dataLt da db) s) : wpAny (model prog w) A (oneLt' f a b) Q E s := by
  cases f with
  | false =>
    rw [oneLt'_eq]
    rw [if_neg Bool.false_ne_true]
    exact wpAny_bind (rcLt_kl da db A s a b as bs k j ra rb e1 e2 h hu prog w E _ (wpAny_truthy_bool hq))
  | true =>
    have hn := hf rfl
    cases da with
    | bool x =>
      cases db with
      | bool y => exact oneLt_alike hf ra rb rfl (by simp) hu hq
      | _ => simp [klike] at h
    | int x =>
      cases db with
      | int y => exact oneLt_alike hf ra rb rfl (by simp) hu hq
      | _ => simp [klike] at h
    | str x =>
      cases db with
      | str y => exact oneLt_alike hf ra rb rfl (by simp) hu hq
      | _ => simp [klike] at h
    | tuple xs => exact absurd rfl (hn xs)
    | _ => cases db <;> simp [klike] at h
theorem katLex_kl {b fin : Bool} {Q : Bool → Shared → Prop} : ∀ (xs ys : List PyData) (i : Nat) (vs ws : List Value) (as bs : List Addr) (ks js : List NestedKey), ReadsAll s.heap vs xs as → ReadsAll s.heap ws ys bs → nkeys xs = some ks → nkeys ys = some js → klikeAll xs ys = true →
    A.units + min (PyData.depthAll xs) (PyData.depthAll ys) < cLine → (b = true → i = 0 → ∀ x r t, xs = x :: r → x ≠ .tuple t) → fin = decide (xs.length < ys.length) → Q (lexT (keyToksAll xs) (keyToksAll ys)) s → KatLex prog w A b fin Q (vs.zip ws) i s
  | [], [], i, _, _, _, _, _, _, ra, rb, _, _, _, _, _, hf, hq => by
    cases ra; cases rb
    unfold lexT at hq
    rw [lex_irrefl] at hq
    exact kat_nil (by rw [hf]; exact hq)
  | [], y :: ys, i, _, _, _, _, _, _, ra, rb, _, _, _, _, _, hf, hq => by
    cases ra
    rw [List.zip_nil_left]
    rw [toks_all_cons] at hq
    simp only [keyToksAll] at hq
    unfold lexT at hq
    rw [lex_diff (O := itemOrd) (by simp)] at hq
    exact kat_nil (by rw [hf]; simpa [itemLt] using hq)
  | x :: xs, [], i, _, _, _, _, _, _, ra, rb, _, _, _, _, _, hf, hq => by
    cases rb
    rw [List.zip_nil_right]
    rw [toks_all_cons] at hq
    simp only [keyToksAll] at hq
    unfold lexT at hq
    rw [lex_diff (O := itemOrd) (by simp)] at hq
    exact kat_nil (by rw [hf]; simpa [itemLt] using hq)
  | x :: xs, y :: ys, i, _, _, _, _, ks, js, ra, rb, e1, e2, h, hu, hb, hf, hq => by
    obtain ⟨k, ks', a1, a2, rfl⟩ := nkeys_cons e1
    obtain ⟨j, js', b1, b2, rfl⟩ := nkeys_cons e2
    have hf' : fin = decide (xs.length < ys.length) := by rw [hf]; simp only [List.length_cons, Nat.add_lt_add_iff_right]
    rw [klikeAll] at h
    cases ra with
    | cons r rs =>
      cases rb with
      | cons r' rs' =>
        rw [List.zip_cons_cons]
        refine kat_cons (eqAt_nk r r' a1 b1 (room_head hu) prog w _ _ ?_)
        cases hx : PyData.eqv x y with
        | true =>
          rw [hx, if_pos rfl, Bool.and_eq_true] at h
          rw [kl_yes h.1 hx] at hq
          exact kat_yes (katLex_kl xs ys (i + 1) _ _ _ _ ks' js' rs rs' a2 b2 h.2 (room_tail hu) (fun _ z => absurd z (Nat.succ_ne_zero i)) hf' hq)
        | false =>
          rw [hx, if_neg Bool.false_ne_true] at h
          rw [kl_no h hx] at hq
          refine kat_no (oneLt_kl (fun z t => ?_) r r' a1 b1 h (room_head hu) hq)
          rw [Bool.and_eq_true] at z
          exact hb z.1 (by simpa using z.2) x xs t rfl
end
mutual
theorem toks_nkey : ∀ (d e : PyData) (k : NestedKey), nkey d = some k → nkey e = some k → keyToks d = keyToks e
  | .none, e, k, h1, h2 => by
    rw [nkey] at h1; cases h1
    cases e with
    | none => rfl
    | tuple ds => rw [nkey, Option.map_eq_some_iff] at h2; obtain ⟨_, _, z⟩ := h2; cases z
    | _ => rw [nkey] at h2; cases h2
  | .bool b, e, k, h1, h2 => by
    rw [nkey] at h1; cases h1
    cases e with
    | bool c => rw [nkey] at h2; injection h2 with h2; injection h2 with h2; simp only [keyToks, h2]
    | int c => rw [nkey] at h2; injection h2 with h2; injection h2 with h2; simp only [keyToks, h2]
    | tuple ds => rw [nkey, Option.map_eq_some_iff] at h2; obtain ⟨_, _, z⟩ := h2; cases z
    | _ => rw [nkey] at h2; cases h2
  | .int i, e, k, h1, h2 => by
    rw [nkey] at h1; cases h1
    cases e with
    | bool c => rw [nkey] at h2; injection h2 with h2; injection h2 with h2; simp only [keyToks, h2]
    | int c => rw [nkey] at h2; injection h2 with h2; injection h2 with h2; simp only [keyToks, h2]
    | tuple ds => rw [nkey, Option.map_eq_some_iff] at h2; obtain ⟨_, _, z⟩ := h2; cases z
    | _ => rw [nkey] at h2; cases h2
  | .str x, e, k, h1, h2 => by
    rw [nkey] at h1; cases h1
    cases e with
    | str y => rw [nkey] at h2; cases h2; rfl
    | tuple ds => rw [nkey, Option.map_eq_some_iff] at h2; obtain ⟨_, _, z⟩ := h2; cases z
    | _ => rw [nkey] at h2; cases h2
  | .list _, e, k, h1, _ => by rw [nkey] at h1; cases h1
  | .dict _, e, k, h1, _ => by rw [nkey] at h1; cases h1
  | .tuple ds, e, k, h1, h2 => by
    rw [nkey, Option.map_eq_some_iff] at h1
    obtain ⟨ks, a1, rfl⟩ := h1
    cases e with
    | tuple es =>
      rw [nkey, Option.map_eq_some_iff] at h2
      obtain ⟨js, a2, z⟩ := h2
      cases z
      simp only [keyToks]
      exact toks_nkeys ds es ks a1 a2
    | _ => rw [nkey] at h2; cases h2
theorem toks_nkeys : ∀ (ds es : List PyData) (ks : List NestedKey), nkeys ds = some ks → nkeys es = some ks → keyToksAll ds = keyToksAll es
  | [], [], _, _, _ => rfl
  | [], e :: es, ks, h1, h2 => by
    obtain ⟨k, ks', _, _, rfl⟩ := nkeys_cons h2
    rw [nkeys] at h1; cases h1
  | d :: ds, [], ks, h1, h2 => by
    obtain ⟨k, ks', _, _, rfl⟩ := nkeys_cons h1
    rw [nkeys] at h2; cases h2
  | d :: ds, e :: es, ks, h1, h2 => by
    obtain ⟨k, ks', a1, a2, rfl⟩ := nkeys_cons h1
    obtain ⟨j, js', b1, b2, z⟩ := nkeys_cons h2
    cases z
    rw [toks_all_cons, toks_all_cons, toks_nkey d e k a1 b1, toks_nkeys ds es ks' a2 b2]
end
/-- keys that can be sorted -/
structure KSort (ds : List PyData) : Prop where
  key : ∀ d ∈ ds, ∃ k, nkey d = some k
  like : ∀ d ∈ ds, ∀ e ∈ ds, klike d e = true
  form : (∃ T, ∀ d ∈ ds, ∃ x r, d = .tuple (x :: r) ∧ dataType x = T) ∨ ∀ d ∈ ds, ∀ xs, d ≠ .tuple xs
  deep : ∀ d ∈ ds, d.depth ≤ 8
theorem kl_type {x y : PyData} (h : klike x y = true) : dataType x = dataType y := by
  cases x <;> cases y <;> first | rfl | (simp [klike] at h)
section
variable {prog : Program} {w : World} {A : Around} {s : Shared}
theorem kind_some {h : Heap} {ds : List PyData} (hk : ∀ d ∈ ds, ∃ k, nkey d = some k) {v : Value} {d : PyData} {as : List Addr} (hd : d ∈ ds) (r : Reads h v d as) : (dataKind h ds).keyOf v = some (keyToks d) := by
  have q : ∃ d, d ∈ ds ∧ ∃ as, Reads h v d as := ⟨d, hd, as, r⟩
  show (open Classical in if q : ∃ d, d ∈ ds ∧ ∃ as, Reads h v d as then some (keyToks q.choose) else none) = _
  rw [dif_pos q]
  obtain ⟨h1, as', h2⟩ := q.choose_spec
  obtain ⟨k, e1⟩ := hk _ h1
  obtain ⟨j, e2⟩ := hk _ hd
  have e := NestedIs.inj _ _ _ (Reads.nested _ _ _ _ h2 e1) (Reads.nested _ _ _ _ r e2)
  subst e
  rw [toks_nkey _ _ _ e1 e2]
theorem sortsAt_kl {vs : List Value} {ds : List PyData} (e : EachIs (fun v d => ∃ as, Reads s.heap v d as) vs ds) (S : KSort ds) (hu : A.units + 8 < cLine) : SortsAt prog w A s (dataKind s.heap ds) vs := by
  have room : ∀ {d d' : PyData}, d ∈ ds → A.units + min d.depth d'.depth < cLine := fun {d d'} hd => by
    have := S.deep d hd
    have := Nat.min_le_left d.depth d'.depth
    omega
  refine ⟨fun v hv => ?_, ?_⟩
  · obtain ⟨d, hd, as, r⟩ := e.left v hv
    exact ⟨_, kind_some S.key hd r⟩
  rcases S.form with ⟨T, ht⟩ | hn
  · have ht' : ∀ d, d ∈ ds → ∃ x r, d = .tuple (x :: r) := fun d hd => let ⟨x, r, h, _⟩ := ht d hd; ⟨x, r, h⟩
    refine ⟨tuples' (T != Value.type "tuple"), ?_, fun h2 E Q hq => ?_⟩
    · intro E x y a b Q ha hb hq
      obtain ⟨d, as, hd, ra, rfl⟩ := dataKind_inv ha
      obtain ⟨d', as', hd', rb, rfl⟩ := dataKind_inv hb
      have hl := S.like d hd d' hd'
      have hr := room (d' := d') hd
      obtain ⟨k, k1⟩ := S.key d hd
      obtain ⟨j, j1⟩ := S.key d' hd'
      obtain ⟨x1, r1, rfl, t1⟩ := ht d hd
      obtain ⟨x2, r2, rfl, t2⟩ := ht d' hd'
      have hq' : Q (dataLt (.tuple (x1 :: r1)) (.tuple (x2 :: r2))) s := hq
      rw [dataLt_tuple] at hq'
      rw [nkey, Option.map_eq_some_iff] at k1 j1
      obtain ⟨ks, n1, rfl⟩ := k1
      obtain ⟨js, n2, rfl⟩ := j1
      rw [klike] at hl
      cases ra with
      | @tuple l o xs n _ _ h1 h2 h3 h4 =>
        cases rb with
        | @tuple l' o' xs' n' _ _ k1 k2 k3 k4 =>
          have m1 : xs.size = (x1 :: r1).length := by simpa using SeqAt.ReadsAll.length _ _ _ h4
          have m2 : xs'.size = (x2 :: r2).length := by simpa using SeqAt.ReadsAll.length _ _ _ k4
          refine kat_lt h1 h3 k1 k3 (katLex_kl (x1 :: r1) (x2 :: r2) 0 _ _ _ _ ks js h4 k4 n1 n2 hl (by have q := SeqAt.room_in hr; omega) (fun hb _ x r t ex => ?_) (by rw [m1, m2]) hq')
          obtain ⟨rfl, rfl⟩ := List.cons.inj ex
          rw [← t1] at hb
          exact dataType_tuple hb t
    · obtain ⟨fs, t1, t2, t3⟩ := each_katTups e ht'
      refine kat_kind (T := T) t1 (by omega) (fun f hf => ?_) ?_ hq
      · obtain ⟨x, r, as, m1, m2⟩ := t3 f hf
        obtain ⟨x', r', e1, e2⟩ := ht _ m1
        cases e1
        rw [← e2]
        exact looks_reads m2
      · cases fs with
        | nil => simp at t2; omega
        | cons f fs =>
          obtain ⟨x, r, as, m1, m2⟩ := t3 f List.mem_cons_self
          obtain ⟨x', r', e1, e2⟩ := ht _ m1
          rw [← e2]
          exact beq_self_eq_true _
  · refine ⟨oneType', ?_, fun h2 E Q hq => ?_⟩
    · intro E x y a b Q ha hb hq
      obtain ⟨d, as, hd, ra, rfl⟩ := dataKind_inv ha
      obtain ⟨d', as', hd', rb, rfl⟩ := dataKind_inv hb
      obtain ⟨k, k1⟩ := S.key d hd
      obtain ⟨j, j1⟩ := S.key d' hd'
      rw [keyLt'_oneType]
      exact oneLt_kl (fun _ => hn d hd) ra rb k1 j1 (S.like d hd d' hd') (room hd) hq
    · cases ds with
      | nil =>
        cases e
        exact absurd h2 (by simp)
      | cons d₀ ds₀ =>
        refine kas_kind (T := dataType d₀) h2 (fun v hv => ?_) (dataType_other (hn d₀ (List.mem_cons_self ..))) (beq_self_eq_true _) hq
        obtain ⟨d, hd, as, r⟩ := e.left v hv
        rw [← kl_type (S.like d hd d₀ (List.mem_cons_self ..))]
        exact looks_reads r
end
end Cl

/-! sorted(xs, key=f), f a def of the program -/
namespace Cl
open PySem PySem.Spec PyProof.Rows L2 PySem.W

def sortBy (ks ds : List PyData) : List PyData := ((ds.zip ks).mergeSort (dataLe false fun b => b.2)).map (·.1)
/-- what stands for an item: its data, its key, its value -/
abbrev Bt := PyData × PyData × V
section
variable {X : Cx} {ZP : ZT} {B : Bs} {g : GW} {H : Hp} {cs : CS} {σ : L2.St} {pins : List (Addr × Obj)} {s : Shared}
def Turned (X : Cx) (ZP : ZT) (B : Bs) (cs : CS) (σ : L2.St) (fv : Value) (d k : PyData) : Prop :=
  ∀ (pins : List (Addr × Obj)) (s : Shared) (H : Hp) (g : GW) (x : V) (u : Value), L2.Inv X pins σ H s → Rel X.kw ZP B g H cs σ → Rp X.kw H g.fz d x → RelV x u →
    wpAny (model X.prog X.w) X.A.in1.in1 (call fv [u]) (EP X pins σ (fun v' H2 => ∃ g2, Rel X.kw ZP B g2 H2 cs σ ∧ Rp X.kw H2 g2.fz k v' ∧ Frm (fun _ => False) g H g2 H2)) (fun _ _ => False) s
/-- between two calls of the key -/
def SJ (X : Cx) (ZP : ZT) (B : Bs) (g : GW) (H : Hp) (cs : CS) (σ : L2.St) (pins : List (Addr × Obj)) (a kS : Addr) (e1 : Nat) (kz : List PyData) (j : Nat) (s' : Shared) : Prop :=
  ∃ H' g' kA e, L2.Inv X pins σ H' s' ∧ Rel X.kw ZP B g' H' cs σ ∧ Frm (fun _ => False) g H g' H' ∧ H' a = none ∧ H' kS = none ∧ s'.heap.get? a = some (seqObj "list" #[] e1) ∧ s'.heap.get? kS = some (seqObj "list" kA e) ∧
    EachIs (fun (u : Value) (k : PyData) => ∃ v, RelV v u ∧ Rp X.kw H' g'.fz k v) kA.toList (kz.take j)
theorem each_push {α β : Type} {R : α → β → Prop} {x : α} {y : β} {as : List α} {bs : List β} (e : EachIs R as bs) (h : R x y) : EachIs R (as ++ [x]) (bs ++ [y]) := by
  induction e with
  | nil => exact .cons h .nil
  | cons r _ ih => exact .cons r ih
theorem each_at {α β : Type} {R : α → β → Prop} {as : List α} {bs : List β} (e : EachIs R as bs) {i : Nat} {x : α} (hx : as[i]? = some x) : ∃ y, bs[i]? = some y ∧ R x y := by
  induction e generalizing i with
  | nil => simp at hx
  | cons r _ ih =>
    cases i with
    | zero => simp at hx; subst hx; exact ⟨_, rfl, r⟩
    | succ i => simpa using ih (i := i) (by simpa using hx)
theorem fp_move {b : Addr} {H' : Hp} (h : FpOk X pins H b) (n : H' b = none) : FpOk X pins H' b := ⟨n, h.2⟩
theorem each3 {K : KW} {H1 : Hp} {fz : Addr → Prop} : ∀ {ds kz : List PyData} {xs : List V} {us : List Value}, RpAll K H1 fz ds xs → Vals xs us → kz.length = ds.length → EachIs (fun (u : Value) (b : (PyData × PyData) × V) => RelV b.2 u ∧ Rp K H1 fz b.1.1 b.2) us ((ds.zip kz).zip xs)
  | [], _, _, _, .nil, .nil, _ => .nil
  | _ :: _, [], _, _, _, _, h => by simp at h
  | _ :: _, k :: kz, _, _, .cons r t, .cons q qs, h => .cons ⟨q, r⟩ (each3 t qs (by simpa using h))
theorem zip3_snd : ∀ {ds kz : List PyData} {xs : List V}, kz.length = ds.length → ds.length = xs.length → ((ds.zip kz).zip xs).map (fun b => b.1.2) = kz
  | [], [], _, _, _ => by simp
  | [], _ :: _, _, h, _ => by simp at h
  | _ :: _, [], _, h, _ => by simp at h
  | _ :: _, _ :: _, [], _, h => by simp at h
  | d :: ds, k :: kz, x :: xs, h1, h2 => by
    simp only [List.zip_cons_cons, List.map_cons]
    rw [zip3_snd (by simpa using h1) (by simpa using h2)]
/-- the calls of the key, one by one; then the sort -/
theorem rest_run {a kS : Addr} {e1 : Nat} {fv : Value} {ds kz : List PyData} {xs : List V} {us : List Value} {P : PySem.Fin → Shared → Prop} {E : Value → Shared → Prop} (hu : X.A.units + 64 < cLine) (hka : kS ≠ a) (fa : FpOk X pins H a) (fk : FpOk X pins H kS)
    (I : L2.Inv X pins σ H s) (R : Rel X.kw ZP B g H cs σ) (na : s.heap.get? a = some (seqObj "list" #[] e1)) (nk : s.heap.get? kS = some (seqObj "list" #[] 0)) (ra : RpAll X.kw H g.fz ds xs) (rv : Vals xs us) (hl : kz.length = ds.length) (hz : ds.length ≤ sizeLine) (S : KSort kz)
    (turn : ∀ (i : Nat) (d k : PyData), ds[i]? = some d → kz[i]? = some k → Turned X ZP B cs σ fv d k)
    (fin : ∀ H' g' vs' s', L2.Inv X pins σ (upd H' a (.lst vs')) s' → Rel X.kw ZP B g' H' cs σ → H' a = none → RpAll X.kw H' g'.fz (sortBy kz ds) vs' → Frm (fun _ => False) g H g' H' → P (.done (.ret .none)) s') :
    wpAny (model X.prog X.w) X.A.in1.in1 (ksk_rest a fv false us.toArray e1 (.ref kS)) P E s := by
  have hdl := ra.length
  have hul := rv.length
  unfold ksk_rest
  refine wpAny_bind (wpAny_rule ?_)
  rw [← Array.forIn_toList]
  refine wpAny_bind (ksk_fold (fun i s' => SJ X ZP B g H cs σ pins a kS e1 kz i s') us 0 s ⟨H, g, #[], 0, I, R, .refl, fa.1, fk.1, na, nk, by rw [List.take_zero]; exact .nil⟩ (fun j x s' hx hJ => ?_) fun s' hJ => ?_)
  · simp only [Nat.zero_add] at hJ ⊢
    obtain ⟨H1, g1, kA, e, I1, R1, f1, a1, k1, oa, ok, ek⟩ := hJ
    have hj : j < us.length := (List.getElem?_eq_some_iff.mp hx).1
    obtain ⟨k, hk⟩ : ∃ k, kz[j]? = some k := ⟨_, List.getElem?_eq_getElem (by omega)⟩
    obtain ⟨d, hd⟩ : ∃ d, ds[j]? = some d := ⟨_, List.getElem?_eq_getElem (by omega)⟩
    obtain ⟨v, hv, rd⟩ := ra.get' hd
    obtain ⟨x', hx', rx⟩ := rv.get hv
    rw [hx] at hx'; cases hx'
    have rd1 : Rp X.kw H1 g1.fz d v := Rp.frm f1 (fun b h => ⟨(R.fzow b h).1, fun z => z⟩) rd
    have noc : ∀ (vs : Array Value) (n : Nat) (v : Option Value), (seqObj "list" vs n).data ≠ .cell v := (fun vs n v z => nomatch z)
    have Ip := I1.pinned (fp := [a, kS]) (fun b hb => by
      rcases List.mem_cons.mp hb with rfl | hb
      · exact fp_move fa a1
      · obtain rfl := List.mem_singleton.mp hb
        exact fp_move fk k1) (fun b hb => by
      rcases List.mem_cons.mp hb with rfl | hb
      · exact ⟨_, oa, noc _ _⟩
      · obtain rfl := List.mem_singleton.mp hb
        exact ⟨_, ok, noc _ _⟩)
    refine wpAny_bind (wpAny_attempt (wpAny_mono (turn j d k hd hk _ s' H1 g1 v x Ip R1 rd1 rx) (fun u s2 he => ?_) fun _ _ z => z.elim))
    obtain ⟨v2, H2, I2, r2, g2, R2, rk, f2⟩ := he
    have pa := I2.pin (a, seqObj "list" #[] e1) (List.mem_append_right _ (List.mem_append_right _ (by
      unfold pinsAt
      exact List.mem_filterMap.mpr ⟨a, List.mem_cons_self, by rw [oa]; rfl⟩)))
    have pk := I2.pin (kS, seqObj "list" kA e) (List.mem_append_right _ (List.mem_append_right _ (by
      unfold pinsAt
      exact List.mem_filterMap.mpr ⟨kS, List.mem_cons_of_mem _ List.mem_cons_self, by rw [ok]; rfl⟩)))
    obtain ⟨oa2, a2, _⟩ := pa
    obtain ⟨ok2, k2, _⟩ := pk
    have I3 := I2.unpinned
    dsimp only
    have hz2 : kA.size ≤ us.length := by
      have h1 := ek.length
      rw [Array.length_toList, List.length_take] at h1
      omega
    have sb := Heap.SameBut.update s2.heap kS (Obj.mapSeq (·.push u))
    obtain ⟨c2, hc2⟩ : ∃ c2, (s2.heap.update kS (Obj.mapSeq (·.push u))).get? kS = some (seqObj "list" (kA.push u) c2) := ⟨_, get?_update_seq ok2 (·.push u)⟩
    refine wpAny_bind (listUpdate_at ok2 rfl ?_ (by omega) (by rw [Array.size_push]; omega))
    obtain ⟨f0, f1', f2', f3, f4, f5⟩ := fp_move fk k2
    have I4 : L2.Inv X pins σ H2 { s2 with heap := s2.heap.update kS (Obj.mapSeq (·.push u)) } := I3.turned (t' := s2.toks) (fun b o hb e => (sb.2 b hb).trans e) f0 f1' f3 f4 f5
    have ff := f1.trans f2
    refine wpAny_pure ⟨rfl, H2, g2, kA.push u, c2, I4, R2, ff, a2, k2, (sb.2 a hka.symm).trans oa2, hc2, ?_⟩
    have et : kz.take (j + 1) = kz.take j ++ [k] := by rw [List.take_add_one, hk]; rfl
    rw [et, show (kA.push u).toList = kA.toList ++ [u] by simp]
    refine each_push (ek.mono fun u' k' ⟨v', q1, q2⟩ => ⟨v', q1, Rp.frm f2 (fun b h => ⟨(R1.fzow b h).1, fun z => z⟩) q2⟩) ⟨v2, r2, rk⟩
  · simp only [Nat.zero_add] at hJ
    obtain ⟨H1, g1, kA, e, I1, R1, f1, a1, k1, oa, ok, ek⟩ := hJ
    rw [List.take_of_length_le (by omega)] at ek
    have hsz : kA.size = us.length := by
      have h1 := ek.length
      rw [Array.length_toList] at h1
      omega
    refine wpAny_bind (listItems_at ok rfl ?_)
    have er : EachIs (fun (u : Value) (k : PyData) => ∃ as, Reads s'.heap u k as) kA.toList kz := ek.mono fun u k ⟨v, q1, q2⟩ => by
      obtain ⟨as, rd, _⟩ := RB.reads I1 q2.rb q1
      exact ⟨as, rd⟩
    refine keyH_end (κ := dataKind s'.heap kz) (h₁ := hideAll s'.heap [kS]) (vs := us) (fun b o hb q => of_hideAll _ q) (hideAll_none _ List.mem_cons_self) ok oa hka (sortsAt_kl er S (by show X.A.units + 1 + 1 + 8 < cLine; omega)) hsz (by omega) fun h3 tk c kp ha3 => ?_
    have ra1 : RpAll X.kw H1 g1.fz ds xs := RpAll.frm f1 (fun b h => ⟨(R.fzow b h).1, fun z => z⟩) ra
    -- the items with their keys
    have ez := each3 ra1 rv hl
    have hzl : ((ds.zip kz).zip xs).map (fun b => b.1.2) = kz := zip3_snd hl hdl
    have hfs : ((ds.zip kz).zip xs).map (·.1) = ds.zip kz := by
      rw [List.map_fst_zip]
      rw [List.length_zip]; omega
    have ekk : EachIs (fun (u : Value) (b : (PyData × PyData) × V) => (dataKind s'.heap kz).keyOf u = some (keyToks b.1.2)) kA.toList ((ds.zip kz).zip xs) := by
      have h2 := (each_mem er).mono (R' := fun u k => (dataKind s'.heap kz).keyOf u = some (keyToks k)) fun u k ⟨⟨as, r⟩, hk⟩ => kind_some S.key hk r
      have h3 : EachIs (fun (u : Value) (k : PyData) => (dataKind s'.heap kz).keyOf u = some (keyToks k)) kA.toList (((ds.zip kz).zip xs).map fun b => b.1.2) := by rw [hzl]; exact h2
      exact each_of_map (fun b : (PyData × PyData) × V => b.1.2) h3
    have out := sortVals_each (rev := false) (κ := dataKind s'.heap kz) (fun b : (PyData × PyData) × V => keyToks b.1.2) ez ekk
    obtain ⟨o1, o2⟩ : Vals ((((ds.zip kz).zip xs).mergeSort (sortLe (listOrd itemOrd) false fun b => keyToks b.1.2)).map (·.2)) (sortVals (dataKind s'.heap kz) false kA.toList us) ∧
        RpAll X.kw H1 g1.fz ((((ds.zip kz).zip xs).mergeSort (sortLe (listOrd itemOrd) false fun b => keyToks b.1.2)).map (·.1.1)) ((((ds.zip kz).zip xs).mergeSort (sortLe (listOrd itemOrd) false fun b => keyToks b.1.2)).map (·.2)) := by
      have gen : ∀ {us : List Value} {bs : List ((PyData × PyData) × V)}, EachIs (fun (u : Value) (b : (PyData × PyData) × V) => RelV b.2 u ∧ Rp X.kw H1 g1.fz b.1.1 b.2) us bs → Vals (bs.map (·.2)) us ∧ RpAll X.kw H1 g1.fz (bs.map (·.1.1)) (bs.map (·.2)) := by
        intro us bs e
        induction e with
        | nil => exact ⟨.nil, .nil⟩
        | cons h _ ih => exact ⟨.cons h.1 ih.1, .cons h.2 ih.2⟩
      exact gen out
    have em : (((ds.zip kz).zip xs).mergeSort (sortLe (listOrd itemOrd) false fun b => keyToks b.1.2)).map (·.1.1) = sortBy kz ds := by
      have e := List.map_mergeSort (r := sortLe (listOrd itemOrd) false fun b : (PyData × PyData) × V => keyToks b.1.2) (s := dataLe false fun b : PyData × PyData => b.2) (f := fun b : (PyData × PyData) × V => b.1) (l := (ds.zip kz).zip xs) (fun a _ b _ => rfl)
      rw [hfs] at e
      unfold sortBy
      rw [← e, List.map_map]
      rfl
    rw [em] at o2
    have keep : ∀ b o, b ≠ a → b ≠ kS → s'.heap.get? b = some o → h3.get? b = some o := fun b o h1 h2 q => kp b o h1 (hideAll_get _ q (by simpa using h2))
    obtain ⟨_, fa1, fa2, fa3, fa4, fa5⟩ := fa
    obtain ⟨_, fk1, fk2, fk3, fk4, fk5⟩ := fk
    have hsl : (sortVals (dataKind s'.heap kz) false kA.toList us).length = us.length := sortVals_length false (by rw [Array.length_toList]; exact hsz)
    have nH : ∀ b u, H1 b = some u → b ≠ a ∧ b ≠ kS := fun b u q => ⟨(fun z => by rw [z, a1] at q; cases q), (fun z => by rw [z, k1] at q; cases q)⟩
    refine fin H1 g1 _ { s' with heap := h3, toks := tk } ?_ R1 a1 o2 f1
    refine I1.step (g' := s'.gens) (d' := s'.drawn) (t' := tk) (ch := [a, kS]) (fun b hb => ?_) (fun b o _ _ hb q _ => keep b o (fun z => hb (by simp [z])) (fun z => hb (by simp [z])) q) (fun b o _ _ hb q _ => ⟨o.slots, keep b o (fun z => hb (by simp [z])) (fun z => hb (by simp [z])) q⟩)
      (fun b o hb _ n => by rw [upd_ne (fun z => hb (by simp [z]))]; exact n) (fun b o hb q => ⟨o, keep b o (fun z => hb (by simp [z])) (fun z => hb (by simp [z])) q⟩) (fun b ys q => by rw [upd_ne (nH b _ q).1]; exact q) (fun b o u q => by rw [upd_ne (nH b _ q).1]; exact q)
      (fun b ps q => ⟨#[], by rw [upd_ne (nH b _ q).1, q]; simp⟩) (fun m hm => ?_) (fun b u q => ?_) I1.bare
    · rcases List.mem_cons.mp hb with rfl | hb
      · exact ⟨fa3, fa1, fa4, fa5⟩
      · obtain rfl := List.mem_singleton.mp hb
        exact ⟨fk3, fk1, fk4, fk5⟩
    · obtain ⟨o, es, ep, ho, r⟩ := hm
      exact ⟨o, es, ep, keep _ o (Ne.symm fa1) (Ne.symm fk1) ho, r⟩
    · by_cases hb : b = a
      · subst hb
        rw [upd_same] at q
        cases q
        exact ⟨by rw [o1.length, hsl]; omega, _, c, o1, ha3⟩
      · rw [upd_ne hb] at q
        refine (I1.hok b u q).stay (fun c v hc z => ?_) (fun c z => by rw [upd_ne (nH c _ z).1]; exact z) fun c ys z => by rw [upd_ne (nH c _ z).1]; exact z
        have hcn : c ≠ a ∧ c ≠ kS := by
          rcases hc with rfl | hc
          · exact nH c u q
          · exact nH c _ hc
        exact keep c v hcn.1 hcn.2 z
end
end Cl

namespace Cl
open PySem PySem.Spec PyProof.Rows L2 PySem.W
section
variable {X : Cx} {ZP : ZT} {B : Bs} {g : GW} {H : Hp} {cs : CS} {σ : L2.St} {pins : List (Addr × Obj)} {s : Shared}
theorem sortK_run {l q : Addr} {ds kz : List PyData} {xs : List V} {Q : Value → Shared → Prop} {E : Value → Shared → Prop} (hu : X.A.units + 64 < cLine) (I : L2.Inv X pins σ H s) (R : Rel X.kw ZP B g H cs σ) (hq : SqL X.K H l xs) (ra : RpAll X.kw H g.fz ds xs) (hl : kz.length = ds.length) (hz : ds.length ≤ sizeLine) (S : KSort kz)
    (turn : ∀ (i : Nat) (d k : PyData), ds[i]? = some d → kz[i]? = some k → Turned X ZP B cs σ (.ref q) d k)
    (fin : ∀ p H' g' vs' s', L2.Inv X pins σ (upd H' p (.lst vs')) s' → Rel X.kw ZP B g' H' cs σ → H' p = none → H p = none → RpAll X.kw H' g'.fz (sortBy kz ds) vs' → Frm (fun _ => False) g H g' H' → Q (.ref p) s') :
    wpAny (model X.prog X.w) X.A (call (.builtin "sorted") [.ref l] [(Str.ofString "key", .ref q)]) Q E s := by
  obtain ⟨us, rv, pl, hz'⟩ := I.list hq
  have hdl := ra.length
  have hul := rv.length
  have I1 : L2.Inv X pins σ H { s with heap := copyHeap s.heap us } := I.kept (t' := s.toks) fun b o e => copyHeap_old e
  have ha := copyHeap_at s.heap us
  have hn : H (s.heap.objs.size + 1) = none := I.hok.fresh (Nat.le_succ _)
  refine sorted_of_sort pl.isList (by omega) (ksk_s1 _ _) (fun _ => ksk_l1 _ _) fun E' => ?_
  rw [ksk_t1]
  obtain ⟨e1, ho1⟩ : ∃ e1, ((copyHeap s.heap us).update (s.heap.objs.size + 1) (Obj.mapSeq fun _ => (#[] : Array Value))).get? (s.heap.objs.size + 1) = some (seqObj "list" #[] e1) := ⟨_, get?_update_seq ha fun _ => #[]⟩
  unfold ksk_tree
  refine wpAny_bind (listItems_at (s := { s with heap := copyHeap s.heap us }) ha rfl ?_)
  refine wpAny_bind (listUpdate_at (s := { s with heap := copyHeap s.heap us }) ha rfl ?_ (by rw [List.size_toArray]; omega) (Nat.zero_le _))
  refine wpAny_bind (seqEpoch_at ho1 rfl ?_)
  refine wpAny_bind (wpAny_newTuple ?_ (by show us.length ≤ _; omega))
  refine wpAny_bind (wpAny_newList ?_ (Nat.zero_le _))
  refine wpAny_holding ?_
  have up : ∀ b o, s.heap.get? b = some o → (sortingHeap (copyHeap s.heap us) (s.heap.objs.size + 1) us).get? b = some o := fun b o e => sortingHeap_old (Nat.ne_of_lt (Nat.lt_succ_of_lt (Heap.lt_size e))) (copyHeap_old e)
  have hsz : (((copyHeap s.heap us).update (s.heap.objs.size + 1) (Obj.mapSeq fun _ => (#[] : Array Value))).push (seqObj "tuple" us.toArray 0)).objs.size = (copyHeap s.heap us).objs.size + 1 := by rw [size_push', Heap.size_update]
  have hsc : s.heap.objs.size + 1 < (copyHeap s.heap us).objs.size := Heap.lt_size ha
  refine rest_run (P := fun f s' => f = .done (.ret .none) ∧ Q (.ref (s.heap.objs.size + 1)) s') hu ?_ (I.fpOk (Nat.le_succ _) hn) (I.fpOk ?_ (I.hok.fresh ?_)) (I.kept (h' := sortingHeap (copyHeap s.heap us) (s.heap.objs.size + 1) us) (t' := s.toks) up) R (Heap.get?_push_of_some _ (Heap.get?_push_of_some _ ho1)) (Heap.get?_push_size _ rfl) ra rv hl hz S turn fun H' g' vs' s' J R' n rr f => ⟨rfl, fin _ H' g' vs' s' J R' n hn rr f⟩
  · rw [hsz]; exact Nat.ne_of_gt (by omega)
  · rw [hsz]; omega
  · rw [hsz]; omega
end
def t_sortK (C : TF) (ta : TLD) : TD := fun cs Q => ta cs fun l cs1 => match l.get cs1 with
  | some (.list ds) => ds.length ≤ sizeLine ∧ ∃ ks : List PyData, ks.length = ds.length ∧ KSort ks ∧ (∀ (i : Nat) (d k : PyData), ds[i]? = some d → ks[i]? = some k → C [.dat d] fun sv => sv = .dat k) ∧ Q (.own (sortBy ks ds)) cs1
  | _ => False
section
variable {X : Cx} {ZP : ZT} {k : Nat} {f : Addr} {fd : FuncData} {ps : List Str} {x : Str} {p pos p1 kpos : Pos} {e : Expr} {ta : TLD} {C : TF}
theorem turned_of {B : Bs} {cs : CS} {σ : L2.St} (F : FnG X.prog X.w X.K X.mg X.base CX0 k f fd ps (spD X.kw ZP.zp 1 C)) (hgd : X.A.guards = some []) (hr : Room (k + 2) X.A) (hb : Binds X.K fd ps []) {d kd : PyData} (h : C [.dat d] fun sv => sv = .dat kd) : Turned X ZP B cs σ (.ref f) d kd := by
  intro pins s H g x u I R rd rx
  have rvs : Vals [x] [u] := .cons rx .nil
  have want : spD X.kw ZP.zp 1 C [x] H (fun v' H2 => ∃ g2, Rel X.kw ZP B g2 H2 cs σ ∧ Rp X.kw H2 g2.fz kd v' ∧ Frm (fun _ => False) g H g2 H2) E0 := by
    refine ⟨rfl, [.dat d], g, .cons rd .nil, (fun sv hm => by rw [List.mem_singleton.mp hm]; rfl), ⟨R.zok, R.fzok⟩, _, h, fun sv v g' H' q G' r _ f' => ?_⟩
    subst q
    exact ⟨g', R.go f' G'.zok G'.fzok, r, f'⟩
  have hl : [u].length = ps.length := by rw [← F.len _ _ _ _ want]; rfl
  have b := hb s [u] I.kIn (by rw [List.append_nil]; exact hl)
  rw [List.append_nil] at b
  refine wpAny_call (codeAny_mono (F.run X.A.in1.in1 X.stack s H ⟨[u], []⟩ [u] [x] _ E0 hgd (Room.in1 (Room.in1 hr)) I.env0.in1.in1 b rvs want) ?_)
  intro res s' z
  cases res with
  | error e => exact z.elim
  | ok fl =>
    cases fl with
    | ret u => exact I.after z
    | next => exact z.elim
    | brk => exact z.elim
    | cont => exact z.elim
theorem de_sortK (F : FnG X.prog X.w X.K X.mg X.base CX0 k f fd ps (spD X.kw ZP.zp 1 C)) (hgd : X.A.guards = some []) (hr : Room (k + 2) X.A) (hu : X.A.units + 64 < cLine) (hg : Gl X x) (hm : X.mg x = some (.ref f)) (hb : Binds X.K fd ps []) (hgs : Gl X "sorted") (hms : X.mg "sorted" = none)
    (ha : DL X ZP e ta) (hdb : (x == ("__debug__" : Str)) = false := by decide)
    (hs : starEach [e] X.env = (false, eval e X.env) :: starEach [] X.env := by rfl)
    (he : backTo pos (starEach [e] X.env) = (false, eval e X.env) :: backTo pos (starEach [] X.env) := by rfl) (hpl : (backTo pos (starEach [e] X.env)).any (·.1) = false := by rfl)
    (hall : (backToKw pos (keywordEach [⟨some "key", .Name x p1, kpos⟩] X.env)).all (·.1.isSome) = true := by rfl) (hnone : (backToKw pos (keywordEach [⟨some "key", .Name x p1, kpos⟩] X.env)).any (·.1.isNone) = false := by rfl) (hks : (backToKw pos (keywordEach [⟨some "key", .Name x p1, kpos⟩] X.env)).filterMap (·.1) = [Str.ofString "key"] := by rfl) :
    DE X ZP (.Call (.Name "sorted" p) [e] [⟨some "key", .Name x p1, kpos⟩] pos) (t_sortK C ta) := by
  refine ⟨⟨fun pins s σ H Q I h => ?_⟩⟩
  obtain ⟨B, cs, g, R, Q', q, kk⟩ := h
  refine wpAny_Call_Name_kw (ld_blt (u := .builtin "sorted") I hgs hms (by decide +kernel) ?_ (by decide) (by decide))
  refine PyProof.Rows.callWith_kw (thn ((pa_cons ha.pe pa_nil hs).run pos pins s σ H (fun vs H1 => ∃ v l ds ks cs1 g1, vs = [v] ∧ l.get cs1 = some (.list ds) ∧ (ds.length ≤ sizeLine ∧ ks.length = ds.length ∧ KSort ks ∧ (∀ (i : Nat) (d k : PyData), ds[i]? = some d → ks[i]? = some k → C [.dat d] fun sv => sv = .dat k) ∧ Q' (.own (sortBy ks ds)) cs1) ∧
      Rel X.kw ZP B g1 H1 cs1 σ ∧ LOk X.kw g1 H1 σ l v ∧ (∀ a, ow cs1 σ a → ow cs σ a) ∧ Frm (ow cs σ) g H g1 H1) I ⟨B, cs, g, R, _, q, fun l cs1 v g1 H1 q1 R1 r1 s1 f1 => ?_⟩)
    fun us s1 ⟨vs, H1, I1, r1, q1⟩ => thn ((pk_cons (pe_glob (v := .ref f) hg hm rfl hdb) pk_nil).run pos pins s1 σ H1 (fun zs H2 => zs = [.ref f] ∧ H2 = H1) I1 ⟨rfl, rfl⟩) fun ws s2 ⟨zs, H2, I2, r2, q2⟩ => ?_) he hpl hall hnone
  · cases e1 : l.get cs1 with
    | none => rw [e1] at q1; exact q1.elim
    | some d =>
      rw [e1] at q1
      cases d with
      | list ds =>
        obtain ⟨hz, ks, h1, h2, h3, h4⟩ := q1
        exact ⟨v, l, ds, ks, cs1, g1, rfl, e1, ⟨hz, h1, h2, h3, h4⟩, R1, r1, s1, f1⟩
      | _ => exact q1.elim
  · rw [hks]
    obtain ⟨rfl, rfl⟩ := q2
    obtain ⟨v, l, ds, ks, cs1, g1, rfl, e1, ⟨hz, h1, h2, h3, h4⟩, R1, rl, z1, f1⟩ := q1
    have rb := rl.rb R1 e1
    obtain ⟨a, xs, rfl, hq, ra⟩ := rb.lst
    rw [Vals.ref1 r1, Vals.ref1 r2]
    refine sortK_run hu I2 R1 (SqL.of hq) ra h1 hz h2 (fun i d kd e1 e2 => turned_of F hgd hr hb (h3 i d kd e1 e2)) fun p H' g' vs' s' J R' n n0 rr f => ?_
    have nfp := R'.nofz n
    refine ⟨.ref p, _, J, rfl, kk (.own (sortBy ks ds)) cs1 (.ref p) g' (upd H' p (.lst vs')) h4 (R'.laid n) ⟨p, vs', rfl, upd_same, nfp.1, nfp.2, rr.laid (R'.fzne n) n⟩ (fun ys b e1 e2 => ?_) z1 ((f1.trans (f.mono fun _ _ _ z => z.elim)).trans (.laid n))⟩
    cases e2
    refine ⟨fun z => ?_, ?_⟩
    · obtain ⟨u, e⟩ := R'.owsome z
      rw [n] at e; cases e
    · cases e5 : H p with
      | none => rfl
      | some u =>
        obtain ⟨u', e6⟩ := f1.any p u e5
        rw [n0] at e6; cases e6
end
end Cl

/-! {} as an own dict; xs.pop(i); max(a, b), min(a, b); a contract that is never met -/
namespace Cl
open PySem PySem.Spec PyProof.Rows L2
section
variable {X : Cx} {ZP : ZT} {pos : Pos}
def t_gd0 : TD := fun cs Q => Q (.gd []) cs
theorem de_gd0 : DE X ZP (.Dict [] [] pos) t_gd0 := by
  refine ⟨⟨fun pins s σ H Q I h => ?_⟩⟩
  obtain ⟨B, cs, g, R, Q', q, k⟩ := h
  have hn := I.hok.fresh (Nat.le_refl s.heap.objs.size)
  have hd : DictHas s.heap.objs.size 0 [] (s.heap.push { cls := .type "dict", data := .dict #[] }) := ⟨Ne.symm (Nat.ne_of_lt I.big), _, Heap.get?_push_size _ rfl, ⟨rfl, rfl, rfl⟩, rfl⟩
  have n := R.nofz hn
  refine wpAny_Dict_empty ⟨.ref s.heap.objs.size, _, I.laid (a := s.heap.objs.size) (o := .ext (DictHas s.heap.objs.size 0 [])) (t' := s.toks) (fun _ _ q => Heap.get?_push_of_some _ q) (Nat.le_refl _) (ext_dict hd), rfl, ?_⟩
  refine k (.gd []) cs _ g _ q (R.laid hn) ⟨_, rfl, n.1, n.2, 0, [], [], [], upd_same, .nil, .nil, .nil, .nil, [], rfl, .nil, (fun _ z => nomatch z), rfl⟩ (fun xs a e1 e2 => ?_) (fun _ h => h) (.laid hn)
  cases e2
  refine ⟨fun h => ?_, hn⟩
  obtain ⟨u, h⟩ := R.owsome h
  rw [hn] at h; cases h
end
/-! ### max, min of two -/
def max2X : OpX := fun x y Q => match x, y with
  | .int i, .int j => Q (.dat (.int (if j > i then j else i)))
  | _, _ => False
def min2X : OpX := fun x y Q => match x, y with
  | .int i, .int j => Q (.dat (.int (if j < i then j else i)))
  | _, _ => False
theorem c_max2 {X : Cx} (hc : X.calm = true) : CallR X (.builtin "max") (rC2 X.kw max2X) := by
  rintro pins s σ H xs us Q I r ⟨x, y, fz, d, e, rfl, hd, he, Q', q, k⟩
  cases d with
  | int i =>
    cases e with
    | int j =>
      cases hd.int; cases he.int
      exact call_max2 hc pins s σ H _ us Q I r ⟨i, j, rfl, k _ _ _ q (.same (.int _))⟩
    | _ => exact q.elim
  | _ => cases e <;> exact q.elim
theorem c_min2 {X : Cx} (hc : X.calm = true) : CallR X (.builtin "min") (rC2 X.kw min2X) := by
  rintro pins s σ H xs us Q I r ⟨x, y, fz, d, e, rfl, hd, he, Q', q, k⟩
  cases d with
  | int i =>
    cases e with
    | int j =>
      cases hd.int; cases he.int
      exact call_min2 hc pins s σ H _ us Q I r ⟨i, j, rfl, k _ _ _ q (.same (.int _))⟩
    | _ => exact q.elim
  | _ => cases e <;> exact q.elim
/-! ### xs.pop(i) -/
theorem RpAll.eraseIdx {K : KW} {H : Hp} {fz : Addr → Prop} : ∀ {ds : List PyData} {vs : List V} (i : Nat), RpAll K H fz ds vs → RpAll K H fz (ds.eraseIdx i) (vs.eraseIdx i)
  | _, _, _, .nil => .nil
  | _, _, 0, .cons _ t => t
  | _, _, i + 1, .cons r t => .cons r (RpAll.eraseIdx i t)
def t_popAt (i : Nat) (te : TVD) : TVD := fun cs Q => (∃ xs, cs[i]? = some (some (.own xs))) ∧ te cs fun d cs1 => match d with
  | .int j => ∃ xs k e, cs1[i]? = some (some (.own xs)) ∧ seqIndex? j xs.length = some k ∧ xs[k]? = some e ∧ -(2 ^ 63) ≤ j ∧ j < 2 ^ 63 ∧ Q e (cs1.set i (some (.own (xs.eraseIdx k))))
  | _ => False
section
variable {X : Cx} {ZP : ZT} {e : Expr} {x : Str} {xpos apos cpos pos : Pos} {te : TVD}
theorem dvpopi (i : Nat) (h : DV X ZP e te) (hN : X.N[i]? = some x := by rfl) (hv : Vis X.env.scope x := by first | exact Or.inl rfl | exact Or.inr (Or.inl rfl) | exact Or.inr (Or.inr rfl)) (hd : (x == ("__debug__" : Str)) = false := by decide) (hcd : (x == ("__classdict__" : Str)) = false := by decide)
    (hst : starEach [e] X.env = (false, eval e X.env) :: starEach [] X.env := by rfl) (hbase : attributeBase (.Name x xpos) "pop" X.env (eval (.Name x xpos) X.env) = eval (.Name x xpos) X.env := by rfl) (hfew : ((backTo cpos (starEach [e] X.env)).all (fun x => !x.1) && (backToKw cpos (keywordEach [] X.env)).all (fun x => x.1.isSome)
      && decide (([e] : List Expr).length + ([] : List Keyword).length + (if ([] : List Keyword).isEmpty then 0 else 1) < 30)) = true := by rfl) (hline : (apos.endLine == cpos.line) = true := by rfl) :
    DV X ZP (.Call (.Attribute (.Name x xpos) "pop" apos) [e] [] cpos) (t_popAt i te) := by
  refine ⟨PE.imp (pe_bm PySem.F.plainAttrs_list PySem.F.slot_list_pop PySem.F.type_list_pop mt_popAt (pe_var hN hv hd hcd) (pa_cons h.pe pa_nil hst) hbase hfew hline hst rfl) ?_⟩
  rintro σ H Q ⟨B, cs, g, R, Q', ⟨⟨xs, e1⟩, q⟩, k⟩
  obtain ⟨v, e2, _⟩ := R.slot i _ e1
  refine ⟨v, e2, (ty_own R e1 e2).1, B, cs, g, R, _, q, fun d cs1 u g1 H1 q1 R1 r1 s1 f1 => ?_⟩
  cases d with
  | int j =>
    obtain ⟨ys, kk, c, e3, hi, hc, b1, b2, q2⟩ := q1
    cases r1
    obtain ⟨_, a, vs, rfl, ha, ra⟩ := ty_own R1 e3 e2
    obtain ⟨y, hy, ry⟩ := ra.get' hc
    refine ⟨a, vs, j, kk, y, rfl, rfl, ha, b1, b2, by rw [← ra.length]; exact hi, hy, ?_⟩
    have n1 := (R1.slot i _ e3)
    obtain ⟨R2, f2, s2⟩ := R1.updOwn e3 e2 (ra.eraseIdx kk)
    have f12 := f1.trans (f2.mono fun b _ _ h => s1 b h)
    exact k c _ y g1 _ q2 R2 (Rp.frm f2 R1.fzow ry) (fun b h => s1 b (s2 b h)) f12
  | _ => exact q1.elim
end
/-! ### a promise that asks too much -/
theorem fnG_no {P : Program} {w : World} {K : PySem.W.Frag} {mg : Str → Option Value} {base : Heap} {k : Nat} {f : Addr} {fd : FuncData} {ps : List Str} {KK : KW} {zp : ZF} {n : Nat} : FnG P w K mg base CX0 k f fd ps (spD KK zp n fun _ _ => False) :=
  ⟨fun vs H Q E ⟨_, _, _, _, _, _, _, q, _⟩ => q.elim, fun A o s H a us vs Q E _ _ _ _ _ ⟨_, _, _, _, _, _, _, q, _⟩ => q.elim⟩
end Cl

/-! dict(xs), xs a list of pairs -/
namespace Cl
open PySem PySem.Spec PyProof.Rows L2
section
variable {X : Cx} {ZP : ZT} {B : Bs} {g : GW} {cs : CS} {σ : L2.St} {pins : List (Addr × Obj)}
theorem gloop {Rz : Result → Shared → Prop} {A : Around} {S It l : Addr} {xs : List V} {res : Value} (hh : A.handled = none) (hu : A.units + 20 < cLine) (hcalm : X.calm = true) (nf : ¬ g.fz S) (nz : g.zs S = none) (no : ¬ ow cs σ S) (hb : B.1 S = none) (hSI : S ≠ It) (hSl : S ≠ l) :
    ∀ (kvs : GKV) (i : Nat) (acc : GKV) (ix : Int) (t : Tok) (H : Hp) (s : Shared), L2.Inv X pins σ H s → Rel X.kw ZP B g H cs σ → RS X.kw g H (.gd acc) (.ref S) → FpOk X pins H It → H l = some (.lst xs) → s.heap.IsListIter It l i →
      (∀ (j : Nat) (kv : PyData × PyData), kvs[j]? = some kv → ∃ v, xs[i + j]? = some v ∧ Rp X.kw H g.fz (.tuple [kv.1, kv.2]) v) → xs.length = i + kvs.length → (∀ kv ∈ kvs, hashK kv.1 = true) → acc.length + kvs.length ≤ sizeLine →
      (∀ H' s', L2.Inv X pins σ H' s' → Rel X.kw ZP B g H' cs σ → RS X.kw g H' (.gd (putAll acc kvs)) (.ref S) → Frm (fun a => a = S) g H g H' → Rz (.ok (.ret res)) s') →
      codeAny (model X.prog X.w) A (.builtin "dict.update.loop" ⟨[.ref S, .ref It, .int ix t, res], []⟩) Rz s
  | [], i, acc, ix, t, H, s, I, R, rs, fI, hl, hit, hp, hx, hk, hz, k => by
    refine codeAny_builtin ud_entry ?_
    rw [Around.under_plainId ud_plain _]
    show wpAny _ A.in1 (pyNext (.ref It) >>= _) _ _ s
    obtain ⟨its, rv, pl, hzl⟩ := I.list (SqL.of hl)
    have hlen := rv.length
    obtain ⟨f0, f1, f2, f3, f4, f5⟩ := fI
    refine wpAny_bind (wpAny_pyNext_list_end (A := A.in1) hh hit pl.isList (by simp at hx ⊢; omega) fun h' he => ?_)
    show wpAny _ A.in1 (Builtin.Dict.addKeywords S [] >>= _) _ _ _
    refine wpAny_bind (wpAny_pure (wpAny_pure ?_))
    exact k H _ (I.turned (t' := s.toks) (fun b o hb e => he b o hb e) f0 f1 f3 f4 f5) R rs .refl
  | (kd, d) :: kvs, i, acc, ix, t, H, s, I, R, rs, fI, hl, hit, hp, hx, hk, hz, k => by
    obtain ⟨v, hv, rp⟩ := hp 0 (kd, d) rfl
    obtain ⟨b, ys, rfl, hb2, ra⟩ := rp.rb.tup
    cases ra with
    | @cons y _ _ _ r1 ra =>
    cases ra with
    | @cons z _ _ _ r2 ra =>
    cases ra
    obtain ⟨its, rv, pl, hzl⟩ := I.list (SqL.of hl)
    obtain ⟨ub, hub, rub⟩ := rv.get (by simpa using hv)
    obtain rfl : ub = Value.ref b := rub
    rw [List.length_cons] at hx hz
    refine codeAny_builtin ud_entry ?_
    rw [Around.under_plainId ud_plain _]
    show wpAny _ A.in1 (pyNext (.ref It) >>= _) _ _ s
    obtain ⟨f0, f1, f2, f3, f4, f5⟩ := id fI
    refine wpAny_bind (wpAny_pyNext_list_item (x := .ref b) hit pl.isList (by simpa using hub) fun h1 hit1 hs1 => ?_)
    have I1 : L2.Inv X pins σ H { s with heap := h1 } := I.turned (t' := s.toks) (fun b o hb e => (hs1.2 b hb).trans e) f0 f1 f3 f4 f5
    obtain ⟨us2, rv2, ht, _⟩ := I1.tuple (SqT.of hb2)
    obtain ⟨u, w, rfl, ru, rw_⟩ := vals2 rv2
    obtain ⟨o, ho, hc, n, hd⟩ := id ht
    show wpAny _ A.in1 (holding [Value.ref b] _ >>= _) _ _ _
    refine wpAny_bind (wpAny_holding ?_)
    refine wpAny_bind (wpAny_tryCatch ?_)
    unfold Builtin.Dict.pairItems
    refine wpAny_bind (wpAny_typeOf (T := "tuple") ⟨o, ho, hc⟩ ?_)
    rw [if_pos (by first | decide | rfl | simp)]
    refine wpAny_bind (wpAny_seqItems ho hd (wpAny_pure ?_))
    show wpAny _ A.in1 (holding [u, w] (dictSet S u w)) _ _ _
    obtain ⟨nk, h1', h2'⟩ := hashK_of (hk _ List.mem_cons_self)
    obtain ⟨a, e, _, _, ep, es, ks, vs, hq, k1, v1, p1, p2, nks, n1, n2, n3, n4⟩ := id rs
    cases e
    refine wpAny_holding (set_at (s := { s with heap := h1 }) (by show A.units + 1 + 8 < cLine; omega) (RB.keyIs I1 r1.rb ru h1' h2') (DAt.of I1 hq) (gtab p1 k1 n1 n3 n4 _ _ _ I1) n2 (by rw [← gd_len p1 k1]; omega) fun h2 tk ⟨ep', D'⟩ sb => wpAny_pure ⟨plainId_quiet ud_plain _, ?_⟩)
    obtain ⟨R1, f1'⟩ := R.updLoose (o' := .ext (DictHas S ep' (setE X.w es nk u w (spotN nks nk)))) hq (fun xs q => by rw [hq] at q; cases q) nf nz no hb
    have hz1 : ∀ a, g.fz a → g.zs a = none ∧ ¬ a = S := fun a h => ⟨(R.fzow a h).1, fun q => by subst q; exact nf h⟩
    have rs1 := put_rs (ep' := ep') hq nf nz k1 v1 p1 p2 n1 n2 n3 n4 h1' h2' r1 r2 ru rw_
    have hpl := putG_len acc kd d
    have I2 := ext_write (tk := tk) I1 hq D' sb
    refine gloop hh hu hcalm nf nz no hb hSI hSl kvs (i + 1) (putG acc kd d) (ix + 1) 0 _ _ I2 R1 rs1 ⟨by rw [upd_ne (Ne.symm hSI)]; exact f0, f1, f2, f3, f4, f5⟩ (by rw [upd_ne (Ne.symm hSl)]; exact hl) (hit1.at fun o' e => sb.extBut It o' (Ne.symm hSI) e) (fun j kv e => ?_) (by omega) (fun kv h => hk kv (List.mem_cons_of_mem _ h)) (by omega)
      fun H' s' I' R' rs' f' => k H' s' I' R' rs' (f1'.trans f')
    obtain ⟨v', e1, e2⟩ := hp (j + 1) kv (by simpa using e)
    exact ⟨v', by rw [show i + 1 + j = i + (j + 1) by omega]; exact e1, Rp.frm f1' hz1 e2⟩
end
/-- the pairs of a list -/
def pairsD : List PyData → Option GKV
  | [] => some []
  | .tuple [k, v] :: ds => (pairsD ds).map ((k, v) :: ·)
  | _ :: _ => none
theorem pairsD_at : ∀ {ds : List PyData} {kvs : GKV}, pairsD ds = some kvs → ds.length = kvs.length ∧ ∀ (j : Nat) (kv : PyData × PyData), kvs[j]? = some kv → ds[j]? = some (.tuple [kv.1, kv.2])
  | [], kvs, e => by cases e; exact ⟨rfl, fun j kv h => by simp at h⟩
  | .tuple [k, v] :: ds, kvs, e => by
    rw [pairsD, Option.map_eq_some_iff] at e
    obtain ⟨kvs', e1, rfl⟩ := e
    obtain ⟨h1, h2⟩ := pairsD_at e1
    refine ⟨by simp [h1], fun j kv h => ?_⟩
    cases j with
    | zero => simp at h; subst h; rfl
    | succ j => simpa using h2 j kv (by simpa using h)
  | .tuple [] :: _, kvs, e => by simp [pairsD] at e
  | .tuple [_] :: _, kvs, e => by simp [pairsD] at e
  | .tuple (_ :: _ :: _ :: _) :: _, kvs, e => by simp [pairsD] at e
  | .none :: _, kvs, e => by simp [pairsD] at e
  | .bool _ :: _, kvs, e => by simp [pairsD] at e
  | .int _ :: _, kvs, e => by simp [pairsD] at e
  | .str _ :: _, kvs, e => by simp [pairsD] at e
  | .list _ :: _, kvs, e => by simp [pairsD] at e
  | .dict _ :: _, kvs, e => by simp [pairsD] at e
def t_dictP (ta : TLD) : TD := fun cs Q => ta cs fun l cs1 => match l.get cs1 with
  | some (.list ds) => ds.length ≤ sizeLine ∧ ∃ kvs, pairsD ds = some kvs ∧ (∀ kv ∈ kvs, hashK kv.1 = true) ∧ Q (.gd (putAll [] kvs)) cs1
  | _ => False
section
variable {X : Cx} {ZP : ZT} {p pos : Pos} {e : Expr} {ta : TLD}
theorem dictP_run {B : Bs} {g : GW} {cs : CS} {σ : L2.St} {pins : List (Addr × Obj)} {H : Hp} {s : Shared} {l : Addr} {xs : List V} {ds : List PyData} {kvs : GKV} {Q : Value → Shared → Prop} {E : Value → Shared → Prop} (hcalm : X.calm = true) (hu : X.A.units + 64 < cLine) (I : L2.Inv X pins σ H s) (R : Rel X.kw ZP B g H cs σ)
    (hl : H l = some (.lst xs)) (ra : RpAll X.kw H g.fz ds xs) (hp : pairsD ds = some kvs) (hk : ∀ kv ∈ kvs, hashK kv.1 = true) (hz : ds.length ≤ sizeLine)
    (fin : ∀ p H' s', L2.Inv X pins σ H' s' → Rel X.kw ZP B g H' cs σ → RS X.kw g H' (.gd (putAll [] kvs)) (.ref p) → H p = none → Frm (fun _ => False) g H g H' → Q (.ref p) s') :
    wpAny (model X.prog X.w) X.A (call (.type "dict") [.ref l]) Q E s := by
  have hh := I.ok.hd hcalm
  have hn := I.hok.fresh (Nat.le_refl s.heap.objs.size)
  have hne : s.heap.objs.size ≠ sysModules := Ne.symm (Nat.ne_of_lt I.big)
  obtain ⟨_, its, n, rv, ho⟩ := Inv.lstR I hl
  have hlt : l < s.heap.objs.size := Heap.lt_size ho
  refine callType_codes (Q₁ := fun obj s₁ => obj = .ref s.heap.objs.size ∧ s₁ = { s with heap := s.heap.push { cls := .type "dict", data := .dict #[] } }) PySem.F.kt_called_dict (PySem.F.kt_typeCall_dict_1 _) PySem.F.entry_dict_init (kt_code_dict_new _ ⟨rfl, rfl⟩) ?_
  rintro obj s₁ ⟨rfl, rfl⟩
  generalize hD : s.heap.objs.size = D at hn hne hlt
  have hd : DictHas D 0 [] (s.heap.push { cls := .type "dict", data := .dict #[] }) := ⟨hne, _, by rw [← hD]; exact Heap.get?_push_size _ rfl, ⟨rfl, rfl, rfl⟩, rfl⟩
  have I1 : L2.Inv X pins σ (upd H D (.ext (DictHas D 0 []))) { s with heap := s.heap.push { cls := .type "dict", data := .dict #[] } } :=
    I.laid (t' := s.toks) (fun _ _ q => Heap.get?_push_of_some _ q) (by rw [← hD]; exact Nat.le_refl _) (ext_dict hd)
  have k0 : ∀ b o, s.heap.get? b = some o → (s.heap.push { cls := .type "dict", data := .dict #[] }).get? b = some o := fun b o e => Heap.get?_push_of_some _ e
  have DA : DAt (s.heap.push { cls := .type "dict", data := .dict #[] }) D [] := ⟨0, hd⟩
  refine ⟨DA.typeIs (s := { s with heap := s.heap.push { cls := .type "dict", data := .dict #[] } }), PySem.F.args_dict_init_2 _ _, ?_⟩
  unfold Builtin.«dict.__init__»
  refine wpAny_bind ?_
  unfold Builtin.Dict.selfAndRest
  refine wpAny_bind (wpAny_notOrdered_dict (DA.typeIs (s := { s with heap := s.heap.push { cls := .type "dict", data := .dict #[] } })) ?_)
  show wpAny _ _ (pure (D, [Value.ref l])) _ _ _
  refine wpAny_pure ?_
  show wpAny _ _ (Builtin.Dict.updateFrom "dict.__init__" D (.ref l) [] .none) _ _ _
  unfold Builtin.Dict.updateFrom
  refine wpAny_bind (wpAny_typeOf (T := "list") ⟨_, k0 _ _ ho, rfl⟩ ?_)
  rw [if_pos (by first | decide | rfl | simp)]
  refine wpAny_bind (miss_list (k0 _ _ ho) rfl rfl rfl hh fun h1 tk1 hk1 => ?_)
  rw [if_pos (show (none : Option Value).isNone = true from rfl)]
  refine wpAny_bind (wpAny_rule ?_)
  have I2 : L2.Inv X pins σ (upd H D (.ext (DictHas D 0 []))) { s with heap := h1, toks := tk1 } := I1.kept (t' := tk1) hk1
  have hl2 : upd H D (.ext (DictHas D 0 [])) l = some (.lst xs) := by rw [upd_ne (ne_of_none hl hn)]; exact hl
  obtain ⟨its2, rv2, pl2, _⟩ := I2.list (SqL.of hl2)
  have hS1 : D < h1.objs.size := (I2.hok D _ upd_same).lt
  have hn1 : upd H D (.ext (DictHas D 0 [])) h1.objs.size = none := I2.hok.fresh (Nat.le_refl _)
  refine wpAny_bind (wpAny_pyIter_list pl2.isList ?_)
  have I3 : L2.Inv X pins σ (upd H D (.ext (DictHas D 0 []))) { s with heap := h1.push { cls := .type "list_iterator", data := .fields #[.ref l, .int 0 0] }, toks := tk1 } := I2.kept (t' := tk1) fun b o e => Heap.get?_push_of_some _ e
  have nD := R.nofz hn
  have oD : ¬ ow cs σ D := fun z => by
    obtain ⟨ws, e⟩ := R.owsome z
    rw [hn] at e; cases e
  have rs0 : RS X.kw g (upd H D (.ext (DictHas D 0 []))) (.gd []) (.ref D) := ⟨D, rfl, nD.1, nD.2, 0, [], [], [], upd_same, .nil, .nil, .nil, .nil, [], rfl, .nil, (fun _ z => nomatch z), rfl⟩
  obtain ⟨hlen, hat⟩ := pairsD_at hp
  have ra2 : RpAll X.kw (upd H D (.ext (DictHas D 0 []))) g.fz ds xs := ra.laid (R.fzne hn) hn
  have key := gloop (X := X) (ZP := ZP) (B := B) (g := g) (cs := cs) (σ := σ) (pins := pins) (A := X.A.in1) (Rz := wants (fun r s₂ => r = .none ∧ Q (.ref D) s₂) E) (S := D) (It := h1.objs.size) (l := l) (xs := xs) (res := Value.none) hh (by show X.A.units + 1 + 20 < cLine; omega) hcalm nD.1 nD.2 oD (R.bnone hn) (Nat.ne_of_lt hS1) (Nat.ne_of_gt hlt)
    kvs 0 [] 0 0 _ _ I3 (R.laid hn) rs0 (I2.fpOk (Nat.le_refl _) hn1) hl2 ⟨_, Heap.get?_push_size _ rfl, rfl, rfl⟩ (fun j kv e => by
      obtain ⟨v, e1, e2⟩ := ra2.get' (hat j kv e)
      exact ⟨v, by rw [Nat.zero_add]; exact e1, e2⟩) (by rw [Nat.zero_add, ← hlen, ra.length]) hk (by rw [List.length_nil]; omega) fun H' s' I' R' rs' f' => ⟨rfl, fin D H' s' I' R' rs' hn (Frm.skip hn (.refl) f')⟩
  first
    | exact wpAny_pure ⟨plainId_quiet ud_plain _, key⟩
    | exact wpAny_bind (wpAny_pure (wpAny_pure ⟨plainId_quiet ud_plain _, key⟩))
theorem de_dictP (hcalm : X.calm = true) (hu : X.A.units + 64 < cLine) (hm : X.mg "dict" = none) (ha : DL X ZP e ta) (hg : Gl X "dict" := by rfl) (he : starEach [e] X.env = (false, eval e X.env) :: starEach [] X.env := by rfl) : DE X ZP (.Call (.Name "dict" p) [e] [] pos) (t_dictP ta) := by
  refine ⟨⟨fun pins s σ H Q I h => ?_⟩⟩
  obtain ⟨B, cs, g, R, Q', q, kk⟩ := h
  refine wpAny_Call_Name_kw (ld_blt (u := .type "dict") I hg hm (by decide +kernel) ?_ (by decide) (by decide))
  refine PyProof.Rows.callWith_type1 (thn ((pa_cons ha.pe pa_nil he).run pos pins s σ H (fun vs H1 => ∃ v l ds kvs cs1 g1, vs = [v] ∧ l.get cs1 = some (.list ds) ∧ (ds.length ≤ sizeLine ∧ pairsD ds = some kvs ∧ (∀ kv ∈ kvs, hashK kv.1 = true) ∧ Q' (.gd (putAll [] kvs)) cs1) ∧
      Rel X.kw ZP B g1 H1 cs1 σ ∧ LOk X.kw g1 H1 σ l v ∧ (∀ a, ow cs1 σ a → ow cs σ a) ∧ Frm (ow cs σ) g H g1 H1) I ⟨B, cs, g, R, _, q, fun l cs1 v g1 H1 q1 R1 r1 s1 f1 => ?_⟩) fun us s1 ⟨vs, H1, I1, r1, q1⟩ => ?_) he rfl
  · cases e1 : l.get cs1 with
    | none => rw [e1] at q1; exact q1.elim
    | some d =>
      rw [e1] at q1
      cases d with
      | list ds =>
        obtain ⟨hz, kvs, h1, h2, h3⟩ := q1
        exact ⟨v, l, ds, kvs, cs1, g1, rfl, e1, ⟨hz, h1, h2, h3⟩, R1, r1, s1, f1⟩
      | _ => exact q1.elim
  · obtain ⟨v, l, ds, kvs, cs1, g1, rfl, e1, ⟨hz, h1, h2, h3⟩, R1, rl, z1, f1⟩ := q1
    obtain ⟨a, xs, rfl, hq, ra⟩ := (rl.rb R1 e1).lst
    rw [Vals.ref1 r1]
    refine dictP_run hcalm hu I1 R1 hq ra h1 h2 hz fun p H' s' J R' rs n0 f => ?_
    refine ⟨.ref p, _, J, rfl, kk (.gd (putAll [] kvs)) cs1 (.ref p) g1 H' h3 R' rs (fun ys b e1 e2 => ?_) z1 (f1.trans (f.mono fun _ _ _ z => z.elim))⟩
    cases e2
    refine ⟨fun z => ?_, ?_⟩
    · obtain ⟨u, e⟩ := R1.owsome z
      rw [n0] at e; cases e
    · cases e5 : H p with
      | none => rfl
      | some u =>
        obtain ⟨u', e6⟩ := f1.any p u e5
        rw [n0] at e6; cases e6
end
end Cl

/-! for .. in zip(a, b), a and b lists, tuples or texts -/
namespace Cl
open PySem PySem.Spec PyProof.Rows L2
inductive SQ where
  | lst (a : Addr) | tup (a : Addr) | txt (x : Str) (t : Tok)
def SQ.u : SQ → Value
  | .lst a => .ref a
  | .tup a => .ref a
  | .txt x t => .str x t
def SQ.v : SQ → V
  | .lst a => .ref a
  | .tup a => .ref a
  | .txt x _ => .str x
def SQ.fp : SQ → List Addr
  | .lst a => [a]
  | .tup a => [a]
  | .txt _ _ => []
def signs (x : Str) : List V := x.cps.toList.map fun c => .str ⟨#[c]⟩
/-- the items of a list, a tuple, a text -/
def seqT : PyData → Option (List PyData)
  | .list ds => some ds
  | .tuple ds => some ds
  | .str z => some (z.cps.toList.map fun c => .str ⟨#[c]⟩)
  | _ => none
def SQS (K : PySem.W.Frag) (k : SQ) (xs : List V) (H : Hp) : Prop := match k with
  | .lst a => H a = some (.lst xs)
  | .tup a => SqT K H a xs
  | .txt x _ => xs = signs x
def sqI (k : SQ) (it : Addr) (i : Nat) (h : Heap) : Prop := match k with
  | .lst a => h.IsListIter it a i
  | .tup a => h.IsTupleIter it a i
  | .txt x t => h.IsStrIter it (strIterType x) x t i
def sqO (k : SQ) : Obj := match k with
  | .lst a => { cls := .type "list_iterator", data := .fields #[.ref a, .int 0 0] }
  | .tup a => { cls := .type "tuple_iterator", data := .fields #[.ref a, .int 0 0] }
  | .txt x t => { cls := .type (strIterType x), data := .fields #[.str x t, .int 0 0] }
def sqG (k : SQ) (its : Array Value) (h : Heap) : Prop := match k with
  | .lst a => h.IsList a its
  | .tup a => h.IsTuple a its
  | .txt _ _ => True
def sqP (k : SQ) (its : Array Value) (i : Nat) (v : Value) : Prop := match k with
  | .lst _ => its[i]? = some v
  | .tup _ => its[i]? = some v
  | .txt x _ => ∃ c u, x.cps[i]? = some c ∧ v = .str ⟨#[c]⟩ u
def sqN (k : SQ) (its : Array Value) : Nat := match k with
  | .txt x _ => x.cps.size
  | _ => its.size
section
variable {X : Cx} {pins : List (Addr × Obj)} {σ : L2.St} {H : Hp} {s : Shared} {k : SQ} {it : Addr} {xs : List V}
theorem sq_its (I : Inv X pins σ H s) (h : SQS X.K k xs H) : ∃ its : List Value, sqG k its.toArray s.heap ∧ its.length = xs.length ∧ ∀ i v, sqP k its.toArray i v → ∃ y, xs[i]? = some y ∧ RelV y v := by
  cases k with
  | lst a =>
    obtain ⟨its, rv, p, z⟩ := I.list (SqL.of h)
    refine ⟨its, p.isList, rv.length.symm, fun i v e => ?_⟩
    have e : its[i]? = some v := by simpa [sqP] using e
    have hi : i < xs.length := by rw [rv.length]; exact (List.getElem?_eq_some_iff.mp e).1
    obtain ⟨u, hu, ru⟩ := rv.get (List.getElem?_eq_getElem hi)
    rw [e] at hu; cases hu
    exact ⟨_, List.getElem?_eq_getElem hi, ru⟩
  | tup a =>
    obtain ⟨its, rv, p, z⟩ := I.tuple h
    refine ⟨its, p, rv.length.symm, fun i v e => ?_⟩
    have e : its[i]? = some v := by simpa [sqP] using e
    have hi : i < xs.length := by rw [rv.length]; exact (List.getElem?_eq_some_iff.mp e).1
    obtain ⟨u, hu, ru⟩ := rv.get (List.getElem?_eq_getElem hi)
    rw [e] at hu; cases hu
    exact ⟨_, List.getElem?_eq_getElem hi, ru⟩
  | txt x t =>
    have h : xs = signs x := h
    subst h
    refine ⟨(List.replicate x.cps.size .none), True.intro, by simp [signs], fun i v e => ?_⟩
    obtain ⟨c, u, e, rfl⟩ := e
    refine ⟨.str ⟨#[c]⟩, ?_, u, rfl⟩
    unfold signs
    rw [List.getElem?_map]
    have : x.cps.toList[i]? = some c := by simpa using e
    rw [this]; rfl
theorem sq_begins (k : SQ) (its : Array Value) : Begins k.u (sqO k) (sqG k its) := by
  cases k with
  | lst a => exact begins_list a its
  | tup a => exact begins_tuple a its
  | txt x t => exact begins_text x t
theorem sq_start {h : Heap} (e : h.get? it = some (sqO k)) : sqI k it 0 h := by
  cases k with
  | lst a => exact ⟨_, e, rfl, rfl⟩
  | tup a => exact ⟨_, e, rfl, rfl⟩
  | txt x t => exact ⟨_, e, rfl, rfl⟩
theorem sq_obj {h : Heap} {i : Nat} (e : sqI k it i h) : ∃ o, h.get? it = some o ∧ ∀ v, o.data ≠ .cell v := by
  cases k with
  | lst a => obtain ⟨o, e, _, d⟩ := e; exact ⟨o, e, fun v z => by rw [d] at z; cases z⟩
  | tup a => obtain ⟨o, e, _, d⟩ := e; exact ⟨o, e, fun v z => by rw [d] at z; cases z⟩
  | txt x t => obtain ⟨o, e, _, d⟩ := e; exact ⟨o, e, fun v z => by rw [d] at z; cases z⟩
theorem sq_keep {h h' : Heap} {i : Nat} (e : sqI k it i h) (hk : ∀ o, h.get? it = some o → h'.get? it = some o) : sqI k it i h' := by
  cases k with
  | lst a => exact e.at hk
  | tup a => exact e.at hk
  | txt x t => obtain ⟨o, e, r⟩ := e; exact ⟨o, hk o e, r⟩
theorem sq_ne (I : Inv X pins σ H s) (f : FpOk X pins H it) (h : SQS X.K k xs H) : ∀ a ∈ k.fp, a ≠ it := by
  have tr : ∀ a u, H a = some u → a ≠ it := fun a u e z => by
    subst z; rw [f.1] at e; cases e
  cases k with
  | lst a => intro b hb; rw [List.mem_singleton.mp hb]; exact tr _ _ h
  | tup a =>
    intro b hb
    rw [List.mem_singleton.mp hb]
    exact src_ne (k := .tup) I f h
  | txt x t => intro b hb; cases hb
theorem sq_draws {P : Program} {w : World} {A : Around} (hh : A.handled = none) (hne : ∀ a ∈ k.fp, a ≠ it) (its : Array Value) : ∃ n, (∀ i v, sqP k its i v → True) ∧ Draws P w A it (it :: k.fp) n (sqP k its) (fun i h => sqI k it i h ∧ sqG k its h) ∧ n = sqN k its := by
  cases k with
  | lst a => exact ⟨_, fun _ _ _ => True.intro, .list hh it a (hne a (List.mem_singleton.mpr rfl)) its, rfl⟩
  | tup a => exact ⟨_, fun _ _ _ => True.intro, .tuple hh it a (hne a (List.mem_singleton.mpr rfl)) its, rfl⟩
  | txt x t =>
    refine ⟨x.cps.size, fun _ _ _ => True.intro, ?_, rfl⟩
    have D : Draws P w A it [it] x.cps.size (fun i v => ∃ c u, x.cps[i]? = some c ∧ v = .str ⟨#[c]⟩ u) (fun i h => h.IsStrIter it (strIterType x) x t i) := by
      cases ha : x.cps.all (· < 128)
      · simp only [strIterType, ha, Bool.false_eq_true, if_false]
        exact .strWide hh it x t
      · simp only [strIterType, ha, if_true]
        exact .strAscii hh it x t
    exact ⟨fun i h st => D.live i h st.1, fun i h h' st hk => ⟨D.frame i h h' st.1 hk, True.intro⟩,
      fun i s Q E hi st hQ => D.item i s Q E hi st.1 fun x h' tk p st' sb => hQ x h' tk p ⟨st', True.intro⟩ sb,
      fun s Q E st hE => D.done s Q E st.1 hE⟩
theorem sq_n {its : List Value} (I : Inv X pins σ H s) (h : SQS X.K k xs H) (hl : its.length = xs.length) : sqN k its.toArray = xs.length := by
  cases k with
  | lst a => simpa [sqN] using hl
  | tup a => simpa [sqN] using hl
  | txt x t =>
    have h : xs = signs x := h
    subst h
    simp [signs, sqN]
end
theorem turn_zipQ {P : Program} {w : World} {K : PySem.W.Frag} {elts : List Expr} {kk : Nat} {tpos : Pos} (k1 k2 : SQ) (z TI TO i1 i2 : Addr) (xs ys : List V) (D : ZipA z TI TO i1 i2) :
    Turn P w K (.Tuple elts kk tpos) (ItP (fun H => SQS K k1 xs H ∧ SQS K k2 ys H) (zipR xs ys)) [z, TI, TO, i1, i2] z
      (fun i h => IsZip h z TI TO .none ∧ IsTupOf2 h TI (.ref i1) (.ref i2) ∧ (∃ x y, IsTupOf2 h TO x y) ∧ sqI k1 i1 i h ∧ sqI k2 i2 i h) := by
  obtain ⟨d1, d2, d3, d4, d5, d6, d7, d8, d9, d10⟩ := D
  refine turn_pairs (wr := [z, TO, i1, i2]) (by simp) (fun b h => ?_) (zipR_sz xs ys) ?_ ?_ ?_ ?_
  · have h : b = z ∨ b = TO ∨ b = i1 ∨ b = i2 := by simpa using h
    rcases h with rfl | rfl | rfl | rfl <;> simp
  · rintro i h ⟨hz, hT, ⟨x, y, hO⟩, h1, h2⟩ c hc
    have hc : c = z ∨ c = TI ∨ c = TO ∨ c = i1 ∨ c = i2 := by simpa using hc
    rcases hc with rfl | rfl | rfl | rfl | rfl
    · exact ⟨_, hz, fun v z => nomatch z⟩
    · exact ⟨_, hT, fun v z => nomatch z⟩
    · exact ⟨_, hO, fun v z => nomatch z⟩
    · exact sq_obj h1
    · exact sq_obj h2
  · rintro i h h' ⟨hz, hT, ⟨x, y, hO⟩, h1, h2⟩ hk
    exact ⟨hk z (by simp) _ hz, hk TI (by simp) _ hT, ⟨x, y, hk TO (by simp) _ hO⟩, sq_keep h1 fun o q => hk i1 (by simp) o q, sq_keep h2 fun o q => hk i2 (by simp) o q⟩
  · rintro X rfl rfl rfl hc pins s σ H i I hf ⟨hS1, hS2⟩ ⟨hz, hT, hO, h1, h2⟩
    obtain ⟨its1, g1, l1, p1⟩ := sq_its I hS1
    obtain ⟨its2, g2, l2, p2⟩ := sq_its I hS2
    have fz := hf z (by simp)
    have fTI := hf TI (by simp)
    have fTO := hf TO (by simp)
    have f1 := hf i1 (by simp)
    have f2 := hf i2 (by simp)
    obtain ⟨n1, _, D1, e1⟩ := sq_draws (P := X.prog) (w := X.w) (A := X.A.in1) (k := k1) (I.ok.hd hc) (sq_ne I f1 hS1) its1.toArray
    obtain ⟨n2, _, D2, e2⟩ := sq_draws (P := X.prog) (w := X.w) (A := X.A.in1) (k := k2) (I.ok.hd hc) (sq_ne I f2 hS2) its2.toArray
    have nm : ∀ {k : SQ} {x : Addr} {zs : List V}, FpOk X pins H x → SQS X.K k zs H → x ∉ k.fp := fun f S m => sq_ne I f S _ m rfl
    have Z : ZipSep2 z TI TO i1 i2 (i1 :: k1.fp) (i2 :: k2.fp) :=
      { TIz := d1, TOz := d2, TITO := d3, TIi1 := d4, mem1 := List.mem_cons_self, zf1 := fun m => (List.mem_cons.mp m).elim d6 (nm fz hS1), Tf1 := fun m => (List.mem_cons.mp m).elim d8 (nm fTO hS1),
        TIi2 := d5, mem2 := List.mem_cons_self, zf2 := fun m => (List.mem_cons.mp m).elim d7 (nm fz hS2), Tf2 := fun m => (List.mem_cons.mp m).elim d9 (nm fTO hS2),
        sep1_2 := fun m => (List.mem_cons.mp m).elim d10 (nm f1 hS2), sep2_1 := fun m => (List.mem_cons.mp m).elim d10.symm (nm f2 hS1) }
    have G := GoesN.zip2 (elts := elts) (x1 := kk) (pos := tpos) Z D1 D2
    rw [show min n1 n2 = (zipR xs ys).length by rw [zipR_len, e1, e2, sq_n I hS1 l1, sq_n I hS2 l2]] at G
    refine ⟨_, _, G.mono ?_, ⟨hz, hT, hO, ⟨h1, g1⟩, h2, g2⟩, ?_⟩
    · rintro j h0 v h hj ⟨T, x, y, rfl, hT, hx, hy, ht⟩
      obtain ⟨u, hu, ru⟩ := p1 _ _ hx
      obtain ⟨u2, hu2, ru2⟩ := p2 _ _ hy
      exact ⟨T, [x, y], [u, u2], rfl, hT, zipR_get xs ys j _ _ hu hu2, .cons ru (.cons ru2 .nil), ht⟩
    · rintro j h ⟨hz, hT, hO, ⟨h1, _⟩, h2, _⟩
      exact ⟨hz, hT, hO, h1, h2⟩
  · rintro A i s Q E ⟨hz, _⟩ q
    exact wpAny_pyIter_zip hz q
theorem SQ.q {k : SQ} {u : Value} (r : RelV k.v u) : ∃ k' : SQ, u = k'.u ∧ ∀ K xs H, SQS K k' xs H = SQS K k xs H := by
  cases k with
  | lst a => cases r; exact ⟨.lst a, rfl, fun _ _ _ => rfl⟩
  | tup a => cases r; exact ⟨.tup a, rfl, fun _ _ _ => rfl⟩
  | txt x t => obtain ⟨t', rfl⟩ := r; exact ⟨.txt x t', rfl, fun _ _ _ => rfl⟩
def iZipQ (K : PySem.W.Frag) (ta : TA) : TI := fun σ H R => ta σ H fun vs H1 => ∃ k1 k2 : SQ, ∃ xs ys, vs = [k1.v, k2.v] ∧ SQS K k1 xs H1 ∧ SQS K k2 ys H1 ∧ R (ItP (fun H => SQS K k1 xs H ∧ SQS K k2 ys H) (zipR xs ys)) H1
theorem pi_zipQ {X : Cx} {e e2 : Expr} {ta : TA} {p pos tpos : Pos} {elts : List Expr} {kk : Nat} (hg : Gl X "zip") (hm : X.mg "zip" = none) (ha : PA X [e, e2] ta)
    (hs : starEach [e, e2] X.env = (false, eval e X.env) :: starEach [e2] X.env := by rfl) (hpl : (backTo pos (starEach [e2] X.env)).any (·.1) = false := by rfl) :
    PI X (.Tuple elts kk tpos) (.Call (.Name "zip" p) [e, e2] [] pos) (iZipQ X.K ta) := by
  constructor
  intro pins s σ H R I h
  refine Call_ (ld_blt I hg hm PyProof.Rows.boot_zip (PyProof.Rows.callWith_type1 (thn (ha.run pos pins s σ H _ I h) ?_) hs hpl))
  rintro us s1 ⟨vs, H1, I1, r1, k1, k2, xs, ys, rfl, hS1, hS2, q⟩
  obtain ⟨u1, u2, rfl, q1, q2⟩ := vals2 r1
  obtain ⟨k1, rfl, f1⟩ := SQ.q q1
  obtain ⟨k2, rfl, f2⟩ := SQ.q q2
  simp only [← f1, ← f2] at hS1 hS2 q
  obtain ⟨its1, g1, l1, p1⟩ := sq_its I1 hS1
  obtain ⟨its2, g2, l2, p2⟩ := sq_its I1 hS2
  refine zip_begins2 (sq_begins k1 its1.toArray) (sq_begins k2 its2.toArray) g1 g2 fun h' hz hTI hTO e1 e2 hsz hk => wpAny_pyIter_zip hz ?_
  have I2 : Inv X pins σ H1 { s1 with heap := h' } := I1.kept (t' := s1.toks) hk
  refine ⟨s1.heap.objs.size + 4, [s1.heap.objs.size + 4, s1.heap.objs.size + 2, s1.heap.objs.size + 3, s1.heap.objs.size, s1.heap.objs.size + 1], _, _, H1, rfl, I2, turn_zipQ k1 k2 _ _ _ _ _ xs ys (zipA _), ⟨hz, hTI, ⟨_, _, hTO⟩, sq_start e1, sq_start e2⟩, fun c hc => ?_, q⟩
  · have hle : s1.heap.objs.size ≤ c := by
      have hc : c = s1.heap.objs.size + 4 ∨ c = s1.heap.objs.size + 2 ∨ c = s1.heap.objs.size + 3 ∨ c = s1.heap.objs.size ∨ c = s1.heap.objs.size + 1 := by simpa using hc
      rcases hc with rfl | rfl | rfl | rfl | rfl
      · exact Nat.le_add_right _ _
      · exact Nat.le_add_right _ _
      · exact Nat.le_add_right _ _
      · exact Nat.le_refl _
      · exact Nat.le_add_right _ _
    exact I1.fpOk hle (I1.hok.fresh hle)
theorem Rp.sq {K : KW} {H : Hp} {g : GW} {d : PyData} {v : V} {ds : List PyData} (r : Rp K H g.fz d v) (e : seqT d = some ds) :
    ∃ k : SQ, ∃ xs, v = k.v ∧ RpAll K H g.fz ds xs ∧ SQS K k xs H ∧ ∀ g' H', Stay g H g' H' → SQS K k xs H' := by
  cases r with
  | @lst a xs _ hf ha ra => cases e; exact ⟨.lst a, xs, rfl, ra, ha, fun g' H' st => st.keep a _ hf ha⟩
  | @tup a xs _ ha ra => cases e; exact ⟨.tup a, xs, rfl, ra, SqT.of ha, fun g' H' st => SqT.of (st.tups _ _ ha)⟩
  | str z =>
    cases e
    refine ⟨.txt z 0, signs z, rfl, ?_, rfl, fun _ _ _ => rfl⟩
    unfold signs
    induction z.cps.toList with
    | nil => exact .nil
    | cons c cs ih => exact .cons (.str _) ih
  | _ => cases e
def t_wzipT (t : TSA) : TID := fun cs Q => t cs fun svs cs1 => match svs with
  | [.dat d, .dat e] => (match seqT d, seqT e with
    | some ds, some es => Q (rowsD (zipRs ds es)) cs1
    | _, _ => False)
  | _ => False
theorem di_zipT {X : Cx} {ZP : ZT} {e e2 : Expr} {t : TSA} {p pos tpos : Pos} {elts : List Expr} {kk : Nat} (hg : Gl X "zip") (hm : X.mg "zip" = none) (ha : DA X ZP [e, e2] t) (hs : starEach [e, e2] X.env = (false, eval e X.env) :: starEach [e2] X.env := by rfl) (hpl : (backTo pos (starEach [e2] X.env)).any (·.1) = false := by rfl) : DI X ZP (.Tuple elts kk tpos) (.Call (.Name "zip" p) [e, e2] [] pos) (t_wzipT t) := by
  refine ⟨PI.imp (pi_zipQ hg hm ha.pa hs hpl) ?_⟩
  rintro σ H R ⟨B, cs, g, Re, Q', q, k⟩
  refine ⟨B, cs, g, Re, _, q, fun svs cs1 vs g1 H1 q1 R1 r1 st s1 f1 => ?_⟩
  match svs, r1, q1 with
  | [.dat d, .dat d2], .cons r (.cons r' .nil), q1 =>
    cases e1 : seqT d with
    | none => simp only [e1] at q1
    | some ds =>
      cases e2 : seqT d2 with
      | none => simp only [e1, e2] at q1
      | some es =>
        simp only [e1, e2] at q1
        obtain ⟨k1, xs, rfl, ra, hS, hst⟩ := Rp.sq r e1
        obtain ⟨k2, ys, rfl, rb, hS2, hst2⟩ := Rp.sq r' e2
        obtain ⟨h1, h2⟩ := zipRs_ok ra rb
        exact ⟨k1, k2, xs, ys, rfl, hS, hS2, k _ cs1 _ g1 H1 q1 R1 (walk_pairs (fun g' H' s => ⟨hst g' H' s, hst2 g' H' s⟩) h1 h2) s1 f1⟩
end Cl

/-! x < y of data that are alike, or alike up to the first place that differs -/
namespace Cl
open PySem PySem.Spec PyProof.Rows L2
def klk (x y : PyData) : Prop := (∃ k, nkey x = some k) ∧ (∃ k, nkey y = some k) ∧ klike x y = true ∧ min x.depth y.depth ≤ 60
def ltZ : OpX := fun x y Q => match x, y with
  | .int i, .int j => Q (.dat (.bool (decide (i < j))))
  | x, y => (alk x y ∨ klk x y) ∧ Q (.dat (.bool (PySem.W.dataLt x y)))
section
variable {X : Cx}
theorem oz_lt (hu : X.A.units + 64 < cLine) : OpR X (compareOp .Lt) (rO X.kw ltZ) := by
  rintro pins s σ H x y v u Q I rx ry ⟨fz, d, e, hd, he, Q', q, k⟩
  have gen : (alk d e ∨ klk d e) ∧ Q' (.dat (.bool (PySem.W.dataLt d e))) → wpAny (model X.prog X.w) X.A (compareOp .Lt v u) (EP X pins σ Q) X.xe s := fun ⟨a, q⟩ => by
    obtain ⟨as, r1, _⟩ := RB.reads I hd rx
    obtain ⟨bs, r2, _⟩ := RB.reads I he ry
    rcases a with ⟨a1, a2, a3⟩ | ⟨⟨k1, a1⟩, ⟨k2, a2⟩, a3, a4⟩
    · exact PySem.W.lt_data r1 r2 a1 a2 (by omega) ⟨.bl _, H, I, rfl, k _ _ _ q (.same (.bl _))⟩
    · exact rcLt_kl d e X.A s v u as bs k1 k2 r1 r2 a1 a2 a3 (by omega) X.prog X.w X.xe (EP X pins σ Q) ⟨.bl _, H, I, rfl, k _ _ _ q (.same (.bl _))⟩
  cases d with
  | int i =>
    cases e with
    | int j =>
      cases hd.int; cases he.int
      exact op_lt pins s σ H _ _ v u Q I rx ry ⟨i, j, rfl, rfl, k _ _ _ q (.same (.bl _))⟩
    | _ => exact gen q
  | _ => cases e <;> exact gen q
end
/-! text * int -/
def repS (z : Str) (n : Nat) : Str := ⟨(List.replicate n z.cps.toList).flatten.toArray⟩
theorem foldl_app (xs : List (Array Nat)) : ∀ a : Array Nat, (xs.foldl (· ++ ·) a).toList = a.toList ++ (xs.map Array.toList).flatten := by
  induction xs with
  | nil => intro a; simp
  | cons x xs ih => intro a; rw [List.foldl_cons, ih]; simp [List.append_assoc]
theorem mul_rep (x : Str) (n : Int) (h : 0 ≤ n) : Txt.mul x n = repS x n.toNat := by
  unfold Txt.mul
  by_cases h1 : n < 1
  · rw [if_pos h1]
    obtain rfl : n = 0 := by omega
    rfl
  · rw [if_neg h1]
    by_cases h2 : (n == 1 || x.length == 0) = true
    · rw [if_pos h2]
      rw [Bool.or_eq_true, beq_iff_eq, beq_iff_eq] at h2
      have go : x.cps.toList = (List.replicate n.toNat x.cps.toList).flatten → x = repS x n.toNat := fun e => by
        unfold repS
        rw [← e]
      rcases h2 with rfl | h2
      · exact go (by simp [List.replicate])
      · have : x.cps.toList = [] := List.eq_nil_of_length_eq_zero (by rw [Array.length_toList]; exact h2)
        refine go ?_
        rw [this]
        induction n.toNat with
        | zero => rfl
        | succ k ih => rw [List.replicate_succ, List.flatten_cons, ← ih]; rfl
    · rw [if_neg h2]
      unfold repS
      have : (List.foldl (· ++ ·) #[] (List.replicate n.toNat x.cps)).toList = (List.replicate n.toNat x.cps.toList).flatten := by
        rw [foldl_app]
        simp
      rw [← this]
def mulZ : OpX := fun x y Q => match x, y with
  | .str z, .int k => z.length ≤ 1000 ∧ 0 ≤ k ∧ k ≤ 1000 ∧ Q (.dat (.str (repS z k.toNat)))
  | x, y => mulY x y Q
theorem oz_mul {X : Cx} : OpR X (binaryOp .Mult) (rO X.kw mulZ) := by
  rintro pins s σ H x y v u Q I rx ry ⟨fz, d, e, hd, he, Q', q, k⟩
  have old : mulY d e Q' → wpAny (model X.prog X.w) X.A (binaryOp .Mult v u) (EP X pins σ Q) X.xe s := fun q => oy_mul pins s σ H x y v u Q I rx ry ⟨fz, d, e, hd, he, Q', q, k⟩
  cases d with
  | str z =>
    cases e with
    | int j =>
      obtain ⟨h1, h2, h3, q⟩ := q
      cases hd.str; cases he.int
      obtain ⟨t, rfl⟩ := rx
      obtain ⟨t2, rfl⟩ := ry
      have hl : z.length * j.toNat ≤ 1000 * 1000 := Nat.mul_le_mul h1 (by omega)
      refine SB.mul ⟨by simp; omega, fun a _ => ?_, fun _ _ => ?_⟩ fun t' tk => ?_
      · have : (1000 : Int) ≤ (2 ^ 63 - 1) / j := by
          rw [Int.le_ediv_iff_mul_le (by omega)]
          omega
        omega
      · have : ¬ z.length * j.toNat > sizeLine := by rw [sizeLine_eq]; omega
        exact decide_eq_false this
      · rw [mul_rep z j h2]
        exact ⟨.str _, H, I.kept (t' := tk) fun b o e => e, ⟨t', rfl⟩, k _ _ _ q (.same (.str _))⟩
    | _ => exact old q
  | _ => exact old q
end Cl

/-! values, and their order -/
namespace Va
open PySem PySem.Spec PyProof.Rows L2 Cl PySem.W
def lowS (z : Str) : Bool := z.cps.toList.all fun c => decide (97 ≤ c ∧ c ≤ 122)
def plainB : PyData → Bool
  | .int i => decide (0 ≤ i) && decide (i ≤ 999)
  | .str z => decide (1 ≤ z.length) && decide (z.length ≤ 8) && lowS z
  | _ => false
def valueB : PyData → Bool
  | .tuple ds => decide (1 ≤ ds.length) && decide (ds.length ≤ 4) && ds.all plainB
  | d => plainB d
def rkP : PyData → PyData
  | .str z => .tuple [.int 1, .str z]
  | d => .tuple [.int 0, d]
def rk : PyData → PyData
  | .tuple ds => .tuple [.int 2, .tuple (ds.map rkP)]
  | d => rkP d
def kd : PyData → Nat
  | .int _ => 0
  | .str _ => 1
  | _ => 2
def vlt (x y : PyData) : Bool := dataLt (rk x) (rk y)
/-- a plain value -/
inductive Pl : PyData → Prop where
  | int {i : Int} (h0 : 0 ≤ i) (h1 : i ≤ 999) : Pl (.int i)
  | str {z : Str} (h0 : 1 ≤ z.length) (h1 : z.length ≤ 8) (h2 : lowS z = true) : Pl (.str z)
inductive Vl : PyData → Prop where
  | plain {d : PyData} (h : Pl d) : Vl d
  | tup {ds : List PyData} (h0 : 1 ≤ ds.length) (h1 : ds.length ≤ 4) (h : ∀ d ∈ ds, Pl d) : Vl (.tuple ds)
theorem plainB_iff {d : PyData} : plainB d = true ↔ Pl d := by
  constructor
  · intro h
    cases d with
    | int i => simp only [plainB, Bool.and_eq_true, decide_eq_true_eq] at h; exact .int h.1 h.2
    | str z => simp only [plainB, Bool.and_eq_true, decide_eq_true_eq] at h; exact .str h.1.1 h.1.2 h.2
    | _ => simp [plainB] at h
  · intro h
    cases h with
    | int h0 h1 => simp [plainB, h0, h1]
    | str h0 h1 h2 => simp [plainB, h0, h1, h2]
theorem valueB_iff {d : PyData} : valueB d = true ↔ Vl d := by
  constructor
  · intro h
    cases d with
    | tuple ds => simp only [valueB, Bool.and_eq_true, decide_eq_true_eq, List.all_eq_true] at h; exact .tup h.1.1 h.1.2 fun d hd => plainB_iff.mp (h.2 d hd)
    | _ => exact .plain (plainB_iff.mp h)
  · intro h
    cases h with
    | plain h => have := plainB_iff.mpr h; cases h <;> exact this
    | tup h0 h1 h => simp only [valueB, Bool.and_eq_true, decide_eq_true_eq, List.all_eq_true]; exact ⟨⟨h0, h1⟩, fun d hd => plainB_iff.mpr (h d hd)⟩
theorem Pl.rk {d : PyData} (h : Pl d) : rk d = rkP d := by cases h <;> rfl
theorem Pl.vl {d : PyData} (h : Pl d) : Vl d := .plain h
/-! keys -/
theorem nkP {d : PyData} (h : Pl d) : ∃ k, nkey (rkP d) = some k := by
  cases h with
  | int => exact ⟨_, by simp [rkP, nkey, nkeys]; rfl⟩
  | str => exact ⟨_, by simp [rkP, nkey, nkeys]; rfl⟩
theorem nkA : ∀ {ds : List PyData}, (∀ d ∈ ds, Pl d) → ∃ ks, nkeys (ds.map rkP) = some ks
  | [], _ => ⟨[], by simp [nkeys]⟩
  | d :: ds, h => by
    obtain ⟨k, e⟩ := nkP (h d List.mem_cons_self)
    obtain ⟨ks, e2⟩ := nkA fun x hx => h x (List.mem_cons_of_mem _ hx)
    exact ⟨k :: ks, by rw [List.map_cons, nkeys, e, e2]⟩
theorem nkV {d : PyData} (h : Vl d) : ∃ k, nkey (rk d) = some k := by
  cases h with
  | plain h => rw [h.rk]; exact nkP h
  | tup h0 h1 h =>
    obtain ⟨ks, e⟩ := nkA h
    exact ⟨_, by simp only [Va.rk, nkey, nkeys, e]; rfl⟩
theorem eqvP {x y : PyData} (hx : Pl x) (hy : Pl y) : PyData.eqv (rkP x) (rkP y) = true ↔ x = y := by
  cases hx with
  | @int i =>
    cases hy with
    | @int j => simp [rkP, PyData.eqv, PyData.eqvAll]
    | str => simp [rkP, PyData.eqv, PyData.eqvAll]
  | @str z =>
    cases hy with
    | int => simp [rkP, PyData.eqv, PyData.eqvAll]
    | @str w => simp [rkP, PyData.eqv, PyData.eqvAll]
theorem eqvA : ∀ {xs ys : List PyData}, (∀ d ∈ xs, Pl d) → (∀ d ∈ ys, Pl d) → (PyData.eqvAll (xs.map rkP) (ys.map rkP) = true ↔ xs = ys)
  | [], [], _, _ => by simp [PyData.eqvAll]
  | [], _ :: _, _, _ => by simp [PyData.eqvAll]
  | _ :: _, [], _, _ => by simp [PyData.eqvAll]
  | x :: xs, y :: ys, h1, h2 => by
    rw [List.map_cons, List.map_cons, eqv_all_cons, Bool.and_eq_true, eqvP (h1 x List.mem_cons_self) (h2 y List.mem_cons_self), eqvA (fun d hd => h1 d (List.mem_cons_of_mem _ hd)) (fun d hd => h2 d (List.mem_cons_of_mem _ hd))]
    simp
theorem klP {x y : PyData} (hx : Pl x) (hy : Pl y) : klike (rkP x) (rkP y) = true := by
  cases hx with
  | int =>
    cases hy with
    | int => simp [rkP, klike, klikeAll, PyData.eqv, alike]
    | str => simp [rkP, klike, klikeAll, PyData.eqv, alike]
  | str =>
    cases hy with
    | int => simp [rkP, klike, klikeAll, PyData.eqv, alike]
    | str => simp [rkP, klike, klikeAll, PyData.eqv, alike]
theorem alP {x : PyData} (hx : Pl x) : alike (rkP x) (rkP x) = true := by
  cases hx <;> simp [rkP, alike, alikeAll]
theorem alA : ∀ {xs : List PyData}, (∀ d ∈ xs, Pl d) → alikeAll (xs.map rkP) (xs.map rkP) = true
  | [], _ => by simp [alikeAll]
  | x :: xs, h => by simp [alikeAll, alP (h x List.mem_cons_self), alA fun d hd => h d (List.mem_cons_of_mem _ hd)]
theorem klA : ∀ {xs ys : List PyData}, (∀ d ∈ xs, Pl d) → (∀ d ∈ ys, Pl d) → klikeAll (xs.map rkP) (ys.map rkP) = true
  | [], _, _, _ => by simp [klikeAll]
  | _ :: _, [], _, _ => by simp [klikeAll]
  | x :: xs, y :: ys, h1, h2 => by
    have a := h1 x List.mem_cons_self
    have b := h2 y List.mem_cons_self
    have ih := klA (fun d hd => h1 d (List.mem_cons_of_mem _ hd)) (fun d hd => h2 d (List.mem_cons_of_mem _ hd))
    rw [List.map_cons, List.map_cons, klikeAll]
    split
    · rename_i e
      obtain rfl := (eqvP a b).mp e
      rw [alP a, ih]; rfl
    · exact klP a b
theorem kl_pair {a b : Int} {u v : PyData} (h : klike u v = true) (h2 : PyData.eqv u v = true → alike u v = true) : klike (.tuple [.int a, u]) (.tuple [.int b, v]) = true := by
  rw [klike, klikeAll]
  split
  · rw [klikeAll]
    split
    · rename_i e; simp [alike, h2 e, klikeAll]
    · simp [alike, h]
  · simp [klike]
theorem klV {x y : PyData} (hx : Vl x) (hy : Vl y) : klike (rk x) (rk y) = true := by
  cases hx with
  | plain hx =>
    cases hy with
    | plain hy => rw [hx.rk, hy.rk]; exact klP hx hy
    | tup => cases hx <;> simp [Va.rk, rkP, klike, klikeAll, PyData.eqv, alike]
  | @tup xs _ _ hx =>
    cases hy with
    | plain hy => cases hy <;> simp [Va.rk, rkP, klike, klikeAll, PyData.eqv, alike]
    | @tup ys _ _ hy =>
      refine kl_pair (by rw [klike]; exact klA hx hy) fun e => ?_
      rw [PyData.eqv] at e
      obtain rfl := (eqvA hx hy).mp e
      rw [alike]; exact alA hx
theorem dpP {x : PyData} (hx : Pl x) : (rkP x).depth = 1 := by cases hx <;> simp [rkP, PyData.depth, PyData.depthAll]
theorem dpA : ∀ {xs : List PyData}, (∀ d ∈ xs, Pl d) → PyData.depthAll (xs.map rkP) ≤ 1
  | [], _ => by simp [PyData.depthAll]
  | x :: xs, h => by
    have := dpP (h x List.mem_cons_self)
    have := dpA fun d hd => h d (List.mem_cons_of_mem _ hd)
    simp only [List.map_cons, PyData.depthAll]
    omega
theorem dpV {x : PyData} (hx : Vl x) : (rk x).depth ≤ 3 := by
  cases hx with
  | plain h => rw [h.rk, dpP h]; decide
  | tup _ _ h =>
    have := dpA h
    simp only [Va.rk, PyData.depth, PyData.depthAll]
    omega
theorem klkV {x y : PyData} (hx : Vl x) (hy : Vl y) : klk (rk x) (rk y) := ⟨nkV hx, nkV hy, klV hx hy, by have := dpV hx; omega⟩
theorem ksV {ds : List PyData} (h : ∀ d ∈ ds, Vl d) : KSort (ds.map rk) where
  key := fun d hd => by obtain ⟨x, hx, rfl⟩ := List.mem_map.mp hd; exact nkV (h x hx)
  like := fun d hd e he => by
    obtain ⟨x, hx, rfl⟩ := List.mem_map.mp hd
    obtain ⟨y, hy, rfl⟩ := List.mem_map.mp he
    exact klV (h x hx) (h y hy)
  form := .inl ⟨_, fun d hd => by
    obtain ⟨x, hx, rfl⟩ := List.mem_map.mp hd
    cases h x hx with
    | plain p => cases p <;> exact ⟨_, _, rfl, rfl⟩
    | tup => exact ⟨_, _, rfl, rfl⟩⟩
  deep := fun d hd => by obtain ⟨x, hx, rfl⟩ := List.mem_map.mp hd; have := dpV (h x hx); omega
/-! the order -/
theorem dl_int {a b : Int} {r t : List PyData} (h : a ≠ b) : dataLt (.tuple (.int a :: r)) (.tuple (.int b :: t)) = decide (a < b) := by
  unfold dataLt
  simp only [keyToks, keyToksAll, List.cons_append, List.nil_append]
  rw [lex_self (O := itemOrd), lex_diff (O := itemOrd) (by simpa using h)]
  rfl
theorem dl_one {a : Int} {x y : PyData} : dataLt (.tuple [.int a, x]) (.tuple [.int a, y]) = lexT (keyToks x ++ [.inl 0]) (keyToks y ++ [.inl 0]) := by
  unfold dataLt
  simp only [keyToks, keyToksAll, List.cons_append, List.nil_append]
  rw [lex_self (O := itemOrd), lex_self (O := itemOrd), lex_self (O := itemOrd)]
theorem vlt_int {i j : Int} : vlt (.int i) (.int j) = decide (i < j) := by
  show dataLt (.tuple [.int 0, .int i]) (.tuple [.int 0, .int j]) = _
  rw [dl_one]
  simp only [keyToks, List.cons_append, List.nil_append]
  unfold lexT
  by_cases h : i = j
  · subst h
    rw [lex_irrefl]; simp
  · rw [lex_diff (O := itemOrd) (by simpa using h)]
    rfl
theorem vlt_str {x y : Str} : vlt (.str x) (.str y) = decide (x.cps.toList < y.cps.toList) := by
  show dataLt (.tuple [.int 1, .str x]) (.tuple [.int 1, .str y]) = _
  rw [dl_one]
  simp only [keyToks, List.cons_append, List.nil_append]
  unfold lexT
  by_cases h : x.cps.toList = y.cps.toList
  · rw [h, lex_irrefl]; simp [List.lt_irrefl]
  · rw [lex_diff (O := itemOrd) (by simpa using h)]
    rfl
def tlt (xs ys : List PyData) : Bool := lexT (keyToksAll (xs.map rkP)) (keyToksAll (ys.map rkP))
theorem vlt_tup {xs ys : List PyData} (hx : ∀ d ∈ xs, Pl d) (hy : ∀ d ∈ ys, Pl d) : vlt (.tuple xs) (.tuple ys) = tlt xs ys := by
  show dataLt (.tuple [.int 2, .tuple (xs.map rkP)]) (.tuple [.int 2, .tuple (ys.map rkP)]) = _
  rw [dl_one]
  simp only [keyToks]
  unfold tlt
  cases e : PyData.eqvAll (xs.map rkP) (ys.map rkP) with
  | true =>
    obtain rfl := (eqvA hx hy).mp e
    unfold lexT
    rw [lex_irrefl, lex_irrefl]
  | false => exact kl_toksAll _ _ (klA hx hy) e _ _
theorem tlt_nil {xs : List PyData} : tlt xs [] = false := by
  cases xs with
  | nil => unfold tlt lexT; rw [List.map_nil, lex_irrefl]
  | cons x xs =>
    unfold tlt lexT
    rw [List.map_cons, toks_all_cons, List.map_nil, keyToksAll, lex_diff (O := itemOrd) (by simp)]
    rfl
theorem tlt_nilc {y : PyData} {ys : List PyData} : tlt [] (y :: ys) = true := by
  unfold tlt lexT
  rw [List.map_cons, toks_all_cons, List.map_nil, keyToksAll, lex_diff (O := itemOrd) (by simp)]
  rfl
theorem tlt_same {x : PyData} {xs ys : List PyData} (hx : Pl x) : tlt (x :: xs) (x :: ys) = tlt xs ys := by
  unfold tlt
  rw [List.map_cons, List.map_cons]
  exact kl_yes (alP hx) ((eqvP hx hx).mpr rfl)
theorem tlt_diff {x y : PyData} {xs ys : List PyData} (hx : Pl x) (hy : Pl y) (h : x ≠ y) : tlt (x :: xs) (y :: ys) = vlt x y := by
  unfold tlt
  rw [List.map_cons, List.map_cons, kl_no (klP hx hy) (by
    cases e : PyData.eqv (rkP x) (rkP y) with
    | false => rfl
    | true => exact absurd ((eqvP hx hy).mp e) h)]
  unfold vlt
  rw [hx.rk, hy.rk]
theorem kd_rk {x : PyData} (h : Vl x) : ∃ r, rk x = .tuple (.int (kd x : Nat) :: r) := by
  cases h with
  | plain h => cases h <;> exact ⟨_, rfl⟩
  | tup => exact ⟨_, rfl⟩
theorem vlt_kd {x y : PyData} (hx : Vl x) (hy : Vl y) (h : kd x ≠ kd y) : vlt x y = decide (kd x < kd y) := by
  obtain ⟨r, e⟩ := kd_rk hx
  obtain ⟨t, e2⟩ := kd_rk hy
  unfold vlt
  rw [e, e2, dl_int (by omega)]
  exact decide_eq_decide.mpr (by omega)
theorem vlt_irr (x : PyData) : vlt x x = false := lex_irrefl _
theorem vlt_trans {x y z : PyData} (h1 : vlt x y = true) (h2 : vlt y z = true) : vlt x z = true := lex_trans _ _ _ h1 h2
theorem vlt_neg {x y z : PyData} (h : vlt x z = true) : vlt x y = true ∨ vlt y z = true := lex_negTrans _ _ _ h
theorem tlt_eq : ∀ {xs ys : List PyData}, (∀ d ∈ xs, Pl d) → (∀ d ∈ ys, Pl d) → (∀ x y, Pl x → Pl y → vlt x y = false → vlt y x = false → x = y) → tlt xs ys = false → tlt ys xs = false → xs = ys
  | [], [], _, _, _, _, _ => rfl
  | [], y :: ys, _, _, _, h, _ => by rw [tlt_nilc] at h; cases h
  | x :: xs, [], _, _, _, _, h => by rw [tlt_nilc] at h; cases h
  | x :: xs, y :: ys, h1, h2, h3, h4, h5 => by
    have a := h1 x List.mem_cons_self
    have b := h2 y List.mem_cons_self
    by_cases e : x = y
    · subst e
      rw [tlt_same a] at h4 h5
      rw [tlt_eq (fun d hd => h1 d (List.mem_cons_of_mem _ hd)) (fun d hd => h2 d (List.mem_cons_of_mem _ hd)) h3 h4 h5]
    · rw [tlt_diff a b e] at h4
      rw [tlt_diff b a (Ne.symm e)] at h5
      exact absurd (h3 x y a b h4 h5) e
theorem vlt_eqP {x y : PyData} (hx : Pl x) (hy : Pl y) (h1 : vlt x y = false) (h2 : vlt y x = false) : x = y := by
  cases hx with
  | int =>
    cases hy with
    | int =>
      rw [vlt_int, decide_eq_false_iff_not] at h1 h2
      exact congrArg PyData.int (by omega)
    | str p q r => rw [vlt_kd (.plain (.int ‹_› ‹_›)) (.plain (.str p q r)) (by simp [kd])] at h1; simp [kd] at h1
  | str p q r =>
    cases hy with
    | int => rw [vlt_kd (.plain (.int ‹_› ‹_›)) (.plain (.str p q r)) (by simp [kd])] at h2; simp [kd] at h2
    | str =>
      rw [vlt_str, decide_eq_false_iff_not] at h1 h2
      exact congrArg PyData.str (str_of_cps (List.le_antisymm (List.not_lt.mp h2) (List.not_lt.mp h1)))
theorem vlt_eq {x y : PyData} (hx : Vl x) (hy : Vl y) (h1 : vlt x y = false) (h2 : vlt y x = false) : x = y := by
  by_cases hk : kd x = kd y
  · cases hx with
    | plain hx =>
      cases hy with
      | plain hy => exact vlt_eqP hx hy h1 h2
      | tup => cases hx <;> simp [kd] at hk
    | tup _ _ hx =>
      cases hy with
      | plain hy => cases hy <;> simp [kd] at hk
      | tup _ _ hy =>
        rw [vlt_tup hx hy] at h1
        rw [vlt_tup hy hx] at h2
        rw [tlt_eq hx hy (fun x y a b => vlt_eqP a b) h1 h2]
  · rw [vlt_kd hx hy hk, decide_eq_false_iff_not] at h1
    rw [vlt_kd hy hx (Ne.symm hk), decide_eq_false_iff_not] at h2
    omega
theorem vlt_tot {x y : PyData} (hx : Vl x) (hy : Vl y) (h : x ≠ y) : vlt x y = true ∨ vlt y x = true := by
  cases h1 : vlt x y with
  | true => exact .inl rfl
  | false =>
    cases h2 : vlt y x with
    | true => exact .inr rfl
    | false => exact absurd (vlt_eq hx hy h1 h2) h
theorem vlt_asym {x y : PyData} (h : vlt x y = true) : vlt y x = false := by
  cases e : vlt y x with
  | false => rfl
  | true => have := vlt_trans h e; rw [vlt_irr] at this; cases this
/-! sorting -/
abbrev VS (ds : List PyData) : Prop := ds.Pairwise fun a b => vlt b a = false
def vcnt (x : PyData) (l : List PyData) : Nat := (l.filter fun o => !vlt x o).length
def vins (x : PyData) (l : List PyData) : List PyData := l.take (vcnt x l) ++ [x] ++ l.drop (vcnt x l)
theorem vcut (x : PyData) : ∀ {l : List PyData}, VS l → l.take (vcnt x l) = (l.filter fun o => !vlt x o) ∧ l.drop (vcnt x l) = l.filter fun o => vlt x o
  | [], _ => ⟨rfl, rfl⟩
  | o :: r, h => by
    obtain ⟨h1, h2⟩ := List.pairwise_cons.mp h
    cases e : vlt x o with
    | false =>
      obtain ⟨a, b⟩ := vcut x h2
      have en : vcnt x (o :: r) = vcnt x r + 1 := by unfold vcnt; rw [List.filter_cons_of_pos (by simp [e])]; rfl
      rw [en, List.take_succ_cons, List.drop_succ_cons, a, b, List.filter_cons_of_pos (by simp [e]), List.filter_cons_of_neg (by simp [e])]
      exact ⟨rfl, rfl⟩
    | true =>
      have all : ∀ p ∈ r, vlt x p = true := fun p hp => (vlt_neg (y := p) e).elim id fun q => by rw [h1 p hp] at q; cases q
      have f1 : (r.filter fun o => !vlt x o) = [] := List.filter_eq_nil_iff.mpr fun p hp => by simp [all p hp]
      have f2 : (r.filter fun o => vlt x o) = r := List.filter_eq_self.mpr all
      have en : vcnt x (o :: r) = 0 := by unfold vcnt; rw [List.filter_cons_of_neg (by simp [e]), f1]; rfl
      rw [en, List.filter_cons_of_neg (by simp [e]), List.filter_cons_of_pos (by simp [e]), f1, f2]
      exact ⟨rfl, rfl⟩
theorem vins_perm (x : PyData) (l : List PyData) : (vins x l).Perm (x :: l) := by
  unfold vins
  rw [List.append_assoc]
  refine (List.perm_middle).trans ?_
  show (x :: (l.take (vcnt x l) ++ l.drop (vcnt x l))).Perm _
  rw [List.take_append_drop]
theorem vins_sorted {x : PyData} {l : List PyData} (h : VS l) : VS (vins x l) := by
  obtain ⟨a, b⟩ := vcut x h
  have hl : l.take (vcnt x l) ++ l.drop (vcnt x l) = l := List.take_append_drop _ _
  unfold vins
  rw [List.append_assoc]
  have h' := h
  rw [← hl] at h'
  obtain ⟨p1, p2, p3⟩ := List.pairwise_append.mp h'
  refine List.pairwise_append.mpr ⟨p1, List.pairwise_append.mpr ⟨List.pairwise_singleton _ _, p2, fun u hu v hv => ?_⟩, fun u hu v hv => ?_⟩
  · rw [List.mem_singleton.mp hu]
    rw [b] at hv
    exact vlt_asym (List.mem_filter.mp hv).2
  · rcases List.mem_append.mp hv with hv | hv
    · rw [List.mem_singleton.mp hv]
      rw [a] at hu
      simpa using (List.mem_filter.mp hu).2
    · exact p3 u hu v hv
def visort (ds : List PyData) : List PyData := ds.foldl (fun acc x => vins x acc) []
theorem visort_go : ∀ (ds acc : List PyData), VS acc → VS (ds.foldl (fun acc x => vins x acc) acc) ∧ (ds.foldl (fun acc x => vins x acc) acc).Perm (acc ++ ds)
  | [], acc, h => ⟨h, by rw [List.append_nil]; exact .refl _⟩
  | d :: ds, acc, h => by
    obtain ⟨a, b⟩ := visort_go ds (vins d acc) (vins_sorted h)
    exact ⟨a, b.trans (((vins_perm d acc).append_right ds).trans List.perm_middle.symm)⟩
theorem visort_sorted (ds : List PyData) : VS (visort ds) := (visort_go ds [] .nil).1
theorem visort_perm (ds : List PyData) : (visort ds).Perm ds := (visort_go ds [] .nil).2
theorem zip_map_self {α β : Type} (f : α → β) : ∀ l : List α, l.zip (l.map f) = l.map fun x => (x, f x)
  | [] => rfl
  | x :: l => by rw [List.map_cons, List.zip_cons_cons, zip_map_self f l]; rfl
theorem sortBy_perm (ds : List PyData) : (sortBy (ds.map rk) ds).Perm ds := by
  unfold sortBy
  have h := (List.mergeSort_perm (ds.zip (ds.map rk)) (dataLe false fun b => b.2)).map (·.1)
  refine h.trans ?_
  rw [zip_map_self, List.map_map]
  exact List.Perm.of_eq (List.map_id ds)
theorem sortBy_sorted (ds : List PyData) : VS (sortBy (ds.map rk) ds) := by
  unfold sortBy
  have h := List.pairwise_mergeSort (le := dataLe false fun b : PyData × PyData => b.2) (fun a b c => (sortLe_total (listOrd itemOrd) false _).trans a b c) (fun a b => by
    have := (sortLe_total (listOrd itemOrd) false fun b : PyData × PyData => keyToks b.2).total a b
    rw [Bool.or_eq_true]
    exact this) (ds.zip (ds.map rk))
  refine List.pairwise_map.mpr ?_
  refine h.imp_of_mem fun {a b} ha hb e => ?_
  have mem : ∀ {a : PyData × PyData}, a ∈ (ds.zip (ds.map rk)).mergeSort (dataLe false fun b => b.2) → a.2 = rk a.1 := fun ha => by
    have := (List.mergeSort_perm _ _).mem_iff.mp ha
    rw [zip_map_self] at this
    obtain ⟨x, _, rfl⟩ := List.mem_map.mp this
    rfl
  have e : (!dataLt b.2 a.2) = true := e
  rw [mem ha, mem hb] at e
  simpa [vlt] using e
theorem sort_eq {l m : List PyData} (h : ∀ d ∈ l, Vl d) (h1 : VS l) (h2 : VS m) (p : l.Perm m) : l = m :=
  List.Perm.eq_of_pairwise (fun a b ha hb e1 e2 => vlt_eq (h a ha) (h b (p.mem_iff.mpr hb)) e2 e1) h1 h2 p
theorem sortBy_visort {ds : List PyData} (h : ∀ d ∈ ds, Vl d) : sortBy (ds.map rk) ds = visort ds :=
  sort_eq (fun d hd => h d ((sortBy_perm ds).mem_iff.mp hd)) (sortBy_sorted ds) (visort_sorted ds) ((sortBy_perm ds).trans (visort_perm ds).symm)
end Va

/-! the text of tame data is tame; data that can be compared -/
namespace Va
open PySem PySem.Spec PyProof.Rows L2 Cl PySem.Builtin.Str
def Cp (x : Str) : Prop := ∀ c ∈ x.cps.toList, c < 16 ^ 8
theorem Cp.of (s : String) : Cp (Str.ofString s) := fun c hc => by
  rw [Str.ofString_eq_toList] at hc
  obtain ⟨ch, _, rfl⟩ := List.mem_map.mp (by simpa using hc : c ∈ s.toList.map Char.toNat)
  exact ch.val.toNat_lt
theorem Cp.app {x y : Str} (h1 : Cp x) (h2 : Cp y) : Cp (x ++ y) := fun c hc => by
  have e : (x ++ y).cps = x.cps ++ y.cps := rfl
  rw [e, Array.toList_append] at hc
  rcases List.mem_append.mp hc with hc | hc
  · exact h1 c hc
  · exact h2 c hc
theorem Cp.join {sep : Str} (hs : Cp sep) : ∀ {ts : List Str}, (∀ t ∈ ts, Cp t) → Cp (Str.join sep ts)
  | [], _ => fun c hc => by cases hc
  | [x], h => h x (by simp)
  | x :: y :: r, h => ((h x (by simp)).app hs).app (Cp.join hs fun t ht => h t (List.mem_cons_of_mem _ ht))
theorem Cp.tup {ts : List Str} (h : ∀ t ∈ ts, Cp t) : Cp (tupleText ts) := by
  unfold tupleText
  exact ((Cp.of "(").app (Cp.join (Cp.of ", ") h)).app (Cp.of _)
theorem Cp.dct {ts : List Str} (h : ∀ t ∈ ts, Cp t) : Cp (dictText ts) := by
  unfold dictText
  exact ((Cp.of "{").app (Cp.join (Cp.of ", ") h)).app (Cp.of _)
theorem Cp.from : ∀ {ts : List Str} (k : Nat) {acc : Str}, Cp acc → (∀ t ∈ ts, Cp t) → Cp (textFrom k acc ts)
  | [], _, _, ha, _ => ha
  | t :: ts, k, acc, ha, h => Cp.from (k + 1) ((ha.app (Cp.of _)).app (h t List.mem_cons_self)) fun x hx => h x (List.mem_cons_of_mem _ hx)
theorem Cp.lst {ts : List Str} (h : ∀ t ∈ ts, Cp t) : Cp (listText ts) := by
  unfold listText
  exact (Cp.from 0 (Cp.of "[") h).app (Cp.of "]")
theorem repr_quote (x : Str) : reprQuote x = 34 ∨ reprQuote x = 39 := by unfold reprQuote; split <;> simp
theorem repr_ch {q c : Nat} (hc : c < 16 ^ 8) : ∀ k ∈ reprChar q c, k < 16 ^ 8 := by
  intro k hk
  have hex : ∀ w : Nat, k ∈ List.replicate (w - ((Nat.toDigits 16 c).map Char.toNat).length) 48 ++ (Nat.toDigits 16 c).map Char.toNat → k < 16 ^ 8 := fun w h => by
    rcases List.mem_append.mp h with h | h
    · rw [List.eq_of_mem_replicate h]; decide
    · obtain ⟨ch, _, rfl⟩ := List.mem_map.mp h
      exact ch.val.toNat_lt
  unfold reprChar at hk
  dsimp only at hk
  repeat' split at hk
  all_goals first
    | (simp only [List.mem_cons, List.not_mem_nil, or_false] at hk
       rcases hk with rfl | rfl <;> first | exact hc | decide)
    | (simp only [List.mem_cons, List.not_mem_nil, or_false] at hk
       rw [hk]; exact hc)
    | (rw [List.mem_append] at hk
       rcases hk with hk | hk
       · simp only [List.mem_cons, List.not_mem_nil, or_false] at hk
         rcases hk with rfl | rfl <;> decide
       · exact hex _ hk)
theorem repr_fold (q : Nat) : ∀ (l : List Nat) (acc : Array Nat), (∀ c ∈ l, c < 16 ^ 8) → (∀ c ∈ acc.toList, c < 16 ^ 8) → ∀ c ∈ (l.foldl (fun out c => out ++ (reprChar q c).toArray) acc).toList, c < 16 ^ 8
  | [], acc, _, h => h
  | c :: l, acc, h1, h2 => repr_fold q l _ (fun x hx => h1 x (List.mem_cons_of_mem _ hx)) fun x hx => by
    rw [Array.toList_append] at hx
    rcases List.mem_append.mp hx with hx | hx
    · exact h2 x hx
    · exact repr_ch (h1 c List.mem_cons_self) x (by simpa using hx)
theorem Cp.repr {x : Str} (h : Cp x) : Cp (reprText x) := by
  intro c hc
  have q8 : reprQuote x < 16 ^ 8 := by rcases repr_quote x with e | e <;> rw [e] <;> decide
  unfold reprText at hc
  dsimp only at hc
  rw [Array.toList_push] at hc
  rcases List.mem_append.mp hc with hc | hc
  · rw [← Array.foldl_toList] at hc
    refine repr_fold (reprQuote x) _ _ h (fun k hk => ?_) c hc
    have : k = reprQuote x := by simpa using hk
    rw [this]; exact q8
  · rw [List.mem_singleton.mp hc]; exact q8
mutual
theorem cp_shown (B : Nat) : ∀ d : PyData, d.leavesShort B = true → Cp d.shown
  | .none, _ => Cp.of _
  | .bool b, _ => by cases b <;> exact Cp.of _
  | .int i, _ => by simp only [PyData.shown]; exact Cp.of _
  | .str x, h => by
    simp only [PyData.shown]
    exact Cp.repr (show ∀ c ∈ x.cps.toList, c < 16 ^ 8 by simpa only [PyData.leavesShort, List.all_eq_true, decide_eq_true_eq] using h)
  | .list xs, h => by
    simp only [PyData.shown]
    exact Cp.lst (cp_shownAll B xs (by simpa only [PyData.leavesShort] using h))
  | .tuple xs, h => by
    simp only [PyData.shown]
    exact Cp.tup (cp_shownAll B xs (by simpa only [PyData.leavesShort] using h))
  | .dict kvs, h => by
    simp only [PyData.shown]
    exact Cp.dct (cp_shownKv B kvs (by simpa only [PyData.leavesShort] using h))
theorem cp_shownAll (B : Nat) : ∀ xs : List PyData, PyData.leavesShortAll B xs = true → ∀ t ∈ PyData.shownAll xs, Cp t
  | [], _ => fun t h => by simp [PyData.shownAll] at h
  | x :: xs, h => by
    have h' : x.leavesShort B = true ∧ PyData.leavesShortAll B xs = true := by simpa only [PyData.leavesShortAll, Bool.and_eq_true] using h
    intro t ht
    simp only [PyData.shownAll, List.mem_cons] at ht
    rcases ht with rfl | ht
    · exact cp_shown B x h'.1
    · exact cp_shownAll B xs h'.2 t ht
theorem cp_shownKv (B : Nat) : ∀ kvs : List (PyData × PyData), PyData.leavesShortKv B kvs = true → ∀ t ∈ PyData.shownKv kvs, Cp t
  | [], _ => fun t h => by simp [PyData.shownKv] at h
  | (k, v) :: r, h => by
    have h' : (k.leavesShort B = true ∧ v.leavesShort B = true) ∧ PyData.leavesShortKv B r = true := by simpa only [PyData.leavesShortKv, Bool.and_eq_true] using h
    intro t ht
    simp only [PyData.shownKv, List.mem_cons] at ht
    rcases ht with rfl | ht
    · exact ((cp_shown B k h'.1.1).app (Cp.of _)).app (cp_shown B v h'.1.2)
    · exact cp_shownKv B r h'.2 t ht
end
theorem tm_str {x : Str} (h : Cp x) : Tm x.length 0 (.str x) := by
  refine ⟨?_, by simp [PyData.showable], ?_, by simp [PyData.depth]⟩
  · simp only [PyData.leavesShort, List.all_eq_true, decide_eq_true_eq]
    exact h
  · simp only [PyData.weight]
    exact Nat.le_refl _
theorem Tm.text {W D : Nat} {d : PyData} (h : Tm W D d) : Tm (202 * W + 200) 0 (.str d.shown) := by
  have e := PyData.shown_le 200 (by decide) d h.lv
  have w := h.wt
  refine (tm_str (cp_shown 200 d h.lv)).mono ?_ (Nat.le_refl _)
  have : 202 * d.weight ≤ 202 * W := Nat.mul_le_mul_left _ w
  omega
theorem tm_bool (b : Bool) : Tm 0 0 (.bool b) := by cases b <;> exact ⟨by decide +kernel, by decide +kernel, by decide +kernel, by decide +kernel⟩
theorem tm_none : Tm 0 0 .none := ⟨by decide +kernel, by decide +kernel, by decide +kernel, by decide +kernel⟩
theorem tm_dec {W D : Nat} {d : PyData} (h1 : d.leavesShort 200 = true := by decide +kernel) (h2 : d.showable = true := by decide +kernel) (h3 : d.weight ≤ W := by decide +kernel) (h4 : d.depth ≤ D := by decide +kernel) : Tm W D d := ⟨h1, h2, h3, h4⟩
/-- whole numbers of at most twelve figures -/
theorem tm_int {i : Int} (h0 : -999999999999 ≤ i) (h1 : i ≤ 999999999999) : Tm 50 0 (.int i) := by
  have hb : i.natAbs < 2 ^ 50 := by omega
  have h8 : i.natAbs.log2 < 50 := PySem.Flt.log2_lt_of (by decide) hb
  refine ⟨?_, ?_, ?_, by simp [PyData.depth]⟩
  · have := PyData.shown_int_le2 h0 h1
    simp only [PyData.leavesShort, decide_eq_true_eq]
    omega
  · simp only [PyData.showable, decide_eq_true_eq]; omega
  · simp only [PyData.weight]
    split <;> omega
theorem tm_small {i : Int} (h0 : -1023 ≤ i) (h1 : i ≤ 1023) : Tm 10 0 (.int i) := by
  have hb : i.natAbs < 2 ^ 10 := by omega
  have h8 : i.natAbs.log2 < 10 := PySem.Flt.log2_lt_of (by decide) hb
  have h := tm_int (i := i) (by omega) (by omega)
  refine ⟨h.lv, h.sh, ?_, h.dp⟩
  simp only [PyData.weight]
  split <;> omega
/-! data that can be compared -/
structure Shp (n : Nat) (d : PyData) : Prop where
  c : d.canLay0 = true
  d : d.depth ≤ n
theorem Shp.ok {n : Nat} {d : PyData} (h : Shp n d) (hn : n ≤ 64 := by decide) : SeqAt.shaped d = true := by
  have := h.d
  simp [SeqAt.shaped, h.c]; omega
theorem shp_all {n : Nat} : ∀ {ds : List PyData}, (∀ x ∈ ds, Shp n x) → PyData.canLayAll0 ds = true ∧ PyData.depthAll ds ≤ n
  | [], _ => by simp [PyData.canLayAll0, PyData.depthAll]
  | d :: ds, h => by
    obtain ⟨a, b⟩ := shp_all fun x hx => h x (List.mem_cons_of_mem _ hx)
    have := h d List.mem_cons_self
    exact ⟨by simp [PyData.canLayAll0, this.c, a], by have := this.d; simp only [PyData.depthAll]; omega⟩
theorem shp_list {n : Nat} {ds : List PyData} (h : ∀ x ∈ ds, Shp n x) : Shp (n + 1) (.list ds) := by
  obtain ⟨a, b⟩ := shp_all h
  exact ⟨by simpa [PyData.canLay0] using a, by simp only [PyData.depth]; omega⟩
theorem shp_tup {n : Nat} {ds : List PyData} (h : ∀ x ∈ ds, Shp n x) : Shp (n + 1) (.tuple ds) := by
  obtain ⟨a, b⟩ := shp_all h
  exact ⟨by simpa [PyData.canLay0] using a, by simp only [PyData.depth]; omega⟩
theorem shp_int (i : Int) : Shp 0 (.int i) := ⟨by simp [PyData.canLay0], by simp [PyData.depth]⟩
theorem shp_bool (i : Bool) : Shp 0 (.bool i) := ⟨by simp [PyData.canLay0], by simp [PyData.depth]⟩
theorem shp_nil : Shp 1 (.list []) := shp_list fun _ h => by cases h
theorem Shp.mono {n m : Nat} {d : PyData} (h : Shp n d) (hn : n ≤ m) : Shp m d := ⟨h.c, Nat.le_trans h.d hn⟩
theorem eqv_nil {ds : List PyData} : PyData.eqv (.list ds) (.list []) = ds.isEmpty := by
  cases ds <;> simp [PyData.eqv, PyData.eqvAll]
theorem ones_ok {α : Type} (l : List α) : SeqAt.shaped (.list (l.map fun _ => PyData.int 1)) = true := (shp_list fun x hx => by
  obtain ⟨_, _, rfl⟩ := List.mem_map.mp hx
  exact shp_int 1 : Shp 1 _).ok
theorem none_left {α : Type} (p : α → Bool) (l : List α) (f : α → PyData) : ((l.filter fun x => !p x).map f).isEmpty = l.all p := by
  rw [List.isEmpty_map]
  induction l with
  | nil => rfl
  | cons x l ih =>
    rw [List.all_cons, ← ih]
    cases e : p x with
    | true => rw [List.filter_cons_of_neg (by simp [e])]; rfl
    | false => rw [List.filter_cons_of_pos (by simp [e])]; rfl
end Va

namespace Lk
open PySem PySem.Spec PyProof.Rows L2 Cl
def topS (i : Nat) : Stmt := PySem.Challenge.pw_onlyhigher_k01_what_is_a_value.main.body.getD i (.Pass ⟨0, 0, 0, 0⟩)
abbrev S_is_integer : Stmt := topS 5
abbrev N_is_integer : List Str := ["value"]
theorem SC_is_integer : FnScope N_is_integer ["value"] (defScope S_is_integer) := ⟨rfl, rfl, rfl, by decide +kernel, rfl, by decide +kernel, by decide +kernel⟩
abbrev S_is_word : Stmt := topS 6
abbrev N_is_word : List Str := ["value", "sign"]
theorem SC_is_word : FnScope N_is_word ["value"] (defScope S_is_word) := ⟨rfl, rfl, rfl, by decide +kernel, rfl, by decide +kernel, by decide +kernel⟩
abbrev S_is_plain : Stmt := topS 7
abbrev N_is_plain : List Str := ["value"]
theorem SC_is_plain : FnScope N_is_plain ["value"] (defScope S_is_plain) := ⟨rfl, rfl, rfl, by decide +kernel, rfl, by decide +kernel, by decide +kernel⟩
abbrev S_is_value : Stmt := topS 8
abbrev N_is_value : List Str := ["value", "item"]
theorem SC_is_value : FnScope N_is_value ["value"] (defScope S_is_value) := ⟨rfl, rfl, rfl, by decide +kernel, rfl, by decide +kernel, by decide +kernel⟩
abbrev S_value_rank : Stmt := topS 9
abbrev N_value_rank : List Str := ["value", "item"]
theorem SC_value_rank : FnScope N_value_rank ["value"] (defScope S_value_rank) := ⟨rfl, rfl, rfl, by decide +kernel, rfl, by decide +kernel, by decide +kernel⟩
abbrev S__law_box : Stmt := topS 11
abbrev N__law_box : List Str := ["_law_script", "_law_marks", "_law_stirred", "_law_cell", "_law_mark"]
theorem SC__law_box : FnScope N__law_box ["_law_script"] (defScope S__law_box) := ⟨rfl, rfl, rfl, by decide +kernel, rfl, by decide +kernel, by decide +kernel⟩
abbrev S__law_draw : Stmt := topS 12
abbrev N__law_draw : List Str := ["_law_box_here", "_law_many", "_law_great", "_law_mark", "_law_count", "_law_found"]
theorem SC__law_draw : FnScope N__law_draw ["_law_box_here", "_law_many"] (defScope S__law_draw) := ⟨rfl, rfl, rfl, by decide +kernel, rfl, by decide +kernel, by decide +kernel⟩
abbrev S__law_pick : Stmt := topS 13
abbrev N__law_pick : List Str := ["_law_box_here", "_law_items"]
theorem SC__law_pick : FnScope N__law_pick ["_law_box_here", "_law_items"] (defScope S__law_pick) := ⟨rfl, rfl, rfl, by decide +kernel, rfl, by decide +kernel, by decide +kernel⟩
abbrev S__law_word : Stmt := topS 14
abbrev N__law_word : List Str := ["_law_box_here", "_law_most", "_law_found", "_law_turn"]
theorem SC__law_word : FnScope N__law_word ["_law_box_here", "_law_most"] (defScope S__law_word) := ⟨rfl, rfl, rfl, by decide +kernel, rfl, by decide +kernel, by decide +kernel⟩
abbrev S__law_plain : Stmt := topS 15
abbrev N__law_plain : List Str := ["_law_box_here", "_law_way"]
theorem SC__law_plain : FnScope N__law_plain ["_law_box_here"] (defScope S__law_plain) := ⟨rfl, rfl, rfl, by decide +kernel, rfl, by decide +kernel, by decide +kernel⟩
abbrev S__law_value : Stmt := topS 16
abbrev N__law_value : List Str := ["_law_box_here", "_law_turn"]
theorem SC__law_value : FnScope N__law_value ["_law_box_here"] (defScope S__law_value) := ⟨rfl, rfl, rfl, by decide +kernel, rfl, by decide +kernel, by decide +kernel⟩
abbrev S__law_odd : Stmt := topS 17
abbrev N__law_odd : List Str := ["_law_box_here", "_law_thing", "_law_menu", "_law_spot", "_law_fresh", "_law_sign"]
theorem SC__law_odd : FnScope N__law_odd ["_law_box_here", "_law_thing"] (defScope S__law_odd) := ⟨rfl, rfl, rfl, by decide +kernel, rfl, by decide +kernel, by decide +kernel⟩
abbrev S__law_is_plain : Stmt := topS 18
abbrev N__law_is_plain : List Str := ["_law_thing", "_law_sign"]
theorem SC__law_is_plain : FnScope N__law_is_plain ["_law_thing"] (defScope S__law_is_plain) := ⟨rfl, rfl, rfl, by decide +kernel, rfl, by decide +kernel, by decide +kernel⟩
abbrev S__law_is_value : Stmt := topS 19
abbrev N__law_is_value : List Str := ["_law_thing", "_law_item"]
theorem SC__law_is_value : FnScope N__law_is_value ["_law_thing"] (defScope S__law_is_value) := ⟨rfl, rfl, rfl, by decide +kernel, rfl, by decide +kernel, by decide +kernel⟩
abbrev S__law_kind : Stmt := topS 20
abbrev N__law_kind : List Str := ["_law_thing"]
theorem SC__law_kind : FnScope N__law_kind ["_law_thing"] (defScope S__law_kind) := ⟨rfl, rfl, rfl, by decide +kernel, rfl, by decide +kernel, by decide +kernel⟩
abbrev S__law_is_ahead : Stmt := topS 21
abbrev N__law_is_ahead : List Str := ["_law_one", "_law_two", "_law_first", "_law_second"]
theorem SC__law_is_ahead : FnScope N__law_is_ahead ["_law_one", "_law_two"] (defScope S__law_is_ahead) := ⟨rfl, rfl, rfl, by decide +kernel, rfl, by decide +kernel, by decide +kernel⟩
abbrev S__law_rank : Stmt := topS 22
abbrev N__law_rank : List Str := ["_law_thing", "_law_item"]
theorem SC__law_rank : FnScope N__law_rank ["_law_thing"] (defScope S__law_rank) := ⟨rfl, rfl, rfl, by decide +kernel, rfl, by decide +kernel, by decide +kernel⟩
abbrev S__law_is_judged : Stmt := topS 23
abbrev N__law_is_judged : List Str := ["_law_thing", "_law_is_named", "_law_kept", "_law_told"]
theorem SC__law_is_judged : FnScope N__law_is_judged ["_law_thing", "_law_is_named"] (defScope S__law_is_judged) := ⟨rfl, rfl, rfl, by decide +kernel, rfl, by decide +kernel, by decide +kernel⟩
abbrev S__law_is_told : Stmt := topS 24
abbrev N__law_is_told : List Str := ["_law_one", "_law_two", "_law_first", "_law_second"]
theorem SC__law_is_told : FnScope N__law_is_told ["_law_one", "_law_two"] (defScope S__law_is_told) := ⟨rfl, rfl, rfl, by decide +kernel, rfl, by decide +kernel, by decide +kernel⟩
abbrev S__law_sorted : Stmt := topS 25
abbrev N__law_sorted : List Str := ["_law_things", "_law_found", "_law_thing", "_law_spot", "_law_own"]
theorem SC__law_sorted : FnScope N__law_sorted ["_law_things"] (defScope S__law_sorted) := ⟨rfl, rfl, rfl, by decide +kernel, rfl, by decide +kernel, by decide +kernel⟩
abbrev S_law : Stmt := topS 26
abbrev N_law : List Str := ["_law_script", "_law_box_here", "_law_things", "_law_turn", "_law_own", "_law_place", "_law_thing", "_law_one", "_law_two"]
theorem SC_law : FnScope N_law ["_law_script"] (defScope S_law) := ⟨rfl, rfl, rfl, by decide +kernel, rfl, by decide +kernel, by decide +kernel⟩
structure Adr where
  a_is_integer : Addr
  d_is_integer : FuncData
  a_is_word : Addr
  d_is_word : FuncData
  a_is_plain : Addr
  d_is_plain : FuncData
  a_is_value : Addr
  d_is_value : FuncData
  a_value_rank : Addr
  d_value_rank : FuncData
  a__law_box : Addr
  d__law_box : FuncData
  a__law_draw : Addr
  d__law_draw : FuncData
  a__law_pick : Addr
  d__law_pick : FuncData
  a__law_word : Addr
  d__law_word : FuncData
  a__law_plain : Addr
  d__law_plain : FuncData
  a__law_value : Addr
  d__law_value : FuncData
  a__law_odd : Addr
  d__law_odd : FuncData
  a__law_is_plain : Addr
  d__law_is_plain : FuncData
  a__law_is_value : Addr
  d__law_is_value : FuncData
  a__law_kind : Addr
  d__law_kind : FuncData
  a__law_is_ahead : Addr
  d__law_is_ahead : FuncData
  a__law_rank : Addr
  d__law_rank : FuncData
  a__law_is_judged : Addr
  d__law_is_judged : FuncData
  a__law_is_told : Addr
  d__law_is_told : FuncData
  a__law_sorted : Addr
  d__law_sorted : FuncData
  a_law : Addr
  d_law : FuncData
  t_LETTERS : Tok
  t_MAX_ITEMS : Tok
  t_MAX_NUMBER : Tok
  t_MAX_WORD : Tok
structure Tx (K : PySem.W.Frag) (mg : Str → Option Value) (A : Adr) : Prop where
  m_abs : mg "abs" = none
  m_all : mg "all" = none
  m_bool : mg "bool" = none
  m_enumerate : mg "enumerate" = none
  m_int : mg "int" = none
  m_isinstance : mg "isinstance" = none
  m_len : mg "len" = none
  m_list : mg "list" = none
  m_ord : mg "ord" = none
  m_range : mg "range" = none
  m_repr : mg "repr" = none
  m_sorted : mg "sorted" = none
  m_str : mg "str" = none
  m_tuple : mg "tuple" = none
  m_zip : mg "zip" = none
  c_LETTERS : mg "LETTERS" = some (.str ("abcdefghijklmnopqrstuvwxyz") A.t_LETTERS)
  c_MAX_ITEMS : mg "MAX_ITEMS" = some (.int (4) A.t_MAX_ITEMS)
  c_MAX_NUMBER : mg "MAX_NUMBER" = some (.int (999) A.t_MAX_NUMBER)
  c_MAX_WORD : mg "MAX_WORD" = some (.int (8) A.t_MAX_WORD)
  F_is_integer : Fun K "is_integer" "is_integer" S_is_integer A.a_is_integer A.d_is_integer
  g_is_integer : mg "is_integer" = some (.ref A.a_is_integer)
  b_is_integer : Binds K A.d_is_integer ["value"] []
  F_is_word : Fun K "is_word" "is_word" S_is_word A.a_is_word A.d_is_word
  g_is_word : mg "is_word" = some (.ref A.a_is_word)
  b_is_word : Binds K A.d_is_word ["value"] []
  F_is_plain : Fun K "is_plain" "is_plain" S_is_plain A.a_is_plain A.d_is_plain
  g_is_plain : mg "is_plain" = some (.ref A.a_is_plain)
  b_is_plain : Binds K A.d_is_plain ["value"] []
  F_is_value : Fun K "is_value" "is_value" S_is_value A.a_is_value A.d_is_value
  g_is_value : mg "is_value" = some (.ref A.a_is_value)
  b_is_value : Binds K A.d_is_value ["value"] []
  F_value_rank : Fun K "value_rank" "value_rank" S_value_rank A.a_value_rank A.d_value_rank
  g_value_rank : mg "value_rank" = some (.ref A.a_value_rank)
  b_value_rank : Binds K A.d_value_rank ["value"] []
  F__law_box : Fun K "_law_box" "_law_box" S__law_box A.a__law_box A.d__law_box
  g__law_box : mg "_law_box" = some (.ref A.a__law_box)
  b__law_box : Binds K A.d__law_box ["_law_script"] []
  F__law_draw : Fun K "_law_draw" "_law_draw" S__law_draw A.a__law_draw A.d__law_draw
  g__law_draw : mg "_law_draw" = some (.ref A.a__law_draw)
  b__law_draw : Binds K A.d__law_draw ["_law_box_here", "_law_many"] []
  F__law_pick : Fun K "_law_pick" "_law_pick" S__law_pick A.a__law_pick A.d__law_pick
  g__law_pick : mg "_law_pick" = some (.ref A.a__law_pick)
  b__law_pick : Binds K A.d__law_pick ["_law_box_here", "_law_items"] []
  F__law_word : Fun K "_law_word" "_law_word" S__law_word A.a__law_word A.d__law_word
  g__law_word : mg "_law_word" = some (.ref A.a__law_word)
  b__law_word : Binds K A.d__law_word ["_law_box_here", "_law_most"] []
  F__law_plain : Fun K "_law_plain" "_law_plain" S__law_plain A.a__law_plain A.d__law_plain
  g__law_plain : mg "_law_plain" = some (.ref A.a__law_plain)
  b__law_plain : Binds K A.d__law_plain ["_law_box_here"] []
  F__law_value : Fun K "_law_value" "_law_value" S__law_value A.a__law_value A.d__law_value
  g__law_value : mg "_law_value" = some (.ref A.a__law_value)
  b__law_value : Binds K A.d__law_value ["_law_box_here"] []
  F__law_odd : Fun K "_law_odd" "_law_odd" S__law_odd A.a__law_odd A.d__law_odd
  g__law_odd : mg "_law_odd" = some (.ref A.a__law_odd)
  b__law_odd : Binds K A.d__law_odd ["_law_box_here", "_law_thing"] []
  F__law_is_plain : Fun K "_law_is_plain" "_law_is_plain" S__law_is_plain A.a__law_is_plain A.d__law_is_plain
  g__law_is_plain : mg "_law_is_plain" = some (.ref A.a__law_is_plain)
  b__law_is_plain : Binds K A.d__law_is_plain ["_law_thing"] []
  F__law_is_value : Fun K "_law_is_value" "_law_is_value" S__law_is_value A.a__law_is_value A.d__law_is_value
  g__law_is_value : mg "_law_is_value" = some (.ref A.a__law_is_value)
  b__law_is_value : Binds K A.d__law_is_value ["_law_thing"] []
  F__law_kind : Fun K "_law_kind" "_law_kind" S__law_kind A.a__law_kind A.d__law_kind
  g__law_kind : mg "_law_kind" = some (.ref A.a__law_kind)
  b__law_kind : Binds K A.d__law_kind ["_law_thing"] []
  F__law_is_ahead : Fun K "_law_is_ahead" "_law_is_ahead" S__law_is_ahead A.a__law_is_ahead A.d__law_is_ahead
  g__law_is_ahead : mg "_law_is_ahead" = some (.ref A.a__law_is_ahead)
  b__law_is_ahead : Binds K A.d__law_is_ahead ["_law_one", "_law_two"] []
  F__law_rank : Fun K "_law_rank" "_law_rank" S__law_rank A.a__law_rank A.d__law_rank
  g__law_rank : mg "_law_rank" = some (.ref A.a__law_rank)
  b__law_rank : Binds K A.d__law_rank ["_law_thing"] []
  F__law_is_judged : Fun K "_law_is_judged" "_law_is_judged" S__law_is_judged A.a__law_is_judged A.d__law_is_judged
  g__law_is_judged : mg "_law_is_judged" = some (.ref A.a__law_is_judged)
  b__law_is_judged : Binds K A.d__law_is_judged ["_law_thing", "_law_is_named"] []
  F__law_is_told : Fun K "_law_is_told" "_law_is_told" S__law_is_told A.a__law_is_told A.d__law_is_told
  g__law_is_told : mg "_law_is_told" = some (.ref A.a__law_is_told)
  b__law_is_told : Binds K A.d__law_is_told ["_law_one", "_law_two"] []
  F__law_sorted : Fun K "_law_sorted" "_law_sorted" S__law_sorted A.a__law_sorted A.d__law_sorted
  g__law_sorted : mg "_law_sorted" = some (.ref A.a__law_sorted)
  b__law_sorted : Binds K A.d__law_sorted ["_law_things"] []
  F_law : Fun K "law" "law" S_law A.a_law A.d_law
  g_law : mg "law" = some (.ref A.a_law)
  b_law : Binds K A.d_law ["_law_script"] []
def kb_is_value_0_value_g : List Value → List Value → List Value := fun us ws => match us, ws with
  | [], [b0] => [b0]
  | _, _ => []
def kb_is_value_0_value_V : List V → List V → List V := fun us ws => match us, ws with
  | [], [b0] => [b0]
  | _, _ => []
def kb_is_value_0_value_S : List SV → List SV → List SV := fun us ws => match us, ws with
  | [], [b0] => [b0]
  | _, _ => []
theorem kb_is_value_0_value {K : PySem.W.Frag} {f : Addr} {fd : FuncData} (F : Fun K "is_value" "is_value" S_is_value f fd) : KBd K fd ["value"] ["value"] 0 kb_is_value_0_value_g :=
  kbd F fun _ _ _ _ _ _ us ws h1 h2 => match us, ws, h1, h2 with | [], [_], _, _ => rfl
theorem kb_is_value_0_value_rel : KRel kb_is_value_0_value_V kb_is_value_0_value_g := fun vs us zs ws r1 r2 => by
  cases r1 with
  | nil =>
    cases r2 with
    | nil => exact .nil
    | cons k0 k0_ =>
      cases k0_ with
      | nil =>
        exact (.cons k0 .nil)
      | cons _ _ => exact .nil
  | cons _ _ => exact .nil
theorem kb_is_value_0_value_s : SRel kb_is_value_0_value_V kb_is_value_0_value_S := fun K g H svs zvs vs zs r1 r2 => by
  cases r1 with
  | nil =>
    cases r2 with
    | nil => exact ⟨.nil, fun _ _ sv hm => by cases hm⟩
    | cons k0 k0_ =>
      cases k0_ with
      | nil =>
        refine ⟨(.cons k0 .nil), fun h1 h2 sv hm => ?_⟩
        simp only [kb_is_value_0_value_S, List.mem_cons, List.not_mem_nil, or_false] at hm
        rcases hm with rfl
        · exact h2 _ (by simp)
      | cons _ _ => exact ⟨.nil, fun _ _ sv hm => by cases hm⟩
  | cons _ _ => exact ⟨.nil, fun _ _ sv hm => by cases hm⟩
theorem kb_is_value_0_value_len (zs : List V) (h : zs.length = 1) : (kb_is_value_0_value_V [] zs).length = 1 := match zs, h with | [_], _ => rfl
def kb_value_rank_0_value_g : List Value → List Value → List Value := fun us ws => match us, ws with
  | [], [b0] => [b0]
  | _, _ => []
def kb_value_rank_0_value_V : List V → List V → List V := fun us ws => match us, ws with
  | [], [b0] => [b0]
  | _, _ => []
def kb_value_rank_0_value_S : List SV → List SV → List SV := fun us ws => match us, ws with
  | [], [b0] => [b0]
  | _, _ => []
theorem kb_value_rank_0_value {K : PySem.W.Frag} {f : Addr} {fd : FuncData} (F : Fun K "value_rank" "value_rank" S_value_rank f fd) : KBd K fd ["value"] ["value"] 0 kb_value_rank_0_value_g :=
  kbd F fun _ _ _ _ _ _ us ws h1 h2 => match us, ws, h1, h2 with | [], [_], _, _ => rfl
theorem kb_value_rank_0_value_rel : KRel kb_value_rank_0_value_V kb_value_rank_0_value_g := fun vs us zs ws r1 r2 => by
  cases r1 with
  | nil =>
    cases r2 with
    | nil => exact .nil
    | cons k0 k0_ =>
      cases k0_ with
      | nil =>
        exact (.cons k0 .nil)
      | cons _ _ => exact .nil
  | cons _ _ => exact .nil
theorem kb_value_rank_0_value_s : SRel kb_value_rank_0_value_V kb_value_rank_0_value_S := fun K g H svs zvs vs zs r1 r2 => by
  cases r1 with
  | nil =>
    cases r2 with
    | nil => exact ⟨.nil, fun _ _ sv hm => by cases hm⟩
    | cons k0 k0_ =>
      cases k0_ with
      | nil =>
        refine ⟨(.cons k0 .nil), fun h1 h2 sv hm => ?_⟩
        simp only [kb_value_rank_0_value_S, List.mem_cons, List.not_mem_nil, or_false] at hm
        rcases hm with rfl
        · exact h2 _ (by simp)
      | cons _ _ => exact ⟨.nil, fun _ _ sv hm => by cases hm⟩
  | cons _ _ => exact ⟨.nil, fun _ _ sv hm => by cases hm⟩
theorem kb_value_rank_0_value_len (zs : List V) (h : zs.length = 1) : (kb_value_rank_0_value_V [] zs).length = 1 := match zs, h with | [_], _ => rfl
section
variable {P : Program} {w : World} {K : PySem.W.Frag} {mg : Str → Option Value} {base : Heap} {A : Adr}
def C__law_draw : TF := drawC 5
theorem ok__law_draw (X : Tx K mg A) : FnG P w K mg base CX0 1 A.a__law_draw A.d__law_draw ["_law_box_here", "_law_many"] (spD ⟨K, w⟩ ZPu 2 C__law_draw) := by
  refine funG X.F__law_draw SC__law_draw (fun vs H Q E h => h.1) fun cdv Ar outer s H vs Q E hg hr h => ?_
  have hu : (Ar.deeper (envOfC "_law_draw" (defScope S__law_draw) s.heap.objs.size A.a__law_draw cdv)).units + 64 < cLine := by have := hr.un; omega
  have hu1 : (Ar.deeper (envOfC "_law_draw" (defScope S__law_draw) s.heap.objs.size A.a__law_draw cdv)).units + 1 < cLine := by omega
  have nd := SC__law_draw.nd
  refine ⟨_, pss_cons (ps_asg (pe_dget hu1 (pvn 0) pe_str fun _ _ => rfl) (pgn 2 nd))
    (pss_cons (ps_if (pt_cmpR (oy_ne hu) (pvn 2) (pe_lst pa_nil) (nomark _))
      (pss_cons (ps_asg (pe_ix ix_list (pvn 2) pe_int fun _ _ => rfl) (pgn 3 nd))
      (pss_cons (ps_asg (pe_op ox_fdiv (pvn 3) (pvn 1)) (pg_sub (pvn 2) pe_int set_list))
      (pss_cons (ps_if (pt_cmpR ox_lt (pvn 3) (pvn 1) (nomark _))
        (pss_one (ps_expr (pe_bm PySem.F.plainAttrs_list PySem.F.slot_list_pop PySem.F.type_list_pop mt_popAt (pvn 2) (pa_cons pe_int pa_nil)))) pss_nil)
      (pss_one (ps_ret (pe_op ox_mod (pe_callTy c_int (by rfl) X.m_int (by decide +kernel) (pa_cons (pvn 3) pa_nil)) (pvn 1))))))) pss_nil)
    (pss_cons (ps_asg (pe_op ox_add (pe_dget hu1 (pvn 0) pe_str fun _ _ => rfl) pe_int) (pgn 4 nd))
    (pss_cons (ps_asg (pvn 4) (pg_sub (pvn 0) pe_str (set_dict hu1)))
    (pss_cons (ps_asg (pe_op ox_mod (pe_callTy c_int (by rfl) X.m_int (by decide +kernel) (pa_cons (pe_op ox_add (pe_dget hu1 (pvn 0) pe_str fun _ _ => rfl) (pe_op ox_mul pe_int (pvn 4))) pa_nil)) pe_int) (pgn 5 nd))
    (pss_cons (ps_asg (pe_op ox_mod (pe_callTy c_int (by rfl) X.m_int (by decide +kernel) (pa_cons (pe_op ox_add (pe_op ox_add (pe_op ox_mul (pvn 5) (pvn 5)) (pe_op ox_mul pe_int (pvn 4))) pe_int) pa_nil)) pe_int) (pgn 5 nd))
    (pss_cons (ps_asg (pe_op ox_mod (pe_callTy c_int (by rfl) X.m_int (by decide +kernel) (pa_cons (pe_op ox_add (pe_op ox_mul (pvn 5) (pvn 5)) (pe_dget hu1 (pvn 0) pe_str fun _ _ => rfl)) pa_nil)) pe_int) (pgn 5 nd))
    (pss_one (ps_ret (pe_op ox_mod (pe_callTy c_int (by rfl) X.m_int (by decide +kernel) (pa_cons (pe_op ox_fdiv (pvn 5) pe_int) pa_nil)) (pvn 1)))))))))), ?_⟩
  obtain ⟨a, n, g, rfl, hz, G, hn, hn2, k⟩ := draw_in h
  obtain ⟨bs, ha, fl⟩ := dbox_of (ks := (["great", "stirred", "count"] : List Str)) (fs := [.l 2, .i, .i]) G hz rfl
  match bs, fl, ha with
  | [.ref gr, .int sm, .int cn], ⟨zg, _⟩, ha =>
  obtain ⟨gs, hgl, hgs⟩ := ints_of_two G zg
  have ne : ∀ {b : Addr} {p : Addr} {o : HO} {u : HO}, H p = none → H b = some o → upd H p u b = some o := fun hp e => by rw [upd_ne (ne_of_none e hp)]; exact e
  have dab : a ≠ gr := fun e => by subst e; rw [hz] at zg; cases zg
  have dg : ∀ {H' : Hp} {cn : Int}, H' a = some (.dK [(Sum.inr "great", .ref gr), (Sum.inr "stirred", .int sm), (Sum.inr "count", .int cn)]) →
      DGet H' a (.str "great") (some (.ref gr)) ∧ DGet H' a (.str "stirred") (some (.int sm)) ∧ DGet H' a (.str "count") (some (.int cn)) := fun e => by
    refine ⟨?_, ?_, ?_⟩
    · have := DGet.k (k := Sum.inr "great") e; exact this
    · have := DGet.k (k := Sum.inr "stirred") e; exact this
    · have := DGet.k (k := Sum.inr "count") e; exact this
  have ha0 : H a = some (.dK [(Sum.inr "great", .ref gr), (Sum.inr "stirred", .int sm), (Sum.inr "count", .int cn)]) := ha
  dsimp only [tSeq, tIfS, tTest, tOp, tVar, tC, tLst, tNil, tAsg, tBM0, tBM, gName, gSub, tDrop, tCons, tRet, tCB, tNext, tDGet]
  refine ⟨.ref a, rfl, a, _, rfl, (dg ha0).1, ?_⟩
  refine ⟨.ref gr, rfl, Nat.zero_le _, fun p hp => ?_⟩
  have ha1 := ne (u := .lst []) hp ha0
  have hg1 := ne (u := .lst []) hp hgs
  have s1 : Step g H (upd H p (.lst [])) := .laid G hp
  refine rNeNil' hg1 upd_same ⟨_, rfl, ?_⟩
  clear hgs ha ha0 ne
  generalize upd H p (.lst []) = H1 at ha1 hg1 s1
  cases gs with
  | nil =>
    refine iteF ?_
    refine ⟨.ref a, rfl, a, _, rfl, (dg ha1).2.2, rOi (cn + 1) (fun _ q => q) ?_⟩
    have put : DPut H1 a (.str "count") (.int (cn + 1)) (upd H1 a (.dK [(Sum.inr "great", .ref gr), (Sum.inr "stirred", .int sm), (Sum.inr "count", .int (cn + 1))])) :=
      DPut.k (k := Sum.inr "count") ha1 (show 3 < sizeLine by decide)
    refine ⟨_, rfl, .ref a, rfl, a, _, rfl, put, ?_⟩
    have s2 := s1.trans (.region' s1.ok hz ha1 (fun _ e => by cases e) (fun _ _ e => by cases e) (o' := .dK [(Sum.inr "great", .ref gr), (Sum.inr "stirred", .int sm), (Sum.inr "count", .int (cn + 1))])
      (.inr (.inr (.inr ⟨_, _, [.ref gr, .int sm, .int (cn + 1)], rfl, rfl, zg, True.intro⟩))))
    have ha2 : upd H1 a (.dK [(Sum.inr "great", .ref gr), (Sum.inr "stirred", .int sm), (Sum.inr "count", .int (cn + 1))]) a = some (.dK [(Sum.inr "great", .ref gr), (Sum.inr "stirred", .int sm), (Sum.inr "count", .int (cn + 1))]) := upd_same
    dsimp only [List.set]
    generalize upd H1 a (.dK [(Sum.inr "great", .ref gr), (Sum.inr "stirred", .int sm), (Sum.inr "count", .int (cn + 1))]) = H2 at s2 ha2
    generalize cn + 1 = tn at ha2
    refine ⟨.ref a, rfl, a, _, rfl, (dg ha2).2.1, _, rfl, rOi (2654435761 * tn) (fun _ q => ⟨mulOk_l (by decide) (by decide), q⟩) (rOi _ (fun _ q => q) (rCi _ (fun _ q => q) (rOi _ (fun _ q => ⟨by decide, q⟩) ?_)))⟩
    generalize hbl : (sm + 2654435761 * tn) % 4294967291 = bl
    have b1 : 0 ≤ bl := by rw [← hbl]; exact Int.emod_nonneg _ (by decide)
    have b2 : bl < 4294967291 := by rw [← hbl]; exact Int.emod_lt_of_pos _ (by decide)
    refine ⟨_, rfl, _, rfl, rOi (bl * bl) (fun _ q => ⟨mulOk_r (by omega) (by omega), q⟩) ⟨_, rfl, rOi _ (fun _ q => ⟨mulOk_l (by decide) (by decide), q⟩) (rOi _ (fun _ q => q) (rOi _ (fun _ q => q) (rCi _ (fun _ q => q) (rOi _ (fun _ q => ⟨by decide, q⟩) ?_))))⟩⟩
    generalize hcl : (bl * bl + 40503 * tn + 7) % 4294967279 = cl
    have c1 : 0 ≤ cl := by rw [← hcl]; exact Int.emod_nonneg _ (by decide)
    have c2 : cl < 4294967279 := by rw [← hcl]; exact Int.emod_lt_of_pos _ (by decide)
    refine ⟨_, rfl, _, rfl, rOi (cl * cl) (fun _ q => ⟨mulOk_r (by omega) (by omega), q⟩) ⟨.ref a, rfl, a, _, rfl, (dg ha2).2.1, rOi _ (fun _ q => q) (rCi _ (fun _ q => q) (rOi _ (fun _ q => ⟨by decide, q⟩) ?_))⟩⟩
    refine ⟨_, rfl, rOi _ (fun _ q => ⟨by decide, fdiv_small (by decide), q⟩) (rCi _ (fun _ q => q) ⟨_, rfl, rOi _ (fun _ q => ⟨hn, q⟩) ?_⟩)⟩
    exact k _ _ (Int.emod_nonneg _ (by omega)) (Int.emod_lt_of_pos _ hn) s2
  | cons l rs =>
    refine iteT ?_
    have at0 : ∀ xs : List V, atI (V.int l :: xs) 0 = some (.int l) := fun xs => by
      unfold atI ixN
      rw [if_pos (by decide), if_pos (by rw [List.length_cons]; omega)]
      rfl
    refine ⟨.ref gr, rfl, rIx0 hg1 0 (at0 _) ?_⟩
    have ix0 : ixN ((l :: rs).map V.int).length 0 = some 0 := by
      unfold ixN
      rw [if_pos (by decide), if_pos (by rw [List.length_map, List.length_cons]; omega)]
      rfl
    refine ⟨_, rfl, _, rfl, rOi (l / n) (fun _ q => ⟨hn, fdiv_small hn2, q⟩) ⟨.ref gr, rfl, gr, _, 0, 0, rfl, rfl, hg1, ix0, ?_⟩⟩
    have s2 := s1.trans (.region s1.ok zg hg1 (o' := .lst (((l / n) :: rs).map V.int)) (.inl ⟨rfl, (l / n) :: rs, by simpa using hgl, rfl⟩))
    have hg2 : upd H1 gr (.lst (((l / n) :: rs).map V.int)) gr = some (.lst (((l / n) :: rs).map V.int)) := upd_same
    show ∃ v, _
    refine ⟨_, rfl, _, rfl, rOb (decide (l < n)) (fun _ q => q) ⟨_, rfl, ?_⟩⟩
    have fin : ∀ H', Step g H H' → (∃ v, (((L2.start N__law_draw [.ref a, .int n]).set 2 (some (.ref gr))).set 3 (some (.int l)))[3]? = some (some v) ∧ rC1 ⟨K, w⟩ intX [v] H' fun x H1 => ∃ v, (((L2.start N__law_draw [.ref a, .int n]).set 2 (some (.ref gr))).set 3 (some (.int l)))[1]? = some (some v) ∧ rO ⟨K, w⟩ modX x v H1 Q) := fun H' s =>
      ⟨_, rfl, rCi l (fun _ q => q) ⟨_, rfl, rOi (l % n) (fun _ q => ⟨hn, q⟩) (k _ _ (Int.emod_nonneg _ (by omega)) (Int.emod_lt_of_pos _ hn) s)⟩⟩
    by_cases hlt : l < n
    · rw [decide_eq_true hlt]
      refine iteT ?_
      have ty2 : tyV K "list" (.ref gr) (upd H1 gr (.lst (((l / n) :: rs).map V.int))) := .inl ⟨rfl, _, SqL.of hg2⟩
      refine ⟨.ref gr, rfl, ty2, gr, _, 0, 0, .int (l / n), rfl, rfl, hg2, by decide, by decide, ?_, rfl, ?_⟩
      · unfold seqIndex?
        simp
      · refine fin _ (s2.trans (.region s2.ok zg hg2 (.inl ⟨rfl, rs, ?_, rfl⟩)))
        rw [List.length_cons] at hgl; omega
    · rw [decide_eq_false hlt]
      refine iteF ?_
      exact fin _ s2

def T__law_box : TSD := (t_seq (t_par 1 2 (t_lc [3] (t_wany (t_f (t_sliceScr 0 t_no (t_some (t_c (.int 63)))))) (g_name 3) t_yes (t_f (t_op addX (t_l (t_f (t_op mulZ (t_l (t_c (.int 2))) (t_l (t_f (t_c1 absX (t_lname 3))))))) (t_l (t_f (t_c1 intX (t_l (t_f (t_op ltZ (t_lname 3) (t_l (t_c (.int 0)))))))))))) (t_op addX (t_l (t_c (.int 40961))) (t_l (t_lenScr 0))))
      (t_seq (t_for (t_wany (t_f (t_name 1))) (g_name 4) (t_asg (t_op modX (t_l (t_f (t_c1 intX (t_l (t_f (t_op addX (t_l (t_f (t_op mulZ (t_lname 2) (t_l (t_c (.int 69069)))))) (t_lname 4))))))) (t_l (t_c (.int 4294967291)))) (g_name 2)))
      (t_retdbox 5 [.l 2, .i, .i] (t_xcons (t_lc [4] (t_wany (t_f (t_name 1))) (g_name 4) (t_tst (t_op gtY (t_lname 4) (t_l (t_f (t_op powX (t_l (t_c (.int 10))) (t_l (t_c (.int 15)))))))) (t_f (t_name 4))) (t_xcons (t_name 2) (t_xcons (t_v (t_c (.int 0))) t_anil))))))
def C__law_box : TF := runD T__law_box N__law_box 1
theorem ok__law_box (X : Tx K mg A) : FnG P w K mg base CX0 1 A.a__law_box A.d__law_box ["_law_script"] (spD ⟨K, w⟩ ZPu 1 C__law_box) := by
  refine fnD X.F__law_box SC__law_box fun cdv Ar outer s H E hgd hr => ?_
  have hu : (Ar.deeper (envOfC "_law_box" (defScope S__law_box) s.heap.objs.size A.a__law_box cdv)).units + 64 < cLine := by have := hr.un; omega
  exact (dss_cons (dspar 1 2 SC__law_box.nd (de_lc (own := [("_law_cell", 3)]) (vs := [3]) rfl SC__law_box.nd (di_any (dv_e (de_sliceScr 0 do_none (do_some dv_int)))) (blkOk_by (own := [("_law_cell", 3)]) (N := N__law_box) (sc := defScope S__law_box) (by decide +kernel)) rfl (fun _ _ _ _ _ => (dgb 3 SC__law_box.nd)) (fun _ _ _ _ _ => dts_nil) (fun _ _ _ _ _ => (dv_e (de_op ox_add (dl_v (dv_e (de_op oz_mul (dl_v dv_int) (dl_v (dv_e (de_b1 c_abs (by rfl) X.m_abs (by decide +kernel) (dln 3))))))) (dl_v (dv_e (de_t1 c_int (by rfl) X.m_int (by decide +kernel) (dl_v (dv_e (de_cmp (oz_lt hu) (dln 3) (dl_v dv_int))))))))))) (de_op ox_add (dl_v dv_int) (dl_v (dv_lenScr 0 X.m_len))))
      (dss_cons (ds_for PassesOwn.never rfl (di_any (dv_e (den 1))) (dgm 4 SC__law_box.nd) (dss_one (ds_asg (de_op ox_mod (dl_v (dv_e (de_t1 c_int (by rfl) X.m_int (by decide +kernel) (dl_v (dv_e (de_op ox_add (dl_v (dv_e (de_op oz_mul (dln 2) (dl_v dv_int)))) (dln 4))))))) (dl_v dv_int)) (dgm 2 SC__law_box.nd))))
      (dss_one (ds_retdbox (t := 5) (fs := [.l 2, .i, .i]) (dxp_cons (de_lc (own := [("_law_mark", 4)]) (vs := [4]) rfl SC__law_box.nd (di_any (dv_e (den 1))) (blkOk_by (own := [("_law_mark", 4)]) (N := N__law_box) (sc := defScope S__law_box) (by decide +kernel)) rfl (fun _ _ _ _ _ => (dgb 4 SC__law_box.nd)) (fun _ _ _ _ _ => (dts_one (dt_cmp (oy_gt hu) (dln 4) (dl_v (dv_e (de_op ox_pow (dl_v dv_int) (dl_v dv_int))))))) (fun _ _ _ _ _ => (dv_e (den 4)))) (dxp_cons (den 2) (dxp_cons (de_v dv_int) dxp_nil))) rfl rfl (by simp) (by decide) rfl (by decide) (by decide)))))
def T__law_is_plain : TSD := (t_seq (t_if (t_tst (t_v (t_isi "bool" (t_lname 0)))) (t_ret (t_v (t_c (.bool false)))) t_next)
      (t_seq (t_if (t_tst (t_v (t_isi "int" (t_lname 0)))) (t_ret (t_v (t_andV (t_f (t_op leX (t_l (t_c (.int 0))) (t_lname 0))) (t_f (t_op leX (t_lname 0) (t_l (t_c (.int 999)))))))) t_next)
      (t_seq (t_if (t_or (t_not (t_tst (t_v (t_isi "str" (t_lname 0))))) (t_or (t_tst (t_op eqY (t_lname 0) (t_l (t_c (.str ""))))) (t_tst (t_op gtY (t_l (t_f (t_c1 lenY (t_lname 0)))) (t_l (t_c (.int 8))))))) (t_ret (t_v (t_c (.bool false)))) t_next)
      (t_ret (t_op eqY (t_l (t_f (t_lc [1] (t_wany (t_f (t_name 0))) (g_name 1) (t_tst (t_op notinY (t_lname 1) (t_l (t_c (.str "abcdefghijklmnopqrstuvwxyz"))))) (t_c (.int 1))))) (t_l (t_f (t_lstd t_anil))))))))
def C__law_is_plain : TF := runD T__law_is_plain N__law_is_plain 1
theorem ok__law_is_plain (X : Tx K mg A) : FnG P w K mg base CX0 1 A.a__law_is_plain A.d__law_is_plain ["_law_thing"] (spD ⟨K, w⟩ ZPu 1 C__law_is_plain) := by
  refine fnD X.F__law_is_plain SC__law_is_plain fun cdv Ar outer s H E hgd hr => ?_
  have hu : (Ar.deeper (envOfC "_law_is_plain" (defScope S__law_is_plain) s.heap.objs.size A.a__law_is_plain cdv)).units + 64 < cLine := by have := hr.un; omega
  exact (dss_cons (ds_if (dt_val (de_v (dv_isi isTy_bool (by rfl) X.m_isinstance (by rfl) X.m_bool (by decide +kernel) (dln 0)))) (dss_one (ds_ret (de_v dv_bl))) dss_nil)
      (dss_cons (ds_if (dt_val (de_v (dv_isi isTy_int (by rfl) X.m_isinstance (by rfl) X.m_int (by decide +kernel) (dln 0)))) (dss_one (ds_ret (de_v (dv_and (dv_e (de_cmp ox_le (dl_v dv_int) (dln 0))) (dv_one (dv_e (de_cmp ox_le (dln 0) (dl_v dv_int)))))))) dss_nil)
      (dss_cons (ds_if (dt_w (dw_or (dt_not (dt_val (de_v (dv_isi isTy_str (by rfl) X.m_isinstance (by rfl) X.m_str (by decide +kernel) (dln 0))))) (dw_or (dt_cmp (oy_eq hu) (dln 0) (dl_v dv_str)) (dw_or1 (dt_cmp (oy_gt hu) (dl_v (dv_e (de_b1 c_lenY (by rfl) X.m_len (by decide +kernel) (dln 0)))) (dl_v dv_int)))))) (dss_one (ds_ret (de_v dv_bl))) dss_nil)
      (dss_one (ds_ret (de_cmp (oy_eq hu) (dl_v (dv_e (de_lc (own := [("_law_sign", 1)]) (vs := [1]) rfl SC__law_is_plain.nd (di_any (dv_e (den 0))) (blkOk_by (own := [("_law_sign", 1)]) (N := N__law_is_plain) (sc := defScope S__law_is_plain) (by decide +kernel)) rfl (fun _ _ _ _ _ => (dgb 1 SC__law_is_plain.nd)) (fun _ _ _ _ _ => (dts_one (dt_cmp (oy_notin hu) (dln 1) (dl_v dv_str)))) (fun _ _ _ _ _ => dv_int)))) (dl_v (dv_e (de_lst da_nil)))))))))
def T__law_is_value : TSD := (t_seq (t_if (t_not (t_tst (t_v (t_isi "tuple" (t_lname 0))))) (t_ret (t_call C__law_is_plain (t_acons (t_f (t_name 0)) t_anil))) t_next)
      (t_ret (t_v (t_andV (t_f (t_op ltZ (t_l (t_c (.int 0))) (t_l (t_f (t_c1 lenY (t_lname 0)))))) (t_andV (t_f (t_op ltZ (t_l (t_f (t_c1 lenY (t_lname 0)))) (t_l (t_c (.int 5))))) (t_f (t_op eqY (t_l (t_f (t_lc [1] (t_wany (t_f (t_name 0))) (g_name 1) (t_not (t_tst (t_call C__law_is_plain (t_acons (t_f (t_name 1)) t_anil)))) (t_c (.int 1))))) (t_l (t_f (t_lstd t_anil))))))))))
def C__law_is_value : TF := runD T__law_is_value N__law_is_value 1
theorem ok__law_is_value (X : Tx K mg A) : FnG P w K mg base CX0 2 A.a__law_is_value A.d__law_is_value ["_law_thing"] (spD ⟨K, w⟩ ZPu 1 C__law_is_value) := by
  have G__law_is_plain := ok__law_is_plain (P := P) (w := w) (base := base) X
  refine fnD X.F__law_is_value SC__law_is_value fun cdv Ar outer s H E hgd hr => ?_
  have hu : (Ar.deeper (envOfC "_law_is_value" (defScope S__law_is_value) s.heap.objs.size A.a__law_is_value cdv)).units + 64 < cLine := by have := hr.un; omega
  exact (dss_cons (ds_if (dt_not (dt_val (de_v (dv_isi isTy_tuple (by rfl) X.m_isinstance (by rfl) X.m_tuple (by decide +kernel) (dln 0))))) (dss_one (ds_ret (de_call G__law_is_plain hgd (hr.mono (by decide)) (by rfl) X.g__law_is_plain X.F__law_is_plain.kp X.b__law_is_plain (fun _ _ h => h.1) (da_cons (dv_e (den 0)) da_nil)))) dss_nil)
      (dss_one (ds_ret (de_v (dv_and (dv_e (de_cmp (oz_lt hu) (dl_v dv_int) (dl_v (dv_e (de_b1 c_lenY (by rfl) X.m_len (by decide +kernel) (dln 0)))))) (dv_and (dv_e (de_cmp (oz_lt hu) (dl_v (dv_e (de_b1 c_lenY (by rfl) X.m_len (by decide +kernel) (dln 0)))) (dl_v dv_int))) (dv_one (dv_e (de_cmp (oy_eq hu) (dl_v (dv_e (de_lc (own := [("_law_item", 1)]) (vs := [1]) rfl SC__law_is_value.nd (di_any (dv_e (den 0))) (blkOk_by (own := [("_law_item", 1)]) (N := N__law_is_value) (sc := defScope S__law_is_value) (by decide +kernel)) rfl (fun _ _ _ _ _ => (dgb 1 SC__law_is_value.nd)) (fun _ _ _ _ _ => (dts_one (dt_not (dt_val (de_call G__law_is_plain hgd (hr.mono (by decide)) (by rfl) X.g__law_is_plain X.F__law_is_plain.kp X.b__law_is_plain (fun _ _ h => h.1) (da_cons (dv_e (den 1)) da_nil)))))) (fun _ _ _ _ _ => dv_int)))) (dl_v (dv_e (de_lst da_nil))))))))))))
def T_is_integer : TSD := (t_ret (t_v (t_andV (t_isi "int" (t_lname 0)) (t_notV (t_isi "bool" (t_lname 0))))))
def C_is_integer : TF := runD T_is_integer N_is_integer 1
theorem ok_is_integer (X : Tx K mg A) : FnG P w K mg base CX0 1 A.a_is_integer A.d_is_integer ["value"] (spD ⟨K, w⟩ ZPu 1 C_is_integer) := by
  refine fnD X.F_is_integer SC_is_integer fun cdv Ar outer s H E hgd hr => ?_
  have hu : (Ar.deeper (envOfC "is_integer" (defScope S_is_integer) s.heap.objs.size A.a_is_integer cdv)).units + 64 < cLine := by have := hr.un; omega
  exact (dss_one (ds_ret (de_v (dv_and (dv_isi isTy_int (by rfl) X.m_isinstance (by rfl) X.m_int (by decide +kernel) (dln 0)) (dv_one (dv_not (dv_isi isTy_bool (by rfl) X.m_isinstance (by rfl) X.m_bool (by decide +kernel) (dln 0))))))))
def T_is_word : TSD := (t_ret (t_v (t_andV (t_isi "str" (t_lname 0)) (t_andV (t_f (t_chain' leX leX (t_l (t_c (.int 1))) (t_l (t_f (t_c1 lenY (t_lname 0)))) (t_l (t_c (.int (8)))))) (t_f (t_c1 allX (t_l (t_f (t_lc [1] (t_wany (t_f (t_name 0))) (g_name 1) t_yes (t_f (t_op inY (t_lname 1) (t_l (t_c (.str "abcdefghijklmnopqrstuvwxyz"))))))))))))))
def C_is_word : TF := runD T_is_word N_is_word 1
theorem ok_is_word (X : Tx K mg A) : FnG P w K mg base CX0 1 A.a_is_word A.d_is_word ["value"] (spD ⟨K, w⟩ ZPu 1 C_is_word) := by
  refine fnD X.F_is_word SC_is_word fun cdv Ar outer s H E hgd hr => ?_
  have hu : (Ar.deeper (envOfC "is_word" (defScope S_is_word) s.heap.objs.size A.a_is_word cdv)).units + 64 < cLine := by have := hr.un; omega
  exact (dss_one (ds_ret (de_v (dv_and (dv_isi isTy_str (by rfl) X.m_isinstance (by rfl) X.m_str (by decide +kernel) (dln 0)) (dv_and (dv_e (de_chain ox_le ox_le (dl_v dv_int) (dl_v (dv_e (de_b1 c_lenY (by rfl) X.m_len (by decide +kernel) (dln 0)))) (dl_v (dv_gint (by rfl) X.c_MAX_WORD)))) (dv_one (dv_e (de_b1 (c_all rfl) (by rfl) X.m_all (by decide +kernel) (dl_v (dv_e (de_lc (own := [("sign", 1)]) (vs := [1]) rfl SC_is_word.nd (di_any (dv_e (den 0))) (blkOk_by (own := [("sign", 1)]) (N := N_is_word) (sc := defScope S_is_word) (by decide +kernel)) rfl (fun _ _ _ _ _ => (dgb 1 SC_is_word.nd)) (fun _ _ _ _ _ => dts_nil) (fun _ _ _ _ _ => (dv_e (de_cmp (oy_in hu) (dln 1) (dl_v (dv_gstr (by rfl) X.c_LETTERS))))))))))))))))
def T_is_plain : TSD := (t_ret (t_v (t_orV (t_f (t_call C_is_word (t_acons (t_f (t_name 0)) t_anil))) (t_andV (t_f (t_call C_is_integer (t_acons (t_f (t_name 0)) t_anil))) (t_f (t_chain' leX leX (t_l (t_c (.int 0))) (t_lname 0) (t_l (t_c (.int (999))))))))))
def C_is_plain : TF := runD T_is_plain N_is_plain 1
theorem ok_is_plain (X : Tx K mg A) : FnG P w K mg base CX0 2 A.a_is_plain A.d_is_plain ["value"] (spD ⟨K, w⟩ ZPu 1 C_is_plain) := by
  have G_is_integer := ok_is_integer (P := P) (w := w) (base := base) X
  have G_is_word := ok_is_word (P := P) (w := w) (base := base) X
  refine fnD X.F_is_plain SC_is_plain fun cdv Ar outer s H E hgd hr => ?_
  have hu : (Ar.deeper (envOfC "is_plain" (defScope S_is_plain) s.heap.objs.size A.a_is_plain cdv)).units + 64 < cLine := by have := hr.un; omega
  exact (dss_one (ds_ret (de_v (dv_or (dv_e (de_call G_is_word hgd (hr.mono (by decide)) (by rfl) X.g_is_word X.F_is_word.kp X.b_is_word (fun _ _ h => h.1) (da_cons (dv_e (den 0)) da_nil))) (dv_one (dv_and (dv_e (de_call G_is_integer hgd (hr.mono (by decide)) (by rfl) X.g_is_integer X.F_is_integer.kp X.b_is_integer (fun _ _ h => h.1) (da_cons (dv_e (den 0)) da_nil))) (dv_one (dv_e (de_chain ox_le ox_le (dl_v dv_int) (dln 0) (dl_v (dv_gint (by rfl) X.c_MAX_NUMBER)))))))))))
def T_is_value : TSD := (t_seq (t_if (t_tst (t_v (t_isi "tuple" (t_lname 0)))) (t_ret (t_v (t_andV (t_f (t_chain' leX leX (t_l (t_c (.int 1))) (t_l (t_f (t_c1 lenY (t_lname 0)))) (t_l (t_c (.int (4)))))) (t_f (t_c1 allX (t_l (t_f (t_lc [1] (t_wany (t_f (t_name 0))) (g_name 1) t_yes (t_f (t_call C_is_plain (t_acons (t_f (t_name 1)) t_anil))))))))))) t_next)
      (t_ret (t_call C_is_plain (t_acons (t_f (t_name 0)) t_anil))))
def C_is_value : TF := runD T_is_value N_is_value 1
theorem ok_is_value (X : Tx K mg A) : FnG P w K mg base CX0 3 A.a_is_value A.d_is_value ["value"] (spD ⟨K, w⟩ ZPu 1 C_is_value) := by
  have G_is_plain := ok_is_plain (P := P) (w := w) (base := base) X
  refine fnD X.F_is_value SC_is_value fun cdv Ar outer s H E hgd hr => ?_
  have hu : (Ar.deeper (envOfC "is_value" (defScope S_is_value) s.heap.objs.size A.a_is_value cdv)).units + 64 < cLine := by have := hr.un; omega
  exact (dss_cons (ds_if (dt_val (de_v (dv_isi isTy_tuple (by rfl) X.m_isinstance (by rfl) X.m_tuple (by decide +kernel) (dln 0)))) (dss_one (ds_ret (de_v (dv_and (dv_e (de_chain ox_le ox_le (dl_v dv_int) (dl_v (dv_e (de_b1 c_lenY (by rfl) X.m_len (by decide +kernel) (dln 0)))) (dl_v (dv_gint (by rfl) X.c_MAX_ITEMS)))) (dv_one (dv_e (de_b1 (c_all rfl) (by rfl) X.m_all (by decide +kernel) (dl_v (dv_e (de_lc (own := [("item", 1)]) (vs := [1]) rfl SC_is_value.nd (di_any (dv_e (den 0))) (blkOk_by (own := [("item", 1)]) (N := N_is_value) (sc := defScope S_is_value) (by decide +kernel)) rfl (fun _ _ _ _ _ => (dgb 1 SC_is_value.nd)) (fun _ _ _ _ _ => dts_nil) (fun _ _ _ _ _ => (dv_e (de_call G_is_plain hgd (hr.mono (by decide)) (by rfl) X.g_is_plain X.F_is_plain.kp X.b_is_plain (fun _ _ h => h.1) (da_cons (dv_e (den 1)) da_nil)))))))))))))) dss_nil)
      (dss_one (ds_ret (de_call G_is_plain hgd (hr.mono (by decide)) (by rfl) X.g_is_plain X.F_is_plain.kp X.b_is_plain (fun _ _ h => h.1) (da_cons (dv_e (den 0)) da_nil)))))
def T__law_is_judged : TSD := (t_seq (t_asg (t_c1 shX (t_lname 0)) (g_name 2))
      (t_seq (t_asg (t_ifx (t_tst (t_name 1)) (t_callK kb_is_value_0_value_S 0 1 C_is_value t_anil (t_acons (t_f (t_name 0)) t_anil)) (t_call C_is_value (t_acons (t_f (t_name 0)) t_anil))) (g_name 3))
      (t_ret (t_op eqY (t_l (t_f (t_c1 shX (t_l (t_f (t_lstd (t_acons (t_f (t_name 3)) (t_acons (t_f (t_c1 shX (t_lname 0))) t_anil)))))))) (t_l (t_f (t_c1 shX (t_l (t_f (t_lstd (t_acons (t_f (t_call C__law_is_value (t_acons (t_f (t_name 0)) t_anil))) (t_acons (t_f (t_name 2)) t_anil))))))))))))
def C__law_is_judged : TF := runD T__law_is_judged N__law_is_judged 2
theorem ok__law_is_judged (X : Tx K mg A) : FnG P w K mg base CX0 4 A.a__law_is_judged A.d__law_is_judged ["_law_thing", "_law_is_named"] (spD ⟨K, w⟩ ZPu 2 C__law_is_judged) := by
  have G__law_is_value := ok__law_is_value (P := P) (w := w) (base := base) X
  have G_is_value := ok_is_value (P := P) (w := w) (base := base) X
  refine fnD X.F__law_is_judged SC__law_is_judged fun cdv Ar outer s H E hgd hr => ?_
  have hu : (Ar.deeper (envOfC "_law_is_judged" (defScope S__law_is_judged) s.heap.objs.size A.a__law_is_judged cdv)).units + 64 < cLine := by have := hr.un; omega
  exact (dss_cons (ds_asg (de_b1 (c_show hgd hu) (by rfl) X.m_repr (by decide +kernel) (dln 0)) (dgm 2 SC__law_is_judged.nd))
      (dss_cons (ds_asg (de_if (dt_val (den 1)) (de_callK0 G_is_value hgd (hr.mono (by decide)) (by rfl) X.g_is_value X.F_is_value.kp (kb_is_value_0_value X.F_is_value) kb_is_value_0_value_rel kb_is_value_0_value_s (fun zs h => kb_is_value_0_value_len zs h) (dk_cons (dv_e (den 0)) dk_nil)) (de_call G_is_value hgd (hr.mono (by decide)) (by rfl) X.g_is_value X.F_is_value.kp X.b_is_value (fun _ _ h => h.1) (da_cons (dv_e (den 0)) da_nil))) (dgm 3 SC__law_is_judged.nd))
      (dss_one (ds_ret (de_cmp (oy_eq hu) (dl_v (dv_e (de_b1 (c_show hgd hu) (by rfl) X.m_repr (by decide +kernel) (dl_v (dv_e (de_lst (da_cons (dv_e (den 3)) (da_cons (dv_e (de_b1 (c_show hgd hu) (by rfl) X.m_repr (by decide +kernel) (dln 0))) da_nil)))))))) (dl_v (dv_e (de_b1 (c_show hgd hu) (by rfl) X.m_repr (by decide +kernel) (dl_v (dv_e (de_lst (da_cons (dv_e (de_call G__law_is_value hgd (hr.mono (by decide)) (by rfl) X.g__law_is_value X.F__law_is_value.kp X.b__law_is_value (fun _ _ h => h.1) (da_cons (dv_e (den 0)) da_nil))) (da_cons (dv_e (den 2)) da_nil)))))))))))))
def T__law_kind : TSD := (t_ret (t_ifx (t_tst (t_v (t_isi "int" (t_lname 0)))) (t_v (t_c (.int 0))) (t_ifx (t_tst (t_v (t_isi "str" (t_lname 0)))) (t_v (t_c (.int 1))) (t_v (t_c (.int 2))))))
def C__law_kind : TF := runD T__law_kind N__law_kind 1
theorem ok__law_kind (X : Tx K mg A) : FnG P w K mg base CX0 1 A.a__law_kind A.d__law_kind ["_law_thing"] (spD ⟨K, w⟩ ZPu 1 C__law_kind) := by
  refine fnD X.F__law_kind SC__law_kind fun cdv Ar outer s H E hgd hr => ?_
  have hu : (Ar.deeper (envOfC "_law_kind" (defScope S__law_kind) s.heap.objs.size A.a__law_kind cdv)).units + 64 < cLine := by have := hr.un; omega
  exact (dss_one (ds_ret (de_if (dt_val (de_v (dv_isi isTy_int (by rfl) X.m_isinstance (by rfl) X.m_int (by decide +kernel) (dln 0)))) (de_v dv_int) (de_if (dt_val (de_v (dv_isi isTy_str (by rfl) X.m_isinstance (by rfl) X.m_str (by decide +kernel) (dln 0)))) (de_v dv_int) (de_v dv_int)))))
def T__law_is_ahead (CR : TF) : TSD := (t_seq (t_if (t_tst (t_op neY (t_l (t_f (t_call C__law_kind (t_acons (t_f (t_name 0)) t_anil)))) (t_l (t_f (t_call C__law_kind (t_acons (t_f (t_name 1)) t_anil)))))) (t_ret (t_op ltZ (t_l (t_f (t_call C__law_kind (t_acons (t_f (t_name 0)) t_anil)))) (t_l (t_f (t_call C__law_kind (t_acons (t_f (t_name 1)) t_anil)))))) t_next)
      (t_seq (t_if (t_tst (t_op eqY (t_l (t_f (t_call C__law_kind (t_acons (t_f (t_name 0)) t_anil)))) (t_l (t_c (.int 0))))) (t_ret (t_op ltZ (t_lname 0) (t_lname 1))) t_next)
      (t_seq (t_if (t_tst (t_op eqY (t_l (t_f (t_call C__law_kind (t_acons (t_f (t_name 0)) t_anil)))) (t_l (t_c (.int 1))))) (t_seq (t_for (t_wzipT (t_acons (t_f (t_name 0)) (t_acons (t_f (t_name 1)) t_anil))) (g_tup 2 (g_cons (g_name 2) (g_cons (g_name 3) g_nil))) (t_if (t_tst (t_op neY (t_lname 2) (t_lname 3))) (t_ret (t_op ltZ (t_l (t_f (t_c1 ordX (t_lname 2)))) (t_l (t_f (t_c1 ordX (t_lname 3)))))) t_next))
      (t_ret (t_op ltZ (t_l (t_f (t_c1 lenY (t_lname 0)))) (t_l (t_f (t_c1 lenY (t_lname 1))))))) t_next)
      (t_seq (t_for (t_wzipT (t_acons (t_f (t_name 0)) (t_acons (t_f (t_name 1)) t_anil))) (g_tup 2 (g_cons (g_name 2) (g_cons (g_name 3) g_nil))) (t_if (t_or (t_tst (t_call CR (t_acons (t_f (t_name 2)) (t_acons (t_f (t_name 3)) t_anil)))) (t_tst (t_call CR (t_acons (t_f (t_name 3)) (t_acons (t_f (t_name 2)) t_anil))))) (t_ret (t_call CR (t_acons (t_f (t_name 2)) (t_acons (t_f (t_name 3)) t_anil)))) t_next))
      (t_ret (t_op ltZ (t_l (t_f (t_c1 lenY (t_lname 0)))) (t_l (t_f (t_c1 lenY (t_lname 1))))))))))
def C__law_is_ahead : Nat → TF
  | 0 => fun _ _ => False
  | n + 1 => runD (T__law_is_ahead (C__law_is_ahead n)) N__law_is_ahead 2
theorem lenR__law_is_ahead : ∀ {n : Nat} {svs : List SV} {Q : SV → Prop}, C__law_is_ahead n svs Q → svs.length = 2
  | 0, _, _, h => h.elim
  | _ + 1, _, _, h => h.1
theorem ok__law_is_ahead (X : Tx K mg A) : ∀ n : Nat, FnG P w K mg base CX0 (2 + n) A.a__law_is_ahead A.d__law_is_ahead ["_law_one", "_law_two"] (spD ⟨K, w⟩ ZPu 2 (C__law_is_ahead n))
  | 0 => fnG_no
  | n + 1 => by
    have GR__law_is_ahead := ok__law_is_ahead X n
    have G__law_kind := ok__law_kind (P := P) (w := w) (base := base) X
    refine fnD X.F__law_is_ahead SC__law_is_ahead fun cdv Ar outer s H E hgd hr => ?_
    have hr : Room (2 + n) (Ar.deeper (envOfC "_law_is_ahead" (defScope S__law_is_ahead) s.heap.objs.size A.a__law_is_ahead cdv)) := hr
    have hu : (Ar.deeper (envOfC "_law_is_ahead" (defScope S__law_is_ahead) s.heap.objs.size A.a__law_is_ahead cdv)).units + 64 < cLine := by have := hr.un; omega
    exact (dss_cons (ds_if (dt_cmp (oy_ne hu) (dl_v (dv_e (de_call G__law_kind hgd (hr.mono (by omega)) (by rfl) X.g__law_kind X.F__law_kind.kp X.b__law_kind (fun _ _ h => h.1) (da_cons (dv_e (den 0)) da_nil)))) (dl_v (dv_e (de_call G__law_kind hgd (hr.mono (by omega)) (by rfl) X.g__law_kind X.F__law_kind.kp X.b__law_kind (fun _ _ h => h.1) (da_cons (dv_e (den 1)) da_nil))))) (dss_one (ds_ret (de_cmp (oz_lt hu) (dl_v (dv_e (de_call G__law_kind hgd (hr.mono (by omega)) (by rfl) X.g__law_kind X.F__law_kind.kp X.b__law_kind (fun _ _ h => h.1) (da_cons (dv_e (den 0)) da_nil)))) (dl_v (dv_e (de_call G__law_kind hgd (hr.mono (by omega)) (by rfl) X.g__law_kind X.F__law_kind.kp X.b__law_kind (fun _ _ h => h.1) (da_cons (dv_e (den 1)) da_nil))))))) dss_nil)
      (dss_cons (ds_if (dt_cmp (oy_eq hu) (dl_v (dv_e (de_call G__law_kind hgd (hr.mono (by omega)) (by rfl) X.g__law_kind X.F__law_kind.kp X.b__law_kind (fun _ _ h => h.1) (da_cons (dv_e (den 0)) da_nil)))) (dl_v dv_int)) (dss_one (ds_ret (de_cmp (oz_lt hu) (dln 0) (dln 1)))) dss_nil)
      (dss_cons (ds_if (dt_cmp (oy_eq hu) (dl_v (dv_e (de_call G__law_kind hgd (hr.mono (by omega)) (by rfl) X.g__law_kind X.F__law_kind.kp X.b__law_kind (fun _ _ h => h.1) (da_cons (dv_e (den 0)) da_nil)))) (dl_v dv_int)) (dss_cons (ds_for PassesOwn.never rfl (di_zipT (by rfl) X.m_zip (da_cons (dv_e (den 0)) (da_cons (dv_e (den 1)) da_nil))) (dg_tup rfl (dgs_cons (dgm 2 SC__law_is_ahead.nd) (dgs_cons (dgm 3 SC__law_is_ahead.nd) dgs_nil))) (dss_one (ds_if (dt_cmp (oy_ne hu) (dln 2) (dln 3)) (dss_one (ds_ret (de_cmp (oz_lt hu) (dl_v (dv_e (de_b1 c_ord (by rfl) X.m_ord (by decide +kernel) (dln 2)))) (dl_v (dv_e (de_b1 c_ord (by rfl) X.m_ord (by decide +kernel) (dln 3))))))) dss_nil)))
      (dss_one (ds_ret (de_cmp (oz_lt hu) (dl_v (dv_e (de_b1 c_lenY (by rfl) X.m_len (by decide +kernel) (dln 0)))) (dl_v (dv_e (de_b1 c_lenY (by rfl) X.m_len (by decide +kernel) (dln 1)))))))) dss_nil)
      (dss_cons (ds_for PassesOwn.never rfl (di_zipT (by rfl) X.m_zip (da_cons (dv_e (den 0)) (da_cons (dv_e (den 1)) da_nil))) (dg_tup rfl (dgs_cons (dgm 2 SC__law_is_ahead.nd) (dgs_cons (dgm 3 SC__law_is_ahead.nd) dgs_nil))) (dss_one (ds_if (dt_w (dw_or (dt_val (de_call GR__law_is_ahead hgd hr (by rfl) X.g__law_is_ahead X.F__law_is_ahead.kp X.b__law_is_ahead (fun _ _ h => lenR__law_is_ahead h) (da_cons (dv_e (den 2)) (da_cons (dv_e (den 3)) da_nil)))) (dw_or1 (dt_val (de_call GR__law_is_ahead hgd hr (by rfl) X.g__law_is_ahead X.F__law_is_ahead.kp X.b__law_is_ahead (fun _ _ h => lenR__law_is_ahead h) (da_cons (dv_e (den 3)) (da_cons (dv_e (den 2)) da_nil))))))) (dss_one (ds_ret (de_call GR__law_is_ahead hgd hr (by rfl) X.g__law_is_ahead X.F__law_is_ahead.kp X.b__law_is_ahead (fun _ _ h => lenR__law_is_ahead h) (da_cons (dv_e (den 2)) (da_cons (dv_e (den 3)) da_nil))))) dss_nil)))
      (dss_one (ds_ret (de_cmp (oz_lt hu) (dl_v (dv_e (de_b1 c_lenY (by rfl) X.m_len (by decide +kernel) (dln 0)))) (dl_v (dv_e (de_b1 c_lenY (by rfl) X.m_len (by decide +kernel) (dln 1)))))))))))
def T__law_rank (CR : TF) : TSD := (t_seq (t_if (t_tst (t_op ltZ (t_l (t_f (t_call C__law_kind (t_acons (t_f (t_name 0)) t_anil)))) (t_l (t_c (.int 2))))) (t_ret (t_v (t_tupd (t_acons (t_f (t_call C__law_kind (t_acons (t_f (t_name 0)) t_anil))) (t_acons (t_f (t_name 0)) t_anil))))) t_next)
      (t_ret (t_v (t_tupd (t_acons (t_c (.int 2)) (t_acons (t_f (t_c1 tupleX (t_l (t_f (t_lc [1] (t_wany (t_f (t_name 0))) (g_name 1) t_yes (t_f (t_call CR (t_acons (t_f (t_name 1)) t_anil)))))))) t_anil))))))
def C__law_rank : Nat → TF
  | 0 => fun _ _ => False
  | n + 1 => runD (T__law_rank (C__law_rank n)) N__law_rank 1
theorem lenR__law_rank : ∀ {n : Nat} {svs : List SV} {Q : SV → Prop}, C__law_rank n svs Q → svs.length = 1
  | 0, _, _, h => h.elim
  | _ + 1, _, _, h => h.1
theorem ok__law_rank (X : Tx K mg A) : ∀ n : Nat, FnG P w K mg base CX0 (2 + n) A.a__law_rank A.d__law_rank ["_law_thing"] (spD ⟨K, w⟩ ZPu 1 (C__law_rank n))
  | 0 => fnG_no
  | n + 1 => by
    have GR__law_rank := ok__law_rank X n
    have G__law_kind := ok__law_kind (P := P) (w := w) (base := base) X
    refine fnD X.F__law_rank SC__law_rank fun cdv Ar outer s H E hgd hr => ?_
    have hr : Room (2 + n) (Ar.deeper (envOfC "_law_rank" (defScope S__law_rank) s.heap.objs.size A.a__law_rank cdv)) := hr
    have hu : (Ar.deeper (envOfC "_law_rank" (defScope S__law_rank) s.heap.objs.size A.a__law_rank cdv)).units + 64 < cLine := by have := hr.un; omega
    exact (dss_cons (ds_if (dt_cmp (oz_lt hu) (dl_v (dv_e (de_call G__law_kind hgd (hr.mono (by omega)) (by rfl) X.g__law_kind X.F__law_kind.kp X.b__law_kind (fun _ _ h => h.1) (da_cons (dv_e (den 0)) da_nil)))) (dl_v dv_int)) (dss_one (ds_ret (de_v (dv_tup (da_cons (dv_e (de_call G__law_kind hgd (hr.mono (by omega)) (by rfl) X.g__law_kind X.F__law_kind.kp X.b__law_kind (fun _ _ h => h.1) (da_cons (dv_e (den 0)) da_nil))) (da_cons (dv_e (den 0)) da_nil)))))) dss_nil)
      (dss_one (ds_ret (de_v (dv_tup (da_cons dv_int (da_cons (dv_e (de_t1 c_tuple (by rfl) X.m_tuple (by decide +kernel) (dl_v (dv_e (de_lc (own := [("_law_item", 1)]) (vs := [1]) rfl SC__law_rank.nd (di_any (dv_e (den 0))) (blkOk_by (own := [("_law_item", 1)]) (N := N__law_rank) (sc := defScope S__law_rank) (by decide +kernel)) rfl (fun _ _ _ _ _ => (dgb 1 SC__law_rank.nd)) (fun _ _ _ _ _ => dts_nil) (fun _ _ _ _ _ => (dv_e (de_call GR__law_rank hgd hr (by rfl) X.g__law_rank X.F__law_rank.kp X.b__law_rank (fun _ _ h => lenR__law_rank h) (da_cons (dv_e (den 1)) da_nil))))))))) da_nil)))))))
def T_value_rank (CR : TF) : TSD := (t_seq (t_if (t_tst (t_v (t_isi "tuple" (t_lname 0)))) (t_ret (t_v (t_tupd (t_acons (t_c (.int 2)) (t_acons (t_f (t_c1 tupleX (t_l (t_f (t_lc [1] (t_wany (t_f (t_name 0))) (g_name 1) t_yes (t_f (t_call CR (t_acons (t_f (t_name 1)) t_anil)))))))) t_anil))))) t_next)
      (t_ret (t_ifx (t_tst (t_v (t_isi "str" (t_lname 0)))) (t_v (t_tupd (t_acons (t_c (.int 1)) (t_acons (t_f (t_name 0)) t_anil)))) (t_v (t_tupd (t_acons (t_c (.int 0)) (t_acons (t_f (t_name 0)) t_anil)))))))
def C_value_rank : Nat → TF
  | 0 => fun _ _ => False
  | n + 1 => runD (T_value_rank (C_value_rank n)) N_value_rank 1
theorem lenR_value_rank : ∀ {n : Nat} {svs : List SV} {Q : SV → Prop}, C_value_rank n svs Q → svs.length = 1
  | 0, _, _, h => h.elim
  | _ + 1, _, _, h => h.1
theorem ok_value_rank (X : Tx K mg A) : ∀ n : Nat, FnG P w K mg base CX0 (1 + n) A.a_value_rank A.d_value_rank ["value"] (spD ⟨K, w⟩ ZPu 1 (C_value_rank n))
  | 0 => fnG_no
  | n + 1 => by
    have GR_value_rank := ok_value_rank X n
    refine fnD X.F_value_rank SC_value_rank fun cdv Ar outer s H E hgd hr => ?_
    have hr : Room (1 + n) (Ar.deeper (envOfC "value_rank" (defScope S_value_rank) s.heap.objs.size A.a_value_rank cdv)) := hr
    have hu : (Ar.deeper (envOfC "value_rank" (defScope S_value_rank) s.heap.objs.size A.a_value_rank cdv)).units + 64 < cLine := by have := hr.un; omega
    exact (dss_cons (ds_if (dt_val (de_v (dv_isi isTy_tuple (by rfl) X.m_isinstance (by rfl) X.m_tuple (by decide +kernel) (dln 0)))) (dss_one (ds_ret (de_v (dv_tup (da_cons dv_int (da_cons (dv_e (de_t1 c_tuple (by rfl) X.m_tuple (by decide +kernel) (dl_v (dv_e (de_lc (own := [("item", 1)]) (vs := [1]) rfl SC_value_rank.nd (di_any (dv_e (den 0))) (blkOk_by (own := [("item", 1)]) (N := N_value_rank) (sc := defScope S_value_rank) (by decide +kernel)) rfl (fun _ _ _ _ _ => (dgb 1 SC_value_rank.nd)) (fun _ _ _ _ _ => dts_nil) (fun _ _ _ _ _ => (dv_e (de_call GR_value_rank hgd hr (by rfl) X.g_value_rank X.F_value_rank.kp X.b_value_rank (fun _ _ h => lenR_value_rank h) (da_cons (dv_e (den 1)) da_nil))))))))) da_nil)))))) dss_nil)
      (dss_one (ds_ret (de_if (dt_val (de_v (dv_isi isTy_str (by rfl) X.m_isinstance (by rfl) X.m_str (by decide +kernel) (dln 0)))) (de_v (dv_tup (da_cons dv_int (da_cons (dv_e (den 0)) da_nil)))) (de_v (dv_tup (da_cons dv_int (da_cons (dv_e (den 0)) da_nil))))))))
def T__law_is_told : TSD := (t_seq (t_par 2 3 (t_call (C_value_rank 3) (t_acons (t_f (t_name 0)) t_anil)) (t_callK kb_value_rank_0_value_S 0 1 (C_value_rank 3) t_anil (t_acons (t_f (t_name 1)) t_anil)))
      (t_seq (t_if (t_tst (t_op neY (t_l (t_f (t_c1 shX (t_l (t_f (t_lstd (t_acons (t_f (t_name 2)) (t_acons (t_f (t_name 3)) t_anil)))))))) (t_l (t_f (t_c1 shX (t_l (t_f (t_lstd (t_acons (t_f (t_call (C__law_rank 3) (t_acons (t_f (t_name 0)) t_anil))) (t_acons (t_f (t_call (C__law_rank 3) (t_acons (t_f (t_name 1)) t_anil))) t_anil)))))))))) (t_ret (t_v (t_c (.bool false)))) t_next)
      (t_ret (t_op eqY (t_l (t_f (t_lstd (t_acons (t_f (t_op ltZ (t_lname 2) (t_lname 3))) (t_acons (t_f (t_op ltZ (t_lname 3) (t_lname 2))) t_anil))))) (t_l (t_f (t_lstd (t_acons (t_f (t_call (C__law_is_ahead 3) (t_acons (t_f (t_name 0)) (t_acons (t_f (t_name 1)) t_anil)))) (t_acons (t_f (t_call (C__law_is_ahead 3) (t_acons (t_f (t_name 1)) (t_acons (t_f (t_name 0)) t_anil)))) t_anil)))))))))
def C__law_is_told : TF := runD T__law_is_told N__law_is_told 2
theorem ok__law_is_told (X : Tx K mg A) : FnG P w K mg base CX0 6 A.a__law_is_told A.d__law_is_told ["_law_one", "_law_two"] (spD ⟨K, w⟩ ZPu 2 C__law_is_told) := by
  have G__law_is_ahead := ok__law_is_ahead (P := P) (w := w) (base := base) X
  have G__law_rank := ok__law_rank (P := P) (w := w) (base := base) X
  have G_value_rank := ok_value_rank (P := P) (w := w) (base := base) X
  refine fnD X.F__law_is_told SC__law_is_told fun cdv Ar outer s H E hgd hr => ?_
  have hu : (Ar.deeper (envOfC "_law_is_told" (defScope S__law_is_told) s.heap.objs.size A.a__law_is_told cdv)).units + 64 < cLine := by have := hr.un; omega
  exact (dss_cons (dspar 2 3 SC__law_is_told.nd (de_call (G_value_rank 3) hgd (hr.mono (by decide)) (by rfl) X.g_value_rank X.F_value_rank.kp X.b_value_rank (fun _ _ h => lenR_value_rank h) (da_cons (dv_e (den 0)) da_nil)) (de_callK0 (G_value_rank 3) hgd (hr.mono (by decide)) (by rfl) X.g_value_rank X.F_value_rank.kp (kb_value_rank_0_value X.F_value_rank) kb_value_rank_0_value_rel kb_value_rank_0_value_s (fun zs h => kb_value_rank_0_value_len zs h) (dk_cons (dv_e (den 1)) dk_nil)))
      (dss_cons (ds_if (dt_cmp (oy_ne hu) (dl_v (dv_e (de_b1 (c_show hgd hu) (by rfl) X.m_repr (by decide +kernel) (dl_v (dv_e (de_lst (da_cons (dv_e (den 2)) (da_cons (dv_e (den 3)) da_nil)))))))) (dl_v (dv_e (de_b1 (c_show hgd hu) (by rfl) X.m_repr (by decide +kernel) (dl_v (dv_e (de_lst (da_cons (dv_e (de_call (G__law_rank 3) hgd (hr.mono (by decide)) (by rfl) X.g__law_rank X.F__law_rank.kp X.b__law_rank (fun _ _ h => lenR__law_rank h) (da_cons (dv_e (den 0)) da_nil))) (da_cons (dv_e (de_call (G__law_rank 3) hgd (hr.mono (by decide)) (by rfl) X.g__law_rank X.F__law_rank.kp X.b__law_rank (fun _ _ h => lenR__law_rank h) (da_cons (dv_e (den 1)) da_nil))) da_nil))))))))) (dss_one (ds_ret (de_v dv_bl))) dss_nil)
      (dss_one (ds_ret (de_cmp (oy_eq hu) (dl_v (dv_e (de_lst (da_cons (dv_e (de_cmp (oz_lt hu) (dln 2) (dln 3))) (da_cons (dv_e (de_cmp (oz_lt hu) (dln 3) (dln 2))) da_nil))))) (dl_v (dv_e (de_lst (da_cons (dv_e (de_call (G__law_is_ahead 3) hgd (hr.mono (by decide)) (by rfl) X.g__law_is_ahead X.F__law_is_ahead.kp X.b__law_is_ahead (fun _ _ h => lenR__law_is_ahead h) (da_cons (dv_e (den 0)) (da_cons (dv_e (den 1)) da_nil)))) (da_cons (dv_e (de_call (G__law_is_ahead 3) hgd (hr.mono (by decide)) (by rfl) X.g__law_is_ahead X.F__law_is_ahead.kp X.b__law_is_ahead (fun _ _ h => lenR__law_is_ahead h) (da_cons (dv_e (den 1)) (da_cons (dv_e (den 0)) da_nil)))) da_nil))))))))))
def T__law_pick : TSD := (t_ret (t_op ixG (t_lname 1) (t_l (t_f (t_call C__law_draw (t_aconsR (t_name 0) (t_acons (t_f (t_c1 lenY (t_lname 1))) t_anil)))))))
def C__law_pick : TF := runD T__law_pick N__law_pick 2
theorem ok__law_pick (X : Tx K mg A) : FnG P w K mg base CX0 2 A.a__law_pick A.d__law_pick ["_law_box_here", "_law_items"] (spD ⟨K, w⟩ ZPu 2 C__law_pick) := by
  have G__law_draw := ok__law_draw (P := P) (w := w) (base := base) X
  refine fnD X.F__law_pick SC__law_pick fun cdv Ar outer s H E hgd hr => ?_
  have hu : (Ar.deeper (envOfC "_law_pick" (defScope S__law_pick) s.heap.objs.size A.a__law_pick cdv)).units + 64 < cLine := by have := hr.un; omega
  exact (dss_one (ds_ret (de_ixG hu (dln 1) (dl_v (dv_e (de_call G__law_draw hgd (hr.mono (by decide)) (by rfl) X.g__law_draw X.F__law_draw.kp X.b__law_draw (fun _ _ h => h.1) (da_consR (den 0) (da_cons (dv_e (de_b1 c_lenY (by rfl) X.m_len (by decide +kernel) (dln 1))) da_nil))))))))
def T__law_odd : TSD := (t_seq (t_asg (t_lstd (t_acons (t_c .none) (t_acons (t_c (.bool true)) (t_acons (t_c (.bool false)) (t_acons (t_neg (t_l (t_c (.int 1)))) (t_acons (t_c (.int 1000)) (t_acons (t_f (t_op powX (t_l (t_c (.int 10))) (t_l (t_c (.int 30))))) (t_acons (t_c (.str "")) (t_acons (t_c (.str "A")) (t_acons (t_c (.str "a1")) (t_acons (t_c (.str "a b")) (t_acons (t_c (.str "abcdefghi")) (t_acons (t_c (.str "aB")) (t_acons (t_tupd t_anil) (t_acons (t_f (t_lstd t_anil)) (t_acons (t_f t_gd0) (t_acons (t_f (t_lstd (t_acons (t_f (t_name 1)) t_anil))) t_anil))))))))))))))))) (g_name 2))
      (t_seq (t_asg (t_op addX (t_lname 2) (t_l (t_f (t_lstd (t_acons (t_f (t_disp (t_pcons (t_c (.str "a")) (t_f (t_name 1)) t_pnil))) (t_acons (t_tupd (t_acons (t_f (t_name 1)) t_anil)) (t_acons (t_tupd (t_acons (t_f (t_name 1)) (t_acons (t_f (t_name 1)) t_anil))) (t_acons (t_tupd (t_acons (t_f (t_name 1)) (t_acons (t_c (.bool true)) t_anil))) (t_acons (t_tupd (t_acons (t_c .none) t_anil)) (t_acons (t_tupd (t_acons (t_f (t_lstd (t_acons (t_f (t_name 1)) t_anil))) t_anil)) (t_acons (t_tupd (t_acons (t_tupd (t_acons (t_f (t_name 1)) t_anil)) t_anil)) t_anil))))))))))) (g_name 2))
      (t_seq (t_asg (t_op addX (t_lname 2) (t_l (t_f (t_lstd (t_acons (t_tupd (t_acons (t_c (.int 0)) (t_acons (t_c (.int 1)) (t_acons (t_c (.int 2)) (t_acons (t_c (.int 3)) (t_acons (t_c (.str "a")) t_anil)))))) (t_acons (t_tupd (t_acons (t_c (.int 0)) (t_acons (t_c (.str "a")) (t_acons (t_c (.int 1000)) t_anil)))) (t_acons (t_tupd (t_acons (t_c (.str "")) t_anil)) (t_acons (t_tupd (t_acons (t_c (.str "a")) (t_acons (t_neg (t_l (t_c (.int 1)))) (t_acons (t_c (.str "b")) t_anil)))) (t_acons (t_tupd (t_acons (t_c (.int 1)) (t_acons (t_tupd t_anil) t_anil))) (t_acons (t_c (.str "-")) (t_acons (t_c (.str " a")) (t_acons (t_c (.str "a ")) (t_acons (t_f (t_op mulZ (t_l (t_c (.str "z"))) (t_l (t_c (.int 8))))) t_anil))))))))))))) (g_name 2))
      (t_seq (t_asg (t_op addX (t_lname 2) (t_l (t_f (t_lstd (t_acons (t_f (t_op mulZ (t_l (t_c (.str "z"))) (t_l (t_c (.int 9))))) (t_acons (t_c (.int 999)) (t_acons (t_f (t_op mulZ (t_l (t_tupd (t_acons (t_c (.int 999)) t_anil))) (t_l (t_c (.int 4))))) (t_acons (t_c (.str "up\n")) (t_acons (t_c (.str "\na")) (t_acons (t_tupd (t_acons (t_c (.str "a\n")) (t_acons (t_c (.int 0)) t_anil))) (t_acons (t_c (.str "a\nb")) t_anil))))))))))) (g_name 2))
      (t_seq (t_if (t_tst (t_v (t_isi "tuple" (t_lname 1)))) (t_seq (t_asg (t_call C__law_draw (t_aconsR (t_name 0) (t_acons (t_f (t_c1 lenY (t_lname 1))) t_anil))) (g_name 3))
      (t_seq (t_asg (t_call C__law_pick (t_aconsR (t_name 0) (t_acons (t_f (t_lstd (t_acons (t_c (.bool true)) (t_acons (t_c .none) (t_acons (t_f (t_lstd (t_acons (t_f (t_op ixG (t_lname 1) (t_lname 3))) t_anil))) (t_acons (t_tupd (t_acons (t_f (t_op ixG (t_lname 1) (t_lname 3))) t_anil)) (t_acons (t_c (.int 1000)) (t_acons (t_c (.str "Z")) (t_acons (t_c (.str "")) (t_acons (t_f (t_op ixG (t_lname 1) (t_lname 3))) t_anil)))))))))) t_anil))) (g_name 4))
      (t_asg (t_op addX (t_lname 2) (t_l (t_f (t_op mulZ (t_l (t_f (t_lstd (t_acons (t_f (t_op addX (t_l (t_f (t_op addX (t_l (t_f (t_slice (t_lname 1) t_no (t_some (t_f (t_name 3)))))) (t_l (t_tupd (t_acons (t_f (t_name 4)) t_anil)))))) (t_l (t_f (t_slice (t_lname 1) (t_some (t_f (t_op addX (t_lname 3) (t_l (t_c (.int 1)))))) t_no))))) (t_acons (t_f (t_c1 listX (t_lname 1))) (t_acons (t_f (t_op addX (t_lname 1) (t_lname 1))) (t_acons (t_f (t_slice (t_lname 1) t_no (t_some (t_f (t_name 3))))) t_anil))))))) (t_l (t_c (.int 5))))))) (g_name 2)))) t_next)
      (t_seq (t_if (t_tst (t_v (t_isi "str" (t_lname 1)))) (t_seq (t_par 3 5 (t_call C__law_draw (t_aconsR (t_name 0) (t_acons (t_f (t_c1 lenY (t_lname 1))) t_anil))) (t_call C__law_pick (t_aconsR (t_name 0) (t_acons (t_f (t_lstd (t_acons (t_c (.str "A")) (t_acons (t_c (.str "\n")) (t_acons (t_c (.str "0")) (t_acons (t_c (.str "\n")) (t_acons (t_c (.str "_")) (t_acons (t_c (.str " ")) (t_acons (t_c (.str "{")) (t_acons (t_c (.str "`")) (t_acons (t_c (.str "z")) (t_acons (t_c (.str "-")) t_anil)))))))))))) t_anil))))
      (t_asg (t_op addX (t_lname 2) (t_l (t_f (t_op mulZ (t_l (t_f (t_lstd (t_acons (t_f (t_op addX (t_l (t_f (t_op addX (t_l (t_f (t_slice (t_lname 1) t_no (t_some (t_f (t_name 3)))))) (t_lname 5)))) (t_l (t_f (t_slice (t_lname 1) (t_some (t_f (t_op addX (t_lname 3) (t_l (t_c (.int 1)))))) t_no))))) (t_acons (t_f (t_op addX (t_lname 1) (t_lname 5))) (t_acons (t_f (t_op addX (t_lname 5) (t_lname 1))) (t_acons (t_f (t_op mulZ (t_lname 1) (t_l (t_c (.int 2))))) (t_acons (t_f (t_slice (t_lname 1) t_no (t_some (t_f (t_name 3))))) t_anil)))))))) (t_l (t_c (.int 4))))))) (g_name 2))) t_next)
      (t_ret (t_call C__law_pick (t_aconsR (t_name 0) (t_acons (t_f (t_name 2)) t_anil))))))))))
def C__law_odd : TF := runD T__law_odd N__law_odd 2
theorem ok__law_odd (X : Tx K mg A) : FnG P w K mg base CX0 3 A.a__law_odd A.d__law_odd ["_law_box_here", "_law_thing"] (spD ⟨K, w⟩ ZPu 2 C__law_odd) := by
  have G__law_draw := ok__law_draw (P := P) (w := w) (base := base) X
  have G__law_pick := ok__law_pick (P := P) (w := w) (base := base) X
  refine fnD X.F__law_odd SC__law_odd fun cdv Ar outer s H E hgd hr => ?_
  have hu : (Ar.deeper (envOfC "_law_odd" (defScope S__law_odd) s.heap.objs.size A.a__law_odd cdv)).units + 64 < cLine := by have := hr.un; omega
  exact (dss_cons (ds_asg (de_lst (da_cons dv_non (da_cons dv_bl (da_cons dv_bl (da_cons (dv_neg (dl_v dv_int)) (da_cons dv_int (da_cons (dv_e (de_op ox_pow (dl_v dv_int) (dl_v dv_int))) (da_cons dv_str (da_cons dv_str (da_cons dv_str (da_cons dv_str (da_cons dv_str (da_cons dv_str (da_cons (dv_tup da_nil) (da_cons (dv_e (de_lst da_nil)) (da_cons (dv_e de_gd0) (da_cons (dv_e (de_lst (da_cons (dv_e (den 1)) da_nil))) da_nil))))))))))))))))) (dgm 2 SC__law_odd.nd))
      (dss_cons (ds_asg (de_op ox_add (dln 2) (dl_v (dv_e (de_lst (da_cons (dv_e (de_disp hu (dp_cons dv_str (dv_e (den 1)) dp_nil))) (da_cons (dv_tup (da_cons (dv_e (den 1)) da_nil)) (da_cons (dv_tup (da_cons (dv_e (den 1)) (da_cons (dv_e (den 1)) da_nil))) (da_cons (dv_tup (da_cons (dv_e (den 1)) (da_cons dv_bl da_nil))) (da_cons (dv_tup (da_cons dv_non da_nil)) (da_cons (dv_tup (da_cons (dv_e (de_lst (da_cons (dv_e (den 1)) da_nil))) da_nil)) (da_cons (dv_tup (da_cons (dv_tup (da_cons (dv_e (den 1)) da_nil)) da_nil)) da_nil))))))))))) (dgm 2 SC__law_odd.nd))
      (dss_cons (ds_asg (de_op ox_add (dln 2) (dl_v (dv_e (de_lst (da_cons (dv_tup (da_cons dv_int (da_cons dv_int (da_cons dv_int (da_cons dv_int (da_cons dv_str da_nil)))))) (da_cons (dv_tup (da_cons dv_int (da_cons dv_str (da_cons dv_int da_nil)))) (da_cons (dv_tup (da_cons dv_str da_nil)) (da_cons (dv_tup (da_cons dv_str (da_cons (dv_neg (dl_v dv_int)) (da_cons dv_str da_nil)))) (da_cons (dv_tup (da_cons dv_int (da_cons (dv_tup da_nil) da_nil))) (da_cons dv_str (da_cons dv_str (da_cons dv_str (da_cons (dv_e (de_op oz_mul (dl_v dv_str) (dl_v dv_int))) da_nil))))))))))))) (dgm 2 SC__law_odd.nd))
      (dss_cons (ds_asg (de_op ox_add (dln 2) (dl_v (dv_e (de_lst (da_cons (dv_e (de_op oz_mul (dl_v dv_str) (dl_v dv_int))) (da_cons dv_int (da_cons (dv_e (de_op oz_mul (dl_v (dv_tup (da_cons dv_int da_nil))) (dl_v dv_int))) (da_cons dv_str (da_cons dv_str (da_cons (dv_tup (da_cons dv_str (da_cons dv_int da_nil))) (da_cons dv_str da_nil))))))))))) (dgm 2 SC__law_odd.nd))
      (dss_cons (ds_if (dt_val (de_v (dv_isi isTy_tuple (by rfl) X.m_isinstance (by rfl) X.m_tuple (by decide +kernel) (dln 1)))) (dss_cons (ds_asg (de_call G__law_draw hgd (hr.mono (by decide)) (by rfl) X.g__law_draw X.F__law_draw.kp X.b__law_draw (fun _ _ h => h.1) (da_consR (den 0) (da_cons (dv_e (de_b1 c_lenY (by rfl) X.m_len (by decide +kernel) (dln 1))) da_nil))) (dgm 3 SC__law_odd.nd))
      (dss_cons (ds_asg (de_call G__law_pick hgd (hr.mono (by decide)) (by rfl) X.g__law_pick X.F__law_pick.kp X.b__law_pick (fun _ _ h => h.1) (da_consR (den 0) (da_cons (dv_e (de_lst (da_cons dv_bl (da_cons dv_non (da_cons (dv_e (de_lst (da_cons (dv_e (de_ixG hu (dln 1) (dln 3))) da_nil))) (da_cons (dv_tup (da_cons (dv_e (de_ixG hu (dln 1) (dln 3))) da_nil)) (da_cons dv_int (da_cons dv_str (da_cons dv_str (da_cons (dv_e (de_ixG hu (dln 1) (dln 3))) da_nil)))))))))) da_nil))) (dgm 4 SC__law_odd.nd))
      (dss_one (ds_asg (de_op ox_add (dln 2) (dl_v (dv_e (de_op oz_mul (dl_v (dv_e (de_lst (da_cons (dv_e (de_op ox_add (dl_v (dv_e (de_op ox_add (dl_v (dv_e (de_slice (dln 1) do_none (do_some (dv_e (den 3)))))) (dl_v (dv_tup (da_cons (dv_e (den 4)) da_nil)))))) (dl_v (dv_e (de_slice (dln 1) (do_some (dv_e (de_op ox_add (dln 3) (dl_v dv_int)))) do_none))))) (da_cons (dv_e (de_t1 c_list (by rfl) X.m_list (by decide +kernel) (dln 1))) (da_cons (dv_e (de_op ox_add (dln 1) (dln 1))) (da_cons (dv_e (de_slice (dln 1) do_none (do_some (dv_e (den 3))))) da_nil))))))) (dl_v dv_int))))) (dgm 2 SC__law_odd.nd))))) dss_nil)
      (dss_cons (ds_if (dt_val (de_v (dv_isi isTy_str (by rfl) X.m_isinstance (by rfl) X.m_str (by decide +kernel) (dln 1)))) (dss_cons (dspar 3 5 SC__law_odd.nd (de_call G__law_draw hgd (hr.mono (by decide)) (by rfl) X.g__law_draw X.F__law_draw.kp X.b__law_draw (fun _ _ h => h.1) (da_consR (den 0) (da_cons (dv_e (de_b1 c_lenY (by rfl) X.m_len (by decide +kernel) (dln 1))) da_nil))) (de_call G__law_pick hgd (hr.mono (by decide)) (by rfl) X.g__law_pick X.F__law_pick.kp X.b__law_pick (fun _ _ h => h.1) (da_consR (den 0) (da_cons (dv_e (de_lst (da_cons dv_str (da_cons dv_str (da_cons dv_str (da_cons dv_str (da_cons dv_str (da_cons dv_str (da_cons dv_str (da_cons dv_str (da_cons dv_str (da_cons dv_str da_nil)))))))))))) da_nil))))
      (dss_one (ds_asg (de_op ox_add (dln 2) (dl_v (dv_e (de_op oz_mul (dl_v (dv_e (de_lst (da_cons (dv_e (de_op ox_add (dl_v (dv_e (de_op ox_add (dl_v (dv_e (de_slice (dln 1) do_none (do_some (dv_e (den 3)))))) (dln 5)))) (dl_v (dv_e (de_slice (dln 1) (do_some (dv_e (de_op ox_add (dln 3) (dl_v dv_int)))) do_none))))) (da_cons (dv_e (de_op ox_add (dln 1) (dln 5))) (da_cons (dv_e (de_op ox_add (dln 5) (dln 1))) (da_cons (dv_e (de_op oz_mul (dln 1) (dl_v dv_int))) (da_cons (dv_e (de_slice (dln 1) do_none (do_some (dv_e (den 3))))) da_nil)))))))) (dl_v dv_int))))) (dgm 2 SC__law_odd.nd)))) dss_nil)
      (dss_one (ds_ret (de_call G__law_pick hgd (hr.mono (by decide)) (by rfl) X.g__law_pick X.F__law_pick.kp X.b__law_pick (fun _ _ h => h.1) (da_consR (den 0) (da_cons (dv_e (den 2)) da_nil)))))))))))
def T__law_word : TSD := (t_seq (t_asg (t_v (t_c (.str ""))) (g_name 2))
      (t_seq (t_for (t_wrng1 (t_acons (t_f (t_op addX (t_l (t_c (.int 1))) (t_l (t_f (t_call C__law_draw (t_aconsR (t_name 0) (t_acons (t_f (t_name 1)) t_anil))))))) t_anil)) (g_name 3) (t_asg (t_op addX (t_lname 2) (t_l (t_f (t_call C__law_pick (t_aconsR (t_name 0) (t_acons (t_c (.str "abcdefghijklmnopqrstuvwxyz")) t_anil)))))) (g_name 2)))
      (t_retn 2)))
def C__law_word : TF := runD T__law_word N__law_word 2
theorem ok__law_word (X : Tx K mg A) : FnG P w K mg base CX0 3 A.a__law_word A.d__law_word ["_law_box_here", "_law_most"] (spD ⟨K, w⟩ ZPu 2 C__law_word) := by
  have G__law_draw := ok__law_draw (P := P) (w := w) (base := base) X
  have G__law_pick := ok__law_pick (P := P) (w := w) (base := base) X
  refine fnD X.F__law_word SC__law_word fun cdv Ar outer s H E hgd hr => ?_
  have hu : (Ar.deeper (envOfC "_law_word" (defScope S__law_word) s.heap.objs.size A.a__law_word cdv)).units + 64 < cLine := by have := hr.un; omega
  exact (dss_cons (ds_asg (de_v dv_str) (dgm 2 SC__law_word.nd))
      (dss_cons (ds_for PassesOwn.never rfl (di_range1 (by rfl) X.m_range (da_cons (dv_e (de_op ox_add (dl_v dv_int) (dl_v (dv_e (de_call G__law_draw hgd (hr.mono (by decide)) (by rfl) X.g__law_draw X.F__law_draw.kp X.b__law_draw (fun _ _ h => h.1) (da_consR (den 0) (da_cons (dv_e (den 1)) da_nil))))))) da_nil)) (dgm 3 SC__law_word.nd) (dss_one (ds_asg (de_op ox_add (dln 2) (dl_v (dv_e (de_call G__law_pick hgd (hr.mono (by decide)) (by rfl) X.g__law_pick X.F__law_pick.kp X.b__law_pick (fun _ _ h => h.1) (da_consR (den 0) (da_cons dv_str da_nil)))))) (dgm 2 SC__law_word.nd))))
      (dss_one (dsrn 2))))
def T__law_plain : TSD := (t_seq (t_asg (t_call C__law_draw (t_aconsR (t_name 0) (t_acons (t_c (.int 6)) t_anil))) (g_name 1))
      (t_seq (t_if (t_tst (t_op eqY (t_lname 1) (t_l (t_c (.int 0))))) (t_ret (t_call C__law_pick (t_aconsR (t_name 0) (t_acons (t_f (t_lstd (t_acons (t_c (.int 0)) (t_acons (t_c (.int 1)) (t_acons (t_c (.int 9)) (t_acons (t_c (.int 10)) (t_acons (t_c (.int 99)) (t_acons (t_c (.int 100)) (t_acons (t_c (.int 998)) (t_acons (t_c (.int 999)) t_anil)))))))))) t_anil)))) t_next)
      (t_seq (t_if (t_tst (t_op ltZ (t_lname 1) (t_l (t_c (.int 3))))) (t_ret (t_call C__law_draw (t_aconsR (t_name 0) (t_acons (t_c (.int 6)) t_anil)))) t_next)
      (t_seq (t_if (t_tst (t_op eqY (t_lname 1) (t_l (t_c (.int 3))))) (t_ret (t_call C__law_word (t_aconsR (t_name 0) (t_acons (t_c (.int 8)) t_anil)))) t_next)
      (t_ret (t_call C__law_pick (t_aconsR (t_name 0) (t_acons (t_f (t_lstd (t_acons (t_c (.str "a")) (t_acons (t_c (.str "b")) (t_acons (t_c (.str "z")) (t_acons (t_c (.str "aa")) (t_acons (t_c (.str "ab")) (t_acons (t_c (.str "az")) (t_acons (t_c (.str "zz")) (t_acons (t_c (.str "abc")) (t_acons (t_c (.str "aaaaaaaa")) (t_acons (t_c (.str "aaaaaaab")) (t_acons (t_c (.str "zzzzzzzz")) (t_acons (t_c (.str "card")) t_anil)))))))))))))) t_anil))))))))
def C__law_plain : TF := runD T__law_plain N__law_plain 1
theorem ok__law_plain (X : Tx K mg A) : FnG P w K mg base CX0 4 A.a__law_plain A.d__law_plain ["_law_box_here"] (spD ⟨K, w⟩ ZPu 1 C__law_plain) := by
  have G__law_draw := ok__law_draw (P := P) (w := w) (base := base) X
  have G__law_pick := ok__law_pick (P := P) (w := w) (base := base) X
  have G__law_word := ok__law_word (P := P) (w := w) (base := base) X
  refine fnD X.F__law_plain SC__law_plain fun cdv Ar outer s H E hgd hr => ?_
  have hu : (Ar.deeper (envOfC "_law_plain" (defScope S__law_plain) s.heap.objs.size A.a__law_plain cdv)).units + 64 < cLine := by have := hr.un; omega
  exact (dss_cons (ds_asg (de_call G__law_draw hgd (hr.mono (by decide)) (by rfl) X.g__law_draw X.F__law_draw.kp X.b__law_draw (fun _ _ h => h.1) (da_consR (den 0) (da_cons dv_int da_nil))) (dgm 1 SC__law_plain.nd))
      (dss_cons (ds_if (dt_cmp (oy_eq hu) (dln 1) (dl_v dv_int)) (dss_one (ds_ret (de_call G__law_pick hgd (hr.mono (by decide)) (by rfl) X.g__law_pick X.F__law_pick.kp X.b__law_pick (fun _ _ h => h.1) (da_consR (den 0) (da_cons (dv_e (de_lst (da_cons dv_int (da_cons dv_int (da_cons dv_int (da_cons dv_int (da_cons dv_int (da_cons dv_int (da_cons dv_int (da_cons dv_int da_nil)))))))))) da_nil))))) dss_nil)
      (dss_cons (ds_if (dt_cmp (oz_lt hu) (dln 1) (dl_v dv_int)) (dss_one (ds_ret (de_call G__law_draw hgd (hr.mono (by decide)) (by rfl) X.g__law_draw X.F__law_draw.kp X.b__law_draw (fun _ _ h => h.1) (da_consR (den 0) (da_cons dv_int da_nil))))) dss_nil)
      (dss_cons (ds_if (dt_cmp (oy_eq hu) (dln 1) (dl_v dv_int)) (dss_one (ds_ret (de_call G__law_word hgd (hr.mono (by decide)) (by rfl) X.g__law_word X.F__law_word.kp X.b__law_word (fun _ _ h => h.1) (da_consR (den 0) (da_cons dv_int da_nil))))) dss_nil)
      (dss_one (ds_ret (de_call G__law_pick hgd (hr.mono (by decide)) (by rfl) X.g__law_pick X.F__law_pick.kp X.b__law_pick (fun _ _ h => h.1) (da_consR (den 0) (da_cons (dv_e (de_lst (da_cons dv_str (da_cons dv_str (da_cons dv_str (da_cons dv_str (da_cons dv_str (da_cons dv_str (da_cons dv_str (da_cons dv_str (da_cons dv_str (da_cons dv_str (da_cons dv_str (da_cons dv_str da_nil)))))))))))))) da_nil)))))))))
def T__law_sorted : TSD := (t_seq (t_asg (t_lstd t_anil) (g_name 1))
      (t_seq (t_for (t_wany (t_f (t_name 0))) (g_name 2) (t_seq (t_asg (t_c1 lenY (t_l (t_f (t_lc [4] (t_wany (t_f (t_name 1))) (g_name 4) (t_not (t_tst (t_call (C__law_is_ahead 3) (t_acons (t_f (t_name 2)) (t_acons (t_f (t_name 4)) t_anil))))) (t_c (.int 1)))))) (g_name 3))
      (t_asg (t_op addX (t_l (t_f (t_op addX (t_l (t_f (t_slice (t_lname 1) t_no (t_some (t_f (t_name 3)))))) (t_l (t_f (t_lstd (t_acons (t_f (t_name 2)) t_anil))))))) (t_l (t_f (t_slice (t_lname 1) (t_some (t_f (t_name 3))) t_no)))) (g_name 1))))
      (t_retn 1)))
def C__law_sorted : TF := runD T__law_sorted N__law_sorted 1
theorem ok__law_sorted (X : Tx K mg A) : FnG P w K mg base CX0 6 A.a__law_sorted A.d__law_sorted ["_law_things"] (spD ⟨K, w⟩ ZPu 1 C__law_sorted) := by
  have G__law_is_ahead := ok__law_is_ahead (P := P) (w := w) (base := base) X
  refine fnD X.F__law_sorted SC__law_sorted fun cdv Ar outer s H E hgd hr => ?_
  have hu : (Ar.deeper (envOfC "_law_sorted" (defScope S__law_sorted) s.heap.objs.size A.a__law_sorted cdv)).units + 64 < cLine := by have := hr.un; omega
  exact (dss_cons (ds_asg (de_lst da_nil) (dgm 1 SC__law_sorted.nd))
      (dss_cons (ds_for PassesOwn.never rfl (di_any (dv_e (den 0))) (dgm 2 SC__law_sorted.nd) (dss_cons (ds_asg (de_b1 c_lenY (by rfl) X.m_len (by decide +kernel) (dl_v (dv_e (de_lc (own := [("_law_own", 4)]) (vs := [4]) rfl SC__law_sorted.nd (di_any (dv_e (den 1))) (blkOk_by (own := [("_law_own", 4)]) (N := N__law_sorted) (sc := defScope S__law_sorted) (by decide +kernel)) rfl (fun _ _ _ _ _ => (dgb 4 SC__law_sorted.nd)) (fun _ _ _ _ _ => (dts_one (dt_not (dt_val (de_call (G__law_is_ahead 3) hgd (hr.mono (by decide)) (by rfl) X.g__law_is_ahead X.F__law_is_ahead.kp X.b__law_is_ahead (fun _ _ h => lenR__law_is_ahead h) (da_cons (dv_e (den 2)) (da_cons (dv_e (den 4)) da_nil))))))) (fun _ _ _ _ _ => dv_int))))) (dgm 3 SC__law_sorted.nd))
      (dss_one (ds_asg (de_op ox_add (dl_v (dv_e (de_op ox_add (dl_v (dv_e (de_slice (dln 1) do_none (do_some (dv_e (den 3)))))) (dl_v (dv_e (de_lst (da_cons (dv_e (den 2)) da_nil))))))) (dl_v (dv_e (de_slice (dln 1) (do_some (dv_e (den 3))) do_none)))) (dgm 1 SC__law_sorted.nd)))))
      (dss_one (dsrn 1))))
def T__law_value : TSD := (t_seq (t_if (t_tst (t_op gtY (t_l (t_f (t_call C__law_draw (t_aconsR (t_name 0) (t_acons (t_c (.int 3)) t_anil))))) (t_l (t_c (.int 0))))) (t_ret (t_call C__law_plain (t_aconsR (t_name 0) t_anil))) t_next)
      (t_ret (t_c1 tupleX (t_l (t_f (t_lc [1] (t_wrng1 (t_acons (t_f (t_op addX (t_l (t_c (.int 1))) (t_l (t_f (t_call C__law_draw (t_aconsR (t_name 0) (t_acons (t_c (.int 4)) t_anil))))))) t_anil)) (g_name 1) t_yes (t_f (t_call C__law_plain (t_aconsR (t_name 0) t_anil)))))))))
def C__law_value : TF := runD T__law_value N__law_value 1
theorem ok__law_value (X : Tx K mg A) : FnG P w K mg base CX0 5 A.a__law_value A.d__law_value ["_law_box_here"] (spD ⟨K, w⟩ ZPu 1 C__law_value) := by
  have G__law_draw := ok__law_draw (P := P) (w := w) (base := base) X
  have G__law_plain := ok__law_plain (P := P) (w := w) (base := base) X
  refine fnD X.F__law_value SC__law_value fun cdv Ar outer s H E hgd hr => ?_
  have hu : (Ar.deeper (envOfC "_law_value" (defScope S__law_value) s.heap.objs.size A.a__law_value cdv)).units + 64 < cLine := by have := hr.un; omega
  exact (dss_cons (ds_if (dt_cmp (oy_gt hu) (dl_v (dv_e (de_call G__law_draw hgd (hr.mono (by decide)) (by rfl) X.g__law_draw X.F__law_draw.kp X.b__law_draw (fun _ _ h => h.1) (da_consR (den 0) (da_cons dv_int da_nil))))) (dl_v dv_int)) (dss_one (ds_ret (de_call G__law_plain hgd (hr.mono (by decide)) (by rfl) X.g__law_plain X.F__law_plain.kp X.b__law_plain (fun _ _ h => h.1) (da_consR (den 0) da_nil)))) dss_nil)
      (dss_one (ds_ret (de_t1 c_tuple (by rfl) X.m_tuple (by decide +kernel) (dl_v (dv_e (de_lc (own := [("_law_turn", 1)]) (vs := [1]) rfl SC__law_value.nd (di_range1 (by rfl) X.m_range (da_cons (dv_e (de_op ox_add (dl_v dv_int) (dl_v (dv_e (de_call G__law_draw hgd (hr.mono (by decide)) (by rfl) X.g__law_draw X.F__law_draw.kp X.b__law_draw (fun _ _ h => h.1) (da_consR (den 0) (da_cons dv_int da_nil))))))) da_nil)) (blkOk_by (own := [("_law_turn", 1)]) (N := N__law_value) (sc := defScope S__law_value) (by decide +kernel)) rfl (fun _ _ _ _ _ => (dgb 1 SC__law_value.nd)) (fun _ _ _ _ _ => dts_nil) (fun _ _ _ _ _ => (dv_e (de_call G__law_plain hgd (hr.mono (by decide)) (by rfl) X.g__law_plain X.F__law_plain.kp X.b__law_plain (fun _ _ h => h.1) (da_consR (den 0) da_nil)))))))))))
def T_law : TSD := (t_seq (t_asg (t_call C__law_box (t_aconsR (t_name 0) t_anil)) (g_name 1))
      (t_seq (t_asg (t_lc [3] (t_wrng1 (t_acons (t_c (.int 9)) t_anil)) (g_name 3) t_yes (t_f (t_call C__law_value (t_aconsR (t_name 1) t_anil)))) (g_name 2))
      (t_seq (t_for (t_wrng1 (t_acons (t_c (.int 3)) t_anil)) (g_name 3) (t_seq (t_asg (t_callB C__law_pick 1 2) (g_name 4))
      (t_drop (t_v (t_append 2 (t_f (t_ifx (t_tst (t_v (t_isi "tuple" (t_lname 4)))) (t_op addX (t_l (t_f (t_slice (t_lname 4) t_no (t_some (t_f (t_call C__law_draw (t_aconsR (t_name 1) (t_acons (t_f (t_c1 lenY (t_lname 4))) t_anil)))))))) (t_l (t_tupd (t_acons (t_f (t_call C__law_plain (t_aconsR (t_name 1) t_anil))) t_anil)))) (t_v (t_tupd (t_acons (t_f (t_name 4)) t_anil))))))))))
      (t_seq (t_for (t_wenum (t_acons (t_f (t_name 2)) t_anil)) (g_tup 2 (g_cons (g_name 5) (g_cons (g_name 6) g_nil))) (t_seq (t_if (t_not (t_tst (t_call C__law_is_judged (t_acons (t_f (t_name 6)) (t_acons (t_f (t_op eqY (t_l (t_f (t_op modX (t_l (t_f (t_c1 intX (t_lname 5)))) (t_l (t_c (.int 3)))))) (t_l (t_c (.int 0))))) t_anil))))) (t_ret (t_v (t_c (.bool false)))) t_next)
      (t_for (t_wrng1 (t_acons (t_c (.int 3)) t_anil)) (g_name 3) (t_if (t_not (t_tst (t_call C__law_is_judged (t_acons (t_f (t_call C__law_odd (t_aconsR (t_name 1) (t_acons (t_f (t_name 6)) t_anil)))) (t_acons (t_f (t_op eqY (t_lname 3) (t_l (t_c (.int 1))))) t_anil))))) (t_ret (t_v (t_c (.bool false)))) t_next))))
      (t_seq (t_for (t_wany (t_f (t_name 2))) (g_name 7) (t_if (t_tst (t_op neY (t_l (t_f (t_lc [8] (t_wany (t_f (t_name 2))) (g_name 8) (t_not (t_tst (t_call C__law_is_told (t_acons (t_f (t_name 7)) (t_acons (t_f (t_name 8)) t_anil))))) (t_f (t_name 8))))) (t_l (t_f (t_lstd t_anil))))) (t_ret (t_v (t_c (.bool false)))) t_next))
      (t_ret (t_op eqY (t_l (t_f (t_c1 shX (t_l (t_f (t_sortK (C_value_rank 3) (t_lname 2))))))) (t_l (t_f (t_c1 shX (t_l (t_f (t_call C__law_sorted (t_acons (t_f (t_name 2)) t_anil))))))))))))))
def C_law : TF := runD T_law N_law 1
theorem ok_law (X : Tx K mg A) : FnG P w K mg base CX0 7 A.a_law A.d_law ["_law_script"] (spD ⟨K, w⟩ ZPu 1 C_law) := by
  have G__law_box := ok__law_box (P := P) (w := w) (base := base) X
  have G__law_draw := ok__law_draw (P := P) (w := w) (base := base) X
  have G__law_is_judged := ok__law_is_judged (P := P) (w := w) (base := base) X
  have G__law_is_told := ok__law_is_told (P := P) (w := w) (base := base) X
  have G__law_odd := ok__law_odd (P := P) (w := w) (base := base) X
  have G__law_pick := ok__law_pick (P := P) (w := w) (base := base) X
  have G__law_plain := ok__law_plain (P := P) (w := w) (base := base) X
  have G__law_sorted := ok__law_sorted (P := P) (w := w) (base := base) X
  have G__law_value := ok__law_value (P := P) (w := w) (base := base) X
  have G_value_rank := ok_value_rank (P := P) (w := w) (base := base) X
  refine fnD X.F_law SC_law fun cdv Ar outer s H E hgd hr => ?_
  have hu : (Ar.deeper (envOfC "law" (defScope S_law) s.heap.objs.size A.a_law cdv)).units + 64 < cLine := by have := hr.un; omega
  exact (dss_cons (ds_asg (de_call G__law_box hgd (hr.mono (by decide)) (by rfl) X.g__law_box X.F__law_box.kp X.b__law_box (fun _ _ h => h.1) (da_consR (den 0) da_nil)) (dgm 1 SC_law.nd))
      (dss_cons (ds_setLc (i := 2) (own := [("_law_turn", 3)]) (vs := [3]) rfl SC_law.nd rfl rfl (sw_true rfl rfl rfl (by decide +kernel)) (di_range1 (by rfl) X.m_range (da_cons dv_int da_nil)) (blkOk_by (own := [("_law_turn", 3)]) (N := N_law) (sc := defScope S_law) (by decide +kernel)) rfl (fun _ _ _ _ _ => (dgb 3 SC_law.nd)) (fun _ _ _ _ _ => dts_nil) (fun _ _ _ _ _ => (dv_e (de_call G__law_value hgd (hr.mono (by decide)) (by rfl) X.g__law_value X.F__law_value.kp X.b__law_value (fun _ _ h => h.1) (da_consR (den 1) da_nil)))))
      (dss_cons (ds_for PassesOwn.never rfl (di_range1 (by rfl) X.m_range (da_cons dv_int da_nil)) (dgm 3 SC_law.nd) (dss_cons (ds_asg (de_callB G__law_pick hgd (hr.mono (by decide)) (by rfl) X.g__law_pick X.F__law_pick.kp X.b__law_pick 1 2) (dgm 4 SC_law.nd))
      (dss_one (ds_expr (de_v (dvap 2 (dv_e (de_if (dt_val (de_v (dv_isi isTy_tuple (by rfl) X.m_isinstance (by rfl) X.m_tuple (by decide +kernel) (dln 4)))) (de_op ox_add (dl_v (dv_e (de_slice (dln 4) do_none (do_some (dv_e (de_call G__law_draw hgd (hr.mono (by decide)) (by rfl) X.g__law_draw X.F__law_draw.kp X.b__law_draw (fun _ _ h => h.1) (da_consR (den 1) (da_cons (dv_e (de_b1 c_lenY (by rfl) X.m_len (by decide +kernel) (dln 4))) da_nil)))))))) (dl_v (dv_tup (da_cons (dv_e (de_call G__law_plain hgd (hr.mono (by decide)) (by rfl) X.g__law_plain X.F__law_plain.kp X.b__law_plain (fun _ _ h => h.1) (da_consR (den 1) da_nil))) da_nil)))) (de_v (dv_tup (da_cons (dv_e (den 4)) da_nil)))))))))))
      (dss_cons (ds_for PassesOwn.never rfl (di_enum (by rfl) X.m_enumerate (da_cons (dv_e (den 2)) da_nil)) (dg_tup rfl (dgs_cons (dgm 5 SC_law.nd) (dgs_cons (dgm 6 SC_law.nd) dgs_nil))) (dss_cons (ds_if (dt_not (dt_val (de_call G__law_is_judged hgd (hr.mono (by decide)) (by rfl) X.g__law_is_judged X.F__law_is_judged.kp X.b__law_is_judged (fun _ _ h => h.1) (da_cons (dv_e (den 6)) (da_cons (dv_e (de_cmp (oy_eq hu) (dl_v (dv_e (de_op ox_mod (dl_v (dv_e (de_t1 c_int (by rfl) X.m_int (by decide +kernel) (dln 5)))) (dl_v dv_int)))) (dl_v dv_int))) da_nil))))) (dss_one (ds_ret (de_v dv_bl))) dss_nil)
      (dss_one (ds_for PassesOwn.never rfl (di_range1 (by rfl) X.m_range (da_cons dv_int da_nil)) (dgm 3 SC_law.nd) (dss_one (ds_if (dt_not (dt_val (de_call G__law_is_judged hgd (hr.mono (by decide)) (by rfl) X.g__law_is_judged X.F__law_is_judged.kp X.b__law_is_judged (fun _ _ h => h.1) (da_cons (dv_e (de_call G__law_odd hgd (hr.mono (by decide)) (by rfl) X.g__law_odd X.F__law_odd.kp X.b__law_odd (fun _ _ h => h.1) (da_consR (den 1) (da_cons (dv_e (den 6)) da_nil)))) (da_cons (dv_e (de_cmp (oy_eq hu) (dln 3) (dl_v dv_int))) da_nil))))) (dss_one (ds_ret (de_v dv_bl))) dss_nil))))))
      (dss_cons (ds_for PassesOwn.never rfl (di_any (dv_e (den 2))) (dgm 7 SC_law.nd) (dss_one (ds_if (dt_cmp (oy_ne hu) (dl_v (dv_e (de_lc (own := [("_law_two", 8)]) (vs := [8]) rfl SC_law.nd (di_any (dv_e (den 2))) (blkOk_by (own := [("_law_two", 8)]) (N := N_law) (sc := defScope S_law) (by decide +kernel)) rfl (fun _ _ _ _ _ => (dgb 8 SC_law.nd)) (fun _ _ _ _ _ => (dts_one (dt_not (dt_val (de_call G__law_is_told hgd (hr.mono (by decide)) (by rfl) X.g__law_is_told X.F__law_is_told.kp X.b__law_is_told (fun _ _ h => h.1) (da_cons (dv_e (den 7)) (da_cons (dv_e (den 8)) da_nil))))))) (fun _ _ _ _ _ => (dv_e (den 8)))))) (dl_v (dv_e (de_lst da_nil)))) (dss_one (ds_ret (de_v dv_bl))) dss_nil)))
      (dss_one (ds_ret (de_cmp (oy_eq hu) (dl_v (dv_e (de_b1 (c_show hgd hu) (by rfl) X.m_repr (by decide +kernel) (dl_v (dv_e (de_sortK (G_value_rank 3) hgd (hr.mono (by decide)) hu (by rfl) X.g_value_rank X.b_value_rank (by rfl) X.m_sorted (dln 2))))))) (dl_v (dv_e (de_b1 (c_show hgd hu) (by rfl) X.m_repr (by decide +kernel) (dl_v (dv_e (de_call G__law_sorted hgd (hr.mono (by decide)) (by rfl) X.g__law_sorted X.F__law_sorted.kp X.b__law_sorted (fun _ _ h => h.1) (da_cons (dv_e (den 2)) da_nil)))))))))))))))
end
end Lk

namespace Lk
open PySem PySem.Spec PyProof.Rows L2 Cl Va
theorem rangeD_len (lo hi : Int) : (rangeD lo hi).length = (hi - lo).toNat := by unfold rangeD; rw [List.length_map, List.length_range]
theorem draw_spec {n : Int} {Q : SV → Prop} (h0 : 0 < n) (h1 : n < 2 ^ 60) (h : ∀ r : Int, 0 ≤ r → r < n → Q (.dat (.int r))) : C__law_draw [.raw 5, .dat (.int n)] Q := ⟨rfl, n, rfl, h0, h1, h⟩
theorem atI_nat {α : Type} {ds : List α} {r : Int} (h0 : 0 ≤ r) (h1 : r < ds.length) : ∃ h : r.toNat < ds.length, atI ds r = some ds[r.toNat] := by
  have hr : r.toNat < ds.length := by omega
  refine ⟨hr, ?_⟩
  unfold atI ixN
  rw [if_pos h0, if_pos h1]
  simp [hr]
theorem pick_list {ds : List PyData} {Q : SV → Prop} (hn : 1 ≤ ds.length) (hl : ds.length < 2 ^ 60) (h : ∀ d ∈ ds, Q (.dat d)) : C__law_pick [.raw 5, .dat (.list ds)] Q := by
  refine ⟨rfl, ?_⟩
  show T__law_pick _ [some (.raw 5), some (.dat (.list ds))]
  dsimp only [T__law_pick, t_wany, seqY, t_wzipT, seqT, t_gd0, t_disp, t_pcons, t_pnil, t_retdbox, t_dictP, t_sortK, t_callB, t_dnew1, t_pop, t_lenset, t_wseq, t_wzip3, t_astar, t_par3, t_dnew, t_dlist, t_dput, t_dget2, t_din, t_lenScr, t_raise1, t_callX, t_callKX, t_xf, t_isx, runX, t_seq, t_if, t_or, t_and, t_not, t_tst, t_v, t_f, t_l, t_c, t_c1, t_op, t_chain', t_ret, t_asg, t_for, t_wenum, t_wlist, t_wtup, t_wstr, t_wrng1, t_wrng2, t_drop, g_setix, t_wzip, t_lname, t_name, t_next, t_ifx, t_isi, t_notV, t_andV, t_orV, t_call, t_callK, t_acons, t_aconsR, t_anil, t_tupd, t_lstd, g_name, g_tup, g_cons, g_nil, t_drop, t_lc, t_yes, t_star1, t_retn, t_par, t_slice, t_some, t_no, t_dict0, t_rev, t_neg, t_extend, t_append, t_sliceScr, t_retbox, t_xcons, LV.get, CS.at_, SV.view, datsOf, Option.map_some, List.getElem?_cons_zero, List.getElem?_cons_succ, List.set_cons_zero, List.set_cons_succ, settled, initC, List.map_cons, List.map_nil, List.length_cons, List.length_nil, List.cons_append, List.nil_append, seqOf, runD, ltZ, inY, notinY, ixG, lenY, mulZ, max2X, min2X, isY, isnY, sortedX, ltY, gtY, inX, notinX, ordX, boolX, addX, subX, mulX, mulY, modX, fdivX, powX, ltX, leX, gtX, geX, eqY, neY, eqX, neX, isX, isnX, ixX, lenX, listX, tupleX, intX, strX, shX, sumX, sumY, maxX, minX, allX, absX, slX]
  refine ⟨⟨_, rfl⟩, rfl, ⟨_, rfl⟩, rfl, _, rfl, by omega, by omega, fun r h0 h1 => ?_⟩
  dsimp only
  obtain ⟨hr, e⟩ := atI_nat h0 h1
  rw [e]
  exact h _ (List.getElem_mem hr)
theorem pick_tuple {ds : List PyData} {Q : SV → Prop} (hn : 1 ≤ ds.length) (hl : ds.length < 2 ^ 60) (h : ∀ d ∈ ds, Q (.dat d)) : C__law_pick [.raw 5, .dat (.tuple ds)] Q := by
  refine ⟨rfl, ?_⟩
  show T__law_pick _ [some (.raw 5), some (.dat (.tuple ds))]
  dsimp only [T__law_pick, t_wany, seqY, t_wzipT, seqT, t_gd0, t_disp, t_pcons, t_pnil, t_retdbox, t_dictP, t_sortK, t_callB, t_dnew1, t_pop, t_lenset, t_wseq, t_wzip3, t_astar, t_par3, t_dnew, t_dlist, t_dput, t_dget2, t_din, t_lenScr, t_raise1, t_callX, t_callKX, t_xf, t_isx, runX, t_seq, t_if, t_or, t_and, t_not, t_tst, t_v, t_f, t_l, t_c, t_c1, t_op, t_chain', t_ret, t_asg, t_for, t_wenum, t_wlist, t_wtup, t_wstr, t_wrng1, t_wrng2, t_drop, g_setix, t_wzip, t_lname, t_name, t_next, t_ifx, t_isi, t_notV, t_andV, t_orV, t_call, t_callK, t_acons, t_aconsR, t_anil, t_tupd, t_lstd, g_name, g_tup, g_cons, g_nil, t_drop, t_lc, t_yes, t_star1, t_retn, t_par, t_slice, t_some, t_no, t_dict0, t_rev, t_neg, t_extend, t_append, t_sliceScr, t_retbox, t_xcons, LV.get, CS.at_, SV.view, datsOf, Option.map_some, List.getElem?_cons_zero, List.getElem?_cons_succ, List.set_cons_zero, List.set_cons_succ, settled, initC, List.map_cons, List.map_nil, List.length_cons, List.length_nil, List.cons_append, List.nil_append, seqOf, runD, ltZ, inY, notinY, ixG, lenY, mulZ, max2X, min2X, isY, isnY, sortedX, ltY, gtY, inX, notinX, ordX, boolX, addX, subX, mulX, mulY, modX, fdivX, powX, ltX, leX, gtX, geX, eqY, neY, eqX, neX, isX, isnX, ixX, lenX, listX, tupleX, intX, strX, shX, sumX, sumY, maxX, minX, allX, absX, slX]
  refine ⟨⟨_, rfl⟩, rfl, ⟨_, rfl⟩, rfl, _, rfl, by omega, by omega, fun r h0 h1 => ?_⟩
  dsimp only
  obtain ⟨hr, e⟩ := atI_nat h0 h1
  rw [e]
  exact h _ (List.getElem_mem hr)
theorem pick_str {z : Str} {Q : SV → Prop} (hn : 1 ≤ z.length) (hl : z.length ≤ 1000) (h : ∀ c ∈ z.cps.toList, Q (.dat (.str ⟨#[c]⟩))) : C__law_pick [.raw 5, .dat (.str z)] Q := by
  refine ⟨rfl, ?_⟩
  show T__law_pick _ [some (.raw 5), some (.dat (.str z))]
  have hz : z.length ≤ sizeLine := by rw [sizeLine_eq]; omega
  dsimp only [T__law_pick, t_wany, seqY, t_wzipT, seqT, t_gd0, t_disp, t_pcons, t_pnil, t_retdbox, t_dictP, t_sortK, t_callB, t_dnew1, t_pop, t_lenset, t_wseq, t_wzip3, t_astar, t_par3, t_dnew, t_dlist, t_dput, t_dget2, t_din, t_lenScr, t_raise1, t_callX, t_callKX, t_xf, t_isx, runX, t_seq, t_if, t_or, t_and, t_not, t_tst, t_v, t_f, t_l, t_c, t_c1, t_op, t_chain', t_ret, t_asg, t_for, t_wenum, t_wlist, t_wtup, t_wstr, t_wrng1, t_wrng2, t_drop, g_setix, t_wzip, t_lname, t_name, t_next, t_ifx, t_isi, t_notV, t_andV, t_orV, t_call, t_callK, t_acons, t_aconsR, t_anil, t_tupd, t_lstd, g_name, g_tup, g_cons, g_nil, t_drop, t_lc, t_yes, t_star1, t_retn, t_par, t_slice, t_some, t_no, t_dict0, t_rev, t_neg, t_extend, t_append, t_sliceScr, t_retbox, t_xcons, LV.get, CS.at_, SV.view, datsOf, Option.map_some, List.getElem?_cons_zero, List.getElem?_cons_succ, List.set_cons_zero, List.set_cons_succ, settled, initC, List.map_cons, List.map_nil, List.length_cons, List.length_nil, List.cons_append, List.nil_append, seqOf, runD, ltZ, inY, notinY, ixG, lenY, mulZ, max2X, min2X, isY, isnY, sortedX, ltY, gtY, inX, notinX, ordX, boolX, addX, subX, mulX, mulY, modX, fdivX, powX, ltX, leX, gtX, geX, eqY, neY, eqX, neX, isX, isnX, ixX, lenX, listX, tupleX, intX, strX, shX, sumX, sumY, maxX, minX, allX, absX, slX]
  refine ⟨⟨_, rfl⟩, rfl, ⟨_, rfl⟩, hz, rfl, _, rfl, by omega, by omega, fun r h0 h1 => ?_⟩
  dsimp only
  obtain ⟨hr, e⟩ := atI_nat (ds := z.cps.toList) h0 (by simpa [Str.length] using h1)
  refine ⟨hz, ?_⟩
  rw [e]
  exact h _ (List.getElem_mem hr)
theorem low_letters {c : Nat} : c ∈ ("abcdefghijklmnopqrstuvwxyz" : Str).cps.toList ↔ 97 ≤ c ∧ c ≤ 122 := by
  rw [show ("abcdefghijklmnopqrstuvwxyz" : Str).cps.toList = (List.range 26).map (97 + ·) by decide +kernel]
  simp only [List.mem_map, List.mem_range]
  constructor
  · rintro ⟨k, hk, rfl⟩; omega
  · rintro ⟨h1, h2⟩; exact ⟨c - 97, by omega, by omega⟩
theorem lowS_app {z : Str} {c : Nat} (h : lowS z = true) (hc : 97 ≤ c ∧ c ≤ 122) : lowS (z ++ ⟨#[c]⟩) = true := by
  unfold lowS at h ⊢
  rw [show (z ++ (⟨#[c]⟩ : Str)).cps.toList = z.cps.toList ++ [c] by show (z.cps ++ #[c]).toList = _; simp]
  rw [List.all_append, h]
  simp [hc]
theorem len_app (z : Str) (c : Nat) : (z ++ (⟨#[c]⟩ : Str)).length = z.length + 1 := by
  show (z.cps ++ #[c]).size = z.cps.size + 1
  simp
theorem word_spec {m : Int} (h1 : 1 ≤ m) (h2 : m ≤ 8) {Q : SV → Prop} (h : ∀ z : Str, 1 ≤ z.length → z.length ≤ 8 → lowS z = true → Q (.dat (.str z))) : C__law_word [.raw 5, .dat (.int m)] Q := by
  refine ⟨rfl, ?_⟩
  show T__law_word _ [some (.raw 5), some (.dat (.int m)), none, none]
  dsimp only [T__law_word, t_wany, seqY, t_wzipT, seqT, t_gd0, t_disp, t_pcons, t_pnil, t_retdbox, t_dictP, t_sortK, t_callB, t_dnew1, t_pop, t_lenset, t_wseq, t_wzip3, t_astar, t_par3, t_dnew, t_dlist, t_dput, t_dget2, t_din, t_lenScr, t_raise1, t_callX, t_callKX, t_xf, t_isx, runX, t_seq, t_if, t_or, t_and, t_not, t_tst, t_v, t_f, t_l, t_c, t_c1, t_op, t_chain', t_ret, t_asg, t_for, t_wenum, t_wlist, t_wtup, t_wstr, t_wrng1, t_wrng2, t_drop, g_setix, t_wzip, t_lname, t_name, t_next, t_ifx, t_isi, t_notV, t_andV, t_orV, t_call, t_callK, t_acons, t_aconsR, t_anil, t_tupd, t_lstd, g_name, g_tup, g_cons, g_nil, t_drop, t_lc, t_yes, t_star1, t_retn, t_par, t_slice, t_some, t_no, t_dict0, t_rev, t_neg, t_extend, t_append, t_sliceScr, t_retbox, t_xcons, LV.get, CS.at_, SV.view, datsOf, Option.map_some, List.getElem?_cons_zero, List.getElem?_cons_succ, List.set_cons_zero, List.set_cons_succ, settled, initC, List.map_cons, List.map_nil, List.length_cons, List.length_nil, List.cons_append, List.nil_append, seqOf, runD, ltZ, inY, notinY, ixG, lenY, mulZ, max2X, min2X, isY, isnY, sortedX, ltY, gtY, inX, notinX, ordX, boolX, addX, subX, mulX, mulY, modX, fdivX, powX, ltX, leX, gtX, geX, eqY, neY, eqX, neX, isX, isnX, ixX, lenX, listX, tupleX, intX, strX, shX, sumX, sumY, maxX, minX, allX, absX, slX]
  refine ⟨by show 2 < 4; decide, rfl, draw_spec (by omega) (by omega) fun r h0 h3 => ?_⟩
  dsimp only
  refine ⟨by omega, by omega, ?_⟩
  refine forD_ind (I := fun ds cs => ∃ z : Str, ∃ x, cs = [some (.raw 5), some (.dat (.int m)), some (.dat (.str z)), x] ∧ z.length + ds.length = (1 + r).toNat ∧ lowS z = true) ?_ ?_ _ _ ⟨"", none, rfl, by rw [rangeD_len]; simp [Str.length]; rfl, by decide +kernel⟩
  · rintro cs ⟨z, x, rfl, hl, hz⟩
    rw [List.length_nil] at hl
    exact h z (by omega) (by omega) hz
  · rintro d ds cs N hN ⟨z, x, rfl, hl, hz⟩
    rw [List.length_cons] at hl
    dsimp only [t_wany, seqY, t_wzipT, seqT, t_gd0, t_disp, t_pcons, t_pnil, t_retdbox, t_dictP, t_sortK, t_callB, t_dnew1, t_pop, t_lenset, t_wseq, t_wzip3, t_astar, t_par3, t_dnew, t_dlist, t_dput, t_dget2, t_din, t_lenScr, t_raise1, t_callX, t_callKX, t_xf, t_isx, runX, t_seq, t_if, t_or, t_and, t_not, t_tst, t_v, t_f, t_l, t_c, t_c1, t_op, t_chain', t_ret, t_asg, t_for, t_wenum, t_wlist, t_wtup, t_wstr, t_wrng1, t_wrng2, t_drop, g_setix, t_wzip, t_lname, t_name, t_next, t_ifx, t_isi, t_notV, t_andV, t_orV, t_call, t_callK, t_acons, t_aconsR, t_anil, t_tupd, t_lstd, g_name, g_tup, g_cons, g_nil, t_drop, t_lc, t_yes, t_star1, t_retn, t_par, t_slice, t_some, t_no, t_dict0, t_rev, t_neg, t_extend, t_append, t_sliceScr, t_retbox, t_xcons, LV.get, CS.at_, SV.view, datsOf, Option.map_some, List.getElem?_cons_zero, List.getElem?_cons_succ, List.set_cons_zero, List.set_cons_succ, settled, initC, List.map_cons, List.map_nil, List.length_cons, List.length_nil, List.cons_append, List.nil_append, seqOf, runD, ltZ, inY, notinY, ixG, lenY, mulZ, max2X, min2X, isY, isnY, sortedX, ltY, gtY, inX, notinX, ordX, boolX, addX, subX, mulX, mulY, modX, fdivX, powX, ltX, leX, gtX, geX, eqY, neY, eqX, neX, isX, isnX, ixX, lenX, listX, tupleX, intX, strX, shX, sumX, sumY, maxX, minX, allX, absX, slX]
    refine ⟨by show 3 < 4; decide, ⟨_, rfl⟩, rfl, pick_str (by decide +kernel) (by decide +kernel) fun c hc => ?_⟩
    dsimp only
    refine ⟨?_, by show 2 < 4; decide, hN _ ⟨_, _, rfl, by rw [len_app]; omega, lowS_app hz (low_letters.mp hc)⟩⟩
    rw [sizeLine_eq]
    show z.length + 1 ≤ _
    omega
theorem plain_spec {Q : SV → Prop} (h : ∀ d, Pl d → Q (.dat d)) : C__law_plain [.raw 5] Q := by
  refine ⟨rfl, ?_⟩
  show T__law_plain _ [some (.raw 5), none]
  refine seq_step (fun cs' => ∃ r : Int, 0 ≤ r ∧ r < 6 ∧ cs' = [some (.raw 5), some (.dat (.int r))]) (fun N hN => ?_) ?_
  · dsimp only [t_wany, seqY, t_wzipT, seqT, t_gd0, t_disp, t_pcons, t_pnil, t_retdbox, t_dictP, t_sortK, t_callB, t_dnew1, t_pop, t_lenset, t_wseq, t_wzip3, t_astar, t_par3, t_dnew, t_dlist, t_dput, t_dget2, t_din, t_lenScr, t_raise1, t_callX, t_callKX, t_xf, t_isx, runX, t_seq, t_if, t_or, t_and, t_not, t_tst, t_v, t_f, t_l, t_c, t_c1, t_op, t_chain', t_ret, t_asg, t_for, t_wenum, t_wlist, t_wtup, t_wstr, t_wrng1, t_wrng2, t_drop, g_setix, t_wzip, t_lname, t_name, t_next, t_ifx, t_isi, t_notV, t_andV, t_orV, t_call, t_callK, t_acons, t_aconsR, t_anil, t_tupd, t_lstd, g_name, g_tup, g_cons, g_nil, t_drop, t_lc, t_yes, t_star1, t_retn, t_par, t_slice, t_some, t_no, t_dict0, t_rev, t_neg, t_extend, t_append, t_sliceScr, t_retbox, t_xcons, LV.get, CS.at_, SV.view, datsOf, Option.map_some, List.getElem?_cons_zero, List.getElem?_cons_succ, List.set_cons_zero, List.set_cons_succ, settled, initC, List.map_cons, List.map_nil, List.length_cons, List.length_nil, List.cons_append, List.nil_append, seqOf, runD, ltZ, inY, notinY, ixG, lenY, mulZ, max2X, min2X, isY, isnY, sortedX, ltY, gtY, inX, notinX, ordX, boolX, addX, subX, mulX, mulY, modX, fdivX, powX, ltX, leX, gtX, geX, eqY, neY, eqX, neX, isX, isnX, ixX, lenX, listX, tupleX, intX, strX, shX, sumX, sumY, maxX, minX, allX, absX, slX]
    exact ⟨rfl, draw_spec (by decide) (by decide) fun r h0 h1 => ⟨by decide, hN _ ⟨r, h0, h1, rfl⟩⟩⟩
  rintro cs ⟨r, h0, h1, rfl⟩
  dsimp only [t_wany, seqY, t_wzipT, seqT, t_gd0, t_disp, t_pcons, t_pnil, t_retdbox, t_dictP, t_sortK, t_callB, t_dnew1, t_pop, t_lenset, t_wseq, t_wzip3, t_astar, t_par3, t_dnew, t_dlist, t_dput, t_dget2, t_din, t_lenScr, t_raise1, t_callX, t_callKX, t_xf, t_isx, runX, t_seq, t_if, t_or, t_and, t_not, t_tst, t_v, t_f, t_l, t_c, t_c1, t_op, t_chain', t_ret, t_asg, t_for, t_wenum, t_wlist, t_wtup, t_wstr, t_wrng1, t_wrng2, t_drop, g_setix, t_wzip, t_lname, t_name, t_next, t_ifx, t_isi, t_notV, t_andV, t_orV, t_call, t_callK, t_acons, t_aconsR, t_anil, t_tupd, t_lstd, g_name, g_tup, g_cons, g_nil, t_drop, t_lc, t_yes, t_star1, t_retn, t_par, t_slice, t_some, t_no, t_dict0, t_rev, t_neg, t_extend, t_append, t_sliceScr, t_retbox, t_xcons, LV.get, CS.at_, SV.view, datsOf, Option.map_some, List.getElem?_cons_zero, List.getElem?_cons_succ, List.set_cons_zero, List.set_cons_succ, settled, initC, List.map_cons, List.map_nil, List.length_cons, List.length_nil, List.cons_append, List.nil_append, seqOf, runD, ltZ, inY, notinY, ixG, lenY, mulZ, max2X, min2X, isY, isnY, sortedX, ltY, gtY, inX, notinX, ordX, boolX, addX, subX, mulX, mulY, modX, fdivX, powX, ltX, leX, gtX, geX, eqY, neY, eqX, neX, isX, isnX, ixX, lenX, listX, tupleX, intX, strX, shX, sumX, sumY, maxX, minX, allX, absX, slX]
  refine ⟨⟨_, rfl⟩, ?_⟩
  by_cases e0 : r = 0
  · rw [decide_eq_true e0]
    refine iteT ⟨rfl, by decide, pick_list (by simp) (by decide +kernel) fun d hd => h d ?_⟩
    simp only [List.mem_cons, List.not_mem_nil, or_false] at hd
    rcases hd with rfl | rfl | rfl | rfl | rfl | rfl | rfl | rfl <;> exact .int (by decide) (by decide)
  rw [decide_eq_false e0]
  refine iteF ⟨⟨_, rfl⟩, ?_⟩
  by_cases e1 : r < 3
  · rw [decide_eq_true e1]
    exact iteT ⟨rfl, draw_spec (by decide) (by decide) fun k h2 h3 => h _ (.int h2 (by omega))⟩
  rw [decide_eq_false e1]
  refine iteF ⟨⟨_, rfl⟩, ?_⟩
  by_cases e2 : r = 3
  · rw [decide_eq_true e2]
    exact iteT ⟨rfl, word_spec (by decide) (by decide) fun z a b c => h _ (.str a b c)⟩
  rw [decide_eq_false e2]
  refine iteF ⟨rfl, by decide, pick_list (by simp) (by decide +kernel) fun d hd => h d ?_⟩
  simp only [List.mem_cons, List.not_mem_nil, or_false] at hd
  rcases hd with rfl | rfl | rfl | rfl | rfl | rfl | rfl | rfl | rfl | rfl | rfl | rfl <;> exact .str (by decide +kernel) (by decide +kernel) (by decide +kernel)
theorem value_spec {Q : SV → Prop} (h : ∀ d, Vl d → Q (.dat d)) : C__law_value [.raw 5] Q := by
  refine ⟨rfl, ?_⟩
  show T__law_value _ [some (.raw 5), none]
  dsimp only [T__law_value, t_wany, seqY, t_wzipT, seqT, t_gd0, t_disp, t_pcons, t_pnil, t_retdbox, t_dictP, t_sortK, t_callB, t_dnew1, t_pop, t_lenset, t_wseq, t_wzip3, t_astar, t_par3, t_dnew, t_dlist, t_dput, t_dget2, t_din, t_lenScr, t_raise1, t_callX, t_callKX, t_xf, t_isx, runX, t_seq, t_if, t_or, t_and, t_not, t_tst, t_v, t_f, t_l, t_c, t_c1, t_op, t_chain', t_ret, t_asg, t_for, t_wenum, t_wlist, t_wtup, t_wstr, t_wrng1, t_wrng2, t_drop, g_setix, t_wzip, t_lname, t_name, t_next, t_ifx, t_isi, t_notV, t_andV, t_orV, t_call, t_callK, t_acons, t_aconsR, t_anil, t_tupd, t_lstd, g_name, g_tup, g_cons, g_nil, t_drop, t_lc, t_yes, t_star1, t_retn, t_par, t_slice, t_some, t_no, t_dict0, t_rev, t_neg, t_extend, t_append, t_sliceScr, t_retbox, t_xcons, LV.get, CS.at_, SV.view, datsOf, Option.map_some, List.getElem?_cons_zero, List.getElem?_cons_succ, List.set_cons_zero, List.set_cons_succ, settled, initC, List.map_cons, List.map_nil, List.length_cons, List.length_nil, List.cons_append, List.nil_append, seqOf, runD, ltZ, inY, notinY, ixG, lenY, mulZ, max2X, min2X, isY, isnY, sortedX, ltY, gtY, inX, notinX, ordX, boolX, addX, subX, mulX, mulY, modX, fdivX, powX, ltX, leX, gtX, geX, eqY, neY, eqX, neX, isX, isnX, ixX, lenX, listX, tupleX, intX, strX, shX, sumX, sumY, maxX, minX, allX, absX, slX]
  refine ⟨rfl, draw_spec (by decide) (by decide) fun r h0 h1 => ?_⟩
  dsimp only
  by_cases e : 0 < r
  · rw [decide_eq_true e]
    exact iteT ⟨rfl, plain_spec fun d hd => h d (.plain hd)⟩
  rw [decide_eq_false e]
  refine iteF ⟨rfl, draw_spec (by decide) (by decide) fun k h2 h3 => ?_⟩
  dsimp only
  refine ⟨by omega, by omega, ?_⟩
  refine lcD_ind (I := fun ds acc cs => cs = [some (.raw 5), none] ∧ acc.length + ds.length = (1 + k).toNat ∧ ∀ d ∈ acc, Pl d) ?_ ?_ _ _ _ ⟨rfl, by rw [rangeD_len]; simp, fun _ z => by cases z⟩
  · rintro acc cs ⟨rfl, hl, ha⟩
    rw [List.length_nil] at hl
    exact h _ (.tup (by omega) (by omega) ha)
  · rintro d ds acc cs N hN ⟨rfl, hl, ha⟩
    rw [List.length_cons] at hl
    dsimp only [t_wany, seqY, t_wzipT, seqT, t_gd0, t_disp, t_pcons, t_pnil, t_retdbox, t_dictP, t_sortK, t_callB, t_dnew1, t_pop, t_lenset, t_wseq, t_wzip3, t_astar, t_par3, t_dnew, t_dlist, t_dput, t_dget2, t_din, t_lenScr, t_raise1, t_callX, t_callKX, t_xf, t_isx, runX, t_seq, t_if, t_or, t_and, t_not, t_tst, t_v, t_f, t_l, t_c, t_c1, t_op, t_chain', t_ret, t_asg, t_for, t_wenum, t_wlist, t_wtup, t_wstr, t_wrng1, t_wrng2, t_drop, g_setix, t_wzip, t_lname, t_name, t_next, t_ifx, t_isi, t_notV, t_andV, t_orV, t_call, t_callK, t_acons, t_aconsR, t_anil, t_tupd, t_lstd, g_name, g_tup, g_cons, g_nil, t_drop, t_lc, t_yes, t_star1, t_retn, t_par, t_slice, t_some, t_no, t_dict0, t_rev, t_neg, t_extend, t_append, t_sliceScr, t_retbox, t_xcons, LV.get, CS.at_, SV.view, datsOf, Option.map_some, List.getElem?_cons_zero, List.getElem?_cons_succ, List.set_cons_zero, List.set_cons_succ, settled, initC, List.map_cons, List.map_nil, List.length_cons, List.length_nil, List.cons_append, List.nil_append, seqOf, runD, ltZ, inY, notinY, ixG, lenY, mulZ, max2X, min2X, isY, isnY, sortedX, ltY, gtY, inX, notinX, ordX, boolX, addX, subX, mulX, mulY, modX, fdivX, powX, ltX, leX, gtX, geX, eqY, neY, eqX, neX, isX, isnX, ixX, lenX, listX, tupleX, intX, strX, shX, sumX, sumY, maxX, minX, allX, absX, slX]
    refine ⟨by show 1 < 2; decide, iteT ⟨rfl, plain_spec fun x hx => ?_⟩⟩
    refine ⟨by rw [sizeLine_eq]; omega, hN _ _ ⟨rfl, by rw [List.length_append, List.length_singleton]; omega, fun y hy => ?_⟩⟩
    rcases List.mem_append.mp hy with hy | hy
    · exact ha y hy
    · rw [List.mem_singleton.mp hy]; exact hx
theorem intsD_map (xs : List Int) : intsD (xs.map .int) = some xs := by
  induction xs with
  | nil => rfl
  | cons x xs ih => show (intsD (xs.map .int)).map _ = _; rw [ih]; rfl
end Lk

namespace Lk
open PySem PySem.Spec PyProof.Rows L2 Cl Va
theorem box_spec (ns : List Int) {Q : SV → Prop} (h : Q (.raw 5)) : C__law_box [.scr ns] Q := by
  refine ⟨rfl, ?_⟩
  have zz : sizeLine = 16777216 := sizeLine_eq
  show T__law_box _ [some (.scr ns), none, none, none, none]
  refine seq_step (fun c => ∃ (us : List Int) (z : Int), us.length ≤ 63 ∧ c = [some (.scr ns), some (.own (us.map .int)), some (.dat (.int z)), none, none]) (fun N hN => ?_) ?_
  · dsimp only [t_wany, seqY, t_wzipT, seqT, t_gd0, t_disp, t_pcons, t_pnil, t_retdbox, t_dictP, t_sortK, t_callB, t_dnew1, t_pop, t_lenset, t_wseq, t_wzip3, t_astar, t_par3, t_dnew, t_dlist, t_dput, t_dget2, t_din, t_lenScr, t_raise1, t_callX, t_callKX, t_xf, t_isx, runX, t_seq, t_if, t_or, t_and, t_not, t_tst, t_v, t_f, t_l, t_c, t_c1, t_op, t_chain', t_ret, t_asg, t_for, t_wenum, t_wlist, t_wtup, t_wstr, t_wrng1, t_wrng2, t_drop, g_setix, t_wzip, t_lname, t_name, t_next, t_ifx, t_isi, t_notV, t_andV, t_orV, t_call, t_callK, t_acons, t_aconsR, t_anil, t_tupd, t_lstd, g_name, g_tup, g_cons, g_nil, t_drop, t_lc, t_yes, t_star1, t_retn, t_par, t_slice, t_some, t_no, t_dict0, t_rev, t_neg, t_extend, t_append, t_sliceScr, t_retbox, t_xcons, LV.get, CS.at_, SV.view, datsOf, Option.map_some, List.getElem?_cons_zero, List.getElem?_cons_succ, List.set_cons_zero, List.set_cons_succ, settled, initC, List.map_cons, List.map_nil, List.length_cons, List.length_nil, List.cons_append, List.nil_append, seqOf, runD, ltZ, inY, notinY, ixG, lenY, mulZ, max2X, min2X, isY, isnY, sortedX, ltY, gtY, inX, notinX, ordX, boolX, addX, subX, mulX, mulY, modX, fdivX, powX, ltX, leX, gtX, geX, eqY, neY, eqX, neX, isX, isnX, ixX, lenX, listX, tupleX, intX, strX, shX, sumX, sumY, maxX, minX, allX, absX, slX]
    rw [show (some 63 : Option Int) = some ((63 : Nat) : Int) from rfl, cut_take, ← List.map_take]
    refine lcD_ind (I := fun ds acc c => c = [some (.scr ns), none, none, none, none] ∧ ∃ us vs : List Int, ds = vs.map .int ∧ acc = us.map .int ∧ us.length + vs.length ≤ 63) ?_ ?_ _ _ _ ⟨rfl, [], ns.take 63, rfl, rfl, ?_⟩
    · rintro acc c ⟨rfl, us, vs, e1, rfl, hl⟩
      exact ⟨ns, rfl, by show 1 < 5; decide, by show 2 < 5; decide, hN _ ⟨us, _, by omega, rfl⟩⟩
    · rintro d ds acc c N' hN' ⟨rfl, us, vs, e1, rfl, hl⟩
      cases vs with
      | nil => cases e1
      | cons v vs =>
        cases e1
        rw [List.length_cons] at hl
        have hz : (us.map PyData.int).length < sizeLine := by rw [List.length_map, zz]; omega
        have fin : ∀ k : Int, N' (us.map PyData.int ++ [.int k]) [some (.scr ns), none, none, none, none] := fun k => hN' _ _ ⟨rfl, us ++ [k], vs, rfl, by simp, by rw [List.length_append, List.length_singleton]; omega⟩
        dsimp only [t_wany, seqY, t_wzipT, seqT, t_gd0, t_disp, t_pcons, t_pnil, t_retdbox, t_dictP, t_sortK, t_callB, t_dnew1, t_pop, t_lenset, t_wseq, t_wzip3, t_astar, t_par3, t_dnew, t_dlist, t_dput, t_dget2, t_din, t_lenScr, t_raise1, t_callX, t_callKX, t_xf, t_isx, runX, t_seq, t_if, t_or, t_and, t_not, t_tst, t_v, t_f, t_l, t_c, t_c1, t_op, t_chain', t_ret, t_asg, t_for, t_wenum, t_wlist, t_wtup, t_wstr, t_wrng1, t_wrng2, t_drop, g_setix, t_wzip, t_lname, t_name, t_next, t_ifx, t_isi, t_notV, t_andV, t_orV, t_call, t_callK, t_acons, t_aconsR, t_anil, t_tupd, t_lstd, g_name, g_tup, g_cons, g_nil, t_drop, t_lc, t_yes, t_star1, t_retn, t_par, t_slice, t_some, t_no, t_dict0, t_rev, t_neg, t_extend, t_append, t_sliceScr, t_retbox, t_xcons, LV.get, CS.at_, SV.view, datsOf, Option.map_some, List.getElem?_cons_zero, List.getElem?_cons_succ, List.set_cons_zero, List.set_cons_succ, settled, initC, List.map_cons, List.map_nil, List.length_cons, List.length_nil, List.cons_append, List.nil_append, seqOf, runD, ltZ, inY, notinY, ixG, lenY, mulZ, max2X, min2X, isY, isnY, sortedX, ltY, gtY, inX, notinX, ordX, boolX, addX, subX, mulX, mulY, modX, fdivX, powX, ltX, leX, gtX, geX, eqY, neY, eqX, neX, isX, isnX, ixX, lenX, listX, tupleX, intX, strX, shX, sumX, sumY, maxX, minX, allX, absX, slX]
        exact ⟨by show 3 < 5; decide, ⟨_, rfl⟩, mulOk_l (by decide) (by decide), ⟨_, rfl⟩, hz, fin _⟩
    · rw [List.length_nil, List.length_take]; omega
  rintro c ⟨us, z, hu, rfl⟩
  refine seq_step (fun c => ∃ (z : Int) (x : Option SV), c = [some (.scr ns), some (.dat (.list (us.map .int))), some (.dat (.int z)), none, x]) (fun N hN => ?_) ?_
  · dsimp only [t_for, t_wany, seqY, t_f, t_name, List.getElem?_cons_succ, List.getElem?_cons_zero, List.set_cons_zero, List.set_cons_succ, SV.view]
    refine forD_ind (I := fun ds c => ∃ (vs : List Int) (z : Int) (x : Option SV), ds = vs.map .int ∧ c = [some (.scr ns), some (.dat (.list (us.map .int))), some (.dat (.int z)), none, x]) ?_ ?_ _ _ ⟨us, z, none, rfl, rfl⟩
    · rintro c ⟨vs, z, x, _, rfl⟩
      exact hN _ ⟨z, x, rfl⟩
    · rintro d ds c N' hN' ⟨vs, z, x, e, rfl⟩
      cases vs with
      | nil => cases e
      | cons v vs =>
        cases e
        dsimp only [t_wany, seqY, t_wzipT, seqT, t_gd0, t_disp, t_pcons, t_pnil, t_retdbox, t_dictP, t_sortK, t_callB, t_dnew1, t_pop, t_lenset, t_wseq, t_wzip3, t_astar, t_par3, t_dnew, t_dlist, t_dput, t_dget2, t_din, t_lenScr, t_raise1, t_callX, t_callKX, t_xf, t_isx, runX, t_seq, t_if, t_or, t_and, t_not, t_tst, t_v, t_f, t_l, t_c, t_c1, t_op, t_chain', t_ret, t_asg, t_for, t_wenum, t_wlist, t_wtup, t_wstr, t_wrng1, t_wrng2, t_drop, g_setix, t_wzip, t_lname, t_name, t_next, t_ifx, t_isi, t_notV, t_andV, t_orV, t_call, t_callK, t_acons, t_aconsR, t_anil, t_tupd, t_lstd, g_name, g_tup, g_cons, g_nil, t_drop, t_lc, t_yes, t_star1, t_retn, t_par, t_slice, t_some, t_no, t_dict0, t_rev, t_neg, t_extend, t_append, t_sliceScr, t_retbox, t_xcons, LV.get, CS.at_, SV.view, datsOf, Option.map_some, List.getElem?_cons_zero, List.getElem?_cons_succ, List.set_cons_zero, List.set_cons_succ, settled, initC, List.map_cons, List.map_nil, List.length_cons, List.length_nil, List.cons_append, List.nil_append, seqOf, runD, ltZ, inY, notinY, ixG, lenY, mulZ, max2X, min2X, isY, isnY, sortedX, ltY, gtY, inX, notinX, ordX, boolX, addX, subX, mulX, mulY, modX, fdivX, powX, ltX, leX, gtX, geX, eqY, neY, eqX, neX, isX, isnX, ixX, lenX, listX, tupleX, intX, strX, shX, sumX, sumY, maxX, minX, allX, absX, slX]
        exact ⟨by show 4 < 5; decide, ⟨_, rfl⟩, mulOk_r (by decide) (by decide), ⟨_, rfl⟩, by decide, by show 2 < 5; decide, hN' _ ⟨vs, _, _, rfl, rfl⟩⟩
  rintro c ⟨z, x, rfl⟩
  dsimp only [t_wany, seqY, t_wzipT, seqT, t_gd0, t_disp, t_pcons, t_pnil, t_retdbox, t_dictP, t_sortK, t_callB, t_dnew1, t_pop, t_lenset, t_wseq, t_wzip3, t_astar, t_par3, t_dnew, t_dlist, t_dput, t_dget2, t_din, t_lenScr, t_raise1, t_callX, t_callKX, t_xf, t_isx, runX, t_seq, t_if, t_or, t_and, t_not, t_tst, t_v, t_f, t_l, t_c, t_c1, t_op, t_chain', t_ret, t_asg, t_for, t_wenum, t_wlist, t_wtup, t_wstr, t_wrng1, t_wrng2, t_drop, g_setix, t_wzip, t_lname, t_name, t_next, t_ifx, t_isi, t_notV, t_andV, t_orV, t_call, t_callK, t_acons, t_aconsR, t_anil, t_tupd, t_lstd, g_name, g_tup, g_cons, g_nil, t_drop, t_lc, t_yes, t_star1, t_retn, t_par, t_slice, t_some, t_no, t_dict0, t_rev, t_neg, t_extend, t_append, t_sliceScr, t_retbox, t_xcons, LV.get, CS.at_, SV.view, datsOf, Option.map_some, List.getElem?_cons_zero, List.getElem?_cons_succ, List.set_cons_zero, List.set_cons_succ, settled, initC, List.map_cons, List.map_nil, List.length_cons, List.length_nil, List.cons_append, List.nil_append, seqOf, runD, ltZ, inY, notinY, ixG, lenY, mulZ, max2X, min2X, isY, isnY, sortedX, ltY, gtY, inX, notinX, ordX, boolX, addX, subX, mulX, mulY, modX, fdivX, powX, ltX, leX, gtX, geX, eqY, neY, eqX, neX, isX, isnX, ixX, lenX, listX, tupleX, intX, strX, shX, sumX, sumY, maxX, minX, allX, absX, slX, t_retdbox]
  refine lcD_ind (I := fun ds acc c => c = [some (.scr ns), some (.dat (.list (us.map .int))), some (.dat (.int z)), none, none] ∧ ∃ ws vs : List Int, ds = vs.map .int ∧ acc = ws.map .int ∧ ws.length + vs.length ≤ 63) ?_ ?_ _ _ _ ⟨rfl, [], us, rfl, rfl, by simpa using hu⟩
  · rintro acc c ⟨rfl, ws, vs, e1, rfl, hl⟩
    refine ⟨⟨⟨ws, rfl, .inl ⟨rfl, by omega⟩⟩, True.intro⟩, h⟩
  · rintro d ds acc c N' hN' ⟨rfl, ws, vs, e1, rfl, hl⟩
    cases vs with
    | nil => cases e1
    | cons v vs =>
      cases e1
      rw [List.length_cons] at hl
      have hz : (ws.map PyData.int).length < sizeLine := by rw [List.length_map, zz]; omega
      dsimp only [t_wany, seqY, t_wzipT, seqT, t_gd0, t_disp, t_pcons, t_pnil, t_retdbox, t_dictP, t_sortK, t_callB, t_dnew1, t_pop, t_lenset, t_wseq, t_wzip3, t_astar, t_par3, t_dnew, t_dlist, t_dput, t_dget2, t_din, t_lenScr, t_raise1, t_callX, t_callKX, t_xf, t_isx, runX, t_seq, t_if, t_or, t_and, t_not, t_tst, t_v, t_f, t_l, t_c, t_c1, t_op, t_chain', t_ret, t_asg, t_for, t_wenum, t_wlist, t_wtup, t_wstr, t_wrng1, t_wrng2, t_drop, g_setix, t_wzip, t_lname, t_name, t_next, t_ifx, t_isi, t_notV, t_andV, t_orV, t_call, t_callK, t_acons, t_aconsR, t_anil, t_tupd, t_lstd, g_name, g_tup, g_cons, g_nil, t_drop, t_lc, t_yes, t_star1, t_retn, t_par, t_slice, t_some, t_no, t_dict0, t_rev, t_neg, t_extend, t_append, t_sliceScr, t_retbox, t_xcons, LV.get, CS.at_, SV.view, datsOf, Option.map_some, List.getElem?_cons_zero, List.getElem?_cons_succ, List.set_cons_zero, List.set_cons_succ, settled, initC, List.map_cons, List.map_nil, List.length_cons, List.length_nil, List.cons_append, List.nil_append, seqOf, runD, ltZ, inY, notinY, ixG, lenY, mulZ, max2X, min2X, isY, isnY, sortedX, ltY, gtY, inX, notinX, ordX, boolX, addX, subX, mulX, mulY, modX, fdivX, powX, ltX, leX, gtX, geX, eqY, neY, eqX, neX, isX, isnX, ixX, lenX, listX, tupleX, intX, strX, shX, sumX, sumY, maxX, minX, allX, absX, slX]
      refine ⟨by show 4 < 5; decide, ⟨_, rfl⟩, by decide, by decide, by decide, ?_⟩
      by_cases hv : (10 : Int) ^ (15 : Int).toNat < v
      · rw [decide_eq_true hv]
        exact iteT ⟨hz, hN' _ _ ⟨rfl, ws ++ [v], vs, rfl, by simp, by rw [List.length_append, List.length_singleton]; omega⟩⟩
      · rw [decide_eq_false hv]
        exact iteF (hN' _ _ ⟨rfl, ws, vs, rfl, rfl, by omega⟩)
/-! the looks -/
theorem isint_spec (d : PyData) {Q : SV → Prop} (h : Q (.dat (.bool (match d with | .int _ => true | _ => false)))) : C_is_integer [.dat d] Q := by
  refine ⟨rfl, ?_⟩
  show T_is_integer _ [some (.dat d)]
  dsimp only [T_is_integer, t_wany, seqY, t_wzipT, seqT, t_gd0, t_disp, t_pcons, t_pnil, t_retdbox, t_dictP, t_sortK, t_callB, t_dnew1, t_pop, t_lenset, t_wseq, t_wzip3, t_astar, t_par3, t_dnew, t_dlist, t_dput, t_dget2, t_din, t_lenScr, t_raise1, t_callX, t_callKX, t_xf, t_isx, runX, t_seq, t_if, t_or, t_and, t_not, t_tst, t_v, t_f, t_l, t_c, t_c1, t_op, t_chain', t_ret, t_asg, t_for, t_wenum, t_wlist, t_wtup, t_wstr, t_wrng1, t_wrng2, t_drop, g_setix, t_wzip, t_lname, t_name, t_next, t_ifx, t_isi, t_notV, t_andV, t_orV, t_call, t_callK, t_acons, t_aconsR, t_anil, t_tupd, t_lstd, g_name, g_tup, g_cons, g_nil, t_drop, t_lc, t_yes, t_star1, t_retn, t_par, t_slice, t_some, t_no, t_dict0, t_rev, t_neg, t_extend, t_append, t_sliceScr, t_retbox, t_xcons, LV.get, CS.at_, SV.view, datsOf, Option.map_some, List.getElem?_cons_zero, List.getElem?_cons_succ, List.set_cons_zero, List.set_cons_succ, settled, initC, List.map_cons, List.map_nil, List.length_cons, List.length_nil, List.cons_append, List.nil_append, seqOf, runD, ltZ, inY, notinY, ixG, lenY, mulZ, max2X, min2X, isY, isnY, sortedX, ltY, gtY, inX, notinX, ordX, boolX, addX, subX, mulX, mulY, modX, fdivX, powX, ltX, leX, gtX, geX, eqY, neY, eqX, neX, isX, isnX, ixX, lenX, listX, tupleX, intX, strX, shX, sumX, sumY, maxX, minX, allX, absX, slX]
  refine ⟨⟨_, rfl⟩, ?_⟩
  cases d <;> (try exact h) <;> exact ⟨⟨_, rfl⟩, h⟩
theorem boolsD_map {α : Type} (f : α → Bool) (xs : List α) : boolsD (xs.map fun x => .bool (f x)) = some (xs.map f) := by
  induction xs with
  | nil => rfl
  | cons x xs ih => show (boolsD (xs.map _)).map _ = _; rw [ih]; rfl
theorem inX_letter {c : Nat} : (decide (c ∈ ("abcdefghijklmnopqrstuvwxyz" : Str).cps.toList)) = decide (97 ≤ c ∧ c ≤ 122) := decide_eq_decide.mpr low_letters
def wordB : PyData → Bool
  | .str z => decide (1 ≤ z.length) && decide (z.length ≤ 8) && lowS z
  | _ => false
/-- texts are not too long for the machine -/
def Short (d : PyData) : Prop := match d with
  | .str z => z.length ≤ sizeLine
  | _ => True
theorem isword_spec (d : PyData) (hs : Short d) {Q : SV → Prop} (h : Q (.dat (.bool (wordB d)))) : C_is_word [.dat d] Q := by
  refine ⟨rfl, ?_⟩
  show T_is_word _ [some (.dat d), none]
  unfold T_is_word
  rw [chI_eq]
  dsimp only [t_chI, t_wany, seqY, t_wzipT, seqT, t_gd0, t_disp, t_pcons, t_pnil, t_retdbox, t_dictP, t_sortK, t_callB, t_dnew1, t_pop, t_lenset, t_wseq, t_wzip3, t_astar, t_par3, t_dnew, t_dlist, t_dput, t_dget2, t_din, t_lenScr, t_raise1, t_callX, t_callKX, t_xf, t_isx, runX, t_seq, t_if, t_or, t_and, t_not, t_tst, t_v, t_f, t_l, t_c, t_c1, t_op, t_chain', t_ret, t_asg, t_for, t_wenum, t_wlist, t_wtup, t_wstr, t_wrng1, t_wrng2, t_drop, g_setix, t_wzip, t_lname, t_name, t_next, t_ifx, t_isi, t_notV, t_andV, t_orV, t_call, t_callK, t_acons, t_aconsR, t_anil, t_tupd, t_lstd, g_name, g_tup, g_cons, g_nil, t_drop, t_lc, t_yes, t_star1, t_retn, t_par, t_slice, t_some, t_no, t_dict0, t_rev, t_neg, t_extend, t_append, t_sliceScr, t_retbox, t_xcons, LV.get, CS.at_, SV.view, datsOf, Option.map_some, List.getElem?_cons_zero, List.getElem?_cons_succ, List.set_cons_zero, List.set_cons_succ, settled, initC, List.map_cons, List.map_nil, List.length_cons, List.length_nil, List.cons_append, List.nil_append, seqOf, runD, ltZ, inY, notinY, ixG, lenY, mulZ, max2X, min2X, isY, isnY, sortedX, ltY, gtY, inX, notinX, ordX, boolX, addX, subX, mulX, mulY, modX, fdivX, powX, ltX, leX, gtX, geX, eqY, neY, eqX, neX, isX, isnX, ixX, lenX, listX, tupleX, intX, strX, shX, sumX, sumY, maxX, minX, allX, absX, slX]
  refine ⟨⟨_, rfl⟩, ?_⟩
  cases d with
  | str z =>
    refine ⟨⟨_, rfl⟩, hs, _, _, rfl, rfl, ?_⟩
    by_cases h1 : (1 : Int) ≤ z.length ∧ (z.length : Int) ≤ 8
    · rw [decide_eq_true h1]
      refine lcD_M (fun c : Nat => PyData.str ⟨#[c]⟩) (fun c => PyData.bool (decide (97 ≤ c ∧ c ≤ 122))) _ _ ?_ (fun c hc K N hK => ?_) ?_
      · rw [sizeLine_eq, Array.length_toList]; have := h1.2; unfold Str.length at this; omega
      · dsimp only [t_wany, seqY, t_wzipT, seqT, t_gd0, t_disp, t_pcons, t_pnil, t_retdbox, t_dictP, t_sortK, t_callB, t_dnew1, t_pop, t_lenset, t_wseq, t_wzip3, t_astar, t_par3, t_dnew, t_dlist, t_dput, t_dget2, t_din, t_lenScr, t_raise1, t_callX, t_callKX, t_xf, t_isx, runX, t_seq, t_if, t_or, t_and, t_not, t_tst, t_v, t_f, t_l, t_c, t_c1, t_op, t_chain', t_ret, t_asg, t_for, t_wenum, t_wlist, t_wtup, t_wstr, t_wrng1, t_wrng2, t_drop, g_setix, t_wzip, t_lname, t_name, t_next, t_ifx, t_isi, t_notV, t_andV, t_orV, t_call, t_callK, t_acons, t_aconsR, t_anil, t_tupd, t_lstd, g_name, g_tup, g_cons, g_nil, t_drop, t_lc, t_yes, t_star1, t_retn, t_par, t_slice, t_some, t_no, t_dict0, t_rev, t_neg, t_extend, t_append, t_sliceScr, t_retbox, t_xcons, LV.get, CS.at_, SV.view, datsOf, Option.map_some, List.getElem?_cons_zero, List.getElem?_cons_succ, List.set_cons_zero, List.set_cons_succ, settled, initC, List.map_cons, List.map_nil, List.length_cons, List.length_nil, List.cons_append, List.nil_append, seqOf, runD, ltZ, inY, notinY, ixG, lenY, mulZ, max2X, min2X, isY, isnY, sortedX, ltY, gtY, inX, notinX, ordX, boolX, addX, subX, mulX, mulY, modX, fdivX, powX, ltX, leX, gtX, geX, eqY, neY, eqX, neX, isX, isnX, ixX, lenX, listX, tupleX, intX, strX, shX, sumX, sumY, maxX, minX, allX, absX, slX]
        refine ⟨by show 1 < 2; decide, iteT ⟨⟨_, rfl⟩, c, rfl, ?_⟩⟩
        rw [inX_letter]
        exact hK
      · show match boolsD (z.cps.toList.map fun c => PyData.bool (decide (97 ≤ c ∧ c ≤ 122))) with | some bs => Q (.dat (.bool (bs.all id))) | none => False
        rw [boolsD_map]
        have : wordB (.str z) = ((z.cps.toList.map fun c => decide (97 ≤ c ∧ c ≤ 122)).all id) := by
          rw [List.all_map]
          simp only [wordB, lowS, decide_eq_true (show 1 ≤ z.length by omega), decide_eq_true (show z.length ≤ 8 by omega), Bool.true_and]
          rfl
        rw [this] at h
        exact h
    · rw [decide_eq_false h1]
      have : wordB (.str z) = false := by simp [wordB]; omega
      rw [this] at h
      exact h
  | _ => exact h
theorem isplain_spec (d : PyData) (hs : Short d) {Q : SV → Prop} (h : Q (.dat (.bool (plainB d)))) : C_is_plain [.dat d] Q := by
  refine ⟨rfl, ?_⟩
  show T_is_plain _ [some (.dat d)]
  unfold T_is_plain
  rw [chI_eq]
  dsimp only [t_chI, t_wany, seqY, t_wzipT, seqT, t_gd0, t_disp, t_pcons, t_pnil, t_retdbox, t_dictP, t_sortK, t_callB, t_dnew1, t_pop, t_lenset, t_wseq, t_wzip3, t_astar, t_par3, t_dnew, t_dlist, t_dput, t_dget2, t_din, t_lenScr, t_raise1, t_callX, t_callKX, t_xf, t_isx, runX, t_seq, t_if, t_or, t_and, t_not, t_tst, t_v, t_f, t_l, t_c, t_c1, t_op, t_chain', t_ret, t_asg, t_for, t_wenum, t_wlist, t_wtup, t_wstr, t_wrng1, t_wrng2, t_drop, g_setix, t_wzip, t_lname, t_name, t_next, t_ifx, t_isi, t_notV, t_andV, t_orV, t_call, t_callK, t_acons, t_aconsR, t_anil, t_tupd, t_lstd, g_name, g_tup, g_cons, g_nil, t_drop, t_lc, t_yes, t_star1, t_retn, t_par, t_slice, t_some, t_no, t_dict0, t_rev, t_neg, t_extend, t_append, t_sliceScr, t_retbox, t_xcons, LV.get, CS.at_, SV.view, datsOf, Option.map_some, List.getElem?_cons_zero, List.getElem?_cons_succ, List.set_cons_zero, List.set_cons_succ, settled, initC, List.map_cons, List.map_nil, List.length_cons, List.length_nil, List.cons_append, List.nil_append, seqOf, runD, ltZ, inY, notinY, ixG, lenY, mulZ, max2X, min2X, isY, isnY, sortedX, ltY, gtY, inX, notinX, ordX, boolX, addX, subX, mulX, mulY, modX, fdivX, powX, ltX, leX, gtX, geX, eqY, neY, eqX, neX, isX, isnX, ixX, lenX, listX, tupleX, intX, strX, shX, sumX, sumY, maxX, minX, allX, absX, slX]
  refine isword_spec d hs ?_
  cases d with
  | int i =>
    dsimp only [wordB]
    refine isint_spec _ ?_
    dsimp only
    refine ⟨⟨_, rfl⟩, _, _, rfl, rfl, ?_⟩
    have : plainB (.int i) = decide (0 ≤ i ∧ i ≤ 999) := by simp [plainB, Bool.decide_and]
    rw [this] at h
    exact h
  | str z =>
    show match PyData.bool (wordB (.str z)) with | PyData.bool false => _ | PyData.bool true => _ | _ => False
    cases e : wordB (.str z) with
    | true => rw [show plainB (.str z) = true from e] at h; exact h
    | false =>
      rw [show plainB (.str z) = false from e] at h
      exact isint_spec _ h
  | _ => exact isint_spec _ h
theorem isvalue_spec (d : PyData) (hs : Short d) (hi : ∀ ds, d = .tuple ds → ∀ x ∈ ds, Short x) {Q : SV → Prop} (h : Q (.dat (.bool (valueB d)))) : C_is_value [.dat d] Q := by
  refine ⟨rfl, ?_⟩
  show T_is_value _ [some (.dat d), none]
  unfold T_is_value
  rw [chI_eq]
  dsimp only [t_chI, t_wany, seqY, t_wzipT, seqT, t_gd0, t_disp, t_pcons, t_pnil, t_retdbox, t_dictP, t_sortK, t_callB, t_dnew1, t_pop, t_lenset, t_wseq, t_wzip3, t_astar, t_par3, t_dnew, t_dlist, t_dput, t_dget2, t_din, t_lenScr, t_raise1, t_callX, t_callKX, t_xf, t_isx, runX, t_seq, t_if, t_or, t_and, t_not, t_tst, t_v, t_f, t_l, t_c, t_c1, t_op, t_chain', t_ret, t_asg, t_for, t_wenum, t_wlist, t_wtup, t_wstr, t_wrng1, t_wrng2, t_drop, g_setix, t_wzip, t_lname, t_name, t_next, t_ifx, t_isi, t_notV, t_andV, t_orV, t_call, t_callK, t_acons, t_aconsR, t_anil, t_tupd, t_lstd, g_name, g_tup, g_cons, g_nil, t_drop, t_lc, t_yes, t_star1, t_retn, t_par, t_slice, t_some, t_no, t_dict0, t_rev, t_neg, t_extend, t_append, t_sliceScr, t_retbox, t_xcons, LV.get, CS.at_, SV.view, datsOf, Option.map_some, List.getElem?_cons_zero, List.getElem?_cons_succ, List.set_cons_zero, List.set_cons_succ, settled, initC, List.map_cons, List.map_nil, List.length_cons, List.length_nil, List.cons_append, List.nil_append, seqOf, runD, ltZ, inY, notinY, ixG, lenY, mulZ, max2X, min2X, isY, isnY, sortedX, ltY, gtY, inX, notinX, ordX, boolX, addX, subX, mulX, mulY, modX, fdivX, powX, ltX, leX, gtX, geX, eqY, neY, eqX, neX, isX, isnX, ixX, lenX, listX, tupleX, intX, strX, shX, sumX, sumY, maxX, minX, allX, absX, slX]
  refine ⟨⟨_, rfl⟩, ?_⟩
  cases d with
  | tuple ds =>
    refine iteT ⟨⟨_, rfl⟩, _, _, rfl, rfl, ?_⟩
    by_cases h1 : (1 : Int) ≤ ds.length ∧ (ds.length : Int) ≤ 4
    · rw [decide_eq_true h1]
      refine lcD_map (fun x => PyData.bool (plainB x)) _ _ ?_ (fun x hx K N hK => ?_) ?_
      · rw [sizeLine_eq]; omega
      · dsimp only [t_wany, seqY, t_wzipT, seqT, t_gd0, t_disp, t_pcons, t_pnil, t_retdbox, t_dictP, t_sortK, t_callB, t_dnew1, t_pop, t_lenset, t_wseq, t_wzip3, t_astar, t_par3, t_dnew, t_dlist, t_dput, t_dget2, t_din, t_lenScr, t_raise1, t_callX, t_callKX, t_xf, t_isx, runX, t_seq, t_if, t_or, t_and, t_not, t_tst, t_v, t_f, t_l, t_c, t_c1, t_op, t_chain', t_ret, t_asg, t_for, t_wenum, t_wlist, t_wtup, t_wstr, t_wrng1, t_wrng2, t_drop, g_setix, t_wzip, t_lname, t_name, t_next, t_ifx, t_isi, t_notV, t_andV, t_orV, t_call, t_callK, t_acons, t_aconsR, t_anil, t_tupd, t_lstd, g_name, g_tup, g_cons, g_nil, t_drop, t_lc, t_yes, t_star1, t_retn, t_par, t_slice, t_some, t_no, t_dict0, t_rev, t_neg, t_extend, t_append, t_sliceScr, t_retbox, t_xcons, LV.get, CS.at_, SV.view, datsOf, Option.map_some, List.getElem?_cons_zero, List.getElem?_cons_succ, List.set_cons_zero, List.set_cons_succ, settled, initC, List.map_cons, List.map_nil, List.length_cons, List.length_nil, List.cons_append, List.nil_append, seqOf, runD, ltZ, inY, notinY, ixG, lenY, mulZ, max2X, min2X, isY, isnY, sortedX, ltY, gtY, inX, notinX, ordX, boolX, addX, subX, mulX, mulY, modX, fdivX, powX, ltX, leX, gtX, geX, eqY, neY, eqX, neX, isX, isnX, ixX, lenX, listX, tupleX, intX, strX, shX, sumX, sumY, maxX, minX, allX, absX, slX]
        exact ⟨by show 1 < 2; decide, iteT (isplain_spec x (hi ds rfl x hx) hK)⟩
      · show match boolsD (ds.map fun c => PyData.bool (plainB c)) with | some bs => Q (.dat (.bool (bs.all id))) | none => False
        rw [boolsD_map]
        have : valueB (.tuple ds) = ((ds.map plainB).all id) := by
          rw [List.all_map]
          simp only [valueB, decide_eq_true (show 1 ≤ ds.length by omega), decide_eq_true (show ds.length ≤ 4 by omega), Bool.true_and]
          rfl
        rw [this] at h
        exact h
    · rw [decide_eq_false h1]
      have : valueB (.tuple ds) = false := by simp only [valueB]; rw [Bool.and_eq_false_imp]; intro e; simp only [Bool.and_eq_true, decide_eq_true_eq] at e; omega
      rw [this] at h
      exact h
  | _ => exact iteF (isplain_spec _ hs h)
/-! the law's own looks -/
theorem lplain_spec (d : PyData) (hs : Short d) {Q : SV → Prop} (h : Q (.dat (.bool (plainB d)))) : C__law_is_plain [.dat d] Q := by
  refine ⟨rfl, ?_⟩
  show T__law_is_plain _ [some (.dat d), none]
  dsimp only [T__law_is_plain, t_wany, seqY, t_wzipT, seqT, t_gd0, t_disp, t_pcons, t_pnil, t_retdbox, t_dictP, t_sortK, t_callB, t_dnew1, t_pop, t_lenset, t_wseq, t_wzip3, t_astar, t_par3, t_dnew, t_dlist, t_dput, t_dget2, t_din, t_lenScr, t_raise1, t_callX, t_callKX, t_xf, t_isx, runX, t_seq, t_if, t_or, t_and, t_not, t_tst, t_v, t_f, t_l, t_c, t_c1, t_op, t_chain', t_ret, t_asg, t_for, t_wenum, t_wlist, t_wtup, t_wstr, t_wrng1, t_wrng2, t_drop, g_setix, t_wzip, t_lname, t_name, t_next, t_ifx, t_isi, t_notV, t_andV, t_orV, t_call, t_callK, t_acons, t_aconsR, t_anil, t_tupd, t_lstd, g_name, g_tup, g_cons, g_nil, t_drop, t_lc, t_yes, t_star1, t_retn, t_par, t_slice, t_some, t_no, t_dict0, t_rev, t_neg, t_extend, t_append, t_sliceScr, t_retbox, t_xcons, LV.get, CS.at_, SV.view, datsOf, Option.map_some, List.getElem?_cons_zero, List.getElem?_cons_succ, List.set_cons_zero, List.set_cons_succ, settled, initC, List.map_cons, List.map_nil, List.length_cons, List.length_nil, List.cons_append, List.nil_append, seqOf, runD, ltZ, inY, notinY, ixG, lenY, mulZ, max2X, min2X, isY, isnY, sortedX, ltY, gtY, inX, notinX, ordX, boolX, addX, subX, mulX, mulY, modX, fdivX, powX, ltX, leX, gtX, geX, eqY, neY, eqX, neX, isX, isnX, ixX, lenX, listX, tupleX, intX, strX, shX, sumX, sumY, maxX, minX, allX, absX, slX]
  refine ⟨⟨_, rfl⟩, ?_⟩
  cases d with
  | bool b => exact iteT h
  | int i =>
    refine iteF ⟨⟨_, rfl⟩, iteT ⟨⟨_, rfl⟩, ?_⟩⟩
    dsimp only
    by_cases h0 : 0 ≤ i
    · rw [decide_eq_true h0]
      refine ⟨⟨_, rfl⟩, ?_⟩
      have : plainB (.int i) = decide (i ≤ 999) := by simp [plainB, h0]
      rw [this] at h
      exact h
    · rw [decide_eq_false h0]
      have : plainB (.int i) = false := by simp [plainB, h0]
      rw [this] at h
      exact h
  | str z =>
    refine iteF ⟨⟨_, rfl⟩, iteF ⟨⟨_, rfl⟩, ⟨_, rfl⟩, ?_⟩⟩
    dsimp only
    by_cases e0 : z = ""
    · subst e0
      rw [show plainB (.str "") = false from by decide +kernel] at h
      exact h
    · have l0 : 1 ≤ z.length := by
        rcases Nat.eq_zero_or_pos z.length with e | e
        · exfalso
          apply e0
          have : z.cps = #[] := Array.eq_empty_of_size_eq_zero e
          cases z
          simp only at this
          subst this
          rfl
        · exact e
      rw [decide_eq_false e0]
      refine ⟨⟨_, rfl⟩, hs, ?_⟩
      by_cases e1 : (8 : Int) < z.length
      · rw [decide_eq_true e1]
        have : plainB (.str z) = false := by simp [plainB]; omega
        rw [this] at h
        exact h
      rw [decide_eq_false e1]
      have l8 : z.length ≤ 8 := by omega
      refine iteF ?_
      refine lcD_A (fun c : Nat => PyData.str ⟨#[c]⟩) (fun c => PyData.int 1) (fun c => !decide (97 ≤ c ∧ c ≤ 122)) _ _ _ ?_ (fun c hc K N h1 h2 => ?_) ?_
      · rw [sizeLine_eq, Array.length_toList]; unfold Str.length at l8; simp; omega
      · dsimp only [t_wany, seqY, t_wzipT, seqT, t_gd0, t_disp, t_pcons, t_pnil, t_retdbox, t_dictP, t_sortK, t_callB, t_dnew1, t_pop, t_lenset, t_wseq, t_wzip3, t_astar, t_par3, t_dnew, t_dlist, t_dput, t_dget2, t_din, t_lenScr, t_raise1, t_callX, t_callKX, t_xf, t_isx, runX, t_seq, t_if, t_or, t_and, t_not, t_tst, t_v, t_f, t_l, t_c, t_c1, t_op, t_chain', t_ret, t_asg, t_for, t_wenum, t_wlist, t_wtup, t_wstr, t_wrng1, t_wrng2, t_drop, g_setix, t_wzip, t_lname, t_name, t_next, t_ifx, t_isi, t_notV, t_andV, t_orV, t_call, t_callK, t_acons, t_aconsR, t_anil, t_tupd, t_lstd, g_name, g_tup, g_cons, g_nil, t_drop, t_lc, t_yes, t_star1, t_retn, t_par, t_slice, t_some, t_no, t_dict0, t_rev, t_neg, t_extend, t_append, t_sliceScr, t_retbox, t_xcons, LV.get, CS.at_, SV.view, datsOf, Option.map_some, List.getElem?_cons_zero, List.getElem?_cons_succ, List.set_cons_zero, List.set_cons_succ, settled, initC, List.map_cons, List.map_nil, List.length_cons, List.length_nil, List.cons_append, List.nil_append, seqOf, runD, ltZ, inY, notinY, ixG, lenY, mulZ, max2X, min2X, isY, isnY, sortedX, ltY, gtY, inX, notinX, ordX, boolX, addX, subX, mulX, mulY, modX, fdivX, powX, ltX, leX, gtX, geX, eqY, neY, eqX, neX, isX, isnX, ixX, lenX, listX, tupleX, intX, strX, shX, sumX, sumY, maxX, minX, allX, absX, slX]
        refine ⟨by show 1 < 2; decide, ⟨_, rfl⟩, c, rfl, ?_⟩
        rw [inX_letter]
        by_cases hc : 97 ≤ c ∧ c ≤ 122
        · rw [decide_eq_true hc]; exact iteF (h2 (by simp [hc]))
        · rw [decide_eq_false hc]; exact iteT (h1 (by simp [hc]))
      · refine ⟨Nat.zero_le _, ones_ok _, shp_nil.ok, ?_⟩
        rw [List.nil_append, eqv_nil, none_left (fun c => decide (97 ≤ c ∧ c ≤ 122))]
        have : plainB (.str z) = (z.cps.toList.all fun c => decide (97 ≤ c ∧ c ≤ 122)) := by
          simp only [plainB, lowS, decide_eq_true l0, decide_eq_true l8, Bool.true_and]
        rw [this] at h
        exact h
  | _ => exact iteF ⟨⟨_, rfl⟩, iteF ⟨⟨_, rfl⟩, h⟩⟩
theorem lvalue_spec (d : PyData) (hs : Short d) (hi : ∀ ds, d = .tuple ds → ∀ x ∈ ds, Short x) {Q : SV → Prop} (h : Q (.dat (.bool (valueB d)))) : C__law_is_value [.dat d] Q := by
  refine ⟨rfl, ?_⟩
  show T__law_is_value _ [some (.dat d), none]
  dsimp only [T__law_is_value, t_wany, seqY, t_wzipT, seqT, t_gd0, t_disp, t_pcons, t_pnil, t_retdbox, t_dictP, t_sortK, t_callB, t_dnew1, t_pop, t_lenset, t_wseq, t_wzip3, t_astar, t_par3, t_dnew, t_dlist, t_dput, t_dget2, t_din, t_lenScr, t_raise1, t_callX, t_callKX, t_xf, t_isx, runX, t_seq, t_if, t_or, t_and, t_not, t_tst, t_v, t_f, t_l, t_c, t_c1, t_op, t_chain', t_ret, t_asg, t_for, t_wenum, t_wlist, t_wtup, t_wstr, t_wrng1, t_wrng2, t_drop, g_setix, t_wzip, t_lname, t_name, t_next, t_ifx, t_isi, t_notV, t_andV, t_orV, t_call, t_callK, t_acons, t_aconsR, t_anil, t_tupd, t_lstd, g_name, g_tup, g_cons, g_nil, t_drop, t_lc, t_yes, t_star1, t_retn, t_par, t_slice, t_some, t_no, t_dict0, t_rev, t_neg, t_extend, t_append, t_sliceScr, t_retbox, t_xcons, LV.get, CS.at_, SV.view, datsOf, Option.map_some, List.getElem?_cons_zero, List.getElem?_cons_succ, List.set_cons_zero, List.set_cons_succ, settled, initC, List.map_cons, List.map_nil, List.length_cons, List.length_nil, List.cons_append, List.nil_append, seqOf, runD, ltZ, inY, notinY, ixG, lenY, mulZ, max2X, min2X, isY, isnY, sortedX, ltY, gtY, inX, notinX, ordX, boolX, addX, subX, mulX, mulY, modX, fdivX, powX, ltX, leX, gtX, geX, eqY, neY, eqX, neX, isX, isnX, ixX, lenX, listX, tupleX, intX, strX, shX, sumX, sumY, maxX, minX, allX, absX, slX]
  refine ⟨⟨_, rfl⟩, ?_⟩
  cases d with
  | tuple ds =>
    refine iteF ⟨⟨_, rfl⟩, ?_⟩
    dsimp only
    by_cases h0 : (0 : Int) < ds.length
    · rw [decide_eq_true h0]
      refine ⟨⟨_, rfl⟩, ?_⟩
      by_cases h1 : (ds.length : Int) < 5
      · rw [decide_eq_true h1]
        refine lcD_filter (fun x => !plainB x) (fun _ => .int 1) _ _ _ ?_ (fun x hx K N h1 h2 => ?_) ?_
        · rw [sizeLine_eq]; simp; omega
        · dsimp only [t_wany, seqY, t_wzipT, seqT, t_gd0, t_disp, t_pcons, t_pnil, t_retdbox, t_dictP, t_sortK, t_callB, t_dnew1, t_pop, t_lenset, t_wseq, t_wzip3, t_astar, t_par3, t_dnew, t_dlist, t_dput, t_dget2, t_din, t_lenScr, t_raise1, t_callX, t_callKX, t_xf, t_isx, runX, t_seq, t_if, t_or, t_and, t_not, t_tst, t_v, t_f, t_l, t_c, t_c1, t_op, t_chain', t_ret, t_asg, t_for, t_wenum, t_wlist, t_wtup, t_wstr, t_wrng1, t_wrng2, t_drop, g_setix, t_wzip, t_lname, t_name, t_next, t_ifx, t_isi, t_notV, t_andV, t_orV, t_call, t_callK, t_acons, t_aconsR, t_anil, t_tupd, t_lstd, g_name, g_tup, g_cons, g_nil, t_drop, t_lc, t_yes, t_star1, t_retn, t_par, t_slice, t_some, t_no, t_dict0, t_rev, t_neg, t_extend, t_append, t_sliceScr, t_retbox, t_xcons, LV.get, CS.at_, SV.view, datsOf, Option.map_some, List.getElem?_cons_zero, List.getElem?_cons_succ, List.set_cons_zero, List.set_cons_succ, settled, initC, List.map_cons, List.map_nil, List.length_cons, List.length_nil, List.cons_append, List.nil_append, seqOf, runD, ltZ, inY, notinY, ixG, lenY, mulZ, max2X, min2X, isY, isnY, sortedX, ltY, gtY, inX, notinX, ordX, boolX, addX, subX, mulX, mulY, modX, fdivX, powX, ltX, leX, gtX, geX, eqY, neY, eqX, neX, isX, isnX, ixX, lenX, listX, tupleX, intX, strX, shX, sumX, sumY, maxX, minX, allX, absX, slX]
          refine ⟨by show 1 < 2; decide, lplain_spec x (hi ds rfl x hx) ?_⟩
          dsimp only
          cases e : plainB x with
          | true => exact iteF (h2 (by simp [e]))
          | false => exact iteT (h1 (by simp [e]))
        · refine ⟨Nat.zero_le _, ones_ok _, shp_nil.ok, ?_⟩
          rw [List.nil_append, eqv_nil, none_left]
          have : valueB (.tuple ds) = ds.all plainB := by
            simp only [valueB, decide_eq_true (show 1 ≤ ds.length by omega), decide_eq_true (show ds.length ≤ 4 by omega), Bool.true_and]
          rw [this] at h
          exact h
      · rw [decide_eq_false h1]
        have : valueB (.tuple ds) = false := by simp only [valueB]; rw [Bool.and_eq_false_imp]; intro e; simp only [Bool.and_eq_true, decide_eq_true_eq] at e; omega
        rw [this] at h
        exact h
    · rw [decide_eq_false h0]
      have : valueB (.tuple ds) = false := by simp only [valueB]; rw [Bool.and_eq_false_imp]; intro e; simp only [Bool.and_eq_true, decide_eq_true_eq] at e; omega
      rw [this] at h
      exact h
  | _ => exact iteT (lplain_spec _ hs h)
theorem _root_.Cl.Tm.cons2 {W V D : Nat} {a b : PyData} (h : Tm W D a) (h2 : Tm V D b) : TmA (W + 1 + (V + 1 + 0)) D [a, b] := TmA.cons h (TmA.cons h2 TmA.nil)
theorem judged_spec {d : PyData} (b : Bool) (ht : Tm 300 8 d) (hs : Short d) (hi : ∀ ds, d = .tuple ds → ∀ x ∈ ds, Short x) {Q : SV → Prop} (h : Q (.dat (.bool true))) : C__law_is_judged [.dat d, .dat (.bool b)] Q := by
  refine ⟨rfl, ?_⟩
  show T__law_is_judged _ [some (.dat d), some (.dat (.bool b)), none, none]
  refine seq_step (fun cs' => cs' = [some (.dat d), some (.dat (.bool b)), some (.dat (.str d.shown)), none]) (fun N hN => ?_) ?_
  · dsimp only [t_wany, seqY, t_wzipT, seqT, t_gd0, t_disp, t_pcons, t_pnil, t_retdbox, t_dictP, t_sortK, t_callB, t_dnew1, t_pop, t_lenset, t_wseq, t_wzip3, t_astar, t_par3, t_dnew, t_dlist, t_dput, t_dget2, t_din, t_lenScr, t_raise1, t_callX, t_callKX, t_xf, t_isx, runX, t_seq, t_if, t_or, t_and, t_not, t_tst, t_v, t_f, t_l, t_c, t_c1, t_op, t_chain', t_ret, t_asg, t_for, t_wenum, t_wlist, t_wtup, t_wstr, t_wrng1, t_wrng2, t_drop, g_setix, t_wzip, t_lname, t_name, t_next, t_ifx, t_isi, t_notV, t_andV, t_orV, t_call, t_callK, t_acons, t_aconsR, t_anil, t_tupd, t_lstd, g_name, g_tup, g_cons, g_nil, t_drop, t_lc, t_yes, t_star1, t_retn, t_par, t_slice, t_some, t_no, t_dict0, t_rev, t_neg, t_extend, t_append, t_sliceScr, t_retbox, t_xcons, LV.get, CS.at_, SV.view, datsOf, Option.map_some, List.getElem?_cons_zero, List.getElem?_cons_succ, List.set_cons_zero, List.set_cons_succ, settled, initC, List.map_cons, List.map_nil, List.length_cons, List.length_nil, List.cons_append, List.nil_append, seqOf, runD, ltZ, inY, notinY, ixG, lenY, mulZ, max2X, min2X, isY, isnY, sortedX, ltY, gtY, inX, notinX, ordX, boolX, addX, subX, mulX, mulY, modX, fdivX, powX, ltX, leX, gtX, geX, eqY, neY, eqX, neX, isX, isnX, ixX, lenX, listX, tupleX, intX, strX, shX, sumX, sumY, maxX, minX, allX, absX, slX]
    exact ⟨⟨_, rfl⟩, ht.ok, by show 2 < 4; decide, hN _ rfl⟩
  rintro cs rfl
  refine seq_step (fun cs' => cs' = [some (.dat d), some (.dat (.bool b)), some (.dat (.str d.shown)), some (.dat (.bool (valueB d)))]) (fun N hN => ?_) ?_
  · dsimp only [t_wany, seqY, t_wzipT, seqT, t_gd0, t_disp, t_pcons, t_pnil, t_retdbox, t_dictP, t_sortK, t_callB, t_dnew1, t_pop, t_lenset, t_wseq, t_wzip3, t_astar, t_par3, t_dnew, t_dlist, t_dput, t_dget2, t_din, t_lenScr, t_raise1, t_callX, t_callKX, t_xf, t_isx, runX, t_seq, t_if, t_or, t_and, t_not, t_tst, t_v, t_f, t_l, t_c, t_c1, t_op, t_chain', t_ret, t_asg, t_for, t_wenum, t_wlist, t_wtup, t_wstr, t_wrng1, t_wrng2, t_drop, g_setix, t_wzip, t_lname, t_name, t_next, t_ifx, t_isi, t_notV, t_andV, t_orV, t_call, t_callK, t_acons, t_aconsR, t_anil, t_tupd, t_lstd, g_name, g_tup, g_cons, g_nil, t_drop, t_lc, t_yes, t_star1, t_retn, t_par, t_slice, t_some, t_no, t_dict0, t_rev, t_neg, t_extend, t_append, t_sliceScr, t_retbox, t_xcons, LV.get, CS.at_, SV.view, datsOf, Option.map_some, List.getElem?_cons_zero, List.getElem?_cons_succ, List.set_cons_zero, List.set_cons_succ, settled, initC, List.map_cons, List.map_nil, List.length_cons, List.length_nil, List.cons_append, List.nil_append, seqOf, runD, ltZ, inY, notinY, ixG, lenY, mulZ, max2X, min2X, isY, isnY, sortedX, ltY, gtY, inX, notinX, ordX, boolX, addX, subX, mulX, mulY, modX, fdivX, powX, ltX, leX, gtX, geX, eqY, neY, eqX, neX, isX, isnX, ixX, lenX, listX, tupleX, intX, strX, shX, sumX, sumY, maxX, minX, allX, absX, slX]
    cases b with
    | true => exact iteT ⟨⟨rfl, rfl⟩, isvalue_spec d hs hi ⟨by show 3 < 4; decide, hN _ rfl⟩⟩
    | false => exact iteF (isvalue_spec d hs hi ⟨by show 3 < 4; decide, hN _ rfl⟩)
  rintro cs rfl
  dsimp only [t_wany, seqY, t_wzipT, seqT, t_gd0, t_disp, t_pcons, t_pnil, t_retdbox, t_dictP, t_sortK, t_callB, t_dnew1, t_pop, t_lenset, t_wseq, t_wzip3, t_astar, t_par3, t_dnew, t_dlist, t_dput, t_dget2, t_din, t_lenScr, t_raise1, t_callX, t_callKX, t_xf, t_isx, runX, t_seq, t_if, t_or, t_and, t_not, t_tst, t_v, t_f, t_l, t_c, t_c1, t_op, t_chain', t_ret, t_asg, t_for, t_wenum, t_wlist, t_wtup, t_wstr, t_wrng1, t_wrng2, t_drop, g_setix, t_wzip, t_lname, t_name, t_next, t_ifx, t_isi, t_notV, t_andV, t_orV, t_call, t_callK, t_acons, t_aconsR, t_anil, t_tupd, t_lstd, g_name, g_tup, g_cons, g_nil, t_drop, t_lc, t_yes, t_star1, t_retn, t_par, t_slice, t_some, t_no, t_dict0, t_rev, t_neg, t_extend, t_append, t_sliceScr, t_retbox, t_xcons, LV.get, CS.at_, SV.view, datsOf, Option.map_some, List.getElem?_cons_zero, List.getElem?_cons_succ, List.set_cons_zero, List.set_cons_succ, settled, initC, List.map_cons, List.map_nil, List.length_cons, List.length_nil, List.cons_append, List.nil_append, seqOf, runD, ltZ, inY, notinY, ixG, lenY, mulZ, max2X, min2X, isY, isnY, sortedX, ltY, gtY, inX, notinX, ordX, boolX, addX, subX, mulX, mulY, modX, fdivX, powX, ltX, leX, gtX, geX, eqY, neY, eqX, neX, isX, isnX, ixX, lenX, listX, tupleX, intX, strX, shX, sumX, sumY, maxX, minX, allX, absX, slX]
  have ok : shOk (.list [.bool (valueB d), .str d.shown]) := ((Tm.cons2 (Va.tm_bool (valueB d)) (Va.Tm.text ht)).lst).ok (by decide) (by decide)
  refine ⟨⟨_, rfl⟩, ht.ok, by decide, ok, ?_⟩
  refine lvalue_spec d hs hi ?_
  refine ⟨by decide, ok, ?_⟩
  rw [decide_eq_true rfl]
  exact h
end Lk

namespace Lk
open PySem PySem.Spec PyProof.Rows L2 Cl Va
/-! ranks -/
theorem rankP_spec {n : Nat} {d : PyData} (hd : Pl d) {Q : SV → Prop} (h : Q (.dat (rkP d))) : C_value_rank (n + 1) [.dat d] Q := by
  refine ⟨rfl, ?_⟩
  show T_value_rank _ _ [some (.dat d), none]
  dsimp only [T_value_rank, t_wany, seqY, t_wzipT, seqT, t_gd0, t_disp, t_pcons, t_pnil, t_retdbox, t_dictP, t_sortK, t_callB, t_dnew1, t_pop, t_lenset, t_wseq, t_wzip3, t_astar, t_par3, t_dnew, t_dlist, t_dput, t_dget2, t_din, t_lenScr, t_raise1, t_callX, t_callKX, t_xf, t_isx, runX, t_seq, t_if, t_or, t_and, t_not, t_tst, t_v, t_f, t_l, t_c, t_c1, t_op, t_chain', t_ret, t_asg, t_for, t_wenum, t_wlist, t_wtup, t_wstr, t_wrng1, t_wrng2, t_drop, g_setix, t_wzip, t_lname, t_name, t_next, t_ifx, t_isi, t_notV, t_andV, t_orV, t_call, t_callK, t_acons, t_aconsR, t_anil, t_tupd, t_lstd, g_name, g_tup, g_cons, g_nil, t_drop, t_lc, t_yes, t_star1, t_retn, t_par, t_slice, t_some, t_no, t_dict0, t_rev, t_neg, t_extend, t_append, t_sliceScr, t_retbox, t_xcons, LV.get, CS.at_, SV.view, datsOf, Option.map_some, List.getElem?_cons_zero, List.getElem?_cons_succ, List.set_cons_zero, List.set_cons_succ, settled, initC, List.map_cons, List.map_nil, List.length_cons, List.length_nil, List.cons_append, List.nil_append, seqOf, runD, ltZ, inY, notinY, ixG, lenY, mulZ, max2X, min2X, isY, isnY, sortedX, ltY, gtY, inX, notinX, ordX, boolX, addX, subX, mulX, mulY, modX, fdivX, powX, ltX, leX, gtX, geX, eqY, neY, eqX, neX, isX, isnX, ixX, lenX, listX, tupleX, intX, strX, shX, sumX, sumY, maxX, minX, allX, absX, slX]
  refine ⟨⟨_, rfl⟩, ?_⟩
  cases hd with
  | int => exact iteF ⟨⟨_, rfl⟩, iteF ⟨by decide, h⟩⟩
  | str => exact iteF ⟨⟨_, rfl⟩, iteT ⟨by decide, h⟩⟩
theorem rank_spec {n : Nat} {d : PyData} (hd : Vl d) {Q : SV → Prop} (h : Q (.dat (rk d))) : C_value_rank (n + 2) [.dat d] Q := by
  cases hd with
  | plain hd => rw [hd.rk] at h; exact rankP_spec hd h
  | @tup ds h0 h1 hp =>
    refine ⟨rfl, ?_⟩
    show T_value_rank _ _ [some (.dat (.tuple ds)), none]
    dsimp only [T_value_rank, t_wany, seqY, t_wzipT, seqT, t_gd0, t_disp, t_pcons, t_pnil, t_retdbox, t_dictP, t_sortK, t_callB, t_dnew1, t_pop, t_lenset, t_wseq, t_wzip3, t_astar, t_par3, t_dnew, t_dlist, t_dput, t_dget2, t_din, t_lenScr, t_raise1, t_callX, t_callKX, t_xf, t_isx, runX, t_seq, t_if, t_or, t_and, t_not, t_tst, t_v, t_f, t_l, t_c, t_c1, t_op, t_chain', t_ret, t_asg, t_for, t_wenum, t_wlist, t_wtup, t_wstr, t_wrng1, t_wrng2, t_drop, g_setix, t_wzip, t_lname, t_name, t_next, t_ifx, t_isi, t_notV, t_andV, t_orV, t_call, t_callK, t_acons, t_aconsR, t_anil, t_tupd, t_lstd, g_name, g_tup, g_cons, g_nil, t_drop, t_lc, t_yes, t_star1, t_retn, t_par, t_slice, t_some, t_no, t_dict0, t_rev, t_neg, t_extend, t_append, t_sliceScr, t_retbox, t_xcons, LV.get, CS.at_, SV.view, datsOf, Option.map_some, List.getElem?_cons_zero, List.getElem?_cons_succ, List.set_cons_zero, List.set_cons_succ, settled, initC, List.map_cons, List.map_nil, List.length_cons, List.length_nil, List.cons_append, List.nil_append, seqOf, runD, ltZ, inY, notinY, ixG, lenY, mulZ, max2X, min2X, isY, isnY, sortedX, ltY, gtY, inX, notinX, ordX, boolX, addX, subX, mulX, mulY, modX, fdivX, powX, ltX, leX, gtX, geX, eqY, neY, eqX, neX, isX, isnX, ixX, lenX, listX, tupleX, intX, strX, shX, sumX, sumY, maxX, minX, allX, absX, slX]
    refine ⟨⟨_, rfl⟩, iteT ?_⟩
    refine lcD_map rkP _ _ ?_ (fun x hx K N hK => ?_) ?_
    · rw [sizeLine_eq]; omega
    · dsimp only [t_wany, seqY, t_wzipT, seqT, t_gd0, t_disp, t_pcons, t_pnil, t_retdbox, t_dictP, t_sortK, t_callB, t_dnew1, t_pop, t_lenset, t_wseq, t_wzip3, t_astar, t_par3, t_dnew, t_dlist, t_dput, t_dget2, t_din, t_lenScr, t_raise1, t_callX, t_callKX, t_xf, t_isx, runX, t_seq, t_if, t_or, t_and, t_not, t_tst, t_v, t_f, t_l, t_c, t_c1, t_op, t_chain', t_ret, t_asg, t_for, t_wenum, t_wlist, t_wtup, t_wstr, t_wrng1, t_wrng2, t_drop, g_setix, t_wzip, t_lname, t_name, t_next, t_ifx, t_isi, t_notV, t_andV, t_orV, t_call, t_callK, t_acons, t_aconsR, t_anil, t_tupd, t_lstd, g_name, g_tup, g_cons, g_nil, t_drop, t_lc, t_yes, t_star1, t_retn, t_par, t_slice, t_some, t_no, t_dict0, t_rev, t_neg, t_extend, t_append, t_sliceScr, t_retbox, t_xcons, LV.get, CS.at_, SV.view, datsOf, Option.map_some, List.getElem?_cons_zero, List.getElem?_cons_succ, List.set_cons_zero, List.set_cons_succ, settled, initC, List.map_cons, List.map_nil, List.length_cons, List.length_nil, List.cons_append, List.nil_append, seqOf, runD, ltZ, inY, notinY, ixG, lenY, mulZ, max2X, min2X, isY, isnY, sortedX, ltY, gtY, inX, notinX, ordX, boolX, addX, subX, mulX, mulY, modX, fdivX, powX, ltX, leX, gtX, geX, eqY, neY, eqX, neX, isX, isnX, ixX, lenX, listX, tupleX, intX, strX, shX, sumX, sumY, maxX, minX, allX, absX, slX]
      exact ⟨by show 1 < 2; decide, iteT (rankP_spec (hp x hx) hK)⟩
    · exact ⟨by decide, h⟩
/-! the law's looks -/
theorem kind_spec {d : PyData} (hd : Vl d) {Q : SV → Prop} (h : Q (.dat (.int (kd d : Nat)))) : C__law_kind [.dat d] Q := by
  refine ⟨rfl, ?_⟩
  show T__law_kind _ [some (.dat d)]
  dsimp only [T__law_kind, t_wany, seqY, t_wzipT, seqT, t_gd0, t_disp, t_pcons, t_pnil, t_retdbox, t_dictP, t_sortK, t_callB, t_dnew1, t_pop, t_lenset, t_wseq, t_wzip3, t_astar, t_par3, t_dnew, t_dlist, t_dput, t_dget2, t_din, t_lenScr, t_raise1, t_callX, t_callKX, t_xf, t_isx, runX, t_seq, t_if, t_or, t_and, t_not, t_tst, t_v, t_f, t_l, t_c, t_c1, t_op, t_chain', t_ret, t_asg, t_for, t_wenum, t_wlist, t_wtup, t_wstr, t_wrng1, t_wrng2, t_drop, g_setix, t_wzip, t_lname, t_name, t_next, t_ifx, t_isi, t_notV, t_andV, t_orV, t_call, t_callK, t_acons, t_aconsR, t_anil, t_tupd, t_lstd, g_name, g_tup, g_cons, g_nil, t_drop, t_lc, t_yes, t_star1, t_retn, t_par, t_slice, t_some, t_no, t_dict0, t_rev, t_neg, t_extend, t_append, t_sliceScr, t_retbox, t_xcons, LV.get, CS.at_, SV.view, datsOf, Option.map_some, List.getElem?_cons_zero, List.getElem?_cons_succ, List.set_cons_zero, List.set_cons_succ, settled, initC, List.map_cons, List.map_nil, List.length_cons, List.length_nil, List.cons_append, List.nil_append, seqOf, runD, ltZ, inY, notinY, ixG, lenY, mulZ, max2X, min2X, isY, isnY, sortedX, ltY, gtY, inX, notinX, ordX, boolX, addX, subX, mulX, mulY, modX, fdivX, powX, ltX, leX, gtX, geX, eqY, neY, eqX, neX, isX, isnX, ixX, lenX, listX, tupleX, intX, strX, shX, sumX, sumY, maxX, minX, allX, absX, slX]
  refine ⟨⟨_, rfl⟩, ?_⟩
  cases hd with
  | plain hd =>
    cases hd with
    | int => exact iteT h
    | str => exact iteF ⟨⟨_, rfl⟩, iteT h⟩
  | tup => exact iteF ⟨⟨_, rfl⟩, iteF h⟩
theorem lrankP_spec {n : Nat} {d : PyData} (hd : Pl d) {Q : SV → Prop} (h : Q (.dat (rkP d))) : C__law_rank (n + 1) [.dat d] Q := by
  refine ⟨rfl, ?_⟩
  show T__law_rank _ _ [some (.dat d), none]
  dsimp only [T__law_rank, t_wany, seqY, t_wzipT, seqT, t_gd0, t_disp, t_pcons, t_pnil, t_retdbox, t_dictP, t_sortK, t_callB, t_dnew1, t_pop, t_lenset, t_wseq, t_wzip3, t_astar, t_par3, t_dnew, t_dlist, t_dput, t_dget2, t_din, t_lenScr, t_raise1, t_callX, t_callKX, t_xf, t_isx, runX, t_seq, t_if, t_or, t_and, t_not, t_tst, t_v, t_f, t_l, t_c, t_c1, t_op, t_chain', t_ret, t_asg, t_for, t_wenum, t_wlist, t_wtup, t_wstr, t_wrng1, t_wrng2, t_drop, g_setix, t_wzip, t_lname, t_name, t_next, t_ifx, t_isi, t_notV, t_andV, t_orV, t_call, t_callK, t_acons, t_aconsR, t_anil, t_tupd, t_lstd, g_name, g_tup, g_cons, g_nil, t_drop, t_lc, t_yes, t_star1, t_retn, t_par, t_slice, t_some, t_no, t_dict0, t_rev, t_neg, t_extend, t_append, t_sliceScr, t_retbox, t_xcons, LV.get, CS.at_, SV.view, datsOf, Option.map_some, List.getElem?_cons_zero, List.getElem?_cons_succ, List.set_cons_zero, List.set_cons_succ, settled, initC, List.map_cons, List.map_nil, List.length_cons, List.length_nil, List.cons_append, List.nil_append, seqOf, runD, ltZ, inY, notinY, ixG, lenY, mulZ, max2X, min2X, isY, isnY, sortedX, ltY, gtY, inX, notinX, ordX, boolX, addX, subX, mulX, mulY, modX, fdivX, powX, ltX, leX, gtX, geX, eqY, neY, eqX, neX, isX, isnX, ixX, lenX, listX, tupleX, intX, strX, shX, sumX, sumY, maxX, minX, allX, absX, slX]
  refine kind_spec hd.vl ?_
  cases hd with
  | int => exact iteT (kind_spec (.plain (.int ‹_› ‹_›)) ⟨by decide, h⟩)
  | str p q r => exact iteT (kind_spec (.plain (.str p q r)) ⟨by decide, h⟩)
theorem lrank_spec {n : Nat} {d : PyData} (hd : Vl d) {Q : SV → Prop} (h : Q (.dat (rk d))) : C__law_rank (n + 2) [.dat d] Q := by
  cases hd with
  | plain hd => rw [hd.rk] at h; exact lrankP_spec hd h
  | @tup ds h0 h1 hp =>
    refine ⟨rfl, ?_⟩
    show T__law_rank _ _ [some (.dat (.tuple ds)), none]
    dsimp only [T__law_rank, t_wany, seqY, t_wzipT, seqT, t_gd0, t_disp, t_pcons, t_pnil, t_retdbox, t_dictP, t_sortK, t_callB, t_dnew1, t_pop, t_lenset, t_wseq, t_wzip3, t_astar, t_par3, t_dnew, t_dlist, t_dput, t_dget2, t_din, t_lenScr, t_raise1, t_callX, t_callKX, t_xf, t_isx, runX, t_seq, t_if, t_or, t_and, t_not, t_tst, t_v, t_f, t_l, t_c, t_c1, t_op, t_chain', t_ret, t_asg, t_for, t_wenum, t_wlist, t_wtup, t_wstr, t_wrng1, t_wrng2, t_drop, g_setix, t_wzip, t_lname, t_name, t_next, t_ifx, t_isi, t_notV, t_andV, t_orV, t_call, t_callK, t_acons, t_aconsR, t_anil, t_tupd, t_lstd, g_name, g_tup, g_cons, g_nil, t_drop, t_lc, t_yes, t_star1, t_retn, t_par, t_slice, t_some, t_no, t_dict0, t_rev, t_neg, t_extend, t_append, t_sliceScr, t_retbox, t_xcons, LV.get, CS.at_, SV.view, datsOf, Option.map_some, List.getElem?_cons_zero, List.getElem?_cons_succ, List.set_cons_zero, List.set_cons_succ, settled, initC, List.map_cons, List.map_nil, List.length_cons, List.length_nil, List.cons_append, List.nil_append, seqOf, runD, ltZ, inY, notinY, ixG, lenY, mulZ, max2X, min2X, isY, isnY, sortedX, ltY, gtY, inX, notinX, ordX, boolX, addX, subX, mulX, mulY, modX, fdivX, powX, ltX, leX, gtX, geX, eqY, neY, eqX, neX, isX, isnX, ixX, lenX, listX, tupleX, intX, strX, shX, sumX, sumY, maxX, minX, allX, absX, slX]
    refine kind_spec (.tup h0 h1 hp) ?_
    refine iteF ?_
    refine lcD_map rkP _ _ ?_ (fun x hx K N hK => ?_) ?_
    · rw [sizeLine_eq]; omega
    · dsimp only [t_wany, seqY, t_wzipT, seqT, t_gd0, t_disp, t_pcons, t_pnil, t_retdbox, t_dictP, t_sortK, t_callB, t_dnew1, t_pop, t_lenset, t_wseq, t_wzip3, t_astar, t_par3, t_dnew, t_dlist, t_dput, t_dget2, t_din, t_lenScr, t_raise1, t_callX, t_callKX, t_xf, t_isx, runX, t_seq, t_if, t_or, t_and, t_not, t_tst, t_v, t_f, t_l, t_c, t_c1, t_op, t_chain', t_ret, t_asg, t_for, t_wenum, t_wlist, t_wtup, t_wstr, t_wrng1, t_wrng2, t_drop, g_setix, t_wzip, t_lname, t_name, t_next, t_ifx, t_isi, t_notV, t_andV, t_orV, t_call, t_callK, t_acons, t_aconsR, t_anil, t_tupd, t_lstd, g_name, g_tup, g_cons, g_nil, t_drop, t_lc, t_yes, t_star1, t_retn, t_par, t_slice, t_some, t_no, t_dict0, t_rev, t_neg, t_extend, t_append, t_sliceScr, t_retbox, t_xcons, LV.get, CS.at_, SV.view, datsOf, Option.map_some, List.getElem?_cons_zero, List.getElem?_cons_succ, List.set_cons_zero, List.set_cons_succ, settled, initC, List.map_cons, List.map_nil, List.length_cons, List.length_nil, List.cons_append, List.nil_append, seqOf, runD, ltZ, inY, notinY, ixG, lenY, mulZ, max2X, min2X, isY, isnY, sortedX, ltY, gtY, inX, notinX, ordX, boolX, addX, subX, mulX, mulY, modX, fdivX, powX, ltX, leX, gtX, geX, eqY, neY, eqX, neX, isX, isnX, ixX, lenX, listX, tupleX, intX, strX, shX, sumX, sumY, maxX, minX, allX, absX, slX]
      exact ⟨by show 1 < 2; decide, iteT (lrankP_spec (hp x hx) hK)⟩
    · exact ⟨by decide, h⟩
def slt (xs ys : List Nat) : Bool := decide (xs < ys)
theorem signs_zip : ∀ xs ys : List Nat, rowsD (zipRs (xs.map fun c => PyData.str ⟨#[c]⟩) (ys.map fun c => PyData.str ⟨#[c]⟩)) = (xs.zip ys).map fun p => PyData.tuple [.str ⟨#[p.1]⟩, .str ⟨#[p.2]⟩] := fun xs ys => zip_rows _ _ xs ys
theorem slt_nil {ys : List Nat} : slt [] ys = decide (0 < ys.length) := by
  unfold slt
  cases ys <;> simp
theorem slt_nil2 {xs : List Nat} : slt xs [] = false := by
  unfold slt
  simp
theorem slt_cons {x y : Nat} {xs ys : List Nat} : slt (x :: xs) (y :: ys) = if x = y then slt xs ys else decide (x < y) := by
  unfold slt
  by_cases h : x = y
  · subst h
    rw [if_pos rfl]
    simp [List.cons_lt_cons_iff]
  · rw [if_neg h]
    simp [List.cons_lt_cons_iff, h]
theorem str_one {a b : Nat} : (⟨#[a]⟩ : Str) = ⟨#[b]⟩ ↔ a = b := by
  constructor
  · intro h
    have := congrArg (fun z : Str => z.cps) h
    simpa using this
  · rintro rfl; rfl
theorem aheadP_spec {n : Nat} {x y : PyData} (hx : Pl x) (hy : Pl y) {Q : SV → Prop} (h : Q (.dat (.bool (vlt x y)))) : C__law_is_ahead (n + 1) [.dat x, .dat y] Q := by
  refine ⟨rfl, ?_⟩
  show T__law_is_ahead _ _ [some (.dat x), some (.dat y), none, none]
  refine seq_step (fun cs' => kd x = kd y ∧ cs' = [some (.dat x), some (.dat y), none, none]) (fun N hN => ?_) ?_
  · dsimp only [t_wany, seqY, t_wzipT, seqT, t_gd0, t_disp, t_pcons, t_pnil, t_retdbox, t_dictP, t_sortK, t_callB, t_dnew1, t_pop, t_lenset, t_wseq, t_wzip3, t_astar, t_par3, t_dnew, t_dlist, t_dput, t_dget2, t_din, t_lenScr, t_raise1, t_callX, t_callKX, t_xf, t_isx, runX, t_seq, t_if, t_or, t_and, t_not, t_tst, t_v, t_f, t_l, t_c, t_c1, t_op, t_chain', t_ret, t_asg, t_for, t_wenum, t_wlist, t_wtup, t_wstr, t_wrng1, t_wrng2, t_drop, g_setix, t_wzip, t_lname, t_name, t_next, t_ifx, t_isi, t_notV, t_andV, t_orV, t_call, t_callK, t_acons, t_aconsR, t_anil, t_tupd, t_lstd, g_name, g_tup, g_cons, g_nil, t_drop, t_lc, t_yes, t_star1, t_retn, t_par, t_slice, t_some, t_no, t_dict0, t_rev, t_neg, t_extend, t_append, t_sliceScr, t_retbox, t_xcons, LV.get, CS.at_, SV.view, datsOf, Option.map_some, List.getElem?_cons_zero, List.getElem?_cons_succ, List.set_cons_zero, List.set_cons_succ, settled, initC, List.map_cons, List.map_nil, List.length_cons, List.length_nil, List.cons_append, List.nil_append, seqOf, runD, ltZ, inY, notinY, ixG, lenY, mulZ, max2X, min2X, isY, isnY, sortedX, ltY, gtY, inX, notinX, ordX, boolX, addX, subX, mulX, mulY, modX, fdivX, powX, ltX, leX, gtX, geX, eqY, neY, eqX, neX, isX, isnX, ixX, lenX, listX, tupleX, intX, strX, shX, sumX, sumY, maxX, minX, allX, absX, slX]
    refine kind_spec hx.vl (kind_spec hy.vl ?_)
    dsimp only
    by_cases e : kd x = kd y
    · rw [e]
      rw [decide_eq_true rfl]
      exact iteF (hN _ ⟨e, rfl⟩)
    · rw [decide_eq_false (by omega)]
      refine iteT (kind_spec hx.vl (kind_spec hy.vl ?_))
      dsimp only
      rw [vlt_kd hx.vl hy.vl e] at h
      rw [show decide (((kd x : Nat) : Int) < ((kd y : Nat) : Int)) = decide (kd x < kd y) from decide_eq_decide.mpr (by omega)]
      exact h
  rintro cs ⟨e, rfl⟩
  cases hx with
  | @int i =>
    cases hy with
    | @int j =>
      dsimp only [t_wany, seqY, t_wzipT, seqT, t_gd0, t_disp, t_pcons, t_pnil, t_retdbox, t_dictP, t_sortK, t_callB, t_dnew1, t_pop, t_lenset, t_wseq, t_wzip3, t_astar, t_par3, t_dnew, t_dlist, t_dput, t_dget2, t_din, t_lenScr, t_raise1, t_callX, t_callKX, t_xf, t_isx, runX, t_seq, t_if, t_or, t_and, t_not, t_tst, t_v, t_f, t_l, t_c, t_c1, t_op, t_chain', t_ret, t_asg, t_for, t_wenum, t_wlist, t_wtup, t_wstr, t_wrng1, t_wrng2, t_drop, g_setix, t_wzip, t_lname, t_name, t_next, t_ifx, t_isi, t_notV, t_andV, t_orV, t_call, t_callK, t_acons, t_aconsR, t_anil, t_tupd, t_lstd, g_name, g_tup, g_cons, g_nil, t_drop, t_lc, t_yes, t_star1, t_retn, t_par, t_slice, t_some, t_no, t_dict0, t_rev, t_neg, t_extend, t_append, t_sliceScr, t_retbox, t_xcons, LV.get, CS.at_, SV.view, datsOf, Option.map_some, List.getElem?_cons_zero, List.getElem?_cons_succ, List.set_cons_zero, List.set_cons_succ, settled, initC, List.map_cons, List.map_nil, List.length_cons, List.length_nil, List.cons_append, List.nil_append, seqOf, runD, ltZ, inY, notinY, ixG, lenY, mulZ, max2X, min2X, isY, isnY, sortedX, ltY, gtY, inX, notinX, ordX, boolX, addX, subX, mulX, mulY, modX, fdivX, powX, ltX, leX, gtX, geX, eqY, neY, eqX, neX, isX, isnX, ixX, lenX, listX, tupleX, intX, strX, shX, sumX, sumY, maxX, minX, allX, absX, slX]
      refine kind_spec (Pl.int ‹_› ‹_›).vl (iteT ⟨⟨_, rfl⟩, ⟨_, rfl⟩, ?_⟩)
      rw [vlt_int] at h
      exact h
    | str => simp [kd] at e
  | @str u hu1 hu2 hu3 =>
    cases hy with
    | int => simp [kd] at e
    | @str v hv1 hv2 hv3 =>
      have z : sizeLine = 16777216 := sizeLine_eq
      refine seq_step (fun cs' => cs' = [some (.dat (.str u)), some (.dat (.str v)), none, none]) (fun N hN => ?_) ?_
      · dsimp only [t_wany, seqY, t_wzipT, seqT, t_gd0, t_disp, t_pcons, t_pnil, t_retdbox, t_dictP, t_sortK, t_callB, t_dnew1, t_pop, t_lenset, t_wseq, t_wzip3, t_astar, t_par3, t_dnew, t_dlist, t_dput, t_dget2, t_din, t_lenScr, t_raise1, t_callX, t_callKX, t_xf, t_isx, runX, t_seq, t_if, t_or, t_and, t_not, t_tst, t_v, t_f, t_l, t_c, t_c1, t_op, t_chain', t_ret, t_asg, t_for, t_wenum, t_wlist, t_wtup, t_wstr, t_wrng1, t_wrng2, t_drop, g_setix, t_wzip, t_lname, t_name, t_next, t_ifx, t_isi, t_notV, t_andV, t_orV, t_call, t_callK, t_acons, t_aconsR, t_anil, t_tupd, t_lstd, g_name, g_tup, g_cons, g_nil, t_drop, t_lc, t_yes, t_star1, t_retn, t_par, t_slice, t_some, t_no, t_dict0, t_rev, t_neg, t_extend, t_append, t_sliceScr, t_retbox, t_xcons, LV.get, CS.at_, SV.view, datsOf, Option.map_some, List.getElem?_cons_zero, List.getElem?_cons_succ, List.set_cons_zero, List.set_cons_succ, settled, initC, List.map_cons, List.map_nil, List.length_cons, List.length_nil, List.cons_append, List.nil_append, seqOf, runD, ltZ, inY, notinY, ixG, lenY, mulZ, max2X, min2X, isY, isnY, sortedX, ltY, gtY, inX, notinX, ordX, boolX, addX, subX, mulX, mulY, modX, fdivX, powX, ltX, leX, gtX, geX, eqY, neY, eqX, neX, isX, isnX, ixX, lenX, listX, tupleX, intX, strX, shX, sumX, sumY, maxX, minX, allX, absX, slX]
        exact kind_spec (Pl.str hu1 hu2 hu3).vl (iteF (hN _ rfl))
      rintro cs rfl
      refine seq_step (fun _ => False) (fun N _ => ?_) (fun _ z => z.elim)
      dsimp only [t_wany, seqY, t_wzipT, seqT, t_gd0, t_disp, t_pcons, t_pnil, t_retdbox, t_dictP, t_sortK, t_callB, t_dnew1, t_pop, t_lenset, t_wseq, t_wzip3, t_astar, t_par3, t_dnew, t_dlist, t_dput, t_dget2, t_din, t_lenScr, t_raise1, t_callX, t_callKX, t_xf, t_isx, runX, t_seq, t_if, t_or, t_and, t_not, t_tst, t_v, t_f, t_l, t_c, t_c1, t_op, t_chain', t_ret, t_asg, t_for, t_wenum, t_wlist, t_wtup, t_wstr, t_wrng1, t_wrng2, t_drop, g_setix, t_wzip, t_lname, t_name, t_next, t_ifx, t_isi, t_notV, t_andV, t_orV, t_call, t_callK, t_acons, t_aconsR, t_anil, t_tupd, t_lstd, g_name, g_tup, g_cons, g_nil, t_drop, t_lc, t_yes, t_star1, t_retn, t_par, t_slice, t_some, t_no, t_dict0, t_rev, t_neg, t_extend, t_append, t_sliceScr, t_retbox, t_xcons, LV.get, CS.at_, SV.view, datsOf, Option.map_some, List.getElem?_cons_zero, List.getElem?_cons_succ, List.set_cons_zero, List.set_cons_succ, settled, initC, List.map_cons, List.map_nil, List.length_cons, List.length_nil, List.cons_append, List.nil_append, seqOf, runD, ltZ, inY, notinY, ixG, lenY, mulZ, max2X, min2X, isY, isnY, sortedX, ltY, gtY, inX, notinX, ordX, boolX, addX, subX, mulX, mulY, modX, fdivX, powX, ltX, leX, gtX, geX, eqY, neY, eqX, neX, isX, isnX, ixX, lenX, listX, tupleX, intX, strX, shX, sumX, sumY, maxX, minX, allX, absX, slX]
      refine kind_spec (Pl.str hu1 hu2 hu3).vl (iteT ?_)
      rw [signs_zip]
      rw [vlt_str] at h
      refine forD_ind (I := fun ds cs => ∃ (xs ys : List Nat) (a b : Option SV), ds = ((xs.zip ys).map fun p => PyData.tuple [.str ⟨#[p.1]⟩, .str ⟨#[p.2]⟩]) ∧ cs = [some (.dat (.str u)), some (.dat (.str v)), a, b] ∧ (u.length : Int) - xs.length = (v.length : Int) - ys.length ∧ Q (.dat (.bool (slt xs ys)))) ?_ ?_ _ _ ⟨u.cps.toList, v.cps.toList, none, none, rfl, rfl, by simp [Str.length], h⟩
      · rintro cs ⟨xs, ys, a, b, e1, rfl, hl, hq⟩
        dsimp only [t_wany, seqY, t_wzipT, seqT, t_gd0, t_disp, t_pcons, t_pnil, t_retdbox, t_dictP, t_sortK, t_callB, t_dnew1, t_pop, t_lenset, t_wseq, t_wzip3, t_astar, t_par3, t_dnew, t_dlist, t_dput, t_dget2, t_din, t_lenScr, t_raise1, t_callX, t_callKX, t_xf, t_isx, runX, t_seq, t_if, t_or, t_and, t_not, t_tst, t_v, t_f, t_l, t_c, t_c1, t_op, t_chain', t_ret, t_asg, t_for, t_wenum, t_wlist, t_wtup, t_wstr, t_wrng1, t_wrng2, t_drop, g_setix, t_wzip, t_lname, t_name, t_next, t_ifx, t_isi, t_notV, t_andV, t_orV, t_call, t_callK, t_acons, t_aconsR, t_anil, t_tupd, t_lstd, g_name, g_tup, g_cons, g_nil, t_drop, t_lc, t_yes, t_star1, t_retn, t_par, t_slice, t_some, t_no, t_dict0, t_rev, t_neg, t_extend, t_append, t_sliceScr, t_retbox, t_xcons, LV.get, CS.at_, SV.view, datsOf, Option.map_some, List.getElem?_cons_zero, List.getElem?_cons_succ, List.set_cons_zero, List.set_cons_succ, settled, initC, List.map_cons, List.map_nil, List.length_cons, List.length_nil, List.cons_append, List.nil_append, seqOf, runD, ltZ, inY, notinY, ixG, lenY, mulZ, max2X, min2X, isY, isnY, sortedX, ltY, gtY, inX, notinX, ordX, boolX, addX, subX, mulX, mulY, modX, fdivX, powX, ltX, leX, gtX, geX, eqY, neY, eqX, neX, isX, isnX, ixX, lenX, listX, tupleX, intX, strX, shX, sumX, sumY, maxX, minX, allX, absX, slX]
        refine ⟨⟨_, rfl⟩, by omega, ⟨_, rfl⟩, by omega, ?_⟩
        rw [show decide ((u.length : Int) < v.length) = slt xs ys from ?_]
        · exact hq
        · cases xs with
          | nil => rw [slt_nil]; exact decide_eq_decide.mpr (by simp only [List.length_nil] at hl; omega)
          | cons c xs =>
            cases ys with
            | nil => rw [slt_nil2]; exact decide_eq_false (by simp only [List.length_nil] at hl; omega)
            | cons d ys => cases e1
      · rintro d ds cs N hN ⟨xs, ys, a, b, e1, rfl, hl, hq⟩
        cases xs with
        | nil => cases e1
        | cons c xs =>
          cases ys with
          | nil => cases e1
          | cons d ys =>
            cases e1
            dsimp only [t_wany, seqY, t_wzipT, seqT, t_gd0, t_disp, t_pcons, t_pnil, t_retdbox, t_dictP, t_sortK, t_callB, t_dnew1, t_pop, t_lenset, t_wseq, t_wzip3, t_astar, t_par3, t_dnew, t_dlist, t_dput, t_dget2, t_din, t_lenScr, t_raise1, t_callX, t_callKX, t_xf, t_isx, runX, t_seq, t_if, t_or, t_and, t_not, t_tst, t_v, t_f, t_l, t_c, t_c1, t_op, t_chain', t_ret, t_asg, t_for, t_wenum, t_wlist, t_wtup, t_wstr, t_wrng1, t_wrng2, t_drop, g_setix, t_wzip, t_lname, t_name, t_next, t_ifx, t_isi, t_notV, t_andV, t_orV, t_call, t_callK, t_acons, t_aconsR, t_anil, t_tupd, t_lstd, g_name, g_tup, g_cons, g_nil, t_drop, t_lc, t_yes, t_star1, t_retn, t_par, t_slice, t_some, t_no, t_dict0, t_rev, t_neg, t_extend, t_append, t_sliceScr, t_retbox, t_xcons, LV.get, CS.at_, SV.view, datsOf, Option.map_some, List.getElem?_cons_zero, List.getElem?_cons_succ, List.set_cons_zero, List.set_cons_succ, settled, initC, List.map_cons, List.map_nil, List.length_cons, List.length_nil, List.cons_append, List.nil_append, seqOf, runD, ltZ, inY, notinY, ixG, lenY, mulZ, max2X, min2X, isY, isnY, sortedX, ltY, gtY, inX, notinX, ordX, boolX, addX, subX, mulX, mulY, modX, fdivX, powX, ltX, leX, gtX, geX, eqY, neY, eqX, neX, isX, isnX, ixX, lenX, listX, tupleX, intX, strX, shX, sumX, sumY, maxX, minX, allX, absX, slX]
            refine ⟨rfl, by show 2 < 4; decide, by show 3 < 4; decide, rfl, ⟨_, rfl⟩, ⟨_, rfl⟩, ?_⟩
            rw [slt_cons] at hq
            by_cases hc : c = d
            · subst hc
              rw [if_pos rfl] at hq
              rw [decide_eq_true rfl]
              refine iteF (hN _ ⟨xs, ys, _, _, rfl, rfl, ?_, hq⟩)
              simp only [List.length_cons] at hl
              omega
            · rw [if_neg hc] at hq
              rw [decide_eq_false (fun z => hc (str_one.mp z))]
              refine iteT ⟨⟨_, rfl⟩, rfl, ⟨_, rfl⟩, rfl, ?_⟩
              rw [show decide (_ < _) = decide (c < d) from decide_eq_decide.mpr (by show ((c : Nat) : Int) < ((d : Nat) : Int) ↔ _; omega)]
              exact hq
end Lk

namespace Lk
open PySem PySem.Spec PyProof.Rows L2 Cl Va
theorem ahead_spec {n : Nat} {x y : PyData} (hx : Vl x) (hy : Vl y) {Q : SV → Prop} (h : Q (.dat (.bool (vlt x y)))) : C__law_is_ahead (n + 2) [.dat x, .dat y] Q := by
  by_cases e : kd x = kd y
  · cases hx with
    | plain hx =>
      cases hy with
      | plain hy => exact aheadP_spec hx hy h
      | tup => cases hx <;> simp [kd] at e
    | @tup us u1 u2 hu =>
      cases hy with
      | plain hy => cases hy <;> simp [kd] at e
      | @tup vs v1 v2 hv =>
        rw [vlt_tup hu hv] at h
        have hx : Vl (.tuple us) := .tup u1 u2 hu
        have hy : Vl (.tuple vs) := .tup v1 v2 hv
        refine ⟨rfl, ?_⟩
        show T__law_is_ahead _ _ [some (.dat (.tuple us)), some (.dat (.tuple vs)), none, none]
        refine seq_step (fun cs' => cs' = [some (.dat (.tuple us)), some (.dat (.tuple vs)), none, none]) (fun N hN => ?_) ?_
        · dsimp only [t_wany, seqY, t_wzipT, seqT, t_gd0, t_disp, t_pcons, t_pnil, t_retdbox, t_dictP, t_sortK, t_callB, t_dnew1, t_pop, t_lenset, t_wseq, t_wzip3, t_astar, t_par3, t_dnew, t_dlist, t_dput, t_dget2, t_din, t_lenScr, t_raise1, t_callX, t_callKX, t_xf, t_isx, runX, t_seq, t_if, t_or, t_and, t_not, t_tst, t_v, t_f, t_l, t_c, t_c1, t_op, t_chain', t_ret, t_asg, t_for, t_wenum, t_wlist, t_wtup, t_wstr, t_wrng1, t_wrng2, t_drop, g_setix, t_wzip, t_lname, t_name, t_next, t_ifx, t_isi, t_notV, t_andV, t_orV, t_call, t_callK, t_acons, t_aconsR, t_anil, t_tupd, t_lstd, g_name, g_tup, g_cons, g_nil, t_drop, t_lc, t_yes, t_star1, t_retn, t_par, t_slice, t_some, t_no, t_dict0, t_rev, t_neg, t_extend, t_append, t_sliceScr, t_retbox, t_xcons, LV.get, CS.at_, SV.view, datsOf, Option.map_some, List.getElem?_cons_zero, List.getElem?_cons_succ, List.set_cons_zero, List.set_cons_succ, settled, initC, List.map_cons, List.map_nil, List.length_cons, List.length_nil, List.cons_append, List.nil_append, seqOf, runD, ltZ, inY, notinY, ixG, lenY, mulZ, max2X, min2X, isY, isnY, sortedX, ltY, gtY, inX, notinX, ordX, boolX, addX, subX, mulX, mulY, modX, fdivX, powX, ltX, leX, gtX, geX, eqY, neY, eqX, neX, isX, isnX, ixX, lenX, listX, tupleX, intX, strX, shX, sumX, sumY, maxX, minX, allX, absX, slX]
          exact kind_spec hx (kind_spec hy (iteF (hN _ rfl)))
        rintro cs rfl
        refine seq_step (fun cs' => cs' = [some (.dat (.tuple us)), some (.dat (.tuple vs)), none, none]) (fun N hN => ?_) ?_
        · dsimp only [t_wany, seqY, t_wzipT, seqT, t_gd0, t_disp, t_pcons, t_pnil, t_retdbox, t_dictP, t_sortK, t_callB, t_dnew1, t_pop, t_lenset, t_wseq, t_wzip3, t_astar, t_par3, t_dnew, t_dlist, t_dput, t_dget2, t_din, t_lenScr, t_raise1, t_callX, t_callKX, t_xf, t_isx, runX, t_seq, t_if, t_or, t_and, t_not, t_tst, t_v, t_f, t_l, t_c, t_c1, t_op, t_chain', t_ret, t_asg, t_for, t_wenum, t_wlist, t_wtup, t_wstr, t_wrng1, t_wrng2, t_drop, g_setix, t_wzip, t_lname, t_name, t_next, t_ifx, t_isi, t_notV, t_andV, t_orV, t_call, t_callK, t_acons, t_aconsR, t_anil, t_tupd, t_lstd, g_name, g_tup, g_cons, g_nil, t_drop, t_lc, t_yes, t_star1, t_retn, t_par, t_slice, t_some, t_no, t_dict0, t_rev, t_neg, t_extend, t_append, t_sliceScr, t_retbox, t_xcons, LV.get, CS.at_, SV.view, datsOf, Option.map_some, List.getElem?_cons_zero, List.getElem?_cons_succ, List.set_cons_zero, List.set_cons_succ, settled, initC, List.map_cons, List.map_nil, List.length_cons, List.length_nil, List.cons_append, List.nil_append, seqOf, runD, ltZ, inY, notinY, ixG, lenY, mulZ, max2X, min2X, isY, isnY, sortedX, ltY, gtY, inX, notinX, ordX, boolX, addX, subX, mulX, mulY, modX, fdivX, powX, ltX, leX, gtX, geX, eqY, neY, eqX, neX, isX, isnX, ixX, lenX, listX, tupleX, intX, strX, shX, sumX, sumY, maxX, minX, allX, absX, slX]
          exact kind_spec hx (iteF (hN _ rfl))
        rintro cs rfl
        refine seq_step (fun cs' => cs' = [some (.dat (.tuple us)), some (.dat (.tuple vs)), none, none]) (fun N hN => ?_) ?_
        · dsimp only [t_wany, seqY, t_wzipT, seqT, t_gd0, t_disp, t_pcons, t_pnil, t_retdbox, t_dictP, t_sortK, t_callB, t_dnew1, t_pop, t_lenset, t_wseq, t_wzip3, t_astar, t_par3, t_dnew, t_dlist, t_dput, t_dget2, t_din, t_lenScr, t_raise1, t_callX, t_callKX, t_xf, t_isx, runX, t_seq, t_if, t_or, t_and, t_not, t_tst, t_v, t_f, t_l, t_c, t_c1, t_op, t_chain', t_ret, t_asg, t_for, t_wenum, t_wlist, t_wtup, t_wstr, t_wrng1, t_wrng2, t_drop, g_setix, t_wzip, t_lname, t_name, t_next, t_ifx, t_isi, t_notV, t_andV, t_orV, t_call, t_callK, t_acons, t_aconsR, t_anil, t_tupd, t_lstd, g_name, g_tup, g_cons, g_nil, t_drop, t_lc, t_yes, t_star1, t_retn, t_par, t_slice, t_some, t_no, t_dict0, t_rev, t_neg, t_extend, t_append, t_sliceScr, t_retbox, t_xcons, LV.get, CS.at_, SV.view, datsOf, Option.map_some, List.getElem?_cons_zero, List.getElem?_cons_succ, List.set_cons_zero, List.set_cons_succ, settled, initC, List.map_cons, List.map_nil, List.length_cons, List.length_nil, List.cons_append, List.nil_append, seqOf, runD, ltZ, inY, notinY, ixG, lenY, mulZ, max2X, min2X, isY, isnY, sortedX, ltY, gtY, inX, notinX, ordX, boolX, addX, subX, mulX, mulY, modX, fdivX, powX, ltX, leX, gtX, geX, eqY, neY, eqX, neX, isX, isnX, ixX, lenX, listX, tupleX, intX, strX, shX, sumX, sumY, maxX, minX, allX, absX, slX]
          exact kind_spec hx (iteF (hN _ rfl))
        rintro cs rfl
        dsimp only [t_wany, seqY, t_wzipT, seqT, t_gd0, t_disp, t_pcons, t_pnil, t_retdbox, t_dictP, t_sortK, t_callB, t_dnew1, t_pop, t_lenset, t_wseq, t_wzip3, t_astar, t_par3, t_dnew, t_dlist, t_dput, t_dget2, t_din, t_lenScr, t_raise1, t_callX, t_callKX, t_xf, t_isx, runX, t_seq, t_if, t_or, t_and, t_not, t_tst, t_v, t_f, t_l, t_c, t_c1, t_op, t_chain', t_ret, t_asg, t_for, t_wenum, t_wlist, t_wtup, t_wstr, t_wrng1, t_wrng2, t_drop, g_setix, t_wzip, t_lname, t_name, t_next, t_ifx, t_isi, t_notV, t_andV, t_orV, t_call, t_callK, t_acons, t_aconsR, t_anil, t_tupd, t_lstd, g_name, g_tup, g_cons, g_nil, t_drop, t_lc, t_yes, t_star1, t_retn, t_par, t_slice, t_some, t_no, t_dict0, t_rev, t_neg, t_extend, t_append, t_sliceScr, t_retbox, t_xcons, LV.get, CS.at_, SV.view, datsOf, Option.map_some, List.getElem?_cons_zero, List.getElem?_cons_succ, List.set_cons_zero, List.set_cons_succ, settled, initC, List.map_cons, List.map_nil, List.length_cons, List.length_nil, List.cons_append, List.nil_append, seqOf, runD, ltZ, inY, notinY, ixG, lenY, mulZ, max2X, min2X, isY, isnY, sortedX, ltY, gtY, inX, notinX, ordX, boolX, addX, subX, mulX, mulY, modX, fdivX, powX, ltX, leX, gtX, geX, eqY, neY, eqX, neX, isX, isnX, ixX, lenX, listX, tupleX, intX, strX, shX, sumX, sumY, maxX, minX, allX, absX, slX]
        rw [show rowsD (zipRs us vs) = (us.zip vs).map fun p => PyData.tuple [p.1, p.2] by
          have := zip_rows (id : PyData → PyData) id us vs
          simpa using this]
        refine forD_ind (I := fun ds cs => ∃ (xs ys : List PyData) (a b : Option SV), ds = ((xs.zip ys).map fun p => PyData.tuple [p.1, p.2]) ∧ cs = [some (.dat (.tuple us)), some (.dat (.tuple vs)), a, b] ∧ (us.length : Int) - xs.length = (vs.length : Int) - ys.length ∧ (∀ d ∈ xs, Pl d) ∧ (∀ d ∈ ys, Pl d) ∧ Q (.dat (.bool (tlt xs ys)))) ?_ ?_ _ _ ⟨us, vs, none, none, rfl, rfl, by omega, hu, hv, h⟩
        · rintro cs ⟨xs, ys, a, b, e1, rfl, hl, h1, h2, hq⟩
          dsimp only [t_wany, seqY, t_wzipT, seqT, t_gd0, t_disp, t_pcons, t_pnil, t_retdbox, t_dictP, t_sortK, t_callB, t_dnew1, t_pop, t_lenset, t_wseq, t_wzip3, t_astar, t_par3, t_dnew, t_dlist, t_dput, t_dget2, t_din, t_lenScr, t_raise1, t_callX, t_callKX, t_xf, t_isx, runX, t_seq, t_if, t_or, t_and, t_not, t_tst, t_v, t_f, t_l, t_c, t_c1, t_op, t_chain', t_ret, t_asg, t_for, t_wenum, t_wlist, t_wtup, t_wstr, t_wrng1, t_wrng2, t_drop, g_setix, t_wzip, t_lname, t_name, t_next, t_ifx, t_isi, t_notV, t_andV, t_orV, t_call, t_callK, t_acons, t_aconsR, t_anil, t_tupd, t_lstd, g_name, g_tup, g_cons, g_nil, t_drop, t_lc, t_yes, t_star1, t_retn, t_par, t_slice, t_some, t_no, t_dict0, t_rev, t_neg, t_extend, t_append, t_sliceScr, t_retbox, t_xcons, LV.get, CS.at_, SV.view, datsOf, Option.map_some, List.getElem?_cons_zero, List.getElem?_cons_succ, List.set_cons_zero, List.set_cons_succ, settled, initC, List.map_cons, List.map_nil, List.length_cons, List.length_nil, List.cons_append, List.nil_append, seqOf, runD, ltZ, inY, notinY, ixG, lenY, mulZ, max2X, min2X, isY, isnY, sortedX, ltY, gtY, inX, notinX, ordX, boolX, addX, subX, mulX, mulY, modX, fdivX, powX, ltX, leX, gtX, geX, eqY, neY, eqX, neX, isX, isnX, ixX, lenX, listX, tupleX, intX, strX, shX, sumX, sumY, maxX, minX, allX, absX, slX]
          refine ⟨⟨_, rfl⟩, ⟨_, rfl⟩, ?_⟩
          rw [show decide ((us.length : Int) < vs.length) = tlt xs ys from ?_]
          · exact hq
          · cases xs with
            | nil =>
              cases ys with
              | nil => rw [tlt_nil]; exact decide_eq_false (by simp only [List.length_nil] at hl; omega)
              | cons d ys => rw [tlt_nilc]; exact decide_eq_true (by simp only [List.length_nil, List.length_cons] at hl; omega)
            | cons c xs =>
              cases ys with
              | nil => rw [tlt_nil]; exact decide_eq_false (by simp only [List.length_nil] at hl; omega)
              | cons d ys => cases e1
        · rintro d ds cs N hN ⟨xs, ys, a, b, e1, rfl, hl, h1, h2, hq⟩
          cases xs with
          | nil => cases e1
          | cons c xs =>
            cases ys with
            | nil => cases e1
            | cons d ys =>
              cases e1
              have pc := h1 c List.mem_cons_self
              have pd := h2 d List.mem_cons_self
              dsimp only [t_wany, seqY, t_wzipT, seqT, t_gd0, t_disp, t_pcons, t_pnil, t_retdbox, t_dictP, t_sortK, t_callB, t_dnew1, t_pop, t_lenset, t_wseq, t_wzip3, t_astar, t_par3, t_dnew, t_dlist, t_dput, t_dget2, t_din, t_lenScr, t_raise1, t_callX, t_callKX, t_xf, t_isx, runX, t_seq, t_if, t_or, t_and, t_not, t_tst, t_v, t_f, t_l, t_c, t_c1, t_op, t_chain', t_ret, t_asg, t_for, t_wenum, t_wlist, t_wtup, t_wstr, t_wrng1, t_wrng2, t_drop, g_setix, t_wzip, t_lname, t_name, t_next, t_ifx, t_isi, t_notV, t_andV, t_orV, t_call, t_callK, t_acons, t_aconsR, t_anil, t_tupd, t_lstd, g_name, g_tup, g_cons, g_nil, t_drop, t_lc, t_yes, t_star1, t_retn, t_par, t_slice, t_some, t_no, t_dict0, t_rev, t_neg, t_extend, t_append, t_sliceScr, t_retbox, t_xcons, LV.get, CS.at_, SV.view, datsOf, Option.map_some, List.getElem?_cons_zero, List.getElem?_cons_succ, List.set_cons_zero, List.set_cons_succ, settled, initC, List.map_cons, List.map_nil, List.length_cons, List.length_nil, List.cons_append, List.nil_append, seqOf, runD, ltZ, inY, notinY, ixG, lenY, mulZ, max2X, min2X, isY, isnY, sortedX, ltY, gtY, inX, notinX, ordX, boolX, addX, subX, mulX, mulY, modX, fdivX, powX, ltX, leX, gtX, geX, eqY, neY, eqX, neX, isX, isnX, ixX, lenX, listX, tupleX, intX, strX, shX, sumX, sumY, maxX, minX, allX, absX, slX]
              refine ⟨rfl, by show 2 < 4; decide, by show 3 < 4; decide, rfl, aheadP_spec pc pd ?_⟩
              by_cases hc : c = d
              · subst hc
                rw [tlt_same pc] at hq
                rw [vlt_irr]
                refine iteF (aheadP_spec pc pc ?_)
                rw [vlt_irr]
                refine iteF (hN _ ⟨xs, ys, _, _, rfl, rfl, ?_, fun x hx => h1 x (List.mem_cons_of_mem _ hx), fun x hx => h2 x (List.mem_cons_of_mem _ hx), hq⟩)
                simp only [List.length_cons] at hl
                omega
              · rw [tlt_diff pc pd hc] at hq
                cases e1 : vlt c d with
                | true =>
                  refine iteT (iteT (aheadP_spec pc pd ?_))
                  exact hq
                | false =>
                  refine iteF (aheadP_spec pd pc ?_)
                  rcases vlt_tot pc.vl pd.vl hc with e2 | e2
                  · rw [e1] at e2; cases e2
                  · rw [e2]
                    refine iteT (aheadP_spec pc pd ?_)
                    exact hq
  · refine ⟨rfl, ?_⟩
    show T__law_is_ahead _ _ [some (.dat x), some (.dat y), none, none]
    refine seq_step (fun _ => False) (fun N _ => ?_) (fun _ z => z.elim)
    dsimp only [t_wany, seqY, t_wzipT, seqT, t_gd0, t_disp, t_pcons, t_pnil, t_retdbox, t_dictP, t_sortK, t_callB, t_dnew1, t_pop, t_lenset, t_wseq, t_wzip3, t_astar, t_par3, t_dnew, t_dlist, t_dput, t_dget2, t_din, t_lenScr, t_raise1, t_callX, t_callKX, t_xf, t_isx, runX, t_seq, t_if, t_or, t_and, t_not, t_tst, t_v, t_f, t_l, t_c, t_c1, t_op, t_chain', t_ret, t_asg, t_for, t_wenum, t_wlist, t_wtup, t_wstr, t_wrng1, t_wrng2, t_drop, g_setix, t_wzip, t_lname, t_name, t_next, t_ifx, t_isi, t_notV, t_andV, t_orV, t_call, t_callK, t_acons, t_aconsR, t_anil, t_tupd, t_lstd, g_name, g_tup, g_cons, g_nil, t_drop, t_lc, t_yes, t_star1, t_retn, t_par, t_slice, t_some, t_no, t_dict0, t_rev, t_neg, t_extend, t_append, t_sliceScr, t_retbox, t_xcons, LV.get, CS.at_, SV.view, datsOf, Option.map_some, List.getElem?_cons_zero, List.getElem?_cons_succ, List.set_cons_zero, List.set_cons_succ, settled, initC, List.map_cons, List.map_nil, List.length_cons, List.length_nil, List.cons_append, List.nil_append, seqOf, runD, ltZ, inY, notinY, ixG, lenY, mulZ, max2X, min2X, isY, isnY, sortedX, ltY, gtY, inX, notinX, ordX, boolX, addX, subX, mulX, mulY, modX, fdivX, powX, ltX, leX, gtX, geX, eqY, neY, eqX, neX, isX, isnX, ixX, lenX, listX, tupleX, intX, strX, shX, sumX, sumY, maxX, minX, allX, absX, slX]
    refine kind_spec hx (kind_spec hy ?_)
    dsimp only
    rw [decide_eq_false (by omega)]
    refine iteT (kind_spec hx (kind_spec hy ?_))
    dsimp only
    rw [vlt_kd hx hy e] at h
    rw [show decide (((kd x : Nat) : Int) < ((kd y : Nat) : Int)) = decide (kd x < kd y) from decide_eq_decide.mpr (by omega)]
    exact h
theorem tmP {d : PyData} (h : Pl d) : Tm 10 0 d := by
  cases h with
  | int => exact tm_small (by omega) (by omega)
  | @str z h0 h1 h2 =>
    refine (tm_str (x := z) fun c hc => ?_).mono (by omega) (Nat.le_refl _)
    simp only [lowS, List.all_eq_true, decide_eq_true_eq] at h2
    have := h2 c hc
    omega
theorem tmV {d : PyData} (h : Vl d) : Tm 44 1 d := by
  cases h with
  | plain h => exact (tmP h).mono (by decide) (by decide)
  | tup h0 h1 h => exact (Tm.tupOf (n := 4) (fun d hd => tmP (h d hd)) h1).mono (by decide) (by decide)
theorem tmRP {d : PyData} (h : Pl d) : Tm 22 1 (rkP d) := by
  have := tmP h
  cases h with
  | int => exact (Tm.cons2 (tm_small (by decide) (by decide)) this).tup
  | str => exact (Tm.cons2 (tm_small (by decide) (by decide)) this).tup
theorem tmR {d : PyData} (h : Vl d) : Tm 104 3 (rk d) := by
  cases h with
  | plain h => rw [h.rk]; exact (tmRP h).mono (by decide) (by decide)
  | @tup ds h0 h1 h =>
    have : Tm 92 2 (.tuple (ds.map rkP)) := (Tm.tupOf (n := 4) (fun d hd => by obtain ⟨x, hx, rfl⟩ := List.mem_map.mp hd; exact tmRP (h x hx)) (by simpa using h1)).mono (by decide) (by decide)
    exact (Tm.cons2 ((tm_small (by decide) (by decide)).mono (Nat.le_refl _) (by decide)) this).tup
theorem told_spec {x y : PyData} (hx : Vl x) (hy : Vl y) {Q : SV → Prop} (h : Q (.dat (.bool true))) : C__law_is_told [.dat x, .dat y] Q := by
  refine ⟨rfl, ?_⟩
  show T__law_is_told _ [some (.dat x), some (.dat y), none, none]
  have ok : shOk (.list [rk x, rk y]) := ((Tm.cons2 (tmR hx) (tmR hy)).lst).ok (by decide) (by decide)
  refine seq_step (fun cs' => cs' = [some (.dat x), some (.dat y), some (.dat (rk x)), some (.dat (rk y))]) (fun N hN => ?_) ?_
  · dsimp only [t_wany, seqY, t_wzipT, seqT, t_gd0, t_disp, t_pcons, t_pnil, t_retdbox, t_dictP, t_sortK, t_callB, t_dnew1, t_pop, t_lenset, t_wseq, t_wzip3, t_astar, t_par3, t_dnew, t_dlist, t_dput, t_dget2, t_din, t_lenScr, t_raise1, t_callX, t_callKX, t_xf, t_isx, runX, t_seq, t_if, t_or, t_and, t_not, t_tst, t_v, t_f, t_l, t_c, t_c1, t_op, t_chain', t_ret, t_asg, t_for, t_wenum, t_wlist, t_wtup, t_wstr, t_wrng1, t_wrng2, t_drop, g_setix, t_wzip, t_lname, t_name, t_next, t_ifx, t_isi, t_notV, t_andV, t_orV, t_call, t_callK, t_acons, t_aconsR, t_anil, t_tupd, t_lstd, g_name, g_tup, g_cons, g_nil, t_drop, t_lc, t_yes, t_star1, t_retn, t_par, t_slice, t_some, t_no, t_dict0, t_rev, t_neg, t_extend, t_append, t_sliceScr, t_retbox, t_xcons, LV.get, CS.at_, SV.view, datsOf, Option.map_some, List.getElem?_cons_zero, List.getElem?_cons_succ, List.set_cons_zero, List.set_cons_succ, settled, initC, List.map_cons, List.map_nil, List.length_cons, List.length_nil, List.cons_append, List.nil_append, seqOf, runD, ltZ, inY, notinY, ixG, lenY, mulZ, max2X, min2X, isY, isnY, sortedX, ltY, gtY, inX, notinX, ordX, boolX, addX, subX, mulX, mulY, modX, fdivX, powX, ltX, leX, gtX, geX, eqY, neY, eqX, neX, isX, isnX, ixX, lenX, listX, tupleX, intX, strX, shX, sumX, sumY, maxX, minX, allX, absX, slX]
    exact rank_spec hx ⟨⟨rfl, rfl⟩, rank_spec hy ⟨by show 2 < 4; decide, by show 3 < 4; decide, hN _ rfl⟩⟩
  rintro cs rfl
  refine seq_step (fun cs' => cs' = [some (.dat x), some (.dat y), some (.dat (rk x)), some (.dat (rk y))]) (fun N hN => ?_) ?_
  · dsimp only [t_wany, seqY, t_wzipT, seqT, t_gd0, t_disp, t_pcons, t_pnil, t_retdbox, t_dictP, t_sortK, t_callB, t_dnew1, t_pop, t_lenset, t_wseq, t_wzip3, t_astar, t_par3, t_dnew, t_dlist, t_dput, t_dget2, t_din, t_lenScr, t_raise1, t_callX, t_callKX, t_xf, t_isx, runX, t_seq, t_if, t_or, t_and, t_not, t_tst, t_v, t_f, t_l, t_c, t_c1, t_op, t_chain', t_ret, t_asg, t_for, t_wenum, t_wlist, t_wtup, t_wstr, t_wrng1, t_wrng2, t_drop, g_setix, t_wzip, t_lname, t_name, t_next, t_ifx, t_isi, t_notV, t_andV, t_orV, t_call, t_callK, t_acons, t_aconsR, t_anil, t_tupd, t_lstd, g_name, g_tup, g_cons, g_nil, t_drop, t_lc, t_yes, t_star1, t_retn, t_par, t_slice, t_some, t_no, t_dict0, t_rev, t_neg, t_extend, t_append, t_sliceScr, t_retbox, t_xcons, LV.get, CS.at_, SV.view, datsOf, Option.map_some, List.getElem?_cons_zero, List.getElem?_cons_succ, List.set_cons_zero, List.set_cons_succ, settled, initC, List.map_cons, List.map_nil, List.length_cons, List.length_nil, List.cons_append, List.nil_append, seqOf, runD, ltZ, inY, notinY, ixG, lenY, mulZ, max2X, min2X, isY, isnY, sortedX, ltY, gtY, inX, notinX, ordX, boolX, addX, subX, mulX, mulY, modX, fdivX, powX, ltX, leX, gtX, geX, eqY, neY, eqX, neX, isX, isnX, ixX, lenX, listX, tupleX, intX, strX, shX, sumX, sumY, maxX, minX, allX, absX, slX]
    refine ⟨by decide, ok, lrank_spec hx (lrank_spec hy ⟨by decide, ok, ?_⟩)⟩
    rw [decide_eq_true rfl]
    exact iteF (hN _ rfl)
  rintro cs rfl
  have k1 := klkV hx hy
  have k2 := klkV hy hx
  have q1 : vlt x y = PySem.W.dataLt (rk x) (rk y) := rfl
  have q2 : vlt y x = PySem.W.dataLt (rk y) (rk x) := rfl
  obtain ⟨r, e1⟩ := kd_rk hx
  obtain ⟨t, e2⟩ := kd_rk hy
  rw [e1, e2] at k1 k2 q1 q2
  rw [e1, e2]
  dsimp only [t_wany, seqY, t_wzipT, seqT, t_gd0, t_disp, t_pcons, t_pnil, t_retdbox, t_dictP, t_sortK, t_callB, t_dnew1, t_pop, t_lenset, t_wseq, t_wzip3, t_astar, t_par3, t_dnew, t_dlist, t_dput, t_dget2, t_din, t_lenScr, t_raise1, t_callX, t_callKX, t_xf, t_isx, runX, t_seq, t_if, t_or, t_and, t_not, t_tst, t_v, t_f, t_l, t_c, t_c1, t_op, t_chain', t_ret, t_asg, t_for, t_wenum, t_wlist, t_wtup, t_wstr, t_wrng1, t_wrng2, t_drop, g_setix, t_wzip, t_lname, t_name, t_next, t_ifx, t_isi, t_notV, t_andV, t_orV, t_call, t_callK, t_acons, t_aconsR, t_anil, t_tupd, t_lstd, g_name, g_tup, g_cons, g_nil, t_drop, t_lc, t_yes, t_star1, t_retn, t_par, t_slice, t_some, t_no, t_dict0, t_rev, t_neg, t_extend, t_append, t_sliceScr, t_retbox, t_xcons, LV.get, CS.at_, SV.view, datsOf, Option.map_some, List.getElem?_cons_zero, List.getElem?_cons_succ, List.set_cons_zero, List.set_cons_succ, settled, initC, List.map_cons, List.map_nil, List.length_cons, List.length_nil, List.cons_append, List.nil_append, seqOf, runD, ltZ, inY, notinY, ixG, lenY, mulZ, max2X, min2X, isY, isnY, sortedX, ltY, gtY, inX, notinX, ordX, boolX, addX, subX, mulX, mulY, modX, fdivX, powX, ltX, leX, gtX, geX, eqY, neY, eqX, neX, isX, isnX, ixX, lenX, listX, tupleX, intX, strX, shX, sumX, sumY, maxX, minX, allX, absX, slX]
  refine ⟨⟨_, rfl⟩, ⟨_, rfl⟩, .inr k1, ⟨_, rfl⟩, ⟨_, rfl⟩, .inr k2, by decide, ?_⟩
  rw [← q1, ← q2]
  have sh : SeqAt.shaped (.list [.bool (vlt x y), .bool (vlt y x)]) = true := (shp_list fun d hd => by
    simp only [List.mem_cons, List.not_mem_nil, or_false] at hd
    rcases hd with rfl | rfl <;> exact shp_bool _ : Shp 1 _).ok
  refine ahead_spec hx hy (ahead_spec hy hx ⟨by decide, sh, sh, ?_⟩)
  rw [show PyData.eqv (.list [.bool (vlt x y), .bool (vlt y x)]) (.list [.bool (vlt x y), .bool (vlt y x)]) = true by simp [PyData.eqv, PyData.eqvAll]]
  exact h
/-- sorting by putting in -/
theorem lsorted_spec {ds : List PyData} (hd : ∀ d ∈ ds, Vl d) (hl : ds.length ≤ 1000) {Q : SV → Prop} (h : Q (.dat (.list (visort ds))) ∧ Q (.own (visort ds))) : C__law_sorted [.dat (.list ds)] Q := by
  refine ⟨rfl, ?_⟩
  have z : sizeLine = 16777216 := sizeLine_eq
  show T__law_sorted _ [some (.dat (.list ds)), none, none, none, none]
  refine seq_step (fun cs' => cs' = [some (.dat (.list ds)), some (.own []), none, none, none]) (fun N hN => ?_) ?_
  · dsimp only [t_wany, seqY, t_wzipT, seqT, t_gd0, t_disp, t_pcons, t_pnil, t_retdbox, t_dictP, t_sortK, t_callB, t_dnew1, t_pop, t_lenset, t_wseq, t_wzip3, t_astar, t_par3, t_dnew, t_dlist, t_dput, t_dget2, t_din, t_lenScr, t_raise1, t_callX, t_callKX, t_xf, t_isx, runX, t_seq, t_if, t_or, t_and, t_not, t_tst, t_v, t_f, t_l, t_c, t_c1, t_op, t_chain', t_ret, t_asg, t_for, t_wenum, t_wlist, t_wtup, t_wstr, t_wrng1, t_wrng2, t_drop, g_setix, t_wzip, t_lname, t_name, t_next, t_ifx, t_isi, t_notV, t_andV, t_orV, t_call, t_callK, t_acons, t_aconsR, t_anil, t_tupd, t_lstd, g_name, g_tup, g_cons, g_nil, t_drop, t_lc, t_yes, t_star1, t_retn, t_par, t_slice, t_some, t_no, t_dict0, t_rev, t_neg, t_extend, t_append, t_sliceScr, t_retbox, t_xcons, LV.get, CS.at_, SV.view, datsOf, Option.map_some, List.getElem?_cons_zero, List.getElem?_cons_succ, List.set_cons_zero, List.set_cons_succ, settled, initC, List.map_cons, List.map_nil, List.length_cons, List.length_nil, List.cons_append, List.nil_append, seqOf, runD, ltZ, inY, notinY, ixG, lenY, mulZ, max2X, min2X, isY, isnY, sortedX, ltY, gtY, inX, notinX, ordX, boolX, addX, subX, mulX, mulY, modX, fdivX, powX, ltX, leX, gtX, geX, eqY, neY, eqX, neX, isX, isnX, ixX, lenX, listX, tupleX, intX, strX, shX, sumX, sumY, maxX, minX, allX, absX, slX]
    exact ⟨by decide, by show 1 < 5; decide, hN _ rfl⟩
  rintro cs rfl
  refine seq_step (fun cs' => ∃ a b, cs' = [some (.dat (.list ds)), some (.own (visort ds)), a, b, none]) (fun N hN => ?_) ?_
  · dsimp only [t_for, t_wany, seqY, t_f, t_name, List.getElem?_cons_succ, List.getElem?_cons_zero, SV.view]
    refine forD_ind (I := fun es cs => ∃ (acc : List PyData) (a b : Option SV), cs = [some (.dat (.list ds)), some (.own acc), a, b, none] ∧ (∀ d ∈ acc, Vl d) ∧ VS acc ∧ (∀ d ∈ es, Vl d) ∧ acc.length + es.length ≤ 1000 ∧ es.foldl (fun acc x => vins x acc) acc = visort ds) ?_ ?_ _ _ ⟨[], none, none, rfl, (fun _ z => by cases z), .nil, hd, by simpa using hl, rfl⟩
    · rintro cs ⟨acc, a, b, rfl, _, _, _, _, e⟩
      have e : acc = visort ds := e
      subst e
      exact hN _ ⟨a, b, rfl⟩
    · rintro d es cs N' hN' ⟨acc, a, b, rfl, h1, h2, h3, h4, e⟩
      rw [List.length_cons] at h4
      have vd := h3 d List.mem_cons_self
      refine ⟨by show 2 < 5; decide, ?_⟩
      refine seq_step (fun cs' => cs' = [some (.dat (.list ds)), some (.dat (.list acc)), some (.dat d), some (.dat (.int (vcnt d acc : Nat))), none]) (fun N hN => ?_) ?_
      · dsimp only [t_wany, seqY, t_wzipT, seqT, t_gd0, t_disp, t_pcons, t_pnil, t_retdbox, t_dictP, t_sortK, t_callB, t_dnew1, t_pop, t_lenset, t_wseq, t_wzip3, t_astar, t_par3, t_dnew, t_dlist, t_dput, t_dget2, t_din, t_lenScr, t_raise1, t_callX, t_callKX, t_xf, t_isx, runX, t_seq, t_if, t_or, t_and, t_not, t_tst, t_v, t_f, t_l, t_c, t_c1, t_op, t_chain', t_ret, t_asg, t_for, t_wenum, t_wlist, t_wtup, t_wstr, t_wrng1, t_wrng2, t_drop, g_setix, t_wzip, t_lname, t_name, t_next, t_ifx, t_isi, t_notV, t_andV, t_orV, t_call, t_callK, t_acons, t_aconsR, t_anil, t_tupd, t_lstd, g_name, g_tup, g_cons, g_nil, t_drop, t_lc, t_yes, t_star1, t_retn, t_par, t_slice, t_some, t_no, t_dict0, t_rev, t_neg, t_extend, t_append, t_sliceScr, t_retbox, t_xcons, LV.get, CS.at_, SV.view, datsOf, Option.map_some, List.getElem?_cons_zero, List.getElem?_cons_succ, List.set_cons_zero, List.set_cons_succ, settled, initC, List.map_cons, List.map_nil, List.length_cons, List.length_nil, List.cons_append, List.nil_append, seqOf, runD, ltZ, inY, notinY, ixG, lenY, mulZ, max2X, min2X, isY, isnY, sortedX, ltY, gtY, inX, notinX, ordX, boolX, addX, subX, mulX, mulY, modX, fdivX, powX, ltX, leX, gtX, geX, eqY, neY, eqX, neX, isX, isnX, ixX, lenX, listX, tupleX, intX, strX, shX, sumX, sumY, maxX, minX, allX, absX, slX]
        refine lcD_filter (fun o => !vlt d o) (fun _ => .int 1) _ _ _ (by simp; omega) (fun o ho K N2 k1 k2 => ?_) ?_
        · dsimp only [t_wany, seqY, t_wzipT, seqT, t_gd0, t_disp, t_pcons, t_pnil, t_retdbox, t_dictP, t_sortK, t_callB, t_dnew1, t_pop, t_lenset, t_wseq, t_wzip3, t_astar, t_par3, t_dnew, t_dlist, t_dput, t_dget2, t_din, t_lenScr, t_raise1, t_callX, t_callKX, t_xf, t_isx, runX, t_seq, t_if, t_or, t_and, t_not, t_tst, t_v, t_f, t_l, t_c, t_c1, t_op, t_chain', t_ret, t_asg, t_for, t_wenum, t_wlist, t_wtup, t_wstr, t_wrng1, t_wrng2, t_drop, g_setix, t_wzip, t_lname, t_name, t_next, t_ifx, t_isi, t_notV, t_andV, t_orV, t_call, t_callK, t_acons, t_aconsR, t_anil, t_tupd, t_lstd, g_name, g_tup, g_cons, g_nil, t_drop, t_lc, t_yes, t_star1, t_retn, t_par, t_slice, t_some, t_no, t_dict0, t_rev, t_neg, t_extend, t_append, t_sliceScr, t_retbox, t_xcons, LV.get, CS.at_, SV.view, datsOf, Option.map_some, List.getElem?_cons_zero, List.getElem?_cons_succ, List.set_cons_zero, List.set_cons_succ, settled, initC, List.map_cons, List.map_nil, List.length_cons, List.length_nil, List.cons_append, List.nil_append, seqOf, runD, ltZ, inY, notinY, ixG, lenY, mulZ, max2X, min2X, isY, isnY, sortedX, ltY, gtY, inX, notinX, ordX, boolX, addX, subX, mulX, mulY, modX, fdivX, powX, ltX, leX, gtX, geX, eqY, neY, eqX, neX, isX, isnX, ixX, lenX, listX, tupleX, intX, strX, shX, sumX, sumY, maxX, minX, allX, absX, slX, wipeC]
          refine ⟨by show 4 < 5; decide, ahead_spec vd (h1 o ho) ?_⟩
          dsimp only
          cases e3 : vlt d o with
          | true => exact iteF (k2 (by simp [e3]))
          | false => exact iteT (k1 (by simp [e3]))
        · rw [restC_wipe]
          refine ⟨by show 3 < 5; decide, hN _ ?_⟩
          rw [List.nil_append, List.length_map]
          rfl
      rintro cs rfl
      dsimp only [t_wany, seqY, t_wzipT, seqT, t_gd0, t_disp, t_pcons, t_pnil, t_retdbox, t_dictP, t_sortK, t_callB, t_dnew1, t_pop, t_lenset, t_wseq, t_wzip3, t_astar, t_par3, t_dnew, t_dlist, t_dput, t_dget2, t_din, t_lenScr, t_raise1, t_callX, t_callKX, t_xf, t_isx, runX, t_seq, t_if, t_or, t_and, t_not, t_tst, t_v, t_f, t_l, t_c, t_c1, t_op, t_chain', t_ret, t_asg, t_for, t_wenum, t_wlist, t_wtup, t_wstr, t_wrng1, t_wrng2, t_drop, g_setix, t_wzip, t_lname, t_name, t_next, t_ifx, t_isi, t_notV, t_andV, t_orV, t_call, t_callK, t_acons, t_aconsR, t_anil, t_tupd, t_lstd, g_name, g_tup, g_cons, g_nil, t_drop, t_lc, t_yes, t_star1, t_retn, t_par, t_slice, t_some, t_no, t_dict0, t_rev, t_neg, t_extend, t_append, t_sliceScr, t_retbox, t_xcons, LV.get, CS.at_, SV.view, datsOf, Option.map_some, List.getElem?_cons_zero, List.getElem?_cons_succ, List.set_cons_zero, List.set_cons_succ, settled, initC, List.map_cons, List.map_nil, List.length_cons, List.length_nil, List.cons_append, List.nil_append, seqOf, runD, ltZ, inY, notinY, ixG, lenY, mulZ, max2X, min2X, isY, isnY, sortedX, ltY, gtY, inX, notinX, ordX, boolX, addX, subX, mulX, mulY, modX, fdivX, powX, ltX, leX, gtX, geX, eqY, neY, eqX, neX, isX, isnX, ixX, lenX, listX, tupleX, intX, strX, shX, sumX, sumY, maxX, minX, allX, absX, slX]
      rw [cut_take, cut_drop]
      have hv := (vins_perm d acc).length_eq
      rw [List.length_cons] at hv
      have a1 : (acc.take (vcnt d acc)).length ≤ acc.length := by rw [List.length_take]; omega
      have a2 : (acc.drop (vcnt d acc)).length ≤ acc.length := by rw [List.length_drop]; omega
      refine ⟨⟨_, rfl⟩, by decide, by omega, ⟨_, rfl⟩, by rw [List.length_append, List.length_singleton]; omega, by show 1 < 5; decide, hN' _ ⟨vins d acc, _, _, rfl, fun x hx => ?_, vins_sorted h2, fun x hx => h3 x (List.mem_cons_of_mem _ hx), by omega, e⟩⟩
      rcases List.mem_cons.mp ((vins_perm d acc).mem_iff.mp hx) with rfl | hx
      · exact vd
      · exact h1 x hx
  rintro cs ⟨a, b, rfl⟩
  exact h.2
end Lk

namespace Lk
open PySem PySem.Spec PyProof.Rows L2 Cl Va
theorem short_tm {W D : Nat} {d : PyData} (h : Tm W D d) (hw : W ≤ 80000) : Short d := by
  cases d with
  | str z =>
    have := h.wt
    simp only [PyData.weight] at this
    show z.cps.size ≤ sizeLine
    rw [sizeLine_eq]; omega
  | _ => exact True.intro
theorem weight_mem : ∀ {ds : List PyData} {x : PyData}, x ∈ ds → x.weight ≤ PyData.weightAll ds
  | d :: ds, x, h => by
    rw [PyData.weightAll]
    rcases List.mem_cons.mp h with rfl | h
    · omega
    · have := weight_mem h; omega
theorem short_in {W D : Nat} {d : PyData} (h : Tm W D d) (hw : W ≤ 80000) : ∀ ds, d = .tuple ds → ∀ x ∈ ds, Short x := by
  rintro ds rfl x hx
  cases x with
  | str z =>
    have := h.wt
    have := weight_mem hx
    simp only [PyData.weight] at *
    show z.cps.size ≤ sizeLine
    rw [sizeLine_eq]; omega
  | _ => exact True.intro
abbrev T3 (d : PyData) : Prop := Tm 300 8 d
theorem T3.of {W D : Nat} {d : PyData} (h : Tm W D d) (h1 : W ≤ 300 := by decide) (h2 : D ≤ 8 := by decide) : T3 d := h.mono h1 h2
theorem if_yes {c : TTD} {t u : TSD} {D : DEnds} {cs : CS} (h : ∀ K : Bool → CS → Prop, K true cs → c cs K) (h2 : t D cs) : t_if c t u D cs := h _ (by rw [if_pos rfl]; exact h2)
theorem if_not {c : TTD} {t u : TSD} {D : DEnds} {cs : CS} (h : ∀ K : Bool → CS → Prop, K false cs → c cs K) (h2 : u D cs) : t_if c t u D cs := h _ (by rw [if_neg Bool.false_ne_true]; exact h2)
theorem cutS_tm {z : Str} {W D : Nat} (h : Tm W D (.str z)) (lo hi : Option Int) : Tm W D (.str (cutS z lo hi)) := by
  have hc : ∀ c ∈ (cutS z lo hi).cps.toList, c ∈ z.cps.toList := fun c hc => by
    unfold cutS at hc
    exact List.mem_of_mem_drop (List.mem_of_mem_take (by simpa using hc))
  have hl := h.lv
  simp only [PyData.leavesShort, List.all_eq_true, decide_eq_true_eq] at hl
  have hw := h.wt
  simp only [PyData.weight] at hw
  refine (tm_str fun c h => hl c (hc c h)).mono ?_ (Nat.zero_le _)
  refine Nat.le_trans ?_ hw
  show (cutS z lo hi).cps.size ≤ _
  unfold cutS
  simp only [List.size_toArray, List.length_take, List.length_drop, Array.length_toList]
  omega
theorem appS_tm {a b : Str} {V W D : Nat} (h1 : Tm V D (.str a)) (h2 : Tm W D (.str b)) : Tm (V + W) D (.str (a ++ b)) := by
  have l1 := h1.lv
  have l2 := h2.lv
  have w1 := h1.wt
  have w2 := h2.wt
  simp only [PyData.leavesShort, List.all_eq_true, decide_eq_true_eq] at l1 l2
  simp only [PyData.weight] at w1 w2
  refine (tm_str (Cp.app l1 l2)).mono ?_ (Nat.zero_le _)
  show (a.cps ++ b.cps).size ≤ _
  rw [Array.size_append]
  omega
theorem len_appS (a b : Str) : (a ++ b).length = a.length + b.length := by
  show (a.cps ++ b.cps).size = _
  rw [Array.size_append]
  rfl
theorem len_cutS (z : Str) (lo hi : Option Int) : (cutS z lo hi).length ≤ z.length := by
  show (cutS z lo hi).cps.size ≤ z.cps.size
  unfold cutS
  simp only [List.size_toArray, List.length_take, List.length_drop, Array.length_toList]
  omega
theorem rep_mem {α : Type} {n : Nat} {l : List α} : ∀ x ∈ (List.replicate n l).flatten, x ∈ l := fun x hx => by
  simp only [List.mem_flatten, List.mem_replicate] at hx
  obtain ⟨m, ⟨_, rfl⟩, hx⟩ := hx
  exact hx
theorem rep_len {α : Type} {n : Nat} {l : List α} : (List.replicate n l).flatten.length = n * l.length := by
  induction n with
  | zero => simp
  | succ n ih => rw [List.replicate_succ, List.flatten_cons, List.length_append, ih, Nat.succ_mul, Nat.add_comm]
theorem repS_tm {a : Str} {W D : Nat} (h : Tm W D (.str a)) (n : Nat) : Tm (n * W) D (.str (repS a n)) := by
  have l1 := h.lv
  have w1 := h.wt
  simp only [PyData.leavesShort, List.all_eq_true, decide_eq_true_eq] at l1
  simp only [PyData.weight] at w1
  refine (tm_str fun c hc => ?_).mono ?_ (Nat.zero_le _)
  · simp only [repS, List.mem_flatten, List.mem_replicate] at hc
    obtain ⟨l, ⟨_, rfl⟩, hc⟩ := hc
    exact l1 c hc
  · show (repS a n).cps.size ≤ _
    simp only [repS, List.size_toArray]
    rw [rep_len, Array.length_toList]
    exact Nat.mul_le_mul_left _ w1
theorem cut_mem {ds : List PyData} {lo hi : Option Int} : ∀ x ∈ Cl.cutD ds lo hi, x ∈ ds := fun x hx => List.mem_of_mem_drop (List.mem_of_mem_take hx)
theorem cut_len {ds : List PyData} {lo hi : Option Int} : (Cl.cutD ds lo hi).length ≤ ds.length := by
  unfold Cl.cutD
  rw [List.length_take, List.length_drop]
  omega
set_option maxHeartbeats 4000000 in
theorem odd_spec {d : PyData} (hd : Vl d) {Q : SV → Prop} (h : ∀ e, T3 e → Q (.dat e)) : C__law_odd [.raw 5, .dat d] Q := by
  refine ⟨rfl, ?_⟩
  have tv := tmV hd
  have one : ∀ {W D : Nat} {x : PyData}, Tm W D x → TmA (W + 1 + 0) D [x] := fun h => TmA.cons h TmA.nil
  show T__law_odd _ [some (.raw 5), some (.dat d), none, none, none, none]
  refine seq_step (fun cs' => ∃ ms : List PyData, ms.length ≤ 20 ∧ (∀ e ∈ ms, T3 e) ∧ cs' = [some (.raw 5), some (.dat d), some (.own ms), none, none, none]) (fun N hN => ?_) ?_
  · dsimp only [t_wany, seqY, t_wzipT, seqT, t_gd0, t_disp, t_pcons, t_pnil, t_retdbox, t_dictP, t_sortK, t_callB, t_dnew1, t_pop, t_lenset, t_wseq, t_wzip3, t_astar, t_par3, t_dnew, t_dlist, t_dput, t_dget2, t_din, t_lenScr, t_raise1, t_callX, t_callKX, t_xf, t_isx, runX, t_seq, t_if, t_or, t_and, t_not, t_tst, t_v, t_f, t_l, t_c, t_c1, t_op, t_chain', t_ret, t_asg, t_for, t_wenum, t_wlist, t_wtup, t_wstr, t_wrng1, t_wrng2, t_drop, g_setix, t_wzip, t_lname, t_name, t_next, t_ifx, t_isi, t_notV, t_andV, t_orV, t_call, t_callK, t_acons, t_aconsR, t_anil, t_tupd, t_lstd, g_name, g_tup, g_cons, g_nil, t_drop, t_lc, t_yes, t_star1, t_retn, t_par, t_slice, t_some, t_no, t_dict0, t_rev, t_neg, t_extend, t_append, t_sliceScr, t_retbox, t_xcons, LV.get, CS.at_, SV.view, datsOf, Option.map_some, List.getElem?_cons_zero, List.getElem?_cons_succ, List.set_cons_zero, List.set_cons_succ, settled, initC, List.map_cons, List.map_nil, List.length_cons, List.length_nil, List.cons_append, List.nil_append, seqOf, runD, ltZ, inY, notinY, ixG, lenY, mulZ, max2X, min2X, isY, isnY, sortedX, ltY, gtY, inX, notinX, ordX, boolX, addX, subX, mulX, mulY, modX, fdivX, powX, ltX, leX, gtX, geX, eqY, neY, eqX, neX, isX, isnX, ixX, lenX, listX, tupleX, intX, strX, shX, sumX, sumY, maxX, minX, allX, absX, slX]
    refine ⟨by decide, by decide, by decide, by decide, by decide, by decide, by decide, by show 2 < 6; decide, hN _ ⟨_, by simp, fun e he => ?_, rfl⟩⟩
    simp only [List.mem_cons, List.not_mem_nil, or_false] at he
    rcases he with rfl | rfl | rfl | rfl | rfl | rfl | rfl | rfl | rfl | rfl | rfl | rfl | rfl | rfl | rfl | rfl
    all_goals first | exact tm_dec | exact T3.of (one tv).lst
  rintro cs ⟨ms, hl, hm, rfl⟩
  refine seq_step (fun cs' => ∃ ms : List PyData, ms.length ≤ 40 ∧ (∀ e ∈ ms, T3 e) ∧ cs' = [some (.raw 5), some (.dat d), some (.own ms), none, none, none]) (fun N hN => ?_) ?_
  · dsimp only [t_wany, seqY, t_wzipT, seqT, t_gd0, t_disp, t_pcons, t_pnil, t_retdbox, t_dictP, t_sortK, t_callB, t_dnew1, t_pop, t_lenset, t_wseq, t_wzip3, t_astar, t_par3, t_dnew, t_dlist, t_dput, t_dget2, t_din, t_lenScr, t_raise1, t_callX, t_callKX, t_xf, t_isx, runX, t_seq, t_if, t_or, t_and, t_not, t_tst, t_v, t_f, t_l, t_c, t_c1, t_op, t_chain', t_ret, t_asg, t_for, t_wenum, t_wlist, t_wtup, t_wstr, t_wrng1, t_wrng2, t_drop, g_setix, t_wzip, t_lname, t_name, t_next, t_ifx, t_isi, t_notV, t_andV, t_orV, t_call, t_callK, t_acons, t_aconsR, t_anil, t_tupd, t_lstd, g_name, g_tup, g_cons, g_nil, t_drop, t_lc, t_yes, t_star1, t_retn, t_par, t_slice, t_some, t_no, t_dict0, t_rev, t_neg, t_extend, t_append, t_sliceScr, t_retbox, t_xcons, LV.get, CS.at_, SV.view, datsOf, Option.map_some, List.getElem?_cons_zero, List.getElem?_cons_succ, List.set_cons_zero, List.set_cons_succ, settled, initC, List.map_cons, List.map_nil, List.length_cons, List.length_nil, List.cons_append, List.nil_append, seqOf, runD, ltZ, inY, notinY, ixG, lenY, mulZ, max2X, min2X, isY, isnY, sortedX, ltY, gtY, inX, notinX, ordX, boolX, addX, subX, mulX, mulY, modX, fdivX, powX, ltX, leX, gtX, geX, eqY, neY, eqX, neX, isX, isnX, ixX, lenX, listX, tupleX, intX, strX, shX, sumX, sumY, maxX, minX, allX, absX, slX]
    have z : sizeLine = 16777216 := sizeLine_eq
    refine ⟨⟨_, rfl⟩, fun kv h => by rw [List.mem_singleton.mp h]; rfl, ?_⟩
    repeat ((with_reducible refine And.intro ?_ ?_); (focus first | exact ⟨_, rfl⟩ | rfl | decide | omega | (simp only [List.length_append, List.length_cons, List.length_nil] at *; omega) | decide +kernel))
    refine hN _ ⟨_, by rw [List.length_append]; simp only [List.length_cons, List.length_nil]; omega, fun e he => ?_, rfl⟩
    rcases List.mem_append.mp he with he | he
    · exact hm e he
    simp only [List.mem_cons, List.not_mem_nil, or_false] at he
    rcases he with rfl | rfl | rfl | rfl | rfl | rfl | rfl
    · exact T3.of (Tm.dct1 (tm_dec (W := 1) (D := 1) : Tm 1 1 (.str "a")) tv)
    · exact T3.of (one tv).tup
    · exact T3.of (Tm.cons2 tv tv).tup
    · exact T3.of (Tm.cons2 tv ((tm_bool true).mono (Nat.le_refl _) (by decide))).tup
    · exact tm_dec
    · exact T3.of (one (one tv).lst).tup
    · exact T3.of (one (one tv).tup).tup
  rintro cs ⟨ms, hl, hm, rfl⟩
  refine seq_step (fun cs' => ∃ ms : List PyData, ms.length ≤ 60 ∧ (∀ e ∈ ms, T3 e) ∧ cs' = [some (.raw 5), some (.dat d), some (.own ms), none, none, none]) (fun N hN => ?_) ?_
  · dsimp only [t_wany, seqY, t_wzipT, seqT, t_gd0, t_disp, t_pcons, t_pnil, t_retdbox, t_dictP, t_sortK, t_callB, t_dnew1, t_pop, t_lenset, t_wseq, t_wzip3, t_astar, t_par3, t_dnew, t_dlist, t_dput, t_dget2, t_din, t_lenScr, t_raise1, t_callX, t_callKX, t_xf, t_isx, runX, t_seq, t_if, t_or, t_and, t_not, t_tst, t_v, t_f, t_l, t_c, t_c1, t_op, t_chain', t_ret, t_asg, t_for, t_wenum, t_wlist, t_wtup, t_wstr, t_wrng1, t_wrng2, t_drop, g_setix, t_wzip, t_lname, t_name, t_next, t_ifx, t_isi, t_notV, t_andV, t_orV, t_call, t_callK, t_acons, t_aconsR, t_anil, t_tupd, t_lstd, g_name, g_tup, g_cons, g_nil, t_drop, t_lc, t_yes, t_star1, t_retn, t_par, t_slice, t_some, t_no, t_dict0, t_rev, t_neg, t_extend, t_append, t_sliceScr, t_retbox, t_xcons, LV.get, CS.at_, SV.view, datsOf, Option.map_some, List.getElem?_cons_zero, List.getElem?_cons_succ, List.set_cons_zero, List.set_cons_succ, settled, initC, List.map_cons, List.map_nil, List.length_cons, List.length_nil, List.cons_append, List.nil_append, seqOf, runD, ltZ, inY, notinY, ixG, lenY, mulZ, max2X, min2X, isY, isnY, sortedX, ltY, gtY, inX, notinX, ordX, boolX, addX, subX, mulX, mulY, modX, fdivX, powX, ltX, leX, gtX, geX, eqY, neY, eqX, neX, isX, isnX, ixX, lenX, listX, tupleX, intX, strX, shX, sumX, sumY, maxX, minX, allX, absX, slX]
    have z : sizeLine = 16777216 := sizeLine_eq
    repeat ((with_reducible refine And.intro ?_ ?_); (focus first | exact ⟨_, rfl⟩ | rfl | decide | omega | (simp only [List.length_append, List.length_cons, List.length_nil] at *; omega) | decide +kernel))
    refine hN _ ⟨_, by rw [List.length_append]; simp only [List.length_cons, List.length_nil]; omega, fun e he => ?_, rfl⟩
    rcases List.mem_append.mp he with he | he
    · exact hm e he
    simp only [List.mem_cons, List.not_mem_nil, or_false] at he
    rcases he with rfl | rfl | rfl | rfl | rfl | rfl | rfl | rfl | rfl <;> exact tm_dec
  rintro cs ⟨ms, hl, hm, rfl⟩
  refine seq_step (fun cs' => ∃ ms : List PyData, 1 ≤ ms.length ∧ ms.length ≤ 80 ∧ (∀ e ∈ ms, T3 e) ∧ cs' = [some (.raw 5), some (.dat d), some (.own ms), none, none, none]) (fun N hN => ?_) ?_
  · dsimp only [t_wany, seqY, t_wzipT, seqT, t_gd0, t_disp, t_pcons, t_pnil, t_retdbox, t_dictP, t_sortK, t_callB, t_dnew1, t_pop, t_lenset, t_wseq, t_wzip3, t_astar, t_par3, t_dnew, t_dlist, t_dput, t_dget2, t_din, t_lenScr, t_raise1, t_callX, t_callKX, t_xf, t_isx, runX, t_seq, t_if, t_or, t_and, t_not, t_tst, t_v, t_f, t_l, t_c, t_c1, t_op, t_chain', t_ret, t_asg, t_for, t_wenum, t_wlist, t_wtup, t_wstr, t_wrng1, t_wrng2, t_drop, g_setix, t_wzip, t_lname, t_name, t_next, t_ifx, t_isi, t_notV, t_andV, t_orV, t_call, t_callK, t_acons, t_aconsR, t_anil, t_tupd, t_lstd, g_name, g_tup, g_cons, g_nil, t_drop, t_lc, t_yes, t_star1, t_retn, t_par, t_slice, t_some, t_no, t_dict0, t_rev, t_neg, t_extend, t_append, t_sliceScr, t_retbox, t_xcons, LV.get, CS.at_, SV.view, datsOf, Option.map_some, List.getElem?_cons_zero, List.getElem?_cons_succ, List.set_cons_zero, List.set_cons_succ, settled, initC, List.map_cons, List.map_nil, List.length_cons, List.length_nil, List.cons_append, List.nil_append, seqOf, runD, ltZ, inY, notinY, ixG, lenY, mulZ, max2X, min2X, isY, isnY, sortedX, ltY, gtY, inX, notinX, ordX, boolX, addX, subX, mulX, mulY, modX, fdivX, powX, ltX, leX, gtX, geX, eqY, neY, eqX, neX, isX, isnX, ixX, lenX, listX, tupleX, intX, strX, shX, sumX, sumY, maxX, minX, allX, absX, slX]
    have z : sizeLine = 16777216 := sizeLine_eq
    repeat ((with_reducible refine And.intro ?_ ?_); (focus first | exact ⟨_, rfl⟩ | rfl | decide | omega | (simp only [List.length_append, List.length_cons, List.length_nil] at *; omega) | decide +kernel))
    rw [if_neg (by decide)]
    refine ⟨by simp, ?_⟩
    repeat ((with_reducible refine And.intro ?_ ?_); (focus first | exact ⟨_, rfl⟩ | rfl | decide | omega | (simp only [List.length_append, List.length_cons, List.length_nil] at *; omega) | decide +kernel))
    refine hN _ ⟨_, ?_, ?_, fun e he => ?_, rfl⟩
    · rw [List.length_append, List.length_cons]; omega
    · rw [List.length_append]; simp only [List.length_cons, List.length_nil]; omega
    rcases List.mem_append.mp he with he | he
    · exact hm e he
    simp only [List.mem_cons, List.not_mem_nil, or_false] at he
    rcases he with rfl | rfl | rfl | rfl | rfl | rfl | rfl <;> exact tm_dec
  rintro cs ⟨ms, hl0, hl, hm, rfl⟩
  have z : sizeLine = 16777216 := sizeLine_eq
  refine seq_step (fun cs' => ∃ ms : List PyData, ∃ x y, 1 ≤ ms.length ∧ ms.length ≤ 100 ∧ (∀ e ∈ ms, T3 e) ∧ cs' = [some (.raw 5), some (.dat d), some (.own ms), x, y, none]) (fun N hN => ?_) ?_
  · cases hd with
    | plain hp =>
      dsimp only [t_wany, seqY, t_wzipT, seqT, t_gd0, t_disp, t_pcons, t_pnil, t_retdbox, t_dictP, t_sortK, t_callB, t_dnew1, t_pop, t_lenset, t_wseq, t_wzip3, t_astar, t_par3, t_dnew, t_dlist, t_dput, t_dget2, t_din, t_lenScr, t_raise1, t_callX, t_callKX, t_xf, t_isx, runX, t_seq, t_if, t_or, t_and, t_not, t_tst, t_v, t_f, t_l, t_c, t_c1, t_op, t_chain', t_ret, t_asg, t_for, t_wenum, t_wlist, t_wtup, t_wstr, t_wrng1, t_wrng2, t_drop, g_setix, t_wzip, t_lname, t_name, t_next, t_ifx, t_isi, t_notV, t_andV, t_orV, t_call, t_callK, t_acons, t_aconsR, t_anil, t_tupd, t_lstd, g_name, g_tup, g_cons, g_nil, t_drop, t_lc, t_yes, t_star1, t_retn, t_par, t_slice, t_some, t_no, t_dict0, t_rev, t_neg, t_extend, t_append, t_sliceScr, t_retbox, t_xcons, LV.get, CS.at_, SV.view, datsOf, Option.map_some, List.getElem?_cons_zero, List.getElem?_cons_succ, List.set_cons_zero, List.set_cons_succ, settled, initC, List.map_cons, List.map_nil, List.length_cons, List.length_nil, List.cons_append, List.nil_append, seqOf, runD, ltZ, inY, notinY, ixG, lenY, mulZ, max2X, min2X, isY, isnY, sortedX, ltY, gtY, inX, notinX, ordX, boolX, addX, subX, mulX, mulY, modX, fdivX, powX, ltX, leX, gtX, geX, eqY, neY, eqX, neX, isX, isnX, ixX, lenX, listX, tupleX, intX, strX, shX, sumX, sumY, maxX, minX, allX, absX, slX]
      refine ⟨⟨_, rfl⟩, ?_⟩
      cases hp <;> exact iteF (hN _ ⟨ms, _, _, hl0, by omega, hm, rfl⟩)
    | @tup ds h0 h1 hp =>
      have td : ∀ x ∈ ds, Tm 10 0 x := fun x hx => tmP (hp x hx)
      refine if_yes (fun K hK => ?_) ?_
      · dsimp only [t_wany, seqY, t_wzipT, seqT, t_gd0, t_disp, t_pcons, t_pnil, t_retdbox, t_dictP, t_sortK, t_callB, t_dnew1, t_pop, t_lenset, t_wseq, t_wzip3, t_astar, t_par3, t_dnew, t_dlist, t_dput, t_dget2, t_din, t_lenScr, t_raise1, t_callX, t_callKX, t_xf, t_isx, runX, t_seq, t_if, t_or, t_and, t_not, t_tst, t_v, t_f, t_l, t_c, t_c1, t_op, t_chain', t_ret, t_asg, t_for, t_wenum, t_wlist, t_wtup, t_wstr, t_wrng1, t_wrng2, t_drop, g_setix, t_wzip, t_lname, t_name, t_next, t_ifx, t_isi, t_notV, t_andV, t_orV, t_call, t_callK, t_acons, t_aconsR, t_anil, t_tupd, t_lstd, g_name, g_tup, g_cons, g_nil, t_drop, t_lc, t_yes, t_star1, t_retn, t_par, t_slice, t_some, t_no, t_dict0, t_rev, t_neg, t_extend, t_append, t_sliceScr, t_retbox, t_xcons, LV.get, CS.at_, SV.view, datsOf, Option.map_some, List.getElem?_cons_zero, List.getElem?_cons_succ, List.set_cons_zero, List.set_cons_succ, settled, initC, List.map_cons, List.map_nil, List.length_cons, List.length_nil, List.cons_append, List.nil_append, seqOf, runD, ltZ, inY, notinY, ixG, lenY, mulZ, max2X, min2X, isY, isnY, sortedX, ltY, gtY, inX, notinX, ordX, boolX, addX, subX, mulX, mulY, modX, fdivX, powX, ltX, leX, gtX, geX, eqY, neY, eqX, neX, isX, isnX, ixX, lenX, listX, tupleX, intX, strX, shX, sumX, sumY, maxX, minX, allX, absX, slX]
        exact ⟨⟨_, rfl⟩, hK⟩
      refine seq_step (fun cs' => ∃ r : Int, 0 ≤ r ∧ r < ds.length ∧ cs' = [some (.raw 5), some (.dat (.tuple ds)), some (.own ms), some (.dat (.int r)), none, none]) (fun N hN => ?_) ?_
      · dsimp only [t_wany, seqY, t_wzipT, seqT, t_gd0, t_disp, t_pcons, t_pnil, t_retdbox, t_dictP, t_sortK, t_callB, t_dnew1, t_pop, t_lenset, t_wseq, t_wzip3, t_astar, t_par3, t_dnew, t_dlist, t_dput, t_dget2, t_din, t_lenScr, t_raise1, t_callX, t_callKX, t_xf, t_isx, runX, t_seq, t_if, t_or, t_and, t_not, t_tst, t_v, t_f, t_l, t_c, t_c1, t_op, t_chain', t_ret, t_asg, t_for, t_wenum, t_wlist, t_wtup, t_wstr, t_wrng1, t_wrng2, t_drop, g_setix, t_wzip, t_lname, t_name, t_next, t_ifx, t_isi, t_notV, t_andV, t_orV, t_call, t_callK, t_acons, t_aconsR, t_anil, t_tupd, t_lstd, g_name, g_tup, g_cons, g_nil, t_drop, t_lc, t_yes, t_star1, t_retn, t_par, t_slice, t_some, t_no, t_dict0, t_rev, t_neg, t_extend, t_append, t_sliceScr, t_retbox, t_xcons, LV.get, CS.at_, SV.view, datsOf, Option.map_some, List.getElem?_cons_zero, List.getElem?_cons_succ, List.set_cons_zero, List.set_cons_succ, settled, initC, List.map_cons, List.map_nil, List.length_cons, List.length_nil, List.cons_append, List.nil_append, seqOf, runD, ltZ, inY, notinY, ixG, lenY, mulZ, max2X, min2X, isY, isnY, sortedX, ltY, gtY, inX, notinX, ordX, boolX, addX, subX, mulX, mulY, modX, fdivX, powX, ltX, leX, gtX, geX, eqY, neY, eqX, neX, isX, isnX, ixX, lenX, listX, tupleX, intX, strX, shX, sumX, sumY, maxX, minX, allX, absX, slX]
        exact ⟨rfl, ⟨_, rfl⟩, draw_spec (by omega) (by omega) fun r g0 g1 => ⟨by show 3 < 6; decide, hN _ ⟨r, g0, g1, rfl⟩⟩⟩
      rintro cs ⟨r, g0, g1, rfl⟩
      obtain ⟨gr, ge⟩ := atI_nat g0 g1
      generalize hx : ds[r.toNat] = x at ge
      have tx : Tm 10 0 x := by rw [← hx]; exact td _ (List.getElem_mem gr)
      clear hx gr
      refine seq_step (fun cs' => ∃ f, Tm 20 1 f ∧ cs' = [some (.raw 5), some (.dat (.tuple ds)), some (.own ms), some (.dat (.int r)), some (.dat f), none]) (fun N hN => ?_) ?_
      · dsimp only [t_wany, seqY, t_wzipT, seqT, t_gd0, t_disp, t_pcons, t_pnil, t_retdbox, t_dictP, t_sortK, t_callB, t_dnew1, t_pop, t_lenset, t_wseq, t_wzip3, t_astar, t_par3, t_dnew, t_dlist, t_dput, t_dget2, t_din, t_lenScr, t_raise1, t_callX, t_callKX, t_xf, t_isx, runX, t_seq, t_if, t_or, t_and, t_not, t_tst, t_v, t_f, t_l, t_c, t_c1, t_op, t_chain', t_ret, t_asg, t_for, t_wenum, t_wlist, t_wtup, t_wstr, t_wrng1, t_wrng2, t_drop, g_setix, t_wzip, t_lname, t_name, t_next, t_ifx, t_isi, t_notV, t_andV, t_orV, t_call, t_callK, t_acons, t_aconsR, t_anil, t_tupd, t_lstd, g_name, g_tup, g_cons, g_nil, t_drop, t_lc, t_yes, t_star1, t_retn, t_par, t_slice, t_some, t_no, t_dict0, t_rev, t_neg, t_extend, t_append, t_sliceScr, t_retbox, t_xcons, LV.get, CS.at_, SV.view, datsOf, Option.map_some, List.getElem?_cons_zero, List.getElem?_cons_succ, List.set_cons_zero, List.set_cons_succ, settled, initC, List.map_cons, List.map_nil, List.length_cons, List.length_nil, List.cons_append, List.nil_append, seqOf, runD, ltZ, inY, notinY, ixG, lenY, mulZ, max2X, min2X, isY, isnY, sortedX, ltY, gtY, inX, notinX, ordX, boolX, addX, subX, mulX, mulY, modX, fdivX, powX, ltX, leX, gtX, geX, eqY, neY, eqX, neX, isX, isnX, ixX, lenX, listX, tupleX, intX, strX, shX, sumX, sumY, maxX, minX, allX, absX, slX]
        rw [ge]
        repeat ((with_reducible refine And.intro ?_ ?_); (focus first | exact ⟨_, rfl⟩ | rfl | decide | omega | (simp only [List.length_append, List.length_cons, List.length_nil] at *; omega) | decide +kernel))
        refine pick_list (by simp) (by show 8 < _; decide) fun f hf => ⟨by show 4 < 6; decide, hN _ ⟨f, ?_, rfl⟩⟩
        simp only [List.mem_cons, List.not_mem_nil, or_false] at hf
        rcases hf with rfl | rfl | rfl | rfl | rfl | rfl | rfl | rfl
        · exact tm_dec
        · exact tm_dec
        · exact (one tx).lst.mono (by decide) (by decide)
        · exact (one tx).tup.mono (by decide) (by decide)
        · exact tm_dec
        · exact tm_dec
        · exact tm_dec
        · exact tx.mono (by decide) (by decide)
      rintro cs ⟨f, hf, rfl⟩
      have c1 : (Cl.cutD ds none (some r)).length ≤ ds.length := cut_len
      have c2 : (Cl.cutD ds (some (r + 1)) none).length ≤ ds.length := cut_len
      have m1 : ∀ x ∈ Cl.cutD ds none (some r), Tm 20 1 x := fun x hx => (td x (cut_mem x hx)).mono (by decide) (by decide)
      have m2 : ∀ x ∈ Cl.cutD ds (some (r + 1)) none, Tm 20 1 x := fun x hx => (td x (cut_mem x hx)).mono (by decide) (by decide)
      dsimp only [t_wany, seqY, t_wzipT, seqT, t_gd0, t_disp, t_pcons, t_pnil, t_retdbox, t_dictP, t_sortK, t_callB, t_dnew1, t_pop, t_lenset, t_wseq, t_wzip3, t_astar, t_par3, t_dnew, t_dlist, t_dput, t_dget2, t_din, t_lenScr, t_raise1, t_callX, t_callKX, t_xf, t_isx, runX, t_seq, t_if, t_or, t_and, t_not, t_tst, t_v, t_f, t_l, t_c, t_c1, t_op, t_chain', t_ret, t_asg, t_for, t_wenum, t_wlist, t_wtup, t_wstr, t_wrng1, t_wrng2, t_drop, g_setix, t_wzip, t_lname, t_name, t_next, t_ifx, t_isi, t_notV, t_andV, t_orV, t_call, t_callK, t_acons, t_aconsR, t_anil, t_tupd, t_lstd, g_name, g_tup, g_cons, g_nil, t_drop, t_lc, t_yes, t_star1, t_retn, t_par, t_slice, t_some, t_no, t_dict0, t_rev, t_neg, t_extend, t_append, t_sliceScr, t_retbox, t_xcons, LV.get, CS.at_, SV.view, datsOf, Option.map_some, List.getElem?_cons_zero, List.getElem?_cons_succ, List.set_cons_zero, List.set_cons_succ, settled, initC, List.map_cons, List.map_nil, List.length_cons, List.length_nil, List.cons_append, List.nil_append, seqOf, runD, ltZ, inY, notinY, ixG, lenY, mulZ, max2X, min2X, isY, isnY, sortedX, ltY, gtY, inX, notinX, ordX, boolX, addX, subX, mulX, mulY, modX, fdivX, powX, ltX, leX, gtX, geX, eqY, neY, eqX, neX, isX, isnX, ixX, lenX, listX, tupleX, intX, strX, shX, sumX, sumY, maxX, minX, allX, absX, slX]
      generalize Cl.cutD ds none (some r) = ds1 at c1 m1 ⊢
      generalize Cl.cutD ds (some (r + 1)) none = ds2 at c2 m2 ⊢
      repeat ((with_reducible refine And.intro ?_ ?_); (focus first | exact ⟨_, rfl⟩ | rfl | decide | omega | (simp only [List.length_append, List.length_cons, List.length_nil] at *; omega) | decide +kernel))
      have hl2 : ((List.replicate (Int.toNat 5) [PyData.tuple (ds1 ++ [f] ++ ds2), PyData.list ds, PyData.tuple (ds ++ ds), PyData.tuple ds1]).flatten).length = 20 := by rw [rep_len]; rfl
      refine ⟨by rw [hl2]; omega, by show 2 < 6; decide, hN _ ⟨_, _, _, by rw [List.length_append]; omega, by rw [List.length_append, hl2]; omega, fun e he => ?_, rfl⟩⟩
      rcases List.mem_append.mp he with he | he
      · exact hm e he
      have he := rep_mem e he
      simp only [List.mem_cons, List.not_mem_nil, or_false] at he
      rcases he with rfl | rfl | rfl | rfl
      · refine T3.of (Tm.tupOf (W := 20) (D := 1) (n := 9) (fun x hx => ?_) ?_)
        · rcases List.mem_append.mp hx with hx | hx
          · rcases List.mem_append.mp hx with hx | hx
            · exact m1 x hx
            · rw [List.mem_singleton.mp hx]; exact hf
          · exact m2 x hx
        · rw [List.length_append, List.length_append, List.length_singleton]; omega
      · exact T3.of (Tm.lstOf td h1)
      · exact T3.of (Tm.tupOf (n := 8) (fun x hx => (List.mem_append.mp hx).elim (td x) (td x)) (by rw [List.length_append]; omega))
      · exact T3.of (Tm.tupOf m1 (by omega : ds1.length ≤ 4))
  rintro cs ⟨ms, x, y, l1, l2, hm, rfl⟩
  refine seq_step (fun cs' => ∃ ms : List PyData, ∃ x y w, 1 ≤ ms.length ∧ ms.length ≤ 200 ∧ (∀ e ∈ ms, T3 e) ∧ cs' = [some (.raw 5), some (.dat d), some (.own ms), x, y, w]) (fun N hN => ?_) ?_
  · have no : ∀ (P : TSD), (∀ z, d ≠ .str z) → t_if (t_tst (t_v (t_isi "str" (t_lname 1)))) P t_next { nx := N, rt := Q } [some (.raw 5), some (.dat d), some (.own ms), x, y, none] := fun P hn => by
      refine if_not (fun K hK => ?_) ?_
      · dsimp only [t_wany, seqY, t_wzipT, seqT, t_gd0, t_disp, t_pcons, t_pnil, t_retdbox, t_dictP, t_sortK, t_callB, t_dnew1, t_pop, t_lenset, t_wseq, t_wzip3, t_astar, t_par3, t_dnew, t_dlist, t_dput, t_dget2, t_din, t_lenScr, t_raise1, t_callX, t_callKX, t_xf, t_isx, runX, t_seq, t_if, t_or, t_and, t_not, t_tst, t_v, t_f, t_l, t_c, t_c1, t_op, t_chain', t_ret, t_asg, t_for, t_wenum, t_wlist, t_wtup, t_wstr, t_wrng1, t_wrng2, t_drop, g_setix, t_wzip, t_lname, t_name, t_next, t_ifx, t_isi, t_notV, t_andV, t_orV, t_call, t_callK, t_acons, t_aconsR, t_anil, t_tupd, t_lstd, g_name, g_tup, g_cons, g_nil, t_drop, t_lc, t_yes, t_star1, t_retn, t_par, t_slice, t_some, t_no, t_dict0, t_rev, t_neg, t_extend, t_append, t_sliceScr, t_retbox, t_xcons, LV.get, CS.at_, SV.view, datsOf, Option.map_some, List.getElem?_cons_zero, List.getElem?_cons_succ, List.set_cons_zero, List.set_cons_succ, settled, initC, List.map_cons, List.map_nil, List.length_cons, List.length_nil, List.cons_append, List.nil_append, seqOf, runD, ltZ, inY, notinY, ixG, lenY, mulZ, max2X, min2X, isY, isnY, sortedX, ltY, gtY, inX, notinX, ordX, boolX, addX, subX, mulX, mulY, modX, fdivX, powX, ltX, leX, gtX, geX, eqY, neY, eqX, neX, isX, isnX, ixX, lenX, listX, tupleX, intX, strX, shX, sumX, sumY, maxX, minX, allX, absX, slX]
        refine ⟨⟨_, rfl⟩, ?_⟩
        cases d <;> first | exact hK | exact absurd rfl (hn _)
      · exact hN _ ⟨ms, _, _, _, l1, by omega, hm, rfl⟩
    cases hd with
    | tup => exact no _ (fun z e => by cases e)
    | plain hp =>
      cases hp with
      | int => exact no _ (fun z e => by cases e)
      | @str u u1 u2 u3 =>
        clear no
        have tu : Tm 10 0 (.str u) := tmP (.str u1 u2 u3)
        refine if_yes (fun K hK => ?_) ?_
        · dsimp only [t_wany, seqY, t_wzipT, seqT, t_gd0, t_disp, t_pcons, t_pnil, t_retdbox, t_dictP, t_sortK, t_callB, t_dnew1, t_pop, t_lenset, t_wseq, t_wzip3, t_astar, t_par3, t_dnew, t_dlist, t_dput, t_dget2, t_din, t_lenScr, t_raise1, t_callX, t_callKX, t_xf, t_isx, runX, t_seq, t_if, t_or, t_and, t_not, t_tst, t_v, t_f, t_l, t_c, t_c1, t_op, t_chain', t_ret, t_asg, t_for, t_wenum, t_wlist, t_wtup, t_wstr, t_wrng1, t_wrng2, t_drop, g_setix, t_wzip, t_lname, t_name, t_next, t_ifx, t_isi, t_notV, t_andV, t_orV, t_call, t_callK, t_acons, t_aconsR, t_anil, t_tupd, t_lstd, g_name, g_tup, g_cons, g_nil, t_drop, t_lc, t_yes, t_star1, t_retn, t_par, t_slice, t_some, t_no, t_dict0, t_rev, t_neg, t_extend, t_append, t_sliceScr, t_retbox, t_xcons, LV.get, CS.at_, SV.view, datsOf, Option.map_some, List.getElem?_cons_zero, List.getElem?_cons_succ, List.set_cons_zero, List.set_cons_succ, settled, initC, List.map_cons, List.map_nil, List.length_cons, List.length_nil, List.cons_append, List.nil_append, seqOf, runD, ltZ, inY, notinY, ixG, lenY, mulZ, max2X, min2X, isY, isnY, sortedX, ltY, gtY, inX, notinX, ordX, boolX, addX, subX, mulX, mulY, modX, fdivX, powX, ltX, leX, gtX, geX, eqY, neY, eqX, neX, isX, isnX, ixX, lenX, listX, tupleX, intX, strX, shX, sumX, sumY, maxX, minX, allX, absX, slX]
          exact ⟨⟨_, rfl⟩, hK⟩
        refine seq_step (fun cs' => ∃ r : Int, ∃ g : Str, g.length = 1 ∧ Tm 1 0 (.str g) ∧ cs' = [some (.raw 5), some (.dat (.str u)), some (.own ms), some (.dat (.int r)), y, some (.dat (.str g))]) (fun N hN => ?_) ?_
        · dsimp only [t_wany, seqY, t_wzipT, seqT, t_gd0, t_disp, t_pcons, t_pnil, t_retdbox, t_dictP, t_sortK, t_callB, t_dnew1, t_pop, t_lenset, t_wseq, t_wzip3, t_astar, t_par3, t_dnew, t_dlist, t_dput, t_dget2, t_din, t_lenScr, t_raise1, t_callX, t_callKX, t_xf, t_isx, runX, t_seq, t_if, t_or, t_and, t_not, t_tst, t_v, t_f, t_l, t_c, t_c1, t_op, t_chain', t_ret, t_asg, t_for, t_wenum, t_wlist, t_wtup, t_wstr, t_wrng1, t_wrng2, t_drop, g_setix, t_wzip, t_lname, t_name, t_next, t_ifx, t_isi, t_notV, t_andV, t_orV, t_call, t_callK, t_acons, t_aconsR, t_anil, t_tupd, t_lstd, g_name, g_tup, g_cons, g_nil, t_drop, t_lc, t_yes, t_star1, t_retn, t_par, t_slice, t_some, t_no, t_dict0, t_rev, t_neg, t_extend, t_append, t_sliceScr, t_retbox, t_xcons, LV.get, CS.at_, SV.view, datsOf, Option.map_some, List.getElem?_cons_zero, List.getElem?_cons_succ, List.set_cons_zero, List.set_cons_succ, settled, initC, List.map_cons, List.map_nil, List.length_cons, List.length_nil, List.cons_append, List.nil_append, seqOf, runD, ltZ, inY, notinY, ixG, lenY, mulZ, max2X, min2X, isY, isnY, sortedX, ltY, gtY, inX, notinX, ordX, boolX, addX, subX, mulX, mulY, modX, fdivX, powX, ltX, leX, gtX, geX, eqY, neY, eqX, neX, isX, isnX, ixX, lenX, listX, tupleX, intX, strX, shX, sumX, sumY, maxX, minX, allX, absX, slX]
          refine ⟨rfl, ⟨_, rfl⟩, by omega, draw_spec (by omega) (by omega) fun r g0 g1 => ?_⟩
          repeat ((with_reducible refine And.intro ?_ ?_); (focus first | exact ⟨_, rfl⟩ | rfl | decide | omega | (simp only [List.length_append, List.length_cons, List.length_nil] at *; omega) | decide +kernel))
          refine pick_list (by simp) (by show 10 < _; decide) fun f hf => ⟨by show 3 < 6; decide, by show 5 < 6; decide, ?_⟩
          simp only [List.mem_cons, List.not_mem_nil, or_false] at hf
          rcases hf with rfl | rfl | rfl | rfl | rfl | rfl | rfl | rfl | rfl | rfl <;> exact hN _ ⟨r, _, by decide +kernel, tm_dec, rfl⟩
        rintro cs ⟨r, g, lg, tg, rfl⟩
        dsimp only [t_wany, seqY, t_wzipT, seqT, t_gd0, t_disp, t_pcons, t_pnil, t_retdbox, t_dictP, t_sortK, t_callB, t_dnew1, t_pop, t_lenset, t_wseq, t_wzip3, t_astar, t_par3, t_dnew, t_dlist, t_dput, t_dget2, t_din, t_lenScr, t_raise1, t_callX, t_callKX, t_xf, t_isx, runX, t_seq, t_if, t_or, t_and, t_not, t_tst, t_v, t_f, t_l, t_c, t_c1, t_op, t_chain', t_ret, t_asg, t_for, t_wenum, t_wlist, t_wtup, t_wstr, t_wrng1, t_wrng2, t_drop, g_setix, t_wzip, t_lname, t_name, t_next, t_ifx, t_isi, t_notV, t_andV, t_orV, t_call, t_callK, t_acons, t_aconsR, t_anil, t_tupd, t_lstd, g_name, g_tup, g_cons, g_nil, t_drop, t_lc, t_yes, t_star1, t_retn, t_par, t_slice, t_some, t_no, t_dict0, t_rev, t_neg, t_extend, t_append, t_sliceScr, t_retbox, t_xcons, LV.get, CS.at_, SV.view, datsOf, Option.map_some, List.getElem?_cons_zero, List.getElem?_cons_succ, List.set_cons_zero, List.set_cons_succ, settled, initC, List.map_cons, List.map_nil, List.length_cons, List.length_nil, List.cons_append, List.nil_append, seqOf, runD, ltZ, inY, notinY, ixG, lenY, mulZ, max2X, min2X, isY, isnY, sortedX, ltY, gtY, inX, notinX, ordX, boolX, addX, subX, mulX, mulY, modX, fdivX, powX, ltX, leX, gtX, geX, eqY, neY, eqX, neX, isX, isnX, ixX, lenX, listX, tupleX, intX, strX, shX, sumX, sumY, maxX, minX, allX, absX, slX]
        have s1 := cutS_tm tu none (some r)
        have s2 := cutS_tm tu (some (r + 1)) none
        have q1 := len_cutS u none (some r)
        have q2 := len_cutS u (some (r + 1)) none
        generalize cutS u none (some r) = v at s1 q1 ⊢
        generalize cutS u (some (r + 1)) none = v2 at s2 q2 ⊢
        have hg := len_appS v g
        have hl2 : ((List.replicate (Int.toNat 4) [PyData.str (v ++ g ++ v2), PyData.str (u ++ g), PyData.str (g ++ u), PyData.str (repS u (Int.toNat 2)), PyData.str v]).flatten).length = 20 := by rw [rep_len]; rfl
        repeat ((with_reducible refine And.intro ?_ ?_); (focus first | exact ⟨_, rfl⟩ | rfl | decide | omega | (simp only [List.length_append, List.length_cons, List.length_nil] at *; omega) | decide +kernel))
        refine hN _ ⟨_, _, _, _, by rw [List.length_append]; omega, by rw [List.length_append, hl2]; omega, fun e he => ?_, rfl⟩
        rcases List.mem_append.mp he with he | he
        · exact hm e he
        have he := rep_mem e he
        simp only [List.mem_cons, List.not_mem_nil, or_false] at he
        rcases he with rfl | rfl | rfl | rfl | rfl
        · exact T3.of (appS_tm (appS_tm s1 tg) s2)
        · exact T3.of (appS_tm tu tg)
        · exact T3.of (appS_tm tg tu)
        · exact T3.of (repS_tm tu 2)
        · exact T3.of s1
  rintro cs ⟨ms, x, y, w, l1, l2, hm, rfl⟩
  dsimp only [t_wany, seqY, t_wzipT, seqT, t_gd0, t_disp, t_pcons, t_pnil, t_retdbox, t_dictP, t_sortK, t_callB, t_dnew1, t_pop, t_lenset, t_wseq, t_wzip3, t_astar, t_par3, t_dnew, t_dlist, t_dput, t_dget2, t_din, t_lenScr, t_raise1, t_callX, t_callKX, t_xf, t_isx, runX, t_seq, t_if, t_or, t_and, t_not, t_tst, t_v, t_f, t_l, t_c, t_c1, t_op, t_chain', t_ret, t_asg, t_for, t_wenum, t_wlist, t_wtup, t_wstr, t_wrng1, t_wrng2, t_drop, g_setix, t_wzip, t_lname, t_name, t_next, t_ifx, t_isi, t_notV, t_andV, t_orV, t_call, t_callK, t_acons, t_aconsR, t_anil, t_tupd, t_lstd, g_name, g_tup, g_cons, g_nil, t_drop, t_lc, t_yes, t_star1, t_retn, t_par, t_slice, t_some, t_no, t_dict0, t_rev, t_neg, t_extend, t_append, t_sliceScr, t_retbox, t_xcons, LV.get, CS.at_, SV.view, datsOf, Option.map_some, List.getElem?_cons_zero, List.getElem?_cons_succ, List.set_cons_zero, List.set_cons_succ, settled, initC, List.map_cons, List.map_nil, List.length_cons, List.length_nil, List.cons_append, List.nil_append, seqOf, runD, ltZ, inY, notinY, ixG, lenY, mulZ, max2X, min2X, isY, isnY, sortedX, ltY, gtY, inX, notinX, ordX, boolX, addX, subX, mulX, mulY, modX, fdivX, powX, ltX, leX, gtX, geX, eqY, neY, eqX, neX, isX, isnX, ixX, lenX, listX, tupleX, intX, strX, shX, sumX, sumY, maxX, minX, allX, absX, slX]
  refine ⟨rfl, pick_list l1 (by omega) fun e he => h e (hm e he)⟩
end Lk

namespace Lk
open PySem PySem.Spec PyProof.Rows L2 Cl Va
theorem flatP {d : PyData} (h : Pl d) : atom d := by cases h <;> exact True.intro
theorem flatV {d : PyData} (h : Vl d) : flat d := by
  cases h with
  | plain h => cases h <;> exact True.intro
  | tup _ _ h => exact fun d hd => flatP (h d hd)
theorem judgedV {d : PyData} (b : Bool) (h : Vl d) {Q : SV → Prop} (hq : Q (.dat (.bool true))) : C__law_is_judged [.dat d, .dat (.bool b)] Q :=
  judged_spec b ((tmV h).mono (by decide) (by decide)) (short_tm (tmV h) (by decide)) (short_in (tmV h) (by decide)) hq
theorem judgedT {d : PyData} (b : Bool) (h : T3 d) {Q : SV → Prop} (hq : Q (.dat (.bool true))) : C__law_is_judged [.dat d, .dat (.bool b)] Q :=
  judged_spec b h (short_tm h (by decide)) (short_in h (by decide)) hq
theorem cut_keep {ds : List PyData} {r : Int} (h0 : 0 ≤ r) (h1 : r < ds.length) : (Cl.cutD ds none (some r)).length ≤ r.toNat := by
  have e : r = ((r.toNat : Nat) : Int) := by omega
  rw [e, cut_take, List.length_take]
  omega
set_option maxHeartbeats 4000000 in
theorem law_spec (ns : List Int) {Q : SV → Prop} (h : Q (.dat (.bool true))) : C_law [.scr ns] Q := by
  refine ⟨rfl, ?_⟩
  have zz : sizeLine = 16777216 := sizeLine_eq
  show T_law _ [some (.scr ns), none, none, none, none, none, none, none, none]
  refine seq_step (fun c => c = [some (.scr ns), some (.raw 5), none, none, none, none, none, none, none]) (fun N hN => ?_) ?_
  · dsimp only [t_wany, seqY, t_wzipT, seqT, t_gd0, t_disp, t_pcons, t_pnil, t_retdbox, t_dictP, t_sortK, t_callB, t_dnew1, t_pop, t_lenset, t_wseq, t_wzip3, t_astar, t_par3, t_dnew, t_dlist, t_dput, t_dget2, t_din, t_lenScr, t_raise1, t_callX, t_callKX, t_xf, t_isx, runX, t_seq, t_if, t_or, t_and, t_not, t_tst, t_v, t_f, t_l, t_c, t_c1, t_op, t_chain', t_ret, t_asg, t_for, t_wenum, t_wlist, t_wtup, t_wstr, t_wrng1, t_wrng2, t_drop, g_setix, t_wzip, t_lname, t_name, t_next, t_ifx, t_isi, t_notV, t_andV, t_orV, t_call, t_callK, t_acons, t_aconsR, t_anil, t_tupd, t_lstd, g_name, g_tup, g_cons, g_nil, t_drop, t_lc, t_yes, t_star1, t_retn, t_par, t_slice, t_some, t_no, t_dict0, t_rev, t_neg, t_extend, t_append, t_sliceScr, t_retbox, t_xcons, LV.get, CS.at_, SV.view, datsOf, Option.map_some, List.getElem?_cons_zero, List.getElem?_cons_succ, List.set_cons_zero, List.set_cons_succ, settled, initC, List.map_cons, List.map_nil, List.length_cons, List.length_nil, List.cons_append, List.nil_append, seqOf, runD, ltZ, inY, notinY, ixG, lenY, mulZ, max2X, min2X, isY, isnY, sortedX, ltY, gtY, inX, notinX, ordX, boolX, addX, subX, mulX, mulY, modX, fdivX, powX, ltX, leX, gtX, geX, eqY, neY, eqX, neX, isX, isnX, ixX, lenX, listX, tupleX, intX, strX, shX, sumX, sumY, maxX, minX, allX, absX, slX]
    exact ⟨rfl, box_spec ns ⟨by show 1 < 9; decide, hN _ rfl⟩⟩
  rintro c rfl
  refine seq_step (fun c => ∃ ds : List PyData, ds.length = 9 ∧ (∀ d ∈ ds, Vl d) ∧ c = [some (.scr ns), some (.raw 5), some (.own ds), none, none, none, none, none, none]) (fun N hN => ?_) ?_
  · dsimp only [t_wany, seqY, t_wzipT, seqT, t_gd0, t_disp, t_pcons, t_pnil, t_retdbox, t_dictP, t_sortK, t_callB, t_dnew1, t_pop, t_lenset, t_wseq, t_wzip3, t_astar, t_par3, t_dnew, t_dlist, t_dput, t_dget2, t_din, t_lenScr, t_raise1, t_callX, t_callKX, t_xf, t_isx, runX, t_seq, t_if, t_or, t_and, t_not, t_tst, t_v, t_f, t_l, t_c, t_c1, t_op, t_chain', t_ret, t_asg, t_for, t_wenum, t_wlist, t_wtup, t_wstr, t_wrng1, t_wrng2, t_drop, g_setix, t_wzip, t_lname, t_name, t_next, t_ifx, t_isi, t_notV, t_andV, t_orV, t_call, t_callK, t_acons, t_aconsR, t_anil, t_tupd, t_lstd, g_name, g_tup, g_cons, g_nil, t_drop, t_lc, t_yes, t_star1, t_retn, t_par, t_slice, t_some, t_no, t_dict0, t_rev, t_neg, t_extend, t_append, t_sliceScr, t_retbox, t_xcons, LV.get, CS.at_, SV.view, datsOf, Option.map_some, List.getElem?_cons_zero, List.getElem?_cons_succ, List.set_cons_zero, List.set_cons_succ, settled, initC, List.map_cons, List.map_nil, List.length_cons, List.length_nil, List.cons_append, List.nil_append, seqOf, runD, ltZ, inY, notinY, ixG, lenY, mulZ, max2X, min2X, isY, isnY, sortedX, ltY, gtY, inX, notinX, ordX, boolX, addX, subX, mulX, mulY, modX, fdivX, powX, ltX, leX, gtX, geX, eqY, neY, eqX, neX, isX, isnX, ixX, lenX, listX, tupleX, intX, strX, shX, sumX, sumY, maxX, minX, allX, absX, slX]
    refine ⟨by decide, by decide, ?_⟩
    refine lcD_ind (I := fun es acc cs => cs = [some (.scr ns), some (.raw 5), none, none, none, none, none, none, none] ∧ acc.length + es.length = 9 ∧ ∀ d ∈ acc, Vl d) ?_ ?_ _ _ _ ⟨rfl, by rw [rangeD_len]; rfl, fun _ z => by cases z⟩
    · rintro acc cs ⟨rfl, hl, ha⟩
      exact ⟨by show 2 < 9; decide, hN _ ⟨acc, hl, ha, rfl⟩⟩
    · rintro d ds acc cs N hN ⟨rfl, hl, ha⟩
      rw [List.length_cons] at hl
      dsimp only [t_wany, seqY, t_wzipT, seqT, t_gd0, t_disp, t_pcons, t_pnil, t_retdbox, t_dictP, t_sortK, t_callB, t_dnew1, t_pop, t_lenset, t_wseq, t_wzip3, t_astar, t_par3, t_dnew, t_dlist, t_dput, t_dget2, t_din, t_lenScr, t_raise1, t_callX, t_callKX, t_xf, t_isx, runX, t_seq, t_if, t_or, t_and, t_not, t_tst, t_v, t_f, t_l, t_c, t_c1, t_op, t_chain', t_ret, t_asg, t_for, t_wenum, t_wlist, t_wtup, t_wstr, t_wrng1, t_wrng2, t_drop, g_setix, t_wzip, t_lname, t_name, t_next, t_ifx, t_isi, t_notV, t_andV, t_orV, t_call, t_callK, t_acons, t_aconsR, t_anil, t_tupd, t_lstd, g_name, g_tup, g_cons, g_nil, t_drop, t_lc, t_yes, t_star1, t_retn, t_par, t_slice, t_some, t_no, t_dict0, t_rev, t_neg, t_extend, t_append, t_sliceScr, t_retbox, t_xcons, LV.get, CS.at_, SV.view, datsOf, Option.map_some, List.getElem?_cons_zero, List.getElem?_cons_succ, List.set_cons_zero, List.set_cons_succ, settled, initC, List.map_cons, List.map_nil, List.length_cons, List.length_nil, List.cons_append, List.nil_append, seqOf, runD, ltZ, inY, notinY, ixG, lenY, mulZ, max2X, min2X, isY, isnY, sortedX, ltY, gtY, inX, notinX, ordX, boolX, addX, subX, mulX, mulY, modX, fdivX, powX, ltX, leX, gtX, geX, eqY, neY, eqX, neX, isX, isnX, ixX, lenX, listX, tupleX, intX, strX, shX, sumX, sumY, maxX, minX, allX, absX, slX]
      refine ⟨by show 3 < 9; decide, iteT ⟨rfl, value_spec fun x hx => ?_⟩⟩
      refine ⟨by omega, hN _ _ ⟨rfl, by rw [List.length_append, List.length_singleton]; omega, fun y hy => ?_⟩⟩
      rcases List.mem_append.mp hy with hy | hy
      · exact ha y hy
      · rw [List.mem_singleton.mp hy]; exact hx
  rintro c ⟨ds, hl, hd, rfl⟩
  refine seq_step (fun c => ∃ ds : List PyData, ∃ x y, 1 ≤ ds.length ∧ ds.length ≤ 12 ∧ (∀ d ∈ ds, Vl d) ∧ c = [some (.scr ns), some (.raw 5), some (.own ds), x, y, none, none, none, none]) (fun N hN => ?_) ?_
  · dsimp only [t_for, t_wrng1, t_acons, t_f, t_c, t_anil]
    refine ⟨by decide, by decide, ?_⟩
    refine forD_ind (I := fun es cs => ∃ ds : List PyData, ∃ x y, 1 ≤ ds.length ∧ ds.length + es.length ≤ 12 ∧ (∀ d ∈ ds, Vl d) ∧ cs = [some (.scr ns), some (.raw 5), some (.own ds), x, y, none, none, none, none]) ?_ ?_ _ _ ⟨ds, none, none, by omega, by rw [rangeD_len]; omega, hd, rfl⟩
    · rintro cs ⟨ds, x, y, l1, l2, hd, rfl⟩
      exact hN _ ⟨ds, x, y, l1, l2, hd, rfl⟩
    · rintro e es cs N' hN' ⟨ds, x, y, l1, l2, hd, rfl⟩
      rw [List.length_cons] at l2
      refine ⟨by show 3 < 9; decide, ?_⟩
      refine seq_step (fun c => ∃ d, Vl d ∧ c = [some (.scr ns), some (.raw 5), some (.own ds), some (.dat e), some (.dat d), none, none, none, none]) (fun N2 hN2 => ?_) ?_
      · dsimp only [t_wany, seqY, t_wzipT, seqT, t_gd0, t_disp, t_pcons, t_pnil, t_retdbox, t_dictP, t_sortK, t_callB, t_dnew1, t_pop, t_lenset, t_wseq, t_wzip3, t_astar, t_par3, t_dnew, t_dlist, t_dput, t_dget2, t_din, t_lenScr, t_raise1, t_callX, t_callKX, t_xf, t_isx, runX, t_seq, t_if, t_or, t_and, t_not, t_tst, t_v, t_f, t_l, t_c, t_c1, t_op, t_chain', t_ret, t_asg, t_for, t_wenum, t_wlist, t_wtup, t_wstr, t_wrng1, t_wrng2, t_drop, g_setix, t_wzip, t_lname, t_name, t_next, t_ifx, t_isi, t_notV, t_andV, t_orV, t_call, t_callK, t_acons, t_aconsR, t_anil, t_tupd, t_lstd, g_name, g_tup, g_cons, g_nil, t_drop, t_lc, t_yes, t_star1, t_retn, t_par, t_slice, t_some, t_no, t_dict0, t_rev, t_neg, t_extend, t_append, t_sliceScr, t_retbox, t_xcons, LV.get, CS.at_, SV.view, datsOf, Option.map_some, List.getElem?_cons_zero, List.getElem?_cons_succ, List.set_cons_zero, List.set_cons_succ, settled, initC, List.map_cons, List.map_nil, List.length_cons, List.length_nil, List.cons_append, List.nil_append, seqOf, runD, ltZ, inY, notinY, ixG, lenY, mulZ, max2X, min2X, isY, isnY, sortedX, ltY, gtY, inX, notinX, ordX, boolX, addX, subX, mulX, mulY, modX, fdivX, powX, ltX, leX, gtX, geX, eqY, neY, eqX, neX, isX, isnX, ixX, lenX, listX, tupleX, intX, strX, shX, sumX, sumY, maxX, minX, allX, absX, slX]
        refine ⟨5, ds, rfl, rfl, pick_list l1 (by omega) fun d hm => ⟨d, rfl, flatV (hd d hm), by show 4 < 9; decide, hN2 _ ⟨d, hd d hm, rfl⟩⟩⟩
      rintro c ⟨d, vd, rfl⟩
      have fin : ∀ w, Vl w → N' [some (.scr ns), some (.raw 5), some (.own (ds ++ [w])), some (.dat e), some (.dat d), none, none, none, none] := fun w hw => hN' _ ⟨_, _, _, by rw [List.length_append]; omega, by rw [List.length_append, List.length_singleton]; omega, fun z hz => by
        rcases List.mem_append.mp hz with hz | hz
        · exact hd z hz
        · rw [List.mem_singleton.mp hz]; exact hw, rfl⟩
      dsimp only [t_wany, seqY, t_wzipT, seqT, t_gd0, t_disp, t_pcons, t_pnil, t_retdbox, t_dictP, t_sortK, t_callB, t_dnew1, t_pop, t_lenset, t_wseq, t_wzip3, t_astar, t_par3, t_dnew, t_dlist, t_dput, t_dget2, t_din, t_lenScr, t_raise1, t_callX, t_callKX, t_xf, t_isx, runX, t_seq, t_if, t_or, t_and, t_not, t_tst, t_v, t_f, t_l, t_c, t_c1, t_op, t_chain', t_ret, t_asg, t_for, t_wenum, t_wlist, t_wtup, t_wstr, t_wrng1, t_wrng2, t_drop, g_setix, t_wzip, t_lname, t_name, t_next, t_ifx, t_isi, t_notV, t_andV, t_orV, t_call, t_callK, t_acons, t_aconsR, t_anil, t_tupd, t_lstd, g_name, g_tup, g_cons, g_nil, t_drop, t_lc, t_yes, t_star1, t_retn, t_par, t_slice, t_some, t_no, t_dict0, t_rev, t_neg, t_extend, t_append, t_sliceScr, t_retbox, t_xcons, LV.get, CS.at_, SV.view, datsOf, Option.map_some, List.getElem?_cons_zero, List.getElem?_cons_succ, List.set_cons_zero, List.set_cons_succ, settled, initC, List.map_cons, List.map_nil, List.length_cons, List.length_nil, List.cons_append, List.nil_append, seqOf, runD, ltZ, inY, notinY, ixG, lenY, mulZ, max2X, min2X, isY, isnY, sortedX, ltY, gtY, inX, notinX, ordX, boolX, addX, subX, mulX, mulY, modX, fdivX, powX, ltX, leX, gtX, geX, eqY, neY, eqX, neX, isX, isnX, ixX, lenX, listX, tupleX, intX, strX, shX, sumX, sumY, maxX, minX, allX, absX, slX]
      refine ⟨⟨_, rfl⟩, ⟨_, rfl⟩, ?_⟩
      cases vd with
      | plain hp =>
        cases hp
        all_goals (refine iteF ⟨by decide, by omega, fin _ (.tup (Nat.le_refl 1) (show 1 ≤ 4 by decide) fun z hz => ?_)⟩; rw [List.mem_singleton.mp hz]; first | exact .int ‹_› ‹_› | exact .str ‹_› ‹_› ‹_›)
      | @tup us h0 h1 hp =>
        refine iteT ⟨⟨_, rfl⟩, rfl, ⟨_, rfl⟩, draw_spec (by omega) (by omega) fun r g0 g1 => ⟨rfl, plain_spec fun p pp => ?_⟩⟩
        have c1 := cut_keep g0 g1
        have c2 := cut_len (ds := us) (lo := none) (hi := some r)
        refine ⟨by decide, by omega, by omega, fin _ (.tup (by simp) (by rw [List.length_append, List.length_singleton]; omega) fun z hz => ?_)⟩
        rcases List.mem_append.mp hz with hz | hz
        · exact hp z (cut_mem z hz)
        · rw [List.mem_singleton.mp hz]; exact pp
  rintro c ⟨ds, x, y, l1, l2, hd, rfl⟩
  refine seq_step (fun c => ∃ x y z w, c = [some (.scr ns), some (.raw 5), some (.dat (.list ds)), x, y, z, w, none, none]) (fun N hN => ?_) ?_
  · dsimp only [t_for, t_wenum, t_acons, t_f, t_name, t_anil, List.getElem?_cons_succ, List.getElem?_cons_zero, SV.view, seqOf, List.set_cons_zero, List.set_cons_succ]
    refine forD_ind (I := fun es cs => ∃ us k x y z w, es = rowsD (enumRs k us) ∧ (∀ d ∈ us, Vl d) ∧ cs = [some (.scr ns), some (.raw 5), some (.dat (.list ds)), x, y, z, w, none, none]) ?_ ?_ _ _ ⟨ds, 0, x, y, none, none, rfl, hd, rfl⟩
    · rintro cs ⟨us, k, x, y, z, w, _, _, rfl⟩
      exact hN _ ⟨x, y, z, w, rfl⟩
    · rintro e es cs N' hN' ⟨us, k, x, y, z, w, e1, hu, rfl⟩
      cases us with
      | nil => cases e1
      | cons u us =>
        cases e1
        have vu := hu u List.mem_cons_self
        refine ⟨rfl, by show 5 < 9; decide, by show 6 < 9; decide, rfl, ?_⟩
        refine seq_step (fun c => c = [some (.scr ns), some (.raw 5), some (.dat (.list ds)), x, y, some (.dat (.int (k : Nat))), some (.dat u), none, none]) (fun N2 hN2 => ?_) ?_
        · dsimp only [t_wany, seqY, t_wzipT, seqT, t_gd0, t_disp, t_pcons, t_pnil, t_retdbox, t_dictP, t_sortK, t_callB, t_dnew1, t_pop, t_lenset, t_wseq, t_wzip3, t_astar, t_par3, t_dnew, t_dlist, t_dput, t_dget2, t_din, t_lenScr, t_raise1, t_callX, t_callKX, t_xf, t_isx, runX, t_seq, t_if, t_or, t_and, t_not, t_tst, t_v, t_f, t_l, t_c, t_c1, t_op, t_chain', t_ret, t_asg, t_for, t_wenum, t_wlist, t_wtup, t_wstr, t_wrng1, t_wrng2, t_drop, g_setix, t_wzip, t_lname, t_name, t_next, t_ifx, t_isi, t_notV, t_andV, t_orV, t_call, t_callK, t_acons, t_aconsR, t_anil, t_tupd, t_lstd, g_name, g_tup, g_cons, g_nil, t_drop, t_lc, t_yes, t_star1, t_retn, t_par, t_slice, t_some, t_no, t_dict0, t_rev, t_neg, t_extend, t_append, t_sliceScr, t_retbox, t_xcons, LV.get, CS.at_, SV.view, datsOf, Option.map_some, List.getElem?_cons_zero, List.getElem?_cons_succ, List.set_cons_zero, List.set_cons_succ, settled, initC, List.map_cons, List.map_nil, List.length_cons, List.length_nil, List.cons_append, List.nil_append, seqOf, runD, ltZ, inY, notinY, ixG, lenY, mulZ, max2X, min2X, isY, isnY, sortedX, ltY, gtY, inX, notinX, ordX, boolX, addX, subX, mulX, mulY, modX, fdivX, powX, ltX, leX, gtX, geX, eqY, neY, eqX, neX, isX, isnX, ixX, lenX, listX, tupleX, intX, strX, shX, sumX, sumY, maxX, minX, allX, absX, slX]
          refine ⟨⟨_, rfl⟩, by decide, judgedV _ vu ?_⟩
          exact iteF (hN2 _ rfl)
        rintro c rfl
        dsimp only [t_for, t_wrng1, t_acons, t_f, t_c, t_anil]
        refine ⟨by decide, by decide, ?_⟩
        refine forD_ind (I := fun es cs => ∃ x, (∃ us : List Int, es = us.map .int) ∧ cs = [some (.scr ns), some (.raw 5), some (.dat (.list ds)), x, y, some (.dat (.int (k : Nat))), some (.dat u), none, none]) ?_ ?_ _ _ ⟨x, ⟨(List.range 3).map fun i => 0 + ((i : Nat) : Int), by unfold rangeD; rw [List.map_map]; rfl⟩, rfl⟩
        · rintro cs ⟨x, _, rfl⟩
          exact hN' _ ⟨us, k + 1, _, _, _, _, rfl, fun d hd => hu d (List.mem_cons_of_mem _ hd), rfl⟩
        · rintro e es cs N3 hN3 ⟨x, ⟨vs, e2⟩, rfl⟩
          cases vs with
          | nil => cases e2
          | cons v vs =>
            cases e2
            dsimp only [t_wany, seqY, t_wzipT, seqT, t_gd0, t_disp, t_pcons, t_pnil, t_retdbox, t_dictP, t_sortK, t_callB, t_dnew1, t_pop, t_lenset, t_wseq, t_wzip3, t_astar, t_par3, t_dnew, t_dlist, t_dput, t_dget2, t_din, t_lenScr, t_raise1, t_callX, t_callKX, t_xf, t_isx, runX, t_seq, t_if, t_or, t_and, t_not, t_tst, t_v, t_f, t_l, t_c, t_c1, t_op, t_chain', t_ret, t_asg, t_for, t_wenum, t_wlist, t_wtup, t_wstr, t_wrng1, t_wrng2, t_drop, g_setix, t_wzip, t_lname, t_name, t_next, t_ifx, t_isi, t_notV, t_andV, t_orV, t_call, t_callK, t_acons, t_aconsR, t_anil, t_tupd, t_lstd, g_name, g_tup, g_cons, g_nil, t_drop, t_lc, t_yes, t_star1, t_retn, t_par, t_slice, t_some, t_no, t_dict0, t_rev, t_neg, t_extend, t_append, t_sliceScr, t_retbox, t_xcons, LV.get, CS.at_, SV.view, datsOf, Option.map_some, List.getElem?_cons_zero, List.getElem?_cons_succ, List.set_cons_zero, List.set_cons_succ, settled, initC, List.map_cons, List.map_nil, List.length_cons, List.length_nil, List.cons_append, List.nil_append, seqOf, runD, ltZ, inY, notinY, ixG, lenY, mulZ, max2X, min2X, isY, isnY, sortedX, ltY, gtY, inX, notinX, ordX, boolX, addX, subX, mulX, mulY, modX, fdivX, powX, ltX, leX, gtX, geX, eqY, neY, eqX, neX, isX, isnX, ixX, lenX, listX, tupleX, intX, strX, shX, sumX, sumY, maxX, minX, allX, absX, slX]
            refine ⟨by show 3 < 9; decide, rfl, odd_spec vu fun o ho => ⟨⟨_, rfl⟩, judgedT _ ho ?_⟩⟩
            exact iteF (hN3 _ ⟨_, ⟨vs, rfl⟩, rfl⟩)
  rintro c ⟨x, y, z, w, rfl⟩
  refine seq_step (fun c => ∃ x y z w v, c = [some (.scr ns), some (.raw 5), some (.dat (.list ds)), x, y, z, w, v, none]) (fun N hN => ?_) ?_
  · dsimp only [t_for, t_wany, seqY, t_f, t_name, List.getElem?_cons_succ, List.getElem?_cons_zero, SV.view]
    refine forD_ind (I := fun es cs => ∃ v, (∀ d ∈ es, Vl d) ∧ cs = [some (.scr ns), some (.raw 5), some (.dat (.list ds)), x, y, z, w, v, none]) ?_ ?_ _ _ ⟨none, hd, rfl⟩
    · rintro cs ⟨v, _, rfl⟩
      exact hN _ ⟨_, _, _, _, v, rfl⟩
    · rintro e es cs N' hN' ⟨v, he, rfl⟩
      dsimp only [t_wany, seqY, t_wzipT, seqT, t_gd0, t_disp, t_pcons, t_pnil, t_retdbox, t_dictP, t_sortK, t_callB, t_dnew1, t_pop, t_lenset, t_wseq, t_wzip3, t_astar, t_par3, t_dnew, t_dlist, t_dput, t_dget2, t_din, t_lenScr, t_raise1, t_callX, t_callKX, t_xf, t_isx, runX, t_seq, t_if, t_or, t_and, t_not, t_tst, t_v, t_f, t_l, t_c, t_c1, t_op, t_chain', t_ret, t_asg, t_for, t_wenum, t_wlist, t_wtup, t_wstr, t_wrng1, t_wrng2, t_drop, g_setix, t_wzip, t_lname, t_name, t_next, t_ifx, t_isi, t_notV, t_andV, t_orV, t_call, t_callK, t_acons, t_aconsR, t_anil, t_tupd, t_lstd, g_name, g_tup, g_cons, g_nil, t_drop, t_lc, t_yes, t_star1, t_retn, t_par, t_slice, t_some, t_no, t_dict0, t_rev, t_neg, t_extend, t_append, t_sliceScr, t_retbox, t_xcons, LV.get, CS.at_, SV.view, datsOf, Option.map_some, List.getElem?_cons_zero, List.getElem?_cons_succ, List.set_cons_zero, List.set_cons_succ, settled, initC, List.map_cons, List.map_nil, List.length_cons, List.length_nil, List.cons_append, List.nil_append, seqOf, runD, ltZ, inY, notinY, ixG, lenY, mulZ, max2X, min2X, isY, isnY, sortedX, ltY, gtY, inX, notinX, ordX, boolX, addX, subX, mulX, mulY, modX, fdivX, powX, ltX, leX, gtX, geX, eqY, neY, eqX, neX, isX, isnX, ixX, lenX, listX, tupleX, intX, strX, shX, sumX, sumY, maxX, minX, allX, absX, slX]
      refine ⟨by show 7 < 9; decide, ?_⟩
      refine lcD_filter (fun _ => false) id _ _ _ (by simp; omega) (fun o ho K N2 k1 k2 => ?_) ?_
      · dsimp only [t_wany, seqY, t_wzipT, seqT, t_gd0, t_disp, t_pcons, t_pnil, t_retdbox, t_dictP, t_sortK, t_callB, t_dnew1, t_pop, t_lenset, t_wseq, t_wzip3, t_astar, t_par3, t_dnew, t_dlist, t_dput, t_dget2, t_din, t_lenScr, t_raise1, t_callX, t_callKX, t_xf, t_isx, runX, t_seq, t_if, t_or, t_and, t_not, t_tst, t_v, t_f, t_l, t_c, t_c1, t_op, t_chain', t_ret, t_asg, t_for, t_wenum, t_wlist, t_wtup, t_wstr, t_wrng1, t_wrng2, t_drop, g_setix, t_wzip, t_lname, t_name, t_next, t_ifx, t_isi, t_notV, t_andV, t_orV, t_call, t_callK, t_acons, t_aconsR, t_anil, t_tupd, t_lstd, g_name, g_tup, g_cons, g_nil, t_drop, t_lc, t_yes, t_star1, t_retn, t_par, t_slice, t_some, t_no, t_dict0, t_rev, t_neg, t_extend, t_append, t_sliceScr, t_retbox, t_xcons, LV.get, CS.at_, SV.view, datsOf, Option.map_some, List.getElem?_cons_zero, List.getElem?_cons_succ, List.set_cons_zero, List.set_cons_succ, settled, initC, List.map_cons, List.map_nil, List.length_cons, List.length_nil, List.cons_append, List.nil_append, seqOf, runD, ltZ, inY, notinY, ixG, lenY, mulZ, max2X, min2X, isY, isnY, sortedX, ltY, gtY, inX, notinX, ordX, boolX, addX, subX, mulX, mulY, modX, fdivX, powX, ltX, leX, gtX, geX, eqY, neY, eqX, neX, isX, isnX, ixX, lenX, listX, tupleX, intX, strX, shX, sumX, sumY, maxX, minX, allX, absX, slX, wipeC]
        exact ⟨by show 8 < 9; decide, told_spec (he e List.mem_cons_self) (hd o ho) (iteF (k2 rfl))⟩
      · rw [restC_wipe]
        have e0 : ([] ++ (ds.filter fun _ => false).map id) = ([] : List PyData) := by simp
        rw [e0]
        refine ⟨Nat.zero_le _, shp_nil.ok, shp_nil.ok, ?_⟩
        exact iteF (hN' _ ⟨_, fun d hd => he d (List.mem_cons_of_mem _ hd), rfl⟩)
  rintro c ⟨x, y, z, w, v, rfl⟩
  have ok : shOk (.list (visort ds)) := by
    have hp := (visort_perm ds)
    exact (Tm.lstOf (W := 44) (D := 1) (n := 12) (fun d hm => tmV (hd d (hp.mem_iff.mp hm))) (by rw [hp.length_eq]; exact l2)).ok (by decide) (by decide)
  dsimp only [t_wany, seqY, t_wzipT, seqT, t_gd0, t_disp, t_pcons, t_pnil, t_retdbox, t_dictP, t_sortK, t_callB, t_dnew1, t_pop, t_lenset, t_wseq, t_wzip3, t_astar, t_par3, t_dnew, t_dlist, t_dput, t_dget2, t_din, t_lenScr, t_raise1, t_callX, t_callKX, t_xf, t_isx, runX, t_seq, t_if, t_or, t_and, t_not, t_tst, t_v, t_f, t_l, t_c, t_c1, t_op, t_chain', t_ret, t_asg, t_for, t_wenum, t_wlist, t_wtup, t_wstr, t_wrng1, t_wrng2, t_drop, g_setix, t_wzip, t_lname, t_name, t_next, t_ifx, t_isi, t_notV, t_andV, t_orV, t_call, t_callK, t_acons, t_aconsR, t_anil, t_tupd, t_lstd, g_name, g_tup, g_cons, g_nil, t_drop, t_lc, t_yes, t_star1, t_retn, t_par, t_slice, t_some, t_no, t_dict0, t_rev, t_neg, t_extend, t_append, t_sliceScr, t_retbox, t_xcons, LV.get, CS.at_, SV.view, datsOf, Option.map_some, List.getElem?_cons_zero, List.getElem?_cons_succ, List.set_cons_zero, List.set_cons_succ, settled, initC, List.map_cons, List.map_nil, List.length_cons, List.length_nil, List.cons_append, List.nil_append, seqOf, runD, ltZ, inY, notinY, ixG, lenY, mulZ, max2X, min2X, isY, isnY, sortedX, ltY, gtY, inX, notinX, ordX, boolX, addX, subX, mulX, mulY, modX, fdivX, powX, ltX, leX, gtX, geX, eqY, neY, eqX, neX, isX, isnX, ixX, lenX, listX, tupleX, intX, strX, shX, sumX, sumY, maxX, minX, allX, absX, slX]
  refine ⟨⟨_, rfl⟩, by omega, ds.map rk, by rw [List.length_map], ksV hd, fun i d k e1 e2 => ?_, ?_⟩
  · rw [List.getElem?_map, e1] at e2
    cases e2
    exact rank_spec (hd d (List.mem_of_getElem? e1)) rfl
  · rw [sortBy_visort hd]
    refine ⟨ok, lsorted_spec hd (by omega) ⟨?_, ?_⟩⟩
    · refine ⟨ok, ?_⟩
      rw [decide_eq_true rfl]
      exact h
    · refine ⟨ok, ?_⟩
      rw [decide_eq_true rfl]
      exact h
end Lk

namespace Lk
open PySem PySem.Spec PyProof.Rows L2 Cl
theorem all_mk {l : PySem.W.OpenLaw} {w : World} {K : PySem.W.Frag} {h : Heap} {mg : Str → Option Value} {fa f0 f1 f2 f3 f4 f5 f6 f7 f8 f9 f10 f11 f12 f13 f14 f15 f16 f17 f18 f19 f20 : Addr} (X0 : K.In h) (Gn : h.Ns mainGlobals mg) (hfa : mg "law" = some (.ref fa))
    {od0 od1 od2 od3 od4 od5 od6 od7 od8 od9 od10 od11 od12 od13 od14 od15 od16 od17 od18 od19 od20 an0 an1 an2 an3 an4 an5 an6 an7 an8 an9 an10 an11 an12 an13 an14 an15 an16 an17 an18 an19 an20 : Option Addr} {sl0 sl1 sl2 sl3 sl4 sl5 sl6 sl7 sl8 sl9 sl10 sl11 sl12 sl13 sl14 sl15 sl16 sl17 sl18 sl19 sl20 : Array (Option Value)} {oc0 oc1 oc2 oc3 oc4 oc5 oc6 oc7 oc8 oc9 oc10 oc11 oc12 oc13 oc14 oc15 oc16 oc17 oc18 oc19 oc20 kV0 kV1 kV2 kV3 kV4 kV5 kV6 kV7 kV8 kV9 kV10 kV11 kV12 kV13 kV14 kV15 kV16 kV17 kV18 kV19 kV20 dc0 dc1 dc2 dc3 dc4 dc5 dc6 dc7 dc8 dc9 dc10 dc11 dc12 dc13 dc14 dc15 dc16 dc17 dc18 dc19 dc20 pm0 pm1 pm2 pm3 pm4 pm5 pm6 pm7 pm8 pm9 pm10 pm11 pm12 pm13 pm14 pm15 pm16 pm17 pm18 pm19 pm20 cd0 cd1 cd2 cd3 cd4 cd5 cd6 cd7 cd8 cd9 cd10 cd11 cd12 cd13 cd14 cd15 cd16 cd17 cd18 cd19 cd20 ct0 ct1 ct2 ct3 ct4 ct5 ct6 ct7 ct8 ct9 ct10 ct11 ct12 ct13 ct14 ct15 ct16 ct17 ct18 ct19 ct20 : Value}
    {tk_LETTERS tk_MAX_ITEMS tk_MAX_NUMBER tk_MAX_WORD : Tok}
    (a0 : PySem.W.nsIn K mainGlobals "is_integer" = some (some (.ref f0))) (l0 : K.lookup f0 = some ⟨oc0, od0, .func (PySem.W.fnOf "is_integer" "is_integer" (defArgs S_is_integer) (defBody S_is_integer) (defScope S_is_integer) .none kV0 dc0 pm0 an0 cd0 ct0), sl0⟩) (c0 : PySem.W.codeIn K cd0 "is_integer" = true) (k0 : PySem.W.keepIn K (.ref f0) = true)
    (a1 : PySem.W.nsIn K mainGlobals "is_word" = some (some (.ref f1))) (l1 : K.lookup f1 = some ⟨oc1, od1, .func (PySem.W.fnOf "is_word" "is_word" (defArgs S_is_word) (defBody S_is_word) (defScope S_is_word) .none kV1 dc1 pm1 an1 cd1 ct1), sl1⟩) (c1 : PySem.W.codeIn K cd1 "is_word" = true) (k1 : PySem.W.keepIn K (.ref f1) = true)
    (a2 : PySem.W.nsIn K mainGlobals "is_plain" = some (some (.ref f2))) (l2 : K.lookup f2 = some ⟨oc2, od2, .func (PySem.W.fnOf "is_plain" "is_plain" (defArgs S_is_plain) (defBody S_is_plain) (defScope S_is_plain) .none kV2 dc2 pm2 an2 cd2 ct2), sl2⟩) (c2 : PySem.W.codeIn K cd2 "is_plain" = true) (k2 : PySem.W.keepIn K (.ref f2) = true)
    (a3 : PySem.W.nsIn K mainGlobals "is_value" = some (some (.ref f3))) (l3 : K.lookup f3 = some ⟨oc3, od3, .func (PySem.W.fnOf "is_value" "is_value" (defArgs S_is_value) (defBody S_is_value) (defScope S_is_value) .none kV3 dc3 pm3 an3 cd3 ct3), sl3⟩) (c3 : PySem.W.codeIn K cd3 "is_value" = true) (k3 : PySem.W.keepIn K (.ref f3) = true)
    (a4 : PySem.W.nsIn K mainGlobals "value_rank" = some (some (.ref f4))) (l4 : K.lookup f4 = some ⟨oc4, od4, .func (PySem.W.fnOf "value_rank" "value_rank" (defArgs S_value_rank) (defBody S_value_rank) (defScope S_value_rank) .none kV4 dc4 pm4 an4 cd4 ct4), sl4⟩) (c4 : PySem.W.codeIn K cd4 "value_rank" = true) (k4 : PySem.W.keepIn K (.ref f4) = true)
    (a5 : PySem.W.nsIn K mainGlobals "_law_box" = some (some (.ref f5))) (l5 : K.lookup f5 = some ⟨oc5, od5, .func (PySem.W.fnOf "_law_box" "_law_box" (defArgs S__law_box) (defBody S__law_box) (defScope S__law_box) .none kV5 dc5 pm5 an5 cd5 ct5), sl5⟩) (c5 : PySem.W.codeIn K cd5 "_law_box" = true) (k5 : PySem.W.keepIn K (.ref f5) = true)
    (a6 : PySem.W.nsIn K mainGlobals "_law_draw" = some (some (.ref f6))) (l6 : K.lookup f6 = some ⟨oc6, od6, .func (PySem.W.fnOf "_law_draw" "_law_draw" (defArgs S__law_draw) (defBody S__law_draw) (defScope S__law_draw) .none kV6 dc6 pm6 an6 cd6 ct6), sl6⟩) (c6 : PySem.W.codeIn K cd6 "_law_draw" = true) (k6 : PySem.W.keepIn K (.ref f6) = true)
    (a7 : PySem.W.nsIn K mainGlobals "_law_pick" = some (some (.ref f7))) (l7 : K.lookup f7 = some ⟨oc7, od7, .func (PySem.W.fnOf "_law_pick" "_law_pick" (defArgs S__law_pick) (defBody S__law_pick) (defScope S__law_pick) .none kV7 dc7 pm7 an7 cd7 ct7), sl7⟩) (c7 : PySem.W.codeIn K cd7 "_law_pick" = true) (k7 : PySem.W.keepIn K (.ref f7) = true)
    (a8 : PySem.W.nsIn K mainGlobals "_law_word" = some (some (.ref f8))) (l8 : K.lookup f8 = some ⟨oc8, od8, .func (PySem.W.fnOf "_law_word" "_law_word" (defArgs S__law_word) (defBody S__law_word) (defScope S__law_word) .none kV8 dc8 pm8 an8 cd8 ct8), sl8⟩) (c8 : PySem.W.codeIn K cd8 "_law_word" = true) (k8 : PySem.W.keepIn K (.ref f8) = true)
    (a9 : PySem.W.nsIn K mainGlobals "_law_plain" = some (some (.ref f9))) (l9 : K.lookup f9 = some ⟨oc9, od9, .func (PySem.W.fnOf "_law_plain" "_law_plain" (defArgs S__law_plain) (defBody S__law_plain) (defScope S__law_plain) .none kV9 dc9 pm9 an9 cd9 ct9), sl9⟩) (c9 : PySem.W.codeIn K cd9 "_law_plain" = true) (k9 : PySem.W.keepIn K (.ref f9) = true)
    (a10 : PySem.W.nsIn K mainGlobals "_law_value" = some (some (.ref f10))) (l10 : K.lookup f10 = some ⟨oc10, od10, .func (PySem.W.fnOf "_law_value" "_law_value" (defArgs S__law_value) (defBody S__law_value) (defScope S__law_value) .none kV10 dc10 pm10 an10 cd10 ct10), sl10⟩) (c10 : PySem.W.codeIn K cd10 "_law_value" = true) (k10 : PySem.W.keepIn K (.ref f10) = true)
    (a11 : PySem.W.nsIn K mainGlobals "_law_odd" = some (some (.ref f11))) (l11 : K.lookup f11 = some ⟨oc11, od11, .func (PySem.W.fnOf "_law_odd" "_law_odd" (defArgs S__law_odd) (defBody S__law_odd) (defScope S__law_odd) .none kV11 dc11 pm11 an11 cd11 ct11), sl11⟩) (c11 : PySem.W.codeIn K cd11 "_law_odd" = true) (k11 : PySem.W.keepIn K (.ref f11) = true)
    (a12 : PySem.W.nsIn K mainGlobals "_law_is_plain" = some (some (.ref f12))) (l12 : K.lookup f12 = some ⟨oc12, od12, .func (PySem.W.fnOf "_law_is_plain" "_law_is_plain" (defArgs S__law_is_plain) (defBody S__law_is_plain) (defScope S__law_is_plain) .none kV12 dc12 pm12 an12 cd12 ct12), sl12⟩) (c12 : PySem.W.codeIn K cd12 "_law_is_plain" = true) (k12 : PySem.W.keepIn K (.ref f12) = true)
    (a13 : PySem.W.nsIn K mainGlobals "_law_is_value" = some (some (.ref f13))) (l13 : K.lookup f13 = some ⟨oc13, od13, .func (PySem.W.fnOf "_law_is_value" "_law_is_value" (defArgs S__law_is_value) (defBody S__law_is_value) (defScope S__law_is_value) .none kV13 dc13 pm13 an13 cd13 ct13), sl13⟩) (c13 : PySem.W.codeIn K cd13 "_law_is_value" = true) (k13 : PySem.W.keepIn K (.ref f13) = true)
    (a14 : PySem.W.nsIn K mainGlobals "_law_kind" = some (some (.ref f14))) (l14 : K.lookup f14 = some ⟨oc14, od14, .func (PySem.W.fnOf "_law_kind" "_law_kind" (defArgs S__law_kind) (defBody S__law_kind) (defScope S__law_kind) .none kV14 dc14 pm14 an14 cd14 ct14), sl14⟩) (c14 : PySem.W.codeIn K cd14 "_law_kind" = true) (k14 : PySem.W.keepIn K (.ref f14) = true)
    (a15 : PySem.W.nsIn K mainGlobals "_law_is_ahead" = some (some (.ref f15))) (l15 : K.lookup f15 = some ⟨oc15, od15, .func (PySem.W.fnOf "_law_is_ahead" "_law_is_ahead" (defArgs S__law_is_ahead) (defBody S__law_is_ahead) (defScope S__law_is_ahead) .none kV15 dc15 pm15 an15 cd15 ct15), sl15⟩) (c15 : PySem.W.codeIn K cd15 "_law_is_ahead" = true) (k15 : PySem.W.keepIn K (.ref f15) = true)
    (a16 : PySem.W.nsIn K mainGlobals "_law_rank" = some (some (.ref f16))) (l16 : K.lookup f16 = some ⟨oc16, od16, .func (PySem.W.fnOf "_law_rank" "_law_rank" (defArgs S__law_rank) (defBody S__law_rank) (defScope S__law_rank) .none kV16 dc16 pm16 an16 cd16 ct16), sl16⟩) (c16 : PySem.W.codeIn K cd16 "_law_rank" = true) (k16 : PySem.W.keepIn K (.ref f16) = true)
    (a17 : PySem.W.nsIn K mainGlobals "_law_is_judged" = some (some (.ref f17))) (l17 : K.lookup f17 = some ⟨oc17, od17, .func (PySem.W.fnOf "_law_is_judged" "_law_is_judged" (defArgs S__law_is_judged) (defBody S__law_is_judged) (defScope S__law_is_judged) .none kV17 dc17 pm17 an17 cd17 ct17), sl17⟩) (c17 : PySem.W.codeIn K cd17 "_law_is_judged" = true) (k17 : PySem.W.keepIn K (.ref f17) = true)
    (a18 : PySem.W.nsIn K mainGlobals "_law_is_told" = some (some (.ref f18))) (l18 : K.lookup f18 = some ⟨oc18, od18, .func (PySem.W.fnOf "_law_is_told" "_law_is_told" (defArgs S__law_is_told) (defBody S__law_is_told) (defScope S__law_is_told) .none kV18 dc18 pm18 an18 cd18 ct18), sl18⟩) (c18 : PySem.W.codeIn K cd18 "_law_is_told" = true) (k18 : PySem.W.keepIn K (.ref f18) = true)
    (a19 : PySem.W.nsIn K mainGlobals "_law_sorted" = some (some (.ref f19))) (l19 : K.lookup f19 = some ⟨oc19, od19, .func (PySem.W.fnOf "_law_sorted" "_law_sorted" (defArgs S__law_sorted) (defBody S__law_sorted) (defScope S__law_sorted) .none kV19 dc19 pm19 an19 cd19 ct19), sl19⟩) (c19 : PySem.W.codeIn K cd19 "_law_sorted" = true) (k19 : PySem.W.keepIn K (.ref f19) = true)
    (a20 : PySem.W.nsIn K mainGlobals "law" = some (some (.ref f20))) (l20 : K.lookup f20 = some ⟨oc20, od20, .func (PySem.W.fnOf "law" "law" (defArgs S_law) (defBody S_law) (defScope S_law) .none kV20 dc20 pm20 an20 cd20 ct20), sl20⟩) (c20 : PySem.W.codeIn K cd20 "law" = true) (k20 : PySem.W.keepIn K (.ref f20) = true)
    (z0 : PySem.W.nsIn K mainGlobals "abs" = some none)
    (z1 : PySem.W.nsIn K mainGlobals "all" = some none)
    (z2 : PySem.W.nsIn K mainGlobals "bool" = some none)
    (z3 : PySem.W.nsIn K mainGlobals "enumerate" = some none)
    (z4 : PySem.W.nsIn K mainGlobals "int" = some none)
    (z5 : PySem.W.nsIn K mainGlobals "isinstance" = some none)
    (z6 : PySem.W.nsIn K mainGlobals "len" = some none)
    (z7 : PySem.W.nsIn K mainGlobals "list" = some none)
    (z8 : PySem.W.nsIn K mainGlobals "ord" = some none)
    (z9 : PySem.W.nsIn K mainGlobals "range" = some none)
    (z10 : PySem.W.nsIn K mainGlobals "repr" = some none)
    (z11 : PySem.W.nsIn K mainGlobals "sorted" = some none)
    (z12 : PySem.W.nsIn K mainGlobals "str" = some none)
    (z13 : PySem.W.nsIn K mainGlobals "tuple" = some none)
    (z14 : PySem.W.nsIn K mainGlobals "zip" = some none)
    (g_LETTERS : PySem.W.nsIn K mainGlobals "LETTERS" = some (some (.str ("abcdefghijklmnopqrstuvwxyz") tk_LETTERS)))
    (g_MAX_ITEMS : PySem.W.nsIn K mainGlobals "MAX_ITEMS" = some (some (.int (4) tk_MAX_ITEMS)))
    (g_MAX_NUMBER : PySem.W.nsIn K mainGlobals "MAX_NUMBER" = some (some (.int (999) tk_MAX_NUMBER)))
    (g_MAX_WORD : PySem.W.nsIn K mainGlobals "MAX_WORD" = some (some (.int (8) tk_MAX_WORD)))
    : ∃ fd : FuncData, (∀ (s : Shared) (v : Value), BindsTo s fd ⟨[v], []⟩ [("_law_script", v)]) ∧ ∀ base : Heap, K.In base → base.Ns mainGlobals mg → FnG l.prog w K mg base CX0 7 fa fd ["_law_script"] (spD ⟨K, w⟩ ZPu 1 C_law) := by
  have e := hfa.symm.trans (PySem.W.mg_of X0 Gn a20)
  cases e
  have F0 := fun_mk (st := S_is_integer) l0 c0 k0
  have b0 := F0.binds (ps := ["value"]) fun _ _ _ _ _ _ us hl => match us, hl with | [_], _ => rfl
  have F1 := fun_mk (st := S_is_word) l1 c1 k1
  have b1 := F1.binds (ps := ["value"]) fun _ _ _ _ _ _ us hl => match us, hl with | [_], _ => rfl
  have F2 := fun_mk (st := S_is_plain) l2 c2 k2
  have b2 := F2.binds (ps := ["value"]) fun _ _ _ _ _ _ us hl => match us, hl with | [_], _ => rfl
  have F3 := fun_mk (st := S_is_value) l3 c3 k3
  have b3 := F3.binds (ps := ["value"]) fun _ _ _ _ _ _ us hl => match us, hl with | [_], _ => rfl
  have F4 := fun_mk (st := S_value_rank) l4 c4 k4
  have b4 := F4.binds (ps := ["value"]) fun _ _ _ _ _ _ us hl => match us, hl with | [_], _ => rfl
  have F5 := fun_mk (st := S__law_box) l5 c5 k5
  have b5 := F5.binds (ps := ["_law_script"]) fun _ _ _ _ _ _ us hl => match us, hl with | [_], _ => rfl
  have F6 := fun_mk (st := S__law_draw) l6 c6 k6
  have b6 := F6.binds (ps := ["_law_box_here", "_law_many"]) fun _ _ _ _ _ _ us hl => match us, hl with | [_, _], _ => rfl
  have F7 := fun_mk (st := S__law_pick) l7 c7 k7
  have b7 := F7.binds (ps := ["_law_box_here", "_law_items"]) fun _ _ _ _ _ _ us hl => match us, hl with | [_, _], _ => rfl
  have F8 := fun_mk (st := S__law_word) l8 c8 k8
  have b8 := F8.binds (ps := ["_law_box_here", "_law_most"]) fun _ _ _ _ _ _ us hl => match us, hl with | [_, _], _ => rfl
  have F9 := fun_mk (st := S__law_plain) l9 c9 k9
  have b9 := F9.binds (ps := ["_law_box_here"]) fun _ _ _ _ _ _ us hl => match us, hl with | [_], _ => rfl
  have F10 := fun_mk (st := S__law_value) l10 c10 k10
  have b10 := F10.binds (ps := ["_law_box_here"]) fun _ _ _ _ _ _ us hl => match us, hl with | [_], _ => rfl
  have F11 := fun_mk (st := S__law_odd) l11 c11 k11
  have b11 := F11.binds (ps := ["_law_box_here", "_law_thing"]) fun _ _ _ _ _ _ us hl => match us, hl with | [_, _], _ => rfl
  have F12 := fun_mk (st := S__law_is_plain) l12 c12 k12
  have b12 := F12.binds (ps := ["_law_thing"]) fun _ _ _ _ _ _ us hl => match us, hl with | [_], _ => rfl
  have F13 := fun_mk (st := S__law_is_value) l13 c13 k13
  have b13 := F13.binds (ps := ["_law_thing"]) fun _ _ _ _ _ _ us hl => match us, hl with | [_], _ => rfl
  have F14 := fun_mk (st := S__law_kind) l14 c14 k14
  have b14 := F14.binds (ps := ["_law_thing"]) fun _ _ _ _ _ _ us hl => match us, hl with | [_], _ => rfl
  have F15 := fun_mk (st := S__law_is_ahead) l15 c15 k15
  have b15 := F15.binds (ps := ["_law_one", "_law_two"]) fun _ _ _ _ _ _ us hl => match us, hl with | [_, _], _ => rfl
  have F16 := fun_mk (st := S__law_rank) l16 c16 k16
  have b16 := F16.binds (ps := ["_law_thing"]) fun _ _ _ _ _ _ us hl => match us, hl with | [_], _ => rfl
  have F17 := fun_mk (st := S__law_is_judged) l17 c17 k17
  have b17 := F17.binds (ps := ["_law_thing", "_law_is_named"]) fun _ _ _ _ _ _ us hl => match us, hl with | [_, _], _ => rfl
  have F18 := fun_mk (st := S__law_is_told) l18 c18 k18
  have b18 := F18.binds (ps := ["_law_one", "_law_two"]) fun _ _ _ _ _ _ us hl => match us, hl with | [_, _], _ => rfl
  have F19 := fun_mk (st := S__law_sorted) l19 c19 k19
  have b19 := F19.binds (ps := ["_law_things"]) fun _ _ _ _ _ _ us hl => match us, hl with | [_], _ => rfl
  have F20 := fun_mk (st := S_law) l20 c20 k20
  have b20 := F20.binds (ps := ["_law_script"]) fun _ _ _ _ _ _ us hl => match us, hl with | [_], _ => rfl
  have X : Tx K mg { a_is_integer := f0, d_is_integer := PySem.W.fnOf "is_integer" "is_integer" (defArgs S_is_integer) (defBody S_is_integer) (defScope S_is_integer) .none kV0 dc0 pm0 an0 cd0 ct0, a_is_word := f1, d_is_word := PySem.W.fnOf "is_word" "is_word" (defArgs S_is_word) (defBody S_is_word) (defScope S_is_word) .none kV1 dc1 pm1 an1 cd1 ct1, a_is_plain := f2, d_is_plain := PySem.W.fnOf "is_plain" "is_plain" (defArgs S_is_plain) (defBody S_is_plain) (defScope S_is_plain) .none kV2 dc2 pm2 an2 cd2 ct2, a_is_value := f3, d_is_value := PySem.W.fnOf "is_value" "is_value" (defArgs S_is_value) (defBody S_is_value) (defScope S_is_value) .none kV3 dc3 pm3 an3 cd3 ct3, a_value_rank := f4, d_value_rank := PySem.W.fnOf "value_rank" "value_rank" (defArgs S_value_rank) (defBody S_value_rank) (defScope S_value_rank) .none kV4 dc4 pm4 an4 cd4 ct4, a__law_box := f5, d__law_box := PySem.W.fnOf "_law_box" "_law_box" (defArgs S__law_box) (defBody S__law_box) (defScope S__law_box) .none kV5 dc5 pm5 an5 cd5 ct5, a__law_draw := f6, d__law_draw := PySem.W.fnOf "_law_draw" "_law_draw" (defArgs S__law_draw) (defBody S__law_draw) (defScope S__law_draw) .none kV6 dc6 pm6 an6 cd6 ct6, a__law_pick := f7, d__law_pick := PySem.W.fnOf "_law_pick" "_law_pick" (defArgs S__law_pick) (defBody S__law_pick) (defScope S__law_pick) .none kV7 dc7 pm7 an7 cd7 ct7, a__law_word := f8, d__law_word := PySem.W.fnOf "_law_word" "_law_word" (defArgs S__law_word) (defBody S__law_word) (defScope S__law_word) .none kV8 dc8 pm8 an8 cd8 ct8, a__law_plain := f9, d__law_plain := PySem.W.fnOf "_law_plain" "_law_plain" (defArgs S__law_plain) (defBody S__law_plain) (defScope S__law_plain) .none kV9 dc9 pm9 an9 cd9 ct9, a__law_value := f10, d__law_value := PySem.W.fnOf "_law_value" "_law_value" (defArgs S__law_value) (defBody S__law_value) (defScope S__law_value) .none kV10 dc10 pm10 an10 cd10 ct10, a__law_odd := f11, d__law_odd := PySem.W.fnOf "_law_odd" "_law_odd" (defArgs S__law_odd) (defBody S__law_odd) (defScope S__law_odd) .none kV11 dc11 pm11 an11 cd11 ct11, a__law_is_plain := f12, d__law_is_plain := PySem.W.fnOf "_law_is_plain" "_law_is_plain" (defArgs S__law_is_plain) (defBody S__law_is_plain) (defScope S__law_is_plain) .none kV12 dc12 pm12 an12 cd12 ct12, a__law_is_value := f13, d__law_is_value := PySem.W.fnOf "_law_is_value" "_law_is_value" (defArgs S__law_is_value) (defBody S__law_is_value) (defScope S__law_is_value) .none kV13 dc13 pm13 an13 cd13 ct13, a__law_kind := f14, d__law_kind := PySem.W.fnOf "_law_kind" "_law_kind" (defArgs S__law_kind) (defBody S__law_kind) (defScope S__law_kind) .none kV14 dc14 pm14 an14 cd14 ct14, a__law_is_ahead := f15, d__law_is_ahead := PySem.W.fnOf "_law_is_ahead" "_law_is_ahead" (defArgs S__law_is_ahead) (defBody S__law_is_ahead) (defScope S__law_is_ahead) .none kV15 dc15 pm15 an15 cd15 ct15, a__law_rank := f16, d__law_rank := PySem.W.fnOf "_law_rank" "_law_rank" (defArgs S__law_rank) (defBody S__law_rank) (defScope S__law_rank) .none kV16 dc16 pm16 an16 cd16 ct16, a__law_is_judged := f17, d__law_is_judged := PySem.W.fnOf "_law_is_judged" "_law_is_judged" (defArgs S__law_is_judged) (defBody S__law_is_judged) (defScope S__law_is_judged) .none kV17 dc17 pm17 an17 cd17 ct17, a__law_is_told := f18, d__law_is_told := PySem.W.fnOf "_law_is_told" "_law_is_told" (defArgs S__law_is_told) (defBody S__law_is_told) (defScope S__law_is_told) .none kV18 dc18 pm18 an18 cd18 ct18, a__law_sorted := f19, d__law_sorted := PySem.W.fnOf "_law_sorted" "_law_sorted" (defArgs S__law_sorted) (defBody S__law_sorted) (defScope S__law_sorted) .none kV19 dc19 pm19 an19 cd19 ct19, a_law := fa, d_law := PySem.W.fnOf "law" "law" (defArgs S_law) (defBody S_law) (defScope S_law) .none kV20 dc20 pm20 an20 cd20 ct20, t_LETTERS := tk_LETTERS, t_MAX_ITEMS := tk_MAX_ITEMS, t_MAX_NUMBER := tk_MAX_NUMBER, t_MAX_WORD := tk_MAX_WORD } := { m_abs := PySem.W.mg_none_of X0 Gn z0, m_all := PySem.W.mg_none_of X0 Gn z1, m_bool := PySem.W.mg_none_of X0 Gn z2, m_enumerate := PySem.W.mg_none_of X0 Gn z3, m_int := PySem.W.mg_none_of X0 Gn z4, m_isinstance := PySem.W.mg_none_of X0 Gn z5, m_len := PySem.W.mg_none_of X0 Gn z6, m_list := PySem.W.mg_none_of X0 Gn z7, m_ord := PySem.W.mg_none_of X0 Gn z8, m_range := PySem.W.mg_none_of X0 Gn z9, m_repr := PySem.W.mg_none_of X0 Gn z10, m_sorted := PySem.W.mg_none_of X0 Gn z11, m_str := PySem.W.mg_none_of X0 Gn z12, m_tuple := PySem.W.mg_none_of X0 Gn z13, m_zip := PySem.W.mg_none_of X0 Gn z14, c_LETTERS := PySem.W.mg_of X0 Gn g_LETTERS, c_MAX_ITEMS := PySem.W.mg_of X0 Gn g_MAX_ITEMS, c_MAX_NUMBER := PySem.W.mg_of X0 Gn g_MAX_NUMBER, c_MAX_WORD := PySem.W.mg_of X0 Gn g_MAX_WORD, F_is_integer := F0, g_is_integer := PySem.W.mg_of X0 Gn a0, b_is_integer := b0, F_is_word := F1, g_is_word := PySem.W.mg_of X0 Gn a1, b_is_word := b1, F_is_plain := F2, g_is_plain := PySem.W.mg_of X0 Gn a2, b_is_plain := b2, F_is_value := F3, g_is_value := PySem.W.mg_of X0 Gn a3, b_is_value := b3, F_value_rank := F4, g_value_rank := PySem.W.mg_of X0 Gn a4, b_value_rank := b4, F__law_box := F5, g__law_box := PySem.W.mg_of X0 Gn a5, b__law_box := b5, F__law_draw := F6, g__law_draw := PySem.W.mg_of X0 Gn a6, b__law_draw := b6, F__law_pick := F7, g__law_pick := PySem.W.mg_of X0 Gn a7, b__law_pick := b7, F__law_word := F8, g__law_word := PySem.W.mg_of X0 Gn a8, b__law_word := b8, F__law_plain := F9, g__law_plain := PySem.W.mg_of X0 Gn a9, b__law_plain := b9, F__law_value := F10, g__law_value := PySem.W.mg_of X0 Gn a10, b__law_value := b10, F__law_odd := F11, g__law_odd := PySem.W.mg_of X0 Gn a11, b__law_odd := b11, F__law_is_plain := F12, g__law_is_plain := PySem.W.mg_of X0 Gn a12, b__law_is_plain := b12, F__law_is_value := F13, g__law_is_value := PySem.W.mg_of X0 Gn a13, b__law_is_value := b13, F__law_kind := F14, g__law_kind := PySem.W.mg_of X0 Gn a14, b__law_kind := b14, F__law_is_ahead := F15, g__law_is_ahead := PySem.W.mg_of X0 Gn a15, b__law_is_ahead := b15, F__law_rank := F16, g__law_rank := PySem.W.mg_of X0 Gn a16, b__law_rank := b16, F__law_is_judged := F17, g__law_is_judged := PySem.W.mg_of X0 Gn a17, b__law_is_judged := b17, F__law_is_told := F18, g__law_is_told := PySem.W.mg_of X0 Gn a18, b__law_is_told := b18, F__law_sorted := F19, g__law_sorted := PySem.W.mg_of X0 Gn a19, b__law_sorted := b19, F_law := F20, g_law := PySem.W.mg_of X0 Gn a20, b_law := b20 }
  exact ⟨PySem.W.fnOf "law" "law" (defArgs S_law) (defBody S_law) (defScope S_law) .none kV20 dc20 pm20 an20 cd20 ct20, fun s v => .of_eq rfl, fun base _ _ => ok_law (P := l.prog) (w := w) (base := base) X⟩
end Lk
open PySem PySem.W PyProof.Rows
set_option maxHeartbeats 0 in
theorem PySem.Challenge.cw_onlyhigher_k01_what_is_a_value_holds : PySem.Challenge.rw_onlyhigher_k01_what_is_a_value.Holds := by
  w_on; o_law; k_head; (case hw => w_witness2)
  k_fill
  refine Cl.walkG (l := PySem.Challenge.rw_onlyhigher_k01_what_is_a_value) (n := 63) (k := 7) (x := "_law_script") (CX := fun _ => L2.CX0) (sp := fun w => Cl.spD ⟨_, w⟩ Cl.ZPu 1 Lk.C_law) rfl (by decide) rfl ⟨rfl, by decide, by decide⟩ (fun w h Y => PySem.W.kIn_of Y) ?F (fun _ _ a ns hl ho hS => Cl.law_want ho hS (Lk.law_spec ns rfl)) (fun _ _ _ _ _ h => h)
  case F =>
    intro w mg fa h KX Gn hmg
    refine' Lk.all_mk KX Gn hmg ?a0 ?l0 ?c0 ?k0 ?a1 ?l1 ?c1 ?k1 ?a2 ?l2 ?c2 ?k2 ?a3 ?l3 ?c3 ?k3 ?a4 ?l4 ?c4 ?k4 ?a5 ?l5 ?c5 ?k5 ?a6 ?l6 ?c6 ?k6 ?a7 ?l7 ?c7 ?k7 ?a8 ?l8 ?c8 ?k8 ?a9 ?l9 ?c9 ?k9 ?a10 ?l10 ?c10 ?k10 ?a11 ?l11 ?c11 ?k11 ?a12 ?l12 ?c12 ?k12 ?a13 ?l13 ?c13 ?k13 ?a14 ?l14 ?c14 ?k14 ?a15 ?l15 ?c15 ?k15 ?a16 ?l16 ?c16 ?k16 ?a17 ?l17 ?c17 ?k17 ?a18 ?l18 ?c18 ?k18 ?a19 ?l19 ?c19 ?k19 ?a20 ?l20 ?c20 ?k20 ?z0 ?z1 ?z2 ?z3 ?z4 ?z5 ?z6 ?z7 ?z8 ?z9 ?z10 ?z11 ?z12 ?z13 ?z14 ?g_LETTERS ?g_MAX_ITEMS ?g_MAX_NUMBER ?g_MAX_WORD
    (case a0 => k_is); (case l0 => k_is); (case c0 => k_is); (case k0 => k_is); (case a1 => k_is); (case l1 => k_is); (case c1 => k_is); (case k1 => k_is); (case a2 => k_is); (case l2 => k_is); (case c2 => k_is); (case k2 => k_is); (case a3 => k_is); (case l3 => k_is); (case c3 => k_is); (case k3 => k_is); (case a4 => k_is); (case l4 => k_is); (case c4 => k_is); (case k4 => k_is); (case a5 => k_is); (case l5 => k_is); (case c5 => k_is); (case k5 => k_is); (case a6 => k_is); (case l6 => k_is); (case c6 => k_is); (case k6 => k_is); (case a7 => k_is); (case l7 => k_is); (case c7 => k_is); (case k7 => k_is); (case a8 => k_is); (case l8 => k_is); (case c8 => k_is); (case k8 => k_is); (case a9 => k_is); (case l9 => k_is); (case c9 => k_is); (case k9 => k_is); (case a10 => k_is); (case l10 => k_is); (case c10 => k_is); (case k10 => k_is); (case a11 => k_is); (case l11 => k_is); (case c11 => k_is); (case k11 => k_is); (case a12 => k_is); (case l12 => k_is); (case c12 => k_is); (case k12 => k_is); (case a13 => k_is); (case l13 => k_is); (case c13 => k_is); (case k13 => k_is); (case a14 => k_is); (case l14 => k_is); (case c14 => k_is); (case k14 => k_is); (case a15 => k_is); (case l15 => k_is); (case c15 => k_is); (case k15 => k_is); (case a16 => k_is); (case l16 => k_is); (case c16 => k_is); (case k16 => k_is); (case a17 => k_is); (case l17 => k_is); (case c17 => k_is); (case k17 => k_is); (case a18 => k_is); (case l18 => k_is); (case c18 => k_is); (case k18 => k_is); (case a19 => k_is); (case l19 => k_is); (case c19 => k_is); (case k19 => k_is); (case a20 => k_is); (case l20 => k_is); (case c20 => k_is); (case k20 => k_is); (case z0 => k_is); (case z1 => k_is); (case z2 => k_is); (case z3 => k_is); (case z4 => k_is); (case z5 => k_is); (case z6 => k_is); (case z7 => k_is); (case z8 => k_is); (case z9 => k_is); (case z10 => k_is); (case z11 => k_is); (case z12 => k_is); (case z13 => k_is); (case z14 => k_is); (case g_LETTERS => k_is); (case g_MAX_ITEMS => k_is); (case g_MAX_NUMBER => k_is); (case g_MAX_WORD => k_is)

