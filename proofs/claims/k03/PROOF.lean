import PyProof.Rows.All
import Wide.All
import OpenK.AllK
import Wide.FinOn
import HandS.ForMost
import HandS.TupAny
import HandS.TupMul
import HandS.Wide
import HandS.IsInst
import HandS.NoneIn
import KE.GoesNew
import HandS.Star
import HandS.Style
import KE.KDictDisplayH
import KE.DataMinMax
import KE.SortData
import PyProof.P3In
import HandS.Dict
import HandS.Small
import HandS.ExcInit
import HandS.ExcField
import HandS.ExcIs
import HandS.ExcOwn
import HandS.Exc
import KE.KTupSum
import PySem.Challenge.RW_onlyhigher_k03_states_in_order
set_option Elab.async false
set_option linter.all false
set_option maxRecDepth 100000
/-! Cl: a clean layer over HandS: values as data trees, local lists by value, frozen data, a typed region. -/
namespace Cl
open PySem PySem.Spec PyProof.Rows L2

abbrev St := L2.St

inductive SV where
  | dat (d : PyData)
  | own (xs : List PyData)
  | raw (t : Nat)
  | scr (ns : List Int)
  /-- a caught exception: its address, its class by number, its dict, its fields -/
  | exc (a : Addr) (n : Nat) (d : Option Addr) (fs : List (Str × PyData))

abbrev CS := List (Option SV)

structure GW where
  fz : Addr → Prop
  zs : Addr → Option Nat

/-- the entries of a dict at a -/
def DictHas (a : Addr) (es : List DictEntry) (h : Heap) : Prop :=
  a ≠ sysModules ∧ ∃ o ep, h.get? a = some o ∧ o.ExactDict ∧ o.data = .dict es.toArray ep

mutual
inductive Rp (K : PySem.W.Frag) (H : Hp) (fz : Addr → Prop) : PyData → V → Prop
  | non : Rp K H fz .none .non
  | bl (b : Bool) : Rp K H fz (.bool b) (.bl b)
  | int (i : Int) : Rp K H fz (.int i) (.int i)
  | str (x : Str) : Rp K H fz (.str x) (.str x)
  | lst {a : Addr} {xs : List V} {ds : List PyData} : fz a → H a = some (.lst xs) → RpAll K H fz ds xs → Rp K H fz (.list ds) (.ref a)
  | tup {a : Addr} {xs : List V} {ds : List PyData} : SqT K H a xs → RpAll K H fz ds xs → Rp K H fz (.tuple ds) (.ref a)
  | dct {a : Addr} {es : List DictEntry} {ks vs : List V} {kvs : List (PyData × PyData)} : fz a → H a = some (.ext (DictHas a es)) →
      Vals ks (es.map (·.key)) → Vals vs (es.map (·.val)) → RpAll K H fz (kvs.map (·.1)) ks → RpAll K H fz (kvs.map (·.2)) vs → Rp K H fz (.dict kvs) (.ref a)
inductive RpAll (K : PySem.W.Frag) (H : Hp) (fz : Addr → Prop) : List PyData → List V → Prop
  | nil : RpAll K H fz [] []
  | cons {v : V} {vs : List V} {d : PyData} {ds : List PyData} : Rp K H fz d v → RpAll K H fz ds vs → RpAll K H fz (d :: ds) (v :: vs)
end

section
variable {K : PySem.W.Frag} {H H' : Hp} {fz fz' : Addr → Prop}
theorem SqT.go (h : ∀ a xs, Rd H a (.tup xs) → Rd H' a (.tup xs)) {a : Addr} {xs : List V} (q : SqT K H a xs) : SqT K H' a xs := by
  rcases q with q | q
  · exact .inl (h _ _ q)
  · exact .inr q
theorem Rd.go {a : Addr} {u : HO} (h : ∀ o, H a = some o → H' a = some o) (q : Rd H a u) : Rd H' a u := by
  rcases q with q | ⟨o, q⟩
  · exact .inl (h _ q)
  · exact .inr ⟨o, h _ q⟩
mutual
theorem Rp.go (m : ∀ a, fz a → fz' a) (k : ∀ a o, fz a → H a = some o → H' a = some o) (t : ∀ a xs, Rd H a (.tup xs) → Rd H' a (.tup xs)) :
    ∀ {d : PyData} {v : V}, Rp K H fz d v → Rp K H' fz' d v
  | _, _, .non => .non
  | _, _, .bl b => .bl b
  | _, _, .int i => .int i
  | _, _, .str x => .str x
  | _, _, .lst h q r => .lst (m _ h) (k _ _ h q) (RpAll.go m k t r)
  | _, _, .tup q r => .tup (SqT.go t q) (RpAll.go m k t r)
  | _, _, .dct h q k1 v1 r1 r2 => .dct (m _ h) (k _ _ h q) k1 v1 (RpAll.go m k t r1) (RpAll.go m k t r2)
theorem RpAll.go (m : ∀ a, fz a → fz' a) (k : ∀ a o, fz a → H a = some o → H' a = some o) (t : ∀ a xs, Rd H a (.tup xs) → Rd H' a (.tup xs)) :
    ∀ {ds : List PyData} {vs : List V}, RpAll K H fz ds vs → RpAll K H' fz' ds vs
  | _, _, .nil => .nil
  | _, _, .cons r s => .cons (Rp.go m k t r) (RpAll.go m k t s)
end
theorem RpAll.length : ∀ {ds : List PyData} {vs : List V}, RpAll K H fz ds vs → ds.length = vs.length
  | _, _, .nil => rfl
  | _, _, .cons _ s => by simp [RpAll.length s]
theorem RpAll.append : ∀ {ds es : List PyData} {vs ws : List V}, RpAll K H fz ds vs → RpAll K H fz es ws → RpAll K H fz (ds ++ es) (vs ++ ws)
  | _, _, _, _, .nil, s => s
  | _, _, _, _, .cons r t, s => .cons r (RpAll.append t s)
theorem RpAll.get : ∀ {ds : List PyData} {vs : List V} {i : Nat} {v : V}, RpAll K H fz ds vs → vs[i]? = some v → ∃ d, ds[i]? = some d ∧ Rp K H fz d v
  | _, _, _, _, .nil, e => by simp at e
  | _, _, 0, _, .cons r _, e => by simp at e; subst e; exact ⟨_, rfl, r⟩
  | _, _, i + 1, v, .cons _ t, e => by
    obtain ⟨d, h1, h2⟩ := RpAll.get (i := i) (v := v) t (by simpa using e)
    exact ⟨d, by simpa using h1, h2⟩
theorem RpAll.get' : ∀ {ds : List PyData} {vs : List V} {i : Nat} {d : PyData}, RpAll K H fz ds vs → ds[i]? = some d → ∃ v, vs[i]? = some v ∧ Rp K H fz d v
  | _, _, _, _, .nil, e => by simp at e
  | _, _, 0, _, .cons r _, e => by simp at e; subst e; exact ⟨_, rfl, r⟩
  | _, _, i + 1, v, .cons _ t, e => by
    obtain ⟨d, h1, h2⟩ := RpAll.get' (i := i) (d := v) t (by simpa using e)
    exact ⟨d, by simpa using h1, h2⟩
theorem RpAll.drop : ∀ {ds : List PyData} {vs : List V} (n : Nat), RpAll K H fz ds vs → RpAll K H fz (ds.drop n) (vs.drop n)
  | _, _, 0, r => r
  | _, _, _ + 1, .nil => .nil
  | _, _, n + 1, .cons _ t => RpAll.drop n t
theorem RpAll.take : ∀ {ds : List PyData} {vs : List V} (n : Nat), RpAll K H fz ds vs → RpAll K H fz (ds.take n) (vs.take n)
  | _, _, 0, _ => .nil
  | _, _, _ + 1, .nil => .nil
  | _, _, n + 1, .cons r t => .cons r (RpAll.take n t)
theorem RpAll.set {d : PyData} {v : V} (r : Rp K H fz d v) : ∀ {ds : List PyData} {vs : List V} (i : Nat), RpAll K H fz ds vs → RpAll K H fz (ds.set i d) (vs.set i v)
  | _, _, _, .nil => .nil
  | _, _, 0, .cons _ t => .cons r t
  | _, _, i + 1, .cons q t => .cons q (RpAll.set r i t)
theorem RpAll.ints : ∀ (ns : List Int), RpAll K H fz (ns.map PyData.int) (ns.map V.int)
  | [] => .nil
  | n :: ns => .cons (.int n) (RpAll.ints ns)
end

/-- the fields of an exception -/
def ExF (K : PySem.W.Frag) (g : GW) (H : Hp) (d : Option Addr) (fs : List (Str × PyData)) : Prop :=
  (d = none ∧ fs = []) ∨ ∃ dx vs, d = some dx ∧ H dx = some (.xd ((fs.map (·.1)).zip vs)) ∧ g.fz dx ∧ RpAll K H g.fz (fs.map (·.2)) vs
theorem ExF.go {K : PySem.W.Frag} {g g' : GW} {H H' : Hp} {d : Option Addr} {fs : List (Str × PyData)} (m : ∀ a, g.fz a → g'.fz a) (k : ∀ a o, g.fz a → H a = some o → H' a = some o) (t : ∀ a xs, Rd H a (.tup xs) → Rd H' a (.tup xs)) (r : ExF K g H d fs) : ExF K g' H' d fs := by
  rcases r with h | ⟨dx, vs, e1, e2, e3, e4⟩
  · exact .inl h
  · exact .inr ⟨dx, vs, e1, k dx _ e3 e2, m dx e3, RpAll.go m k t e4⟩
/-- what a slot's content stands for -/
def RS (K : PySem.W.Frag) (g : GW) (H : Hp) : SV → V → Prop
  | .dat d, v => Rp K H g.fz d v
  | .own xs, v => ∃ a vs, v = .ref a ∧ H a = some (.lst vs) ∧ ¬ g.fz a ∧ g.zs a = none ∧ RpAll K H g.fz xs vs
  | .raw t, v => ∃ a, v = .ref a ∧ g.zs a = some t
  | .scr ns, v => ∃ a, v = .ref a ∧ ((g.fz a ∧ ∃ o, H a = some (.frz o (.lst (ns.map V.int)))) ∨
      ∃ (o : Obj) (its : Array Value) (n : Nat), K.lookup a = some o ∧ o.cls = .type "list" ∧ o.dict = none ∧ o.data = .seq its n ∧ its.size ≤ sizeLine ∧ Vals (ns.map V.int) its.toList)
  | .exc a _ d fs, v => v = .ref a ∧ ExF K g H d fs

def ow (cs : CS) (σ : St) (a : Addr) : Prop := ∃ (i : Nat) (xs : List PyData), cs[i]? = some (some (SV.own xs)) ∧ σ[i]? = some (some (.ref a))

/-- a step: what is kept -/
structure Frm (w : Addr → Prop) (g : GW) (H : Hp) (g' : GW) (H' : Hp) : Prop where
  keep : ∀ a o, H a = some o → g.zs a = none → ¬ w a → H' a = some o
  fzm : ∀ a, g.fz a → g'.fz a
  zsm : ∀ a t, g.zs a = some t → g'.zs a = some t
  fzn : ∀ a o, H a = some o → ¬ w a → g'.fz a → g.fz a
  zsn : ∀ a o, H a = some o → g.zs a = none → g'.zs a = none
  tups : ∀ a xs, Rd H a (.tup xs) → Rd H' a (.tup xs)
  any : ∀ a o, H a = some o → ∃ o', H' a = some o'

abbrev Bs := Hp × GW
abbrev ZF := Nat → (Addr → Option Nat) → HO → Prop
/-- the region's law; what is told of the start -/
structure ZT where
  zp : ZF
  bs : Bs → Prop

structure Rel (K : PySem.W.Frag) (ZP : ZT) (B : Bs) (g : GW) (H : Hp) (cs : CS) (σ : St) : Prop where
  len : cs.length = σ.length
  slot : ∀ (i : Nat) (sv : SV), cs[i]? = some (some sv) → ∃ v, σ[i]? = some (some v) ∧ RS K g H sv v
  sep : ∀ (i j : Nat) (xs ys : List PyData) (a : Addr), cs[i]? = some (some (.own xs)) → cs[j]? = some (some (.own ys)) → σ[i]? = some (some (.ref a)) → σ[j]? = some (some (.ref a)) → i = j
  zok : ∀ a t, g.zs a = some t → ∃ o, H a = some o ∧ ZP.zp t g.zs o
  fzok : ∀ a, g.fz a → (∃ o, H a = some o) ∧ g.zs a = none
  base : Frm (fun _ => False) B.2 B.1 g H
  fresh : ∀ a, ow cs σ a → B.1 a = none
  bs : ZP.bs B

abbrev TD := CS → (SV → CS → Prop) → Prop
abbrev TTD := CS → (Bool → CS → Prop) → Prop
abbrev TAD := CS → (List SV → CS → Prop) → Prop

/-- a temporary list of its own -/
def Tmp (H : Hp) (cs : CS) (σ : St) (sv : SV) (v : V) : Prop := ∀ xs a, sv = .own xs → v = .ref a → ¬ ow cs σ a ∧ H a = none

def tD (K : PySem.W.Frag) (ZP : ZT) (t : TD) : TE := fun σ H Q => ∃ B cs g, Rel K ZP B g H cs σ ∧ ∃ Q', t cs Q' ∧
  ∀ sv cs' v g' H', Q' sv cs' → Rel K ZP B g' H' cs' σ → RS K g' H' sv v → Tmp H cs' σ sv v → (∀ a, ow cs' σ a → ow cs σ a) → Frm (ow cs σ) g H g' H' → Q v H'
def tT (K : PySem.W.Frag) (ZP : ZT) (t : TTD) : TT := fun σ H Q => ∃ B cs g, Rel K ZP B g H cs σ ∧ ∃ Q', t cs Q' ∧
  ∀ b cs' g' H', Q' b cs' → Rel K ZP B g' H' cs' σ → (∀ a, ow cs' σ a → ow cs σ a) → Frm (ow cs σ) g H g' H' → Q b H'

structure DE (X : Cx) (ZP : ZT) (e : Expr) (t : TD) : Prop where
  pe : PE X e (tD X.K ZP t)
structure DT (X : Cx) (ZP : ZT) (e : Expr) (t : TTD) : Prop where
  pt : PT X e (tT X.K ZP t)

section
variable {X : Cx} {e : Expr}
theorem PE.imp {t t' : TE} (h : PE X e t) (m : ∀ σ H Q, t' σ H Q → t σ H Q) : PE X e t' := ⟨fun pins s σ H Q I q => h.run pins s σ H Q I (m _ _ _ q)⟩
theorem PT.imp {t t' : TT} (h : PT X e t) (m : ∀ σ H Q, t' σ H Q → t σ H Q) : PT X e t' := ⟨fun pins s σ H Q I q => h.run pins s σ H Q I (m _ _ _ q)⟩
theorem PS.imp {st : Stmt} {t t' : TS} (h : PS X st t) (m : ∀ D σ H, t' D σ H → t D σ H) : PS X st t' := ⟨fun pins s σ H D I q => h.run pins s σ H D I (m _ _ _ q)⟩
theorem PSs.imp {st : List Stmt} {t t' : TS} (h : PSs X st t) (m : ∀ D σ H, t' D σ H → t D σ H) : PSs X st t' := ⟨fun pins s σ H D I q => h.run pins s σ H D I (m _ _ _ q)⟩
end

/-! ### frames -/
section
variable {K : PySem.W.Frag} {ZP : ZT} {B : Bs} {g g' g2 : GW} {H H' H2 : Hp} {cs cs' : CS} {σ : St} {w w' : Addr → Prop} {p : Addr} {o : HO}
theorem Frm.refl : Frm w g H g H := ⟨fun _ _ e _ _ => e, fun _ h => h, fun _ _ h => h, fun _ _ _ _ h => h, fun _ _ _ h => h, fun _ _ h => h, fun _ o e => ⟨o, e⟩⟩
theorem Frm.mono (f : Frm w g H g' H') (h : ∀ a o, H a = some o → w a → w' a) : Frm w' g H g' H' :=
  ⟨fun a o e z n => f.keep a o e z fun q => n (h a o e q), f.fzm, f.zsm, fun a o e n q => f.fzn a o e (fun r => n (h a o e r)) q, f.zsn, f.tups, f.any⟩
theorem Frm.trans (f : Frm w g H g' H') (f2 : Frm w g' H' g2 H2) : Frm w g H g2 H2 where
  keep := fun a o e z n => f2.keep a o (f.keep a o e z n) (f.zsn a o e z) n
  fzm := fun a h => f2.fzm a (f.fzm a h)
  zsm := fun a t h => f2.zsm a t (f.zsm a t h)
  fzn := fun a o e n h => by
    obtain ⟨o', e'⟩ := f.any a o e
    exact f.fzn a o e n (f2.fzn a o' e' n h)
  zsn := fun a o e z => by
    obtain ⟨o', e'⟩ := f.any a o e
    exact f2.zsn a o' e' (f.zsn a o e z)
  tups := fun a xs h => f2.tups a xs (f.tups a xs h)
  any := fun a o e => by
    obtain ⟨o', e'⟩ := f.any a o e
    exact f2.any a o' e'
theorem Rd.updn {a : Addr} {u : HO} (hp : H p = none) (h : Rd H a u) : Rd (upd H p o) a u := by
  rcases h with h | ⟨x, h⟩
  · exact .inl (by rw [upd_ne (ne_of_none h hp)]; exact h)
  · exact .inr ⟨x, by rw [upd_ne (ne_of_none h hp)]; exact h⟩
/-- a new object -/
theorem Frm.laid (hp : H p = none) : Frm w g H g (upd H p o) where
  keep := fun a u e _ _ => by rw [upd_ne (ne_of_none e hp)]; exact e
  fzm := fun _ h => h
  zsm := fun _ _ h => h
  fzn := fun _ _ _ _ h => h
  zsn := fun _ _ _ h => h
  tups := fun a xs h => Rd.updn hp h
  any := fun a u e => ⟨u, by rw [upd_ne (ne_of_none e hp)]; exact e⟩
theorem Rp.frm {d : PyData} {v : V} (f : Frm w g H g' H') (hw : ∀ a, g.fz a → g.zs a = none ∧ ¬ w a) (r : Rp K H g.fz d v) : Rp K H' g'.fz d v :=
  Rp.go f.fzm (fun a o h e => f.keep a o e (hw a h).1 (hw a h).2) f.tups r
theorem RpAll.frm {ds : List PyData} {vs : List V} (f : Frm w g H g' H') (hw : ∀ a, g.fz a → g.zs a = none ∧ ¬ w a) (r : RpAll K H g.fz ds vs) : RpAll K H' g'.fz ds vs :=
  RpAll.go f.fzm (fun a o h e => f.keep a o e (hw a h).1 (hw a h).2) f.tups r
theorem RS.frm {sv : SV} {v : V} (f : Frm w g H g' H') (hw : ∀ a, g.fz a → g.zs a = none ∧ ¬ w a) (ho : ∀ xs a, sv = .own xs → v = .ref a → ¬ w a) (r : RS K g H sv v) : RS K g' H' sv v := by
  cases sv with
  | dat d => exact Rp.frm f hw r
  | own xs =>
    obtain ⟨a, vs, rfl, h, n1, n2, q⟩ := r
    have nw := ho xs a rfl rfl
    exact ⟨a, vs, rfl, f.keep a _ h n2 nw, fun z => n1 (f.fzn a _ h nw z), f.zsn a _ h n2, q.frm f hw⟩
  | raw t =>
    obtain ⟨a, rfl, h⟩ := r
    exact ⟨a, rfl, f.zsm a t h⟩
  | scr ns =>
    obtain ⟨a, rfl, h⟩ := r
    refine ⟨a, rfl, ?_⟩
    rcases h with ⟨h1, o, h2⟩ | h
    · exact .inl ⟨f.fzm a h1, o, f.keep a _ h2 (hw a h1).1 (hw a h1).2⟩
    · exact .inr h
  | exc a n d fs =>
    obtain ⟨e, h⟩ := r
    refine ⟨e, ?_⟩
    rcases h with h | ⟨dx, vs, e1, e2, e3, e4⟩
    · exact .inl h
    · exact .inr ⟨dx, vs, e1, f.keep dx _ e2 (hw dx e3).1 (hw dx e3).2, f.fzm dx e3, e4.frm f hw⟩
theorem Rel.fzow (R : Rel K ZP B g H cs σ) : ∀ a, g.fz a → g.zs a = none ∧ ¬ ow cs σ a := fun a h => by
  refine ⟨(R.fzok a h).2, ?_⟩
  rintro ⟨i, xs, e1, e2⟩
  obtain ⟨v, e3, r⟩ := R.slot i _ e1
  rw [e2] at e3; cases e3
  obtain ⟨b, vs, e, _, n, _⟩ := r
  cases e
  exact n h
theorem Rel.bnone (R : Rel K ZP B g H cs σ) {a : Addr} (h : H a = none) : B.1 a = none := by
  cases e : B.1 a with
  | none => rfl
  | some o =>
    obtain ⟨o', e'⟩ := R.base.any a o e
    rw [h] at e'; cases e'
theorem Rel.owsome (R : Rel K ZP B g H cs σ) {a : Addr} (h : ow cs σ a) : ∃ vs, H a = some (.lst vs) := by
  obtain ⟨i, xs, e1, e2⟩ := h
  obtain ⟨v, e3, r⟩ := R.slot i _ e1
  rw [e2] at e3; cases e3
  obtain ⟨b, vs, e, h, _⟩ := r
  cases e
  exact ⟨vs, h⟩
/-- a step that leaves the slots' own lists -/
theorem Rel.go (R : Rel K ZP B g H cs σ) (f : Frm (fun _ => False) g H g' H') (z : ∀ a t, g'.zs a = some t → ∃ o, H' a = some o ∧ ZP.zp t g'.zs o) (fz : ∀ a, g'.fz a → (∃ o, H' a = some o) ∧ g'.zs a = none) : Rel K ZP B g' H' cs σ where
  len := R.len
  slot := fun i sv e => by
    obtain ⟨v, e1, r⟩ := R.slot i sv e
    exact ⟨v, e1, r.frm f (fun a h => ⟨(R.fzow a h).1, fun z => z⟩) fun _ _ _ _ z => z⟩
  sep := R.sep
  zok := z
  fzok := fz
  base := R.base.trans f
  fresh := R.fresh
  bs := R.bs
theorem Rel.laid (R : Rel K ZP B g H cs σ) (hp : H p = none) : Rel K ZP B g (upd H p o) cs σ :=
  R.go (Frm.laid hp) (fun a t h => by
    obtain ⟨u, e, q⟩ := R.zok a t h
    exact ⟨u, by rw [upd_ne (ne_of_none e hp)]; exact e, q⟩) fun a h => by
    obtain ⟨⟨u, e⟩, q⟩ := R.fzok a h
    exact ⟨⟨u, by rw [upd_ne (ne_of_none e hp)]; exact e⟩, q⟩
theorem Rel.nofz (R : Rel K ZP B g H cs σ) (hp : H p = none) : ¬ g.fz p ∧ g.zs p = none := by
  refine ⟨fun h => ?_, ?_⟩
  · obtain ⟨⟨u, e⟩, _⟩ := R.fzok p h
    rw [hp] at e; cases e
  · cases z : g.zs p with
    | none => rfl
    | some t =>
      obtain ⟨u, e, _⟩ := R.zok p t z
      rw [hp] at e; cases e
/-- one more address frozen -/
def GW.freeze (g : GW) (a : Addr) : GW := { g with fz := fun b => g.fz b ∨ b = a }
theorem Frm.freeze {a : Addr} (n : ∀ o, H a = some o → w a) : Frm w g H (g.freeze a) H where
  keep := fun _ _ e _ _ => e
  fzm := fun _ h => .inl h
  zsm := fun _ _ h => h
  fzn := fun b o e nw h => by
    rcases h with h | h
    · exact h
    · subst h; exact absurd (n o e) nw
  zsn := fun _ _ _ h => h
  tups := fun _ _ h => h
  any := fun _ o e => ⟨o, e⟩
end
end Cl

namespace Cl
open PySem PySem.Spec PyProof.Rows L2

/-- read as data: the top may be a list of the frame's own -/
def RB (K : PySem.W.Frag) (H : Hp) (fz : Addr → Prop) : PyData → V → Prop
  | .list ds, v => ∃ a vs, v = .ref a ∧ H a = some (.lst vs) ∧ RpAll K H fz ds vs
  | .dict kvs, v => ∃ (a : Addr) (es : List DictEntry) (ks vs : List V), v = .ref a ∧ H a = some (.ext (DictHas a es)) ∧ Vals ks (es.map (·.key)) ∧ Vals vs (es.map (·.val)) ∧
      RpAll K H fz (kvs.map (·.1)) ks ∧ RpAll K H fz (kvs.map (·.2)) vs
  | d, v => Rp K H fz d v
theorem Rp.rb {K : PySem.W.Frag} {H : Hp} {fz : Addr → Prop} {d : PyData} {v : V} (r : Rp K H fz d v) : RB K H fz d v := by
  cases r with
  | non => exact .non
  | bl b => exact .bl b
  | int i => exact .int i
  | str x => exact .str x
  | lst h q r => exact ⟨_, _, rfl, q, r⟩
  | tup q r => exact .tup q r
  | dct h q k1 v1 r1 r2 => exact ⟨_, _, _, _, rfl, q, k1, v1, r1, r2⟩

/-- a result: a thing that is there, or a new tuple, or a new list -/
inductive Res (K : PySem.W.Frag) (H : Hp) (fz : Addr → Prop) : SV → V → Hp → Prop
  | same {d : PyData} {z : V} : Rp K H fz d z → Res K H fz (.dat d) z H
  | tup {ds : List PyData} {vs : List V} {p : Addr} : H p = none → RpAll K H fz ds vs → Res K H fz (.dat (.tuple ds)) (.ref p) (upd H p (.tup vs))
  | lst {ds : List PyData} {vs : List V} {p : Addr} : H p = none → RpAll K H fz ds vs → Res K H fz (.own ds) (.ref p) (upd H p (.lst vs))

section
variable {K : PySem.W.Frag} {ZP : ZT} {B : Bs} {g g' g2 : GW} {H H' H2 : Hp} {cs cs' : CS} {σ : St} {w w' : Addr → Prop} {p : Addr} {o : HO}
theorem RpAll.laid {fz : Addr → Prop} (n : ∀ a, fz a → a ≠ p) (hp : H p = none) {ds : List PyData} {vs : List V} (r : RpAll K H fz ds vs) : RpAll K (upd H p o) fz ds vs :=
  RpAll.go (fun _ h => h) (fun a u h e => by rw [upd_ne (n a h)]; exact e) (fun a xs h => Rd.updn hp h) r
theorem Rel.fzne (R : Rel K ZP B g H cs σ) (hp : H p = none) : ∀ a, g.fz a → a ≠ p := fun a h e => by
  subst e; exact (R.nofz hp).1 h
theorem Res.fin {sv : SV} {z : V} (R : Rel K ZP B g H cs σ) (r : Res K H g.fz sv z H') : Rel K ZP B g H' cs σ ∧ RS K g H' sv z ∧ Tmp H cs σ sv z ∧ Frm (ow cs σ) g H g H' := by
  cases r with
  | same r => exact ⟨R, r, (fun xs a e => nomatch e), .refl⟩
  | @tup ds vs p hp r =>
    exact ⟨R.laid hp, .tup (SqT.of upd_same) (r.laid (R.fzne hp) hp), (fun xs a e => nomatch e), .laid hp⟩
  | @lst ds vs p hp r =>
    have n := R.nofz hp
    refine ⟨R.laid hp, ⟨_, _, rfl, upd_same, n.1, n.2, r.laid (R.fzne hp) hp⟩, fun xs a e1 e2 => ?_, .laid hp⟩
    cases e2
    refine ⟨fun h => ?_, hp⟩
    obtain ⟨vs, e⟩ := R.owsome h
    rw [hp] at e; cases e
/-- a temporary list is frozen -/
theorem Rel.freezeTmp {xs : List PyData} {a : Addr} (R : Rel K ZP B g H cs σ) (r : RS K g H (.own xs) (.ref a)) (n : ¬ ow cs σ a) (hb : B.1 a = none) :
    Rel K ZP B (g.freeze a) H cs σ ∧ Rp K H (g.freeze a).fz (.list xs) (.ref a) := by
  obtain ⟨b, vs, e, h, n1, n2, q⟩ := r
  cases e
  have f : Frm (fun b => b = a) g H (g.freeze a) H := .freeze fun _ _ => rfl
  have q' : RpAll K H (g.freeze a).fz xs vs := RpAll.go (fun _ h => .inl h) (fun _ _ _ e => e) (fun _ _ e => e) q
  refine ⟨⟨R.len, fun i sv e => ?_, R.sep, R.zok, fun b hb => ?_, ?_, R.fresh, R.bs⟩, .lst (.inr rfl) h q'⟩
  · obtain ⟨v, e1, r⟩ := R.slot i sv e
    refine ⟨v, e1, r.frm f (fun b hf => ⟨(R.fzow b hf).1, fun z => ?_⟩) fun ys b e2 e3 e4 => ?_⟩
    · have z : b = a := z
      subst z; exact n1 hf
    · have e4 : b = a := e4
      subst e4; subst e2; subst e3
      exact n ⟨i, ys, e, e1⟩
  · rcases hb with hb | hb
    · exact R.fzok b hb
    · subst hb; exact ⟨⟨_, h⟩, n2⟩
  · refine ⟨R.base.keep, fun b h => .inl (R.base.fzm b h), R.base.zsm, fun b o e nw h => ?_, R.base.zsn, R.base.tups, R.base.any⟩
    rcases h with h | h
    · exact R.base.fzn b o e nw h
    · subst h; rw [hb] at e; cases e
theorem Frm.freezeTmp {a : Addr} (f : Frm w g H g' H') (h : H a = none) : Frm w g H (g'.freeze a) H' where
  keep := f.keep
  fzm := fun b h => .inl (f.fzm b h)
  zsm := f.zsm
  fzn := fun b o e nw q => by
    rcases q with q | q
    · exact f.fzn b o e nw q
    · subst q; rw [h] at e; cases e
  zsn := f.zsn
  tups := f.tups
  any := f.any
/-- a slot's own list is frozen -/
theorem Rel.freezeSlot {i : Nat} {xs : List PyData} {a : Addr} (R : Rel K ZP B g H cs σ) (e1 : cs[i]? = some (some (.own xs))) (e2 : σ[i]? = some (some (.ref a))) :
    Rel K ZP B (g.freeze a) H (cs.set i (some (.dat (.list xs)))) σ ∧ Rp K H (g.freeze a).fz (.list xs) (.ref a) ∧ Frm (ow cs σ) g H (g.freeze a) H ∧ ∀ b, ow (cs.set i (some (.dat (.list xs)))) σ b → ow cs σ b := by
  obtain ⟨v, e3, b, vs, e, h, n1, n2, q⟩ := R.slot i _ e1
  rw [e2] at e3; cases e3
  cases e
  have f : Frm (fun b => b = a) g H (g.freeze a) H := .freeze fun _ _ => rfl
  have q' : RpAll K H (g.freeze a).fz xs vs := RpAll.go (fun _ h => .inl h) (fun _ _ _ e => e) (fun _ _ e => e) q
  have rp : Rp K H (g.freeze a).fz (.list xs) (.ref a) := .lst (.inr rfl) h q'
  have hi : i < cs.length := (List.getElem?_eq_some_iff.mp e1).1
  have hset : ∀ (j : Nat) (sv : SV), (cs.set i (some (.dat (.list xs))))[j]? = some (some sv) → (j = i ∧ sv = .dat (.list xs)) ∨ (j ≠ i ∧ cs[j]? = some (some sv)) := fun j sv e => by
    by_cases hj : j = i
    · subst hj
      rw [List.getElem?_set_self hi] at e
      cases e; exact .inl ⟨rfl, rfl⟩
    · rw [List.getElem?_set_ne (Ne.symm hj)] at e
      exact .inr ⟨hj, e⟩
  have sub : ∀ b, ow (cs.set i (some (.dat (.list xs)))) σ b → ow cs σ b := fun b ⟨j, ys, h1, h2⟩ => by
    rcases hset j _ h1 with ⟨_, z⟩ | ⟨_, z⟩
    · cases z
    · exact ⟨j, ys, z, h2⟩
  have hb : B.1 a = none := R.fresh a ⟨i, xs, e1, e2⟩
  refine ⟨⟨by rw [List.length_set]; exact R.len, fun j sv e => ?_, fun j k ys zs b h1 h2 h3 h4 => ?_, R.zok, fun b hb => ?_, ?_, fun b hb => R.fresh b (sub b hb), R.bs⟩, rp, .freeze fun _ _ => ⟨i, xs, e1, e2⟩, sub⟩
  · rcases hset j sv e with ⟨rfl, rfl⟩ | ⟨hj, e⟩
    · exact ⟨_, e2, rp⟩
    · obtain ⟨v, e3, r⟩ := R.slot j sv e
      refine ⟨v, e3, r.frm f (fun b hf => ⟨(R.fzow b hf).1, fun z => ?_⟩) fun ys b e4 e5 e6 => ?_⟩
      · have z : b = a := z
        subst z; exact n1 hf
      · have e6 : b = a := e6
        subst e6; subst e4; subst e5
        exact hj (R.sep j i ys xs b e e1 e3 e2)
  · rcases hset j _ h1 with ⟨_, z⟩ | ⟨_, z1⟩
    · cases z
    · rcases hset k _ h2 with ⟨_, z⟩ | ⟨_, z2⟩
      · cases z
      · exact R.sep j k ys zs b z1 z2 h3 h4
  · rcases hb with hb | hb
    · exact R.fzok b hb
    · subst hb; exact ⟨⟨_, h⟩, n2⟩
  · refine ⟨R.base.keep, fun b h => .inl (R.base.fzm b h), R.base.zsm, fun b o e nw h => ?_, R.base.zsn, R.base.tups, R.base.any⟩
    rcases h with h | h
    · exact R.base.fzn b o e nw h
    · subst h; rw [hb] at e; cases e
end

/-! ### judgements for data -/
abbrev TVD := CS → (PyData → CS → Prop) → Prop
/-- a left side: data, or a slot that is read when the right side is there -/
inductive LV where
  | now (d : PyData)
  | slot (i : Nat)
abbrev TLD := CS → (LV → CS → Prop) → Prop
def SV.view : SV → Option PyData
  | .dat d => some d
  | .own xs => some (.list xs)
  | .raw _ => none
  | .scr _ => none
  | .exc _ _ _ _ => none
def CS.at_ (cs : CS) (i : Nat) : Option PyData := match cs[i]? with
  | some (some sv) => sv.view
  | _ => none
def LV.get (l : LV) (cs : CS) : Option PyData := match l with
  | .now d => some d
  | .slot i => cs.at_ i
def LOk (K : PySem.W.Frag) (g : GW) (H : Hp) (σ : St) : LV → V → Prop
  | .now d, v => Rp K H g.fz d v
  | .slot i, v => σ[i]? = some (some v)

def tV (K : PySem.W.Frag) (ZP : ZT) (t : TVD) : TE := fun σ H Q => ∃ B cs g, Rel K ZP B g H cs σ ∧ ∃ Q', t cs Q' ∧
  ∀ d cs' v g' H', Q' d cs' → Rel K ZP B g' H' cs' σ → Rp K H' g'.fz d v → (∀ a, ow cs' σ a → ow cs σ a) → Frm (ow cs σ) g H g' H' → Q v H'
def tLt (K : PySem.W.Frag) (ZP : ZT) (t : TLD) : TE := fun σ H Q => ∃ B cs g, Rel K ZP B g H cs σ ∧ ∃ Q', t cs Q' ∧
  ∀ l cs' v g' H', Q' l cs' → Rel K ZP B g' H' cs' σ → LOk K g' H' σ l v → (∀ a, ow cs' σ a → ow cs σ a) → Frm (ow cs σ) g H g' H' → Q v H'
structure DV (X : Cx) (ZP : ZT) (e : Expr) (t : TVD) : Prop where
  pe : PE X e (tV X.K ZP t)
structure DL (X : Cx) (ZP : ZT) (e : Expr) (t : TLD) : Prop where
  pe : PE X e (tLt X.K ZP t)

section
variable {X : Cx} {ZP : ZT} {e a b : Expr} {pos : Pos}
def t_v (t : TVD) : TD := fun cs Q => t cs fun d cs' => Q (.dat d) cs'
theorem de_v {t : TVD} (h : DV X ZP e t) : DE X ZP e (t_v t) := ⟨PE.imp h.pe fun σ H Q ⟨B, cs, g, R, Q', q, k⟩ =>
  ⟨B, cs, g, R, _, q, fun d cs' v g' H' q' R' r s f => k (.dat d) cs' v g' H' q' R' r (fun xs a e => nomatch e) s f⟩⟩
def t_f (t : TD) : TVD := fun cs Q => t cs fun sv cs' => match sv.view with
  | some d => Q d cs'
  | none => False
theorem dv_e {t : TD} (h : DE X ZP e t) : DV X ZP e (t_f t) := by
  refine ⟨PE.imp h.pe ?_⟩
  rintro σ H Q ⟨B, cs, g, R, Q', q, k⟩
  refine ⟨B, cs, g, R, _, q, fun sv cs' v g' H' q' R' r tm s f => ?_⟩
  cases sv with
  | dat d => exact k d cs' v g' H' q' R' r s f
  | raw t => exact q'.elim
  | scr t => exact q'.elim
  | exc _ _ _ _ => exact q'.elim
  | own xs =>
    obtain ⟨a, vs, rfl, h, _⟩ := id r
    obtain ⟨n, hn⟩ := tm xs a rfl rfl
    obtain ⟨R2, r2⟩ := R'.freezeTmp r n (R.bnone hn)
    exact k (.list xs) cs' (.ref a) (g'.freeze a) H' q' R2 r2 s (f.freezeTmp hn)
def t_l (t : TVD) : TLD := fun cs Q => t cs fun d cs' => Q (.now d) cs'
theorem dl_v {t : TVD} (h : DV X ZP e t) : DL X ZP e (t_l t) := ⟨PE.imp h.pe fun σ H Q ⟨B, cs, g, R, Q', q, k⟩ =>
  ⟨B, cs, g, R, _, q, fun d cs' v g' H' q' R' r s f => k (.now d) cs' v g' H' q' R' r s f⟩⟩

/-! ### names -/
def t_lname (i : Nat) : TLD := fun cs Q => (∃ sv, cs[i]? = some (some sv)) ∧ Q (.slot i) cs
theorem dl_name {i : Nat} {x : Str} (hN : X.N[i]? = some x) (hv : Vis X.env.scope x) (hd : (x == ("__debug__" : Str)) = false := by decide) (hcd : (x == ("__classdict__" : Str)) = false := by decide) : DL X ZP (.Name x pos) (t_lname i) := by
  refine ⟨PE.imp (pe_var hN hv hd hcd) ?_⟩
  rintro σ H Q ⟨B, cs, g, R, Q', ⟨⟨sv, e⟩, q⟩, k⟩
  obtain ⟨v, e1, r⟩ := R.slot i sv e
  exact ⟨v, e1, k _ cs v g H q R e1 (fun _ h => h) .refl⟩
def t_name (i : Nat) : TD := fun cs Q => match cs[i]? with
  | some (some (.own xs)) => Q (.dat (.list xs)) (cs.set i (some (.dat (.list xs))))
  | some (some sv) => Q sv cs
  | _ => False
theorem de_name {i : Nat} {x : Str} (hN : X.N[i]? = some x) (hv : Vis X.env.scope x) (hd : (x == ("__debug__" : Str)) = false := by decide) (hcd : (x == ("__classdict__" : Str)) = false := by decide) : DE X ZP (.Name x pos) (t_name i) := by
  refine ⟨PE.imp (pe_var hN hv hd hcd) ?_⟩
  rintro σ H Q ⟨B, cs, g, R, Q', q, k⟩
  unfold t_name at q
  cases e : cs[i]? with
  | none => rw [e] at q; exact q.elim
  | some osv =>
    rw [e] at q
    cases osv with
    | none => exact q.elim
    | some sv =>
      obtain ⟨v, e1, r⟩ := R.slot i sv e
      cases sv with
      | dat d => exact ⟨v, e1, k _ cs v g H q R r (fun _ _ e => nomatch e) (fun _ h => h) .refl⟩
      | raw t => exact ⟨v, e1, k _ cs v g H q R r (fun _ _ e => nomatch e) (fun _ h => h) .refl⟩
      | scr t => exact ⟨v, e1, k _ cs v g H q R r (fun _ _ e => nomatch e) (fun _ h => h) .refl⟩
      | exc _ _ _ _ => exact ⟨v, e1, k _ cs v g H q R r (fun _ _ e => nomatch e) (fun _ h => h) .refl⟩
      | own xs =>
        obtain ⟨a, vs, rfl, _⟩ := id r
        obtain ⟨R2, r2, f2, s2⟩ := R.freezeSlot e e1
        exact ⟨_, e1, k _ _ _ _ H q R2 r2 (fun _ _ e => nomatch e) s2 f2⟩

/-! ### constants -/
def t_c (d : PyData) : TVD := fun cs Q => Q d cs
theorem dv_int {i : Int} {j : Nat} : DV X ZP (.Constant (.int i) j pos) (t_c (.int i)) := ⟨PE.imp pe_int fun σ H Q ⟨B, cs, g, R, Q', q, k⟩ => k _ cs _ g H q R (.int i) (fun _ h => h) .refl⟩
theorem dv_bl {b : Bool} {j : Nat} : DV X ZP (.Constant (.bool b) j pos) (t_c (.bool b)) := ⟨PE.imp pe_bl fun σ H Q ⟨B, cs, g, R, Q', q, k⟩ => k _ cs _ g H q R (.bl b) (fun _ h => h) .refl⟩
theorem dv_non {j : Nat} : DV X ZP (.Constant .none j pos) (t_c .none) := ⟨PE.imp pe_non fun σ H Q ⟨B, cs, g, R, Q', q, k⟩ => k _ cs _ g H q R .non (fun _ h => h) .refl⟩
theorem dv_str {x : Str} {j : Nat} : DV X ZP (.Constant (.str x) j pos) (t_c (.str x)) := ⟨PE.imp pe_str fun σ H Q ⟨B, cs, g, R, Q', q, k⟩ => k _ cs _ g H q R (.str x) (fun _ h => h) .refl⟩
/-- a module's number or text -/
theorem dv_gint {x : Str} {i : Int} {t : Tok} (hg : Gl X x) (hm : X.mg x = some (.int i t)) (hd : (x == ("__debug__" : Str)) = false := by decide) : DV X ZP (.Name x pos) (t_c (.int i)) :=
  ⟨PE.imp (pe_glob (v := .int i) hg hm ⟨t, rfl⟩ hd) fun σ H Q ⟨B, cs, g, R, Q', q, k⟩ => k _ cs _ g H q R (.int i) (fun _ h => h) .refl⟩
theorem dv_gstr {x y : Str} {t : Tok} (hg : Gl X x) (hm : X.mg x = some (.str y t)) (hd : (x == ("__debug__" : Str)) = false := by decide) : DV X ZP (.Name x pos) (t_c (.str y)) :=
  ⟨PE.imp (pe_glob (v := .str y) hg hm ⟨t, rfl⟩ hd) fun σ H Q ⟨B, cs, g, R, Q', q, k⟩ => k _ cs _ g H q R (.str y) (fun _ h => h) .refl⟩
end

section
variable {K : PySem.W.Frag} {ZP : ZT} {B : Bs} {g g1 g2 : GW} {H H1 H2 : Hp} {cs cs1 cs2 : CS} {σ : St}
theorem RS.rb {sv : SV} {v : V} {d : PyData} (r : RS K g H sv v) (e : sv.view = some d) : RB K H g.fz d v := by
  cases sv with
  | dat c => cases e; exact Rp.rb r
  | own xs =>
    cases e
    obtain ⟨a, vs, rfl, h, _, _, q⟩ := r
    exact ⟨a, vs, rfl, h, q⟩
  | raw t => cases e
  | scr t => cases e
  | exc _ _ _ _ => cases e
theorem LOk.rb {l : LV} {v : V} {d : PyData} (R2 : Rel K ZP B g2 H2 cs2 σ) (r : LOk K g2 H2 σ l v) (e : l.get cs2 = some d) : RB K H2 g2.fz d v := by
  cases l with
  | now c => cases e; exact Rp.rb r
  | slot i =>
    unfold LV.get CS.at_ at e
    simp only at e
    cases e1 : cs2[i]? with
    | none => rw [e1] at e; cases e
    | some osv =>
      cases osv with
      | none => rw [e1] at e; cases e
      | some sv =>
        rw [e1] at e
        obtain ⟨u, e2, q⟩ := R2.slot i sv e1
        have r : σ[i]? = some (some v) := r
        rw [e2] at r; cases r
        exact q.rb e
theorem LOk.frm {l : LV} {v : V} (R1 : Rel K ZP B g1 H1 cs1 σ) (f : Frm (ow cs1 σ) g1 H1 g2 H2) (r : LOk K g1 H1 σ l v) : LOk K g2 H2 σ l v := by
  cases l with
  | now c => exact Rp.frm f R1.fzow r
  | slot i => exact r
end

/-! ### operations of two values -/
abbrev OpX := PyData → PyData → (SV → Prop) → Prop
def rO (K : PySem.W.Frag) (o : OpX) : R2 := fun x y H Q => ∃ fz d e, RB K H fz d x ∧ RB K H fz e y ∧ ∃ Q', o d e Q' ∧ ∀ sv z H', Q' sv → Res K H fz sv z H' → Q z H'
def t_op (o : OpX) (ta tb : TLD) : TD := fun cs Q => ta cs fun l cs1 => tb cs1 fun m cs2 => match l.get cs2, m.get cs2 with
  | some d, some e => o d e fun sv => Q sv cs2
  | _, _ => False
section
variable {X : Cx} {ZP : ZT} {a b : Expr} {pos : Pos} {ta tb : TLD} {o : OpX}
theorem op_core {σ : St} {H : Hp} {Q : VK} (h : tD X.K ZP (t_op o ta tb) σ H Q) : tOp (rO X.K o) (tLt X.K ZP ta) (tLt X.K ZP tb) σ H Q := by
  obtain ⟨B, cs, g, R, Q', q, k⟩ := h
  refine ⟨B, cs, g, R, _, q, fun l cs1 v g1 H1 q1 R1 r1 s1 f1 => ?_⟩
  refine ⟨B, cs1, g1, R1, _, q1, fun m cs2 u g2 H2 q2 R2 r2 s2 f2 => ?_⟩
  have r1' := r1.frm R1 f2
  cases e1 : l.get cs2 with
  | none => rw [e1] at q2; exact q2.elim
  | some d =>
    cases e2 : m.get cs2 with
    | none => rw [e1, e2] at q2; exact q2.elim
    | some e =>
      rw [e1, e2] at q2
      refine ⟨g2.fz, d, e, r1'.rb R2 e1, r2.rb R2 e2, _, q2, fun sv z H' q3 rz => ?_⟩
      obtain ⟨R3, r3, t3, f3⟩ := rz.fin R2
      have f12 : Frm (ow cs σ) g H g2 H2 := f1.trans (f2.mono fun a _ _ h => s1 a h)
      have f3' : Frm (ow cs σ) g2 H2 g2 H' := f3.mono fun a _ _ h => s1 a (s2 a h)
      refine k sv cs2 z g2 H' q3 R3 r3 (fun xs a e3 e4 => ?_) (fun a h => s1 a (s2 a h)) (f12.trans f3')
      obtain ⟨n1, n2⟩ := t3 xs a e3 e4
      refine ⟨n1, ?_⟩
      cases e5 : H a with
      | none => rfl
      | some u =>
        obtain ⟨u', e6⟩ := f12.any a u e5
        rw [n2] at e6; cases e6
theorem de_op {op : Operator} (ho : OpR X (binaryOp op) (rO X.K o)) (ha : DL X ZP a ta) (hb : DL X ZP b tb) : DE X ZP (.BinOp a op b pos) (t_op o ta tb) :=
  ⟨PE.imp (pe_op ho ha.pe hb.pe) fun σ H Q h => op_core h⟩
theorem de_cmp {op : CmpOp} (ho : OpR X (compareOp op) (rO X.K o)) (ha : DL X ZP a ta) (hb : DL X ZP b tb) (hm : behindInMarks op b = false := by first | exact nomark _ | with_unfolding_all rfl) : DE X ZP (.Compare a [op] [b] pos) (t_op o ta tb) :=
  ⟨PE.imp (pe_cmpR ho ha.pe hb.pe hm) fun σ H Q h => op_core h⟩
def t_tst (t : TD) : TTD := fun cs Q => t cs fun sv cs' => match sv with
  | .dat (.bool b) => Q b cs'
  | _ => False
theorem dt_cmp {op : CmpOp} (ho : OpR X (compareOp op) (rO X.K o)) (ha : DL X ZP a ta) (hb : DL X ZP b tb) (hm : behindInMarks op b = false := by first | exact nomark _ | with_unfolding_all rfl) : DT X ZP (.Compare a [op] [b] pos) (t_tst (t_op o ta tb)) := by
  refine ⟨PT.imp (pt_cmpR ho ha.pe hb.pe hm) ?_⟩
  rintro σ H Q ⟨B, cs, g, R, Q', q, k⟩
  refine op_core (ZP := ZP) ⟨B, cs, g, R, _, q, fun sv cs' v g' H' q' R' r tm s f => ?_⟩
  cases sv with
  | dat d =>
    cases d with
    | bool b => cases r; exact ⟨b, rfl, k b cs' g' H' q' R' s f⟩
    | _ => exact q'.elim
  | _ => exact q'.elim
theorem dt_val {e : Expr} {t : TD} (h : DE X ZP e t) (he : ∀ whole, isTrue e X.env whole = (do let v ← whole; standAt e.pos; holding [v] (truthy v)) := by intro _; rfl) : DT X ZP e (t_tst t) := by
  refine ⟨PT.imp (pt_val h.pe he) ?_⟩
  rintro σ H Q ⟨B, cs, g, R, Q', q, k⟩
  refine ⟨B, cs, g, R, _, q, fun sv cs' v g' H' q' R' r tm s f => ?_⟩
  cases sv with
  | dat d =>
    cases d with
    | bool b => cases r; exact ⟨b, rfl, k b cs' g' H' q' R' s f⟩
    | _ => exact q'.elim
  | _ => exact q'.elim
end

/-! ### and, or, not -/
structure DW (X : Cx) (ZP : ZT) (e : Expr) (t : TTD) : Prop where
  pw : PW X e (tT X.K ZP t)
section
variable {X : Cx} {ZP : ZT} {e a b : Expr} {pos : Pos} {ta tb : TTD} {rest : List Expr}
theorem PW.imp {t t' : TT} (h : PW X e t) (m : ∀ σ H Q, t' σ H Q → t σ H Q) : PW X e t' := ⟨fun wh pins s σ H Q I q => h.run wh pins s σ H Q I (m _ _ _ q)⟩
theorem dt_w (h : DW X ZP e ta) : DT X ZP e ta := ⟨h.pw.pt⟩
theorem dw_and1 (h : DT X ZP a ta) : DW X ZP (.BoolOp .And [a] pos) ta := ⟨pw_and1 h.pt⟩
theorem dw_or1 (h : DT X ZP a ta) : DW X ZP (.BoolOp .Or [a] pos) ta := ⟨pw_or1 h.pt⟩
def t_and (ta tb : TTD) : TTD := fun cs Q => ta cs fun c cs1 => if c = true then tb cs1 Q else Q false cs1
def t_or (ta tb : TTD) : TTD := fun cs Q => ta cs fun c cs1 => if c = true then Q true cs1 else tb cs1 Q
def t_not (ta : TTD) : TTD := fun cs Q => ta cs fun c cs1 => Q (!c) cs1
theorem dw_and (h : DT X ZP a ta) (h2 : DW X ZP (.BoolOp .And (b :: rest) pos) tb) : DW X ZP (.BoolOp .And (a :: b :: rest) pos) (t_and ta tb) := by
  refine ⟨PW.imp (pw_and h.pt h2.pw) ?_⟩
  rintro σ H Q ⟨B, cs, g, R, Q', q, k⟩
  refine ⟨B, cs, g, R, _, q, fun c cs1 g1 H1 q1 R1 s1 f1 => ?_⟩
  cases c with
  | true =>
    rw [if_pos rfl] at q1 ⊢
    exact ⟨B, cs1, g1, R1, _, q1, fun c2 cs2 g2 H2 q2 R2 s2 f2 => k c2 cs2 g2 H2 q2 R2 (fun a h => s1 a (s2 a h)) (f1.trans (f2.mono fun a _ _ h => s1 a h))⟩
  | false =>
    rw [if_neg Bool.false_ne_true] at q1 ⊢
    exact k false cs1 g1 H1 q1 R1 s1 f1
theorem dw_or (h : DT X ZP a ta) (h2 : DW X ZP (.BoolOp .Or (b :: rest) pos) tb) : DW X ZP (.BoolOp .Or (a :: b :: rest) pos) (t_or ta tb) := by
  refine ⟨PW.imp (pw_or h.pt h2.pw) ?_⟩
  rintro σ H Q ⟨B, cs, g, R, Q', q, k⟩
  refine ⟨B, cs, g, R, _, q, fun c cs1 g1 H1 q1 R1 s1 f1 => ?_⟩
  cases c with
  | false =>
    rw [if_neg Bool.false_ne_true] at q1 ⊢
    exact ⟨B, cs1, g1, R1, _, q1, fun c2 cs2 g2 H2 q2 R2 s2 f2 => k c2 cs2 g2 H2 q2 R2 (fun a h => s1 a (s2 a h)) (f1.trans (f2.mono fun a _ _ h => s1 a h))⟩
  | true =>
    rw [if_pos rfl] at q1 ⊢
    exact k true cs1 g1 H1 q1 R1 s1 f1
theorem dt_not (h : DT X ZP a ta) : DT X ZP (.UnaryOp .Not a pos) (t_not ta) := by
  refine ⟨PT.imp (pt_not h.pt) ?_⟩
  rintro σ H Q ⟨B, cs, g, R, Q', q, k⟩
  exact ⟨B, cs, g, R, _, q, fun c cs1 g1 H1 q1 R1 s1 f1 => k (!c) cs1 g1 H1 q1 R1 s1 f1⟩
/-- .. as values -/
def t_andV (ta : TVD) (tb : TVD) : TVD := fun cs Q => ta cs fun d cs1 => match d with
  | .bool true => tb cs1 Q
  | .bool false => Q (.bool false) cs1
  | _ => False
def t_orV (ta : TVD) (tb : TVD) : TVD := fun cs Q => ta cs fun d cs1 => match d with
  | .bool false => tb cs1 Q
  | .bool true => Q (.bool true) cs1
  | _ => False
def t_notV (ta : TVD) : TVD := fun cs Q => ta cs fun d cs1 => match d with
  | .bool b => Q (.bool (!b)) cs1
  | _ => False
variable {va vb : TVD}
theorem dv_one {op : BoolOp} (h : DV X ZP a va) : DV X ZP (.BoolOp op [a] pos) va := ⟨pe_one h.pe⟩
theorem dv_and (h : DV X ZP a va) (h2 : DV X ZP (.BoolOp .And (b :: rest) pos) vb) : DV X ZP (.BoolOp .And (a :: b :: rest) pos) (t_andV va vb) := by
  refine ⟨PE.imp (pe_and h.pe h2.pe) ?_⟩
  rintro σ H Q ⟨B, cs, g, R, Q', q, k⟩
  refine ⟨B, cs, g, R, _, q, fun d cs1 v g1 H1 q1 R1 r1 s1 f1 => ?_⟩
  cases d with
  | bool c =>
    cases r1
    refine ⟨c, rfl, ?_⟩
    cases c with
    | true =>
      rw [if_pos rfl]
      exact ⟨B, cs1, g1, R1, _, q1, fun c2 cs2 v g2 H2 q2 R2 r2 s2 f2 => k c2 cs2 v g2 H2 q2 R2 r2 (fun a h => s1 a (s2 a h)) (f1.trans (f2.mono fun a _ _ h => s1 a h))⟩
    | false =>
      rw [if_neg Bool.false_ne_true]
      exact k _ cs1 _ g1 H1 q1 R1 (.bl false) s1 f1
  | _ => exact q1.elim
theorem dv_or (h : DV X ZP a va) (h2 : DV X ZP (.BoolOp .Or (b :: rest) pos) vb) : DV X ZP (.BoolOp .Or (a :: b :: rest) pos) (t_orV va vb) := by
  refine ⟨PE.imp (pe_or h.pe h2.pe) ?_⟩
  rintro σ H Q ⟨B, cs, g, R, Q', q, k⟩
  refine ⟨B, cs, g, R, _, q, fun d cs1 v g1 H1 q1 R1 r1 s1 f1 => ?_⟩
  cases d with
  | bool c =>
    cases r1
    refine ⟨c, rfl, ?_⟩
    cases c with
    | false =>
      rw [if_neg Bool.false_ne_true]
      exact ⟨B, cs1, g1, R1, _, q1, fun c2 cs2 v g2 H2 q2 R2 r2 s2 f2 => k c2 cs2 v g2 H2 q2 R2 r2 (fun a h => s1 a (s2 a h)) (f1.trans (f2.mono fun a _ _ h => s1 a h))⟩
    | true =>
      rw [if_pos rfl]
      exact k _ cs1 _ g1 H1 q1 R1 (.bl true) s1 f1
  | _ => exact q1.elim
theorem dv_not (h : DV X ZP a va) : DV X ZP (.UnaryOp .Not a pos) (t_notV va) := by
  refine ⟨PE.imp (pe_not h.pe) ?_⟩
  rintro σ H Q ⟨B, cs, g, R, Q', q, k⟩
  refine ⟨B, cs, g, R, _, q, fun d cs1 v g1 H1 q1 R1 r1 s1 f1 => ?_⟩
  cases d with
  | bool c => cases r1; exact ⟨c, rfl, k _ cs1 _ g1 H1 q1 R1 (.bl _) s1 f1⟩
  | _ => exact q1.elim
/-- a if t else b -/
def t_ifx (c : TTD) (ta tb : TD) : TD := fun cs Q => c cs fun b cs1 => if b = true then ta cs1 Q else tb cs1 Q
theorem de_if {c : Expr} {tc : TTD} {da db : TD} (hc : DT X ZP c tc) (ha : DE X ZP a da) (hb : DE X ZP b db) : DE X ZP (.IfExp c a b pos) (t_ifx tc da db) := by
  refine ⟨PE.imp (pe_ifExp hc.pt ha.pe hb.pe) ?_⟩
  rintro σ H Q ⟨B, cs, g, R, Q', q, k⟩
  refine ⟨B, cs, g, R, _, q, fun c cs1 g1 H1 q1 R1 s1 f1 => ?_⟩
  have go : ∀ sv cs2 v g2 H2, Q' sv cs2 → Rel X.K ZP B g2 H2 cs2 σ → RS X.K g2 H2 sv v → Tmp H1 cs2 σ sv v → (∀ a, ow cs2 σ a → ow cs1 σ a) → Frm (ow cs1 σ) g1 H1 g2 H2 → Q v H2 := fun sv cs2 v g2 H2 q2 R2 r2 t2 s2 f2 => by
    refine k sv cs2 v g2 H2 q2 R2 r2 (fun xs a e3 e4 => ?_) (fun a h => s1 a (s2 a h)) (f1.trans (f2.mono fun a _ _ h => s1 a h))
    obtain ⟨n1, n2⟩ := t2 xs a e3 e4
    refine ⟨n1, ?_⟩
    cases e5 : H a with
    | none => rfl
    | some u =>
      obtain ⟨u', e6⟩ := f1.any a u e5
      rw [n2] at e6; cases e6
  cases c with
  | true =>
    rw [if_pos rfl] at q1
    show tD X.K ZP da σ H1 Q
    exact ⟨B, cs1, g1, R1, _, q1, go⟩
  | false =>
    rw [if_neg Bool.false_ne_true] at q1
    show tD X.K ZP db σ H1 Q
    exact ⟨B, cs1, g1, R1, _, q1, go⟩
end
end Cl

namespace Cl
open PySem PySem.Spec PyProof.Rows L2

section
variable {K : PySem.W.Frag} {H : Hp} {fz : Addr → Prop} {v : V}
theorem RB.non (r : RB K H fz .none v) : v = .non := by
  have r : Rp K H fz .none v := r
  cases r; rfl
theorem RB.bl {b : Bool} (r : RB K H fz (.bool b) v) : v = .bl b := by
  have r : Rp K H fz (.bool b) v := r
  cases r; rfl
theorem RB.int {i : Int} (r : RB K H fz (.int i) v) : v = .int i := by
  have r : Rp K H fz (.int i) v := r
  cases r; rfl
theorem RB.str {x : Str} (r : RB K H fz (.str x) v) : v = .str x := by
  have r : Rp K H fz (.str x) v := r
  cases r; rfl
theorem RB.tup {ds : List PyData} (r : RB K H fz (.tuple ds) v) : ∃ a xs, v = .ref a ∧ SqT K H a xs ∧ RpAll K H fz ds xs := by
  have r : Rp K H fz (.tuple ds) v := r
  cases r with
  | tup q r2 => exact ⟨_, _, rfl, q, r2⟩
theorem RB.lst {ds : List PyData} (r : RB K H fz (.list ds) v) : ∃ a xs, v = .ref a ∧ H a = some (.lst xs) ∧ RpAll K H fz ds xs := r
theorem RpAll.nil_iff {ds : List PyData} {vs : List V} (r : RpAll K H fz ds vs) : vs = [] ↔ ds = [] := by
  cases r <;> simp
end

/-! ### reading data for the library's rules -/
mutual
def listFree : PyData → Bool
  | .none | .bool _ | .int _ | .str _ => true
  | .list _ => false
  | .tuple xs => listFreeAll xs
  | .dict kvs => listFreeKv kvs
def listFreeAll : List PyData → Bool
  | [] => true
  | x :: xs => listFree x && listFreeAll xs
def listFreeKv : List (PyData × PyData) → Bool
  | [] => true
  | (k, v) :: r => listFree k && listFree v && listFreeKv r
end
section
variable {X : Cx} {pins : List (Addr × Obj)} {σ : L2.St} {H : Hp} {s : Shared} {fz : Addr → Prop}
theorem Inv.lstR {l : Addr} {xs : List V} (I : Inv X pins σ H s) (h : H l = some (.lst xs)) :
    xs.length ≤ sizeLine ∧ ∃ (its : List Value) (n : Nat), Vals xs its ∧ s.heap.get? l = some { cls := .type "list", data := .seq its.toArray n } := by
  obtain ⟨z, its, n, r, e⟩ := I.hok l _ h
  exact ⟨z, its, n, r, e⟩
theorem base_ne {a : Addr} {o : HO} (I : Inv X pins σ H s) (h : H a = some o) : X.base.get? a = none := by
  cases e : X.base.get? a with
  | none => rfl
  | some ob =>
    have := (I.bs a ob e).2
    rw [h] at this; cases this
mutual
theorem Rp.reads (I : Inv X pins σ H s) : ∀ (d : PyData) (v : V) (u : Value), Rp X.K H fz d v → RelV v u → ∃ as, Reads s.heap u d as ∧ (listFree d = true → sysModules ∉ as)
  | .none, _, _, h, r => by cases h; cases r; exact ⟨_, .none, fun _ => by simp⟩
  | .bool b, _, _, h, r => by cases h; cases r; exact ⟨_, .bool b, fun _ => by simp⟩
  | .int i, _, _, h, r => by cases h; obtain ⟨t, rfl⟩ := r; exact ⟨_, .int i t, fun _ => by simp⟩
  | .str x, _, _, h, r => by cases h; obtain ⟨t, rfl⟩ := r; exact ⟨_, .str x t, fun _ => by simp⟩
  | .list ds, _, _, h, r => by
    cases h with
    | @lst a xs _ hf hq ha =>
      cases r
      obtain ⟨_, its, n, rv, e⟩ := Inv.lstR I hq
      obtain ⟨as, hr, hz⟩ := Rp.readsAll I ds _ its ha rv
      exact ⟨_, .list e rfl rfl hr, fun z => by simp [listFree] at z⟩
  | .tuple ds, _, _, h, r => by
    cases h with
    | tup hq ha =>
      cases r
      obtain ⟨its, rv, ⟨o, ho, hc, n, hd⟩, _⟩ := I.tuple hq
      obtain ⟨as, hr, hz⟩ := Rp.readsAll I ds _ its ha rv
      exact ⟨_, .tuple ho hc hd hr, fun z => hz (by simpa [listFree] using z)⟩
  | .dict kvs, _, _, h, r => by
    cases h with
    | @dct a es ks vs _ hf hq k1 v1 r1 r2 =>
      cases r
      obtain ⟨⟨hs, o, ep, ho, hex, hd⟩, _⟩ := I.hok a _ hq
      obtain ⟨as, q1, z1⟩ := Rp.readsAllK I kvs _ _ r1 k1
      obtain ⟨bs, q2, z2⟩ := Rp.readsAllV I kvs _ _ r2 v1
      refine ⟨_, .dict (es := es.toArray) ho hex.1 hd q1 q2, fun z hm => ?_⟩
      have z : listFreeKv kvs = true := by simpa [listFree] using z
      rcases List.mem_append.mp hm with hm | hm
      · rcases List.mem_cons.mp hm with hm | hm
        · exact hs hm.symm
        · exact z1 z hm
      · exact z2 z hm
theorem Rp.readsAll (I : Inv X pins σ H s) : ∀ (ds : List PyData) (vs : List V) (us : List Value), RpAll X.K H fz ds vs → Vals vs us → ∃ as, ReadsAll s.heap us ds as ∧ (listFreeAll ds = true → sysModules ∉ as)
  | [], _, _, h, r => by cases h; cases r; exact ⟨_, .nil, fun _ => by simp⟩
  | d :: ds, _, _, h, r => by
    cases h with
    | cons h1 h2 =>
      cases r with
      | cons r1 r2 =>
        obtain ⟨as, q1, z1⟩ := Rp.reads I d _ _ h1 r1
        obtain ⟨bs, q2, z2⟩ := Rp.readsAll I ds _ _ h2 r2
        refine ⟨_, .cons q1 q2, fun z hm => ?_⟩
        have z : listFree d = true ∧ listFreeAll ds = true := by simpa [listFreeAll] using z
        rcases List.mem_append.mp hm with hm | hm
        · exact z1 z.1 hm
        · exact z2 z.2 hm
theorem Rp.readsAllK (I : Inv X pins σ H s) : ∀ (kvs : List (PyData × PyData)) (vs : List V) (us : List Value), RpAll X.K H fz (kvs.map (·.1)) vs → Vals vs us → ∃ as, ReadsAll s.heap us (kvs.map (·.1)) as ∧ (listFreeKv kvs = true → sysModules ∉ as)
  | [], _, _, h, r => by cases h; cases r; exact ⟨_, .nil, fun _ => by simp⟩
  | (d, e) :: ds, _, _, h, r => by
    cases h with
    | cons h1 h2 =>
      cases r with
      | cons r1 r2 =>
        obtain ⟨as, q1, z1⟩ := Rp.reads I d _ _ h1 r1
        obtain ⟨bs, q2, z2⟩ := Rp.readsAllK I ds _ _ h2 r2
        refine ⟨_, .cons q1 q2, fun z hm => ?_⟩
        have z : (listFree d = true ∧ listFree e = true) ∧ listFreeKv ds = true := by simpa [listFreeKv] using z
        rcases List.mem_append.mp hm with hm | hm
        · exact z1 z.1.1 hm
        · exact z2 z.2 hm
theorem Rp.readsAllV (I : Inv X pins σ H s) : ∀ (kvs : List (PyData × PyData)) (vs : List V) (us : List Value), RpAll X.K H fz (kvs.map (·.2)) vs → Vals vs us → ∃ as, ReadsAll s.heap us (kvs.map (·.2)) as ∧ (listFreeKv kvs = true → sysModules ∉ as)
  | [], _, _, h, r => by cases h; cases r; exact ⟨_, .nil, fun _ => by simp⟩
  | (e, d) :: ds, _, _, h, r => by
    cases h with
    | cons h1 h2 =>
      cases r with
      | cons r1 r2 =>
        obtain ⟨as, q1, z1⟩ := Rp.reads I d _ _ h1 r1
        obtain ⟨bs, q2, z2⟩ := Rp.readsAllV I ds _ _ h2 r2
        refine ⟨_, .cons q1 q2, fun z hm => ?_⟩
        have z : (listFree e = true ∧ listFree d = true) ∧ listFreeKv ds = true := by simpa [listFreeKv] using z
        rcases List.mem_append.mp hm with hm | hm
        · exact z1 z.1.2 hm
        · exact z2 z.2 hm
end
theorem RB.reads (I : Inv X pins σ H s) {d : PyData} {v : V} {u : Value} (h : RB X.K H fz d v) (r : RelV v u) : ∃ as, Reads s.heap u d as ∧ (listFree d = true → sysModules ∉ as) := by
  cases d with
  | list ds =>
    obtain ⟨a, xs, rfl, hq, ha⟩ := h
    cases r
    obtain ⟨_, its, n, rv, e⟩ := Inv.lstR I hq
    obtain ⟨as, hr, hz⟩ := Rp.readsAll I ds _ its ha rv
    exact ⟨_, .list e rfl rfl hr, fun z => by simp [listFree] at z⟩
  | dict kvs =>
    obtain ⟨a, es, ks, vs, rfl, hq, k1, v1, r1, r2⟩ := h
    exact Rp.reads (fz := fun b => fz b ∨ b = a) I _ _ _ (.dct (.inr rfl) hq k1 v1 (RpAll.go (fun _ h => .inl h) (fun _ _ _ e => e) (fun _ _ e => e) r1) (RpAll.go (fun _ h => .inl h) (fun _ _ _ e => e) (fun _ _ e => e) r2)) r
  | none => exact Rp.reads I _ _ _ h r
  | bool b => exact Rp.reads I _ _ _ h r
  | int b => exact Rp.reads I _ _ _ h r
  | str b => exact Rp.reads I _ _ _ h r
  | tuple b => exact Rp.reads I _ _ _ h r
end

/-! ### operators -/
def addX : OpX := fun x y Q => match x, y with
  | .int i, .int j => Q (.dat (.int (i + j)))
  | .str a, .str b => a.length + b.length ≤ sizeLine ∧ Q (.dat (.str (a ++ b)))
  | .tuple xs, .tuple ys => xs.length + ys.length ≤ sizeLine ∧ Q (.dat (.tuple (xs ++ ys)))
  | .list xs, .list ys => xs.length + ys.length ≤ sizeLine ∧ Q (.own (xs ++ ys))
  | _, _ => False
def subX : OpX := fun x y Q => match x, y with
  | .int i, .int j => Q (.dat (.int (i - j)))
  | _, _ => False
def mulX : OpX := fun x y Q => match x, y with
  | .int i, .int j => IntMulOk i j ∧ Q (.dat (.int (i * j)))
  | .tuple xs, .int k => xs ≠ [] ∧ 2 ≤ k ∧ k ≤ 1000 ∧ xs.length ≤ 1000 ∧ Q (.dat (.tuple (List.replicate k.toNat xs).flatten))
  | .list xs, .int k => -(2 ^ 63) ≤ k ∧ k < 2 ^ 63 ∧ xs.length * k.toNat ≤ sizeLine ∧ Q (.own (List.replicate k.toNat xs).flatten)
  | _, _ => False
def modX : OpX := fun x y Q => match x, y with
  | .int i, .int j => 0 < j ∧ Q (.dat (.int (i % j)))
  | _, _ => False
def fdivX : OpX := fun x y Q => match x, y with
  | .int i, .int j => 0 < j ∧ j.natAbs < 2 ^ 9000 ∧ Q (.dat (.int (i / j)))
  | _, _ => False
def powX : OpX := fun x y Q => match x, y with
  | .int i, .int j => 0 ≤ j ∧ j ≤ 1000000 ∧ i.natAbs < 2 ^ 64 ∧ Q (.dat (.int (i ^ j.toNat)))
  | _, _ => False
def ltX : OpX := fun x y Q => match x, y with
  | .int i, .int j => Q (.dat (.bool (decide (i < j))))
  | _, _ => False
def leX : OpX := fun x y Q => match x, y with
  | .int i, .int j => Q (.dat (.bool (decide (i ≤ j))))
  | _, _ => False
def gtX : OpX := fun x y Q => match x, y with
  | .int i, .int j => Q (.dat (.bool (decide (j < i))))
  | _, _ => False
def geX : OpX := fun x y Q => match x, y with
  | .int i, .int j => Q (.dat (.bool (decide (j ≤ i))))
  | _, _ => False
def eqX : OpX := fun x y Q => SeqAt.shaped x = true ∧ SeqAt.shaped y = true ∧ Q (.dat (.bool (PyData.eqv x y)))
def neX : OpX := fun x y Q => SeqAt.shaped x = true ∧ SeqAt.shaped y = true ∧ Q (.dat (.bool (!PyData.eqv x y)))

section
variable {X : Cx}
theorem RpAll.rep {K : PySem.W.Frag} {H : Hp} {fz : Addr → Prop} {ds : List PyData} {vs : List V} (r : RpAll K H fz ds vs) : ∀ n : Nat, RpAll K H fz (List.replicate n ds).flatten (List.replicate n vs).flatten
  | 0 => .nil
  | n + 1 => by
    rw [List.replicate_succ, List.replicate_succ, List.flatten_cons, List.flatten_cons]
    exact r.append (RpAll.rep r n)
theorem ox_add : OpR X (binaryOp .Add) (rO X.K addX) := by
  rintro pins s σ H x y v u Q I rx ry ⟨fz, d, e, hd, he, Q', q, k⟩
  cases d with
  | int i =>
    cases e with
    | int j =>
      cases hd.int; cases he.int
      exact op_add pins s σ H _ _ v u Q I rx ry ⟨i, j, rfl, rfl, k _ _ _ q (.same (.int _))⟩
    | _ => exact q.elim
  | str a =>
    cases e with
    | str b =>
      cases hd.str; cases he.str
      exact op_add_str pins s σ H _ _ v u Q I rx ry ⟨a, b, rfl, rfl, q.1, k _ _ _ q.2 (.same (.str _))⟩
    | _ => exact q.elim
  | tuple xs =>
    cases e with
    | tuple ys =>
      obtain ⟨a, vs, rfl, ha, ra⟩ := hd.tup
      obtain ⟨b, ws, rfl, hb, rb⟩ := he.tup
      refine op_catA pins s σ H _ _ v u Q I rx ry ⟨a, b, vs, ws, rfl, rfl, ha, hb, ?_, fun e => ?_, fun n e => ?_, fun n m p hp => ?_⟩
      · rw [← ra.length, ← rb.length]; exact q.1
      · rw [ra.nil_iff] at e; subst e
        exact k _ _ _ q.2 (.same (.tup hb rb))
      · rw [rb.nil_iff] at e; subst e
        have q2 := q.2
        rw [List.append_nil] at q2
        exact k _ _ _ q2 (.same (.tup ha ra))
      · exact k _ _ _ q.2 (.tup hp (ra.append rb))
    | _ => exact q.elim
  | list xs =>
    cases e with
    | list ys =>
      obtain ⟨a, vs, rfl, ha, ra⟩ := hd.lst
      obtain ⟨b, ws, rfl, hb, rb⟩ := he.lst
      cases rx; cases ry
      obtain ⟨z1, its, n, r1, e1⟩ := Inv.lstR I ha
      obtain ⟨z2, its2, n2, r2, e2⟩ := Inv.lstR I hb
      have l1 := r1.length
      have l2 := r2.length
      have m1 := ra.length
      have m2 := rb.length
      have q1 := q.1
      refine PySem.P.add_list e1 e2 ?_ (by simp only [List.size_toArray]; omega)
      rw [show its.toArray ++ its2.toArray = (its ++ its2).toArray by simp]
      refine ⟨.ref _, _, I.lnew (t' := s.toks) (r1.append r2) (by rw [List.length_append]; omega), rfl, k _ _ _ q.2 (.lst I.fresh (ra.append rb))⟩
    | _ => exact q.elim
  | _ => cases e <;> exact q.elim
theorem ox_sub : OpR X (binaryOp .Sub) (rO X.K subX) := by
  rintro pins s σ H x y v u Q I rx ry ⟨fz, d, e, hd, he, Q', q, k⟩
  cases d with
  | int i =>
    cases e with
    | int j =>
      cases hd.int; cases he.int
      exact op_sub pins s σ H _ _ v u Q I rx ry ⟨i, j, rfl, rfl, k _ _ _ q (.same (.int _))⟩
    | _ => exact q.elim
  | _ => cases e <;> exact q.elim
theorem ox_mul : OpR X (binaryOp .Mult) (rO X.K mulX) := by
  rintro pins s σ H x y v u Q I rx ry ⟨fz, d, e, hd, he, Q', q, k⟩
  cases d with
  | int i =>
    cases e with
    | int j =>
      cases hd.int; cases he.int
      obtain ⟨t, rfl⟩ := rx
      obtain ⟨t', rfl⟩ := ry
      exact mul_int ⟨.int (i * j), H, I.tok _, ⟨_, rfl⟩, k _ _ _ q.2 (.same (.int _))⟩ q.1
    | _ => exact q.elim
  | tuple xs =>
    cases e with
    | int j =>
      obtain ⟨a, vs, rfl, ha, ra⟩ := hd.tup
      cases he.int
      obtain ⟨q1, q2, q3, q4, q5⟩ := q
      exact op_repT pins s σ H _ _ v u Q I rx ry ⟨a, j, vs, rfl, rfl, ha, fun e => q1 (ra.nil_iff.mp e), q2, q3, by rw [← ra.length]; exact q4, fun p hp => k _ _ _ q5 (.tup hp (ra.rep _))⟩
    | _ => exact q.elim
  | list xs =>
    cases e with
    | int j =>
      obtain ⟨a, vs, rfl, ha, ra⟩ := hd.lst
      cases he.int
      obtain ⟨q1, q2, q3, q4⟩ := q
      exact op_rep pins s σ H _ _ v u Q I rx ry ⟨a, j, vs, rfl, rfl, ha, q1, q2, by rw [← ra.length]; exact q3, fun p hp => k _ _ _ q4 (.lst hp (ra.rep _))⟩
    | _ => exact q.elim
  | _ => cases e <;> exact q.elim
end
end Cl

namespace Cl
open PySem PySem.Spec PyProof.Rows L2
section
variable {X : Cx}
theorem ox_mod : OpR X (binaryOp .Mod) (rO X.K modX) := by
  rintro pins s σ H x y v u Q I rx ry ⟨fz, d, e, hd, he, Q', q, k⟩
  cases d with
  | int i =>
    cases e with
    | int j =>
      cases hd.int; cases he.int
      exact op_mod pins s σ H _ _ v u Q I rx ry ⟨i, j, rfl, rfl, q.1, k _ _ _ q.2 (.same (.int _))⟩
    | _ => exact q.elim
  | _ => cases e <;> exact q.elim
theorem ox_fdiv : OpR X (binaryOp .FloorDiv) (rO X.K fdivX) := by
  rintro pins s σ H x y v u Q I rx ry ⟨fz, d, e, hd, he, Q', q, k⟩
  cases d with
  | int i =>
    cases e with
    | int j =>
      cases hd.int; cases he.int
      exact op_fdivW pins s σ H _ _ v u Q I rx ry ⟨i, j, rfl, rfl, wide_div q.1 q.2.1 (by decide) (Nat.le_refl _), k _ _ _ q.2.2 (.same (.int _))⟩
    | _ => exact q.elim
  | _ => cases e <;> exact q.elim
theorem ox_pow : OpR X (binaryOp .Pow) (rO X.K powX) := by
  rintro pins s σ H x y v u Q I rx ry ⟨fz, d, e, hd, he, Q', q, k⟩
  cases d with
  | int i =>
    cases e with
    | int j =>
      cases hd.int; cases he.int
      exact op_pow pins s σ H _ _ v u Q I rx ry ⟨i, j, rfl, rfl, ⟨q.1, q.2.1, q.2.2.1⟩, k _ _ _ q.2.2.2 (.same (.int _))⟩
    | _ => exact q.elim
  | _ => cases e <;> exact q.elim
theorem ox_lt : OpR X (compareOp .Lt) (rO X.K ltX) := by
  rintro pins s σ H x y v u Q I rx ry ⟨fz, d, e, hd, he, Q', q, k⟩
  cases d with
  | int i =>
    cases e with
    | int j =>
      cases hd.int; cases he.int
      exact op_lt pins s σ H _ _ v u Q I rx ry ⟨i, j, rfl, rfl, k _ _ _ q (.same (.bl _))⟩
    | _ => exact q.elim
  | _ => cases e <;> exact q.elim
theorem ox_le : OpR X (compareOp .LtE) (rO X.K leX) := by
  rintro pins s σ H x y v u Q I rx ry ⟨fz, d, e, hd, he, Q', q, k⟩
  cases d with
  | int i =>
    cases e with
    | int j =>
      cases hd.int; cases he.int
      exact op_le pins s σ H _ _ v u Q I rx ry ⟨i, j, rfl, rfl, k _ _ _ q (.same (.bl _))⟩
    | _ => exact q.elim
  | _ => cases e <;> exact q.elim
theorem ox_gt : OpR X (compareOp .Gt) (rO X.K gtX) := by
  rintro pins s σ H x y v u Q I rx ry ⟨fz, d, e, hd, he, Q', q, k⟩
  cases d with
  | int i =>
    cases e with
    | int j =>
      cases hd.int; cases he.int
      exact op_gt pins s σ H _ _ v u Q I rx ry ⟨i, j, rfl, rfl, k _ _ _ q (.same (.bl _))⟩
    | _ => exact q.elim
  | _ => cases e <;> exact q.elim
theorem ox_ge : OpR X (compareOp .GtE) (rO X.K geX) := by
  rintro pins s σ H x y v u Q I rx ry ⟨fz, d, e, hd, he, Q', q, k⟩
  cases d with
  | int i =>
    cases e with
    | int j =>
      cases hd.int; cases he.int
      exact op_ge pins s σ H _ _ v u Q I rx ry ⟨i, j, rfl, rfl, k _ _ _ q (.same (.bl _))⟩
    | _ => exact q.elim
  | _ => cases e <;> exact q.elim
theorem ox_eq (hu : X.A.units + 64 < cLine) : OpR X (compareOp .Eq) (rO X.K eqX) := by
  rintro pins s σ H x y v u Q I rx ry ⟨fz, d, e, hd, he, Q', ⟨q1, q2, q⟩, k⟩
  obtain ⟨as, r1, _⟩ := RB.reads I hd rx
  obtain ⟨bs, r2, _⟩ := RB.reads I he ry
  exact SeqAt.compareEq_shaped r1 r2 q1 q2 hu ⟨.bl _, H, I, rfl, k _ _ _ q (.same (.bl _))⟩
theorem ox_ne (hu : X.A.units + 64 < cLine) : OpR X (compareOp .NotEq) (rO X.K neX) := by
  rintro pins s σ H x y v u Q I rx ry ⟨fz, d, e, hd, he, Q', ⟨q1, q2, q⟩, k⟩
  obtain ⟨as, r1, _⟩ := RB.reads I hd rx
  obtain ⟨bs, r2, _⟩ := RB.reads I he ry
  exact SeqAt.compareNe_shaped r1 r2 q1 q2 hu ⟨.bl _, H, I, rfl, k _ _ _ q (.same (.bl _))⟩
end

/-! ### is None -/
def isNoneD : PyData → Bool
  | .none => true
  | _ => false
theorem RB.isNon {K : PySem.W.Frag} {H : Hp} {fz : Addr → Prop} {d : PyData} {v : V} (r : RB K H fz d v) : decide (v = .non) = isNoneD d := by
  cases d with
  | none => rw [r.non]; rfl
  | bool b => rw [r.bl]; rfl
  | int b => rw [r.int]; rfl
  | str b => rw [r.str]; simp [isNoneD]
  | list ds => obtain ⟨a, xs, rfl, _⟩ := r; rfl
  | tuple ds => obtain ⟨a, xs, rfl, _⟩ := r.tup; rfl
  | dict ds => obtain ⟨a, es, ks, vs, rfl, _⟩ := r; rfl
def isX : OpX := fun x y Q => y = .none ∧ Q (.dat (.bool (isNoneD x)))
def isnX : OpX := fun x y Q => y = .none ∧ Q (.dat (.bool (!isNoneD x)))
section
variable {X : Cx}
theorem ox_is : OpR X (compareOp .Is) (rO X.K isX) := by
  rintro pins s σ H x y v u Q I rx ry ⟨fz, d, e, hd, he, Q', ⟨rfl, q⟩, k⟩
  refine op_isN pins s σ H _ _ v u Q I rx ry ⟨he.non, ?_⟩
  rw [hd.isNon]
  exact k _ _ _ q (.same (.bl _))
theorem ox_isn : OpR X (compareOp .IsNot) (rO X.K isnX) := by
  rintro pins s σ H x y v u Q I rx ry ⟨fz, d, e, hd, he, Q', ⟨rfl, q⟩, k⟩
  refine op_notN pins s σ H _ _ v u Q I rx ry ⟨he.non, ?_⟩
  rw [hd.isNon]
  exact k _ _ _ q (.same (.bl _))
end

/-! ### a chain of two comparisons -/
section
variable {X : Cx} {ZP : ZT} {a b c : Expr} {pos : Pos} {ta tb tc : TLD} {o o' : OpX}
/-- the general form: both sides by LV.get -/
def t_chain' (o o' : OpX) (ta tb tc : TLD) : TD := fun cs Q => ta cs fun l cs1 => tb cs1 fun m cs2 => ∃ d e, l.get cs2 = some d ∧ m.get cs2 = some e ∧
  o d e fun sv => (sv = .dat (.bool false) ∧ Q (.dat (.bool false)) cs2) ∨ (sv = .dat (.bool true) ∧
    tc cs2 fun n cs3 => ∃ e' f, m.get cs3 = some e' ∧ n.get cs3 = some f ∧ o' e' f fun sv' => (∃ b, sv' = .dat (.bool b)) ∧ Q sv' cs3)
theorem de_chain {op op' : CmpOp} (ho : OpR X (compareOp op) (rO X.K o)) (ho' : OpR X (compareOp op') (rO X.K o')) (ha : DL X ZP a ta) (hb : DL X ZP b tb) (hc : DL X ZP c tc)
    (hm : lastMarks [op, op'] [b, c] = false := by with_unfolding_all rfl) : DE X ZP (.Compare a [op, op'] [b, c] pos) (t_chain' o o' ta tb tc) := by
  refine ⟨PE.imp (pe_chain ho ho' ha.pe hb.pe hc.pe hm) ?_⟩
  rintro σ H Q ⟨B, cs, g, R, Q', q, k⟩
  refine ⟨B, cs, g, R, _, q, fun l cs1 v g1 H1 q1 R1 r1 s1 f1 => ?_⟩
  refine ⟨B, cs1, g1, R1, _, q1, fun m cs2 u g2 H2 q2 R2 r2 s2 f2 => ?_⟩
  obtain ⟨d, e, e1, e2, q3⟩ := q2
  have r1' := r1.frm R1 f2
  have f12 : Frm (ow cs σ) g H g2 H2 := f1.trans (f2.mono fun a _ _ h => s1 a h)
  refine ⟨g2.fz, d, e, r1'.rb R2 e1, r2.rb R2 e2, _, q3, fun sv z H' q4 rz => ?_⟩
  obtain ⟨R3, r3, t3, f3⟩ := rz.fin R2
  have f3' : Frm (ow cs σ) g2 H2 g2 H' := f3.mono fun a _ _ h => s1 a (s2 a h)
  rcases q4 with ⟨rfl, q4⟩ | ⟨rfl, q4⟩
  · cases r3
    refine ⟨false, rfl, ?_⟩
    show Q _ _
    exact k _ cs2 _ g2 H' q4 R3 (.bl false) (fun _ _ e => nomatch e) (fun a h => s1 a (s2 a h)) (f12.trans f3')
  · cases r3
    refine ⟨true, rfl, ?_⟩
    show tLt X.K ZP tc σ H' _
    refine ⟨B, cs2, g2, R3, _, q4, fun n cs3 w g4 H4 q5 R4 r4 s4 f4 => ?_⟩
    obtain ⟨e', f, e3, e4, q6⟩ := q5
    have rm := (r2.frm R2 f3).frm R3 f4
    refine ⟨g4.fz, e', f, rm.rb R4 e3, r4.rb R4 e4, _, q6, fun sv' z' H5 q7 rz' => ?_⟩
    obtain ⟨R5, r5, t5, f5⟩ := rz'.fin R4
    obtain ⟨⟨bb, rfl⟩, q8⟩ := q7
    have f4' : Frm (ow cs σ) g2 H' g4 H4 := f4.mono fun a _ _ h => s1 a (s2 a h)
    have f5' : Frm (ow cs σ) g4 H4 g4 H5 := f5.mono fun a _ _ h => s1 a (s2 a (s4 a h))
    exact k _ cs3 z' g4 H5 q8 R5 r5 (fun _ _ e => nomatch e) (fun a h => s1 a (s2 a (s4 a h))) (((f12.trans f3').trans f4').trans f5')
theorem dt_chain {op op' : CmpOp} (ho : OpR X (compareOp op) (rO X.K o)) (ho' : OpR X (compareOp op') (rO X.K o')) (ha : DL X ZP a ta) (hb : DL X ZP b tb) (hc : DL X ZP c tc)
    (hm : lastMarks [op, op'] [b, c] = false := by with_unfolding_all rfl) : DT X ZP (.Compare a [op, op'] [b, c] pos) (t_tst (t_chain' o o' ta tb tc)) := by
  refine ⟨PT.imp (pt_chain ho ho' ha.pe hb.pe hc.pe hm) ?_⟩
  rintro σ H Q ⟨B, cs, g, R, Q', q, k⟩
  refine ⟨B, cs, g, R, _, q, fun l cs1 v g1 H1 q1 R1 r1 s1 f1 => ?_⟩
  refine ⟨B, cs1, g1, R1, _, q1, fun m cs2 u g2 H2 q2 R2 r2 s2 f2 => ?_⟩
  obtain ⟨d, e, e1, e2, q3⟩ := q2
  have r1' := r1.frm R1 f2
  have f12 : Frm (ow cs σ) g H g2 H2 := f1.trans (f2.mono fun a _ _ h => s1 a h)
  refine ⟨g2.fz, d, e, r1'.rb R2 e1, r2.rb R2 e2, _, q3, fun sv z H' q4 rz => ?_⟩
  obtain ⟨R3, r3, t3, f3⟩ := rz.fin R2
  have f3' : Frm (ow cs σ) g2 H2 g2 H' := f3.mono fun a _ _ h => s1 a (s2 a h)
  rcases q4 with ⟨rfl, q4⟩ | ⟨rfl, q4⟩
  · cases r3
    refine ⟨false, rfl, ?_⟩
    show ∃ k, _
    exact ⟨false, rfl, k _ cs2 g2 H' q4 R3 (fun a h => s1 a (s2 a h)) (f12.trans f3')⟩
  · cases r3
    refine ⟨true, rfl, ?_⟩
    show tLt X.K ZP tc σ H' _
    refine ⟨B, cs2, g2, R3, _, q4, fun n cs3 w g4 H4 q5 R4 r4 s4 f4 => ?_⟩
    obtain ⟨e', f, e3, e4, q6⟩ := q5
    have rm := (r2.frm R2 f3).frm R3 f4
    refine ⟨g4.fz, e', f, rm.rb R4 e3, r4.rb R4 e4, _, q6, fun sv' z' H5 q7 rz' => ?_⟩
    obtain ⟨R5, r5, t5, f5⟩ := rz'.fin R4
    obtain ⟨⟨bb, rfl⟩, q8⟩ := q7
    have f4' : Frm (ow cs σ) g2 H' g4 H4 := f4.mono fun a _ _ h => s1 a (s2 a h)
    have f5' : Frm (ow cs σ) g4 H4 g4 H5 := f5.mono fun a _ _ h => s1 a (s2 a (s4 a h))
    cases r5
    exact ⟨bb, rfl, k _ cs3 g4 H5 q8 R5 (fun a h => s1 a (s2 a (s4 a h))) (((f12.trans f3').trans f4').trans f5')⟩
end

/-! ### calls of a built-in -/
abbrev C1X := PyData → (SV → Prop) → Prop
def rC1 (K : PySem.W.Frag) (o : C1X) : List V → Hp → VK → Prop := fun xs H Q => ∃ x fz d, xs = [x] ∧ RB K H fz d x ∧ ∃ Q', o d Q' ∧ ∀ sv z H', Q' sv → Res K H fz sv z H' → Q z H'
def rC2 (K : PySem.W.Frag) (o : OpX) : List V → Hp → VK → Prop := fun xs H Q => ∃ x y fz d e, xs = [x, y] ∧ RB K H fz d x ∧ RB K H fz e y ∧ ∃ Q', o d e Q' ∧ ∀ sv z H', Q' sv → Res K H fz sv z H' → Q z H'
def t_c1 (o : C1X) (ta : TLD) : TD := fun cs Q => ta cs fun l cs1 => match l.get cs1 with
  | some d => o d fun sv => Q sv cs1
  | none => False
section
variable {X : Cx} {ZP : ZT} {a b : Expr} {pos p : Pos} {ta tb : TLD} {o : C1X} {o2 : OpX} {x : Str} {id T : String}
theorem c1_core {σ : L2.St} {H : Hp} {Q : VK} (h : tD X.K ZP (t_c1 o ta) σ H Q) : tCB (rC1 X.K o) (tCons (tLt X.K ZP ta) tNil) σ H Q := by
  obtain ⟨B, cs, g, R, Q', q, k⟩ := h
  refine ⟨B, cs, g, R, _, q, fun l cs1 v g1 H1 q1 R1 r1 s1 f1 => ?_⟩
  cases e1 : l.get cs1 with
  | none => rw [e1] at q1; exact q1.elim
  | some d =>
    rw [e1] at q1
    refine ⟨v, g1.fz, d, rfl, r1.rb R1 e1, _, q1, fun sv z H' q3 rz => ?_⟩
    obtain ⟨R3, r3, t3, f3⟩ := rz.fin R1
    refine k sv cs1 z g1 H' q3 R3 r3 (fun xs a e3 e4 => ?_) s1 (f1.trans (f3.mono fun a _ _ h => s1 a h))
    obtain ⟨n1, n2⟩ := t3 xs a e3 e4
    refine ⟨n1, ?_⟩
    cases e5 : H a with
    | none => rfl
    | some u =>
      obtain ⟨u', e6⟩ := f1.any a u e5
      rw [n2] at e6; cases e6
theorem de_b1 (hc : CallR X (.builtin id) (rC1 X.K o)) (hg : Gl X x) (hm : X.mg x = none) (hv : bootBuiltins x = some (.builtin id)) (ha : DL X ZP a ta) (hn : x ≠ "__name__" := by decide) (hdb : (x == ("__debug__" : Str)) = false := by decide)
    (he : starEach [a] X.env = (false, eval a X.env) :: starEach [] X.env := by rfl) : DE X ZP (.Call (.Name x p) [a] [] pos) (t_c1 o ta) :=
  ⟨PE.imp (pe_callB hc hg hm hv (pa_cons ha.pe pa_nil he) hn hdb he rfl) fun σ H Q h => c1_core h⟩
theorem de_t1 (hc : CallR X (.type T) (rC1 X.K o)) (hg : Gl X x) (hm : X.mg x = none) (hv : bootBuiltins x = some (.type T)) (ha : DL X ZP a ta) (hn : x ≠ "__name__" := by decide) (hdb : (x == ("__debug__" : Str)) = false := by decide)
    (he : starEach [a] X.env = (false, eval a X.env) :: starEach [] X.env := by rfl) : DE X ZP (.Call (.Name x p) [a] [] pos) (t_c1 o ta) :=
  ⟨PE.imp (pe_callTy hc hg hm hv (pa_cons ha.pe pa_nil he) hn hdb he rfl) fun σ H Q h => c1_core h⟩
theorem c2_core {σ : L2.St} {H : Hp} {Q : VK} (h : tD X.K ZP (t_op o2 ta tb) σ H Q) : tCB (rC2 X.K o2) (tCons (tLt X.K ZP ta) (tCons (tLt X.K ZP tb) tNil)) σ H Q := by
  have h := op_core (X := X) h
  obtain ⟨B, cs, g, R, Q', q, k⟩ := h
  refine ⟨B, cs, g, R, Q', q, fun l cs1 v g1 H1 q1 R1 r1 s1 f1 => ?_⟩
  obtain ⟨B', cs', g', R', Q2, q2, k2⟩ := k l cs1 v g1 H1 q1 R1 r1 s1 f1
  refine ⟨B', cs', g', R', Q2, q2, fun m cs2 u g2 H2 q3 R2 r2 s2 f2 => ?_⟩
  obtain ⟨fz, d, e, hd, he, z⟩ := k2 m cs2 u g2 H2 q3 R2 r2 s2 f2
  exact ⟨v, u, fz, d, e, rfl, hd, he, z⟩
theorem de_b2 (hc : CallR X (.builtin id) (rC2 X.K o2)) (hg : Gl X x) (hm : X.mg x = none) (hv : bootBuiltins x = some (.builtin id)) (ha : DL X ZP a ta) (hb : DL X ZP b tb) (hn : x ≠ "__name__" := by decide) (hdb : (x == ("__debug__" : Str)) = false := by decide)
    (he : starEach [a, b] X.env = (false, eval a X.env) :: starEach [b] X.env := by rfl) (he2 : starEach [b] X.env = (false, eval b X.env) :: starEach [] X.env := by rfl) (hpl : (backTo pos (starEach [b] X.env)).any (·.1) = false := by rfl) : DE X ZP (.Call (.Name x p) [a, b] [] pos) (t_op o2 ta tb) :=
  ⟨PE.imp (pe_callB hc hg hm hv (pa_cons ha.pe (pa_cons hb.pe pa_nil he2) he) hn hdb he hpl) fun σ H Q h => c2_core h⟩
end

/-! ### isinstance -/
def isT (d : PyData) (T : String) : Bool := match d with
  | .none => T == "NoneType"
  | .bool _ => T == "bool" || T == "int"
  | .int _ => T == "int"
  | .str _ => T == "str"
  | .list _ => T == "list"
  | .tuple _ => T == "tuple"
  | .dict _ => T == "dict"
def tyD : PyData → String
  | .none => "NoneType"
  | .bool _ => "bool"
  | .int _ => "int"
  | .str _ => "str"
  | .list _ => "list"
  | .tuple _ => "tuple"
  | .dict _ => "dict"
theorem kit_data {K : PySem.W.Frag} {h : Heap} {u : Value} {d : PyData} {as : List Addr} (r : Reads h u d as) : ∃ P : Heap → Prop, PySem.W.KitX K u (.type (tyD d)) P ∧ P h ∧ u ≠ .builtin "__main__.__loader__#opaque" := by
  cases r with
  | none => exact ⟨_, PySem.W.kitx_none, True.intro, fun z => nomatch z⟩
  | bool b => exact ⟨_, PySem.W.kitx_bool, True.intro, fun z => nomatch z⟩
  | int i t => exact ⟨_, PySem.W.kitx_int, True.intro, fun z => nomatch z⟩
  | str x t => exact ⟨_, PySem.W.kitx_str, True.intro, fun z => nomatch z⟩
  | list h1 h2 _ _ => exact ⟨_, PySem.W.kitx_list, ⟨_, h1, h2⟩, fun z => nomatch z⟩
  | tuple h1 h2 _ _ => exact ⟨_, PySem.W.kitx_tuple, ⟨_, h1, h2⟩, fun z => nomatch z⟩
  | dict h1 h2 _ _ _ => exact ⟨_, PySem.W.kitx_dict, ⟨_, h1, h2⟩, fun z => nomatch z⟩
def isTy (T : String) : Prop := ∀ d : PyData, kitB (tyD d) T = some (isT d T)
def isTs (t T : String) : Bool := if t == "bool" then (T == "bool" || T == "int") else T == t
theorem isT_ts (d : PyData) (T : String) : isT d T = isTs (tyD d) T := by cases d <;> rfl
theorem isTy_of {T : String} (h : ∀ t ∈ ["NoneType", "bool", "int", "str", "list", "tuple", "dict"], kitB t T = some (isTs t T)) : isTy T := fun d => by
  rw [isT_ts]
  exact h (tyD d) (by cases d <;> simp [tyD])
theorem isTy_int : isTy "int" := isTy_of (by decide +kernel)
theorem isTy_bool : isTy "bool" := isTy_of (by decide +kernel)
theorem isTy_str : isTy "str" := isTy_of (by decide +kernel)
theorem isTy_tuple : isTy "tuple" := isTy_of (by decide +kernel)
theorem isTy_list : isTy "list" := isTy_of (by decide +kernel)
theorem isTy_dict : isTy "dict" := isTy_of (by decide +kernel)
def rIsD (K : PySem.W.Frag) (T : String) : List V → Hp → VK → Prop := fun xs H Q => ∃ x fz d, xs = [x, .ty T] ∧ RB K H fz d x ∧ Q (.bl (isT d T)) H
def t_isi (T : String) (ta : TLD) : TVD := fun cs Q => ta cs fun l cs1 => match l.get cs1 with
  | some d => Q (.bool (isT d T)) cs1
  | none => False
section
variable {X : Cx} {ZP : ZT} {a : Expr} {pos p p2 : Pos} {ta : TLD} {x : Str} {T : String}
theorem cr_isD (ht : isTy T) : CallR X (.builtin "isinstance") (rIsD X.K T) := by
  rintro pins s σ H xs us Q I r ⟨x, fz, d, rfl, hd, q⟩
  obtain ⟨u1, u2, rfl, r1, r2⟩ := vals2 r
  cases (show u2 = Value.type T from r2)
  obtain ⟨as, rd, _⟩ := RB.reads I hd r1
  obtain ⟨P, Z, p, hx⟩ := kit_data (K := X.K) rd
  exact PySem.W.kia_one Z I.kIn p (kit_ty (ht d)) hx fun tk => ⟨.bl _, H, I.tok tk, rfl, q⟩
theorem dv_isi (ht : isTy T) (hg : Gl X "isinstance") (hm : X.mg "isinstance" = none) (hg2 : Gl X x) (hm2 : X.mg x = none) (hv2 : bootBuiltins x = some (.type T)) (ha : DL X ZP a ta) (hn : x ≠ "__name__" := by decide) (hdb : (x == ("__debug__" : Str)) = false := by decide)
    (he : starEach [a, .Name x p2] X.env = (false, eval a X.env) :: starEach [.Name x p2] X.env := by rfl) : DV X ZP (.Call (.Name "isinstance" p) [a, .Name x p2] [] pos) (t_isi T ta) := by
  refine ⟨PE.imp (pe_callB (cr_isD ht) hg hm (by decide +kernel) (pa_cons ha.pe (pa_cons (pe_bltn (v := .ty T) hg2 hm2 hv2 rfl hn hdb) pa_nil) he) (by decide) (by decide) he rfl) ?_⟩
  rintro σ H Q ⟨B, cs, g, R, Q', q, k⟩
  refine ⟨B, cs, g, R, _, q, fun l cs1 v g1 H1 q1 R1 r1 s1 f1 => ?_⟩
  cases e1 : l.get cs1 with
  | none => rw [e1] at q1; exact q1.elim
  | some d =>
    rw [e1] at q1
    exact ⟨v, g1.fz, d, rfl, r1.rb R1 e1, k _ cs1 _ g1 H1 q1 R1 (.bl _) s1 f1⟩
end
end Cl

/-! a def's promise where nothing is being shown (the guards are empty): repr of containers is allowed there -/
namespace Cl
open PySem PySem.Spec PyProof.Rows L2

structure FnG (P : Program) (w : World) (K : PySem.W.Frag) (mg : Str → Option Value) (base : Heap) (CX : CXT) (k : Nat) (f : Addr) (fd : FuncData) (ps : List Str) (sp : Sp) : Prop where
  len : ∀ vs H Q E, sp vs H Q E → vs.length = ps.length
  run : ∀ (A : Around) (outer : List Env) (s : Shared) (H : Hp) (args : Args) (us : List Value) (vs : List V) (Q : VK) (E : XK), A.guards = some [] → Room k A →
    Env0 P w K mg base A outer s H → BindsTo s fd args (ps.zip us) → Vals vs us → sp vs H Q E → codeAny (model P w) A (.call (.ref f) args) (CR CX outer P w H s Q E) s

theorem FnG.mono {P : Program} {w : World} {K : PySem.W.Frag} {mg : Str → Option Value} {base : Heap} {CX : CXT} {j k : Nat} {f : Addr} {fd : FuncData} {ps : List Str} {sp : Sp}
    (F : FnG P w K mg base CX j f fd ps sp) (h : j ≤ k) : FnG P w K mg base CX k f fd ps sp :=
  ⟨F.len, fun A o s H a us vs Q E hg hr => F.run A o s H a us vs Q E hg (hr.mono h)⟩
theorem FnG.imp {P : Program} {w : World} {K : PySem.W.Frag} {mg : Str → Option Value} {base : Heap} {CX : CXT} {k : Nat} {f : Addr} {fd : FuncData} {ps : List Str} {sp sp' : Sp}
    (F : FnG P w K mg base CX k f fd ps sp) (h : ∀ vs H Q E, sp' vs H Q E → sp vs H Q E) : FnG P w K mg base CX k f fd ps sp' :=
  ⟨fun vs H Q E q => F.len vs H Q E (h _ _ _ _ q), fun A o s H a us vs Q E hg hr he hb hv hs => F.run A o s H a us vs Q E hg hr he hb hv (h _ _ _ _ hs)⟩

theorem fnG_of {CX : CXT} {P : Program} {w : World} {K : PySem.W.Frag} {mg : Str → Option Value} {base : Heap} {k : Nat} {f : Addr} {name qual : Str} {params : Arguments} {body : List Stmt} {scope : Scope}
    {dV kV doc pm cdv ct oc : Value} {an od : Option Addr} {osl : Array (Option Value)} {N ps : List Str} {sp : Sp}
    (lk : K.lookup f = some ⟨oc, od, .func (PySem.W.fnOf name qual params body scope dV kV doc pm an cdv ct), osl⟩) (cdk : PySem.W.codeIn K cdv qual = true) (S : FnScope N ps scope)
    (len : ∀ vs H Q E, sp vs H Q E → vs.length = ps.length)
    (bod : ∀ (A : Around) (outer : List Env) (s : Shared) (H : Hp) (vs : List V) (Q : VK) (E : XK), A.guards = some [] →
      Room k (A.deeper (envOfC qual scope s.heap.objs.size f cdv)) → sp vs H Q E →
      ∃ t, PSs (cxOf CX P w K mg base N qual scope f cdv A outer s H E) body t ∧ t { nx := fun _ H' => Q .non H', rt := Q } (L2.start N vs) H) :
    FnG P w K mg base CX (k + 1) f (PySem.W.fnOf name qual params body scope dV kV doc pm an cdv ct) ps sp := by
  refine ⟨len, fun A outer s H args us vs Q E hg hr e0 bind rel want => ?_⟩
  have nl := len _ _ _ _ want
  have inK : K.In s.heap := e0.mod.kin.keeps fun c ob => fun z => (e0.bs c ob z).1
  have noLim : s.heap.NoLimit := e0.mod.nolimit.keeps fun c ob => fun z => (e0.bs c ob z).1
  have kinds : ∀ y ∈ ps.zip us, scope.names.lookup y.1 = some .local ∨
      (scope.names.lookup y.1 = some .cell ∧ ((cellsFrom (s.heap.objs.size + 1) scope.names []).lookup y.1).isSome = true) := by
    rintro ⟨n, v⟩ hy
    have hn : n ∈ ps := (List.of_mem_zip hy).1
    rcases S.par n hn with c | c
    · exact Or.inl c
    · exact Or.inr ⟨c, PySem.W.cellsFrom_some _ _ _ (Or.inl c)⟩
  refine codeAny_call_function hr.depth (inK _ _ lk) rfl S.co S.gen rfl (PySem.W.codeRec_of inK cdk) (bind _ _ _ _ ?_)
  refine wpAny_newFunctionEnv_cells S.kind kinds fun env eqE st inC => ?_
  subst eqE
  refine ⟨noLim.keeps inC.toInCall.keep, codeAny_func ?_⟩
  obtain ⟨t, ht, wt⟩ := bod A outer s H vs Q E hg (hr.deeper _) want
  have J0 := inv_start (CX := CX) (P := P) (w := w) (K := K) (mg := mg) (base := base) (E := E) S hr.hd e0 nl rel inC
  refine wpAny_mono (ht.run [] st (L2.start N vs) H _ J0 wt) ?_ fun e s' z => z
  intro fl s' res
  cases fl with
  | ret u =>
    obtain ⟨v, σ', H', J, rv, q⟩ := res
    exact ⟨v, H', J.os, J.bare, J.base, J.hok, rv, q⟩
  | next =>
    obtain ⟨σ', H', J, q⟩ := res
    exact ⟨.non, H', J.os, J.bare, J.base, J.hok, rfl, q⟩
  | brk => exact res.elim fun _ z => z.elim fun _ z => z.2.elim
  | cont => exact res.elim fun _ z => z.elim fun _ z => z.2.elim

section
variable {P : Program} {w : World} {K : PySem.W.Frag} {mg : Str → Option Value} {base : Heap}
/-- a def of the text, no exception leaves it -/
theorem funG {x qual : Str} {st : Stmt} {f : Addr} {fd : FuncData} {N ps : List Str} {k : Nat} {sp : Sp} (F : Fun K x qual st f fd) (S : FnScope N ps (defScope st))
    (len : ∀ vs H Q E, sp vs H Q E → vs.length = ps.length)
    (bod : ∀ (cdv : Value) (A : Around) (outer : List Env) (s : Shared) (H : Hp) (vs : List V) (Q : VK) (E : XK), A.guards = some [] →
      Room k (A.deeper (envOfC qual (defScope st) s.heap.objs.size f cdv)) → sp vs H Q E →
      ∃ t, PSs (cxOf CX0 P w K mg base N qual (defScope st) f cdv A outer s H E).nox (defBody st) t ∧ t { nx := fun _ H' => Q .non H', rt := Q } (L2.start N vs) H) :
    FnG P w K mg base CX0 (k + 1) f fd ps sp := by
  obtain ⟨oc, od, kV, doc, pm, an, cdv, ct, osl, rfl, lk, cdk⟩ := F.ex
  refine fnG_of lk cdk S len fun A outer s H vs Q E hg hr want => ?_
  obtain ⟨t, h, q⟩ := bod cdv A outer s H vs Q E hg hr want
  exact ⟨t, PSs.nox h, q⟩
end

section
variable {X : Cx} {CX : CXT} {k : Nat} {f : Addr} {fd : FuncData} {ps ks : List Str} {sp : Sp} {E : XK} {x : Str} {p pos : Pos} {e : Expr} {es : List Expr} {kws : List Keyword} {t tk : TA}
theorem run_G {pins : List (Addr × Obj)} {σ : L2.St} {H : Hp} {s : Shared} {Q : VK} {args : Args} {us : List Value} {vs : List V} (F : FnG X.prog X.w X.K X.mg X.base CX k f fd ps sp) (hg : X.A.guards = some []) (hr : Room k X.A) (hx : Passes CX X E)
    (I : Inv X pins σ H s) (hb : BindsTo s fd args (ps.zip us)) (r : Vals vs us) (h : sp vs H Q E) : wpAny (model X.prog X.w) X.A (call (.ref f) args.pos args.kw) (EP X pins σ Q) X.xe s := by
  refine wpAny_call (codeAny_mono (F.run X.A X.stack s H args us vs Q E hg hr I.env0 hb r h) ?_)
  intro res s' z
  cases res with
  | error e => exact hx pins σ H s e s' I z
  | ok fl =>
    cases fl with
    | ret u => exact I.after z
    | next => exact z.elim
    | brk => exact z.elim
    | cont => exact z.elim
/-- f(e, ..), every parameter given by its place -/
def tCallG (sp : Sp) (E : XK) (t : TA) : TE := fun σ H Q => t σ H fun vs H1 => sp vs H1 Q E
theorem pe_callG1 (F : FnG X.prog X.w X.K X.mg X.base CX k f fd ps sp) (hgd : X.A.guards = some []) (hr : Room k X.A) (hg : Gl X x) (hm : X.mg x = some (.ref f)) (hk : PySem.W.keepIn X.K (.ref f) = true) (hb : Binds X.K fd ps []) (hx : Passes CX X E)
    (ha : PA X (e :: es) t) (hdb : (x == ("__debug__" : Str)) = false := by decide) (he : starEach (e :: es) X.env = (false, eval e X.env) :: starEach es X.env := by rfl) (hpl : (backTo pos (starEach es X.env)).any (·.1) = false := by rfl) :
    PE X (.Call (.Name x p) (e :: es) [] pos) (tCallG sp E t) := by
  constructor
  intro pins s σ H Q I h
  refine wpAny_Call_Name_kw (ld_glob I hg hm ?_ hdb)
  refine PySem.W.callWith_K (h₀ := X.base) I.ok.mod.kin hk (thn (ha.run pos pins s σ H _ I h) ?_) he hpl
  rintro us s1 ⟨vs, H1, I1, r, q⟩
  refine ⟨I1.kIn, ?_⟩
  have hl : us.length = ps.length := by rw [← r.length]; exact F.len _ _ _ _ q
  have b := hb s1 us I1.kIn (by rw [List.append_nil]; exact hl)
  rw [List.append_nil] at b
  exact run_G (args := ⟨us, []⟩) F hgd hr hx I1 b r q
end
end Cl

namespace Cl
open PySem PySem.Spec PyProof.Rows L2

/-- how a call with n places and the keywords ks binds -/
def KBd (K : PySem.W.Frag) (fd : FuncData) (ps ks : List Str) (n : Nat) (g : List Value → List Value → List Value) : Prop :=
  ∀ (s : Shared) (us ws : List Value), K.In s.heap → us.length = n → ws.length = ks.length → BindsTo s fd ⟨us, ks.zip ws⟩ (ps.zip (g us ws))
def KRel (gV : List V → List V → List V) (g : List Value → List Value → List Value) : Prop :=
  ∀ (vs : List V) (us : List Value) (zs : List V) (ws : List Value), Vals vs us → Vals zs ws → Vals (gV vs zs) (g us ws)
theorem kbd {K : PySem.W.Frag} {x qual : Str} {st : Stmt} {f : Addr} {fd : FuncData} {ps ks : List Str} {n : Nat} {g : List Value → List Value → List Value} (F : Fun K x qual st f fd)
    (h : ∀ (kV doc pm : Value) (an : Option Addr) (cdv ct : Value) (us ws : List Value), us.length = n → ws.length = ks.length →
      bindArgs (PySem.W.fnOf x qual (defArgs st) (defBody st) (defScope st) .none kV doc pm an cdv ct) ⟨us, ks.zip ws⟩ = pure (ps.zip (g us ws))) : KBd K fd ps ks n g := by
  obtain ⟨oc, od, kV, doc, pm, an, cdv, ct, osl, rfl, lk, cdk⟩ := F.ex
  exact fun s us ws _ h1 h2 => .of_eq (h kV doc pm an cdv ct us ws h1 h2)
section
variable {X : Cx} {CX : CXT} {k n : Nat} {f : Addr} {fd : FuncData} {ps ks : List Str} {sp : Sp} {E : XK} {x : Str} {p pos : Pos} {e : Expr} {es : List Expr} {kws : List Keyword} {t tk : TA}
variable {g : List Value → List Value → List Value} {gV : List V → List V → List V}
def tCallGK (n m : Nat) (sp : Sp) (gV : List V → List V → List V) (E : XK) (t tk : TA) : TE := fun σ H Q => t σ H fun vs H1 => tk σ H1 fun zs H2 => vs.length = n ∧ zs.length = m ∧ sp (gV vs zs) H2 Q E
theorem pe_callGK (F : FnG X.prog X.w X.K X.mg X.base CX k f fd ps sp) (hgd : X.A.guards = some []) (hr : Room k X.A) (hg : Gl X x) (hm : X.mg x = some (.ref f)) (hk : PySem.W.keepIn X.K (.ref f) = true) (hb : KBd X.K fd ps ks n g) (hrel : KRel gV g) (hx : Passes CX X E)
    (ha : PA X (e :: es) t) (hkw : PK X kws tk) (hall : (backToKw pos (keywordEach kws X.env)).all (·.1.isSome) = true := by rfl) (hks : (backToKw pos (keywordEach kws X.env)).filterMap (·.1) = ks := by rfl)
    (hdb : (x == ("__debug__" : Str)) = false := by decide) (he : starEach (e :: es) X.env = (false, eval e X.env) :: starEach es X.env := by rfl)
    (hpl : ((backTo pos (starEach (e :: es) X.env)).any (·.1) || (backToKw pos (keywordEach kws X.env)).any (·.1.isNone)) = false := by rfl) :
    PE X (.Call (.Name x p) (e :: es) kws pos) (tCallGK n ks.length sp gV E t tk) := by
  constructor
  intro pins s σ H Q I h
  refine wpAny_Call_Name_kw (ld_glob I hg hm ?_ hdb)
  refine PySem.W.callWith_KW (h₀ := X.base) I.ok.mod.kin hk hall (thn (ha.run pos pins s σ H _ I h) ?_) hpl he
  rintro us s1 ⟨vs, H1, I1, r, q⟩
  refine thn (hkw.run pos pins s1 σ H1 _ I1 q) ?_
  rintro ws s2 ⟨zs, H2, I2, rz, l1, l2, q2⟩
  refine ⟨I2.kIn, ?_⟩
  rw [hks]
  exact run_G (args := ⟨us, ks.zip ws⟩) F hgd hr hx I2 (hb s2 us ws I2.kIn (r.length.symm.trans l1) (rz.length.symm.trans l2)) (hrel _ _ _ _ r rz) q2
theorem pe_callGK0 (F : FnG X.prog X.w X.K X.mg X.base CX k f fd ps sp) (hgd : X.A.guards = some []) (hr : Room k X.A) (hg : Gl X x) (hm : X.mg x = some (.ref f)) (hk : PySem.W.keepIn X.K (.ref f) = true) (hb : KBd X.K fd ps ks 0 g) (hrel : KRel gV g) (hx : Passes CX X E)
    (hkw : PK X kws tk) (hall : (backToKw pos (keywordEach kws X.env)).all (·.1.isSome) = true := by rfl) (hks : (backToKw pos (keywordEach kws X.env)).filterMap (·.1) = ks := by rfl)
    (hdb : (x == ("__debug__" : Str)) = false := by decide)
    (hpl : ((backTo pos (starEach [] X.env)).any (·.1) || (backToKw pos (keywordEach kws X.env)).any (·.1.isNone)) = false := by rfl) :
    PE X (.Call (.Name x p) [] kws pos) (tCallGK 0 ks.length sp gV E tNil tk) := by
  constructor
  intro pins s σ H Q I h
  refine wpAny_Call_Name_kw (ld_glob I hg hm ?_ hdb)
  refine PySem.W.callWith_KW0 (h₀ := X.base) I.ok.mod.kin hk hall ?_ hpl
  refine thn (hkw.run pos pins s σ H _ I h) ?_
  rintro ws s2 ⟨zs, H2, I2, rz, l1, l2, q2⟩
  refine ⟨I2.kIn, ?_⟩
  rw [hks]
  exact run_G (args := ⟨[], ks.zip ws⟩) F hgd hr hx I2 (hb s2 [] ws I2.kIn rfl (rz.length.symm.trans l2)) (hrel _ _ _ _ .nil rz) q2
end

/-! ### the law's end -/
theorem lawG {P : Program} {w : World} {K : PySem.W.Frag} {mg mb : Str → Option Value} {CX : CXT} {k : Nat} {fa a : Addr} {fd : FuncData} {x : Str} {sp : Sp} {s1 : Shared} {vs : List Value} {ns : List Int}
    (inK : K.In s1.heap) (gm : s1.heap.Ns mainGlobals mg) (gb : s1.heap.Ns builtinsNs mb) (blt : ∀ y : Str, y ≠ "__name__" → mb y = bootBuiltins y) (nol : s1.heap.NoLimit) (ge : s1.gens = #[])
    (ha : s1.heap.get? a = some { cls := .type "list", data := .seq vs.toArray }) (hi : IntsAre vs ns) (hl : ns.length ≤ sizeLine) (hr : Room k callerA)
    (F : ∀ base : Heap, K.In base → base.Ns mainGlobals mg → FnG P w K mg base CX k fa fd [x] sp) (bind : ∀ (s : Shared) (u : Value), BindsTo s fd ⟨[u], []⟩ [(x, u)])
    (want : ∀ H : Hp, Only H → SqL K H a (ns.map V.int) → sp [.ref a] H (fun v _ => v = .bl true) fun _ _ _ => False)
    (noX : ∀ H e s', CX [] H s1 (fun _ _ _ => False) e s' → False) :
    codeAny (model P w) callerA (.call (.ref fa) ⟨[.ref a], []⟩) (fun r s' => r = .ok (.ret (.bool true)) ∧ OldK s1.heap s'.heap ∧ s'.os = s1.os ∧ AllBare s'.gens) s1 := by
  have rel := vals_ints hi
  have len := hi.length
  have main : ∀ H : Hp, Only H → SqL K H a (ns.map V.int) → HOk P w H s1.heap → (∀ b, H b ≠ none → b = a) → (H a ≠ none → K.lookup a = none) →
      codeAny (model P w) callerA (.call (.ref fa) ⟨[.ref a], []⟩) (fun r s' => r = .ok (.ret (.bool true)) ∧ OldK s1.heap s'.heap ∧ s'.os = s1.os ∧ AllBare s'.gens) s1 := by
    intro H only seq hok onlyA freeK
    have low : ∀ {b : Addr} {o : Obj}, s1.heap.get? b = some o → (H b ≠ none → False) → (hidT s1.heap H).get? b = some o := fun {b o} e n => hidT_get e (by
      cases z : H b with
      | none => rfl
      | some u => exact (n (by simp [z])).elim)
    have dictNot : ∀ {b : Addr} {o : Obj} {es : Array DictEntry} {ep : Nat}, s1.heap.get? b = some o → o.data = .dict es ep → H b ≠ none → False := fun {b o es ep} e d n => by
      have := onlyA b n
      subst this
      rw [ha] at e; cases e
      exact absurd d (fun z => nomatch (show Data.seq vs.toArray _ = Data.dict es ep from z))
    have nsLow : ∀ {b : Addr} {m : Str → Option Value}, s1.heap.Ns b m → (hidT s1.heap H).Ns b m := fun {b m} z => by
      obtain ⟨o, es, ep, e, d, r⟩ := z
      exact ⟨o, es, ep, low e (dictNot e d), d, r⟩
    have kLow : K.In (hidT s1.heap H) := fun b o e => low (inK b o e) fun n => by
      have := onlyA b n
      subst this
      rw [freeK n] at e; cases e
    obtain ⟨mc, c1, c2⟩ := nol
    have hM : Mod K mg (hidT s1.heap H) := ⟨kLow, nsLow gm, ⟨mb, nsLow gb, blt⟩, ⟨mc, nsLow c1, c2⟩⟩
    have start0 : Env0 P w K mg (hidT s1.heap H) callerA [] s1 H :=
      ⟨rfl, hM, fun b o e => of_hidT e, Nat.le_of_eq (hidT_size _ _), trivial, (fun b z => absurd (show b ∈ ([] : List Addr) from z) (by simp)), hok, .of_eq ge⟩
    refine codeAny_mono ((F _ kLow (nsLow gm)).run callerA [] s1 H ⟨[.ref a], []⟩ [.ref a] [.ref a] _ _ rfl hr start0 (bind s1 (.ref a)) (.cons rfl .nil) (want H only seq)) ?_
    intro r s' z
    cases r with
    | error e => exact (noX H e s' z).elim
    | ok fl =>
      cases fl with
      | next => exact z.elim
      | brk => exact z.elim
      | cont => exact z.elim
      | ret u =>
        obtain ⟨v, H', os, bare, un, hok2, rv, q⟩ := z
        have q : v = V.bl true := q
        subst q
        cases (show u = Value.bool true from rv)
        refine ⟨rfl, OldK.of_keep fun b o e => ?_, os, bare⟩
        cases hb : H b with
        | none => exact un.keep b o e hb (fun z => absurd (show b ∈ ([] : List Addr) from z) (by simp)) (by simp)
        | some u =>
          rcases only b with z | ⟨ob, xs, z⟩
          · rw [hb] at z; cases z
          · have z2 := un.frzs b ob _ z
            have g1 := (hok b _ z).1
            have g2 := (hok2 b _ z2).1
            rw [e] at g1; cases g1
            exact g2
  cases hk : K.lookup a with
  | some o =>
    have e := inK a o hk
    rw [ha] at e
    cases e
    refine main (fun _ => none) (fun _ => Or.inl rfl) (Or.inr ⟨_, vs.toArray, _, hk, rfl, rfl, rfl, ?_, ?_⟩) ?_ ?_ ?_
    · rw [List.size_toArray, len]; exact hl
    · simpa using rel
    · intro b u z; exact nomatch (show (none : Option HO) = some u from z)
    · intro b z; exact (z rfl).elim
    · intro z; exact (z rfl).elim
  | none =>
    have at_a : ∀ b, (if b = a then some (HO.frz { cls := .type "list", data := .seq vs.toArray } (.lst (ns.map V.int))) else none) ≠ none → b = a := fun b z => by
      by_cases hb : b = a
      · exact hb
      · rw [if_neg hb] at z; exact (z rfl).elim
    refine main (fun b => if b = a then some (HO.frz { cls := .type "list", data := .seq vs.toArray } (.lst (ns.map V.int))) else none) (fun b => ?_) (Or.inl (Or.inr ⟨{ cls := .type "list", data := .seq vs.toArray }, if_pos rfl⟩)) (fun b u z => ?_) at_a fun _ => hk
    · by_cases hb : b = a
      · exact Or.inr ⟨_, _, if_pos hb⟩
      · exact Or.inl (if_neg hb)
    · have z : (if b = a then some (HO.frz { cls := .type "list", data := .seq vs.toArray } (.lst (ns.map V.int))) else none) = some u := z
      have hb := at_a b (fun q => by rw [q] at z; cases z)
      subst hb
      rw [if_pos rfl] at z; cases z
      refine ⟨ha, ?_, vs, _, rel, ha⟩
      rw [List.length_map]; exact hl
theorem walkG {l : PySem.W.OpenLaw} {n k : Nat} {q : Program} {loose : List Str} {XP : (Str → Option Value) → Heap → Prop} {YP : World → Heap → Prop} {d : DefRec} {K : Params → PySem.W.Frag} {CX : World → CXT} {sp : World → Sp} {x : Str}
    (hn : l.most = some n) (hn2 : n ≤ sizeLine) (hdf : d.params.defaults = []) (hr : Room k callerA)
    (hY : ∀ (w : World) (h : Heap), YP w h → (K w.params).In h)
    (F : ∀ (w : World) (mg : Str → Option Value) (fa : Addr) (h : Heap), (K w.params).In h → h.Ns mainGlobals mg → mg d.name = some (.ref fa) →
      ∃ fd : FuncData, (∀ (s : Shared) (u : Value), BindsTo s fd ⟨[u], []⟩ [(x, u)]) ∧
        ∀ base : Heap, (K w.params).In base → base.Ns mainGlobals mg → FnG l.prog w (K w.params) mg base (CX w) k fa fd [x] (sp w))
    (want : ∀ (w : World) (H : Hp) (a : Addr) (ns : List Int), ns.length ≤ n → Only H → SqL (K w.params) H a (ns.map V.int) → sp w [.ref a] H (fun v _ => v = .bl true) fun _ _ _ => False)
    (noX : ∀ (w : World) (H : Hp) (s : Shared) (e : Value) (s' : Shared), CX w [] H s (fun _ _ _ => False) e s' → False) :
    PySem.W.WalkO q loose XP YP l.row.toRowW d [] (fun f vs => PySem.call f vs) := by
  refine Att.attach_call hn hdf ?_
  intro w s₀ s1 mg mb fa o pm cd doc a vs ns G Y ho hd hcd hmg hobj hints hlen hgs
  have inK := hY w _ Y
  obtain ⟨fd, hb, hF⟩ := F w mg fa _ inK G.T.g hmg
  exact lawG inK G.T.g G.T.b G.T.builtins G.T.nolimit hgs hobj hints (Nat.le_trans hlen hn2) hr hF hb (fun H hO hS => want w H a ns hlen hO hS) fun H e s' => noX w H s1 e s'
end Cl

namespace Cl
open PySem PySem.Spec PyProof.Rows L2

/-! ### built-ins of one argument -/
def lenX : C1X := fun d Q => match d with
  | .str s => s.length ≤ sizeLine ∧ Q (.dat (.int s.length))
  | .list xs => Q (.dat (.int xs.length))
  | .tuple xs => Q (.dat (.int xs.length))
  | _ => False
def listX : C1X := fun d Q => match d with
  | .list xs => Q (.own xs)
  | .tuple xs => Q (.own xs)
  | _ => False
def tupleX : C1X := fun d Q => match d with
  | .list xs => Q (.dat (.tuple xs))
  | .tuple xs => Q (.dat (.tuple xs))
  | _ => False
def reprOk (d : PyData) : Prop := d.showable = true ∧ (d.hasDict = true → listFree d = true) ∧ d.depth ≤ 60 ∧ d.shown.length ≤ sizeLine
def reprX : C1X := fun d Q => reprOk d ∧ Q (.dat (.str d.shown))
def intX : C1X := fun d Q => match d with
  | .int i => Q (.dat (.int i))
  | .bool b => Q (.dat (.int (if b then 1 else 0)))
  | _ => False
def boolsD : List PyData → Option (List Bool)
  | [] => some []
  | .bool b :: r => (boolsD r).map (b :: ·)
  | _ :: _ => none
def intsD : List PyData → Option (List Int)
  | [] => some []
  | .int b :: r => (intsD r).map (b :: ·)
  | _ :: _ => none
def allX : C1X := fun d Q => match d with
  | .list xs => (match boolsD xs with
    | some bs => Q (.dat (.bool (bs.all id)))
    | none => False)
  | _ => False
def sumX : C1X := fun d Q => match d with
  | .list xs => (match intsD xs with
    | some ns => Q (.dat (.int ns.sum))
    | none => False)
  | _ => False
def absX : C1X := fun d Q => match d with
  | .int i => Q (.dat (.int (if i < 0 then -i else i)))
  | _ => False
section
variable {K : PySem.W.Frag} {H : Hp} {fz : Addr → Prop}
theorem RpAll.boolsOf : ∀ {ds : List PyData} {vs : List V} {bs : List Bool}, RpAll K H fz ds vs → boolsD ds = some bs → vs = bs.map V.bl
  | [], _, bs, .nil, e => by simp [boolsD] at e; subst e; rfl
  | d :: ds, _, bs, .cons r s, e => by
    cases d with
    | bool b =>
      simp only [boolsD, Option.map_eq_some_iff] at e
      obtain ⟨cs, e1, rfl⟩ := e
      cases r
      rw [RpAll.boolsOf s e1]; rfl
    | _ => simp [boolsD] at e
theorem RpAll.intsOf : ∀ {ds : List PyData} {vs : List V} {bs : List Int}, RpAll K H fz ds vs → intsD ds = some bs → vs = bs.map V.int
  | [], _, bs, .nil, e => by simp [intsD] at e; subst e; rfl
  | d :: ds, _, bs, .cons r s, e => by
    cases d with
    | int b =>
      simp only [intsD, Option.map_eq_some_iff] at e
      obtain ⟨cs, e1, rfl⟩ := e
      cases r
      rw [RpAll.intsOf s e1]; rfl
    | _ => simp [intsD] at e
end
section
variable {X : Cx}
theorem c_len : CallR X (.builtin "len") (rC1 X.K lenX) := by
  rintro pins s σ H xs us Q I r ⟨x, fz, d, rfl, hd, Q', q, k⟩
  cases d with
  | str z => cases hd.str; exact call_len_str pins s σ H _ us Q I r ⟨z, rfl, q.1, k _ _ _ q.2 (.same (.int _))⟩
  | list ds =>
    obtain ⟨a, vs, rfl, h, ra⟩ := hd.lst
    refine call_len_seq pins s σ H _ us Q I r ⟨a, vs, rfl, .inl (SqL.of h), ?_⟩
    rw [← ra.length]; exact k _ _ _ q (.same (.int _))
  | tuple ds =>
    obtain ⟨a, vs, rfl, h, ra⟩ := hd.tup
    refine call_len_seq pins s σ H _ us Q I r ⟨a, vs, rfl, .inr h, ?_⟩
    rw [← ra.length]; exact k _ _ _ q (.same (.int _))
  | _ => exact q.elim
theorem c_list : CallR X (.type "list") (rC1 X.K listX) := by
  rintro pins s σ H xs us Q I r ⟨x, fz, d, rfl, hd, Q', q, k⟩
  cases d with
  | list ds =>
    obtain ⟨a, vs, rfl, h, ra⟩ := hd.lst
    exact call_list_of pins s σ H _ us Q I r ⟨a, vs, rfl, .inl (SqL.of h), fun l hl => k _ _ _ q (.lst hl ra)⟩
  | tuple ds =>
    obtain ⟨a, vs, rfl, h, ra⟩ := hd.tup
    exact call_list_of pins s σ H _ us Q I r ⟨a, vs, rfl, .inr h, fun l hl => k _ _ _ q (.lst hl ra)⟩
  | _ => exact q.elim
theorem c_tuple : CallR X (.type "tuple") (rC1 X.K tupleX) := by
  rintro pins s σ H xs us Q I r ⟨x, fz, d, rfl, hd, Q', q, k⟩
  cases d with
  | list ds =>
    obtain ⟨a, vs, rfl, h, ra⟩ := hd.lst
    exact call_tuple_of pins s σ H _ us Q I r ⟨a, vs, rfl, .inl ⟨SqL.of h, fun l hl => k _ _ _ q (.tup hl ra)⟩⟩
  | tuple ds =>
    obtain ⟨a, vs, rfl, h, ra⟩ := hd.tup
    exact call_tuple_of pins s σ H _ us Q I r ⟨a, vs, rfl, .inr ⟨h, k _ _ _ q (.same (.tup h ra))⟩⟩
  | _ => exact q.elim
theorem c_int : CallR X (.type "int") (rC1 X.K intX) := by
  rintro pins s σ H xs us Q I r ⟨x, fz, d, rfl, hd, Q', q, k⟩
  cases d with
  | int i => cases hd.int; exact call_int1 pins s σ H _ us Q I r (.inl ⟨i, rfl, k _ _ _ q (.same (.int _))⟩)
  | bool b => cases hd.bl; exact call_int1 pins s σ H _ us Q I r (.inr ⟨b, rfl, k _ _ _ q (.same (.int _))⟩)
  | _ => exact q.elim
theorem c_abs : CallR X (.builtin "abs") (rC1 X.K absX) := by
  rintro pins s σ H xs us Q I r ⟨x, fz, d, rfl, hd, Q', q, k⟩
  cases d with
  | int i => cases hd.int; exact call_abs pins s σ H _ us Q I r ⟨i, rfl, k _ _ _ q (.same (.int _))⟩
  | _ => exact q.elim
theorem c_all (hc : X.calm = true) : CallR X (.builtin "all") (rC1 X.K allX) := by
  rintro pins s σ H xs us Q I r ⟨x, fz, d, rfl, hd, Q', q, k⟩
  cases d with
  | list ds =>
    obtain ⟨a, vs, rfl, h, ra⟩ := hd.lst
    cases e : boolsD ds with
    | none => simp only [allX, e] at q
    | some bs =>
      simp only [allX, e] at q
      exact cr_all hc pins s σ H _ us Q I r ⟨a, bs, rfl, SqL.of (by rw [← ra.boolsOf e]; exact h), k _ _ _ q (.same (.bl _))⟩
  | _ => exact q.elim
theorem c_sum (hc : X.calm = true) : CallR X (.builtin "sum") (rC1 X.K sumX) := by
  rintro pins s σ H xs us Q I r ⟨x, fz, d, rfl, hd, Q', q, k⟩
  cases d with
  | list ds =>
    obtain ⟨a, vs, rfl, h, ra⟩ := hd.lst
    cases e : intsD ds with
    | none => simp only [sumX, e] at q
    | some bs =>
      simp only [sumX, e] at q
      exact cr_sum hc pins s σ H _ us Q I r ⟨a, bs, rfl, SqL.of (by rw [← ra.intsOf e]; exact h), k _ _ _ q (.same (.int _))⟩
  | _ => exact q.elim
theorem c_repr (hg : X.A.guards = some []) (hu : X.A.units + 64 < cLine) : CallR X (.builtin "repr") (rC1 X.K reprX) := by
  rintro pins s σ H xs us Q I r ⟨x, fz, d, rfl, hd, Q', ⟨⟨z1, z2, z3, z4⟩, q⟩, k⟩
  obtain ⟨u, rfl, ru⟩ := vals1 r
  have done : ∀ (h' : Heap) (t tk : Nat), (∀ b o, s.heap.get? b = some o → h'.get? b = some o) → EP X pins σ Q (.str d.shown t) { s with heap := h', toks := tk } := fun h' t tk hk =>
    ⟨.str _, H, I.kept hk, ⟨t, rfl⟩, k _ _ _ q (.same (.str _))⟩
  have ref : ∀ a, u = Value.ref a → wpAny (model X.prog X.w) X.A (call (.builtin "repr") [u]) (EP X pins σ Q) X.xe s := fun a e => by
    obtain ⟨as, rd, hs⟩ := RB.reads I hd ru
    subst e
    exact repr_of_reads' rd z1 (fun h => hs (z2 h)) hg (by omega) (fun _ _ e => e) (fun h' u tk hk => done h' u tk hk) z4
  cases d with
  | none => cases hd.non; cases ru; exact PySem.P.repr_of_none (done s.heap _ _ fun _ _ e => e)
  | bool b => cases hd.bl; cases ru; exact PySem.P.repr_of_bool (done s.heap _ _ fun _ _ e => e)
  | int i =>
    cases hd.int
    obtain ⟨t, rfl⟩ := ru
    exact PySem.P.repr_of_int (by simpa [PyData.showable] using z1) (done s.heap _ _ fun _ _ e => e)
  | str x =>
    cases hd.str
    obtain ⟨t, rfl⟩ := ru
    exact PySem.P.repr_of_str (done s.heap _ _ fun _ _ e => e) z4
  | list ds => obtain ⟨a, vs, rfl, _⟩ := hd.lst; exact ref a ru
  | tuple ds => obtain ⟨a, vs, rfl, _⟩ := hd.tup; exact ref a ru
  | dict ds => obtain ⟨a, es, ks, vs, rfl, _⟩ := hd; exact ref a ru
end

/-! ### items and slices -/
def ixX : OpX := fun x y Q => match x, y with
  | .list xs, .int i => (match atI xs i with
    | some d => Q (.dat d)
    | none => False)
  | .tuple xs, .int i => (match atI xs i with
    | some d => Q (.dat d)
    | none => False)
  | .str z, .int i => z.length ≤ sizeLine ∧ (match atI z.cps.toList i with
    | some c => Q (.dat (.str ⟨#[c]⟩))
    | none => False)
  | _, _ => False
theorem RpAll.at_ {K : PySem.W.Frag} {H : Hp} {fz : Addr → Prop} {ds : List PyData} {vs : List V} {i : Int} {d : PyData} (r : RpAll K H fz ds vs) (e : atI ds i = some d) : ∃ v, atI vs i = some v ∧ Rp K H fz d v := by
  unfold atI at e ⊢
  rw [← r.length]
  cases e1 : ixN ds.length i with
  | none => rw [e1] at e; cases e
  | some j =>
    rw [e1] at e
    exact r.get' e
def cutD (xs : List PyData) (lo hi : Option Int) : List PyData := (xs.drop (HT.sIx xs.length 0 lo)).take (HT.sIx xs.length xs.length hi - HT.sIx xs.length 0 lo)
theorem RpAll.cut {K : PySem.W.Frag} {H : Hp} {fz : Addr → Prop} {ds : List PyData} {vs : List V} (r : RpAll K H fz ds vs) (lo hi : Option Int) : RpAll K H fz (cutD ds lo hi) (cutV vs lo hi) := by
  unfold cutD cutV
  rw [← r.length]
  exact (r.drop _).take _
theorem cutD_whole {xs : List PyData} {lo hi : Option Int} (h : HT.sIx xs.length 0 lo = 0 ∧ HT.sIx xs.length xs.length hi = xs.length) : cutD xs lo hi = xs := by
  unfold cutD
  rw [h.1, h.2]
  simp
section
variable {X : Cx}
theorem ix_data : IxR X (rO X.K ixX) := by
  rintro value slice pins s σ H x y v u Q I rx ry ⟨fz, d, e, hd, he, Q', q, k⟩ hs
  cases d with
  | list ds =>
    cases e with
    | int i =>
      obtain ⟨a, vs, rfl, h, ra⟩ := hd.lst
      cases he.int
      cases e1 : atI ds i with
      | none => simp only [ixX, e1] at q
      | some c =>
        simp only [ixX, e1] at q
        obtain ⟨w, e2, rw_⟩ := ra.at_ e1
        exact ix_list value slice pins s σ H _ _ v u Q I rx ry ⟨a, vs, i, w, rfl, rfl, SqL.of h, e2, k _ _ _ q (.same rw_)⟩ hs
    | _ => exact q.elim
  | tuple ds =>
    cases e with
    | int i =>
      obtain ⟨a, vs, rfl, h, ra⟩ := hd.tup
      cases he.int
      cases e1 : atI ds i with
      | none => simp only [ixX, e1] at q
      | some c =>
        simp only [ixX, e1] at q
        obtain ⟨w, e2, rw_⟩ := ra.at_ e1
        exact ix_tup value slice pins s σ H _ _ v u Q I rx ry ⟨a, vs, i, w, rfl, rfl, h, e2, k _ _ _ q (.same rw_)⟩ hs
    | _ => exact q.elim
  | str z =>
    cases e with
    | int i =>
      cases hd.str
      cases he.int
      obtain ⟨q1, q⟩ := q
      cases e1 : atI z.cps.toList i with
      | none => simp only [e1] at q
      | some c =>
        simp only [e1] at q
        exact ix_str value slice pins s σ H _ _ v u Q I rx ry ⟨z, i, c, rfl, rfl, q1, e1, k _ _ _ q (.same (.str _))⟩ hs
    | _ => exact q.elim
  | _ => cases e <;> exact q.elim
variable {ZP : ZT} {a b : Expr} {pos : Pos} {ta tb : TLD}
theorem de_ix (ha : DL X ZP a ta) (hb : DL X ZP b tb) (hs : PlainIx b := by exact fun _ _ => rfl) : DE X ZP (.Subscript a b pos) (t_op ixX ta tb) :=
  ⟨PE.imp (pe_ix ix_data ha.pe hb.pe hs) fun σ H Q h => op_core h⟩
end
/-- an optional part of a slice -/
abbrev TOD := CS → (Option Int → CS → Prop) → Prop
def tOp_ (K : PySem.W.Frag) (ZP : ZT) (t : TOD) : TO := fun σ H Q => ∃ B cs g, Rel K ZP B g H cs σ ∧ ∃ Q', t cs Q' ∧
  ∀ o cs' g' H', Q' o cs' → Rel K ZP B g' H' cs' σ → (∀ a, ow cs' σ a → ow cs σ a) → Frm (ow cs σ) g H g' H' → Q o H'
structure DO (X : Cx) (ZP : ZT) (e : Option Expr) (t : TOD) : Prop where
  po : PO X e (tOp_ X.K ZP t)
def t_no : TOD := fun cs Q => Q none cs
def t_some (t : TVD) : TOD := fun cs Q => t cs fun d cs' => match d with
  | .int i => Q (some i) cs'
  | _ => False
theorem PO.imp {X : Cx} {e : Option Expr} {t t' : TO} (h : PO X e t) (m : ∀ σ H Q, t' σ H Q → t σ H Q) : PO X e t' := ⟨fun pins s σ H Q I q => h.run pins s σ H Q I (m _ _ _ q)⟩
theorem do_none {X : Cx} {ZP : ZT} : DO X ZP none t_no := ⟨PO.imp po_none fun σ H Q ⟨B, cs, g, R, Q', q, k⟩ => k none cs g H q R (fun _ h => h) .refl⟩
theorem do_some {X : Cx} {ZP : ZT} {e : Expr} {t : TVD} (h : DV X ZP e t) : DO X ZP (some e) (t_some t) := by
  refine ⟨PO.imp (po_some h.pe) ?_⟩
  rintro σ H Q ⟨B, cs, g, R, Q', q, k⟩
  refine ⟨B, cs, g, R, _, q, fun d cs1 v g1 H1 q1 R1 r1 s1 f1 => ?_⟩
  cases d with
  | int i => cases r1; exact ⟨i, rfl, k _ cs1 g1 H1 q1 R1 s1 f1⟩
  | _ => exact q1.elim
def slX (d : PyData) (lo hi : Option Int) (Q : SV → Prop) : Prop := match d with
  | .list xs => Q (.own (cutD xs lo hi))
  | .tuple xs => Q (.dat (.tuple (cutD xs lo hi)))
  | .str z => z.length ≤ sizeLine ∧ Q (.dat (.str (cutS z lo hi)))
  | _ => False
def rSlD (K : PySem.W.Frag) : V → Option Int → Option Int → Hp → VK → Prop := fun x lo hi H Q => ∃ fz d, RB K H fz d x ∧ ∃ Q', slX d lo hi Q' ∧ ∀ sv z H', Q' sv → Res K H fz sv z H' → Q z H'
theorem sl_data {X : Cx} : SlR X (rSlD X.K) := by
  rintro pins s σ H x v vl vu lo hi sl Q I rx hs pl pu ⟨fz, d, hd, Q', q, k⟩
  cases d with
  | list ds =>
    obtain ⟨a, vs, rfl, h, ra⟩ := hd.lst
    exact sl_list pins s σ H _ v vl vu lo hi sl Q I rx hs pl pu ⟨a, vs, rfl, SqL.of h, fun p hp => k _ _ _ q (.lst hp (ra.cut lo hi))⟩
  | tuple ds =>
    obtain ⟨a, vs, rfl, h, ra⟩ := hd.tup
    refine sl_tupA pins s σ H _ v vl vu lo hi sl Q I rx hs pl pu ⟨a, vs, rfl, h, fun e => ?_, fun _ p hp => k _ _ _ q (.tup hp (ra.cut lo hi))⟩
    rw [← ra.length] at e
    have q : Q' (.dat (.tuple (cutD ds lo hi))) := q
    rw [cutD_whole e] at q
    exact k _ _ _ q (.same (.tup h ra))
  | str z => cases hd.str; exact sl_str pins s σ H _ v vl vu lo hi sl Q I rx hs pl pu ⟨z, rfl, q.1, k _ _ _ q.2 (.same (.str _))⟩
  | _ => exact q.elim
def t_slice (ta : TLD) (tl th : TOD) : TD := fun cs Q => ta cs fun l cs1 => tl cs1 fun lo cs2 => th cs2 fun hi cs3 => match l.get cs3 with
  | some d => slX d lo hi fun sv => Q sv cs3
  | none => False
section
variable {X : Cx} {ZP : ZT} {a : Expr} {lo hi : Option Expr} {pos p2 : Pos} {ta : TLD} {tl th : TOD}
theorem Tmp.back {H H1 : Hp} {cs : CS} {σ : L2.St} {sv : SV} {v : V} {w : Addr → Prop} {g g1 : GW} (f : Frm w g H g1 H1) (t : Tmp H1 cs σ sv v) : Tmp H cs σ sv v := fun xs a e3 e4 => by
  obtain ⟨n1, n2⟩ := t xs a e3 e4
  refine ⟨n1, ?_⟩
  cases e5 : H a with
  | none => rfl
  | some u =>
    obtain ⟨u', e6⟩ := f.any a u e5
    rw [n2] at e6; cases e6
theorem de_slice (ha : DL X ZP a ta) (hl : DO X ZP lo tl) (hh : DO X ZP hi th) : DE X ZP (.Subscript a (.Slice lo hi none p2) pos) (t_slice ta tl th) := by
  refine ⟨PE.imp (pe_slice sl_data ha.pe hl.po hh.po) ?_⟩
  rintro σ H Q ⟨B, cs, g, R, Q', q, k⟩
  refine ⟨B, cs, g, R, _, q, fun l cs1 v g1 H1 q1 R1 r1 s1 f1 => ?_⟩
  refine ⟨B, cs1, g1, R1, _, q1, fun o1 cs2 g2 H2 q2 R2 s2 f2 => ?_⟩
  refine ⟨B, cs2, g2, R2, _, q2, fun o2 cs3 g3 H3 q3 R3 s3 f3 => ?_⟩
  have r3 := (r1.frm R1 f2).frm R2 f3
  cases e1 : l.get cs3 with
  | none => rw [e1] at q3; exact q3.elim
  | some d =>
    rw [e1] at q3
    refine ⟨g3.fz, d, r3.rb R3 e1, _, q3, fun sv z H' q4 rz => ?_⟩
    obtain ⟨R4, r4, t4, f4⟩ := rz.fin R3
    have f13 : Frm (ow cs σ) g H g3 H3 := (f1.trans (f2.mono fun a _ _ h => s1 a h)).trans (f3.mono fun a _ _ h => s1 a (s2 a h))
    exact k sv cs3 z g3 H' q4 R4 r4 (t4.back f13) (fun a h => s1 a (s2 a (s3 a h))) (f13.trans (f4.mono fun a _ _ h => s1 a (s2 a (s3 a h))))
end
end Cl

namespace Cl
open PySem PySem.Spec PyProof.Rows L2

/-! ### arguments -/
def settled : SV → Bool
  | .own _ => false
  | _ => true
abbrev RSs (K : PySem.W.Frag) (g : GW) (H : Hp) : List SV → List V → Prop := Paired (RS K g H)
abbrev TSA := CS → (List SV → CS → Prop) → Prop
def tA (K : PySem.W.Frag) (ZP : ZT) (t : TSA) : TA := fun σ H Q => ∃ B cs g, Rel K ZP B g H cs σ ∧ ∃ Q', t cs Q' ∧
  ∀ svs cs' vs g' H', Q' svs cs' → Rel K ZP B g' H' cs' σ → RSs K g' H' svs vs → (∀ sv ∈ svs, settled sv = true) → (∀ a, ow cs' σ a → ow cs σ a) → Frm (ow cs σ) g H g' H' → Q vs H'
structure DA (X : Cx) (ZP : ZT) (es : List Expr) (t : TSA) : Prop where
  pa : PA X es (tA X.K ZP t)
structure DK (X : Cx) (ZP : ZT) (kws : List Keyword) (t : TSA) : Prop where
  pk : PK X kws (tA X.K ZP t)
section
variable {X : Cx} {ZP : ZT} {e : Expr} {es : List Expr} {kws : List Keyword} {pos kpos : Pos} {tv : TVD} {td : TD} {ts : TSA} {nm : Option Str}
theorem PA.imp {t t' : TA} (h : PA X es t) (m : ∀ σ H Q, t' σ H Q → t σ H Q) : PA X es t' := ⟨fun pos pins s σ H Q I q => h.run pos pins s σ H Q I (m _ _ _ q)⟩
theorem PK.imp {t t' : TA} (h : PK X kws t) (m : ∀ σ H Q, t' σ H Q → t σ H Q) : PK X kws t' := ⟨fun pos pins s σ H Q I q => h.run pos pins s σ H Q I (m _ _ _ q)⟩
theorem RSs.frm {K : PySem.W.Frag} {g g' : GW} {H H' : Hp} {w : Addr → Prop} (f : Frm w g H g' H') (hw : ∀ a, g.fz a → g.zs a = none ∧ ¬ w a) : ∀ {svs : List SV} {vs : List V}, (∀ sv ∈ svs, settled sv = true) → RSs K g H svs vs → RSs K g' H' svs vs
  | _, _, _, .nil => .nil
  | sv :: _, _, h, .cons r t => .cons (r.frm f hw fun xs a e _ => by
      have := h sv List.mem_cons_self
      rw [e] at this; cases this) (RSs.frm f hw (fun sv hm => h sv (List.mem_cons_of_mem _ hm)) t)
def t_anil : TSA := fun cs Q => Q [] cs
def t_acons (t : TVD) (u : TSA) : TSA := fun cs Q => t cs fun d cs1 => u cs1 fun svs cs2 => Q (.dat d :: svs) cs2
/-- an argument that may be a thing of the typed region, or the script -/
def t_aconsR (t : TD) (u : TSA) : TSA := fun cs Q => t cs fun sv cs1 => settled sv = true ∧ u cs1 fun svs cs2 => Q (sv :: svs) cs2
theorem da_nil : DA X ZP [] t_anil := ⟨PA.imp pa_nil fun σ H Q ⟨B, cs, g, R, Q', q, k⟩ => k [] cs [] g H q R .nil (fun _ z => by cases z) (fun _ h => h) .refl⟩
theorem acons_core {tr : TA} {σ : L2.St} {H : Hp} {Q : List V → Hp → Prop} (h : tA X.K ZP (t_aconsR td ts) σ H Q) : tCons (tD X.K ZP td) (tA X.K ZP ts) σ H Q := by
  obtain ⟨B, cs, g, R, Q', q, k⟩ := h
  refine ⟨B, cs, g, R, _, q, fun sv cs1 v g1 H1 q1 R1 r1 t1 s1 f1 => ?_⟩
  obtain ⟨hs, q1⟩ := q1
  refine ⟨B, cs1, g1, R1, _, q1, fun svs cs2 vs g2 H2 q2 R2 r2 st s2 f2 => ?_⟩
  refine k (sv :: svs) cs2 (v :: vs) g2 H2 q2 R2 (.cons (r1.frm f2 R1.fzow fun xs a e _ => ?_) r2) (fun sv' hm => ?_) (fun a h => s1 a (s2 a h)) (f1.trans (f2.mono fun a _ _ h => s1 a h))
  · rw [e] at hs; cases hs
  · rcases List.mem_cons.mp hm with rfl | hm
    · exact hs
    · exact st sv' hm
theorem da_consR (h : DE X ZP e td) (r : DA X ZP es ts) (hs : starEach (e :: es) X.env = (false, eval e X.env) :: starEach es X.env := by rfl) : DA X ZP (e :: es) (t_aconsR td ts) :=
  ⟨PA.imp (pa_cons h.pe r.pa hs) fun σ H Q q => acons_core (tr := tNil) q⟩
theorem acons_v {σ : L2.St} {H : Hp} {Q : List V → Hp → Prop} (h : tA X.K ZP (t_acons tv ts) σ H Q) : tCons (tV X.K ZP tv) (tA X.K ZP ts) σ H Q := by
  obtain ⟨B, cs, g, R, Q', q, k⟩ := h
  refine ⟨B, cs, g, R, _, q, fun d cs1 v g1 H1 q1 R1 r1 s1 f1 => ?_⟩
  refine ⟨B, cs1, g1, R1, _, q1, fun svs cs2 vs g2 H2 q2 R2 r2 st s2 f2 => ?_⟩
  refine k (.dat d :: svs) cs2 (v :: vs) g2 H2 q2 R2 (.cons (Rp.frm f2 R1.fzow r1) r2) (fun sv' hm => ?_) (fun a h => s1 a (s2 a h)) (f1.trans (f2.mono fun a _ _ h => s1 a h))
  rcases List.mem_cons.mp hm with rfl | hm
  · rfl
  · exact st sv' hm
theorem da_cons (h : DV X ZP e tv) (r : DA X ZP es ts) (hs : starEach (e :: es) X.env = (false, eval e X.env) :: starEach es X.env := by rfl) : DA X ZP (e :: es) (t_acons tv ts) :=
  ⟨PA.imp (pa_cons h.pe r.pa hs) fun σ H Q q => acons_v q⟩
theorem dk_nil : DK X ZP [] t_anil := ⟨PK.imp pk_nil fun σ H Q ⟨B, cs, g, R, Q', q, k⟩ => k [] cs [] g H q R .nil (fun _ z => by cases z) (fun _ h => h) .refl⟩
theorem dk_cons (h : DV X ZP e tv) (r : DK X ZP kws ts) : DK X ZP (⟨nm, e, kpos⟩ :: kws) (t_acons tv ts) := ⟨PK.imp (pk_cons h.pe r.pk) fun σ H Q q => acons_v q⟩
theorem dk_consR (h : DE X ZP e td) (r : DK X ZP kws ts) : DK X ZP (⟨nm, e, kpos⟩ :: kws) (t_aconsR td ts) := ⟨PK.imp (pk_cons h.pe r.pk) fun σ H Q q => acons_core (tr := tNil) q⟩
end

/-! ### displays -/
def datsOf : List SV → Option (List PyData)
  | [] => some []
  | .dat d :: r => (datsOf r).map (d :: ·)
  | _ :: _ => none
theorem RSs.dats {K : PySem.W.Frag} {g : GW} {H : Hp} : ∀ {svs : List SV} {vs : List V} {ds : List PyData}, RSs K g H svs vs → datsOf svs = some ds → RpAll K H g.fz ds vs
  | [], _, _, .nil, e => by simp [datsOf] at e; subst e; exact .nil
  | sv :: _, _, _, .cons r t, e => by
    cases sv with
    | dat d =>
      simp only [datsOf, Option.map_eq_some_iff] at e
      obtain ⟨ds, e1, rfl⟩ := e
      exact .cons r (RSs.dats t e1)
    | _ => simp [datsOf] at e
def t_tupd (t : TSA) : TVD := fun cs Q => t cs fun svs cs1 => match datsOf svs with
  | some ds => ds.length ≤ sizeLine ∧ Q (.tuple ds) cs1
  | none => False
def t_lstd (t : TSA) : TD := fun cs Q => t cs fun svs cs1 => match datsOf svs with
  | some ds => ds.length ≤ sizeLine ∧ Q (.own ds) cs1
  | none => False
section
variable {X : Cx} {ZP : ZT} {es : List Expr} {pos : Pos} {x1 : Nat} {ts : TSA}
theorem dv_tup (h : DA X ZP es ts) : DV X ZP (.Tuple es x1 pos) (t_tupd ts) := by
  refine ⟨PE.imp (pe_tup h.pa) ?_⟩
  rintro σ H Q ⟨B, cs, g, R, Q', q, k⟩
  refine ⟨B, cs, g, R, _, q, fun svs cs1 vs g1 H1 q1 R1 r1 st s1 f1 => ?_⟩
  cases e : datsOf svs with
  | none => rw [e] at q1; exact q1.elim
  | some ds =>
    rw [e] at q1
    have ra := r1.dats e
    refine ⟨by rw [← ra.length]; exact q1.1, fun p hp => ?_⟩
    obtain ⟨R3, r3, t3, f3⟩ := (Res.tup hp ra).fin R1
    exact k _ cs1 _ g1 _ q1.2 R3 r3 s1 (f1.trans (f3.mono fun a _ _ h => s1 a h))
theorem de_lst (h : DA X ZP es ts) : DE X ZP (.List es pos) (t_lstd ts) := by
  refine ⟨PE.imp (pe_lst h.pa) ?_⟩
  rintro σ H Q ⟨B, cs, g, R, Q', q, k⟩
  refine ⟨B, cs, g, R, _, q, fun svs cs1 vs g1 H1 q1 R1 r1 st s1 f1 => ?_⟩
  cases e : datsOf svs with
  | none => rw [e] at q1; exact q1.elim
  | some ds =>
    rw [e] at q1
    have ra := r1.dats e
    refine ⟨by rw [← ra.length]; exact q1.1, fun p hp => ?_⟩
    obtain ⟨R3, r3, t3, f3⟩ := (Res.lst hp ra).fin R1
    exact k _ cs1 _ g1 _ q1.2 R3 r3 (t3.back f1) s1 (f1.trans (f3.mono fun a _ _ h => s1 a h))
end

/-! ### a def's contract, its call -/
abbrev TF := List SV → (SV → Prop) → Prop
structure GOk (ZP : ZF) (g : GW) (H : Hp) : Prop where
  zok : ∀ a t, g.zs a = some t → ∃ o, H a = some o ∧ ZP t g.zs o
  fzok : ∀ a, g.fz a → (∃ o, H a = some o) ∧ g.zs a = none
def spD (K : PySem.W.Frag) (ZP : ZF) (n : Nat) (C : TF) : Sp := fun vs H Q _ => vs.length = n ∧ ∃ svs g, RSs K g H svs vs ∧ (∀ sv ∈ svs, settled sv = true) ∧ GOk ZP g H ∧ ∃ Q', C svs Q' ∧
  ∀ sv v g' H', Q' sv → GOk ZP g' H' → RS K g' H' sv v → (∀ xs a, sv = .own xs → v = .ref a → H a = none) → Frm (fun _ => False) g H g' H' → Q v H'
def t_call (C : TF) (t : TSA) : TD := fun cs Q => t cs fun svs cs1 => C svs fun sv => Q sv cs1
section
variable {X : Cx} {ZP : ZT} {k n : Nat} {f : Addr} {fd : FuncData} {ps : List Str} {x : Str} {p pos : Pos} {e : Expr} {es : List Expr} {C : TF} {t tk : TSA}
theorem call_fin {B : Bs} {cs : CS} {g : GW} {H : Hp} {σ : L2.St} {svs : List SV} {vs : List V} {Q : VK} {Q' : SV → Prop} (R : Rel X.K ZP B g H cs σ) (r : RSs X.K g H svs vs) (st : ∀ sv ∈ svs, settled sv = true) (hl : vs.length = n) (q : C svs Q')
    (h : ∀ sv v g' H', Q' sv → Rel X.K ZP B g' H' cs σ → RS X.K g' H' sv v → Tmp H cs σ sv v → Frm (fun _ => False) g H g' H' → Q v H') (E : XK) : spD X.K ZP.zp n C vs H Q E := by
  refine ⟨hl, svs, g, r, st, ⟨R.zok, R.fzok⟩, _, q, fun sv v g' H' q' G' r' fr f' => ?_⟩
  refine h sv v g' H' q' (R.go f' G'.zok G'.fzok) r' (fun xs a e1 e2 => ⟨fun ho => ?_, fr xs a e1 e2⟩) f'
  obtain ⟨vs, ho⟩ := R.owsome ho
  rw [fr xs a e1 e2] at ho; cases ho
theorem de_call (F : FnG X.prog X.w X.K X.mg X.base CX0 k f fd ps (spD X.K ZP.zp n C)) (hgd : X.A.guards = some []) (hr : Room k X.A) (hg : Gl X x) (hm : X.mg x = some (.ref f)) (hk : PySem.W.keepIn X.K (.ref f) = true) (hb : Binds X.K fd ps [])
    (hC : ∀ svs Q, C svs Q → svs.length = n)
    (ha : DA X ZP (e :: es) t) (hdb : (x == ("__debug__" : Str)) = false := by decide) (he : starEach (e :: es) X.env = (false, eval e X.env) :: starEach es X.env := by rfl) (hpl : (backTo pos (starEach es X.env)).any (·.1) = false := by rfl) :
    DE X ZP (.Call (.Name x p) (e :: es) [] pos) (t_call C t) := by
  refine ⟨PE.imp (pe_callG1 F hgd hr hg hm hk hb pass0 ha.pa hdb he hpl) ?_⟩
  rintro σ H Q ⟨B, cs, g, R, Q', q, k⟩
  refine ⟨B, cs, g, R, _, q, fun svs cs1 vs g1 H1 q1 R1 r1 st s1 f1 => ?_⟩
  refine call_fin R1 r1 st (by rw [← hC _ _ q1]; exact (Paired.length r1).symm) q1 (fun sv v g' H' q' R' r' t' f' => ?_) _
  exact k sv cs1 v g' H' q' R' r' (t'.back f1) s1 (f1.trans (f'.mono fun _ _ _ z => z.elim))
end

/-! ### statements -/
structure DEnds where
  nx : CS → Prop
  rt : SV → Prop
  bk : CS → Prop := fun _ => False
  ct : CS → Prop := fun _ => False
abbrev TSD := DEnds → CS → Prop
/-- what is frozen stays as it is -/
structure Stay (g : GW) (H : Hp) (g' : GW) (H' : Hp) : Prop where
  fzm : ∀ a, g.fz a → g'.fz a
  keep : ∀ a o, g.fz a → H a = some o → H' a = some o
  tups : ∀ a xs, Rd H a (.tup xs) → Rd H' a (.tup xs)
theorem Stay.refl {g : GW} {H : Hp} : Stay g H g H := ⟨fun _ h => h, fun _ _ _ e => e, fun _ _ h => h⟩
theorem Stay.trans {g g1 g2 : GW} {H H1 H2 : Hp} (a : Stay g H g1 H1) (b : Stay g1 H1 g2 H2) : Stay g H g2 H2 :=
  ⟨fun c h => b.fzm c (a.fzm c h), fun c o h e => b.keep c o (a.fzm c h) (a.keep c o h e), fun c xs h => b.tups c xs (a.tups c xs h)⟩
theorem Frm.stay {w : Addr → Prop} {g g' : GW} {H H' : Hp} (f : Frm w g H g' H') (hw : ∀ a, g.fz a → g.zs a = none ∧ ¬ w a) : Stay g H g' H' :=
  ⟨f.fzm, fun a o h e => f.keep a o e (hw a h).1 (hw a h).2, f.tups⟩
theorem Stay.rp {K : PySem.W.Frag} {g g' : GW} {H H' : Hp} {d : PyData} {v : V} (f : Stay g H g' H') (r : Rp K H g.fz d v) : Rp K H' g'.fz d v := Rp.go f.fzm f.keep f.tups r
theorem Stay.rps {K : PySem.W.Frag} {g g' : GW} {H H' : Hp} {d : List PyData} {v : List V} (f : Stay g H g' H') (r : RpAll K H g.fz d v) : RpAll K H' g'.fz d v := RpAll.go f.fzm f.keep f.tups r
structure SPost (K : PySem.W.Frag) (ZP : ZT) (B : Bs) (g : GW) (H : Hp) (D' : DEnds) (D : Ends) : Prop where
  nx : ∀ cs' σ' g' H', Rel K ZP B g' H' cs' σ' → Stay g H g' H' → D'.nx cs' → D.nx σ' H'
  bk : ∀ cs' σ' g' H', Rel K ZP B g' H' cs' σ' → Stay g H g' H' → D'.bk cs' → D.bk σ' H'
  ct : ∀ cs' σ' g' H', Rel K ZP B g' H' cs' σ' → Stay g H g' H' → D'.ct cs' → D.ct σ' H'
  rt : ∀ sv v cs' σ' g' H', Rel K ZP B g' H' cs' σ' → Stay g H g' H' → RS K g' H' sv v → (∀ xs a, sv = .own xs → v = .ref a → B.1 a = none) → D'.rt sv → D.rt v H'
theorem SPost.from {K : PySem.W.Frag} {ZP : ZT} {B : Bs} {g g1 : GW} {H H1 : Hp} {D' : DEnds} {D : Ends} (p : SPost K ZP B g H D' D) (s : Stay g H g1 H1) : SPost K ZP B g1 H1 D' D :=
  ⟨fun a b c d r t => p.nx a b c d r (s.trans t), fun a b c d r t => p.bk a b c d r (s.trans t), fun a b c d r t => p.ct a b c d r (s.trans t), fun a b c d e f r t => p.rt a b c d e f r (s.trans t)⟩
def tS (K : PySem.W.Frag) (ZP : ZT) (t : TSD) : TS := fun D σ H => ∃ B cs g, Rel K ZP B g H cs σ ∧ ∃ D', t D' cs ∧ SPost K ZP B g H D' D
structure DS (X : Cx) (ZP : ZT) (st : Stmt) (t : TSD) : Prop where
  ps : PS X st (tS X.K ZP t)
structure DSs (X : Cx) (ZP : ZT) (st : List Stmt) (t : TSD) : Prop where
  pss : PSs X st (tS X.K ZP t)
section
variable {X : Cx} {ZP : ZT} {st : Stmt} {rest : List Stmt} {t u : TSD} {pos : Pos} {e : Expr}
def t_next : TSD := fun D cs => D.nx cs
def t_seq (t u : TSD) : TSD := fun D cs => t { D with nx := u D } cs
theorem dss_nil : DSs X ZP [] t_next := ⟨PSs.imp pss_nil fun D σ H ⟨B, cs, g, R, D', q, p⟩ => p.nx cs σ g H R .refl q⟩
theorem dss_one (h : DS X ZP st t) : DSs X ZP [st] t := ⟨pss_one h.ps⟩
theorem dss_cons (h : DS X ZP st t) (h2 : DSs X ZP rest u) : DSs X ZP (st :: rest) (t_seq t u) := by
  refine ⟨PSs.imp (pss_cons h.ps h2.pss) ?_⟩
  rintro D σ H ⟨B, cs, g, R, D', q, p⟩
  refine ⟨B, cs, g, R, { D' with nx := u D' }, q, ⟨fun cs1 σ1 g1 H1 R1 s1 q1 => ⟨B, cs1, g1, R1, D', q1, p.from s1⟩, p.bk, p.ct, p.rt⟩⟩
theorem ds_pass : DS X ZP (.Pass pos) t_next := ⟨PS.imp ps_pass fun D σ H ⟨B, cs, g, R, D', q, p⟩ => p.nx cs σ g H R .refl q⟩
def t_brk : TSD := fun D cs => D.bk cs
def t_cnt : TSD := fun D cs => D.ct cs
theorem ds_break : DS X ZP (.Break pos) t_brk := ⟨PS.imp ps_break fun D σ H ⟨B, cs, g, R, D', q, p⟩ => p.bk cs σ g H R .refl q⟩
theorem ds_continue : DS X ZP (.Continue pos) t_cnt := ⟨PS.imp ps_continue fun D σ H ⟨B, cs, g, R, D', q, p⟩ => p.ct cs σ g H R .refl q⟩
theorem ds_doc {x : Str} {j : Nat} {pos' : Pos} : DS X ZP (.Expr (.Constant (.str x) j pos) pos') t_next := ⟨PS.imp ps_doc fun D σ H ⟨B, cs, g, R, D', q, p⟩ => p.nx cs σ g H R .refl q⟩
def t_if (c : TTD) (t u : TSD) : TSD := fun D cs => c cs fun b cs1 => if b = true then t D cs1 else u D cs1
theorem ds_if {c : Expr} {a b : List Stmt} {tc : TTD} (hc : DT X ZP c tc) (ha : DSs X ZP a t) (hb : DSs X ZP b u) : DS X ZP (.If c a b pos) (t_if tc t u) := by
  refine ⟨PS.imp (ps_if hc.pt ha.pss hb.pss) ?_⟩
  rintro D σ H ⟨B, cs, g, R, D', q, p⟩
  refine ⟨B, cs, g, R, _, q, fun c cs1 g1 H1 q1 R1 s1 f1 => ?_⟩
  have p1 := p.from (f1.stay R.fzow)
  cases c with
  | true =>
    rw [if_pos rfl] at q1
    show tS X.K ZP t D σ H1
    exact ⟨B, cs1, g1, R1, D', q1, p1⟩
  | false =>
    rw [if_neg Bool.false_ne_true] at q1
    show tS X.K ZP u D σ H1
    exact ⟨B, cs1, g1, R1, D', q1, p1⟩
def t_ret (t : TD) : TSD := fun D cs => t cs fun sv _ => D.rt sv
theorem ds_ret {td : TD} (h : DE X ZP e td) : DS X ZP (.Return (some e) pos) (t_ret td) := by
  refine ⟨PS.imp (ps_ret h.pe) ?_⟩
  rintro D σ H ⟨B, cs, g, R, D', q, p⟩
  refine ⟨B, cs, g, R, _, q, fun sv cs1 v g1 H1 q1 R1 r1 t1 s1 f1 => ?_⟩
  exact p.rt sv v cs1 σ g1 H1 R1 (f1.stay R.fzow) r1 (fun xs a e1 e2 => R.bnone (t1 xs a e1 e2).2) q1
/-- return x: the frame's own list is handed on -/
def t_retn (i : Nat) : TSD := fun D cs => match cs[i]? with
  | some (some sv) => D.rt sv
  | _ => False
theorem ds_retn {i : Nat} {x : Str} {p2 : Pos} (hN : X.N[i]? = some x) (hv : Vis X.env.scope x) (hd : (x == ("__debug__" : Str)) = false := by decide) (hcd : (x == ("__classdict__" : Str)) = false := by decide) : DS X ZP (.Return (some (.Name x p2)) pos) (t_retn i) := by
  refine ⟨PS.imp (ps_ret (pe_var hN hv hd hcd)) ?_⟩
  rintro D σ H ⟨B, cs, g, R, D', q, p⟩
  unfold t_retn at q
  cases e1 : cs[i]? with
  | none => rw [e1] at q; exact q.elim
  | some osv =>
    cases osv with
    | none => rw [e1] at q; exact q.elim
    | some sv =>
      rw [e1] at q
      obtain ⟨v, e2, r⟩ := R.slot i sv e1
      exact ⟨v, e2, p.rt sv v cs σ g H R .refl r (fun xs a e3 e4 => R.fresh a ⟨i, xs, by rw [e1, e3], by rw [e2, e4]⟩) q⟩
theorem ds_retN : DS X ZP (.Return none pos) (fun D _ => D.rt (.dat .none)) := ⟨PS.imp ps_retN fun D σ H ⟨B, cs, g, R, D', q, p⟩ => p.rt (.dat .none) .non cs σ g H R .refl .non (fun _ _ e => by cases e) q⟩
def t_drop (t : TD) : TSD := fun D cs => t cs fun _ cs1 => D.nx cs1
theorem ds_expr {td : TD} (h : DE X ZP e td) (hs : swapsWith e none pos.line X.env = pure false := by rfl) : DS X ZP (.Expr e pos) (t_drop td) := by
  refine ⟨PS.imp (ps_expr h.pe hs) ?_⟩
  rintro D σ H ⟨B, cs, g, R, D', q, p⟩
  refine ⟨B, cs, g, R, _, q, fun sv cs1 v g1 H1 q1 R1 r1 t1 s1 f1 => ?_⟩
  exact p.nx cs1 σ g1 H1 R1 (f1.stay R.fzow) q1
end

/-! ### a slot is stored -/
section
variable {K : PySem.W.Frag} {ZP : ZT} {B : Bs} {g : GW} {H : Hp} {cs : CS} {σ : L2.St}
theorem Rel.store {i : Nat} {sv : SV} {v : V} (R : Rel K ZP B g H cs σ) (hi : i < cs.length) (r : RS K g H sv v) (n : ∀ xs a, sv = .own xs → v = .ref a → ¬ ow cs σ a ∧ B.1 a = none) : Rel K ZP B g H (cs.set i (some sv)) (σ.set i (some v)) := by
  have hi2 : i < σ.length := by rw [← R.len]; exact hi
  have c1 : ∀ (j : Nat) (s : SV), (cs.set i (some sv))[j]? = some (some s) → (j = i ∧ s = sv) ∨ (j ≠ i ∧ cs[j]? = some (some s)) := fun j s e => by
    by_cases hj : j = i
    · subst hj
      rw [List.getElem?_set_self hi] at e
      cases e; exact .inl ⟨rfl, rfl⟩
    · rw [List.getElem?_set_ne (Ne.symm hj)] at e
      exact .inr ⟨hj, e⟩
  have c2 : ∀ (j : Nat) (s : V), (σ.set i (some v))[j]? = some (some s) → (j = i ∧ s = v) ∨ (j ≠ i ∧ σ[j]? = some (some s)) := fun j s e => by
    by_cases hj : j = i
    · subst hj
      rw [List.getElem?_set_self hi2] at e
      cases e; exact .inl ⟨rfl, rfl⟩
    · rw [List.getElem?_set_ne (Ne.symm hj)] at e
      exact .inr ⟨hj, e⟩
  have sub : ∀ a, ow (cs.set i (some sv)) (σ.set i (some v)) a → ow cs σ a ∨ (∃ xs, sv = .own xs ∧ v = .ref a) := fun a ⟨j, xs, e1, e2⟩ => by
    rcases c1 j _ e1 with ⟨h1, h2⟩ | ⟨h1, h2⟩
    · rcases c2 j _ e2 with ⟨_, h3⟩ | ⟨h3, _⟩
      · exact .inr ⟨xs, h2.symm, h3.symm⟩
      · exact absurd h1 h3
    · rcases c2 j _ e2 with ⟨h3, _⟩ | ⟨_, h3⟩
      · exact absurd h3 h1
      · exact .inl ⟨j, xs, h2, h3⟩
  refine ⟨by rw [List.length_set, List.length_set]; exact R.len, fun j s e => ?_, fun j k xs ys a e1 e2 e3 e4 => ?_, R.zok, R.fzok, R.base, fun a h => ?_, R.bs⟩
  · rcases c1 j s e with ⟨rfl, rfl⟩ | ⟨hj, e⟩
    · exact ⟨v, List.getElem?_set_self hi2, r⟩
    · obtain ⟨w, e1, r1⟩ := R.slot j s e
      exact ⟨w, by rw [List.getElem?_set_ne (Ne.symm hj)]; exact e1, r1⟩
  · rcases c1 j _ e1 with ⟨h1, h2⟩ | ⟨h1, h2⟩
    · rcases c1 k _ e2 with ⟨h3, h4⟩ | ⟨h3, h4⟩
      · rw [h1, h3]
      · exfalso
        rcases c2 j _ e3 with ⟨_, z⟩ | ⟨z, _⟩
        · rcases c2 k _ e4 with ⟨y, _⟩ | ⟨_, y⟩
          · exact h3 y
          · exact (n xs a h2.symm z.symm).1 ⟨k, ys, h4, y⟩
        · exact z h1
    · rcases c1 k _ e2 with ⟨h3, h4⟩ | ⟨h3, h4⟩
      · exfalso
        rcases c2 k _ e4 with ⟨_, z⟩ | ⟨z, _⟩
        · rcases c2 j _ e3 with ⟨y, _⟩ | ⟨_, y⟩
          · exact h1 y
          · exact (n ys a h4.symm z.symm).1 ⟨j, xs, h2, y⟩
        · exact z h3
      · rcases c2 j _ e3 with ⟨z, _⟩ | ⟨_, z⟩
        · exact absurd z h1
        · rcases c2 k _ e4 with ⟨y, _⟩ | ⟨_, y⟩
          · exact absurd y h3
          · exact R.sep j k xs ys a h2 h4 z y
  · rcases sub a h with h | ⟨xs, h1, h2⟩
    · exact R.fresh a h
    · exact (n xs a h1 h2).2
/-- a slot is forgotten -/
theorem Rel.drop {i : Nat} (R : Rel K ZP B g H cs σ) : Rel K ZP B g H (cs.set i none) σ := by
  have c1 : ∀ (j : Nat) (s : SV), (cs.set i none)[j]? = some (some s) → cs[j]? = some (some s) := fun j s e => by
    by_cases hj : j = i
    · subst hj
      by_cases hi : j < cs.length
      · rw [List.getElem?_set_self hi] at e; cases e
      · rw [List.getElem?_eq_none (by rw [List.length_set]; omega)] at e; cases e
    · rw [List.getElem?_set_ne (Ne.symm hj)] at e
      exact e
  refine ⟨by rw [List.length_set]; exact R.len, fun j s e => R.slot j s (c1 j s e), fun j k xs ys a e1 e2 e3 e4 => R.sep j k xs ys a (c1 _ _ e1) (c1 _ _ e2) e3 e4, R.zok, R.fzok, R.base, fun a ⟨j, xs, e1, e2⟩ => R.fresh a ⟨j, xs, c1 _ _ e1, e2⟩, R.bs⟩
end

/-! ### targets -/
abbrev TGD := SV → CS → (CS → Prop) → Prop
def tG (K : PySem.W.Frag) (ZP : ZT) (t : TGD) : TG := fun v σ H Q => ∃ B cs g sv, Rel K ZP B g H cs σ ∧ RS K g H sv v ∧ (∀ xs a, sv = .own xs → v = .ref a → ¬ ow cs σ a ∧ B.1 a = none) ∧ ∃ Q', t sv cs Q' ∧
  ∀ cs' σ' g' H', Q' cs' → Rel K ZP B g' H' cs' σ' → Stay g H g' H' → Q σ' H'
structure DG (X : Cx) (ZP : ZT) (tg : Expr) (t : TGD) : Prop where
  pg : PG X tg (tG X.K ZP t)
section
variable {X : Cx} {ZP : ZT} {pos : Pos}
theorem PG.imp {tg : Expr} {t t' : TG} (h : PG X tg t) (m : ∀ v σ H Q, t' v σ H Q → t v σ H Q) : PG X tg t' := ⟨fun pins s σ H v u Q I r q => h.run pins s σ H v u Q I r (m _ _ _ _ q)⟩
def g_name (i : Nat) : TGD := fun sv cs Q => i < cs.length ∧ Q (cs.set i (some sv))
theorem dg_name {i : Nat} {x : Str} (hN : X.N.Nodup) (hi : X.N[i]? = some x) (hx : Loc X.env.scope x) (hf : X.fn x = true ∨ X.env.scope.names.lookup x = some .local := by first | exact .inl rfl | exact .inr rfl | assumption) : DG X ZP (.Name x pos) (g_name i) := by
  refine ⟨PG.imp (pg_name hN hi hx hf) ?_⟩
  rintro v σ H Q ⟨B, cs, g, sv, R, r, n, Q', ⟨hl, q⟩, k⟩
  exact k _ _ g H q (R.store hl r n) .refl
/-- a tuple of names -/
structure DGs (X : Cx) (ZP : ZT) (ts : List Expr) (t : List PyData → CS → (CS → Prop) → Prop) : Prop where
  pgs : PGs X ts fun vs σ H Q => ∃ B cs g ds, Rel X.K ZP B g H cs σ ∧ RpAll X.K H g.fz ds vs ∧ ∃ Q', t ds cs Q' ∧ ∀ cs' σ' g' H', Q' cs' → Rel X.K ZP B g' H' cs' σ' → Stay g H g' H' → Q σ' H'
def g_nil : List PyData → CS → (CS → Prop) → Prop := fun ds cs Q => ds = [] ∧ Q cs
def g_cons (t : TGD) (u : List PyData → CS → (CS → Prop) → Prop) : List PyData → CS → (CS → Prop) → Prop := fun ds cs Q => match ds with
  | d :: r => t (.dat d) cs fun cs1 => u r cs1 Q
  | [] => False
theorem PGs.imp {ts : List Expr} {t t' : TGs} (h : PGs X ts t) (m : ∀ v σ H Q, t' v σ H Q → t v σ H Q) : PGs X ts t' := ⟨fun pins s σ H v u Q I r q => h.run pins s σ H v u Q I r (m _ _ _ _ q)⟩
theorem dgs_nil : DGs X ZP [] g_nil := by
  refine ⟨PGs.imp pgs_nil ?_⟩
  rintro vs σ H Q ⟨B, cs, g, ds, R, r, Q', ⟨rfl, q⟩, k⟩
  cases r
  exact ⟨rfl, k _ _ g H q R .refl⟩
theorem dgs_cons {e : Expr} {es : List Expr} {t : TGD} {u : List PyData → CS → (CS → Prop) → Prop} (h : DG X ZP e t) (h2 : DGs X ZP es u)
    (hs : (assignEach (e :: es) X.env).map (·.2) = assign e X.env :: (assignEach es X.env).map (·.2) := by rfl) : DGs X ZP (e :: es) (g_cons t u) := by
  refine ⟨PGs.imp (pgs_cons h.pg h2.pgs hs) ?_⟩
  rintro vs σ H Q ⟨B, cs, g, ds, R, r, Q', q, k⟩
  cases r with
  | nil => exact q.elim
  | @cons v vs d ds r1 r2 =>
    refine ⟨v, vs, rfl, B, cs, g, .dat d, R, r1, (fun _ _ e => by cases e), _, q, fun cs1 σ1 g1 H1 q1 R1 s1 => ?_⟩
    exact ⟨B, cs1, g1, ds, R1, s1.rps r2, Q', q1, fun cs' σ' g' H' q' R' s' => k cs' σ' g' H' q' R' (s1.trans s')⟩
def g_tup (n : Nat) (t : List PyData → CS → (CS → Prop) → Prop) : TGD := fun sv cs Q => match sv with
  | .dat (.tuple ds) => ds.length = n ∧ t ds cs Q
  | .own ds => ds.length = n ∧ t ds cs Q
  | _ => False
theorem PG.or {tg : Expr} {t t' : TG} (h : PG X tg t) (h' : PG X tg t') : PG X tg (fun v σ H Q => t v σ H Q ∨ t' v σ H Q) :=
  ⟨fun pins s σ H v u Q I r q => q.elim (h.run pins s σ H v u Q I r) (h'.run pins s σ H v u Q I r)⟩
theorem dg_tup {es : List Expr} {k : Nat} {t : List PyData → CS → (CS → Prop) → Prop} {n : Nat} (hc : X.calm = true) (h : DGs X ZP es t)
    (hn : (assignEach es X.env).length = n := by rfl) (hst : (assignEach es X.env).findIdx? (·.1) = none := by rfl) : DG X ZP (.Tuple es k pos) (g_tup n t) := by
  refine ⟨PG.imp (PG.or (pg_tup hc h.pgs hn hst) (pg_unl hc h.pgs hn hst)) ?_⟩
  rintro v σ H Q ⟨B, cs, g, sv, R, r, n, Q', q, k⟩
  cases sv with
  | dat d =>
    cases d with
    | tuple ds =>
      obtain ⟨a, xs, rfl, hq, ra⟩ := (Rp.rb r).tup
      refine .inl ⟨a, xs, rfl, hq, by rw [← ra.length]; exact q.1, B, cs, g, ds, R, ra, Q', q.2, k⟩
    | _ => exact q.elim
  | own ds =>
    obtain ⟨a, vs, rfl, h, _, _, ra⟩ := r
    exact .inr ⟨a, vs, rfl, .inl (.inl h), by rw [← ra.length]; exact q.1, B, cs, g, ds, R, ra, Q', q.2, k⟩
  | _ => exact q.elim
/-- target = value -/
def t_asg (t : TD) (g : TGD) : TSD := fun D cs => t cs fun sv cs1 => g sv cs1 D.nx
theorem ds_asg {tg e : Expr} {td : TD} {tg' : TGD} (he : DE X ZP e td) (hg : DG X ZP tg tg') (hs : swapsWithSole [tg] e pos.line X.env = pure false := by rfl) (hw : swappedStores [tg] e X.env = pure none := by rfl)
    (h1 : (assignEach [tg] X.env).map (·.2) = [assign tg X.env] := by rfl) : DS X ZP (.Assign [tg] e pos) (t_asg td tg') := by
  refine ⟨PS.imp (ps_asg he.pe hg.pg hs hw h1) ?_⟩
  rintro D σ H ⟨B, cs, g, R, D', q, p⟩
  refine ⟨B, cs, g, R, _, q, fun sv cs1 v g1 H1 q1 R1 r1 t1 s1 f1 => ?_⟩
  have st := f1.stay R.fzow
  exact ⟨B, cs1, g1, sv, R1, r1, fun xs a e1 e2 => ⟨(t1 xs a e1 e2).1, R.bnone (t1 xs a e1 e2).2⟩, _, q1, fun cs' σ' g' H' q' R' s' => p.nx cs' σ' g' H' R' (st.trans s') q'⟩
end
end Cl

namespace Cl
open PySem PySem.Spec PyProof.Rows L2

/-! ### enumerate of anything that begins -/
set_option maxHeartbeats 1000000 in
theorem meets_enum1 {v : Value} {o : Obj} {G : Heap → Prop} (B : Begins v o G) :
    Meets (Builtin.«enumerate.__new__» ⟨[.type "enumerate", v], []⟩) (fun _ R s => G s.heap ∧
      R (.ok (.ret (.ref (s.heap.push o).objs.size))) { s with heap := (s.heap.push o).push { cls := .type "enumerate", data := .fields #[.none, .bool false, .ref s.heap.objs.size, rawInt 0, .none, .none] } }) := by
  refine .of_wp ?_
  intro prog w A R s h
  obtain ⟨hp, g, d, tk, os⟩ := s
  obtain ⟨h1, h⟩ := h
  have hsub := sub_enumerate
  have qi : ∀ {A' : Around} {E : Value → Shared → Prop} {Q : Value → Shared → Prop}, Q (.ref hp.objs.size) ⟨hp.push o, g, d, tk, os⟩ → wpAny (model prog w) A' (pyIter v) Q E ⟨hp, g, d, tk, os⟩ := by
    intro A' E Q q
    exact B.iter prog w _ _ ⟨hp, g, d, tk, os⟩ _ h1 q
  wp_walk using qi
  refine wpAny_stack_any fun st => ?_
  refine wpAny_pure ?_
  split
  · rename_i c _ _ _ _ _
    cases (c == Value.type "enumerate") <;> (wp_walk using qi; exact ⟨_, rfl, h⟩)
  · wp_walk using qi
    exact ⟨_, rfl, h⟩
theorem enum1_begins {prog : Program} {w : World} {A : Around} {E : Value → Shared → Prop} {s : Shared} {v : Value} {o : Obj} {G : Heap → Prop} {Q : Value → Shared → Prop} (B : Begins v o G) (h1 : G s.heap)
    (h : ∀ h', IsEnum h' (s.heap.objs.size + 1) s.heap.objs.size 0 .none → h'.get? s.heap.objs.size = some o → h'.objs.size = s.heap.objs.size + 2 →
      (∀ b ob, s.heap.get? b = some ob → h'.get? b = some ob) → Q (.ref (s.heap.objs.size + 1)) { s with heap := h' }) :
    wpAny (model prog w) A (call (.type "enumerate") [v]) Q E s := by
  refine callType_new F.called_enumerate (by decide) (F.typeCall_enumerate_1 _) (F.newCall_enumerate_1 _) (fun obj => F.args_object_init_2 obj _) F.entry_enumerate_new (meets_enum1 B) ⟨h1, ?_⟩
  have sz : (s.heap.push o).objs.size = s.heap.objs.size + 1 := by rw [Heap.size_push]
  show _ ∧ _
  rw [sz]
  have new := Heap.get?_push_size (s.heap.push o) (o := { cls := .type "enumerate", data := .fields #[.none, .bool false, .ref s.heap.objs.size, rawInt 0, .none, .none] }) rfl
  rw [sz] at new
  refine ⟨⟨_, new, rfl⟩, h _ new (Heap.get?_push_of_some _ (Heap.get?_push_size _ B.free)) ?_ fun b ob x => Heap.get?_push_of_some _ (Heap.get?_push_of_some _ x)⟩
  rw [Heap.size_push, sz]

/-! ### iterators that hand out new tuples -/
/-- S: the sources stand; rows: what is handed out -/
def ItP (S : Hp → Prop) (rows : List (List V)) : It :=
  ⟨fun i H => S H ∧ i < rows.length, fun i H x H' => ∃ T vs, rows[i]? = some vs ∧ x = .ref T ∧ H T = none ∧ H' = upd H T (.tup vs), fun i H => S H ∧ i = rows.length⟩
def YP (rows : List (List V)) : Nat → Heap → Value → Heap → Prop := fun i h0 v h => ∃ T us vs, v = .ref T ∧ h0.objs.size ≤ T ∧ rows[i]? = some vs ∧ Vals vs us ∧ h.IsTuple T us.toArray
theorem turn_pairs {P : Program} {w : World} {K : PySem.W.Frag} {tg : Expr} {S : Hp → Prop} {rows : List (List V)} {it : Addr} {fp wr : List Addr} {tn : Nat → Heap → Prop}
    (hm : it ∈ fp) (hwr : ∀ b ∈ wr, b ∈ fp) (hsz : ∀ r ∈ rows, r.length ≤ sizeLine)
    (hob : ∀ i h, tn i h → ∀ b ∈ fp, ∃ o, h.get? b = some o ∧ ∀ v, o.data ≠ .cell v)
    (hkeep : ∀ i h h', tn i h → (∀ b ∈ fp, ∀ o, h.get? b = some o → h'.get? b = some o) → tn i h')
    (hG : ∀ (X : Cx), X.prog = P → X.w = w → X.K = K → X.calm = true → ∀ (pins : List (Addr × Obj)) (s : Shared) (σ : L2.St) (H : Hp) (i : Nat), Inv X pins σ H s → (∀ b ∈ fp, FpOk X pins H b) → S H → tn i s.heap →
      ∃ fp0 St, GoesN P w X.A tg it fp0 wr rows.length (YP rows) St ∧ St i s.heap ∧ ∀ j h, St j h → tn j h)
    (hself : ∀ (A : Around) (i : Nat) (s : Shared) (Q : Value → Shared → Prop) (E : Value → Shared → Prop), tn i s.heap → Q (.ref it) s → wpAny (model P w) A (pyIter (.ref it)) Q E s) :
    Turn P w K tg (ItP S rows) fp it tn where
  mem := hm
  obj := hob
  keep := hkeep
  item := by
    intro X hP hw hK hc i pins s σ H E I hf st hg
    obtain ⟨hS, hi⟩ := hg
    obtain ⟨fp0, St, G, st0, hSt⟩ := hG X hP hw hK hc pins s σ H i I hf hS st
    refine G.goes i s _ E hi st0 fun v h' tk Y st' hk _ => ?_
    obtain ⟨T, us, vs, rfl, hT, hr, rv, ht⟩ := Y
    have hl : vs.length ≤ sizeLine := hsz vs (List.mem_of_getElem? hr)
    have I1 := I.turnedNew (t' := tk) (ch := wr) (T := T) (ob := .tup vs) (fun b o hb e => hk b o hb e) (fun b hb => hf b (hwr b hb)) hT ⟨hl, us, rv, ht⟩
    refine ⟨.ref T, _, I1, rfl, ⟨T, vs, hr, rfl, I.hok.fresh hT, rfl⟩, hSt _ _ st', fun b hb => ?_⟩
    obtain ⟨o, e, _⟩ := hob _ _ st b hb
    rw [upd_ne (Nat.ne_of_lt (Nat.lt_of_lt_of_le (Heap.lt_size e) hT))]
    exact (hf b hb).1
  done := by
    intro X hP hw hK hc i pins s σ H E I hf st hg
    obtain ⟨hS, hi⟩ := hg
    subst hi
    obtain ⟨fp0, St, G, st0, hSt⟩ := hG X hP hw hK hc pins s σ H _ I hf hS st
    refine G.stops s (fun s1 => Inv X pins σ H s1) E st0 fun h' tk hk _ => ?_
    refine I.step (h' := h') (t' := tk) (g' := s.gens) (d' := s.drawn) (ch := wr) (fun b hb => ?_) (fun b o _ _ hb e _ => hk b o hb e) (fun b o _ _ hb e _ => ⟨o.slots, hk b o hb e⟩) (fun _ _ _ _ n => n)
      (fun b o hb e => ⟨o, hk b o hb e⟩) (fun _ _ e => e) (fun _ _ _ e => e) (fun b ps e => ⟨#[], by rw [e]; simp⟩) (fun m hm => ?_) (fun b u e => ?_) I.bare
    · obtain ⟨f0, f1, f2, f3, f4, f5⟩ := hf b (hwr b hb)
      exact ⟨f3, f1, f4, f5⟩
    · obtain ⟨o, es, ep, ho, r⟩ := hm
      exact ⟨o, es, ep, hk _ o (fun z => (hf _ (hwr _ z)).2.1 rfl) ho, r⟩
    · have nit : ∀ c y, H c = some y → c ∉ wr := fun c y q z => by
        have := (hf c (hwr c z)).1
        rw [q] at this; cases this
      refine (I.hok b u e).stay (fun c v hcc q => hk c v ?_ q) (fun _ q => q) fun _ _ q => q
      rcases hcc with z | z
      · rw [z]; exact nit b u e
      · exact nit c _ z
  self := hself

/-! ### the sources: a list, a tuple -/
inductive SrcK where
  | lst | tup
def SrcS (K : PySem.W.Frag) (k : SrcK) (a : Addr) (xs : List V) (H : Hp) : Prop := match k with
  | .lst => H a = some (.lst xs)
  | .tup => SqT K H a xs
def srcI (k : SrcK) (a it : Addr) (i : Nat) (h : Heap) : Prop := match k with
  | .lst => h.IsListIter it a i
  | .tup => h.IsTupleIter it a i
def srcO (k : SrcK) (a : Addr) : Obj := match k with
  | .lst => { cls := .type "list_iterator", data := .fields #[.ref a, .int 0 0] }
  | .tup => { cls := .type "tuple_iterator", data := .fields #[.ref a, .int 0 0] }
def srcG (k : SrcK) (a : Addr) (its : Array Value) (h : Heap) : Prop := match k with
  | .lst => h.IsList a its
  | .tup => h.IsTuple a its
section
variable {X : Cx} {pins : List (Addr × Obj)} {σ : L2.St} {H : Hp} {s : Shared} {k : SrcK} {a it : Addr} {xs : List V}
theorem src_its (I : Inv X pins σ H s) (h : SrcS X.K k a xs H) : ∃ its : List Value, Vals xs its ∧ srcG k a its.toArray s.heap ∧ xs.length ≤ sizeLine := by
  cases k with
  | lst =>
    obtain ⟨its, rv, p, z⟩ := I.list (SqL.of h)
    exact ⟨its, rv, p.isList, z⟩
  | tup =>
    obtain ⟨its, rv, p, z⟩ := I.tuple h
    exact ⟨its, rv, p, z⟩
theorem src_begins (k : SrcK) (a : Addr) (its : Array Value) : Begins (.ref a) (srcO k a) (srcG k a its) := by
  cases k with
  | lst => exact begins_list a its
  | tup => exact begins_tuple a its
theorem src_start {h : Heap} (e : h.get? it = some (srcO k a)) : srcI k a it 0 h := by
  cases k with
  | lst => exact ⟨_, e, rfl, rfl⟩
  | tup => exact ⟨_, e, rfl, rfl⟩
theorem src_obj {h : Heap} {i : Nat} (e : srcI k a it i h) : ∃ o, h.get? it = some o ∧ ∀ v, o.data ≠ .cell v := by
  cases k with
  | lst => obtain ⟨o, e, _, d⟩ := e; exact ⟨o, e, fun v z => by rw [d] at z; cases z⟩
  | tup => obtain ⟨o, e, _, d⟩ := e; exact ⟨o, e, fun v z => by rw [d] at z; cases z⟩
theorem src_keep {h h' : Heap} {i : Nat} (e : srcI k a it i h) (hk : ∀ o, h.get? it = some o → h'.get? it = some o) : srcI k a it i h' := by
  cases k with
  | lst => exact e.at hk
  | tup => exact e.at hk
theorem src_ne (I : Inv X pins σ H s) (f : FpOk X pins H it) (h : SrcS X.K k a xs H) : a ≠ it := by
  have tr : ∀ u, H a = some u → a ≠ it := fun u e z => by
    subst z; rw [f.1] at e; cases e
  cases k with
  | lst => exact tr _ h
  | tup =>
    rcases h with (h | ⟨o, h⟩) | ⟨o, its, n, hk, _⟩
    · exact tr _ h
    · exact tr _ h
    · intro z
      subst z
      have e := I.ok.mod.kin a o hk
      rcases f.2.2.2.1 with q | q
      · exact I.ok.noex a o e q
      · have l := Nat.lt_of_lt_of_le (Heap.lt_size e) I.ok.bsz
        exact absurd (Nat.lt_of_lt_of_le l q) (Nat.lt_irrefl _)
theorem src_draws {P : Program} {w : World} {A : Around} (hh : A.handled = none) (hne : a ≠ it) (its : Array Value) : Draws P w A it [it, a] its.size (fun i v => its[i]? = some v) (fun i h => srcI k a it i h ∧ srcG k a its h) := by
  cases k with
  | lst => exact .list hh it a hne its
  | tup => exact .tuple hh it a hne its
theorem srcG_lt {h : Heap} {its : Array Value} (g : srcG k a its h) : a < h.objs.size := by
  cases k with
  | lst => obtain ⟨o, e, _⟩ := g; exact Heap.lt_size e
  | tup => obtain ⟨o, e, _⟩ := g; exact Heap.lt_size e
end

/-! ### enumerate -/
def enumR : Nat → List V → List (List V)
  | _, [] => []
  | k, x :: xs => [.int (k : Nat), x] :: enumR (k + 1) xs
theorem enumR_len : ∀ (k : Nat) (xs : List V), (enumR k xs).length = xs.length
  | _, [] => rfl
  | k, x :: xs => by simp [enumR, enumR_len (k + 1) xs]
theorem enumR_get : ∀ (xs : List V) (k i : Nat), (enumR k xs)[i]? = (xs[i]?).map fun x => [V.int ((k + i : Nat) : Int), x]
  | [], _, _ => by simp [enumR]
  | x :: xs, k, 0 => by simp [enumR]
  | x :: xs, k, i + 1 => by
    simp only [enumR, List.getElem?_cons_succ]
    rw [enumR_get xs (k + 1) i, show k + 1 + i = k + (i + 1) by omega]
theorem enumR_sz (k : Nat) (xs : List V) : ∀ r ∈ enumR k xs, r.length ≤ sizeLine := by
  induction xs generalizing k with
  | nil => intro r h; cases h
  | cons x xs ih =>
    intro r h
    rcases List.mem_cons.mp h with rfl | h
    · show 2 ≤ sizeLine; decide
    · exact ih _ r h
def iEnumS (K : PySem.W.Frag) (ta : TA) : TI := fun σ H R => ta σ H fun vs H1 => ∃ k a xs, vs = [.ref a] ∧ SrcS K k a xs H1 ∧ R (ItP (SrcS K k a xs) (enumR 0 xs)) H1
theorem turn_enumS {P : Program} {w : World} {K : PySem.W.Frag} {elts : List Expr} {kk : Nat} {tpos : Pos} (k : SrcK) (a e it : Addr) (xs : List V) (hne : e ≠ it) :
    Turn P w K (.Tuple elts kk tpos) (ItP (SrcS K k a xs) (enumR 0 xs)) [e, it] e (fun i h => (∃ old, IsEnum h e it ((i : Nat) : Int) old) ∧ srcI k a it i h) := by
  refine turn_pairs (wr := [e, it]) (by simp) (fun b h => h) (enumR_sz 0 xs) ?_ ?_ ?_ ?_
  · rintro i h ⟨⟨old, he⟩, hi⟩ b hb
    have hb : b = e ∨ b = it := by simpa using hb
    rcases hb with rfl | rfl
    · exact ⟨_, he, fun v z => nomatch z⟩
    · exact src_obj hi
  · rintro i h h' ⟨⟨old, he⟩, hi⟩ hk
    exact ⟨⟨old, hk e (by simp) _ he⟩, src_keep hi fun o q => hk it (by simp) o q⟩
  · rintro X rfl rfl rfl hc pins s σ H i I hf hS ⟨⟨old, he⟩, hi⟩
    obtain ⟨its, rv, g, hz⟩ := src_its I hS
    have f := hf it (by simp)
    have fe := hf e (by simp)
    have n1 := src_ne I f hS
    have n2 := src_ne I fe hS
    have D := src_draws (P := X.prog) (w := X.w) (A := X.A.in1) (k := k) (I.ok.hd hc) n1 its.toArray
    have G := GoesN.enumFrom (elts := elts) (x1 := kk) (pos := tpos) 0 D e hne (by simp [hne, n2.symm]) (by simp)
    rw [show its.toArray.size = (enumR 0 xs).length by rw [enumR_len, List.size_toArray, rv.length]] at G
    refine ⟨_, _, G.mono ?_, ⟨⟨old, by rw [Int.zero_add]; exact he⟩, hi, g⟩, ?_⟩
    · rintro j h0 v h hj ⟨T, t, x, rfl, hT, hx, ht⟩
      have hx : its[j]? = some x := by simpa using hx
      have hj2 : j < xs.length := by rw [enumR_len] at hj; exact hj
      obtain ⟨u, hu, ru⟩ := rv.get (List.getElem?_eq_getElem hj2)
      rw [hx] at hu; cases hu
      refine ⟨T, [.int ((j : Nat) : Int) t, x], [.int ((j : Nat) : Int), xs[j]], rfl, hT, ?_, .cons ⟨t, rfl⟩ (.cons ru .nil), ?_⟩
      · rw [enumR_get, List.getElem?_eq_getElem hj2]; simp
      · rw [Int.zero_add] at ht; exact ht
    · rintro j h ⟨⟨old, he⟩, hi, _⟩
      exact ⟨⟨old, by rw [Int.zero_add] at he; exact he⟩, hi⟩
  · rintro A i s Q E ⟨⟨old, he⟩, hi⟩ q
    exact wpAny_pyIter_enum he q
theorem pi_enumS {X : Cx} {e : Expr} {ta : TA} {p pos tpos : Pos} {elts : List Expr} {kk : Nat} (hg : Gl X "enumerate") (hm : X.mg "enumerate" = none) (ha : PA X [e] ta) (hs : starEach [e] X.env = [(false, eval e X.env)] := by rfl) :
    PI X (.Tuple elts kk tpos) (.Call (.Name "enumerate" p) [e] [] pos) (iEnumS X.K ta) := by
  constructor
  intro pins s σ H R I h
  refine Call_ (ld_blt I hg hm boot_enumerate (PyProof.Rows.callWith_type1 (thn (ha.run pos pins s σ H _ I h) ?_) hs rfl))
  rintro us s1 ⟨vs, H1, I1, r1, k, a, xs, rfl, hS, q⟩
  rw [Vals.ref1 r1]
  obtain ⟨its, rv, g, hz⟩ := src_its I1 hS
  refine enum1_begins (src_begins k a its.toArray) g fun h' he hit hsz hk => wpAny_pyIter_enum he ?_
  have I2 : Inv X pins σ H1 { s1 with heap := h' } := I1.kept (t' := s1.toks) hk
  refine ⟨s1.heap.objs.size + 1, [s1.heap.objs.size + 1, s1.heap.objs.size], _, _, H1, rfl, I2, turn_enumS k a (s1.heap.objs.size + 1) s1.heap.objs.size xs (Nat.succ_ne_self _), ⟨⟨.none, he⟩, src_start hit⟩, fun b hb => ?_, q⟩
  have hle : s1.heap.objs.size ≤ b := by
    have hb : b = s1.heap.objs.size + 1 ∨ b = s1.heap.objs.size := by simpa using hb
    rcases hb with rfl | rfl
    · exact Nat.le_add_right _ _
    · exact Nat.le_refl _
  exact I1.fpOk hle (I1.hok.fresh hle)

/-! ### zip of two -/
def zipR : List V → List V → List (List V)
  | x :: xs, y :: ys => [x, y] :: zipR xs ys
  | _, _ => []
theorem zipR_len : ∀ (xs ys : List V), (zipR xs ys).length = min xs.length ys.length
  | [], _ => by simp [zipR]
  | _ :: _, [] => by simp [zipR]
  | x :: xs, y :: ys => by simp [zipR, zipR_len xs ys]
theorem zipR_get : ∀ (xs ys : List V) (i : Nat) (x y : V), xs[i]? = some x → ys[i]? = some y → (zipR xs ys)[i]? = some [x, y]
  | [], _, _, _, _, h, _ => by simp at h
  | _ :: _, [], _, _, _, _, h => by simp at h
  | a :: xs, b :: ys, 0, x, y, h1, h2 => by simp at h1 h2; subst h1 h2; rfl
  | a :: xs, b :: ys, i + 1, x, y, h1, h2 => by
    simp only [zipR, List.getElem?_cons_succ]
    exact zipR_get xs ys i x y (by simpa using h1) (by simpa using h2)
theorem zipR_sz : ∀ (xs ys : List V), ∀ r ∈ zipR xs ys, r.length ≤ sizeLine
  | [], _ => by simp [zipR]
  | _ :: _, [] => by simp [zipR]
  | x :: xs, y :: ys => by
    intro r h
    rcases List.mem_cons.mp h with rfl | h
    · show 2 ≤ sizeLine; decide
    · exact zipR_sz xs ys r h
def ZipA (z TI TO i1 i2 : Addr) : Prop := TI ≠ z ∧ TO ≠ z ∧ TI ≠ TO ∧ TI ≠ i1 ∧ TI ≠ i2 ∧ z ≠ i1 ∧ z ≠ i2 ∧ TO ≠ i1 ∧ TO ≠ i2 ∧ i1 ≠ i2
theorem turn_zipS {P : Program} {w : World} {K : PySem.W.Frag} {elts : List Expr} {kk : Nat} {tpos : Pos} (k1 k2 : SrcK) (a b z TI TO i1 i2 : Addr) (xs ys : List V) (D : ZipA z TI TO i1 i2) :
    Turn P w K (.Tuple elts kk tpos) (ItP (fun H => SrcS K k1 a xs H ∧ SrcS K k2 b ys H) (zipR xs ys)) [z, TI, TO, i1, i2] z
      (fun i h => IsZip h z TI TO .none ∧ IsTupOf2 h TI (.ref i1) (.ref i2) ∧ (∃ x y, IsTupOf2 h TO x y) ∧ srcI k1 a i1 i h ∧ srcI k2 b i2 i h) := by
  obtain ⟨d1, d2, d3, d4, d5, d6, d7, d8, d9, d10⟩ := D
  refine turn_pairs (wr := [z, TO, i1, i2]) (by simp) (fun b h => ?_) (zipR_sz xs ys) ?_ ?_ ?_ ?_
  · have h : b = z ∨ b = TO ∨ b = i1 ∨ b = i2 := by simpa using h
    rcases h with rfl | rfl | rfl | rfl <;> simp
  · rintro i h ⟨hz, hT, ⟨x, y, hO⟩, h1, h2⟩ c hc
    have hc : c = z ∨ c = TI ∨ c = TO ∨ c = i1 ∨ c = i2 := by simpa using hc
    rcases hc with rfl | rfl | rfl | rfl | rfl
    · exact ⟨_, hz, fun v z => nomatch z⟩
    · exact ⟨_, hT, fun v z => nomatch z⟩
    · exact ⟨_, hO, fun v z => nomatch z⟩
    · exact src_obj h1
    · exact src_obj h2
  · rintro i h h' ⟨hz, hT, ⟨x, y, hO⟩, h1, h2⟩ hk
    exact ⟨hk z (by simp) _ hz, hk TI (by simp) _ hT, ⟨x, y, hk TO (by simp) _ hO⟩, src_keep h1 fun o q => hk i1 (by simp) o q, src_keep h2 fun o q => hk i2 (by simp) o q⟩
  · rintro X rfl rfl rfl hc pins s σ H i I hf ⟨hS1, hS2⟩ ⟨hz, hT, hO, h1, h2⟩
    obtain ⟨its1, rv1, g1, _⟩ := src_its I hS1
    obtain ⟨its2, rv2, g2, _⟩ := src_its I hS2
    have fz := hf z (by simp)
    have fTI := hf TI (by simp)
    have fTO := hf TO (by simp)
    have f1 := hf i1 (by simp)
    have f2 := hf i2 (by simp)
    have D1 := src_draws (P := X.prog) (w := X.w) (A := X.A.in1) (k := k1) (I.ok.hd hc) (src_ne I f1 hS1) its1.toArray
    have D2 := src_draws (P := X.prog) (w := X.w) (A := X.A.in1) (k := k2) (I.ok.hd hc) (src_ne I f2 hS2) its2.toArray
    have Z : ZipSep2 z TI TO i1 i2 [i1, a] [i2, b] :=
      { TIz := d1, TOz := d2, TITO := d3, TIi1 := d4, mem1 := by simp, zf1 := by simp [d6, (src_ne I fz hS1).symm], Tf1 := by simp [d8, (src_ne I fTO hS1).symm],
        TIi2 := d5, mem2 := by simp, zf2 := by simp [d7, (src_ne I fz hS2).symm], Tf2 := by simp [d9, (src_ne I fTO hS2).symm],
        sep1_2 := by simp [d10, (src_ne I f1 hS2).symm], sep2_1 := by simp [d10.symm, (src_ne I f2 hS1).symm] }
    have G := GoesN.zip2 (elts := elts) (x1 := kk) (pos := tpos) Z D1 D2
    rw [show min its1.toArray.size its2.toArray.size = (zipR xs ys).length by rw [zipR_len, List.size_toArray, List.size_toArray, rv1.length, rv2.length]] at G
    refine ⟨_, _, G.mono ?_, ⟨hz, hT, hO, ⟨h1, g1⟩, h2, g2⟩, ?_⟩
    · rintro j h0 v h hj ⟨T, x, y, rfl, hT, hx, hy, ht⟩
      have hx : its1[j]? = some x := by simpa using hx
      have hy : its2[j]? = some y := by simpa using hy
      rw [zipR_len] at hj
      have hj1 : j < xs.length := by omega
      have hj2 : j < ys.length := by omega
      obtain ⟨u, hu, ru⟩ := rv1.get (List.getElem?_eq_getElem hj1)
      obtain ⟨u2, hu2, ru2⟩ := rv2.get (List.getElem?_eq_getElem hj2)
      rw [hx] at hu; cases hu
      rw [hy] at hu2; cases hu2
      exact ⟨T, [x, y], [xs[j], ys[j]], rfl, hT, zipR_get xs ys j _ _ (List.getElem?_eq_getElem hj1) (List.getElem?_eq_getElem hj2), .cons ru (.cons ru2 .nil), ht⟩
    · rintro j h ⟨hz, hT, hO, ⟨h1, _⟩, h2, _⟩
      exact ⟨hz, hT, hO, h1, h2⟩
  · rintro A i s Q E ⟨hz, _⟩ q
    exact wpAny_pyIter_zip hz q
def iZipS (K : PySem.W.Frag) (ta : TA) : TI := fun σ H R => ta σ H fun vs H1 => ∃ k1 k2 a b xs ys, vs = [.ref a, .ref b] ∧ SrcS K k1 a xs H1 ∧ SrcS K k2 b ys H1 ∧ R (ItP (fun H => SrcS K k1 a xs H ∧ SrcS K k2 b ys H) (zipR xs ys)) H1
theorem zipA (n : Nat) : ZipA (n + 4) (n + 2) (n + 3) n (n + 1) := by
  refine ⟨?_, ?_, ?_, ?_, ?_, ?_, ?_, ?_, ?_, ?_⟩ <;> (show (_ : Nat) ≠ _; omega)
theorem pi_zipS {X : Cx} {e e2 : Expr} {ta : TA} {p pos tpos : Pos} {elts : List Expr} {kk : Nat} (hg : Gl X "zip") (hm : X.mg "zip" = none) (ha : PA X [e, e2] ta)
    (hs : starEach [e, e2] X.env = (false, eval e X.env) :: starEach [e2] X.env := by rfl) (hpl : (backTo pos (starEach [e2] X.env)).any (·.1) = false := by rfl) :
    PI X (.Tuple elts kk tpos) (.Call (.Name "zip" p) [e, e2] [] pos) (iZipS X.K ta) := by
  constructor
  intro pins s σ H R I h
  refine Call_ (ld_blt I hg hm PyProof.Rows.boot_zip (PyProof.Rows.callWith_type1 (thn (ha.run pos pins s σ H _ I h) ?_) hs hpl))
  rintro us s1 ⟨vs, H1, I1, r1, k1, k2, a, b, xs, ys, rfl, hS1, hS2, q⟩
  obtain ⟨u1, u2, rfl, q1, q2⟩ := vals2 r1
  cases q1; cases q2
  obtain ⟨its1, rv1, g1, _⟩ := src_its I1 hS1
  obtain ⟨its2, rv2, g2, _⟩ := src_its I1 hS2
  refine zip_begins2 (src_begins k1 a its1.toArray) (src_begins k2 b its2.toArray) g1 g2 fun h' hz hTI hTO e1 e2 hsz hk => wpAny_pyIter_zip hz ?_
  have I2 : Inv X pins σ H1 { s1 with heap := h' } := I1.kept (t' := s1.toks) hk
  refine ⟨s1.heap.objs.size + 4, [s1.heap.objs.size + 4, s1.heap.objs.size + 2, s1.heap.objs.size + 3, s1.heap.objs.size, s1.heap.objs.size + 1], _, _, H1, rfl, I2, turn_zipS k1 k2 a b _ _ _ _ _ xs ys (zipA _), ⟨hz, hTI, ⟨_, _, hTO⟩, src_start e1, src_start e2⟩, fun c hc => ?_, q⟩
  have hle : s1.heap.objs.size ≤ c := by
    have hc : c = s1.heap.objs.size + 4 ∨ c = s1.heap.objs.size + 2 ∨ c = s1.heap.objs.size + 3 ∨ c = s1.heap.objs.size ∨ c = s1.heap.objs.size + 1 := by simpa using hc
    rcases hc with rfl | rfl | rfl | rfl | rfl
    · exact Nat.le_add_right _ _
    · exact Nat.le_add_right _ _
    · exact Nat.le_add_right _ _
    · exact Nat.le_refl _
    · exact Nat.le_add_right _ _
  exact I1.fpOk hle (I1.hok.fresh hle)
end Cl

namespace Cl
open PySem PySem.Spec PyProof.Rows L2

/-! ### what is walked, as data -/
def WalkD (K : PySem.W.Frag) (J : It) (g : GW) (H : Hp) (ds : List PyData) : Prop := ∀ g' H', Stay g H g' H' →
  (∀ i d, ds[i]? = some d → J.go i H' ∧ ∀ x H'', J.yld i H' x H'' → Res K H' g'.fz (.dat d) x H'') ∧ J.stop ds.length H'
abbrev TID := CS → (List PyData → CS → Prop) → Prop
def tI (K : PySem.W.Frag) (ZP : ZT) (t : TID) : TI := fun σ H R => ∃ B cs g, Rel K ZP B g H cs σ ∧ ∃ Q', t cs Q' ∧
  ∀ ds cs' J g' H', Q' ds cs' → Rel K ZP B g' H' cs' σ → WalkD K J g' H' ds → (∀ a, ow cs' σ a → ow cs σ a) → Frm (ow cs σ) g H g' H' → R J H'
structure DI (X : Cx) (ZP : ZT) (tg iter : Expr) (t : TID) : Prop where
  pi : PI X tg iter (tI X.K ZP t)
section
variable {X : Cx} {ZP : ZT} {tg e e2 : Expr} {p pos tpos : Pos} {elts : List Expr} {kk : Nat}
theorem PI.imp {iter : Expr} {t t' : TI} (h : PI X tg iter t) (m : ∀ σ H R, t' σ H R → t σ H R) : PI X tg iter t' := ⟨fun pins s σ H R I q => h.run pins s σ H R I (m _ _ _ q)⟩
/-- a list (frozen by the walk) -/
def t_wlist (t : TVD) : TID := fun cs Q => t cs fun d cs1 => match d with
  | .list ds => Q ds cs1
  | _ => False
def t_wtup (t : TVD) : TID := fun cs Q => t cs fun d cs1 => match d with
  | .tuple ds => Q ds cs1
  | _ => False
def t_wstr (t : TVD) : TID := fun cs Q => t cs fun d cs1 => match d with
  | .str z => Q (z.cps.toList.map fun c => .str ⟨#[c]⟩) cs1
  | _ => False
theorem di_list {t : TVD} (h : DV X ZP e t) : DI X ZP tg e (t_wlist t) := by
  refine ⟨PI.imp (pi_list h.pe) ?_⟩
  rintro σ H R ⟨B, cs, g, Re, Q', q, k⟩
  refine ⟨B, cs, g, Re, _, q, fun d cs1 v g1 H1 q1 R1 r1 s1 f1 => ?_⟩
  cases d with
  | list ds =>
    cases r1 with
    | @lst a xs _ hf ha ra =>
      refine ⟨a, rfl, ⟨xs, SqL.of ha⟩, k ds cs1 _ g1 H1 q1 R1 (fun g2 H2 st => ?_) s1 f1⟩
      have ha2 : H2 a = some (.lst xs) := st.keep a _ hf ha
      have ra2 := st.rps ra
      refine ⟨fun i d hd => ?_, xs, SqL.of ha2, ?_⟩
      · obtain ⟨v, hv, rv⟩ := ra2.get' hd
        refine ⟨⟨xs, v, SqL.of ha2, hv⟩, fun x H'' hy => ?_⟩
        obtain ⟨rfl, hx⟩ := hy
        have := hx xs (SqL.of ha2)
        rw [hv] at this; cases this
        exact .same rv
      · rw [ra.length]; exact Nat.le_refl _
  | _ => exact q1.elim
theorem di_tup {t : TVD} (h : DV X ZP e t) : DI X ZP tg e (t_wtup t) := by
  refine ⟨PI.imp (pi_tup h.pe) ?_⟩
  rintro σ H R ⟨B, cs, g, Re, Q', q, k⟩
  refine ⟨B, cs, g, Re, _, q, fun d cs1 v g1 H1 q1 R1 r1 s1 f1 => ?_⟩
  cases d with
  | tuple ds =>
    cases r1 with
    | @tup a xs _ ha ra =>
      refine ⟨a, rfl, ⟨xs, ha⟩, k ds cs1 _ g1 H1 q1 R1 (fun g2 H2 st => ?_) s1 f1⟩
      have ha2 : SqT X.K H2 a xs := SqT.go st.tups ha
      have ra2 := st.rps ra
      refine ⟨fun i d hd => ?_, xs, ha2, ?_⟩
      · obtain ⟨v, hv, rv⟩ := ra2.get' hd
        refine ⟨⟨xs, v, ha2, hv⟩, fun x H'' hy => ?_⟩
        obtain ⟨rfl, hx⟩ := hy
        have := hx xs ha2
        rw [hv] at this; cases this
        exact .same rv
      · rw [ra.length]; exact Nat.le_refl _
  | _ => exact q1.elim
theorem di_str {t : TVD} (h : DV X ZP e t) : DI X ZP tg e (t_wstr t) := by
  refine ⟨PI.imp (pi_str h.pe) ?_⟩
  rintro σ H R ⟨B, cs, g, Re, Q', q, k⟩
  refine ⟨B, cs, g, Re, _, q, fun d cs1 v g1 H1 q1 R1 r1 s1 f1 => ?_⟩
  cases d with
  | str z =>
    cases r1
    refine ⟨z, rfl, k _ cs1 _ g1 H1 q1 R1 (fun g2 H2 st => ⟨fun i d hd => ?_, ?_⟩) s1 f1⟩
    · rw [List.getElem?_map] at hd
      cases e1 : z.cps.toList[i]? with
      | none => rw [e1] at hd; cases hd
      | some c =>
        rw [e1] at hd
        cases hd
        have hi : i < z.cps.size := by
          have := (List.getElem?_eq_some_iff.mp e1).1
          simpa using this
        refine ⟨hi, fun x H'' hy => ?_⟩
        obtain ⟨rfl, c', hc', rfl⟩ := hy
        have : z.cps[i]? = some c := by simpa using e1
        rw [this] at hc'; cases hc'
        exact .same (.str _)
    · show z.cps.size ≤ _
      simp
  | _ => exact q1.elim
/-- range(n), range(a, b) -/
def rangeD (lo hi : Int) : List PyData := (List.range (hi - lo).toNat).map fun i => .int (lo + (i : Nat))
def t_wrng1 (t : TSA) : TID := fun cs Q => t cs fun svs cs1 => match svs with
  | [.dat (.int j)] => -(2 ^ 62) ≤ j ∧ j < 2 ^ 62 ∧ Q (rangeD 0 j) cs1
  | _ => False
def t_wrng2 (t : TSA) : TID := fun cs Q => t cs fun svs cs1 => match svs with
  | [.dat (.int i), .dat (.int j)] => (-(2 ^ 62) ≤ i ∧ i < 2 ^ 62 ∧ -(2 ^ 62) ≤ j ∧ j < 2 ^ 62) ∧ Q (rangeD i j) cs1
  | _ => False
theorem walk_rng (K : PySem.W.Frag) (g : GW) (H : Hp) (lo hi : Int) : WalkD K (Itr lo (hi - lo).toNat) g H (rangeD lo hi) := fun g2 H2 st => by
  refine ⟨fun i d hd => ?_, ?_⟩
  · unfold rangeD at hd
    rw [List.getElem?_map] at hd
    cases e1 : (List.range (hi - lo).toNat)[i]? with
    | none => rw [e1] at hd; cases hd
    | some c =>
      rw [e1] at hd
      cases hd
      obtain ⟨hi, e2⟩ := List.getElem?_eq_some_iff.mp e1
      rw [List.getElem_range] at e2
      subst e2
      rw [List.length_range] at hi
      refine ⟨hi, fun x H'' hy => ?_⟩
      obtain ⟨rfl, rfl⟩ := hy
      exact .same (.int _)
  · show (hi - lo).toNat ≤ (rangeD lo hi).length
    unfold rangeD
    rw [List.length_map, List.length_range]
    exact Nat.le_refl _
theorem di_range1 {t : TSA} (hg : Gl X "range") (hm : X.mg "range" = none) (ha : DA X ZP [e] t) (hs : starEach [e] X.env = [(false, eval e X.env)] := by rfl) : DI X ZP tg (.Call (.Name "range" p) [e] [] pos) (t_wrng1 t) := by
  refine ⟨PI.imp (pi_range1 hg hm ha.pa hs) ?_⟩
  rintro σ H R ⟨B, cs, g, Re, Q', q, k⟩
  refine ⟨B, cs, g, Re, _, q, fun svs cs1 vs g1 H1 q1 R1 r1 st s1 f1 => ?_⟩
  match svs, r1, q1 with
  | [.dat (.int j)], .cons r .nil, q1 =>
    cases r
    refine ⟨j, rfl, q1.1, q1.2.1, k _ cs1 _ g1 H1 q1.2.2 R1 ?_ s1 f1⟩
    have := walk_rng X.K g1 H1 0 j
    rw [Int.sub_zero] at this
    exact this
theorem di_range2 {t : TSA} (hg : Gl X "range") (hm : X.mg "range" = none) (ha : DA X ZP [e, e2] t) (hs : starEach [e, e2] X.env = [(false, eval e X.env), (false, eval e2 X.env)] := by rfl) (hs2 : starEach [e2] X.env = [(false, eval e2 X.env)] := by rfl) : DI X ZP tg (.Call (.Name "range" p) [e, e2] [] pos) (t_wrng2 t) := by
  refine ⟨PI.imp (pi_range2 hg hm ha.pa hs hs2) ?_⟩
  rintro σ H R ⟨B, cs, g, Re, Q', q, k⟩
  refine ⟨B, cs, g, Re, _, q, fun svs cs1 vs g1 H1 q1 R1 r1 st s1 f1 => ?_⟩
  match svs, r1, q1 with
  | [.dat (.int i), .dat (.int j)], .cons r (.cons r' .nil), q1 =>
    cases r; cases r'
    exact ⟨i, j, rfl, q1.1, k _ cs1 _ g1 H1 q1.2 R1 (walk_rng X.K g1 H1 i j) s1 f1⟩
/-- the items of a list or a tuple -/
def seqOf : PyData → Option (List PyData)
  | .list ds => some ds
  | .tuple ds => some ds
  | _ => none
theorem Rp.src {K : PySem.W.Frag} {H : Hp} {g : GW} {d : PyData} {v : V} {ds : List PyData} (r : Rp K H g.fz d v) (e : seqOf d = some ds) :
    ∃ k a xs, v = .ref a ∧ RpAll K H g.fz ds xs ∧ SrcS K k a xs H ∧ ∀ g' H', Stay g H g' H' → SrcS K k a xs H' := by
  cases r with
  | @lst a xs _ hf ha ra => cases e; exact ⟨.lst, a, xs, rfl, ra, ha, fun g' H' st => st.keep a _ hf ha⟩
  | @tup a xs _ ha ra => cases e; exact ⟨.tup, a, xs, rfl, ra, ha, fun g' H' st => SqT.go st.tups ha⟩
  | _ => cases e
def enumD : Nat → List PyData → List PyData
  | _, [] => []
  | k, d :: ds => .tuple [.int (k : Nat), d] :: enumD (k + 1) ds
def zipD : List PyData → List PyData → List PyData
  | x :: xs, y :: ys => .tuple [x, y] :: zipD xs ys
  | _, _ => []
def rowsD (rows : List (List PyData)) : List PyData := rows.map .tuple
/-- the rows of an ItP as data -/
theorem walk_pairs {K : PySem.W.Frag} {S : Hp → Prop} {rows : List (List V)} {g : GW} {H : Hp} {rs : List (List PyData)} (hS : ∀ g' H', Stay g H g' H' → S H') (hl : rs.length = rows.length)
    (hr : ∀ (i : Nat) (r : List PyData) (vs : List V), rs[i]? = some r → rows[i]? = some vs → RpAll K H g.fz r vs) : WalkD K (ItP S rows) g H (rowsD rs) := fun g2 H2 st => by
  refine ⟨fun i d hd => ?_, hS _ _ st, by unfold rowsD; rw [List.length_map]; exact hl⟩
  unfold rowsD at hd
  rw [List.getElem?_map] at hd
  cases e1 : rs[i]? with
  | none => rw [e1] at hd; cases hd
  | some r =>
    rw [e1] at hd
    cases hd
    have hi : i < rows.length := by rw [← hl]; exact (List.getElem?_eq_some_iff.mp e1).1
    refine ⟨⟨hS _ _ st, hi⟩, fun x H'' hy => ?_⟩
    obtain ⟨T, vs, e2, rfl, hT, rfl⟩ := hy
    exact .tup hT (st.rps (hr i r vs e1 e2))
def enumRs : Nat → List PyData → List (List PyData)
  | _, [] => []
  | k, d :: ds => [.int (k : Nat), d] :: enumRs (k + 1) ds
theorem enumRs_ok {K : PySem.W.Frag} {H : Hp} {fz : Addr → Prop} : ∀ {ds : List PyData} {vs : List V} (k : Nat), RpAll K H fz ds vs → (enumRs k ds).length = (enumR k vs).length ∧ ∀ (i : Nat) (r : List PyData) (us : List V), (enumRs k ds)[i]? = some r → (enumR k vs)[i]? = some us → RpAll K H fz r us
  | [], _, k, .nil => ⟨rfl, fun i r us h => by simp [enumRs] at h⟩
  | d :: ds, _, k, .cons r t => by
    obtain ⟨h1, h2⟩ := enumRs_ok (k + 1) t
    refine ⟨by simp [enumRs, enumR, h1], fun i r' us e1 e2 => ?_⟩
    cases i with
    | zero => simp [enumRs, enumR] at e1 e2; subst e1 e2; exact .cons (.int _) (.cons r .nil)
    | succ i => exact h2 i r' us (by simpa [enumRs] using e1) (by simpa [enumR] using e2)
def zipRs : List PyData → List PyData → List (List PyData)
  | x :: xs, y :: ys => [x, y] :: zipRs xs ys
  | _, _ => []
theorem zipRs_ok {K : PySem.W.Frag} {H : Hp} {fz : Addr → Prop} : ∀ {ds es : List PyData} {vs ws : List V}, RpAll K H fz ds vs → RpAll K H fz es ws → (zipRs ds es).length = (zipR vs ws).length ∧ ∀ (i : Nat) (r : List PyData) (us : List V), (zipRs ds es)[i]? = some r → (zipR vs ws)[i]? = some us → RpAll K H fz r us
  | [], _, _, _, .nil, _ => ⟨rfl, fun i r us h => by simp [zipRs] at h⟩
  | _ :: _, [], _, _, .cons _ _, .nil => ⟨rfl, fun i r us h => by simp [zipRs] at h⟩
  | d :: ds, e :: es, _, _, .cons r t, .cons r' t' => by
    obtain ⟨h1, h2⟩ := zipRs_ok t t'
    refine ⟨by simp [zipRs, zipR, h1], fun i q us e1 e2 => ?_⟩
    cases i with
    | zero => simp [zipRs, zipR] at e1 e2; subst e1 e2; exact .cons r (.cons r' .nil)
    | succ i => exact h2 i q us (by simpa [zipRs] using e1) (by simpa [zipR] using e2)
def t_wenum (t : TSA) : TID := fun cs Q => t cs fun svs cs1 => match svs with
  | [.dat d] => (match seqOf d with
    | some ds => Q (rowsD (enumRs 0 ds)) cs1
    | none => False)
  | _ => False
def t_wzip (t : TSA) : TID := fun cs Q => t cs fun svs cs1 => match svs with
  | [.dat d, .dat e] => (match seqOf d, seqOf e with
    | some ds, some es => Q (rowsD (zipRs ds es)) cs1
    | _, _ => False)
  | _ => False
theorem di_enum {t : TSA} (hg : Gl X "enumerate") (hm : X.mg "enumerate" = none) (ha : DA X ZP [e] t) (hs : starEach [e] X.env = [(false, eval e X.env)] := by rfl) : DI X ZP (.Tuple elts kk tpos) (.Call (.Name "enumerate" p) [e] [] pos) (t_wenum t) := by
  refine ⟨PI.imp (pi_enumS hg hm ha.pa hs) ?_⟩
  rintro σ H R ⟨B, cs, g, Re, Q', q, k⟩
  refine ⟨B, cs, g, Re, _, q, fun svs cs1 vs g1 H1 q1 R1 r1 st s1 f1 => ?_⟩
  match svs, r1, q1 with
  | [.dat d], .cons r .nil, q1 =>
    cases e1 : seqOf d with
    | none => simp only [e1] at q1
    | some ds =>
      simp only [e1] at q1
      obtain ⟨kk, a, xs, rfl, ra, hS, hst⟩ := Rp.src r e1
      obtain ⟨h1, h2⟩ := enumRs_ok 0 ra
      exact ⟨kk, a, xs, rfl, hS, k _ cs1 _ g1 H1 q1 R1 (walk_pairs hst h1 h2) s1 f1⟩
theorem di_zip {t : TSA} (hg : Gl X "zip") (hm : X.mg "zip" = none) (ha : DA X ZP [e, e2] t) (hs : starEach [e, e2] X.env = (false, eval e X.env) :: starEach [e2] X.env := by rfl) (hpl : (backTo pos (starEach [e2] X.env)).any (·.1) = false := by rfl) : DI X ZP (.Tuple elts kk tpos) (.Call (.Name "zip" p) [e, e2] [] pos) (t_wzip t) := by
  refine ⟨PI.imp (pi_zipS hg hm ha.pa hs hpl) ?_⟩
  rintro σ H R ⟨B, cs, g, Re, Q', q, k⟩
  refine ⟨B, cs, g, Re, _, q, fun svs cs1 vs g1 H1 q1 R1 r1 st s1 f1 => ?_⟩
  match svs, r1, q1 with
  | [.dat d, .dat d2], .cons r (.cons r' .nil), q1 =>
    cases e1 : seqOf d with
    | none => simp only [e1] at q1
    | some ds =>
      cases e2 : seqOf d2 with
      | none => simp only [e1, e2] at q1
      | some es =>
        simp only [e1, e2] at q1
        obtain ⟨k1, a, xs, rfl, ra, hS, hst⟩ := Rp.src r e1
        obtain ⟨k2, b, ys, rfl, rb, hS2, hst2⟩ := Rp.src r' e2
        obtain ⟨h1, h2⟩ := zipRs_ok ra rb
        exact ⟨k1, k2, a, b, xs, ys, rfl, hS, hS2, k _ cs1 _ g1 H1 q1 R1 (walk_pairs (fun g' H' s => ⟨hst g' H' s, hst2 g' H' s⟩) h1 h2) s1 f1⟩
end

/-! ### for -/
def forD (gt : TGD) (tb : TSD) (D : DEnds) : List PyData → CS → Prop
  | [], cs => D.nx cs
  | d :: ds, cs => gt (.dat d) cs fun cs1 => tb { nx := forD gt tb D ds, rt := D.rt, bk := D.nx, ct := forD gt tb D ds } cs1
def t_for (ti : TID) (gt : TGD) (tb : TSD) : TSD := fun D cs => ti cs fun ds cs1 => forD gt tb D ds cs1
section
variable {X : Cx} {ZP : ZT} {tg iter : Expr} {body : List Stmt} {pos : Pos} {ti : TID} {gt : TGD} {tb : TSD}
theorem ds_for (hp : PassesOwn (model X.prog X.w) X.A X.env X.xe) (hc : X.calm = true) (hi : DI X ZP tg iter ti) (hg : DG X ZP tg gt) (hb : DSs X ZP body tb)
    (hs : ∀ x, foldedSetIterable iter X.env x = pure x := by intro _; rfl) : DS X ZP (.For tg iter body [] pos) (t_for ti gt tb) := by
  refine ⟨PS.imp (ps_for hp hc hi.pi hg.pg hb.pss hs) ?_⟩
  rintro D σ H ⟨B, cs, g, R, D', q, p⟩
  refine ⟨B, cs, g, R, _, q, fun ds cs1 J g1 H1 q1 R1 wk s1 f1 => ?_⟩
  have p1 := p.from (f1.stay R.fzow)
  refine ⟨fun i m σ H => m + i = ds.length ∧ ∃ cs g, Rel X.K ZP B g H cs σ ∧ Stay g1 H1 g H ∧ forD gt tb D' (ds.drop i) cs, ⟨ds.length, rfl, cs1, g1, R1, .refl, q1⟩, ?_⟩
  rintro i m σ2 H2 ⟨hm, cs2, g2, R2, st2, q2⟩
  obtain ⟨w1, w2⟩ := wk g2 H2 st2
  by_cases hlt : i < ds.length
  · have e1 : ds[i]? = some ds[i] := List.getElem?_eq_getElem hlt
    obtain ⟨go, hy⟩ := w1 i _ e1
    rw [List.drop_eq_getElem_cons hlt] at q2
    refine .inr ⟨go, fun σ' H' => ∃ cs g, Rel X.K ZP B g H' cs σ' ∧ Stay g1 H1 g H' ∧ forD gt tb D' (ds.drop (i + 1)) cs, fun σ' H' ⟨cs, g, a, b, c⟩ => ⟨m - 1, by omega, by omega, cs, g, a, b, c⟩, fun x H3 y => ?_⟩
    obtain ⟨R3, r3, t3, f3⟩ := (hy x H3 y).fin R2
    have st3 := f3.stay R2.fzow
    refine ⟨B, cs2, g2, _, R3, r3, (fun _ _ e => by cases e), _, q2, fun cs4 σ4 g4 H4 q4 R4 st4 => ?_⟩
    have st : Stay g1 H1 g4 H4 := (st2.trans st3).trans st4
    refine ⟨B, cs4, g4, R4, _, q4, ⟨fun cs' σ' g' H' R' s' q' => ⟨cs', g', R', st.trans s', q'⟩, fun cs' σ' g' H' R' s' q' => p1.nx cs' σ' g' H' R' (st.trans s') q', fun cs' σ' g' H' R' s' q' => ⟨cs', g', R', st.trans s', q'⟩,
      fun sv v cs' σ' g' H' R' s' r' t' q' => p1.rt sv v cs' σ' g' H' R' (st.trans s') r' t' q'⟩⟩
  · have e : i = ds.length := by omega
    subst e
    rw [List.drop_length] at q2
    exact .inl ⟨w2, p1.nx cs2 σ2 g2 H2 R2 st2 q2⟩
end
end Cl

namespace Cl
open PySem PySem.Spec PyProof.Rows L2

/-! ### a comprehension's slots -/
def wipeC (cs : CS) : List Nat → CS
  | [] => cs
  | v :: vs => (wipeC cs vs).set v none
theorem wipeC_length (cs : CS) : ∀ vs : List Nat, (wipeC cs vs).length = cs.length
  | [] => rfl
  | v :: vs => by unfold wipeC; rw [List.length_set, wipeC_length cs vs]
theorem wipeC_some {cs : CS} {i : Nat} {x : SV} : ∀ {vs : List Nat}, (wipeC cs vs)[i]? = some (some x) → cs[i]? = some (some x) ∧ i ∉ vs
  | [], h => ⟨h, by simp⟩
  | v :: vs, h => by
    unfold wipeC at h
    by_cases hi : v = i
    · subst hi
      by_cases hv : v < (wipeC cs vs).length
      · rw [List.getElem?_set_self hv] at h; cases h
      · rw [List.getElem?_eq_none (by rw [List.length_set]; omega)] at h; cases h
    · rw [List.getElem?_set_ne hi] at h
      obtain ⟨h1, h2⟩ := wipeC_some h
      exact ⟨h1, by simp [h2]; exact Ne.symm hi⟩
theorem wipe_notin {σ : L2.St} {i : Nat} : ∀ {vs : List Nat}, i ∉ vs → (wipe σ vs)[i]? = σ[i]?
  | [], _ => rfl
  | v :: vs, h => by
    unfold wipe
    rw [List.getElem?_set_ne (fun e => h (by simp [e])), wipe_notin fun z => h (by simp [z])]
theorem wipe_set_in {σ : L2.St} {i : Nat} {x : Option V} : ∀ {vs : List Nat}, i ∈ vs → wipe (σ.set i x) vs = wipe σ vs
  | [], h => by cases h
  | v :: vs, h => by
    unfold wipe
    by_cases hv : i ∈ vs
    · rw [wipe_set_in hv]
    · have hi : i = v := by
        rcases List.mem_cons.mp h with h | h
        · exact h
        · exact absurd h hv
      subst hi
      have key : ∀ (us : List Nat), wipe (σ.set i x) us = (wipe σ us).set i x ∨ i ∈ us := fun us => by
        induction us with
        | nil => exact .inl rfl
        | cons u us ih =>
          by_cases hu : i = u
          · exact .inr (by simp [hu])
          · rcases ih with ih | ih
            · left
              unfold wipe
              rw [ih, List.set_comm _ _ hu]
            · exact .inr (by simp [ih])
      rcases key vs with e | e
      · rw [e, List.set_set]
      · exact absurd e hv
theorem wipe_in {σ : L2.St} {i : Nat} : ∀ {vs : List Nat}, i ∈ vs → i < σ.length → (L2.wipe σ vs)[i]? = some none
  | [], h, _ => by cases h
  | v :: vs, h, hl => by
    unfold L2.wipe
    by_cases hv : v = i
    · subst hv
      rw [List.getElem?_set_self (by rw [wipe_length]; exact hl)]
    · rw [List.getElem?_set_ne hv]
      refine wipe_in ?_ hl
      rcases List.mem_cons.mp h with h | h
      · exact absurd h.symm hv
      · exact h
theorem wipe_idem (σ : L2.St) (vs : List Nat) : L2.wipe (L2.wipe σ vs) vs = L2.wipe σ vs := by
  apply List.ext_getElem?
  intro i
  by_cases hi : i ∈ vs
  · by_cases hl : i < σ.length
    · rw [wipe_in hi hl, wipe_in hi (by rw [wipe_length]; exact hl)]
    · rw [List.getElem?_eq_none (by rw [wipe_length, wipe_length]; omega), List.getElem?_eq_none (by rw [wipe_length]; omega)]
  · rw [wipe_notin hi]
section
variable {K : PySem.W.Frag} {ZP : ZT} {B : Bs} {g g1 : GW} {H H1 : Hp} {cs cs1 csb : CS} {σ : L2.St}
theorem Rel.wipe (R : Rel K ZP B g H cs σ) (vs : List Nat) : Rel K ZP B g H (wipeC cs vs) (L2.wipe σ vs) where
  len := by rw [wipeC_length, wipe_length]; exact R.len
  slot := fun i sv e => by
    obtain ⟨e1, n⟩ := wipeC_some e
    obtain ⟨v, e2, r⟩ := R.slot i sv e1
    exact ⟨v, by rw [wipe_notin n]; exact e2, r⟩
  sep := fun i j xs ys a e1 e2 e3 e4 => by
    obtain ⟨h1, n1⟩ := wipeC_some e1
    obtain ⟨h2, n2⟩ := wipeC_some e2
    rw [wipe_notin n1] at e3
    rw [wipe_notin n2] at e4
    exact R.sep i j xs ys a h1 h2 e3 e4
  zok := R.zok
  fzok := R.fzok
  base := R.base
  fresh := fun a ⟨i, xs, e1, e2⟩ => by
    obtain ⟨h1, n1⟩ := wipeC_some e1
    rw [wipe_notin n1] at e2
    exact R.fresh a ⟨i, xs, h1, e2⟩
  bs := R.bs
theorem ow_wipe {vs : List Nat} {a : Addr} (h : ow (wipeC cs vs) (L2.wipe σ vs) a) : ow cs σ a := by
  obtain ⟨i, xs, e1, e2⟩ := h
  obtain ⟨h1, n1⟩ := wipeC_some e1
  rw [wipe_notin n1] at e2
  exact ⟨i, xs, h1, e2⟩
/-- the outer frame's values of those slots are put back -/
def restC (vs : List Nat) (cs1 csb : CS) : CS := csb.mapIdx fun j x => if j ∈ vs then cs1.getD j none else x
theorem restC_some {vs : List Nat} {j : Nat} {sv : SV} (e : (restC vs cs1 csb)[j]? = some (some sv)) : (j ∈ vs ∧ cs1[j]? = some (some sv)) ∨ (j ∉ vs ∧ csb[j]? = some (some sv)) := by
  unfold restC at e
  rw [List.getElem?_mapIdx] at e
  cases e1 : csb[j]? with
  | none => rw [e1] at e; cases e
  | some x =>
    rw [e1] at e
    by_cases hj : j ∈ vs
    · simp only [hj, if_true, Option.map_some, Option.some.injEq] at e
      left
      refine ⟨hj, ?_⟩
      rw [List.getD_eq_getElem?_getD] at e
      cases e2 : cs1[j]? with
      | none => rw [e2] at e; cases e
      | some y => rw [e2] at e; simp at e; rw [e]
    · simp only [hj, if_false, Option.map_some, Option.some.injEq] at e
      subst e
      exact .inr ⟨hj, rfl⟩
theorem Rel.rest {vs : List Nat} (R1 : Rel K ZP B g1 H1 cs1 σ) (R : Rel K ZP B g H csb (L2.wipe σ vs)) (f : Frm (ow (wipeC cs1 vs) (L2.wipe σ vs)) g1 H1 g H) (sub : ∀ a, ow csb (L2.wipe σ vs) a → ow (wipeC cs1 vs) (L2.wipe σ vs) a) :
    Rel K ZP B g H (restC vs cs1 csb) σ ∧ ∀ a, ow (restC vs cs1 csb) σ a → ow cs1 σ a := by
  have own1 : ∀ (j : Nat) (xs : List PyData) (a : Addr), j ∈ vs → cs1[j]? = some (some (.own xs)) → σ[j]? = some (some (.ref a)) → ¬ ow (wipeC cs1 vs) (L2.wipe σ vs) a := fun j xs a hj e1 e2 ⟨k, ys, e3, e4⟩ => by
    obtain ⟨h1, n1⟩ := wipeC_some e3
    rw [wipe_notin n1] at e4
    have := R1.sep j k xs ys a e1 h1 e2 e4
    subst this
    exact n1 hj
  have back : ∀ (j : Nat) (v : V), j ∉ vs → (L2.wipe σ vs)[j]? = some (some v) → σ[j]? = some (some v) := fun j v hj e => by rw [wipe_notin hj] at e; exact e
  have sub2 : ∀ a, ow (restC vs cs1 csb) σ a → ow cs1 σ a := fun a ⟨j, xs, e1, e2⟩ => by
    rcases restC_some e1 with ⟨hj, e⟩ | ⟨hj, e⟩
    · exact ⟨j, xs, e, e2⟩
    · exact ow_wipe (sub a ⟨j, xs, e, by rw [wipe_notin hj]; exact e2⟩)
  refine ⟨⟨?_, fun j sv e => ?_, fun j k xs ys a e1 e2 e3 e4 => ?_, R.zok, R.fzok, R.base, fun a h => R1.fresh a (sub2 a h), R.bs⟩, sub2⟩
  · unfold restC
    rw [List.length_mapIdx]
    have := R.len
    rw [wipe_length] at this
    exact this
  · rcases restC_some e with ⟨hj, e⟩ | ⟨hj, e⟩
    · obtain ⟨v, e1, r⟩ := R1.slot j sv e
      refine ⟨v, e1, r.frm f (fun a h => ⟨(R1.fzow a h).1, fun z => (R1.fzow a h).2 (ow_wipe z)⟩) fun xs a e2 e3 => ?_⟩
      subst e2; subst e3
      exact own1 j xs a hj e e1
    · obtain ⟨v, e1, r⟩ := R.slot j sv e
      exact ⟨v, back j v hj e1, r⟩
  · rcases restC_some e1 with ⟨hj, h1⟩ | ⟨hj, h1⟩
    · rcases restC_some e2 with ⟨hk, h2⟩ | ⟨hk, h2⟩
      · exact R1.sep j k xs ys a h1 h2 e3 e4
      · exact absurd (sub a ⟨k, ys, h2, by rw [wipe_notin hk]; exact e4⟩) (own1 j xs a hj h1 e3)
    · rcases restC_some e2 with ⟨hk, h2⟩ | ⟨hk, h2⟩
      · exact absurd (sub a ⟨j, xs, h1, by rw [wipe_notin hj]; exact e3⟩) (own1 k ys a hk h2 e4)
      · exact R.sep j k xs ys a h1 h2 (by rw [wipe_notin hj]; exact e3) (by rw [wipe_notin hk]; exact e4)
/-- a temporary list is changed -/
theorem Rel.updTmp {p : Addr} {vs ws : List V} (R : Rel K ZP B g H cs σ) (h : H p = some (.lst vs)) (n1 : ¬ g.fz p) (n2 : g.zs p = none) (n3 : ¬ ow cs σ p) (hb : B.1 p = none) : Rel K ZP B g (upd H p (.lst ws)) cs σ ∧ Frm (fun a => a = p) g H g (upd H p (.lst ws)) := by
  have tups : ∀ a xs, Rd H a (.tup xs) → Rd (upd H p (.lst ws)) a (.tup xs) := fun a xs q => by
    have hne : a ≠ p := fun e => by
      subst e
      rcases q with q | ⟨o, q⟩ <;> (rw [h] at q; cases q)
    rcases q with q | ⟨o, q⟩
    · exact .inl (by rw [upd_ne hne]; exact q)
    · exact .inr ⟨o, by rw [upd_ne hne]; exact q⟩
  have any : ∀ a o, H a = some o → ∃ o', upd H p (.lst ws) a = some o' := fun a o e => by
    by_cases hp : a = p
    · subst hp; exact ⟨_, upd_same⟩
    · exact ⟨o, by rw [upd_ne hp]; exact e⟩
  have f : Frm (fun a => a = p) g H g (upd H p (.lst ws)) :=
    ⟨fun a o e _ n => by rw [upd_ne n]; exact e, fun _ h => h, fun _ _ h => h, fun _ _ _ _ h => h, fun _ _ _ h => h, tups, any⟩
  refine ⟨⟨R.len, fun i sv e => ?_, R.sep, fun a t z => ?_, fun a z => ?_, ?_, R.fresh, R.bs⟩, f⟩
  · obtain ⟨v, e1, r⟩ := R.slot i sv e
    refine ⟨v, e1, r.frm f (fun a z => ⟨(R.fzow a z).1, fun q => ?_⟩) fun xs a e2 e3 q => ?_⟩
    · have q : a = p := q
      subst q; exact n1 z
    · have q : a = p := q
      subst q; subst e2; subst e3
      exact n3 ⟨i, xs, e, e1⟩
  · obtain ⟨o, e, q⟩ := R.zok a t z
    refine ⟨o, ?_, q⟩
    rw [upd_ne (fun e => by subst e; rw [n2] at z; cases z)]
    exact e
  · obtain ⟨⟨o, e⟩, q⟩ := R.fzok a z
    exact ⟨any a o e, q⟩
  · have nb : ∀ a o, B.1 a = some o → a ≠ p := fun a o e z => by subst z; rw [hb] at e; cases e
    refine ⟨fun a o e z n => ?_, R.base.fzm, R.base.zsm, R.base.fzn, R.base.zsn, fun a xs q => tups a xs (R.base.tups a xs q), fun a o e => ?_⟩
    · rw [upd_ne (nb a o e)]; exact R.base.keep a o e z n
    · obtain ⟨o', e'⟩ := R.base.any a o e
      exact any a o' e'
end

/-! ### targets of a comprehension: names of its own -/
def tGN (K : PySem.W.Frag) (ZP : ZT) (vs : List Nat) (t : TGD) : TG := fun v σ H Q => ∃ B cs g sv, Rel K ZP B g H cs σ ∧ RS K g H sv v ∧ settled sv = true ∧ ∃ Q', t sv cs Q' ∧
  ∀ cs' σ', Q' cs' → Rel K ZP B g H cs' σ' → L2.wipe σ' vs = L2.wipe σ vs → (∀ a, ow cs' σ' a → ow cs σ a) → Q σ' H
structure DGN (X : Cx) (ZP : ZT) (vs : List Nat) (tg : Expr) (t : TGD) : Prop where
  pg : PG X tg (tGN X.K ZP vs t)
structure DGNs (X : Cx) (ZP : ZT) (vs : List Nat) (ts : List Expr) (t : List PyData → CS → (CS → Prop) → Prop) : Prop where
  pgs : PGs X ts fun ws σ H Q => ∃ B cs g ds, Rel X.K ZP B g H cs σ ∧ RpAll X.K H g.fz ds ws ∧ ∃ Q', t ds cs Q' ∧ ∀ cs' σ', Q' cs' → Rel X.K ZP B g H cs' σ' → L2.wipe σ' vs = L2.wipe σ vs → (∀ a, ow cs' σ' a → ow cs σ a) → Q σ' H
section
variable {X : Cx} {ZP : ZT} {vs : List Nat} {pos : Pos}
theorem ow_store {cs : CS} {σ : L2.St} {i : Nat} {sv : SV} {v : V} (hs : settled sv = true) (hl : cs.length = σ.length) : ∀ a, ow (cs.set i (some sv)) (σ.set i (some v)) a → ow cs σ a := fun a ⟨j, xs, e1, e2⟩ => by
  by_cases hj : j = i
  · subst hj
    by_cases hi : j < cs.length
    · rw [List.getElem?_set_self hi] at e1
      cases e1; cases hs
    · rw [List.getElem?_eq_none (by rw [List.length_set]; omega)] at e1; cases e1
  · rw [List.getElem?_set_ne (Ne.symm hj)] at e1 e2
    exact ⟨j, xs, e1, e2⟩
theorem dgn_name {i : Nat} {x : Str} (hv : i ∈ vs) (hN : X.N.Nodup) (hi : X.N[i]? = some x) (hx : Loc X.env.scope x) (hf : X.fn x = true ∨ X.env.scope.names.lookup x = some .local := by first | exact .inl rfl | exact .inr rfl | assumption) : DGN X ZP vs (.Name x pos) (g_name i) := by
  refine ⟨PG.imp (pg_name hN hi hx hf) ?_⟩
  rintro v σ H Q ⟨B, cs, g, sv, R, r, n, Q', ⟨hl, q⟩, k⟩
  refine k _ _ q (R.store hl r fun xs a e _ => ?_) (wipe_set_in hv) (ow_store n R.len)
  rw [e] at n; cases n
theorem dgns_nil : DGNs X ZP vs [] g_nil := by
  refine ⟨PGs.imp pgs_nil ?_⟩
  rintro ws σ H Q ⟨B, cs, g, ds, R, r, Q', ⟨rfl, q⟩, k⟩
  cases r
  exact ⟨rfl, k _ _ q R rfl fun _ h => h⟩
theorem dgns_cons {e : Expr} {es : List Expr} {t : TGD} {u : List PyData → CS → (CS → Prop) → Prop} (h : DGN X ZP vs e t) (h2 : DGNs X ZP vs es u)
    (hs : (assignEach (e :: es) X.env).map (·.2) = assign e X.env :: (assignEach es X.env).map (·.2) := by rfl) : DGNs X ZP vs (e :: es) (g_cons t u) := by
  refine ⟨PGs.imp (pgs_cons h.pg h2.pgs hs) ?_⟩
  rintro ws σ H Q ⟨B, cs, g, ds, R, r, Q', q, k⟩
  cases r with
  | nil => exact q.elim
  | @cons v ws d ds r1 r2 =>
    refine ⟨v, ws, rfl, B, cs, g, .dat d, R, r1, rfl, _, q, fun cs1 σ1 q1 R1 w1 s1 => ?_⟩
    exact ⟨B, cs1, g, ds, R1, r2, Q', q1, fun cs' σ' q' R' w' s' => k cs' σ' q' R' (w'.trans w1) fun a h => s1 a (s' a h)⟩
theorem dgn_tup {es : List Expr} {k : Nat} {t : List PyData → CS → (CS → Prop) → Prop} {n : Nat} (hc : X.calm = true) (h : DGNs X ZP vs es t)
    (hn : (assignEach es X.env).length = n := by rfl) (hst : (assignEach es X.env).findIdx? (·.1) = none := by rfl) : DGN X ZP vs (.Tuple es k pos) (g_tup n t) := by
  refine ⟨PG.imp (PG.or (pg_tup hc h.pgs hn hst) (pg_unl hc h.pgs hn hst)) ?_⟩
  rintro v σ H Q ⟨B, cs, g, sv, R, r, n, Q', q, k⟩
  cases sv with
  | dat d =>
    cases d with
    | tuple ds =>
      obtain ⟨a, xs, rfl, hq, ra⟩ := (Rp.rb r).tup
      exact .inl ⟨a, xs, rfl, hq, by rw [← ra.length]; exact q.1, B, cs, g, ds, R, ra, Q', q.2, k⟩
    | _ => exact q.elim
  | own ds =>
    obtain ⟨a, vs, rfl, h, _, _, ra⟩ := r
    exact .inr ⟨a, vs, rfl, .inl (.inl h), by rw [← ra.length]; exact q.1, B, cs, g, ds, R, ra, Q', q.2, k⟩
  | _ => exact q.elim
end
/-- the tests -/
structure DTs (X : Cx) (ZP : ZT) (ifs : List Expr) (t : TTD) : Prop where
  pts : PTs X ifs (tT X.K ZP t)
def t_yes : TTD := fun cs Q => Q true cs
theorem PTs.imp {X : Cx} {ifs : List Expr} {t t' : TT} (h : PTs X ifs t) (m : ∀ σ H Q, t' σ H Q → t σ H Q) : PTs X ifs t' := ⟨fun pins s σ H Q I q => h.run pins s σ H Q I (m _ _ _ q)⟩
theorem dts_nil {X : Cx} {ZP : ZT} : DTs X ZP [] t_yes := ⟨PTs.imp pts_nil fun σ H Q ⟨B, cs, g, R, Q', q, k⟩ => k true cs g H q R (fun _ h => h) .refl⟩
theorem dts_one {X : Cx} {ZP : ZT} {c : Expr} {t : TTD} (h : DT X ZP c t) : DTs X ZP [c] t := ⟨pts_one h.pt⟩

/-! ### the comprehension -/
def lcD (vs : List Nat) (gt : TGD) (tt : TTD) (te : TVD) (Q : List PyData → CS → Prop) : List PyData → List PyData → CS → Prop
  | [], acc, cs => Q acc cs
  | d :: ds, acc, cs => gt (.dat d) cs fun cs1 => tt cs1 fun b cs2 => if b = true then te cs2 fun y cs3 => acc.length < sizeLine ∧ lcD vs gt tt te Q ds (acc ++ [y]) (wipeC cs3 vs) else lcD vs gt tt te Q ds acc (wipeC cs2 vs)
def t_lc (vs : List Nat) (ti : TID) (gt : TGD) (tt : TTD) (te : TVD) : TD := fun cs Q => ti cs fun ds cs1 => lcD vs gt tt te (fun acc csb => Q (.own acc) (restC vs cs1 csb)) ds [] (wipeC cs1 vs)
section
variable {X : Cx} {ZP : ZT} {elt tg iter : Expr} {ifs : List Expr} {scope : Scope} {own : List (Str × Nat)} {pos : Pos} {ti : TID} {gt : TGD} {tt : TTD} {te : TVD} {vs : List Nat}
theorem lc_core' {K : PySem.W.Frag} {σ : L2.St} {H : Hp} {Q : VK} (h : tD K ZP (t_lc vs ti gt tt te) σ H Q) : tLc (tI K ZP ti) (tGN K ZP vs gt) (tT K ZP tt) (tV K ZP te) vs σ H Q := by
  obtain ⟨B, cs, g, R, Q', q, k⟩ := h
  refine ⟨B, cs, g, R, _, q, fun ds cs1 J g1 H1 q1 R1 wk s1 f1 => ?_⟩
  intro D hD
  have hB : B.1 D = none := R1.bnone hD
  refine ⟨fun i m H => m + i = ds.length ∧ ∃ csb g acc vacc, Rel K ZP B g H csb (L2.wipe σ vs) ∧ Frm (ow (wipeC cs1 vs) (L2.wipe σ vs)) g1 H1 g H ∧ (∀ a, ow csb (L2.wipe σ vs) a → ow (wipeC cs1 vs) (L2.wipe σ vs) a) ∧
    H D = some (.lst vacc) ∧ RpAll K H g.fz acc vacc ∧ ¬ g.fz D ∧ g.zs D = none ∧ lcD vs gt tt te (fun acc csb => Q' (.own acc) (restC vs cs1 csb)) (ds.drop i) acc csb, ⟨ds.length, rfl, wipeC cs1 vs, g1, [], [], (R1.laid hD).wipe vs, .laid hD, fun _ h => h, upd_same, .nil, (R1.nofz hD).1, (R1.nofz hD).2, q1⟩, ?_⟩
  rintro i m H2 ⟨hm, csb, g2, acc, vacc, R2, f2, s2, hD2, ra, n1, n2, q2⟩
  have st2 : Stay g1 H1 g2 H2 := f2.stay fun a h => ⟨(R1.fzow a h).1, fun z => (R1.fzow a h).2 (ow_wipe z)⟩
  have nD : ∀ {cs : CS} {σ' : L2.St}, (∀ a, ow cs σ' a → ow csb (L2.wipe σ vs) a) → ¬ ow cs σ' D := fun hs z => by
    have z2 := ow_wipe (s2 D (hs D z))
    obtain ⟨ws, e⟩ := R1.owsome z2
    rw [hD] at e; cases e
  obtain ⟨w1, w2⟩ := wk g2 H2 st2
  by_cases hlt : i < ds.length
  · have e1 : ds[i]? = some ds[i] := List.getElem?_eq_getElem hlt
    obtain ⟨go, hy⟩ := w1 i _ e1
    rw [List.drop_eq_getElem_cons hlt] at q2
    refine .inr ⟨go, fun H' => ∃ csb g acc vacc, Rel K ZP B g H' csb (L2.wipe σ vs) ∧ Frm (ow (wipeC cs1 vs) (L2.wipe σ vs)) g1 H1 g H' ∧ (∀ a, ow csb (L2.wipe σ vs) a → ow (wipeC cs1 vs) (L2.wipe σ vs) a) ∧
      H' D = some (.lst vacc) ∧ RpAll K H' g.fz acc vacc ∧ ¬ g.fz D ∧ g.zs D = none ∧ lcD vs gt tt te (fun acc csb => Q' (.own acc) (restC vs cs1 csb)) (ds.drop (i + 1)) acc csb, fun H' z => ⟨m - 1, by omega, by omega, z⟩, fun x H3 y => ?_⟩
    obtain ⟨R3, r3, t3, f3⟩ := (hy x H3 y).fin R2
    refine ⟨B, csb, g2, _, R3, r3, rfl, _, q2, fun cs4 σ4 q4 R4 we4 s4 => ?_⟩
    rw [wipe_idem] at we4
    refine ⟨we4, B, cs4, g2, R4, _, q4, fun b cs5 g5 H5 q5 R5 s5 f5 => ?_⟩
    have f35 : Frm (ow csb (L2.wipe σ vs)) g2 H2 g5 H5 := f3.trans (f5.mono fun a _ _ h => s4 a h)
    have nDb := nD (cs := csb) (σ' := L2.wipe σ vs) fun _ h => h
    -- the new list and what it holds, behind a step
    have keepD : ∀ {g' : GW} {H' : Hp}, Frm (ow csb (L2.wipe σ vs)) g2 H2 g' H' → H' D = some (.lst vacc) ∧ RpAll K H' g'.fz acc vacc ∧ ¬ g'.fz D ∧ g'.zs D = none := fun {g' H'} f =>
      ⟨f.keep D _ hD2 n2 nDb, ra.frm f R2.fzow, fun z => n1 (f.fzn D _ hD2 nDb z), f.zsn D _ hD2 n2⟩
    have wipeOk : ∀ {cs' : CS} {g' : GW} {H' : Hp}, Rel K ZP B g' H' cs' σ4 → Rel K ZP B g' H' (wipeC cs' vs) (L2.wipe σ vs) := fun {cs' g' H'} R' => by
      have := R'.wipe vs
      rw [we4] at this
      exact this
    have owOk : ∀ {cs' : CS}, (∀ a, ow cs' σ4 a → ow cs4 σ4 a) → ∀ a, ow (wipeC cs' vs) (L2.wipe σ vs) a → ow (wipeC cs1 vs) (L2.wipe σ vs) a := fun {cs'} hs a h => by
      rw [← we4] at h
      exact s2 a (s4 a (hs a (ow_wipe h)))
    cases b with
    | false =>
      rw [if_neg Bool.false_ne_true] at q5
      refine iteF ?_
      obtain ⟨k1, k2, k3, k4⟩ := keepD f35
      exact ⟨_, g5, acc, vacc, wipeOk R5, f2.trans (f35.mono fun a _ _ h => s2 a h), owOk s5, k1, k2, k3, k4, q5⟩
    | true =>
      rw [if_pos rfl] at q5
      refine iteT ?_
      refine ⟨B, cs5, g5, R5, _, q5, fun d cs6 v g6 H6 q6 R6 r6 s6 f6 => ?_⟩
      have f36 : Frm (ow csb (L2.wipe σ vs)) g2 H2 g6 H6 := f35.trans (f6.mono fun a _ _ h => s4 a (s5 a h))
      obtain ⟨k1, k2, k3, k4⟩ := keepD f36
      refine ⟨vacc, k1, by rw [← k2.length]; exact q6.1, ?_⟩
      have nD6 := nD (cs := cs6) (σ' := σ4) fun a h => s4 a (s5 a (s6 a h))
      obtain ⟨R7, f7⟩ := R6.updTmp (ws := vacc ++ [v]) k1 k3 k4 nD6 hB
      have hne : ∀ a, g6.fz a → g6.zs a = none ∧ ¬ a = D := fun a h => ⟨(R6.fzow a h).1, fun z => by subst z; exact k3 h⟩
      refine ⟨_, g6, acc ++ [d], vacc ++ [v], wipeOk R7, ?_, owOk fun a h => s5 a (s6 a h), upd_same, (k2.frm f7 hne).append (.cons (Rp.frm f7 hne r6) .nil), k3, k4, q6.2⟩
      have ff : Frm (ow (wipeC cs1 vs) (L2.wipe σ vs)) g1 H1 g6 H6 := f2.trans (f36.mono fun a _ _ h => s2 a h)
      refine ⟨fun a o e z n => ?_, ff.fzm, ff.zsm, ff.fzn, ff.zsn, fun a xs q => f7.tups a xs (ff.tups a xs q), fun a o e => ?_⟩
      · rw [upd_ne (fun z => by subst z; rw [hD] at e; cases e)]
        exact ff.keep a o e z n
      · obtain ⟨o', e'⟩ := ff.any a o e
        exact f7.any a o' e'
  · have e : i = ds.length := by omega
    subst e
    rw [List.drop_length] at q2
    refine .inl ⟨w2, ?_⟩
    obtain ⟨R3, sub⟩ := R1.rest R2 f2 s2
    have fo : Frm (ow cs1 σ) g1 H1 g2 H2 := f2.mono fun a _ _ h => ow_wipe h
    refine k (.own acc) _ (.ref D) g2 H2 q2 R3 ⟨D, vacc, rfl, hD2, n1, n2, ra⟩ (Tmp.back f1 (fun xs a e1 e2 => ?_)) (fun a h => s1 a (sub a h)) (f1.trans (fo.mono fun a _ _ h => s1 a h))
    cases e2
    refine ⟨fun z => ?_, hD⟩
    obtain ⟨ws, e⟩ := R1.owsome (sub D z)
    rw [hD] at e; cases e
theorem de_lc (hc : X.calm = true) (hN : X.N.Nodup) (hi : DI X ZP tg iter ti) (ok : BlkOk X.N X.env.scope scope own) (hvs : own.map (·.2) = vs)
    (hg : ∀ (s : Shared) (H : Hp) (C : Addr) (cl : List (Str × Addr)) (fp : List Addr), DGN (X.blk s H scope (compEnvC scope cl C X.env) fp) ZP vs tg gt) (ht : ∀ (s : Shared) (H : Hp) (C : Addr) (cl : List (Str × Addr)) (fp : List Addr), DTs (X.blk s H scope (compEnvC scope cl C X.env) fp) ZP ifs tt)
    (he : ∀ (s : Shared) (H : Hp) (C : Addr) (cl : List (Str × Addr)) (fp : List Addr), DV (X.blk s H scope (compEnvC scope cl C X.env) fp) ZP elt te) (hs : ∀ x, foldedSetIterable iter X.env x = pure x := by intro _; rfl) :
    DE X ZP (.ListComp elt [⟨tg, iter, ifs, 0⟩] scope pos) (t_lc vs ti gt tt te) := by
  subst hvs
  exact ⟨PE.imp (pe_lc hc hN hi.pi ok (fun s H C cl fp => (hg s H C cl fp).pg) (fun s H C cl fp => (ht s H C cl fp).pts) (fun s H C cl fp => (he s H C cl fp).pe) hs) fun σ H Q h => lc_core' h⟩
/-- name = [..] on one line -/
theorem ds_setLc {i : Nat} {y : Str} {py : Pos} {spos : Pos} (hc : X.calm = true) (hN : X.N.Nodup) (hy : X.N[i]? = some y) (hyl : X.env.scope.names.lookup y = some .local)
    (hsw : swapsWith (.ListComp elt [⟨tg, iter, ifs, 0⟩] scope pos) (some (.Name y py)) spos.line X.env = pure true) (hi : DI X ZP tg iter ti) (ok : BlkOk X.N X.env.scope scope own) (hvs : own.map (·.2) = vs)
    (hg : ∀ (s : Shared) (H : Hp) (C : Addr) (cl : List (Str × Addr)) (fp : List Addr), DGN (X.blk s H scope (compEnvC scope cl C X.env) fp) ZP vs tg gt) (ht : ∀ (s : Shared) (H : Hp) (C : Addr) (cl : List (Str × Addr)) (fp : List Addr), DTs (X.blk s H scope (compEnvC scope cl C X.env) fp) ZP ifs tt)
    (he : ∀ (s : Shared) (H : Hp) (C : Addr) (cl : List (Str × Addr)) (fp : List Addr), DV (X.blk s H scope (compEnvC scope cl C X.env) fp) ZP elt te) (hs : ∀ x, foldedSetIterable iter X.env x = pure x := by intro _; rfl) :
    DS X ZP (.Assign [.Name y py] (.ListComp elt [⟨tg, iter, ifs, 0⟩] scope pos) spos) (t_asg (t_lc vs ti gt tt te) (g_name i)) := by
  subst hvs
  refine ⟨PS.imp (ps_setLc (i := i) (wi := tI X.K ZP ti) (g := tGN X.K ZP (own.map (·.2)) gt) (tt := tT X.K ZP tt) (te := tV X.K ZP te) hc hN hy hyl hsw hi.pi ok (fun s H C cl fp => (hg s H C cl fp).pg) (fun s H C cl fp => (ht s H C cl fp).pts) (fun s H C cl fp => (he s H C cl fp).pe) hs) ?_⟩
  rintro D σ H ⟨B, cs, g, R, D', q, p⟩
  refine lc_core' (ZP := ZP) ⟨B, cs, g, R, _, q, fun sv cs1 v g1 H1 q1 R1 r1 t1 s1 f1 => ?_⟩
  exact p.nx _ _ g1 H1 (R1.store q1.1 r1 fun xs a e1 e2 => ⟨(t1 xs a e1 e2).1, R.bnone (t1 xs a e1 e2).2⟩) (f1.stay R.fzow) q1.2
end
end Cl

namespace Cl
open PySem PySem.Spec PyProof.Rows L2

/-! ### a def -/
def initC (N : List Str) (svs : List SV) : CS := svs.map some ++ List.replicate (N.length - svs.length) none
def runD (t : TSD) (N : List Str) (n : Nat) : TF := fun svs Q => svs.length = n ∧ t { nx := fun _ => Q (.dat .none), rt := Q } (initC N svs)
section
variable {P : Program} {w : World} {K : PySem.W.Frag} {mg : Str → Option Value} {base : Heap} {ZP : ZT}
theorem GOk.rel {g : GW} {H : Hp} {N : List Str} {svs : List SV} {vs : List V} (G : GOk ZP.zp g H) (hb : ZP.bs (H, g)) (r : RSs K g H svs vs) (st : ∀ sv ∈ svs, settled sv = true) : Rel K ZP (H, g) g H (initC N svs) (L2.start N vs) := by
  have hl := Paired.length r
  have get : ∀ (i : Nat) (sv : SV), (initC N svs)[i]? = some (some sv) → svs[i]? = some sv := fun i sv e => by
    unfold initC at e
    by_cases hi : i < svs.length
    · rw [List.getElem?_append_left (by simpa using hi), List.getElem?_map] at e
      cases e1 : svs[i]? with
      | none => rw [e1] at e; cases e
      | some x => rw [e1] at e; cases e; rfl
    · rw [List.getElem?_append_right (by simpa using hi), List.getElem?_replicate] at e
      split at e <;> cases e
  have noOwn : ∀ (i : Nat) (xs : List PyData), (initC N svs)[i]? ≠ some (some (.own xs)) := fun i xs e => by
    have := st _ (List.mem_of_getElem? (get i _ e))
    cases this
  have pget : ∀ {svs : List SV} {vs : List V} {i : Nat} {sv : SV}, RSs K g H svs vs → svs[i]? = some sv → ∃ v, vs[i]? = some v ∧ RS K g H sv v := by
    intro svs vs i sv r
    induction r generalizing i with
    | nil => intro e; simp at e
    | cons r t ih =>
      intro e
      cases i with
      | zero => simp at e; subst e; exact ⟨_, rfl, r⟩
      | succ i => obtain ⟨v, h1, h2⟩ := ih (by simpa using e); exact ⟨v, by simpa using h1, h2⟩
  refine ⟨?_, fun i sv e => ?_, fun i j xs ys a e => absurd e (noOwn i xs), G.zok, G.fzok, .refl, fun a ⟨i, xs, e, _⟩ => absurd e (noOwn i xs), hb⟩
  · unfold initC L2.start
    simp [hl]
  · obtain ⟨v, e1, r1⟩ := pget r (get i sv e)
    refine ⟨v, ?_, r1⟩
    have hi : i < vs.length := (List.getElem?_eq_some_iff.mp e1).1
    unfold L2.start
    rw [List.getElem?_append_left (by simpa using hi), List.getElem?_map, e1]
    rfl
theorem fnD {zp : ZF} {x qual : Str} {st : Stmt} {f : Addr} {fd : FuncData} {N ps : List Str} {k : Nat} {t : TSD} (F : Fun K x qual st f fd) (S : FnScope N ps (defScope st))
    (bod : ∀ (cdv : Value) (A : Around) (outer : List Env) (s : Shared) (H : Hp) (E : XK), A.guards = some [] → Room k (A.deeper (envOfC qual (defScope st) s.heap.objs.size f cdv)) →
      DSs (cxOf CX0 P w K mg base N qual (defScope st) f cdv A outer s H E).nox ⟨zp, fun _ => True⟩ (defBody st) t) :
    FnG P w K mg base CX0 (k + 1) f fd ps (spD K zp ps.length (runD t N ps.length)) := by
  refine funG F S (fun vs H Q E h => h.1) fun cdv A outer s H vs Q E hg hr h => ?_
  refine ⟨_, (bod cdv A outer s H E hg hr).pss, ?_⟩
  obtain ⟨hl, svs, g, r, st, G, Q', ⟨_, q⟩, k⟩ := h
  refine ⟨(H, g), initC N svs, g, G.rel (ZP := ⟨zp, fun _ => True⟩) True.intro r st, _, q, ⟨fun cs' σ' g' H' R' s' q' => ?_, fun _ _ _ _ _ _ z => z.elim, fun _ _ _ _ _ _ z => z.elim, fun sv v cs' σ' g' H' R' s' r' t' q' => ?_⟩⟩
  · exact k _ .non g' H' q' ⟨R'.zok, R'.fzok⟩ .non (fun _ _ e => by cases e) R'.base
  · exact k sv v g' H' q' ⟨R'.zok, R'.fzok⟩ r' t' R'.base
end

/-! ### a slot's own list is changed -/
section
variable {K : PySem.W.Frag} {ZP : ZT} {B : Bs} {g : GW} {H : Hp} {cs : CS} {σ : L2.St}
theorem Rel.updOwn {i : Nat} {xs ys : List PyData} {a : Addr} {ws : List V} (R : Rel K ZP B g H cs σ) (e1 : cs[i]? = some (some (.own xs))) (e2 : σ[i]? = some (some (.ref a))) (r : RpAll K H g.fz ys ws) :
    Rel K ZP B g (upd H a (.lst ws)) (cs.set i (some (.own ys))) σ ∧ Frm (ow cs σ) g H g (upd H a (.lst ws)) ∧ (∀ b, ow (cs.set i (some (.own ys))) σ b → ow cs σ b) := by
  obtain ⟨v, e3, b, vs, e, h, n1, n2, q⟩ := R.slot i _ e1
  rw [e2] at e3; cases e3
  cases e
  have hi : i < cs.length := (List.getElem?_eq_some_iff.mp e1).1
  have hb : B.1 a = none := R.fresh a ⟨i, xs, e1, e2⟩
  have tups : ∀ c zs, Rd H c (.tup zs) → Rd (upd H a (.lst ws)) c (.tup zs) := fun c zs q => by
    have hne : c ≠ a := fun e => by
      subst e
      rcases q with q | ⟨o, q⟩ <;> (rw [h] at q; cases q)
    rcases q with q | ⟨o, q⟩
    · exact .inl (by rw [upd_ne hne]; exact q)
    · exact .inr ⟨o, by rw [upd_ne hne]; exact q⟩
  have any : ∀ c o, H c = some o → ∃ o', upd H a (.lst ws) c = some o' := fun c o e => by
    by_cases hp : c = a
    · subst hp; exact ⟨_, upd_same⟩
    · exact ⟨o, by rw [upd_ne hp]; exact e⟩
  have f : Frm (fun c => c = a) g H g (upd H a (.lst ws)) :=
    ⟨fun c o e _ n => by rw [upd_ne n]; exact e, fun _ h => h, fun _ _ h => h, fun _ _ _ _ h => h, fun _ _ _ h => h, tups, any⟩
  have hfz : ∀ c, g.fz c → g.zs c = none ∧ ¬ c = a := fun c z => ⟨(R.fzow c z).1, fun q => by subst q; exact n1 z⟩
  have hset : ∀ (j : Nat) (sv : SV), (cs.set i (some (.own ys)))[j]? = some (some sv) → (j = i ∧ sv = .own ys) ∨ (j ≠ i ∧ cs[j]? = some (some sv)) := fun j sv e => by
    by_cases hj : j = i
    · subst hj
      rw [List.getElem?_set_self hi] at e
      cases e; exact .inl ⟨rfl, rfl⟩
    · rw [List.getElem?_set_ne (Ne.symm hj)] at e
      exact .inr ⟨hj, e⟩
  have own2 : ∀ (j : Nat) (zs : List PyData), (cs.set i (some (.own ys)))[j]? = some (some (.own zs)) → ∃ zs', cs[j]? = some (some (.own zs')) := fun j zs e => by
    rcases hset j _ e with ⟨rfl, _⟩ | ⟨_, e⟩
    · exact ⟨xs, e1⟩
    · exact ⟨zs, e⟩
  have sub : ∀ c, ow (cs.set i (some (.own ys))) σ c → ow cs σ c := fun c ⟨j, zs, h1, h2⟩ => by
    obtain ⟨zs', h3⟩ := own2 j zs h1
    exact ⟨j, zs', h3, h2⟩
  refine ⟨⟨by rw [List.length_set]; exact R.len, fun j sv e => ?_, fun j k zs us c h1 h2 h3 h4 => ?_, fun c t z => ?_, fun c z => ?_, ?_, fun c z => R.fresh c (sub c z), R.bs⟩, f.mono fun c o _ z => by
      have z : c = a := z
      subst z; exact ⟨i, xs, e1, e2⟩, sub⟩
  · rcases hset j sv e with ⟨rfl, rfl⟩ | ⟨hj, e⟩
    · exact ⟨_, e2, a, ws, rfl, upd_same, n1, n2, r.frm f hfz⟩
    · obtain ⟨v, e3, r1⟩ := R.slot j sv e
      refine ⟨v, e3, r1.frm f hfz fun zs c e4 e5 q => ?_⟩
      have q : c = a := q
      subst q; subst e4; subst e5
      exact hj (R.sep j i zs xs c e e1 e3 e2)
  · obtain ⟨zs', h5⟩ := own2 j zs h1
    obtain ⟨us', h6⟩ := own2 k us h2
    exact R.sep j k zs' us' c h5 h6 h3 h4
  · obtain ⟨o, e, q⟩ := R.zok c t z
    refine ⟨o, ?_, q⟩
    rw [upd_ne (fun e => by subst e; rw [n2] at z; cases z)]
    exact e
  · obtain ⟨⟨o, e⟩, q⟩ := R.fzok c z
    exact ⟨any c o e, q⟩
  · have nb : ∀ c o, B.1 c = some o → c ≠ a := fun c o e z => by subst z; rw [hb] at e; cases e
    refine ⟨fun c o e z n => ?_, R.base.fzm, R.base.zsm, R.base.fzn, R.base.zsn, fun c zs q => tups c zs (R.base.tups c zs q), fun c o e => ?_⟩
    · rw [upd_ne (nb c o e)]; exact R.base.keep c o e z n
    · obtain ⟨o', e'⟩ := R.base.any c o e
      exact any c o' e'
end

/-! ### methods of a slot's list -/
section
variable {X : Cx} {ZP : ZT} {e : Expr} {x : Str} {xpos apos cpos pos : Pos} {i : Nat} {te : TVD}
def t_append (i : Nat) (te : TVD) : TVD := fun cs Q => (∃ xs, cs[i]? = some (some (.own xs))) ∧ te cs fun d cs1 => match cs1[i]? with
  | some (some (.own xs)) => xs.length < sizeLine ∧ Q .none (cs1.set i (some (.own (xs ++ [d]))))
  | _ => False
theorem ty_own {K : PySem.W.Frag} {B : Bs} {g : GW} {H : Hp} {cs : CS} {σ : L2.St} {xs : List PyData} {v : V} (R : Rel K ZP B g H cs σ) (e1 : cs[i]? = some (some (.own xs))) (e2 : σ[i]? = some (some v)) : tyV K "list" v H ∧ ∃ a vs, v = .ref a ∧ H a = some (.lst vs) ∧ RpAll K H g.fz xs vs := by
  obtain ⟨w, e3, a, vs, rfl, h, _, _, q⟩ := R.slot i _ e1
  rw [e2] at e3; cases e3
  exact ⟨.inl ⟨rfl, vs, SqL.of h⟩, a, vs, rfl, h, q⟩
theorem dv_append (hN : X.N[i]? = some x) (hv : Vis X.env.scope x) (h : DV X ZP e te) (hd : (x == ("__debug__" : Str)) = false := by decide) (hcd : (x == ("__classdict__" : Str)) = false := by decide)
    (hst : starEach [e] X.env = (false, eval e X.env) :: starEach [] X.env := by rfl) (hbase : attributeBase (.Name x xpos) "append" X.env (eval (.Name x xpos) X.env) = eval (.Name x xpos) X.env := by rfl) (hfew : ((backTo cpos (starEach [e] X.env)).all (fun x => !x.1) && (backToKw cpos (keywordEach [] X.env)).all (fun x => x.1.isSome)
      && decide (([e] : List Expr).length + ([] : List Keyword).length + (if ([] : List Keyword).isEmpty then 0 else 1) < 30)) = true := by rfl) (hline : (apos.endLine == cpos.line) = true := by rfl) :
    DV X ZP (.Call (.Attribute (.Name x xpos) "append" apos) [e] [] cpos) (t_append i te) := by
  refine ⟨PE.imp (pe_bm PySem.F.plainAttrs_list PySem.F.slot_list_append PySem.F.type_list_append mt_append (pe_var hN hv hd hcd) (pa_cons h.pe pa_nil hst) hbase hfew hline hst rfl) ?_⟩
  rintro σ H Q ⟨B, cs, g, R, Q', ⟨⟨xs, e1⟩, q⟩, k⟩
  obtain ⟨v, e2, _⟩ := R.slot i _ e1
  refine ⟨v, e2, (ty_own R e1 e2).1, B, cs, g, R, _, q, fun d cs1 u g1 H1 q1 R1 r1 s1 f1 => ?_⟩
  cases e3 : cs1[i]? with
  | none => rw [e3] at q1; exact q1.elim
  | some osv =>
    rw [e3] at q1
    match osv, e3, q1 with
    | some (.own ys), e3, q1 =>
      obtain ⟨_, a, vs, rfl, ha, ra⟩ := ty_own R1 e3 e2
      refine ⟨a, vs, u, rfl, rfl, ha, by rw [← ra.length]; exact q1.1, ?_⟩
      obtain ⟨R2, f2, s2⟩ := R1.updOwn e3 e2 (ra.append (.cons r1 .nil))
      exact k _ _ .non g1 _ q1.2 R2 .non (fun b h => s1 b (s2 b h)) (f1.trans (f2.mono fun b _ _ h => s1 b h))
def t_extend (i : Nat) (te : TVD) : TVD := fun cs Q => (∃ xs, cs[i]? = some (some (.own xs))) ∧ te cs fun d cs1 => match cs1[i]?, d with
  | some (some (.own xs)), .list ds => xs.length + ds.length ≤ sizeLine ∧ Q .none (cs1.set i (some (.own (xs ++ ds))))
  | _, _ => False
theorem dv_extend (hN : X.N[i]? = some x) (hv : Vis X.env.scope x) (h : DV X ZP e te) (hd : (x == ("__debug__" : Str)) = false := by decide) (hcd : (x == ("__classdict__" : Str)) = false := by decide)
    (hst : starEach [e] X.env = (false, eval e X.env) :: starEach [] X.env := by rfl) (hbase : attributeBase (.Name x xpos) "extend" X.env (eval (.Name x xpos) X.env) = eval (.Name x xpos) X.env := by rfl) (hfew : ((backTo cpos (starEach [e] X.env)).all (fun x => !x.1) && (backToKw cpos (keywordEach [] X.env)).all (fun x => x.1.isSome)
      && decide (([e] : List Expr).length + ([] : List Keyword).length + (if ([] : List Keyword).isEmpty then 0 else 1) < 30)) = true := by rfl) (hline : (apos.endLine == cpos.line) = true := by rfl) :
    DV X ZP (.Call (.Attribute (.Name x xpos) "extend" apos) [e] [] cpos) (t_extend i te) := by
  refine ⟨PE.imp (pe_bm PySem.F.plainAttrs_list PySem.F.slot_list_extend PySem.F.type_list_extend mt_extend (pe_var hN hv hd hcd) (pa_cons h.pe pa_nil hst) hbase hfew hline hst rfl) ?_⟩
  rintro σ H Q ⟨B, cs, g, R, Q', ⟨⟨xs, e1⟩, q⟩, k⟩
  obtain ⟨v, e2, _⟩ := R.slot i _ e1
  refine ⟨v, e2, (ty_own R e1 e2).1, B, cs, g, R, _, q, fun d cs1 u g1 H1 q1 R1 r1 s1 f1 => ?_⟩
  cases e3 : cs1[i]? with
  | none => rw [e3] at q1; exact q1.elim
  | some osv =>
    rw [e3] at q1
    match osv, d, e3, q1, r1 with
    | some (.own ys), .list ds, e3, q1, r1 =>
      obtain ⟨_, a, vs, rfl, ha, ra⟩ := ty_own R1 e3 e2
      cases r1 with
      | @lst b zs _ hf hb rb =>
        refine ⟨a, b, vs, zs, rfl, rfl, ha, hb, by rw [← ra.length, ← rb.length]; exact q1.1, ?_⟩
        obtain ⟨R2, f2, s2⟩ := R1.updOwn e3 e2 (ra.append rb)
        exact k _ _ .non g1 _ q1.2 R2 .non (fun b h => s1 b (s2 b h)) (f1.trans (f2.mono fun b _ _ h => s1 b h))
theorem RpAll.dropLast {K : PySem.W.Frag} {H : Hp} {fz : Addr → Prop} {ds : List PyData} {vs : List V} (r : RpAll K H fz ds vs) : RpAll K H fz ds.dropLast vs.dropLast := by
  rw [List.dropLast_eq_take, List.dropLast_eq_take, ← r.length]
  exact r.take _
def t_pop (i : Nat) : TVD := fun cs Q => match cs[i]? with
  | some (some (.own xs)) => (match xs.getLast? with
    | some d => Q d (cs.set i (some (.own xs.dropLast)))
    | none => False)
  | _ => False
theorem dv_pop (hN : X.N[i]? = some x) (hv : Vis X.env.scope x) (hd : (x == ("__debug__" : Str)) = false := by decide) (hcd : (x == ("__classdict__" : Str)) = false := by decide)
    (hbase : attributeBase (.Name x xpos) "pop" X.env (eval (.Name x xpos) X.env) = eval (.Name x xpos) X.env := by rfl) (hline : (apos.endLine == cpos.line) = true := by rfl) :
    DV X ZP (.Call (.Attribute (.Name x xpos) "pop" apos) [] [] cpos) (t_pop i) := by
  refine ⟨PE.imp (pe_bm0 PySem.F.plainAttrs_list PySem.F.slot_list_pop PySem.F.type_list_pop mt_pop (pe_var hN hv hd hcd) hbase hline) ?_⟩
  rintro σ H Q ⟨B, cs, g, R, Q', q, k⟩
  unfold t_pop at q
  cases e1 : cs[i]? with
  | none => rw [e1] at q; exact q.elim
  | some osv =>
    rw [e1] at q
    match osv, e1, q with
    | some (.own xs), e1, q =>
      obtain ⟨v, e2, _⟩ := R.slot i _ e1
      obtain ⟨ty, a, vs, rfl, ha, ra⟩ := ty_own R e1 e2
      cases e3 : xs.getLast? with
      | none => simp only [e3] at q
      | some d =>
        simp only [e3] at q
        rw [List.getLast?_eq_getElem?] at e3
        obtain ⟨y, e4, ry⟩ := ra.get' e3
        rw [ra.length] at e4
        refine ⟨_, e2, ty, a, vs, y, rfl, rfl, ha, e4, ?_⟩
        obtain ⟨R2, f2, s2⟩ := R.updOwn e1 e2 ra.dropLast
        exact k _ _ y g _ q R2 (Rp.frm f2 R.fzow ry) s2 f2
end
/-! x[i] = e -/
section
variable {X : Cx} {ZP : ZT} {ie : Expr} {x : Str} {xpos pos : Pos} {i : Nat} {ti : TVD}
def g_setix (i : Nat) (ti : TVD) : TGD := fun sv cs Q => (∃ xs, cs[i]? = some (some (.own xs))) ∧ match sv with
  | .dat d => ti cs fun iv cs1 => (match cs1[i]?, iv with
    | some (some (.own xs)), .int k => (match ixN xs.length k with
      | some j => Q (cs1.set i (some (.own (xs.set j d))))
      | none => False)
    | _, _ => False)
  | _ => False
theorem dg_setix (hN : X.N[i]? = some x) (hv : Vis X.env.scope x) (h : DV X ZP ie ti) (hd : (x == ("__debug__" : Str)) = false := by decide) (hcd : (x == ("__classdict__" : Str)) = false := by decide)
    (ha : ∀ v, assign (.Subscript (.Name x xpos) ie pos) X.env v = (do
      let ov ← holding [v] (eval (.Name x xpos) X.env)
      let iv ← holding [v, ov] (eval ie X.env)
      standAt pos
      holding [v, ov, iv] (setItem ov iv v)
      release [v, ov, iv] []) := by intro _; rfl) : DG X ZP (.Subscript (.Name x xpos) ie pos) (g_setix i ti) := by
  refine ⟨PG.imp (pg_sub (pe_var hN hv hd hcd) h.pe set_list ha) ?_⟩
  rintro v σ H Q ⟨B, cs, g, sv, R, r, n, Q', ⟨⟨xs0, e0⟩, q⟩, k⟩
  cases sv with
  | own _ => exact q.elim
  | raw _ => exact q.elim
  | scr _ => exact q.elim
  | exc _ _ _ _ => exact q.elim
  | dat d =>
    obtain ⟨u, e2, _⟩ := R.slot i _ e0
    refine ⟨u, e2, B, cs, g, R, _, q, fun iv cs1 w g1 H1 q1 R1 r1 s1 f1 => ?_⟩
    cases e3 : cs1[i]? with
    | none => rw [e3] at q1; exact q1.elim
    | some osv =>
      rw [e3] at q1
      match osv, iv, e3, q1, r1 with
      | some (.own ys), .int kk, e3, q1, r1 =>
        obtain ⟨_, a, vs, rfl, ha, ra⟩ := ty_own R1 e3 e2
        cases r1
        cases e4 : ixN ys.length kk with
        | none => simp only [e4] at q1
        | some j =>
          simp only [e4] at q1
          refine ⟨a, vs, kk, j, rfl, rfl, ha, by rw [← ra.length]; exact e4, ?_⟩
          obtain ⟨R2, f2, s2⟩ := R1.updOwn e3 e2 (RpAll.set (Rp.frm f1 R.fzow r) j ra)
          exact k _ σ g1 _ q1 R2 ((f1.stay R.fzow).trans (f2.stay R1.fzow))
end

/-! ### while -/
def t_while (tc : TTD) (tb : TSD) : TSD := fun D cs => ∃ W : Nat → CS → Prop, (∃ m, W m cs) ∧ ∀ m cs, W m cs → tc cs fun b cs1 => if b = true then tb { nx := fun cs' => ∃ m', m' < m ∧ W m' cs', rt := D.rt, bk := D.nx, ct := fun cs' => ∃ m', m' < m ∧ W m' cs' } cs1 else D.nx cs1
section
variable {X : Cx} {ZP : ZT} {c : Expr} {body : List Stmt} {pos : Pos} {tc : TTD} {tb : TSD}
theorem ds_while (hp : PassesOwn (model X.prog X.w) X.A X.env X.xe) (hc : DT X ZP c tc) (hb : DSs X ZP body tb) : DS X ZP (.While c body [] pos) (t_while tc tb) := by
  refine ⟨PS.imp (ps_while hp hc.pt hb.pss) ?_⟩
  rintro D σ H ⟨B, cs, g, R, D', ⟨W, ⟨m0, w0⟩, turn⟩, p⟩
  refine ⟨fun m σ' H' => ∃ cs' g', Rel X.K ZP B g' H' cs' σ' ∧ Stay g H g' H' ∧ W m cs', ⟨m0, cs, g, R, .refl, w0⟩, ?_⟩
  rintro m σ1 H1 ⟨cs1, g1, R1, st1, w1⟩
  refine ⟨B, cs1, g1, R1, _, turn m cs1 w1, fun b cs2 g2 H2 q2 R2 s2 f2 => ?_⟩
  have st2 : Stay g H g2 H2 := st1.trans (f2.stay R1.fzow)
  cases b with
  | true =>
    rw [if_pos rfl] at q2
    refine iteT ?_
    refine ⟨fun σ' H' => ∃ m', m' < m ∧ ∃ cs' g', Rel X.K ZP B g' H' cs' σ' ∧ Stay g H g' H' ∧ W m' cs', fun σ' H' ⟨m', h, z⟩ => ⟨m', h, z⟩, ?_⟩
    refine ⟨B, cs2, g2, R2, _, q2, ⟨fun cs' σ' g' H' R' s' ⟨m', h, w'⟩ => ⟨m', h, cs', g', R', st2.trans s', w'⟩, fun cs' σ' g' H' R' s' q' => p.nx cs' σ' g' H' R' (st2.trans s') q',
      fun cs' σ' g' H' R' s' ⟨m', h, w'⟩ => ⟨m', h, cs', g', R', st2.trans s', w'⟩, fun sv v cs' σ' g' H' R' s' r' t' q' => p.rt sv v cs' σ' g' H' R' (st2.trans s') r' t' q'⟩⟩
  | false =>
    rw [if_neg Bool.false_ne_true] at q2
    refine iteF ?_
    exact p.nx cs2 σ1 g2 H2 R2 st2 q2
end

/-! ### calls with keywords -/
section
variable {X : Cx} {ZP : ZT} {k n : Nat} {f : Addr} {fd : FuncData} {ps ks : List Str} {x : Str} {p pos : Pos} {e : Expr} {es : List Expr} {kws : List Keyword} {C : TF} {t tk : TSA}
variable {gg : List Value → List Value → List Value} {gV : List V → List V → List V} {gS : List SV → List SV → List SV}
def t_callK (gS : List SV → List SV → List SV) (m mk : Nat) (C : TF) (t tk : TSA) : TD := fun cs Q => t cs fun svs cs1 => tk cs1 fun zvs cs2 => (svs.length = m ∧ zvs.length = mk) ∧ C (gS svs zvs) fun sv => Q sv cs2
/-- how data goes to the parameters -/
def SRel (gV : List V → List V → List V) (gS : List SV → List SV → List SV) : Prop := ∀ (K : PySem.W.Frag) (g : GW) (H : Hp) (svs zvs : List SV) (vs zs : List V), RSs K g H svs vs → RSs K g H zvs zs →
  RSs K g H (gS svs zvs) (gV vs zs) ∧ ((∀ sv ∈ svs, settled sv = true) → (∀ sv ∈ zvs, settled sv = true) → ∀ sv ∈ gS svs zvs, settled sv = true)
theorem de_callK0 (F : FnG X.prog X.w X.K X.mg X.base CX0 k f fd ps (spD X.K ZP.zp n C)) (hgd : X.A.guards = some []) (hr : Room k X.A) (hg : Gl X x) (hm : X.mg x = some (.ref f)) (hk : PySem.W.keepIn X.K (.ref f) = true)
    (hb : KBd X.K fd ps ks 0 gg) (hrel : KRel gV gg) (hS : SRel gV gS) (hn : ∀ zs : List V, zs.length = ks.length → (gV [] zs).length = n)
    (hkw : DK X ZP kws tk) (hall : (backToKw pos (keywordEach kws X.env)).all (·.1.isSome) = true := by rfl) (hks : (backToKw pos (keywordEach kws X.env)).filterMap (·.1) = ks := by rfl)
    (hdb : (x == ("__debug__" : Str)) = false := by decide)
    (hpl : ((backTo pos (starEach [] X.env)).any (·.1) || (backToKw pos (keywordEach kws X.env)).any (·.1.isNone)) = false := by rfl) :
    DE X ZP (.Call (.Name x p) [] kws pos) (t_callK gS 0 ks.length C t_anil tk) := by
  refine ⟨PE.imp (pe_callGK0 F hgd hr hg hm hk hb hrel pass0 hkw.pk hall hks hdb hpl) ?_⟩
  rintro σ H Q ⟨B, cs, g, R, Q', q, kk⟩
  show tA X.K ZP tk σ H _
  refine ⟨B, cs, g, R, _, q, fun svs cs1 vs g1 H1 q1 R1 r1 st s1 f1 => ?_⟩
  have hl : vs.length = ks.length := by rw [← Paired.length r1]; exact q1.1.2
  obtain ⟨r2, st2⟩ := hS X.K g1 H1 [] svs [] vs .nil r1
  refine ⟨rfl, hl, ?_⟩
  refine call_fin R1 r2 (st2 (fun _ z => by cases z) st) (hn vs hl) q1.2 (fun sv v g' H' q' R' r' t' f' => ?_) _
  exact kk sv cs1 v g' H' q' R' r' (t'.back f1) s1 (f1.trans (f'.mono fun _ _ _ z => z.elim))
theorem de_callK (F : FnG X.prog X.w X.K X.mg X.base CX0 k f fd ps (spD X.K ZP.zp n C)) (hgd : X.A.guards = some []) (hr : Room k X.A) (hg : Gl X x) (hm : X.mg x = some (.ref f)) (hk : PySem.W.keepIn X.K (.ref f) = true) {m : Nat}
    (hb : KBd X.K fd ps ks m gg) (hrel : KRel gV gg) (hS : SRel gV gS) (hn : ∀ vs zs : List V, vs.length = m → zs.length = ks.length → (gV vs zs).length = n)
    (ha : DA X ZP (e :: es) t) (hkw : DK X ZP kws tk) (hall : (backToKw pos (keywordEach kws X.env)).all (·.1.isSome) = true := by rfl) (hks : (backToKw pos (keywordEach kws X.env)).filterMap (·.1) = ks := by rfl)
    (hdb : (x == ("__debug__" : Str)) = false := by decide) (he : starEach (e :: es) X.env = (false, eval e X.env) :: starEach es X.env := by rfl)
    (hpl : ((backTo pos (starEach (e :: es) X.env)).any (·.1) || (backToKw pos (keywordEach kws X.env)).any (·.1.isNone)) = false := by rfl) :
    DE X ZP (.Call (.Name x p) (e :: es) kws pos) (t_callK gS m ks.length C t tk) := by
  refine ⟨PE.imp (pe_callGK F hgd hr hg hm hk hb hrel pass0 ha.pa hkw.pk hall hks hdb he hpl) ?_⟩
  rintro σ H Q ⟨B, cs, g, R, Q', q, kk⟩
  refine ⟨B, cs, g, R, _, q, fun svs cs1 vs g1 H1 q1 R1 r1 st s1 f1 => ?_⟩
  refine ⟨B, cs1, g1, R1, _, q1, fun zvs cs2 zs g2 H2 q2 R2 r2 st2 s2 f2 => ?_⟩
  have l1 : vs.length = m := by rw [← Paired.length r1]; exact q2.1.1
  have l2 : zs.length = ks.length := by rw [← Paired.length r2]; exact q2.1.2
  obtain ⟨r3, st3⟩ := hS X.K g2 H2 svs zvs vs zs (RSs.frm f2 R1.fzow st r1) r2
  refine ⟨l1, l2, ?_⟩
  have f12 : Frm (ow cs σ) g H g2 H2 := f1.trans (f2.mono fun a _ _ h => s1 a h)
  refine call_fin R2 r3 (st3 st st2) (hn vs zs l1 l2) q2.2 (fun sv v g' H' q' R' r' t' f' => ?_) _
  exact kk sv cs2 v g' H' q' R' r' (t'.back f12) (fun a h => s1 a (s2 a h)) (f12.trans (f'.mono fun _ _ _ z => z.elim))
end
end Cl

/-! the rules with their side conditions filled in -/
namespace Cl
open PySem PySem.Spec PyProof.Rows L2
section
variable {X : Cx} {ZP : ZT} {x : Str} {pos : Pos}
theorem dln (i : Nat) (hN : X.N[i]? = some x := by rfl) (hv : Vis X.env.scope x := by first | exact Or.inl rfl | exact Or.inr (Or.inl rfl) | exact Or.inr (Or.inr rfl)) (hd : (x == ("__debug__" : Str)) = false := by decide)
    (hcd : (x == ("__classdict__" : Str)) = false := by decide) : DL X ZP (.Name x pos) (t_lname i) := dl_name hN hv hd hcd
theorem den (i : Nat) (hN : X.N[i]? = some x := by rfl) (hv : Vis X.env.scope x := by first | exact Or.inl rfl | exact Or.inr (Or.inl rfl) | exact Or.inr (Or.inr rfl)) (hd : (x == ("__debug__" : Str)) = false := by decide)
    (hcd : (x == ("__classdict__" : Str)) = false := by decide) : DE X ZP (.Name x pos) (t_name i) := de_name hN hv hd hcd
theorem dsrn {p2 : Pos} (i : Nat) (hN : X.N[i]? = some x := by rfl) (hv : Vis X.env.scope x := by first | exact Or.inl rfl | exact Or.inr (Or.inl rfl) | exact Or.inr (Or.inr rfl)) (hd : (x == ("__debug__" : Str)) = false := by decide)
    (hcd : (x == ("__classdict__" : Str)) = false := by decide) : DS X ZP (.Return (some (.Name x p2)) pos) (t_retn i) := ds_retn hN hv hd hcd
theorem dgm (i : Nat) (hN : X.N.Nodup) (hi : X.N[i]? = some x := by rfl) (hx : Loc X.env.scope x := by first | exact Or.inl rfl | exact Or.inr rfl) (hf : X.fn x = true ∨ X.env.scope.names.lookup x = some .local := by first | exact .inl rfl | exact .inr rfl) : DG X ZP (.Name x pos) (g_name i) := dg_name hN hi hx hf
theorem dgb (i : Nat) {vs : List Nat} (hN : X.N.Nodup) (hv : i ∈ vs := by decide) (hi : X.N[i]? = some x := by rfl) (hx : Loc X.env.scope x := by first | exact Or.inl rfl | exact Or.inr rfl) (hf : X.fn x = true ∨ X.env.scope.names.lookup x = some .local := by first | exact .inl rfl | exact .inr rfl) : DGN X ZP vs (.Name x pos) (g_name i) := dgn_name hv hN hi hx hf
variable {e : Expr} {te : TVD} {xpos apos cpos : Pos}
theorem dvap (i : Nat) (h : DV X ZP e te) (hN : X.N[i]? = some x := by rfl) (hv : Vis X.env.scope x := by first | exact Or.inl rfl | exact Or.inr (Or.inl rfl) | exact Or.inr (Or.inr rfl)) (hd : (x == ("__debug__" : Str)) = false := by decide)
    (hcd : (x == ("__classdict__" : Str)) = false := by decide) (hst : starEach [e] X.env = (false, eval e X.env) :: starEach [] X.env := by rfl) (hbase : attributeBase (.Name x xpos) "append" X.env (eval (.Name x xpos) X.env) = eval (.Name x xpos) X.env := by rfl)
    (hfew : ((backTo cpos (starEach [e] X.env)).all (fun x => !x.1) && (backToKw cpos (keywordEach [] X.env)).all (fun x => x.1.isSome)
      && decide (([e] : List Expr).length + ([] : List Keyword).length + (if ([] : List Keyword).isEmpty then 0 else 1) < 30)) = true := by rfl) (hline : (apos.endLine == cpos.line) = true := by rfl) :
    DV X ZP (.Call (.Attribute (.Name x xpos) "append" apos) [e] [] cpos) (t_append i te) := dv_append hN hv h hd hcd hst hbase hfew hline
theorem dvex (i : Nat) (h : DV X ZP e te) (hN : X.N[i]? = some x := by rfl) (hv : Vis X.env.scope x := by first | exact Or.inl rfl | exact Or.inr (Or.inl rfl) | exact Or.inr (Or.inr rfl)) (hd : (x == ("__debug__" : Str)) = false := by decide)
    (hcd : (x == ("__classdict__" : Str)) = false := by decide) (hst : starEach [e] X.env = (false, eval e X.env) :: starEach [] X.env := by rfl) (hbase : attributeBase (.Name x xpos) "extend" X.env (eval (.Name x xpos) X.env) = eval (.Name x xpos) X.env := by rfl)
    (hfew : ((backTo cpos (starEach [e] X.env)).all (fun x => !x.1) && (backToKw cpos (keywordEach [] X.env)).all (fun x => x.1.isSome)
      && decide (([e] : List Expr).length + ([] : List Keyword).length + (if ([] : List Keyword).isEmpty then 0 else 1) < 30)) = true := by rfl) (hline : (apos.endLine == cpos.line) = true := by rfl) :
    DV X ZP (.Call (.Attribute (.Name x xpos) "extend" apos) [e] [] cpos) (t_extend i te) := dv_extend hN hv h hd hcd hst hbase hfew hline
theorem dvpop (i : Nat) (hN : X.N[i]? = some x := by rfl) (hv : Vis X.env.scope x := by first | exact Or.inl rfl | exact Or.inr (Or.inl rfl) | exact Or.inr (Or.inr rfl)) (hd : (x == ("__debug__" : Str)) = false := by decide)
    (hcd : (x == ("__classdict__" : Str)) = false := by decide) (hbase : attributeBase (.Name x xpos) "pop" X.env (eval (.Name x xpos) X.env) = eval (.Name x xpos) X.env := by rfl) (hline : (apos.endLine == cpos.line) = true := by rfl) :
    DV X ZP (.Call (.Attribute (.Name x xpos) "pop" apos) [] [] cpos) (t_pop i) := dv_pop hN hv hd hcd hbase hline
end
end Cl

namespace Cl
open PySem PySem.Spec PyProof.Rows L2

/-! ### -x -/
section
variable {X : Cx} {ZP : ZT} {e e2 : Expr} {pos : Pos} {ta tb : TLD} {va vb : TVD}
def t_neg (ta : TLD) : TVD := fun cs Q => ta cs fun l cs1 => match l.get cs1 with
  | some (.int i) => Q (.int (-i)) cs1
  | _ => False
theorem dv_neg (h : DL X ZP e ta) : DV X ZP (.UnaryOp .USub e pos) (t_neg ta) := by
  refine ⟨PE.imp (pe_un un_neg h.pe) ?_⟩
  rintro σ H Q ⟨B, cs, g, R, Q', q, k⟩
  refine ⟨B, cs, g, R, _, q, fun l cs1 v g1 H1 q1 R1 r1 s1 f1 => ?_⟩
  cases e1 : l.get cs1 with
  | none => rw [e1] at q1; exact q1.elim
  | some d =>
    rw [e1] at q1
    cases d with
    | int i => exact ⟨i, (r1.rb R1 e1).int, k _ cs1 _ g1 H1 q1 R1 (.int _) s1 f1⟩
    | _ => exact q1.elim

/-! ### ( *a, b) -/
def t_star1 (va vb : TVD) : TVD := fun cs Q => va cs fun d cs1 => match seqOf d with
  | some ds => vb cs1 fun e cs2 => ds.length < sizeLine ∧ Q (.tuple (ds ++ [e])) cs2
  | none => False
theorem dv_star1 {p : Pos} {k : Nat} (ha : DV X ZP e va) (hb : DV X ZP e2 vb) (hs : starEach [.Starred e p, e2] X.env = (true, eval e X.env) :: starEach [e2] X.env := by rfl) (hs2 : starEach [e2] X.env = (false, eval e2 X.env) :: starEach [] X.env := by rfl) :
    DV X ZP (.Tuple [.Starred e p, e2] k pos) (t_star1 va vb) := by
  refine ⟨PE.imp (pe_tup (StX.pa_star ha.pe (pa_cons hb.pe pa_nil hs2) hs)) ?_⟩
  rintro σ H Q ⟨B, cs, g, R, Q', q, k⟩
  refine ⟨B, cs, g, R, _, q, fun d cs1 v g1 H1 q1 R1 r1 s1 f1 => ?_⟩
  cases e1 : seqOf d with
  | none => rw [e1] at q1; exact q1.elim
  | some ds =>
    rw [e1] at q1
    obtain ⟨kk, a, xs, rfl, ra, hS, hst⟩ := Rp.src r1 e1
    refine ⟨a, xs, rfl, ?_, B, cs1, g1, R1, _, q1, fun d2 cs2 u g2 H2 q2 R2 r2 s2 f2 => ?_⟩
    · cases kk with
      | lst => exact .inr (SqL.of hS)
      | tup => exact .inl hS
    · have ra2 := ra.frm f2 R1.fzow
      refine ⟨by rw [List.length_append, ← ra2.length]; exact q2.1, fun p hp => ?_⟩
      obtain ⟨R3, r3, t3, f3⟩ := (Res.tup hp (ra2.append (.cons r2 .nil))).fin R2
      exact k _ cs2 _ g2 _ q2.2 R3 r3 (fun a h => s1 a (s2 a h)) ((f1.trans (f2.mono fun a _ _ h => s1 a h)).trans (f3.mono fun a _ _ h => s1 a (s2 a h)))

/-! ### a, b = x, y -/
def t_par (i j : Nat) (ta tb : TD) : TSD := fun D cs => ta cs fun sv cs1 => tb cs1 fun sw cs2 => i < cs2.length ∧ j < cs2.length ∧ D.nx ((cs2.set i (some sv)).set j (some sw))
theorem ds_par {i j : Nat} {x y : Str} {a b : Expr} {td te : TD} {px py pt : Pos} {kt k2 : Nat} {pt2 : Pos} (hc : X.calm = true) (hN : X.N.Nodup) (hi : X.N[i]? = some x) (hj : X.N[j]? = some y) (hij : i ≠ j)
    (hx : X.env.scope.names.lookup x = some .local) (hy : X.env.scope.names.lookup y = some .local) (ha : DE X ZP a td) (hb : DE X ZP b te)
    (hw : swappedStores [.Tuple [.Name x px, .Name y py] kt pt] (.Tuple [a, b] k2 pt2) X.env = pure (some [x, y]) := by rfl)
    (hs : swapsWithSole [.Tuple [.Name x px, .Name y py] kt pt] (.Tuple [a, b] k2 pt2) pos.line X.env = pure false := by rfl)
    (hs1 : starEach [a, b] X.env = (false, eval a X.env) :: starEach [b] X.env := by rfl) (hs2 : starEach [b] X.env = (false, eval b X.env) :: starEach [] X.env := by rfl) :
    DS X ZP (.Assign [.Tuple [.Name x px, .Name y py] kt pt] (.Tuple [a, b] k2 pt2) pos) (t_par i j td te) := by
  refine ⟨PS.imp (ps_par hc hN hi hj hij hx hy (pa_cons ha.pe (pa_cons hb.pe pa_nil hs2) hs1) hw hs) ?_⟩
  rintro D σ H ⟨B, cs, g, R, D', q, p⟩
  refine ⟨B, cs, g, R, _, q, fun sv cs1 v g1 H1 q1 R1 r1 t1 s1 f1 => ?_⟩
  refine ⟨B, cs1, g1, R1, _, q1, fun sw cs2 u g2 H2 q2 R2 r2 t2 s2 f2 => ?_⟩
  obtain ⟨l1, l2, q2⟩ := q2
  refine ⟨v, u, rfl, ?_⟩
  have n1 : ∀ xs a, sv = .own xs → v = .ref a → ¬ ow cs1 σ a := fun xs a e1 e2 => (t1 xs a e1 e2).1
  have R3 := R2.store l1 (r1.frm f2 R1.fzow n1) fun xs a e1 e2 => ⟨fun z => n1 xs a e1 e2 (s2 a z), R.bnone (t1 xs a e1 e2).2⟩
  have R4 := R3.store (i := j) (by rw [List.length_set]; exact l2) r2 fun xs a e1 e2 => ⟨fun z => ?_, R1.bnone (t2 xs a e1 e2).2⟩
  · exact p.nx _ _ g2 H2 R4 ((f1.stay R.fzow).trans (f2.stay R1.fzow)) q2
  · obtain ⟨m, ys, h1, h2⟩ := z
    obtain ⟨n2, n3⟩ := t2 xs a e1 e2
    by_cases hm : m = i
    · subst hm
      rw [List.getElem?_set_self l1] at h1
      rw [List.getElem?_set_self (by rw [← R2.len]; exact l1)] at h2
      cases h1; cases h2
      obtain ⟨b', vs, e3, h, _⟩ := r1
      cases e3
      rw [n3] at h; cases h
    · rw [List.getElem?_set_ne (Ne.symm hm)] at h1 h2
      exact n2 ⟨m, ys, h1, h2⟩
end

/-! ### str(x) -/
def strX : C1X := fun d Q => match d with
  | .str s => Q (.dat (.str s))
  | .none => False
  | .bool _ => False
  | d => reprOk d ∧ Q (.dat (.str d.shown))
section
variable {X : Cx}
theorem c_str (hg : X.A.guards = some []) (hu : X.A.units + 64 < cLine) : CallR X (.type "str") (rC1 X.K strX) := by
  rintro pins s σ H xs us Q I r ⟨x, fz, d, rfl, hd, Q', q, k⟩
  obtain ⟨u, rfl, ru⟩ := vals1 r
  have done : ∀ (h' : Heap) (t tk : Nat), (∀ b o, s.heap.get? b = some o → h'.get? b = some o) → Q' (.dat (.str d.shown)) → EP X pins σ Q (.str d.shown t) { s with heap := h', toks := tk } := fun h' t tk hk q =>
    ⟨.str _, H, I.kept hk, ⟨t, rfl⟩, k _ _ _ q (.same (.str _))⟩
  have ref : ∀ a, u = Value.ref a → reprOk d ∧ Q' (.dat (.str d.shown)) → wpAny (model X.prog X.w) X.A (call (.type "str") [u]) (EP X pins σ Q) X.xe s := fun a e ⟨⟨z1, z2, z3, z4⟩, q⟩ => by
    obtain ⟨as, rd, hs⟩ := RB.reads I hd ru
    subst e
    exact str_of_reads rd z1 (fun h => hs (z2 h)) hg (by omega) (fun _ _ e => e) (fun h' u tk hk => done h' u tk hk q) z4
  cases d with
  | none => exact q.elim
  | bool b => exact q.elim
  | int i =>
    cases hd.int
    obtain ⟨t, rfl⟩ := ru
    exact PySem.P.str_of_int (by simpa [PyData.showable] using q.1.1) (done s.heap _ _ (fun _ _ e => e) q.2)
  | str x =>
    cases hd.str
    obtain ⟨t, rfl⟩ := ru
    exact PySem.P.str_of_str ⟨.str _, H, I, ⟨t, rfl⟩, k _ _ _ q (.same (.str _))⟩
  | list ds => obtain ⟨a, vs, rfl, _⟩ := hd.lst; exact ref a ru q
  | tuple ds => obtain ⟨a, vs, rfl, _⟩ := hd.tup; exact ref a ru q
  | dict ds => obtain ⟨a, es, ks, vs, rfl, _⟩ := hd; exact ref a ru q
end
end Cl

namespace Cl
open PySem PySem.Spec PyProof.Rows L2

section
variable {K : PySem.W.Frag} {ZP : ZT} {B : Bs} {g : GW} {H : Hp} {cs : CS} {σ : L2.St} {w : Addr → Prop} {p : Addr} {o : HO}
theorem Frm.newFz (hp : H p = none) : Frm w g H (g.freeze p) (upd H p o) := (Frm.laid hp).freezeTmp hp
/-- a new object, frozen at once -/
theorem Rel.newFz (R : Rel K ZP B g H cs σ) (hp : H p = none) : Rel K ZP B (g.freeze p) (upd H p o) cs σ := by
  refine R.go (Frm.newFz hp) (fun a t h => ?_) fun a h => ?_
  · obtain ⟨u, e, q⟩ := R.zok a t h
    exact ⟨u, by rw [upd_ne (ne_of_none e hp)]; exact e, q⟩
  · rcases h with h | h
    · obtain ⟨⟨u, e⟩, q⟩ := R.fzok a h
      exact ⟨⟨u, by rw [upd_ne (ne_of_none e hp)]; exact e⟩, q⟩
    · subst h
      exact ⟨⟨o, upd_same⟩, (R.nofz hp).2⟩
end
section
variable {K : PySem.W.Frag} {ZP : ZT} {B : Bs} {g : GW} {H : Hp} {cs : CS} {σ : L2.St} {p : Addr} {o o' : HO}
/-- a thing that no one has yet is changed, and frozen -/
theorem Rel.updFz (R : Rel K ZP B g H cs σ) (h : H p = some o) (ht : ∀ xs, ¬ Rd H p (.tup xs)) (n1 : ¬ g.fz p) (n2 : g.zs p = none) (n3 : ¬ ow cs σ p) (hb : B.1 p = none) :
    Rel K ZP B (g.freeze p) (upd H p o') cs σ ∧ Frm (fun a => a = p) g H (g.freeze p) (upd H p o') := by
  have tups : ∀ a xs, Rd H a (.tup xs) → Rd (upd H p o') a (.tup xs) := fun a xs q => by
    have hne : a ≠ p := fun e => by
      subst e
      exact ht xs q
    rcases q with q | ⟨o, q⟩
    · exact .inl (by rw [upd_ne hne]; exact q)
    · exact .inr ⟨o, by rw [upd_ne hne]; exact q⟩
  have any : ∀ a u, H a = some u → ∃ u', upd H p o' a = some u' := fun a u e => by
    by_cases hp : a = p
    · subst hp; exact ⟨_, upd_same⟩
    · exact ⟨u, by rw [upd_ne hp]; exact e⟩
  have f : Frm (fun a => a = p) g H (g.freeze p) (upd H p o') :=
    ⟨fun a u e _ n => by rw [upd_ne n]; exact e, fun _ h => .inl h, fun _ _ h => h, fun a u e n q => q.elim id fun z => absurd z n, fun _ _ _ h => h, tups, any⟩
  refine ⟨⟨R.len, fun i sv e => ?_, R.sep, fun a t z => ?_, fun a z => ?_, ?_, R.fresh, R.bs⟩, f⟩
  · obtain ⟨v, e1, r⟩ := R.slot i sv e
    refine ⟨v, e1, r.frm f (fun a z => ⟨(R.fzow a z).1, fun q => ?_⟩) fun xs a e2 e3 q => ?_⟩
    · have q : a = p := q
      subst q; exact n1 z
    · have q : a = p := q
      subst q; subst e2; subst e3
      exact n3 ⟨i, xs, e, e1⟩
  · obtain ⟨u, e, q⟩ := R.zok a t z
    refine ⟨u, ?_, q⟩
    have z2 : g.zs a = some t := z
    rw [upd_ne (fun e => by subst e; rw [n2] at z2; cases z2)]
    exact e
  · rcases z with z | z
    · obtain ⟨⟨u, e⟩, q⟩ := R.fzok a z
      exact ⟨any a u e, q⟩
    · subst z; exact ⟨⟨_, upd_same⟩, n2⟩
  · have nb : ∀ a u, B.1 a = some u → a ≠ p := fun a u e z => by subst z; rw [hb] at e; cases e
    refine ⟨fun a u e z n => ?_, fun a h => .inl (R.base.fzm a h), R.base.zsm, fun a u e n q => q.elim (R.base.fzn a u e n) fun z => absurd z (nb a u e), R.base.zsn, fun a xs q => tups a xs (R.base.tups a xs q), fun a u e => ?_⟩
    · rw [upd_ne (nb a u e)]; exact R.base.keep a u e z n
    · obtain ⟨u', e'⟩ := R.base.any a u e
      exact any a u' e'
end
/-! ### {} -/
section
variable {X : Cx} {ZP : ZT} {pos : Pos}
theorem ext_dict {P : Program} {w : World} {H : Hp} {h : Heap} {a : Addr} {es : List DictEntry} (d : DictHas a es h) : ObjOk P w H h a (.ext (DictHas a es)) :=
  ⟨d, let ⟨_, o, ep, e, _⟩ := d; ⟨o, e⟩, fun h1 h2 ⟨n, o, ep, e, r⟩ k => ⟨n, o, ep, k o e, r⟩⟩
def t_dict0 : TVD := fun cs Q => Q (.dict []) cs
theorem dv_dict0 : DV X ZP (.Dict [] [] pos) t_dict0 := by
  refine ⟨⟨fun pins s σ H Q I h => ?_⟩⟩
  obtain ⟨B, cs, g, R, Q', q, k⟩ := h
  have hn := I.hok.fresh (Nat.le_refl s.heap.objs.size)
  have hd : DictHas s.heap.objs.size [] (s.heap.push { cls := .type "dict", data := .dict #[] }) :=
    ⟨Ne.symm (Nat.ne_of_lt I.big), _, 0, Heap.get?_push_size _ rfl, ⟨rfl, rfl, rfl⟩, rfl⟩
  refine wpAny_Dict_empty ⟨.ref s.heap.objs.size, _, I.laid (a := s.heap.objs.size) (o := .ext (DictHas s.heap.objs.size [])) (t' := s.toks) (fun _ _ q => Heap.get?_push_of_some _ q) (Nat.le_refl _) (ext_dict hd), rfl, ?_⟩
  exact k _ cs _ (g.freeze s.heap.objs.size) _ q (R.newFz hn) (.dct (kvs := []) (.inr rfl) upd_same .nil .nil .nil .nil) (fun _ h => h) (Frm.newFz hn)
end

/-! ### {t: v}, t a tuple of ints -/
theorem ints_key {prog : Program} {w : World} : ∀ {ns : List Int} {us : List Value}, Vals (ns.map V.int) us → ItemsAre (intKind prog w) ns us
  | [], _, .nil => .nil
  | n :: ns, _, .cons ⟨t, e⟩ r => by
    subst e
    exact .cons (intKind_is _ _ _ _) (ints_key r)
section
variable {prog : Program} {w : World} {K : Type} [DecidableEq K] {knd : HeapKind prog w K} {A : Around} {E : Value → Shared → Prop} {s : Shared}
theorem dict1_h {env : Env} {k v : Expr} {pos : Pos} {Q : Value → Shared → Prop} (hu : knd.room A)
    (h : wpAny (model prog w) A (evalPairs (pairTrees [some k] [v] env pos)) (fun vs s₁ => ∃ ps, CarriesH knd s₁.heap vs ps ∧ s₁.heap.DictOfH knd s.heap.objs.size [] ∧
      ∀ h' tk, h'.DictOfH knd s.heap.objs.size (storedAllH [] ps) → Heap.SameBut s.heap.objs.size s₁.heap h' → Q (.ref s.heap.objs.size) { s₁ with heap := h', toks := tk }) E
      { s with heap := s.heap.push { cls := .type "dict", data := .dict #[] } }) :
    wpAny (model prog w) A (eval (.Dict [some k] [v] pos) env) Q E s := by
  rw [arm_eval_Dict, zip_pairTrees [some k] [v] env pos rfl rfl, dictDisplay_pairs (pairTrees [some k] [v] env pos) (by simp [pairTrees]) (by simp [pairTrees])]
  exact wpAny_bind (wpAny_standAt (wpAny_bind (wpAny_subDictH (knd := knd) (Q := fun d s' => wpAny (model prog w) A (pure (Value.ref d)) Q E s') hu (by simp [pairTrees])
    (wpAny_mono h (fun vs s₁ ⟨ps, hc, hm, hq⟩ => ⟨ps, hc, hm, fun h' tk a b => wpAny_pure (hq h' tk a b)⟩) fun _ _ e => e))))
end
section
variable {X : Cx} {ZP : ZT} {pos : Pos} {ke ve : Expr} {tk tv : TVD}
def t_dict1 (tk tv : TVD) : TVD := fun cs Q => tk cs fun d cs1 => tv cs1 fun e cs2 => match d with
  | .tuple ds => (∃ ns : List Int, ds = ns.map .int) ∧ Q (.dict [(d, e)]) cs2
  | _ => False
theorem rps_ints {K : PySem.W.Frag} {H : Hp} {fz : Addr → Prop} : ∀ {ns : List Int} {vs : List V}, RpAll K H fz (ns.map .int) vs → vs = ns.map V.int
  | [], _, .nil => rfl
  | n :: ns, _, .cons r t => by
    cases r
    rw [rps_ints t]; rfl
theorem dv_dict1 (hu : X.A.units + 64 < cLine) (hk : DV X ZP ke tk) (hv : DV X ZP ve tv) : DV X ZP (.Dict [some ke] [ve] pos) (t_dict1 tk tv) := by
  refine ⟨⟨fun pins s σ H Q I h => ?_⟩⟩
  obtain ⟨B, cs, g, R, Q', q, k⟩ := h
  have hn := I.hok.fresh (Nat.le_refl s.heap.objs.size)
  have hne : s.heap.objs.size ≠ sysModules := Ne.symm (Nat.ne_of_lt I.big)
  generalize hD : s.heap.objs.size = D at hn hne
  have hd : DictHas D [] (s.heap.push { cls := .type "dict", data := .dict #[] }) :=
    ⟨hne, _, 0, by rw [← hD]; exact Heap.get?_push_size _ rfl, ⟨rfl, rfl, rfl⟩, rfl⟩
  have I1 : L2.Inv X pins σ (upd H D (.ext (DictHas D []))) { s with heap := s.heap.push { cls := .type "dict", data := .dict #[] } } :=
    I.laid (t' := s.toks) (fun _ _ q => Heap.get?_push_of_some _ q) (by rw [← hD]; exact Nat.le_refl _) (ext_dict hd)
  refine dict1_h (knd := tupleKind (intKind X.prog X.w)) (show X.A.units < cLine by omega) ?_
  rw [hD]
  have hl1 := R.laid (o := .ext (DictHas D [])) hn
  have kD : H D = none := hn
  have up : ∀ {a : Addr} {o : HO}, H a = some o → upd H D (.ext (DictHas D [])) a = some o := fun {a o} e => by rw [upd_ne (ne_of_none e hn)]; exact e
  have nD := R.nofz hn
  have oD : ¬ ow cs σ D := fun z => by
    obtain ⟨ws, e⟩ := R.owsome z
    rw [hn] at e; cases e
  refine pairTrees_cons_walk (thn (hk.pe.run pins _ σ _ (fun v H1 => ∃ (d : PyData) (cs1 : CS) (g1 : GW), (tv cs1 fun e cs2 => match d with
    | .tuple ds => (∃ ns : List Int, ds = ns.map .int) ∧ Q' (.dict [(d, e)]) cs2
    | _ => False) ∧ Rel X.K ZP B g1 H1 cs1 σ ∧ Rp X.K H1 g1.fz d v ∧ (∀ a, ow cs1 σ a → ow cs σ a) ∧ Frm (ow cs σ) g (upd H D (.ext (DictHas D []))) g1 H1) I1
    ⟨B, cs, g, hl1, _, q, fun d cs1 v g1 H1 q1 R1 r1 s1 f1 => ⟨d, cs1, g1, q1, R1, r1, s1, f1⟩⟩) fun u t1 ⟨y, H1, I1, ry, d, cs1, g1, q1, R1, r1, s1, f1⟩ => ?_)
  refine thn (hv.pe.run pins _ σ _ (fun v H2 => ∃ (e : PyData) (cs2 : CS) (g2 : GW) (ds : List PyData), d = .tuple ds ∧ (∃ ns : List Int, ds = ns.map .int) ∧ Q' (.dict [(d, e)]) cs2 ∧ Rel X.K ZP B g2 H2 cs2 σ ∧ Rp X.K H2 g2.fz e v ∧ (∀ a, ow cs2 σ a → ow cs1 σ a) ∧ Frm (ow cs1 σ) g1 H1 g2 H2) I1
    ⟨B, cs1, g1, R1, _, q1, fun e cs2 v g2 H2 q2 R2 r2 s2 f2 => ?_⟩) fun u2 t2 ⟨y2, H2, I2, ry2, e, cs2, g2, ds, ed, ⟨ns, en⟩, q2, R2, r2, s2, f2⟩ => ?_
  · cases d with
    | tuple ds => exact ⟨e, cs2, g2, ds, rfl, q2.1, q2.2, R2, r2, s2, f2⟩
    | _ => exact q2.elim
  subst ed; subst en
  refine pairTrees_nil_walk ?_
  have f12 : Frm (ow cs σ) g (upd H D (.ext (DictHas D []))) g2 H2 := f1.trans (f2.mono fun a _ _ h => s1 a h)
  obtain ⟨a, xs, rfl, hq, ra⟩ := (Rp.rb (Rp.frm f2 R1.fzow r1)).tup
  cases rps_ints ra
  cases ry
  obtain ⟨its, rv, ht, hz⟩ := I2.tuple hq
  have eD : H2 D = some (.ext (DictHas D [])) := f12.keep D _ upd_same nD.2 oD
  obtain ⟨⟨_, od, ep, ho, hex, hdd⟩, _⟩ := I2.hok D _ eD
  have key : IsTupleKey (intKind X.prog X.w) t2.heap ns a := by
    obtain ⟨o, h1, h2, n, h3⟩ := id ht
    exact ⟨o, _, n, h1, h2, h3, ints_key rv⟩
  refine ⟨[(ns, a, u2)], ⟨rfl, rfl, key, True.intro⟩, ⟨od, _, ep, ho, hex, hdd, rfl, (fun _ z => by cases z), List.nodup_nil⟩, fun h' tk hD' hs => ?_⟩
  obtain ⟨o', es', ep', ho', hex', hdd', hes', _, _⟩ := id hD'
  have hes2 : es'.toList = [entryOfKey (tupleKind (intKind X.prog X.w)) (ns, a, u2)] := hes'
  have new : DictHas D [entryOfKey (tupleKind (intKind X.prog X.w)) (ns, a, u2)] h' := ⟨hne, o', ep', ho', hex', by rw [← hes2]; exact hdd'⟩
  have nf : ¬ g2.fz D := fun z => nD.1 (f12.fzn D _ upd_same oD z)
  have nz : g2.zs D = none := f12.zsn D _ upd_same nD.2
  have no : ¬ ow cs2 σ D := fun z => oD (s1 _ (s2 _ z))
  have hb : B.1 D = none := R.bnone hn
  have I3 : L2.Inv X pins σ (upd H2 D (.ext (DictHas D [entryOfKey (tupleKind (intKind X.prog X.w)) (ns, a, u2)]))) { t2 with heap := h', toks := tk } :=
    I2.write (t' := tk) (by rw [eD]; exact True.intro) (.inl rfl) (fun b u hb e => hs.extBut b u hb e) ⟨o', ho'⟩ (ext_dict new)
  refine ⟨.ref D, _, I3, rfl, ?_⟩
  obtain ⟨R3, f3⟩ := R2.updFz eD (o' := .ext (DictHas D [entryOfKey (tupleKind (intKind X.prog X.w)) (ns, a, u2)])) (fun xs z => by rcases z with z | ⟨_, z⟩ <;> (rw [eD] at z; cases z)) nf nz no hb
  have go : ∀ {d : PyData} {v : V}, Rp X.K H2 g2.fz d v → Rp X.K (upd H2 D (.ext (DictHas D [entryOfKey (tupleKind (intKind X.prog X.w)) (ns, a, u2)]))) (g2.freeze D).fz d v := fun r =>
    Rp.frm f3 (fun b h => ⟨(R2.fzow b h).1, fun z => by subst z; exact nf h⟩) r
  refine k _ cs2 _ (g2.freeze D) _ q2 R3 (.dct (ks := [.ref a]) (vs := [y2]) (kvs := [(.tuple (ns.map .int), e)]) (.inr rfl) upd_same (.cons rfl .nil) (.cons ry2 .nil) (.cons (go (.tup hq ra)) .nil) (.cons (go r2) .nil)) (fun b h => s1 b (s2 b h)) ?_
  refine ⟨fun b o e z n => ?_, fun b h => .inl (f12.fzm b h), f12.zsm, fun b o e n h => ?_, fun b o e z => f12.zsn b o (up e) z, fun b xs h => f3.tups b xs (f12.tups b xs (Rd.updn hn h)), fun b o e => ?_⟩
  · rw [upd_ne (ne_of_none e hn)]
    exact f12.keep b o (up e) z n
  · rcases h with h | h
    · exact f12.fzn b o (up e) n h
    · subst h; rw [hn] at e; cases e
  · obtain ⟨o1, e1⟩ := f12.any b o (up e)
    exact f3.any b o1 e1
end

/-! ### t[::-1] -/
section
variable {prog : Program} {w : World} {A : Around} {E : Value → Shared → Prop} {s : Shared}
theorem pick_rev (items : Array Value) : ((List.range items.size).filterMap fun (m : Nat) => items[(((items.size : Int) - 1) + (m : Int) * -1).toNat]?).toArray = items.toList.reverse.toArray := by
  congr 1
  have e : ∀ m, m < items.size → items[(((items.size : Int) - 1) + (m : Int) * -1).toNat]? = items.toList.reverse[m]? := fun m hm => by
    rw [show (((items.size : Int) - 1) + (m : Int) * -1).toNat = items.size - 1 - m by omega, List.getElem?_reverse (by simpa using hm)]
    simp
  have key : ∀ n, n ≤ items.size → (List.range n).filterMap (fun (m : Nat) => items[(((items.size : Int) - 1) + (m : Int) * -1).toNat]?) = items.toList.reverse.take n := fun n => by
    induction n with
    | zero => intro _; rfl
    | succ n ih =>
      intro hn
      rw [List.range_succ, List.filterMap_append, ih (by omega), List.take_add_one]
      congr 1
      simp only [List.filterMap_cons, List.filterMap_nil]
      rw [e n (by omega)]
      cases (items.toList.reverse[n]?) <;> rfl
  rw [key items.size (Nat.le_refl _), List.take_of_length_le (by simp)]
theorem getItem_tuple_rev {t sl : Addr} {items : Array Value} {vs : Value} {Q : Value → Shared → Prop} (ht : IsTup s.heap t items) (hs : s.heap.IsSliceOf sl .none .none vs) (ps : IsPart vs (some (-1)))
    (h : Q (.ref s.heap.objs.size) { s with heap := s.heap.push { cls := .type "tuple", data := .seq items.toList.reverse.toArray } })
    (hsz : items.size ≤ sizeLine) : wpAny (model prog w) A (getItem (.ref t) (.ref sl)) Q E s := by
  have hrev : sizeOk (.seq items.toList.reverse.toArray) := by
    show items.toList.reverse.toArray.size ≤ sizeLine
    simpa using hsz
  obtain ⟨os, hos, hcs, hds⟩ := id hs
  have hTs : s.TypeIs (.ref sl) "slice" := ⟨os, hos, hcs⟩
  unfold getItem
  try with_reducible refine wpAny_holding ?_
  first | refine wpAny_bind (wpAny_pure ?_) | skip
  refine wpAny_bind (wpAny_sequenceKey ht.typeIs (by decide) ?_)
  refine wpAny_bind (wpAny_callSpecial?_slot (name := Str.ofString "__getitem__") ht.typeIs PyProof.Rows.slot_tuple_getitem
    (wpAny_call_entry PyProof.Rows.slot_tuple_getitem ht.typeIs entry_tuple_getitem ?_ (args_tuple_getitem _ _)))
  show wpAny _ _ (Builtin.Tuple.tupleItemsOf (.ref t) >>= _) _ _ s
  refine wpAny_bind (tupleItemsOf_ ht ?_)
  refine wpAny_bind (wpAny_typeOf hTs ?_)
  rw [if_pos (by decide)]
  have ap : ∀ (A' : Around) (E' : Value → Shared → Prop), wpAny (model prog w) A' (Builtin.Slice.sliceApplied (.ref sl) (pure (items.size : Int))) (fun r s' => r = ((items.size : Int) - 1, -1, items.size) ∧ s' = s) E' s := by
    intro A' E'
    unfold Builtin.Slice.sliceApplied Builtin.Slice.sliceFields
    refine wpAny_bind (wpAny_bind (wpAny_field hos hds (x := .none) rfl (wpAny_bind (wpAny_field hos hds (x := .none) rfl (wpAny_bind (wpAny_field hos hds (x := vs) rfl (wpAny_pure ?_)))))))
    refine wpAny_bind (HT.slicePart_ ps ?_)
    show wpAny _ _ (if ((-1 : Int) == 0) = true then _ else _) _ _ s
    rw [if_neg (by decide)]
    refine wpAny_bind (slicePart_none (wpAny_bind (slicePart_none (wpAny_bind (wpAny_pure ?_)))))
    refine wpAny_pure ⟨?_, rfl⟩
    refine Prod.ext rfl (Prod.ext rfl ?_)
    show Builtin.Slice.slicePlaces ((items.size : Int) - 1) (-1) (-1) = items.size
    unfold Builtin.Slice.slicePlaces
    simp only [show ¬ ((-1 : Int) > 0) by omega, if_false]
    split <;> simp <;> omega
  refine wpAny_bind (wpAny_mono (ap _ _) ?_ fun _ _ e => e)
  rintro r0 s0 ⟨er, es⟩
  subst er; subst es
  have hno : ¬ ((((items.size : Int) - 1) == 0 && (-1 : Int) == 1 && items.size == items.size) = true) := by simp
  show wpAny _ _ (if (((items.size : Int) - 1) == 0 && (-1 : Int) == 1 && items.size == items.size) = true then _ else _) _ _ _
  rw [if_neg hno, pick_rev]
  first
    | exact wpAny_bind (m := Builtin.Tuple.tupleExact _) (wpAny_newObj_type (wpAny_pure ⟨_, rfl, wpAny_pure h⟩) hrev)
    | exact wpAny_bind (m := Builtin.Tuple.tupleExact _) (wpAny_newObj_type (wpAny_bind (wpAny_pure (wpAny_pure ⟨_, rfl, wpAny_pure h⟩))) hrev)
    | exact wpAny_bind (wpAny_bind (m := Builtin.Tuple.tupleExact _) (wpAny_newObj_type (wpAny_pure (wpAny_pure ⟨_, rfl, wpAny_pure h⟩)) hrev))
    | exact wpAny_bind (wpAny_bind (m := Builtin.Tuple.tupleExact _) (wpAny_newObj_type (wpAny_pure ⟨_, rfl, wpAny_pure h⟩) hrev))
end
section
variable {X : Cx} {ZP : ZT} {e : Expr} {te : TE} {ta : TLD} {k : Nat} {p1 p2 p3 pos : Pos}
def tRevT (K : PySem.W.Frag) (te : TE) : TE := fun σ H Q => te σ H fun x H1 => ∃ a xs, x = .ref a ∧ SqT K H1 a xs ∧ ∀ p, H1 p = none → Q (.ref p) (upd H1 p (.tup xs.reverse))
theorem pe_revT (he : PE X e te) : PE X (.Subscript e (.Slice none none (some (.UnaryOp .USub (.Constant (.int 1) k p1) p2)) p3) pos) (tRevT X.K te) := by
  refine ⟨fun pins s σ H Q I h => ?_⟩
  refine Subscript_ (thn (he.run pins s σ H _ I h) fun v s1 ⟨x, H1, I1, r1, a, xs, ex, hx, q⟩ => ?_)
  subst ex
  cases r1
  have hst : PO X (some (.UnaryOp .USub (.Constant (.int 1) k p1) p2)) (tPart (tUn (rU fun i => .int (-i)) (tC (.int 1)))) := po_some (pe_un un_neg pe_int)
  refine wpAny_Slice (thn (po_none.run pins s1 σ H1 (fun o H2 => o = none ∧ H2 = H1) I1 ⟨rfl, rfl⟩) fun vl s2 ⟨l, H2, I2, pl, el, e2⟩ => ?_)
  subst el e2
  refine thn (po_none.run pins s2 σ H2 (fun o H3 => o = none ∧ H3 = H2) I2 ⟨rfl, rfl⟩) fun vu s3 ⟨u, H3, I3, pu, eu, e3⟩ => ?_
  subst eu e3
  refine thn (hst.run pins s3 σ H3 (fun o H4 => o = some (-1) ∧ H4 = H3) I3 ⟨1, rfl, -1, rfl, rfl, rfl⟩) fun vs s4 ⟨o, H4, I4, ps, eo, e4⟩ => ?_
  subst eo e4
  cases pl; cases pu
  have I5 : L2.Inv X pins σ H4 { s4 with heap := s4.heap.push { cls := .type "slice", data := .fields #[.none, .none, vs] } } := I4.kept (t' := s4.toks) fun b ob q => Heap.get?_push_of_some _ q
  obtain ⟨its, r, ht, hz⟩ := I5.tuple hx
  have hlen := r.length
  show wpAny (model X.prog X.w) X.A (subscriptTail e (.Slice none none (some (.UnaryOp .USub (.Constant (.int 1) k p1) p2)) p3) (.ref a) (.ref s4.heap.objs.size)) (EP X pins σ Q) X.xe { s4 with heap := s4.heap.push { cls := .type "slice", data := .fields #[.none, .none, vs] } }
  refine tail_any (ops := [.ref a, .ref s4.heap.objs.size]) ht.typeIs (PyProof.Rows.slot_tuple_getitem.lookup) ?_ (by with_unfolding_all rfl)
  refine getItem_tuple_rev ht (Heap.IsSliceOf.new _ .none .none vs) ps ?_ (by rw [List.size_toArray]; omega)
  refine ⟨.ref _, _, I5.laid (t' := s4.toks) (o := .tup xs.reverse) (fun b ob q => Heap.get?_push_of_some _ q) (Nat.le_refl _) ?_, rfl, q _ (I5.hok.fresh (Nat.le_refl _))⟩
  exact ⟨by rw [List.length_reverse]; exact hz, _, r.reverse, IsTup.new _ _⟩
theorem RpAll.reverse {K : PySem.W.Frag} {H : Hp} {fz : Addr → Prop} : ∀ {ds : List PyData} {vs : List V}, RpAll K H fz ds vs → RpAll K H fz ds.reverse vs.reverse
  | _, _, .nil => .nil
  | _, _, .cons r t => by
    rw [List.reverse_cons, List.reverse_cons]
    exact (RpAll.reverse t).append (.cons r .nil)
def t_rev (ta : TLD) : TVD := fun cs Q => ta cs fun l cs1 => match l.get cs1 with
  | some (.tuple ds) => Q (.tuple ds.reverse) cs1
  | _ => False
theorem dv_rev (h : DL X ZP e ta) : DV X ZP (.Subscript e (.Slice none none (some (.UnaryOp .USub (.Constant (.int 1) k p1) p2)) p3) pos) (t_rev ta) := by
  refine ⟨PE.imp (pe_revT h.pe) ?_⟩
  rintro σ H Q ⟨B, cs, g, R, Q', q, k⟩
  refine ⟨B, cs, g, R, _, q, fun l cs1 v g1 H1 q1 R1 r1 s1 f1 => ?_⟩
  cases e1 : l.get cs1 with
  | none => rw [e1] at q1; exact q1.elim
  | some d =>
    rw [e1] at q1
    cases d with
    | tuple ds =>
      obtain ⟨a, xs, rfl, hq, ra⟩ := (r1.rb R1 e1).tup
      refine ⟨a, xs, rfl, hq, fun p hp => ?_⟩
      obtain ⟨R3, r3, t3, f3⟩ := (Res.tup hp ra.reverse).fin R1
      exact k _ cs1 _ g1 _ q1 R3 r3 s1 (f1.trans (f3.mono fun a _ _ h => s1 a h))
    | _ => exact q1.elim
end
end Cl

namespace Cl
open PySem PySem.Spec PyProof.Rows L2

/-! ### the script -/
section
variable {X : Cx} {ZP : ZT} {pos p p2 p3 : Pos} {x : Str} {i : Nat}
theorem scr_sq {K : PySem.W.Frag} {g : GW} {H : Hp} {ns : List Int} {v : V} (r : RS K g H (.scr ns) v) : ∃ a, v = .ref a ∧ SqL K H a (ns.map V.int) := by
  obtain ⟨a, rfl, h⟩ := r
  refine ⟨a, rfl, ?_⟩
  rcases h with ⟨_, o, h⟩ | h
  · exact .inl (.inr ⟨o, h⟩)
  · exact .inr h
theorem RpAll.ints' {K : PySem.W.Frag} {H : Hp} {fz : Addr → Prop} (ns : List Int) : RpAll K H fz (ns.map PyData.int) (ns.map V.int) := RpAll.ints ns
def t_sliceScr (i : Nat) (tl th : TOD) : TD := fun cs Q => match cs[i]? with
  | some (some (.scr ns)) => tl cs fun lo cs2 => th cs2 fun hi cs3 => Q (.own (cutD (ns.map .int) lo hi)) cs3
  | _ => False
theorem de_sliceScr {lo hi : Option Expr} {tl th : TOD} (i : Nat) (hl : DO X ZP lo tl) (hh : DO X ZP hi th) (hN : X.N[i]? = some x := by rfl) (hv : Vis X.env.scope x := by first | exact Or.inl rfl | exact Or.inr (Or.inl rfl) | exact Or.inr (Or.inr rfl)) (hd : (x == ("__debug__" : Str)) = false := by decide)
    (hcd : (x == ("__classdict__" : Str)) = false := by decide) : DE X ZP (.Subscript (.Name x p) (.Slice lo hi none p2) pos) (t_sliceScr i tl th) := by
  refine ⟨PE.imp (pe_slice sl_list (pe_var hN hv hd hcd) hl.po hh.po) ?_⟩
  rintro σ H Q ⟨B, cs, g, R, Q', q, k⟩
  unfold t_sliceScr at q
  cases e1 : cs[i]? with
  | none => rw [e1] at q; exact q.elim
  | some osv =>
    rw [e1] at q
    rcases osv with _ | sv
    · exact q.elim
    · cases sv with
      | dat d => exact q.elim
      | own d => exact q.elim
      | raw d => exact q.elim
      | exc _ _ _ _ => exact q.elim
      | scr ns =>
      obtain ⟨v, e2, r⟩ := R.slot i _ e1
      refine ⟨v, e2, B, cs, g, R, _, q, fun o1 cs2 g2 H2 q2 R2 s2 f2 => ?_⟩
      refine ⟨B, cs2, g2, R2, _, q2, fun o2 cs3 g3 H3 q3 R3 s3 f3 => ?_⟩
      have r3 : RS X.K g3 H3 (.scr ns) v := (r.frm f2 R.fzow (fun _ _ e _ => by cases e)).frm f3 R2.fzow (fun _ _ e _ => by cases e)
      obtain ⟨a, rfl, hs⟩ := scr_sq r3
      refine ⟨a, _, rfl, hs, fun p hp => ?_⟩
      obtain ⟨R4, r4, t4, f4⟩ := (Res.lst hp ((RpAll.ints' ns).cut o1 o2)).fin R3
      have f13 : Frm (ow cs σ) g H g3 H3 := f2.trans (f3.mono fun a _ _ h => s2 a h)
      exact k _ cs3 _ g3 _ q3 R4 r4 (t4.back f13) (fun a h => s2 a (s3 a h)) (f13.trans (f4.mono fun a _ _ h => s2 a (s3 a h)))
end

/-! ### boxes: what a law's draws work on -/
inductive RF where
  | l (t : Nat)
  | i
/-- 2: a list of ints; 3: .. that is not empty; 1: [2, 3, int, int]; 4: [2, int, int] -/
def shp : Nat → Option (List RF)
  | 1 => some [.l 2, .l 3, .i, .i]
  | 4 => some [.l 2, .i, .i]
  | _ => none
/-- dicts with texts as keys -/
def dshp : Nat → Option (List Str × List RF)
  | 5 => some (["great", "stirred", "count"], [.l 2, .i, .i])
  | 6 => some (["far", "cells", "sum", "count"], [.l 2, .l 3, .i, .i])
  | 7 => some (["deep", "state"], [.l 2, .i])
  | _ => none
def Fld (zs : Addr → Option Nat) : List RF → List V → Prop
  | [], [] => True
  | .l t :: fs, .ref a :: vs => zs a = some t ∧ Fld zs fs vs
  | .i :: fs, .int _ :: vs => Fld zs fs vs
  | _, _ => False
def ZPu : ZF := fun t zs o => (t = 2 ∧ ∃ ns : List Int, ns.length ≤ 1000 ∧ o = .lst (ns.map V.int)) ∨ (t = 3 ∧ ∃ ns : List Int, ns ≠ [] ∧ o = .lst (ns.map V.int)) ∨ (∃ fs vs, shp t = some fs ∧ o = .lst vs ∧ Fld zs fs vs) ∨
  ∃ ks fs vs, dshp t = some (ks, fs) ∧ o = .dK ((ks.map Sum.inr).zip vs) ∧ Fld zs fs vs
/-- the things of a box -/
def BoxOk : List RF → List SV → Prop
  | [], [] => True
  | .l t :: fs, .own xs :: svs => (∃ ns : List Int, xs = ns.map .int ∧ ((t = 2 ∧ ns.length ≤ 1000) ∨ (t = 3 ∧ ns ≠ []))) ∧ BoxOk fs svs
  | .i :: fs, .dat (.int _) :: svs => BoxOk fs svs
  | _, _ => False
def typ : List RF → List V → Addr → Option Nat
  | .l t :: fs, .ref b :: vs, a => if a = b then some t else typ fs vs a
  | .i :: fs, _ :: vs, a => typ fs vs a
  | _, _, _ => none
/-- arguments, own lists among them -/
def tX (K : PySem.W.Frag) (ZP : ZT) (t : TSA) : TA := fun σ H Q => ∃ B cs g, Rel K ZP B g H cs σ ∧ ∃ Q', t cs Q' ∧
  ∀ svs cs' vs g' H', Q' svs cs' → Rel K ZP B g' H' cs' σ → RSs K g' H' svs vs → (∀ (i : Nat) (xs : List PyData) (a : Addr), svs[i]? = some (.own xs) → vs[i]? = some (.ref a) → ¬ ow cs' σ a ∧ H a = none) →
    (∀ (i j : Nat) (xs ys : List PyData) (a : Addr), svs[i]? = some (.own xs) → svs[j]? = some (.own ys) → vs[i]? = some (.ref a) → vs[j]? = some (.ref a) → i = j) → (∀ a, ow cs' σ a → ow cs σ a) → Frm (ow cs σ) g H g' H' → Q vs H'
structure DX (X : Cx) (ZP : ZT) (es : List Expr) (t : TSA) : Prop where
  pa : PA X es (tX X.K ZP t)
def t_xcons (t : TD) (u : TSA) : TSA := fun cs Q => t cs fun sv cs1 => u cs1 fun svs cs2 => Q (sv :: svs) cs2
section
variable {X : Cx} {ZP : ZT} {e : Expr} {es : List Expr} {td : TD} {ts : TSA}
theorem dx_nil : DX X ZP [] t_anil := ⟨PA.imp pa_nil fun σ H Q ⟨B, cs, g, R, Q', q, k⟩ => k [] cs [] g H q R .nil (fun i xs a e => by simp at e) (fun i j xs ys a e => by simp at e) (fun _ h => h) .refl⟩
theorem dx_cons (h : DE X ZP e td) (r : DX X ZP es ts) (hs : starEach (e :: es) X.env = (false, eval e X.env) :: starEach es X.env := by rfl) : DX X ZP (e :: es) (t_xcons td ts) := by
  refine ⟨PA.imp (pa_cons h.pe r.pa hs) ?_⟩
  rintro σ H Q ⟨B, cs, g, R, Q', q, k⟩
  refine ⟨B, cs, g, R, _, q, fun sv cs1 v g1 H1 q1 R1 r1 t1 s1 f1 => ?_⟩
  refine ⟨B, cs1, g1, R1, _, q1, fun svs cs2 vs g2 H2 q2 R2 r2 t2 d2 s2 f2 => ?_⟩
  have old : ∀ xs a, sv = .own xs → v = .ref a → ∃ o, H1 a = some o := fun xs a e1 e2 => by
    subst e1; subst e2
    obtain ⟨b, ws, e, h, _⟩ := r1
    cases e; exact ⟨_, h⟩
  refine k (sv :: svs) cs2 (v :: vs) g2 H2 q2 R2 (.cons (r1.frm f2 R1.fzow fun xs a e1 e2 => (t1 xs a e1 e2).1) r2) (fun i xs a e1 e2 => ?_) (fun i j xs ys a e1 e2 e3 e4 => ?_) (fun a h => s1 a (s2 a h)) (f1.trans (f2.mono fun a _ _ h => s1 a h))
  · cases i with
    | zero =>
      simp only [List.getElem?_cons_zero, Option.some.injEq] at e1 e2
      obtain ⟨n1, n2⟩ := t1 xs a e1 e2
      exact ⟨fun z => n1 (s2 a z), n2⟩
    | succ i =>
      simp only [List.getElem?_cons_succ] at e1 e2
      obtain ⟨n1, n2⟩ := t2 i xs a e1 e2
      refine ⟨n1, ?_⟩
      cases e5 : H a with
      | none => rfl
      | some u =>
        obtain ⟨u', e6⟩ := f1.any a u e5
        rw [n2] at e6; cases e6
  · cases i with
    | zero =>
      cases j with
      | zero => rfl
      | succ j =>
        simp only [List.getElem?_cons_succ, List.getElem?_cons_zero, Option.some.injEq] at e1 e2 e3 e4
        obtain ⟨o, h⟩ := old xs a e1 e3
        rw [(t2 j ys a e2 e4).2] at h; cases h
    | succ i =>
      cases j with
      | zero =>
        simp only [List.getElem?_cons_succ, List.getElem?_cons_zero, Option.some.injEq] at e1 e2 e3 e4
        obtain ⟨o, h⟩ := old ys a e2 e4
        rw [(t2 i xs a e1 e3).2] at h; cases h
      | succ j =>
        simp only [List.getElem?_cons_succ] at e1 e2 e3 e4
        rw [d2 i j xs ys a e1 e2 e3 e4]
end
section
variable {K : PySem.W.Frag} {g : GW} {H : Hp}
theorem typ_some : ∀ {fs : List RF} {svs : List SV} {vs : List V} {a : Addr} {t : Nat}, BoxOk fs svs → RSs K g H svs vs → typ fs vs a = some t →
    ∃ (i : Nat) (ns : List Int), svs[i]? = some (.own (ns.map .int)) ∧ vs[i]? = some (.ref a) ∧ H a = some (.lst (ns.map V.int)) ∧ ¬ g.fz a ∧ g.zs a = none ∧ ((t = 2 ∧ ns.length ≤ 1000) ∨ (t = 3 ∧ ns ≠ []))
  | [], svs, vs, a, t, _, _, e => by cases vs <;> simp [typ] at e
  | .l t0 :: fs, [], _, a, t, b, _, e => b.elim
  | .l t0 :: fs, sv :: svs, _, a, t, b, .cons r rs, e => by
    cases sv with
    | own xs =>
      obtain ⟨⟨ns, rfl, ht⟩, b⟩ := b
      obtain ⟨c, ws, rfl, h, n1, n2, q⟩ := r
      cases rps_ints q
      unfold typ at e
      by_cases hac : a = c
      · rw [if_pos hac] at e
        cases e; subst hac
        exact ⟨0, ns, rfl, rfl, h, n1, n2, ht⟩
      · rw [if_neg hac] at e
        obtain ⟨i, ms, h1, h2, h3⟩ := typ_some b rs e
        exact ⟨i + 1, ms, by simpa using h1, by simpa using h2, h3⟩
    | dat d => exact b.elim
    | raw d => exact b.elim
    | scr d => exact b.elim
    | exc _ _ _ _ => exact b.elim
  | .i :: fs, [], _, a, t, b, _, e => b.elim
  | .i :: fs, sv :: svs, _, a, t, b, .cons r rs, e => by
    cases sv with
    | dat d =>
      cases d with
      | int n =>
        cases r
        have b : BoxOk fs svs := b
        unfold typ at e
        obtain ⟨i, ms, h1, h2, h3⟩ := typ_some b rs e
        exact ⟨i + 1, ms, by simpa using h1, by simpa using h2, h3⟩
      | _ => exact b.elim
    | own d => exact b.elim
    | raw d => exact b.elim
    | scr d => exact b.elim
    | exc _ _ _ _ => exact b.elim
theorem fld_of : ∀ {fs : List RF} {svs : List SV} {vs : List V} {zs : Addr → Option Nat}, BoxOk fs svs → RSs K g H svs vs →
    (∀ (i j : Nat) (xs ys : List PyData) (a : Addr), svs[i]? = some (.own xs) → svs[j]? = some (.own ys) → vs[i]? = some (.ref a) → vs[j]? = some (.ref a) → i = j) →
    (∀ a t, typ fs vs a = some t → zs a = some t) → Fld zs fs vs
  | [], [], _, zs, _, .nil, _, _ => True.intro
  | [], _ :: _, _, zs, b, _, _, _ => b.elim
  | .l t0 :: fs, [], _, zs, b, _, _, _ => b.elim
  | .l t0 :: fs, sv :: svs, _, zs, b, .cons r rs, d, h => by
    cases sv with
    | own xs =>
      obtain ⟨⟨ns, rfl, ht⟩, b⟩ := b
      obtain ⟨c, ws, rfl, hc, n1, n2, q⟩ := r
      refine ⟨h c t0 (by unfold typ; rw [if_pos rfl]), fld_of b rs (fun i j xs ys a e1 e2 e3 e4 => ?_) fun a t e => h a t ?_⟩
      · have := d (i + 1) (j + 1) xs ys a (by simpa using e1) (by simpa using e2) (by simpa using e3) (by simpa using e4)
        omega
      · unfold typ
        by_cases hac : a = c
        · subst hac
          exfalso
          obtain ⟨i, ms, e1, e2, _⟩ := typ_some b rs e
          have := d 0 (i + 1) _ _ a rfl (by simpa using e1) rfl (by simpa using e2)
          omega
        · rw [if_neg hac]; exact e
    | dat d => exact b.elim
    | raw d => exact b.elim
    | scr d => exact b.elim
    | exc _ _ _ _ => exact b.elim
  | .i :: fs, [], _, zs, b, _, _, _ => b.elim
  | .i :: fs, sv :: svs, _, zs, b, .cons r rs, d, h => by
    cases sv with
    | dat dd =>
      cases dd with
      | int n =>
        cases r
        have b : BoxOk fs svs := b
        refine fld_of (fs := fs) b rs (fun i j xs ys a e1 e2 e3 e4 => ?_) fun a t e => h a t (by unfold typ; exact e)
        have := d (i + 1) (j + 1) xs ys a (by simpa using e1) (by simpa using e2) (by simpa using e3) (by simpa using e4)
        omega
      | _ => exact b.elim
    | own d => exact b.elim
    | raw d => exact b.elim
    | scr d => exact b.elim
    | exc _ _ _ _ => exact b.elim
theorem Fld.mono {zs zs' : Addr → Option Nat} (m : ∀ a t, zs a = some t → zs' a = some t) : ∀ {fs : List RF} {vs : List V}, Fld zs fs vs → Fld zs' fs vs
  | [], [], _ => True.intro
  | .l t :: fs, .ref a :: vs, h => ⟨m _ _ h.1, Fld.mono m h.2⟩
  | .i :: fs, .int _ :: vs, h => by
    have h : Fld zs fs vs := h
    exact Fld.mono (fs := fs) m h
theorem ZPu.mono {zs zs' : Addr → Option Nat} {t : Nat} {o : HO} (m : ∀ a t, zs a = some t → zs' a = some t) (h : ZPu t zs o) : ZPu t zs' o := by
  rcases h with h | h | ⟨fs, vs, e1, e2, h⟩ | ⟨ks, fs, vs, e1, e2, h⟩
  · exact .inl h
  · exact .inr (.inl h)
  · exact .inr (.inr (.inl ⟨fs, vs, e1, e2, h.mono m⟩))
  · exact .inr (.inr (.inr ⟨ks, fs, vs, e1, e2, h.mono m⟩))
theorem BoxOk.length : ∀ {fs : List RF} {svs : List SV}, BoxOk fs svs → fs.length = svs.length
  | [], [], _ => rfl
  | .l t :: fs, .own xs :: svs, h => by simp [BoxOk.length h.2]
  | .i :: fs, .dat (.int _) :: svs, h => by
    have h : BoxOk fs svs := h
    simp [BoxOk.length h]
end
/-- return [..], a box of kind t -/
def t_retbox (t : Nat) (ts : TSA) : TSD := fun D cs => ts cs fun svs _ => ∃ fs, shp t = some fs ∧ svs.length ≤ sizeLine ∧ BoxOk fs svs ∧ D.rt (.raw t)
section
variable {X : Cx} {es : List Expr} {ts : TSA} {p pos : Pos} {t : Nat}
theorem ds_retbox {bs : Bs → Prop} (h : DX X ⟨ZPu, bs⟩ es ts) : DS X ⟨ZPu, bs⟩ (.Return (some (.List es p)) pos) (t_retbox t ts) := by
  refine ⟨PS.imp (ps_ret (pe_lst h.pa)) ?_⟩
  rintro D σ H ⟨B, cs, g, R, D', q, pp⟩
  refine ⟨B, cs, g, R, _, q, fun svs cs1 vs g1 H1 q1 R1 r1 t1 d1 s1 f1 => ?_⟩
  obtain ⟨fs, hsh, hl, hb, hrt⟩ := q1
  refine ⟨by rw [← Paired.length r1]; exact hl, fun p hp => ?_⟩
  have np := R1.nofz hp
  -- the new region
  let zs' : Addr → Option Nat := fun a => if a = p then some t else match typ fs vs a with
    | some u => some u
    | none => g1.zs a
  have tf : ∀ a u, typ fs vs a = some u → H a = none ∧ ¬ ow cs1 σ a ∧ ¬ g1.fz a ∧ g1.zs a = none ∧ a ≠ p ∧ ∃ ns : List Int, H1 a = some (.lst (ns.map V.int)) ∧ ((u = 2 ∧ ns.length ≤ 1000) ∨ (u = 3 ∧ ns ≠ [])) := fun a u e => by
    obtain ⟨i, ns, e1, e2, h1, n1, n2, ht⟩ := typ_some hb r1 e
    obtain ⟨m1, m2⟩ := t1 i _ a e1 e2
    exact ⟨m2, m1, n1, n2, (fun z => by subst z; rw [hp] at h1; cases h1), ns, h1, ht⟩
  have zm : ∀ a u, g1.zs a = some u → zs' a = some u := fun a u e => by
    have hne : a ≠ p := fun z => by subst z; rw [np.2] at e; cases e
    show (if a = p then some t else _) = _
    rw [if_neg hne]
    cases e1 : typ fs vs a with
    | none => exact e
    | some u' => rw [(tf a u' e1).2.2.2.1] at e; cases e
  have zn : ∀ a, a ≠ p → typ fs vs a = none → zs' a = g1.zs a := fun a h1 h2 => by
    show (if a = p then some t else _) = _
    rw [if_neg h1, h2]
  have zt : ∀ a u, typ fs vs a = some u → zs' a = some u := fun a u e => by
    show (if a = p then some t else _) = _
    rw [if_neg (tf a u e).2.2.2.2.1, e]
  have f2 : Frm (ow cs1 σ) g1 H1 { g1 with zs := zs' } (upd H1 p (.lst vs)) → True := fun _ => True.intro
  have keep : ∀ a o, H1 a = some o → upd H1 p (.lst vs) a = some o := fun a o e => by rw [upd_ne (ne_of_none e hp)]; exact e
  have R2 : Rel X.K ⟨ZPu, bs⟩ B { g1 with zs := zs' } (upd H1 p (.lst vs)) cs1 σ := by
    refine ⟨R1.len, fun i sv e => ?_, R1.sep, fun a u z => ?_, fun a z => ?_, ?_, R1.fresh, R1.bs⟩
    · obtain ⟨v, e1, r⟩ := R1.slot i sv e
      refine ⟨v, e1, ?_⟩
      cases sv with
      | dat d => exact Rp.go (fun _ h => h) (fun a o _ e => keep a o e) (fun a xs h => Rd.updn hp h) r
      | own xs =>
        obtain ⟨a, ws, rfl, h, n1, n2, q⟩ := r
        refine ⟨a, ws, rfl, keep _ _ h, n1, ?_, RpAll.go (fun _ h => h) (fun a o _ e => keep a o e) (fun a xs h => Rd.updn hp h) q⟩
        show zs' a = none
        rw [zn a (ne_of_none h hp) ?_]
        · exact n2
        · cases e2 : typ fs vs a with
          | none => rfl
          | some u => exact absurd ⟨i, xs, e, e1⟩ (tf a u e2).2.1
      | raw u => obtain ⟨a, rfl, h⟩ := r; exact ⟨a, rfl, zm a u h⟩
      | exc a n d fs => exact ⟨r.1, r.2.go (fun _ h => h) (fun a o _ e => keep a o e) (fun a xs h => Rd.updn hp h)⟩
      | scr ns =>
        obtain ⟨a, rfl, h⟩ := r
        refine ⟨a, rfl, ?_⟩
        rcases h with ⟨h1, o, h2⟩ | h
        · exact .inl ⟨h1, o, keep _ _ h2⟩
        · exact .inr h
    · have z : zs' a = some u := z
      by_cases hap : a = p
      · subst hap
        have : zs' a = some t := by show (if a = a then some t else _) = _; rw [if_pos rfl]
        rw [this] at z; cases z
        exact ⟨_, upd_same, .inr (.inr (.inl ⟨fs, vs, hsh, rfl, fld_of hb r1 d1 zt⟩))⟩
      · cases e1 : typ fs vs a with
        | some u' =>
          rw [zt a u' e1] at z; cases z
          obtain ⟨_, _, _, _, hne, ns, h1, ht⟩ := tf a u e1
          refine ⟨_, keep _ _ h1, ?_⟩
          rcases ht with ⟨rfl, hn⟩ | ⟨rfl, hn⟩
          · exact .inl ⟨rfl, ns, hn, rfl⟩
          · exact .inr (.inl ⟨rfl, ns, hn, rfl⟩)
        | none =>
          rw [zn a hap e1] at z
          obtain ⟨o, e, q⟩ := R1.zok a u z
          exact ⟨o, keep _ _ e, q.mono zm⟩
    · obtain ⟨⟨o, e⟩, h⟩ := R1.fzok a z
      refine ⟨⟨o, keep _ _ e⟩, ?_⟩
      show zs' a = none
      rw [zn a (ne_of_none e hp) ?_]
      · exact h
      · cases e2 : typ fs vs a with
        | none => rfl
        | some u => exact absurd z (tf a u e2).2.2.1
    · have bn : ∀ a o, B.1 a = some o → a ≠ p ∧ typ fs vs a = none := fun a o e => by
        refine ⟨fun z => ?_, ?_⟩
        · subst z; rw [R1.bnone hp] at e; cases e
        · cases e2 : typ fs vs a with
          | none => rfl
          | some u => rw [R.bnone (tf a u e2).1] at e; cases e
      refine ⟨fun a o e z n => keep _ _ (R1.base.keep a o e z n), R1.base.fzm, fun a u z => zm a u (R1.base.zsm a u z), R1.base.fzn, fun a o e z => ?_, fun a xs h => Rd.updn hp (R1.base.tups a xs h), fun a o e => ?_⟩
      · show zs' a = none
        rw [zn a (bn a o e).1 (bn a o e).2]
        exact R1.base.zsn a o e z
      · obtain ⟨o', e'⟩ := R1.base.any a o e
        exact ⟨o', keep _ _ e'⟩
  have st : Stay g H { g1 with zs := zs' } (upd H1 p (.lst vs)) := by
    have st1 := f1.stay R.fzow
    exact ⟨st1.fzm, fun a o h e => keep _ _ (st1.keep a o h e), fun a xs h => Rd.updn hp (st1.tups a xs h)⟩
  refine pp.rt (.raw t) (.ref p) cs1 σ _ _ R2 st ⟨p, rfl, ?_⟩ (fun xs a e => nomatch e) hrt
  show (if p = p then some t else _) = _
  rw [if_pos rfl]
end
end Cl

namespace Cl
open PySem PySem.Spec PyProof.Rows L2

/-! ### a thing of the region is changed -/
section
variable {g : GW} {H H1 H2 : Hp} {p : Addr} {t : Nat} {o o' : HO}
structure Step (g : GW) (H H' : Hp) : Prop where
  ok : GOk ZPu g H'
  fr : Frm (fun _ => False) g H g H'
theorem Step.refl (G : GOk ZPu g H) : Step g H H := ⟨G, .refl⟩
theorem Step.trans (a : Step g H H1) (b : Step g H1 H2) : Step g H H2 := ⟨b.ok, a.fr.trans b.fr⟩
theorem Step.region' (G : GOk ZPu g H) (hz : g.zs p = some t) {o : HO} (h : H p = some o) (ht : ∀ xs, o ≠ .tup xs) (hf : ∀ b u, o ≠ .frz b u) (n : ZPu t g.zs o') : Step g H (upd H p o') := by
  have any : ∀ a u, H a = some u → ∃ u', upd H p o' a = some u' := fun a u e => by
    by_cases hp : a = p
    · subst hp; exact ⟨_, upd_same⟩
    · exact ⟨u, by rw [upd_ne hp]; exact e⟩
  refine ⟨⟨fun a u z => ?_, fun a z => ?_⟩, ⟨fun a u e z _ => ?_, fun _ h => h, fun _ _ h => h, fun _ _ _ _ h => h, fun _ _ _ h => h, fun a xs q => ?_, any⟩⟩
  · by_cases hp : a = p
    · subst hp; rw [hz] at z; cases z; exact ⟨_, upd_same, n⟩
    · rw [upd_ne hp]; exact G.zok a u z
  · obtain ⟨⟨u, e⟩, q⟩ := G.fzok a z
    exact ⟨any a u e, q⟩
  · rw [upd_ne (fun q => by subst q; rw [hz] at z; cases z)]; exact e
  · have hne : a ≠ p := fun e => by
      subst e
      rcases q with q | ⟨o, q⟩
      · rw [h] at q; exact ht _ (Option.some.inj q)
      · rw [h] at q; exact hf _ _ (Option.some.inj q)
    rcases q with q | ⟨o, q⟩
    · exact .inl (by rw [upd_ne hne]; exact q)
    · exact .inr ⟨o, by rw [upd_ne hne]; exact q⟩
theorem Step.region (G : GOk ZPu g H) (hz : g.zs p = some t) {vs : List V} (h : H p = some (.lst vs)) (n : ZPu t g.zs o') : Step g H (upd H p o') :=
  Step.region' G hz h (fun _ e => by cases e) (fun _ _ e => by cases e) n
theorem Step.laid (G : GOk ZPu g H) (hp : H p = none) : Step g H (upd H p o) := by
  refine ⟨⟨fun a u z => ?_, fun a z => ?_⟩, .laid hp⟩
  · obtain ⟨w, e, q⟩ := G.zok a u z
    exact ⟨w, by rw [upd_ne (ne_of_none e hp)]; exact e, q⟩
  · obtain ⟨⟨w, e⟩, q⟩ := G.fzok a z
    exact ⟨⟨w, by rw [upd_ne (ne_of_none e hp)]; exact e⟩, q⟩
theorem ints_of_two (G : GOk ZPu g H) (h : g.zs p = some 2) : ∃ ns : List Int, ns.length ≤ 1000 ∧ H p = some (.lst (ns.map V.int)) := by
  obtain ⟨o, e, h | h | ⟨fs, vs, e1, _⟩ | ⟨ks, fs, vs, e1, _⟩⟩ := G.zok p 2 h
  · obtain ⟨_, ns, hn, rfl⟩ := h; exact ⟨ns, hn, e⟩
  · obtain ⟨h, _⟩ := h; cases h
  · cases e1
  · cases e1
theorem ints_of_three (G : GOk ZPu g H) (h : g.zs p = some 3) : ∃ ns : List Int, ns ≠ [] ∧ H p = some (.lst (ns.map V.int)) := by
  obtain ⟨o, e, h | h | ⟨fs, vs, e1, _⟩ | ⟨ks, fs, vs, e1, _⟩⟩ := G.zok p 3 h
  · obtain ⟨h, _⟩ := h; cases h
  · obtain ⟨_, ns, hn, rfl⟩ := h; exact ⟨ns, hn, e⟩
  · cases e1
  · cases e1
theorem box_of {fs : List RF} (G : GOk ZPu g H) (h : g.zs p = some t) (e : shp t = some fs) (hd : dshp t = none := by rfl) : ∃ vs, H p = some (.lst vs) ∧ Fld g.zs fs vs := by
  obtain ⟨o, e0, h | h | ⟨fs', vs, e1, rfl, f⟩ | ⟨ks, fs', vs, e1, _⟩⟩ := G.zok p t h
  · obtain ⟨rfl, _⟩ := h; cases e
  · obtain ⟨rfl, _⟩ := h; cases e
  · rw [e] at e1; cases e1; exact ⟨vs, e0, f⟩
  · rw [hd] at e1; cases e1
theorem dbox_of {ks : List Str} {fs : List RF} (G : GOk ZPu g H) (h : g.zs p = some t) (e : dshp t = some (ks, fs)) (hd : shp t = none := by rfl) : ∃ vs, H p = some (.dK ((ks.map Sum.inr).zip vs)) ∧ Fld g.zs fs vs := by
  obtain ⟨o, e0, h | h | ⟨fs', vs, e1, _⟩ | ⟨ks, fs', vs, e1, rfl, f⟩⟩ := G.zok p t h
  · obtain ⟨rfl, _⟩ := h; cases e
  · obtain ⟨rfl, _⟩ := h; cases e
  · rw [hd] at e1; cases e1
  · rw [e] at e1; cases e1; exact ⟨vs, e0, f⟩
end

/-! ### ints, told at once -/
section
variable {K : PySem.W.Frag} {H : Hp} {Q : VK} {o : OpX} {c : C1X} {i j k : Int} {b : Bool}
theorem rOi (k : Int) (h : ∀ Q' : SV → Prop, Q' (.dat (.int k)) → o (.int i) (.int j) Q') (q : Q (.int k) H) : rO K o (.int i) (.int j) H Q :=
  ⟨fun _ => False, .int i, .int j, Rp.rb (.int i), Rp.rb (.int j), (fun sv => sv = .dat (.int k)), h _ rfl, fun sv z H' e r => by
    subst e
    cases r with
    | same r => cases r; exact q⟩
theorem rOb (b : Bool) (h : ∀ Q' : SV → Prop, Q' (.dat (.bool b)) → o (.int i) (.int j) Q') (q : Q (.bl b) H) : rO K o (.int i) (.int j) H Q :=
  ⟨fun _ => False, .int i, .int j, Rp.rb (.int i), Rp.rb (.int j), (fun sv => sv = .dat (.bool b)), h _ rfl, fun sv z H' e r => by
    subst e
    cases r with
    | same r => cases r; exact q⟩
theorem rCi (k : Int) (h : ∀ Q' : SV → Prop, Q' (.dat (.int k)) → c (.int i) Q') (q : Q (.int k) H) : rC1 K c [.int i] H Q :=
  ⟨_, fun _ => False, .int i, rfl, Rp.rb (.int i), (fun sv => sv = .dat (.int k)), h _ rfl, fun sv z H' e r => by
    subst e
    cases r with
    | same r => cases r; exact q⟩
theorem rClen {a : Addr} {ns : List Int} (h : H a = some (.lst (ns.map V.int))) (q : Q (.int (ns.length : Nat)) H) : rC1 K lenX [.ref a] H Q :=
  ⟨_, fun _ => False, .list (ns.map .int), rfl, ⟨a, _, rfl, h, RpAll.ints ns⟩, (fun sv => sv = .dat (.int (ns.length : Nat))), by show _ = _; rw [List.length_map], fun sv z H' e r => by
    subst e
    cases r with
    | same r => cases r; exact q⟩
theorem canInts : ∀ ns : List Int, PyData.canLayAll0 (ns.map .int) = true
  | [] => by simp [PyData.canLayAll0]
  | n :: ns => by simp [PyData.canLayAll0, PyData.canLay0, canInts ns]
theorem depInts : ∀ ns : List Int, PyData.depthAll (ns.map .int) ≤ 1
  | [] => by simp [PyData.depthAll]
  | n :: ns => by have := depInts ns; simp [PyData.depthAll, PyData.depth]; omega
theorem shaped_ints (ns : List Int) : SeqAt.shaped (.list (ns.map .int)) = true := by
  unfold SeqAt.shaped
  have := depInts ns
  simp [PyData.canLay0, canInts, PyData.depth]
  omega
theorem rNeNil {a p : Addr} {ns : List Int} (h : H a = some (.lst (ns.map V.int))) (hp : H p = some (.lst [])) (q : Q (.bl (!ns.isEmpty)) H) : rO K neX (.ref a) (.ref p) H Q := by
  refine ⟨fun _ => False, .list (ns.map .int), .list [], ⟨a, _, rfl, h, RpAll.ints ns⟩, ⟨p, _, rfl, hp, .nil⟩, (fun sv => sv = .dat (.bool (!ns.isEmpty))), ⟨shaped_ints ns, shaped_ints [], ?_⟩, fun sv z H' e r => by
    subst e
    cases r with
    | same r => cases r; exact q⟩
  cases ns <;> rfl
theorem rIx0 {a : Addr} {xs : List V} {v : V} (h : H a = some (.lst xs)) (i : Int) (e : atI xs i = some v) (q : Q v H) : rIxL K (.ref a) (.int i) H Q := ⟨a, xs, i, v, rfl, rfl, SqL.of h, e, q⟩
end
section
variable {X : Cx} {x : Str} {pos : Pos}
theorem pvn (i : Nat) (hN : X.N[i]? = some x := by rfl) (hv : Vis X.env.scope x := by first | exact Or.inl rfl | exact Or.inr (Or.inl rfl) | exact Or.inr (Or.inr rfl)) (hd : (x == ("__debug__" : Str)) = false := by decide)
    (hcd : (x == ("__classdict__" : Str)) = false := by decide) : PE X (.Name x pos) (tVar i) := pe_var hN hv hd hcd
theorem pgn (i : Nat) (hN : X.N.Nodup) (hi : X.N[i]? = some x := by rfl) (hx : Loc X.env.scope x := by first | exact Or.inl rfl | exact Or.inr rfl) (hf : X.fn x = true ∨ X.env.scope.names.lookup x = some .local := by first | exact .inl rfl | exact .inr rfl) : PG X (.Name x pos) (gName i) := pg_name hN hi hx hf
end
theorem atInt {ns : List Int} {i : Int} (h1 : 0 ≤ i) (h2 : i < (ns.length : Nat)) : ∃ c, atI (ns.map V.int) i = some (.int c) := by
  have h : i.toNat < ns.length := by omega
  refine ⟨ns[i.toNat], ?_⟩
  unfold atI ixN
  rw [List.length_map]
  rw [if_pos h1, if_pos h2]
  simp [h]
theorem fdiv_small {n : Int} (h : n < 2 ^ 60) (h0 : 0 < n := by first | assumption | decide) : n.natAbs < 2 ^ 9000 :=
  Nat.lt_of_lt_of_le (show n.natAbs < 2 ^ 60 by omega) (Nat.pow_le_pow_right (by decide) (by decide))
theorem mulOk_r {a b : Int} (h1 : -(2 ^ 64) < b) (h2 : b < 2 ^ 64) : IntMulOk a b := IntMulOk.of_right (intBits_le_64 h1 h2)
theorem mulOk_l {a b : Int} (h1 : -(2 ^ 64) < a) (h2 : a < 2 ^ 64) : IntMulOk a b := IntMulOk.of_left (intBits_le_64 h1 h2)
/-- the contract of a draw: any number below the size -/
def drawC (t : Nat) : TF := fun svs Q => svs.length = 2 ∧ ∃ n : Int, svs = [.raw t, .dat (.int n)] ∧ 0 < n ∧ n < 2 ^ 60 ∧ ∀ r : Int, 0 ≤ r → r < n → Q (.dat (.int r))
theorem draw_in {K : PySem.W.Frag} {t : Nat} {vs : List V} {H : Hp} {Q : VK} {E : XK} (h : spD K ZPu 2 (drawC t) vs H Q E) :
    ∃ (a : Addr) (n : Int) (g : GW), vs = [.ref a, .int n] ∧ g.zs a = some t ∧ GOk ZPu g H ∧ 0 < n ∧ n < 2 ^ 60 ∧ ∀ r H', 0 ≤ r → r < n → Step g H H' → Q (.int r) H' := by
  obtain ⟨hl, svs, g, r, st, G, Q', ⟨_, n, rfl, h1, h2, q⟩, k⟩ := h
  cases r with
  | cons r r2 =>
    cases r2 with
    | cons r2 r3 =>
      cases r3
      obtain ⟨a, rfl, hz⟩ := r
      cases r2
      refine ⟨a, n, g, rfl, hz, G, h1, h2, fun r H' h3 h4 s => k _ _ g H' (q r h3 h4) s.ok (.int r) (fun xs b e => nomatch e) s.fr⟩
section
variable {X : Cx} {ZP : ZT} {pos : Pos}
theorem dspar {x y : Str} {a b : Expr} {td te : TD} {px py pt : Pos} {kt k2 : Nat} {pt2 : Pos} (i j : Nat) (hN : X.N.Nodup) (ha : DE X ZP a td) (hb : DE X ZP b te) (hc : X.calm = true := by rfl) (hi : X.N[i]? = some x := by rfl) (hj : X.N[j]? = some y := by rfl) (hij : i ≠ j := by decide)
    (hx : X.env.scope.names.lookup x = some .local := by rfl) (hy : X.env.scope.names.lookup y = some .local := by rfl)
    (hw : swappedStores [.Tuple [.Name x px, .Name y py] kt pt] (.Tuple [a, b] k2 pt2) X.env = pure (some [x, y]) := by rfl)
    (hs : swapsWithSole [.Tuple [.Name x px, .Name y py] kt pt] (.Tuple [a, b] k2 pt2) pos.line X.env = pure false := by rfl)
    (hs1 : starEach [a, b] X.env = (false, eval a X.env) :: starEach [b] X.env := by rfl) (hs2 : starEach [b] X.env = (false, eval b X.env) :: starEach [] X.env := by rfl) :
    DS X ZP (.Assign [.Tuple [.Name x px, .Name y py] kt pt] (.Tuple [a, b] k2 pt2) pos) (t_par i j td te) := ds_par hc hN hi hj hij hx hy ha hb hw hs hs1 hs2
end
end Cl

namespace Cl
open PySem PySem.Spec PyProof.Rows L2

/-! ### repr of data that hold lists and dicts -/
section
variable {X : Cx} {pins : List (Addr × Obj)} {σ : L2.St} {H : Hp} {s : Shared} {fz : Addr → Prop}
def RK (X : Cx) (s : Shared) (d : PyData) (u : Value) : Prop := ∃ B, ReadAtMost s.heap d.depth B ∧ ReprK X.prog X.w B s.heap d.depth u d.shown
def RKs (X : Cx) (s : Shared) (ds : List PyData) (us : List Value) : Prop := ∃ B, ReadAtMost s.heap (PyData.depthAll ds) B ∧ ReprAllK X.prog X.w B s.heap (PyData.depthAll ds) us (PyData.shownAll ds)
theorem rks_nil : RKs X s [] [] := ⟨[], (fun _ z => by cases z), by simp only [PyData.shownAll]; exact ReprAllK.nil⟩
theorem rks_cons {d : PyData} {ds : List PyData} {u : Value} {us : List Value} (h1 : RK X s d u) (h2 : RKs X s ds us) : RKs X s (d :: ds) (u :: us) := by
  obtain ⟨B1, a1, k1⟩ := h1
  obtain ⟨B2, a2, k2⟩ := h2
  refine ⟨B1 ++ B2, fun b hb => ?_, ?_⟩
  · simp only [PyData.depthAll]
    rcases List.mem_append.mp hb with hb | hb
    · obtain ⟨e, as, r, le⟩ := a1 b hb
      exact ⟨e, as, r, by omega⟩
    · obtain ⟨e, as, r, le⟩ := a2 b hb
      exact ⟨e, as, r, by omega⟩
  · simp only [PyData.depthAll, PyData.shownAll]
    have m1 : PyData.depth d ≤ max (PyData.depth d) (PyData.depthAll ds) := Nat.le_max_left _ _
    have m2 : PyData.depthAll ds ≤ max (PyData.depth d) (PyData.depthAll ds) := Nat.le_max_right _ _
    exact .cons ((k1.more fun b z => List.mem_append_left _ z).level_le m1) (k2.more_le (fun b z => List.mem_append_right _ z) m2)
theorem rk_list {a : Addr} {ds : List PyData} {its : List Value} {n : Nat} {as : List Addr} (e : s.heap.get? a = some { cls := .type "list", data := .seq its.toArray n }) (hr : Reads s.heap (.ref a) (.list ds) as) (h : RKs X s ds its) : RK X s (.list ds) (.ref a) := by
  obtain ⟨B, hb, hk⟩ := h
  have no : a ∉ B := not_mem_of_deeper hr (show PyData.depthAll ds < _ by simp only [PyData.depth]; omega) hb
  refine ⟨a :: B, ReadAtMost.cons hr (Nat.le_refl _) (fun b z => let ⟨d, as, r, q⟩ := hb b z; ⟨d, as, r, by simp only [PyData.depth]; omega⟩), ?_⟩
  simp only [PyData.depth, PyData.shown]
  cases its with
  | nil =>
    cases hr with
    | list g1 g2 g3 g4 =>
      rw [e] at g1; cases g1
      cases g3
      cases g4
      simp only [PyData.shownAll, listText_nil]
      exact ReprK.listEmpty e rfl rfl
  | cons x l => exact ReprK.list e rfl rfl no (by simpa using hk.length_eq) (fun i y z => hk.item i y (by simpa using z))
theorem rk_tuple {a : Addr} {ds : List PyData} {its : List Value} {as : List Addr} (e : IsTup s.heap a its.toArray) (hr : Reads s.heap (.ref a) (.tuple ds) as) (h : RKs X s ds its) : RK X s (.tuple ds) (.ref a) := by
  obtain ⟨B, hb, hk⟩ := h
  obtain ⟨o, g1, g2, n, g3⟩ := e
  have no : a ∉ B := not_mem_of_deeper hr (show PyData.depthAll ds < _ by simp only [PyData.depth]; omega) hb
  refine ⟨a :: B, ReadAtMost.cons hr (Nat.le_refl _) (fun b z => let ⟨d, as, r, q⟩ := hb b z; ⟨d, as, r, by simp only [PyData.depth]; omega⟩), ?_⟩
  simp only [PyData.depth, PyData.shown]
  exact ReprK.tuple g1 g2 g3 no hk
theorem rk_dict {a : Addr} {kvs : List (PyData × PyData)} {es : List DictEntry} {as : List Addr} (e : DictHas a es s.heap) (hr : Reads s.heap (.ref a) (.dict kvs) as)
    (h1 : RKs X s (kvs.map (·.1)) (es.map (·.key))) (h2 : RKs X s (kvs.map (·.2)) (es.map (·.val))) : RK X s (.dict kvs) (.ref a) := by
  obtain ⟨ne, o, ep, g1, g2, g3⟩ := e
  obtain ⟨B1, a1, k1⟩ := h1
  obtain ⟨B2, a2, k2⟩ := h2
  have hb : ReadAtMost s.heap (PyData.depthKv kvs) (B1 ++ B2) := (a1.mono (PyData.depthAll_keys_le kvs)).append (a2.mono (PyData.depthAll_vals_le kvs))
  have no : a ∉ B1 ++ B2 := not_mem_of_deeper hr (show PyData.depthKv kvs < _ by simp only [PyData.depth]; omega) hb
  refine ⟨a :: (B1 ++ B2), ReadAtMost.cons hr (Nat.le_refl _) (fun b z => let ⟨d, as, r, q⟩ := hb b z; ⟨d, as, r, by simp only [PyData.depth]; omega⟩), ?_⟩
  simp only [PyData.depth, PyData.shown, PyData.shownKv_eq]
  exact ReprK.dict g1 g2.1 g3 (beq_eq_false_iff_ne.mpr ne) no (ReprEntriesK.of_two es _ _ (k1.more_le (fun b z => List.mem_append_left _ z) (PyData.depthAll_keys_le kvs)) (k2.more_le (fun b z => List.mem_append_right _ z) (PyData.depthAll_vals_le kvs)))
theorem rk_flat {d : PyData} {u : Value} (h : ReprIs X.prog X.w u d.shown) : RK X s d u := ⟨[], (fun _ z => by cases z), .of_is h _ _ _⟩
theorem szL {ds : List PyData} (h : (PyData.shown (.list ds)).length ≤ sizeLine) : ∀ t ∈ PyData.shownAll ds, t.length ≤ sizeLine := fun t ht => by
  simp only [PyData.shown] at h
  exact Nat.le_trans (listText_mem_le ht) h
theorem szT {ds : List PyData} (h : (PyData.shown (.tuple ds)).length ≤ sizeLine) : ∀ t ∈ PyData.shownAll ds, t.length ≤ sizeLine := fun t ht => by
  simp only [PyData.shown] at h
  exact Nat.le_trans (tupleText_mem_le ht) h
theorem szD {kvs : List (PyData × PyData)} (h : (PyData.shown (.dict kvs)).length ≤ sizeLine) : (∀ t ∈ PyData.shownAll (kvs.map (·.1)), t.length ≤ sizeLine) ∧ ∀ t ∈ PyData.shownAll (kvs.map (·.2)), t.length ≤ sizeLine := by
  simp only [PyData.shown] at h
  refine ⟨fun t ht => ?_, fun t ht => ?_⟩
  · obtain ⟨p, h1, h2⟩ := PyData.shownKv_key_le kvs t ht
    have := dictText_mem_le h1; omega
  · obtain ⟨p, h1, h2⟩ := PyData.shownKv_val_le kvs t ht
    have := dictText_mem_le h1; omega
mutual
theorem Rp.rk (I : L2.Inv X pins σ H s) : ∀ (d : PyData) (v : V) (u : Value), Rp X.K H fz d v → RelV v u → d.showable = true → d.shown.length ≤ sizeLine → RK X s d u
  | .none, _, _, h, r, hs, hz => by cases h; cases r; exact rk_flat (by simp only [PyData.shown]; exact ReprIs.none)
  | .bool b, _, _, h, r, hs, hz => by cases h; cases r; exact rk_flat (by simp only [PyData.shown]; exact ReprIs.bool b)
  | .int i, _, _, h, r, hs, hz => by cases h; obtain ⟨t, rfl⟩ := r; exact rk_flat (by simp only [PyData.shown]; exact ReprIs.int t (by simpa [PyData.showable] using hs))
  | .str x, _, _, h, r, hs, hz => by cases h; obtain ⟨t, rfl⟩ := r; exact rk_flat (by simp only [PyData.shown] at hz ⊢; exact ReprIs.str x t hz)
  | .list ds, v, u, h, r, hs, hz => by
    have h0 := h
    cases h with
    | @lst a xs _ hf hq ha =>
      cases r
      obtain ⟨_, its, n, rv, e⟩ := Inv.lstR I hq
      obtain ⟨as, hr, _⟩ := Rp.reads I (.list ds) _ (.ref a) h0 rfl
      exact rk_list e hr (Rp.rks I ds _ its ha rv (by simpa [PyData.showable] using hs) (szL hz))
  | .tuple ds, v, u, h, r, hs, hz => by
    have h0 := h
    cases h with
    | @tup a xs _ hq ha =>
      cases r
      obtain ⟨its, rv, ht, _⟩ := I.tuple hq
      obtain ⟨as, hr, _⟩ := Rp.reads I (.tuple ds) _ (.ref a) h0 rfl
      exact rk_tuple ht hr (Rp.rks I ds _ its ha rv (by simpa [PyData.showable] using hs) (szT hz))
  | .dict kvs, v, u, h, r, hs, hz => by
    have h0 := h
    cases h with
    | @dct a es ks vs _ hf hq k1 v1 r1 r2 =>
      cases r
      obtain ⟨hd, _⟩ := I.hok a _ hq
      obtain ⟨as, hr, _⟩ := Rp.reads I (.dict kvs) _ (.ref a) h0 rfl
      obtain ⟨hs1, hs2⟩ := PyData.showableKv_split kvs (by simpa [PyData.showable] using hs)
      obtain ⟨z1, z2⟩ := szD hz
      exact rk_dict hd hr (Rp.rkKey I kvs _ _ r1 k1 hs1 z1) (Rp.rkVal I kvs _ _ r2 v1 hs2 z2)
theorem Rp.rks (I : L2.Inv X pins σ H s) : ∀ (ds : List PyData) (vs : List V) (us : List Value), RpAll X.K H fz ds vs → Vals vs us → PyData.showableAll ds = true → (∀ t ∈ PyData.shownAll ds, t.length ≤ sizeLine) → RKs X s ds us
  | [], _, _, h, r, _, _ => by cases h; cases r; exact rks_nil
  | d :: ds, _, _, h, r, hs, hz => by
    cases h with
    | cons h1 h2 =>
      cases r with
      | cons r1 r2 =>
        have hs : d.showable = true ∧ PyData.showableAll ds = true := by simpa [PyData.showableAll] using hs
        have z : ∀ t ∈ d.shown :: PyData.shownAll ds, t.length ≤ sizeLine := by simpa only [PyData.shownAll] using hz
        exact rks_cons (Rp.rk I d _ _ h1 r1 hs.1 (z _ List.mem_cons_self)) (Rp.rks I ds _ _ h2 r2 hs.2 fun t ht => z t (List.mem_cons_of_mem _ ht))
theorem Rp.rkKey (I : L2.Inv X pins σ H s) : ∀ (kvs : List (PyData × PyData)) (vs : List V) (us : List Value), RpAll X.K H fz (kvs.map (·.1)) vs → Vals vs us → PyData.showableAll (kvs.map (·.1)) = true → (∀ t ∈ PyData.shownAll (kvs.map (·.1)), t.length ≤ sizeLine) → RKs X s (kvs.map (·.1)) us
  | [], _, _, h, r, _, _ => by cases h; cases r; exact rks_nil
  | (d, e) :: ds, _, _, h, r, hs, hz => by
    cases h with
    | cons h1 h2 =>
      cases r with
      | cons r1 r2 =>
        have hs : d.showable = true ∧ PyData.showableAll (ds.map (·.1)) = true := by simpa [PyData.showableAll] using hs
        have z : ∀ t ∈ d.shown :: PyData.shownAll (ds.map (·.1)), t.length ≤ sizeLine := by simpa only [PyData.shownAll, List.map_cons] using hz
        exact rks_cons (Rp.rk I d _ _ h1 r1 hs.1 (z _ List.mem_cons_self)) (Rp.rkKey I ds _ _ h2 r2 hs.2 fun t ht => z t (List.mem_cons_of_mem _ ht))
theorem Rp.rkVal (I : L2.Inv X pins σ H s) : ∀ (kvs : List (PyData × PyData)) (vs : List V) (us : List Value), RpAll X.K H fz (kvs.map (·.2)) vs → Vals vs us → PyData.showableAll (kvs.map (·.2)) = true → (∀ t ∈ PyData.shownAll (kvs.map (·.2)), t.length ≤ sizeLine) → RKs X s (kvs.map (·.2)) us
  | [], _, _, h, r, _, _ => by cases h; cases r; exact rks_nil
  | (e, d) :: ds, _, _, h, r, hs, hz => by
    cases h with
    | cons h1 h2 =>
      cases r with
      | cons r1 r2 =>
        have hs : d.showable = true ∧ PyData.showableAll (ds.map (·.2)) = true := by simpa [PyData.showableAll] using hs
        have z : ∀ t ∈ d.shown :: PyData.shownAll (ds.map (·.2)), t.length ≤ sizeLine := by simpa only [PyData.shownAll, List.map_cons] using hz
        exact rks_cons (Rp.rk I d _ _ h1 r1 hs.1 (z _ List.mem_cons_self)) (Rp.rkVal I ds _ _ h2 r2 hs.2 fun t ht => z t (List.mem_cons_of_mem _ ht))
end
/-- how the top of it is shown -/
theorem shows_list {a : Addr} {ds : List PyData} {its : List Value} {n : Nat} {as : List Addr} (e : s.heap.get? a = some { cls := .type "list", data := .seq its.toArray n }) (hr : Reads s.heap (.ref a) (.list ds) as) (h : RKs X s ds its)
    (hz : (PyData.shown (.list ds)).length ≤ sizeLine) : ShowsBy X.prog X.w s.heap a (.list ds) "list" "list.__repr__" := by
  obtain ⟨B, hb, hk⟩ := h
  have no : a ∉ B := not_mem_of_deeper hr (show PyData.depthAll ds < _ by simp only [PyData.depth]; omega) hb
  refine { slotRepr := F.slot_list_repr.toG, slotStr := F.slot_list_str, slotFmt := F.slot_list_format, typeIs := fun s' k => ⟨_, k _ _ e, rfl⟩, call := fun A E s' Q hg hu k0 q => ?_ }
  simp only [PyData.depth] at hu
  simp only [PyData.shown] at q hz
  cases its with
  | nil =>
    cases hr with
    | list g1 g2 g3 g4 =>
      rw [e] at g1; cases g1
      cases g3
      cases g4
      simp only [PyData.shownAll, listText_nil] at q
      exact call_list_repr_empty ⟨_, k0 _ _ e, rfl⟩ (k0 _ _ e) rfl (q s'.heap _ _ fun _ _ z => z)
  | cons x l => exact call_list_reprK e rfl rfl no (by simpa using hk.length_eq) (fun i y z => hk.item i y (by simpa using z)) hg (fun b _ => Clear.nil b) hu k0 q hz
theorem shows_tuple {a : Addr} {ds : List PyData} {its : List Value} {as : List Addr} (e : IsTup s.heap a its.toArray) (hr : Reads s.heap (.ref a) (.tuple ds) as) (h : RKs X s ds its)
    (hz : (PyData.shown (.tuple ds)).length ≤ sizeLine) : ShowsBy X.prog X.w s.heap a (.tuple ds) "tuple" "tuple.__repr__" := by
  obtain ⟨B, hb, hk⟩ := h
  obtain ⟨o, g1, g2, n, g3⟩ := e
  have no : a ∉ B := not_mem_of_deeper hr (show PyData.depthAll ds < _ by simp only [PyData.depth]; omega) hb
  refine { slotRepr := F.slot_tuple_repr, slotStr := F.slot_tuple_str, slotFmt := F.slot_tuple_format, typeIs := fun s' k => ⟨o, k _ _ g1, g2⟩, call := fun A E s' Q hg hu k0 q => ?_ }
  simp only [PyData.depth] at hu
  simp only [PyData.shown] at q hz
  exact call_tuple_reprK g1 g2 g3 no hk hg (fun b _ => Clear.nil b) hu k0 q hz
theorem shows_dict {a : Addr} {kvs : List (PyData × PyData)} {es : List DictEntry} {as : List Addr} (e : DictHas a es s.heap) (hr : Reads s.heap (.ref a) (.dict kvs) as)
    (h1 : RKs X s (kvs.map (·.1)) (es.map (·.key))) (h2 : RKs X s (kvs.map (·.2)) (es.map (·.val))) (hz : (PyData.shown (.dict kvs)).length ≤ sizeLine) : ShowsBy X.prog X.w s.heap a (.dict kvs) "dict" "dict.__repr__" := by
  obtain ⟨ne, o, ep, g1, g2, g3⟩ := e
  obtain ⟨B1, a1, k1⟩ := h1
  obtain ⟨B2, a2, k2⟩ := h2
  have hb : ReadAtMost s.heap (PyData.depthKv kvs) (B1 ++ B2) := (a1.mono (PyData.depthAll_keys_le kvs)).append (a2.mono (PyData.depthAll_vals_le kvs))
  have no : a ∉ B1 ++ B2 := not_mem_of_deeper hr (show PyData.depthKv kvs < _ by simp only [PyData.depth]; omega) hb
  refine { slotRepr := F.slot_dict_repr, slotStr := F.slot_dict_str, slotFmt := F.slot_dict_format, typeIs := fun s' k => ⟨o, k _ _ g1, g2.1⟩, call := fun A E s' Q hg hu k0 q => ?_ }
  simp only [PyData.depth] at hu
  simp only [PyData.shown, PyData.shownKv_eq] at q
  simp only [PyData.shown] at hz
  exact call_dict_reprK g1 g2.1 g3 (beq_eq_false_iff_ne.mpr ne) no (ReprEntriesK.of_two es _ _ (k1.more_le (fun b z => List.mem_append_left _ z) (PyData.depthAll_keys_le kvs))
    (k2.more_le (fun b z => List.mem_append_right _ z) (PyData.depthAll_vals_le kvs))) hg (fun b _ => Clear.nil b) hu k0 q (by rw [← PyData.shownKv_eq]; exact hz)
theorem RB.shows (I : L2.Inv X pins σ H s) {d : PyData} {a : Addr} (h : RB X.K H fz d (.ref a)) (hs : d.showable = true) (hz : d.shown.length ≤ sizeLine) : ∃ T idr, ShowsBy X.prog X.w s.heap a d T idr := by
  obtain ⟨as, hr, _⟩ := RB.reads I (u := .ref a) h rfl
  cases d with
  | list ds =>
    obtain ⟨b, xs, e, hq, ha⟩ := h.lst
    cases e
    obtain ⟨_, its, n, rv, e⟩ := Inv.lstR I hq
    exact ⟨_, _, shows_list e hr (Rp.rks I ds _ its ha rv (by simpa [PyData.showable] using hs) (szL hz)) hz⟩
  | tuple ds =>
    obtain ⟨b, xs, e, hq, ha⟩ := h.tup
    cases e
    obtain ⟨its, rv, ht, _⟩ := I.tuple hq
    exact ⟨_, _, shows_tuple ht hr (Rp.rks I ds _ its ha rv (by simpa [PyData.showable] using hs) (szT hz)) hz⟩
  | dict kvs =>
    obtain ⟨b, es, ks, vs, e, hq, k1, v1, r1, r2⟩ := h
    cases e
    obtain ⟨hd, _⟩ := I.hok a _ hq
    obtain ⟨hs1, hs2⟩ := PyData.showableKv_split kvs (by simpa [PyData.showable] using hs)
    obtain ⟨z1, z2⟩ := szD hz
    exact ⟨_, _, shows_dict hd hr (Rp.rkKey I kvs _ _ r1 k1 hs1 z1) (Rp.rkVal I kvs _ _ r2 v1 hs2 z2) hz⟩
  | none => cases h.non
  | bool b => cases h.bl
  | int b => cases h.int
  | str b => cases h.str
end

def shOk (d : PyData) : Prop := d.showable = true ∧ d.depth ≤ 60 ∧ d.shown.length ≤ sizeLine
def shX : C1X := fun d Q => shOk d ∧ Q (.dat (.str d.shown))
section
variable {X : Cx}
theorem c_show (hg : X.A.guards = some []) (hu : X.A.units + 64 < cLine) : CallR X (.builtin "repr") (rC1 X.K shX) := by
  rintro pins s σ H xs us Q I r ⟨x, fz, d, rfl, hd, Q', ⟨⟨z1, z3, z4⟩, q⟩, k⟩
  obtain ⟨u, rfl, ru⟩ := vals1 r
  have done : ∀ (h' : Heap) (t tk : Nat), (∀ b o, s.heap.get? b = some o → h'.get? b = some o) → EP X pins σ Q (.str d.shown t) { s with heap := h', toks := tk } := fun h' t tk hk =>
    ⟨.str _, H, I.kept hk, ⟨t, rfl⟩, k _ _ _ q (.same (.str _))⟩
  have ref : ∀ a, x = V.ref a → wpAny (model X.prog X.w) X.A (call (.builtin "repr") [u]) (EP X pins σ Q) X.xe s := fun a e => by
    subst e
    cases ru
    obtain ⟨T, idr, S⟩ := RB.shows I hd z1 z4
    exact call_repr_slot (by omega) (S.typeIs s fun _ _ e => e) S.slotRepr (S.call X.A.in1 _ s _ hg (by show X.A.units + 1 + d.depth < cLine; omega) (fun _ _ e => e) fun h' u tk hk => ⟨_, _, rfl, done h' u tk hk⟩)
  cases d with
  | none => cases hd.non; cases ru; exact PySem.P.repr_of_none (done s.heap _ _ fun _ _ e => e)
  | bool b => cases hd.bl; cases ru; exact PySem.P.repr_of_bool (done s.heap _ _ fun _ _ e => e)
  | int i =>
    cases hd.int
    obtain ⟨t, rfl⟩ := ru
    exact PySem.P.repr_of_int (by simpa [PyData.showable] using z1) (done s.heap _ _ fun _ _ e => e)
  | str x =>
    cases hd.str
    obtain ⟨t, rfl⟩ := ru
    exact PySem.P.repr_of_str (done s.heap _ _ fun _ _ e => e) z4
  | list ds => obtain ⟨a, vs, e, _⟩ := id hd.lst; exact ref a e
  | tuple ds => obtain ⟨a, vs, e, _⟩ := id hd.tup; exact ref a e
  | dict ds => obtain ⟨a, es, ks, vs, e, _⟩ := id hd; exact ref a e
end
end Cl

namespace Cl
open PySem PySem.Spec PyProof.Rows L2

/-- ==, texts and ints without a condition -/
def eqY : OpX := fun x y Q => match x, y with
  | .str a, .str b => Q (.dat (.bool (decide (a = b))))
  | .int a, .int b => Q (.dat (.bool (decide (a = b))))
  | x, y => eqX x y Q
def neY : OpX := fun x y Q => match x, y with
  | .str a, .str b => Q (.dat (.bool (!decide (a = b))))
  | .int a, .int b => Q (.dat (.bool (!decide (a = b))))
  | x, y => neX x y Q
theorem oy_eq {X : Cx} (hu : X.A.units + 64 < cLine) : OpR X (compareOp .Eq) (rO X.K eqY) := by
  rintro pins s σ H x y v u Q I rx ry ⟨fz, d, e, hd, he, Q', q, k⟩
  have old : eqX d e Q' → wpAny (model X.prog X.w) X.A (compareOp .Eq v u) (EP X pins σ Q) X.xe s := fun q => ox_eq hu pins s σ H x y v u Q I rx ry ⟨fz, d, e, hd, he, Q', q, k⟩
  cases d with
  | str a =>
    cases e with
    | str b =>
      cases hd.str; cases he.str
      refine op_eq pins s σ H _ _ v u Q I rx ry ⟨rfl, k _ _ _ q ?_⟩
      rw [show decide (V.str a = V.str b) = decide (a = b) by simp]
      exact .same (.bl _)
    | _ => exact old q
  | int a =>
    cases e with
    | int b =>
      cases hd.int; cases he.int
      refine op_eq pins s σ H _ _ v u Q I rx ry ⟨rfl, k _ _ _ q ?_⟩
      rw [show decide (V.int a = V.int b) = decide (a = b) by simp]
      exact .same (.bl _)
    | _ => exact old q
  | _ => cases e <;> exact old q
theorem oy_ne {X : Cx} (hu : X.A.units + 64 < cLine) : OpR X (compareOp .NotEq) (rO X.K neY) := by
  rintro pins s σ H x y v u Q I rx ry ⟨fz, d, e, hd, he, Q', q, k⟩
  have old : neX d e Q' → wpAny (model X.prog X.w) X.A (compareOp .NotEq v u) (EP X pins σ Q) X.xe s := fun q => ox_ne hu pins s σ H x y v u Q I rx ry ⟨fz, d, e, hd, he, Q', q, k⟩
  cases d with
  | str a =>
    cases e with
    | str b =>
      cases hd.str; cases he.str
      refine op_ne pins s σ H _ _ v u Q I rx ry ⟨rfl, k _ _ _ q ?_⟩
      rw [show decide (V.str a = V.str b) = decide (a = b) by simp]
      exact .same (.bl _)
    | _ => exact old q
  | int a =>
    cases e with
    | int b =>
      cases hd.int; cases he.int
      refine op_ne pins s σ H _ _ v u Q I rx ry ⟨rfl, k _ _ _ q ?_⟩
      rw [show decide (V.int a = V.int b) = decide (a = b) by simp]
      exact .same (.bl _)
    | _ => exact old q
  | _ => cases e <;> exact old q

/-! ### tame data -/
structure Tm (W D : Nat) (d : PyData) : Prop where
  lv : d.leavesShort 200 = true
  sh : d.showable = true
  wt : d.weight ≤ W
  dp : d.depth ≤ D
structure TmA (W D : Nat) (ds : List PyData) : Prop where
  lv : PyData.leavesShortAll 200 ds = true
  sh : PyData.showableAll ds = true
  wt : PyData.weightAll ds ≤ W
  dp : PyData.depthAll ds ≤ D
theorem TmA.nil {W D : Nat} : TmA W D [] := ⟨by simp [PyData.leavesShortAll], by simp [PyData.showableAll], by simp [PyData.weightAll], by simp [PyData.depthAll]⟩
theorem TmA.cons {W V D : Nat} {d : PyData} {ds : List PyData} (h : Tm W D d) (r : TmA V D ds) : TmA (W + 1 + V) D (d :: ds) := by
  refine ⟨by simp [PyData.leavesShortAll, h.lv, r.lv], by simp [PyData.showableAll, h.sh, r.sh], ?_, ?_⟩
  · have := h.wt; have := r.wt; simp only [PyData.weightAll]; omega
  · have := h.dp; have := r.dp; simp only [PyData.depthAll]; omega
theorem TmA.of {W D : Nat} : ∀ {ds : List PyData}, (∀ d ∈ ds, Tm W D d) → TmA (ds.length * (W + 1)) D ds
  | [], _ => TmA.nil
  | d :: ds, h => by
    have := TmA.cons (h d List.mem_cons_self) (TmA.of fun x hx => h x (List.mem_cons_of_mem _ hx))
    rw [List.length_cons, Nat.succ_mul, Nat.add_comm]
    exact this
theorem Tm.mono {W D W' D' : Nat} {d : PyData} (h : Tm W D d) (h1 : W ≤ W') (h2 : D ≤ D') : Tm W' D' d := ⟨h.lv, h.sh, Nat.le_trans h.wt h1, Nat.le_trans h.dp h2⟩
theorem TmA.mono {W D W' D' : Nat} {d : List PyData} (h : TmA W D d) (h1 : W ≤ W') (h2 : D ≤ D') : TmA W' D' d := ⟨h.lv, h.sh, Nat.le_trans h.wt h1, Nat.le_trans h.dp h2⟩
theorem TmA.tup {W D : Nat} {ds : List PyData} (h : TmA W D ds) : Tm W (D + 1) (.tuple ds) :=
  ⟨by simpa [PyData.leavesShort] using h.lv, by simpa [PyData.showable] using h.sh, by simpa [PyData.weight] using h.wt, by have := h.dp; simp only [PyData.depth]; omega⟩
theorem TmA.lst {W D : Nat} {ds : List PyData} (h : TmA W D ds) : Tm W (D + 1) (.list ds) :=
  ⟨by simpa [PyData.leavesShort] using h.lv, by simpa [PyData.showable] using h.sh, by simpa [PyData.weight] using h.wt, by have := h.dp; simp only [PyData.depth]; omega⟩
theorem Tm.tupOf {W D n : Nat} {ds : List PyData} (h : ∀ d ∈ ds, Tm W D d) (hn : ds.length ≤ n) : Tm (n * (W + 1)) (D + 1) (.tuple ds) :=
  ((TmA.of h).mono (Nat.mul_le_mul_right _ hn) (Nat.le_refl _)).tup
theorem Tm.lstOf {W D n : Nat} {ds : List PyData} (h : ∀ d ∈ ds, Tm W D d) (hn : ds.length ≤ n) : Tm (n * (W + 1)) (D + 1) (.list ds) :=
  ((TmA.of h).mono (Nat.mul_le_mul_right _ hn) (Nat.le_refl _)).lst
theorem Tm.dct1 {W V D : Nat} {k v : PyData} (h1 : Tm W D k) (h2 : Tm V D v) : Tm (W + V + 2) (D + 1) (.dict [(k, v)]) := by
  refine ⟨by simp [PyData.leavesShort, PyData.leavesShortKv, h1.lv, h2.lv], by simp [PyData.showable, PyData.showableKv, h1.sh, h2.sh], ?_, ?_⟩
  · have := h1.wt; have := h2.wt; simp only [PyData.weight, PyData.weightKv]; omega
  · have := h1.dp; have := h2.dp; simp only [PyData.depth, PyData.depthKv]; omega
theorem Tm.ok {W D : Nat} {d : PyData} (h : Tm W D d) (h1 : W ≤ 80000 := by decide) (h2 : D ≤ 60 := by decide) : shOk d := by
  refine ⟨h.sh, Nat.le_trans h.dp h2, ?_⟩
  have e := PyData.shown_le 200 (by decide) d h.lv
  have w := h.wt
  rw [sizeLine_eq]
  omega
theorem Tm.int {i : Int} (h0 : -190 < i) (h1 : i < 190) : Tm 10 0 (.int i) := by
  have hl := len_str_of_int i
  have hb : i.natAbs < 2 ^ 8 := by omega
  have h8 : i.natAbs.log2 < 8 := PySem.Flt.log2_lt_of (by decide) hb
  refine ⟨?_, ?_, ?_, by simp [PyData.depth]⟩
  · have hl2 : ((Str.ofString (toString i)).length : Int) ≤ 200 := by omega
    have hl3 : (Str.ofString (toString i)).length ≤ 200 := Int.ofNat_le.mp hl2
    exact (show PyData.leavesShort 200 (.int i) = decide ((Str.ofString (toString i)).length ≤ 200) by simp only [PyData.leavesShort, PyData.shown]; rfl) ▸ decide_eq_true hl3
  · simp only [PyData.showable, decide_eq_true_eq]
    omega
  · simp only [PyData.weight]
    split <;> omega

/-! ### loops -/
theorem forD_ind {gt : TGD} {tb : TSD} {D : DEnds} (I : List PyData → CS → Prop) (h0 : ∀ cs, I [] cs → D.nx cs)
    (hs : ∀ d ds cs (N : CS → Prop), (∀ cs', I ds cs' → N cs') → I (d :: ds) cs → gt (.dat d) cs fun cs1 => tb { nx := N, rt := D.rt, bk := D.nx, ct := N } cs1) : ∀ ds cs, I ds cs → forD gt tb D ds cs
  | [], cs, h => h0 cs h
  | d :: ds, cs, h => hs d ds cs _ (fun cs' z => forD_ind I h0 hs ds cs' z) h
theorem lcD_ind {vs : List Nat} {gt : TGD} {tt : TTD} {te : TVD} {Q : List PyData → CS → Prop} (I : List PyData → List PyData → CS → Prop) (h0 : ∀ acc cs, I [] acc cs → Q acc cs)
    (hs : ∀ d ds acc cs (N : List PyData → CS → Prop), (∀ acc' cs', I ds acc' cs' → N acc' cs') → I (d :: ds) acc cs →
      gt (.dat d) cs fun cs1 => tt cs1 fun b cs2 => if b = true then te cs2 fun y cs3 => acc.length < sizeLine ∧ N (acc ++ [y]) (wipeC cs3 vs) else N acc (wipeC cs2 vs)) : ∀ ds acc cs, I ds acc cs → lcD vs gt tt te Q ds acc cs
  | [], acc, cs, h => h0 acc cs h
  | d :: ds, acc, cs, h => hs d ds acc cs _ (fun acc' cs' z => lcD_ind I h0 hs ds acc' cs' z) h

def t_chI (ta tb : TLD) (k : Int) : TD := fun cs Q => ta cs fun l cs1 => tb cs1 fun m cs2 => ∃ i j, l.get cs2 = some (.int i) ∧ m.get cs2 = some (.int j) ∧ Q (.dat (.bool (decide (i ≤ j ∧ j ≤ k)))) cs2
theorem chI_eq (ta tb : TLD) (k : Int) : t_chain' leX leX ta tb (t_l (t_c (.int k))) = t_chI ta tb k := by
  funext cs Q
  unfold t_chain' t_chI
  congr 1
  funext l cs1
  congr 1
  funext m cs2
  apply propext
  constructor
  · rintro ⟨d, e, h1, h2, h3⟩
    cases d with
    | int i =>
      cases e with
      | int j =>
        refine ⟨i, j, h1, h2, ?_⟩
        rcases h3 with ⟨b, q⟩ | ⟨b, e', f, g1, g2, g3⟩
        · have b : decide (i ≤ j) = false := by simpa using b
          have nb : ¬ i ≤ j := by simpa using b
          rw [decide_eq_false (fun z => nb z.1)]
          exact q
        · rw [h2] at g1; cases g1
          have g2 : some (PyData.int k) = some f := g2
          cases g2
          have b : decide (i ≤ j) = true := by simpa using b
          have nb : i ≤ j := by simpa using b
          rw [show decide (i ≤ j ∧ j ≤ k) = decide (j ≤ k) by simp [nb]]
          exact g3.2
      | _ => exact h3.elim
    | _ => cases e <;> exact h3.elim
  · rintro ⟨i, j, h1, h2, h3⟩
    refine ⟨_, _, h1, h2, ?_⟩
    by_cases h : i ≤ j
    · refine .inr ⟨by simp [h], _, _, h2, rfl, ⟨_, rfl⟩, ?_⟩
      rw [show decide (i ≤ j ∧ j ≤ k) = decide (j ≤ k) by simp [h]] at h3
      exact h3
    · refine .inl ⟨by simp [h], ?_⟩
      rw [decide_eq_false (fun z => h z.1)] at h3
      exact h3
theorem forD_nil {gt : TGD} {tb : TSD} {D : DEnds} {cs : CS} : forD gt tb D [] cs = D.nx cs := rfl
theorem enumRs_nil {k : Nat} : enumRs k [] = [] := rfl
theorem enumRs_cons {k : Nat} {d : PyData} {ds : List PyData} : enumRs k (d :: ds) = [.int (k : Nat), d] :: enumRs (k + 1) ds := rfl
theorem rowsD_nil : rowsD [] = [] := rfl
theorem rowsD_cons {r : List PyData} {rs : List (List PyData)} : rowsD (r :: rs) = .tuple r :: rowsD rs := rfl

theorem seq_step {a b : TSD} {D : DEnds} {cs : CS} (P : CS → Prop) (h : ∀ N : CS → Prop, (∀ cs', P cs' → N cs') → a { D with nx := N } cs) (h2 : ∀ cs', P cs' → b D cs') : t_seq a b D cs := h _ h2
theorem cut_take (xs : List PyData) (k : Nat) : cutD xs none (some (k : Nat)) = xs.take k := by
  unfold cutD
  rw [HT.sIx_none, HT.sIx_nat, List.drop_zero, Nat.sub_zero]
  by_cases h : k ≤ xs.length
  · rw [Nat.min_eq_left h]
  · rw [Nat.min_eq_right (by omega), List.take_length, List.take_of_length_le (by omega)]
theorem cut_drop (xs : List PyData) (k : Nat) : cutD xs (some (k : Nat)) none = xs.drop k := by
  unfold cutD
  rw [HT.sIx_none, HT.sIx_nat]
  by_cases h : k ≤ xs.length
  · rw [Nat.min_eq_left h, List.take_of_length_le (by simp)]
  · rw [Nat.min_eq_right (by omega), List.drop_length, List.drop_of_length_le (by omega)]
    simp

theorem lcD_filter {vs : List Nat} {gt : TGD} {tt : TTD} {te : TVD} {Q : List PyData → CS → Prop} (p : PyData → Bool) (f : PyData → PyData) (S : CS) : ∀ (ds acc : List PyData), acc.length + ds.length ≤ sizeLine →
    (∀ d ∈ ds, ∀ (K : PyData → CS → Prop) (N : CS → Prop), (p d = true → K (f d) S) → (p d = false → N S) → gt (.dat d) S fun cs1 => tt cs1 fun b cs2 => if b = true then te cs2 (fun y cs3 => K y (wipeC cs3 vs)) else N (wipeC cs2 vs)) →
    Q (acc ++ (ds.filter p).map f) S → lcD vs gt tt te Q ds acc S
  | [], acc, _, _, h => by
    simp only [List.filter_nil, List.map_nil, List.append_nil] at h
    exact h
  | d :: ds, acc, hl, hs, h => by
    rw [List.length_cons] at hl
    refine hs d List.mem_cons_self (fun y cs => acc.length < sizeLine ∧ lcD vs gt tt te Q ds (acc ++ [y]) cs) (fun cs => lcD vs gt tt te Q ds acc cs) (fun hp => ⟨by omega, ?_⟩) fun hp => ?_
    · refine lcD_filter p f S ds (acc ++ [f d]) (by rw [List.length_append, List.length_singleton]; omega) (fun x hx => hs x (List.mem_cons_of_mem _ hx)) ?_
      rw [List.filter_cons_of_pos hp, List.map_cons] at h
      simpa using h
    · refine lcD_filter p f S ds acc (by omega) (fun x hx => hs x (List.mem_cons_of_mem _ hx)) ?_
      rw [List.filter_cons_of_neg (by simp [hp])] at h
      exact h
theorem lcD_map {vs : List Nat} {gt : TGD} {tt : TTD} {te : TVD} {Q : List PyData → CS → Prop} (f : PyData → PyData) (S : CS) (ds : List PyData) (hl : ds.length ≤ sizeLine)
    (hs : ∀ d ∈ ds, ∀ (K : PyData → CS → Prop) (N : CS → Prop), K (f d) S → gt (.dat d) S fun cs1 => tt cs1 fun b cs2 => if b = true then te cs2 (fun y cs3 => K y (wipeC cs3 vs)) else N (wipeC cs2 vs)) (h : Q (ds.map f) S) : lcD vs gt tt te Q ds [] S :=
  lcD_filter (fun _ => true) f S ds [] (by simpa using hl) (fun d hd K N h1 _ => hs d hd K N (h1 rfl)) (by rw [List.nil_append, List.filter_eq_self.mpr (fun _ _ => rfl)]; exact h)
theorem rangeD_len {n : Int} : (rangeD 0 n).length = n.toNat := by simp [rangeD]
end Cl

namespace Cl
open PySem PySem.Spec PyProof.Rows L2
/-- the law at a script -/
theorem law_want {K : PySem.W.Frag} {C : TF} {H : Hp} {a : Addr} {ns : List Int} (only : Only H) (hS : SqL K H a (ns.map V.int)) (hC : C [.scr ns] fun sv => sv = .dat (.bool true)) :
    spD K ZPu 1 C [.ref a] H (fun v _ => v = .bl true) fun _ _ _ => False := by
  refine ⟨rfl, [.scr ns], ⟨fun b => ∃ o, H b = some o, fun _ => none⟩, .cons ⟨a, rfl, ?_⟩ .nil, fun sv hm => ?_, ⟨fun b t e => (by cases e), fun b h => ⟨h, rfl⟩⟩, _, hC, fun sv v g' H' e _ r _ _ => ?_⟩
  · rcases hS with h | h
    · rcases h with h | ⟨o, h⟩
      · rcases only a with z | ⟨ob, xs, z⟩
        · rw [h] at z; cases z
        · rw [h] at z; cases z
      · exact .inl ⟨⟨_, h⟩, o, h⟩
    · exact .inr h
  · rw [List.mem_singleton] at hm; subst hm; rfl
  · subst e
    cases r
    rfl
end Cl

namespace Cl
open PySem PySem.Spec PyProof.Rows L2

/-! ### order of data that are alike -/
def alk (x y : PyData) : Prop := PySem.W.alike x y = true ∧ x ≠ .none ∧ min x.depth y.depth ≤ 60
def ltY : OpX := fun x y Q => match x, y with
  | .int i, .int j => Q (.dat (.bool (decide (i < j))))
  | x, y => alk x y ∧ Q (.dat (.bool (PySem.W.dataLt x y)))
def gtY : OpX := fun x y Q => match x, y with
  | .int i, .int j => Q (.dat (.bool (decide (j < i))))
  | x, y => alk x y ∧ Q (.dat (.bool (PySem.W.dataLt y x)))
section
variable {X : Cx}
theorem oy_lt (hu : X.A.units + 64 < cLine) : OpR X (compareOp .Lt) (rO X.K ltY) := by
  rintro pins s σ H x y v u Q I rx ry ⟨fz, d, e, hd, he, Q', q, k⟩
  have gen : alk d e ∧ Q' (.dat (.bool (PySem.W.dataLt d e))) → wpAny (model X.prog X.w) X.A (compareOp .Lt v u) (EP X pins σ Q) X.xe s := fun ⟨⟨a1, a2, a3⟩, q⟩ => by
    obtain ⟨as, r1, _⟩ := RB.reads I hd rx
    obtain ⟨bs, r2, _⟩ := RB.reads I he ry
    exact PySem.W.lt_data r1 r2 a1 a2 (by omega) ⟨.bl _, H, I, rfl, k _ _ _ q (.same (.bl _))⟩
  cases d with
  | int i =>
    cases e with
    | int j =>
      cases hd.int; cases he.int
      exact op_lt pins s σ H _ _ v u Q I rx ry ⟨i, j, rfl, rfl, k _ _ _ q (.same (.bl _))⟩
    | _ => exact gen q
  | _ => cases e <;> exact gen q
theorem oy_gt (hu : X.A.units + 64 < cLine) : OpR X (compareOp .Gt) (rO X.K gtY) := by
  rintro pins s σ H x y v u Q I rx ry ⟨fz, d, e, hd, he, Q', q, k⟩
  have gen : alk d e ∧ Q' (.dat (.bool (PySem.W.dataLt e d))) → wpAny (model X.prog X.w) X.A (compareOp .Gt v u) (EP X pins σ Q) X.xe s := fun ⟨⟨a1, a2, a3⟩, q⟩ => by
    obtain ⟨as, r1, _⟩ := RB.reads I hd rx
    obtain ⟨bs, r2, _⟩ := RB.reads I he ry
    exact PySem.W.gt_data r1 r2 a1 a2 (by omega) ⟨.bl _, H, I, rfl, k _ _ _ q (.same (.bl _))⟩
  cases d with
  | int i =>
    cases e with
    | int j =>
      cases hd.int; cases he.int
      exact op_gt pins s σ H _ _ v u Q I rx ry ⟨i, j, rfl, rfl, k _ _ _ q (.same (.bl _))⟩
    | _ => exact gen q
  | _ => cases e <;> exact gen q
end

/-! ### x in l, x not in l -/
def inB (d : PyData) (ds : List PyData) : Bool := ds.any fun z => PyData.eqv z d
def inOk (d : PyData) (ds : List PyData) : Prop := PyData.canLayAll0 ds = true ∧ d.canLay0 = true ∧ min (PyData.depthAll ds) d.depth ≤ 60
def inX : OpX := fun x y Q => match y with
  | .list ds => inOk x ds ∧ Q (.dat (.bool (inB x ds)))
  | .tuple ds => inOk x ds ∧ Q (.dat (.bool (inB x ds)))
  | .str z => ∃ c, x = .str ⟨#[c]⟩ ∧ Q (.dat (.bool (decide (c ∈ z.cps.toList))))
  | _ => False
def notinX : OpX := fun x y Q => match y with
  | .list ds => inOk x ds ∧ Q (.dat (.bool (!inB x ds)))
  | .tuple ds => inOk x ds ∧ Q (.dat (.bool (!inB x ds)))
  | .str z => ∃ c, x = .str ⟨#[c]⟩ ∧ Q (.dat (.bool (!decide (c ∈ z.cps.toList))))
  | _ => False
section
variable {X : Cx}
theorem ox_in (hu : X.A.units + 64 < cLine) : OpR X (compareOp .In) (rO X.K inX) := by
  rintro pins s σ H x y v u Q I rx ry ⟨fz, d, e, hd, he, Q', q, k⟩
  obtain ⟨as, r1, _⟩ := RB.reads I hd rx
  obtain ⟨bs, r2, _⟩ := RB.reads I he ry
  cases e with
  | list ds =>
    obtain ⟨⟨h1, h2, h3⟩, q⟩ := q
    exact SeqAt.in_list_reads r2 r1 h1 h2 (by omega) ⟨.bl _, H, I, rfl, k _ _ _ q (.same (.bl _))⟩
  | tuple ds =>
    obtain ⟨⟨h1, h2, h3⟩, q⟩ := q
    exact SeqAt.in_tuple_reads r2 r1 h1 h2 (by omega) ⟨.bl _, H, I, rfl, k _ _ _ q (.same (.bl _))⟩
  | str z =>
    obtain ⟨c, rfl, q⟩ := q
    cases hd.str; cases he.str
    exact op_in_sign pins s σ H _ _ v u Q I rx ry ⟨c, z, rfl, rfl, k _ _ _ q (.same (.bl _))⟩
  | _ => exact q.elim
theorem ox_notin (hu : X.A.units + 64 < cLine) : OpR X (compareOp .NotIn) (rO X.K notinX) := by
  rintro pins s σ H x y v u Q I rx ry ⟨fz, d, e, hd, he, Q', q, k⟩
  obtain ⟨as, r1, _⟩ := RB.reads I hd rx
  obtain ⟨bs, r2, _⟩ := RB.reads I he ry
  cases e with
  | list ds =>
    obtain ⟨⟨h1, h2, h3⟩, q⟩ := q
    exact SeqAt.notIn_list_reads r2 r1 h1 h2 (by omega) ⟨.bl _, H, I, rfl, k _ _ _ q (.same (.bl _))⟩
  | tuple ds =>
    obtain ⟨⟨h1, h2, h3⟩, q⟩ := q
    exact SeqAt.notIn_tuple_reads r2 r1 h1 h2 (by omega) ⟨.bl _, H, I, rfl, k _ _ _ q (.same (.bl _))⟩
  | str z =>
    obtain ⟨c, rfl, q⟩ := q
    cases hd.str; cases he.str
    exact op_notIn_sign pins s σ H _ _ v u Q I rx ry ⟨c, z, rfl, rfl, k _ _ _ q (.same (.bl _))⟩
  | _ => exact q.elim
end

/-! ### ord, bool -/
def ordX : C1X := fun d Q => match d with
  | .str z => z.length = 1 ∧ Q (.dat (.int (z.cps.getD 0 0 : Nat)))
  | _ => False
def boolX : C1X := fun d Q => match d with
  | .int i => Q (.dat (.bool (i != 0)))
  | .bool b => Q (.dat (.bool b))
  | _ => False
section
variable {X : Cx}
theorem c_ord : CallR X (.builtin "ord") (rC1 X.K ordX) := by
  rintro pins s σ H xs us Q I r ⟨x, fz, d, rfl, hd, Q', q, k⟩
  cases d with
  | str z => cases hd.str; exact call_ord pins s σ H _ us Q I r ⟨z, rfl, q.1, k _ _ _ q.2 (.same (.int _))⟩
  | _ => exact q.elim
theorem c_bool : CallR X (.type "bool") (rC1 X.K boolX) := by
  rintro pins s σ H xs us Q I r ⟨x, fz, d, rfl, hd, Q', q, k⟩
  cases d with
  | int i => cases hd.int; exact call_bool1 pins s σ H _ us Q I r (.inl ⟨i, rfl, k _ _ _ q (.same (.bl _))⟩)
  | bool b => cases hd.bl; exact call_bool1 pins s σ H _ us Q I r (.inr ⟨b, rfl, k _ _ _ q (.same (.bl _))⟩)
  | _ => exact q.elim
end
end Cl

namespace Cl
open PySem PySem.Spec PyProof.Rows L2

/-! ### a dict display as a box -/
structure DXP (X : Cx) (ZP : ZT) (pos : Pos) (keys : List (Option Expr)) (values : List Expr) (ks : List Str) (t : TSA) : Prop where
  ex : ∃ trs, PPs X pos keys values trs ∧ ∀ σ H Q, tX X.K ZP t σ H (fun vs H' => vs.length = ks.length ∧ Q ((ks.map V.str).zip vs) H') → tPairs trs σ H Q
section
variable {X : Cx} {ZP : ZT} {pos kpos : Pos} {keys : List (Option Expr)} {values : List Expr} {ks : List Str} {ts : TSA} {td : TD} {e : Expr} {x : Str} {j : Nat}
theorem dxp_nil : DXP X ZP pos [] [] [] t_anil := ⟨[], pps_nil, fun σ H Q ⟨B, cs, g, R, Q', q, k⟩ => (k [] cs [] g H q R .nil (fun i xs a e => by simp at e) (fun i j xs ys a e => by simp at e) (fun _ h => h) .refl).2⟩
theorem tx_cons {K : PySem.W.Frag} {σ : L2.St} {H : Hp} {Q : List V → Hp → Prop} (h : tX K ZP (t_xcons td ts) σ H Q) : tD K ZP td σ H fun v H1 => tX K ZP ts σ H1 fun vs H2 => Q (v :: vs) H2 := by
  obtain ⟨B, cs, g, R, Q', q, k⟩ := h
  refine ⟨B, cs, g, R, _, q, fun sv cs1 v g1 H1 q1 R1 r1 t1 s1 f1 => ?_⟩
  refine ⟨B, cs1, g1, R1, _, q1, fun svs cs2 vs g2 H2 q2 R2 r2 t2 d2 s2 f2 => ?_⟩
  have old : ∀ xs a, sv = .own xs → v = .ref a → ∃ o, H1 a = some o := fun xs a e1 e2 => by
    subst e1; subst e2
    obtain ⟨b, ws, e, h, _⟩ := r1
    cases e; exact ⟨_, h⟩
  refine k (sv :: svs) cs2 (v :: vs) g2 H2 q2 R2 (.cons (r1.frm f2 R1.fzow fun xs a e1 e2 => (t1 xs a e1 e2).1) r2) (fun i xs a e1 e2 => ?_) (fun i j xs ys a e1 e2 e3 e4 => ?_) (fun a h => s1 a (s2 a h)) (f1.trans (f2.mono fun a _ _ h => s1 a h))
  · cases i with
    | zero =>
      simp only [List.getElem?_cons_zero, Option.some.injEq] at e1 e2
      obtain ⟨n1, n2⟩ := t1 xs a e1 e2
      exact ⟨fun z => n1 (s2 a z), n2⟩
    | succ i =>
      simp only [List.getElem?_cons_succ] at e1 e2
      obtain ⟨n1, n2⟩ := t2 i xs a e1 e2
      refine ⟨n1, ?_⟩
      cases e5 : H a with
      | none => rfl
      | some u =>
        obtain ⟨u', e6⟩ := f1.any a u e5
        rw [n2] at e6; cases e6
  · cases i with
    | zero =>
      cases j with
      | zero => rfl
      | succ j =>
        simp only [List.getElem?_cons_succ, List.getElem?_cons_zero, Option.some.injEq] at e1 e2 e3 e4
        obtain ⟨o, h⟩ := old xs a e1 e3
        rw [(t2 j ys a e2 e4).2] at h; cases h
    | succ i =>
      cases j with
      | zero =>
        simp only [List.getElem?_cons_succ, List.getElem?_cons_zero, Option.some.injEq] at e1 e2 e3 e4
        obtain ⟨o, h⟩ := old ys a e2 e4
        rw [(t2 i xs a e1 e3).2] at h; cases h
      | succ j =>
        simp only [List.getElem?_cons_succ] at e1 e2 e3 e4
        rw [d2 i j xs ys a e1 e2 e3 e4]
theorem dxp_cons (h : DE X ZP e td) (r : DXP X ZP pos keys values ks ts) : DXP X ZP pos (some (.Constant (.str x) j kpos) :: keys) (e :: values) (x :: ks) (t_xcons td ts) := by
  obtain ⟨trs, hp, hr⟩ := r
  refine ⟨_, pps_cons pe_str h.pe hp, fun σ H Q q => ?_⟩
  show tD X.K ZP td σ H _
  have z := tx_cons q
  obtain ⟨B, cs, g, R, Q', q', k⟩ := z
  refine ⟨B, cs, g, R, Q', q', fun sv cs1 v g1 H1 q1 R1 r1 t1 s1 f1 => hr σ H1 _ ?_⟩
  have z2 := k sv cs1 v g1 H1 q1 R1 r1 t1 s1 f1
  obtain ⟨B, cs, g, R, Q2, q2, k2⟩ := z2
  exact ⟨B, cs, g, R, Q2, q2, fun svs cs' vs g' H' a b c d e f h => by
    obtain ⟨z1, z2⟩ := k2 svs cs' vs g' H' a b c d e f h
    exact ⟨by simpa using z1, z2⟩⟩
end
/-- new things become a box -/
theorem Rel.toBox {bs : Bs → Prop} {K : PySem.W.Frag} {B : Bs} {g1 : GW} {H1 : Hp} {cs1 : CS} {σ : L2.St} {fs : List RF} {svs : List SV} {vs : List V} {p : Addr} {o : HO} {t : Nat} (R1 : Rel K ⟨ZPu, bs⟩ B g1 H1 cs1 σ) (r1 : RSs K g1 H1 svs vs) (hb : BoxOk fs svs)
    (t1 : ∀ (i : Nat) (xs : List PyData) (a : Addr), svs[i]? = some (.own xs) → vs[i]? = some (.ref a) → ¬ ow cs1 σ a ∧ B.1 a = none ∧ a ≠ p)
    (n1 : ¬ g1.fz p) (n2 : g1.zs p = none) (n3 : ¬ ow cs1 σ p) (n4 : B.1 p = none) (n5 : ∀ xs, ¬ Rd H1 p (.tup xs)) (ho : ∀ zs' : Addr → Option Nat, (∀ a u, typ fs vs a = some u → zs' a = some u) → ZPu t zs' o) :
    ∃ g', Rel K ⟨ZPu, bs⟩ B g' (upd H1 p o) cs1 σ ∧ g'.zs p = some t ∧ Stay g1 H1 g' (upd H1 p o) := by
  let zs' : Addr → Option Nat := fun a => if a = p then some t else match typ fs vs a with
    | some u => some u
    | none => g1.zs a
  have tf : ∀ a u, typ fs vs a = some u → B.1 a = none ∧ ¬ ow cs1 σ a ∧ ¬ g1.fz a ∧ g1.zs a = none ∧ a ≠ p ∧ ∃ ns : List Int, H1 a = some (.lst (ns.map V.int)) ∧ ((u = 2 ∧ ns.length ≤ 1000) ∨ (u = 3 ∧ ns ≠ [])) := fun a u e => by
    obtain ⟨i, ns, e1, e2, h1, m1, m2, ht⟩ := typ_some hb r1 e
    obtain ⟨q1, q2, q3⟩ := t1 i _ a e1 e2
    exact ⟨q2, q1, m1, m2, q3, ns, h1, ht⟩
  have zm : ∀ a u, g1.zs a = some u → zs' a = some u := fun a u e => by
    have hne : a ≠ p := fun z => by subst z; rw [n2] at e; cases e
    show (if a = p then some t else _) = _
    rw [if_neg hne]
    cases e1 : typ fs vs a with
    | none => exact e
    | some u' => rw [(tf a u' e1).2.2.2.1] at e; cases e
  have zn : ∀ a, a ≠ p → typ fs vs a = none → zs' a = g1.zs a := fun a h1 h2 => by
    show (if a = p then some t else _) = _
    rw [if_neg h1, h2]
  have zt : ∀ a u, typ fs vs a = some u → zs' a = some u := fun a u e => by
    show (if a = p then some t else _) = _
    rw [if_neg (tf a u e).2.2.2.2.1, e]
  have zp : zs' p = some t := by show (if p = p then some t else _) = _; rw [if_pos rfl]
  have keep : ∀ a u, a ≠ p → H1 a = some u → upd H1 p o a = some u := fun a u n e => by rw [upd_ne n]; exact e
  have tups : ∀ a xs, Rd H1 a (.tup xs) → Rd (upd H1 p o) a (.tup xs) := fun a xs q => by
    have hne : a ≠ p := fun e => by subst e; exact n5 xs q
    rcases q with q | ⟨u, q⟩
    · exact .inl (keep _ _ hne q)
    · exact .inr ⟨u, keep _ _ hne q⟩
  have fp : ∀ a, g1.fz a → a ≠ p := fun a h z => by subst z; exact n1 h
  refine ⟨{ g1 with zs := zs' }, ⟨R1.len, fun i sv e => ?_, R1.sep, fun a u z => ?_, fun a z => ?_, ?_, R1.fresh, R1.bs⟩, zp, fun _ h => h, fun a u h e => keep a u (fp a h) e, tups⟩
  · obtain ⟨v, e1, r⟩ := R1.slot i sv e
    refine ⟨v, e1, ?_⟩
    cases sv with
    | dat d => exact Rp.go (fun _ h => h) (fun a u h e => keep a u (fp a h) e) tups r
    | own xs =>
      obtain ⟨a, ws, rfl, h, m1, m2, q⟩ := r
      have hne : a ≠ p := fun z => by subst z; exact n3 ⟨i, xs, e, e1⟩
      refine ⟨a, ws, rfl, keep _ _ hne h, m1, ?_, RpAll.go (fun _ h => h) (fun a u h e => keep a u (fp a h) e) tups q⟩
      show zs' a = none
      rw [zn a hne ?_]
      · exact m2
      · cases e2 : typ fs vs a with
        | none => rfl
        | some u => exact absurd ⟨i, xs, e, e1⟩ (tf a u e2).2.1
    | raw u => obtain ⟨a, rfl, h⟩ := r; exact ⟨a, rfl, zm a u h⟩
    | exc a n d fs => exact ⟨r.1, r.2.go (fun _ h => h) (fun a u h e => keep a u (fp a h) e) tups⟩
    | scr ns =>
      obtain ⟨a, rfl, h⟩ := r
      refine ⟨a, rfl, ?_⟩
      rcases h with ⟨h1, u, h2⟩ | h
      · exact .inl ⟨h1, u, keep _ _ (fp a h1) h2⟩
      · exact .inr h
  · have z : zs' a = some u := z
    by_cases hap : a = p
    · subst hap
      rw [zp] at z; cases z
      exact ⟨_, upd_same, ho _ zt⟩
    · cases e1 : typ fs vs a with
      | some u' =>
        rw [zt a u' e1] at z; cases z
        obtain ⟨_, _, _, _, hne, ns, h1, ht⟩ := tf a u e1
        refine ⟨_, keep _ _ hne h1, ?_⟩
        rcases ht with ⟨rfl, hn⟩ | ⟨rfl, hn⟩
        · exact .inl ⟨rfl, ns, hn, rfl⟩
        · exact .inr (.inl ⟨rfl, ns, hn, rfl⟩)
      | none =>
        rw [zn a hap e1] at z
        obtain ⟨w, e, q⟩ := R1.zok a u z
        exact ⟨w, keep _ _ hap e, q.mono zm⟩
  · obtain ⟨⟨w, e⟩, h⟩ := R1.fzok a z
    refine ⟨⟨w, keep _ _ (fp a z) e⟩, ?_⟩
    show zs' a = none
    rw [zn a (fp a z) ?_]
    · exact h
    · cases e2 : typ fs vs a with
      | none => rfl
      | some u => exact absurd z (tf a u e2).2.2.1
  · have bn : ∀ a u, B.1 a = some u → a ≠ p ∧ typ fs vs a = none := fun a u e => by
      refine ⟨fun z => (by subst z; rw [n4] at e; cases e), ?_⟩
      cases e2 : typ fs vs a with
      | none => rfl
      | some w => rw [(tf a w e2).1] at e; cases e
    refine ⟨fun a u e z n => keep _ _ (bn a u e).1 (R1.base.keep a u e z n), R1.base.fzm, fun a u z => zm a u (R1.base.zsm a u z), R1.base.fzn, fun a u e z => ?_, fun a xs h => tups a xs (R1.base.tups a xs h), fun a u e => ?_⟩
    · show zs' a = none
      rw [zn a (bn a u e).1 (bn a u e).2]
      exact R1.base.zsn a u e z
    · obtain ⟨u', e'⟩ := R1.base.any a u e
      exact ⟨u', keep _ _ (bn a u e).1 e'⟩
section
variable {X : Cx} {keys : List (Option Expr)} {es : List Expr} {ks : List Str} {ts : TSA} {p pos : Pos} {t : Nat}
theorem zip_kv : ∀ (ks : List Str) (vs : List V), (ks.map V.str).zip vs = ((ks.map Sum.inr).zip vs).map fun kv : Key × V => (kV kv.1, kv.2)
  | [], _ => rfl
  | k :: ks, [] => rfl
  | k :: ks, v :: vs => by
    simp only [List.map_cons, List.zip_cons_cons]
    rw [zip_kv ks vs]; rfl
theorem merge_nodup : ∀ (more kvs : List (Key × V)), ((kvs ++ more).map (·.1)).Nodup → mergeK kvs more = kvs ++ more
  | [], kvs, _ => by simp [mergeK]
  | m :: more, kvs, h => by
    have hnot : ¬ m.1 ∈ kvs.map (·.1) := by
      rw [List.map_append, List.map_cons, List.nodup_append] at h
      exact fun z => h.2.2 m.1 z m.1 (by simp) rfl
    have e : putK kvs m.1 m.2 = kvs ++ [m] := by
      unfold putK
      rw [if_neg]
      simp only [List.any_eq_true, decide_eq_true_eq, not_exists, not_and]
      intro x hx e
      exact hnot (e ▸ List.mem_map_of_mem hx)
    show mergeK (putK kvs m.1 m.2) more = _
    rw [e, merge_nodup more (kvs ++ [m]) (by simpa using h)]
    simp
def t_retdbox (t : Nat) (fs : List RF) (ts : TSA) : TSD := fun D cs => ts cs fun svs _ => BoxOk fs svs ∧ D.rt (.raw t)
theorem ds_retdbox {bs : Bs → Prop} (h : DXP X ⟨ZPu, bs⟩ p keys es ks ts) (hall : keys.all (·.isSome) = true) (hl : keys.length = es.length) (h0 : keys ≠ []) (h15 : keys.length ≤ 15) {fs : List RF} (hsh : dshp t = some (ks, fs)) (hnd : (ks.map Sum.inr : List Key).Nodup) (hk15 : ks.length ≤ 15) :
    DS X ⟨ZPu, bs⟩ (.Return (some (.Dict keys es p)) pos) (t_retdbox t fs ts) := by
  obtain ⟨trs, hp, hr⟩ := h
  refine ⟨PS.imp (ps_ret (pe_disp hp hall hl h0 h15)) ?_⟩
  rintro D σ H ⟨B, cs, g, R, D', q, pp⟩
  intro d hd
  refine hr σ _ _ ?_
  have nd := R.nofz hd
  have od : ¬ ow cs σ d := fun z => by
    obtain ⟨ws, e⟩ := R.owsome z
    rw [hd] at e; cases e
  refine ⟨B, cs, g, R.laid (o := .dK []) hd, _, q, fun svs cs1 vs g1 H1 q1 R1 r1 t1 d1 s1 f1 => ?_⟩
  have e1 : H1 d = some (.dK []) := f1.keep d _ upd_same nd.2 od
  obtain ⟨hb, hrt⟩ := q1
  have hlen : vs.length = ks.length := by
    rw [← Paired.length r1, ← hb.length]
    cases t with
    | _ =>
      have : ∀ t, dshp t = some (ks, fs) → fs.length = ks.length := fun t e => by
        unfold dshp at e
        split at e <;> cases e <;> rfl
      exact this _ hsh
  refine ⟨hlen, e1, (ks.map Sum.inr).zip vs, zip_kv ks vs, by rw [List.length_zip, List.length_map]; omega, ?_⟩
  have hmap : ((ks.map (Sum.inr : Str → Key)).zip vs).map (·.1) = ks.map Sum.inr := List.map_fst_zip (by rw [List.length_map]; omega)
  rw [merge_nodup _ [] (by rw [List.nil_append, hmap]; exact hnd), List.nil_append]
  have none_of : ∀ a, upd H d (.dK []) a = none → B.1 a = none ∧ a ≠ d := fun a e => by
    have hne : a ≠ d := fun z => by subst z; rw [upd_same] at e; cases e
    rw [upd_ne hne] at e
    exact ⟨R.bnone e, hne⟩
  obtain ⟨g', R2, z2, st2⟩ := R1.toBox (p := d) (o := .dK ((ks.map Sum.inr).zip vs)) (t := t) r1 hb (fun i xs a e2 e3 => by
      obtain ⟨m1, m2⟩ := t1 i xs a e2 e3
      obtain ⟨m3, m4⟩ := none_of a m2
      exact ⟨m1, m3, m4⟩) (fun z => nd.1 (f1.fzn d _ upd_same od z)) (f1.zsn d _ upd_same nd.2) (fun z => od (s1 d z)) (R.bnone hd) (fun xs z => by rcases z with z | ⟨_, z⟩ <;> (rw [e1] at z; cases z))
    fun zs' hz => .inr (.inr (.inr ⟨ks, fs, vs, hsh, rfl, fld_of hb r1 d1 hz⟩))
  have st1 : Stay g H g1 H1 := ⟨f1.fzm, fun a u h e => f1.keep a u (by rw [upd_ne (ne_of_none e hd)]; exact e) (R.fzow a h).1 (R.fzow a h).2, fun a xs h => f1.tups a xs (Rd.updn hd h)⟩
  exact pp.rt (.raw t) (.ref d) cs1 σ _ _ R2 (st1.trans st2) ⟨d, rfl, z2⟩ (fun xs a e => nomatch e) hrt
end
theorem rNeNil' {K : PySem.W.Frag} {H : Hp} {Q : VK} {a p : Addr} {ns : List Int} (h : H a = some (.lst (ns.map V.int))) (hp : H p = some (.lst [])) (q : Q (.bl (!ns.isEmpty)) H) : rO K neY (.ref a) (.ref p) H Q := by
  obtain ⟨fz, d, e, hd, he, Q', q1, k⟩ := rNeNil (K := K) h hp q
  refine ⟨fz, d, e, hd, he, Q', ?_, k⟩
  cases d with
  | str x => cases hd.str
  | int x => cases hd.int
  | _ => exact q1
end Cl

/-! exceptions of the program's own classes -/
namespace Cl
open PySem PySem.Spec PyProof.Rows L2

/-! ### Base.__init__(self, ..), Base a class of the program over ValueError -/
structure BaseC (K : PySem.W.Frag) (C0 : Addr) : Prop where
  sp : PySem.W.specialIn K (.ref C0) "__getattribute__" = some (some (.builtin "type.__getattribute__"))
  rd : PySem.W.readsIn K C0 (.type "type") = true
  ini : PySem.W.findCls K (.ref C0) (.type "type") "__init__" = some (.val (.builtin "ValueError.__init__"))
section
variable {X : Cx} {e : Expr} {es : List Expr} {ta : TA} {x : Str} {C0 : Addr} {p1 p2 pos : Pos}
theorem pe_ovinit {pl : Sem Bool} (hg : Gl X x) (hm : X.mg x = some (.ref C0)) (B : BaseC X.K C0) (ha : PA X (e :: es) ta) (hd : (x == ("__debug__" : Str)) = false := by decide)
    (hc : eval (.Call (.Attribute (.Name x p1) "__init__" p2) (e :: es) [] pos) X.env = (do
      let ov ← eval (.Name x p1) X.env
      standAt p2.atName
      let fp ← holding [ov] (getMethod ov "__init__" pl)
      callWith pos fp.1 fp.2 (backTo pos (starEach (e :: es) X.env)) (backToKw pos (keywordEach [] X.env))) := by rfl)
    (he : starEach (e :: es) X.env = (false, eval e X.env) :: starEach es X.env := by rfl) (hpl : (backTo pos (starEach es X.env)).any (·.1) = false := by rfl) :
    PE X (.Call (.Attribute (.Name x p1) "__init__" p2) (e :: es) [] pos) (tVeI X.K ta) := by
  refine ⟨fun pins s σ H Q I h => ?_⟩
  refine PySem.W.methodCall_KW (ld_glob I hg hm ?_ hd) hc
  refine PySem.W.method_cls I.kIn B.sp (PySem.W.cls_value I.kIn B.rd B.ini (by decide +kernel) ?_)
  refine PyProof.Rows.callWith_method1 (thn (ha.run pos pins _ σ H _ (I.tok _) h) fun us s1 ⟨vs, H1, I1, r1, a, C, ws, ev, hl, T, ea, q⟩ => ?_) he hpl
  subst ev
  cases r1 with
  | @cons _ u0 _ ur ra rest =>
    cases (show u0 = Value.ref a from ra)
    exact oinit_ok T I1 ea (by rw [← Paired.length rest, sizeLine_eq]; omega) fun s' J => ⟨.non, H1, J, rfl, q⟩
end
end Cl

namespace Cl
open PySem PySem.Spec PyProof.Rows L2

/-! ### __init__(self, given): Base.__init__(self, text); self.f = given -/
def spI (C : Addr) (f : Str) : Sp := fun vs H Q _ => ∃ a v, vs = [.ref a, v] ∧ H a = some (exo a C none) ∧ ∀ dx, H dx = none → dx ≠ a → Q .non (upd (upd H dx (exd dx [(f, v)])) a (exo a C (some dx)))
section
variable {X : Cx} {x f : Str} {C C0 : Addr} {self given : Str} {m : Str} {p1 p2 p3 p4 p5 p6 p7 p8 p9 : Pos} {j : Nat}
def tInit1 (K : PySem.W.Frag) (f : Str) (m : Str) : TS := tSeq (tDrop (tVeI K (tCons (tVar 0) (tCons (tC (.str m)) tNil)))) (tOst K f (tVar 0) (tVar 1))
theorem init1_run {K : PySem.W.Frag} {D : Ends} {H : Hp} {vs : List V} {E : XK} {N : List Str} (T : OexC K C) (hno : PySem.W.findIn K (.ref C) f = some none) (h : spI C f vs H D.rt E) (hD : ∀ H', D.rt .non H' → ∀ σ, D.nx σ H') : tInit1 K f m D (start N vs) H := by
  obtain ⟨a, v, rfl, ha, q⟩ := h
  exact ⟨.ref a, rfl, a, C, [.str m], rfl, by show 1 ≤ 1000; decide, T, ha, v, rfl, .ref a, rfl, a, C, rfl, T, hno, .inl ⟨ha, fun dx h1 h2 => hD _ (q dx h1 h2) _⟩⟩
end
/-- the class whose __init__ is that -/
structure Exc1 (X : Cx) (x f : Str) (C : Addr) (k : Nat) : Prop where
  T : OexC X.K C
  fI : ∃ (fi : Addr) (fd : FuncData), PySem.W.findIn X.K (.ref C) "__init__" = some (some (.ref fi)) ∧ PySem.W.typeIn X.K (.ref fi) = some (.type "function") ∧ FnOk X.prog X.w X.K X.mg X.base CX0 k fi fd ["self", f] (spI C f) ∧ Binds X.K fd ["self", f] []
  g : X.mg x = some (.ref C)
section
variable {X : Cx} {x f : Str} {C : Addr} {k : Nat} {e : Expr} {te : TE} {p pos : Pos}
theorem pmk1 (c : Exc1 X x f C k) (hr : Room (k + 1) X.A) (hg : Gl X x) (he : PE X e te) (hdb : (x == ("__debug__" : Str)) = false := by decide) (hst : starEach [e] X.env = (false, eval e X.env) :: starEach [] X.env := by rfl) :
    PMk X (.Call (.Name x p) [e] [] pos) (tMkO C (spI C f) [] (tCons te tNil)) := by
  obtain ⟨fi, fd, iC, tI, F, hb⟩ := c.fI
  exact pmk_oex (p := p) (pos := pos) (sp := spI C f) c.T iC tI F hr hb (dvs := []) .nil pass0 hg c.g (pa_cons he pa_nil hst) hdb hst rfl
theorem mk1_ok {H1 : Hp} {Q : XK} {v : V} (q : ∀ dx, H1 dx = none → Q (.ref C) (some dx) (upd H1 dx (.xd [(f, v)]))) : [v].length ≤ 1000 ∧ ∀ a, H1 a = none → spI C f (.ref a :: ([v] ++ [])) (upd H1 a (exo a C none))
    (fun v H2 => v = .non ∧ ∃ (d : Addr) (fs : List (Str × V)), H2 a = some (exo a C (some d)) ∧ H2 d = some (exd d fs) ∧ H1 d = none ∧ Q (.ref C) (some d) (upd (del H2 a) d (.xd fs))) (fun _ _ _ => False) := by
  refine ⟨by show 1 ≤ 1000; decide, fun a ha => ⟨a, v, rfl, upd_same, fun dx h1 h2 => ⟨rfl, dx, [(f, v)], upd_same, ?_, ?_, ?_⟩⟩⟩
  · rw [upd_ne h2, upd_same]
  · rw [upd_ne h2] at h1; exact h1
  · have hd : H1 dx = none := by rw [upd_ne h2] at h1; exact h1
    have e : upd (del (upd (upd (upd H1 a (exo a C none)) dx (exd dx [(f, v)])) a (exo a C (some dx))) a) dx (.xd [(f, v)]) = upd H1 dx (.xd [(f, v)]) := by
      funext b
      by_cases hb : b = dx
      · subst hb; rw [upd_same, upd_same]
      · rw [upd_ne hb, upd_ne hb]
        by_cases ha2 : b = a
        · subst ha2; rw [del_same, ha]
        · rw [del_ne ha2, upd_ne ha2, upd_ne hb, upd_ne ha2]
    rw [e]
    exact q dx hd
end

/-! ### exceptions by value: the class by its number -/
structure EV where
  cls : Nat
  fs : List (Str × PyData)
def Xr (K : PySem.W.Frag) (ca : Nat → Addr) (g : GW) (H : Hp) (ev : EV) (cls : Value) (d : Option Addr) : Prop :=
  cls = .ref (ca ev.cls) ∧ ExF K g H d ev.fs
/-- what is wished of the exceptions that leave -/
def WD (K : PySem.W.Frag) (ca : Nat → Addr) (ZP : ZT) (E : EV → CS → Prop) : WX := fun cls d σ H => ∃ B g cs ev, Rel K ZP B g H cs σ ∧ Xr K ca g H ev cls d ∧ E ev cs
def TakesD (X : Cx) (ca : Nat → Addr) (ZP : ZT) (E : EV → CS → Prop) : Prop := Takes X (WD X.K ca ZP E)
section
variable {X : Cx} {ca : Nat → Addr} {ZP : ZT} {x f : Str} {n : Nat} {k : Nat} {e : Expr} {tv : TVD} {p pos pos' : Pos} {E : EV → CS → Prop}
def t_raise1 (E : EV → CS → Prop) (n : Nat) (f : Str) (tv : TVD) : TSD := fun _ cs => tv cs fun d cs1 => E ⟨n, [(f, d)]⟩ cs1
theorem ds_raise1 (hc : X.calm = true) (tk : TakesD X ca ZP E) (c : Exc1 X x f (ca n) k) (hr : Room (k + 1) X.A) (hg : Gl X x) (he : DV X ZP e tv) (hdb : (x == ("__debug__" : Str)) = false := by decide) (hst : starEach [e] X.env = (false, eval e X.env) :: starEach [] X.env := by rfl) :
    DS X ZP (.Raise (some (.Call (.Name x p) [e] [] pos)) none pos') (t_raise1 E n f tv) := by
  refine ⟨PS.imp (ps_raise hc tk (pmk1 (p := p) (pos := pos) c hr hg he.pe hdb hst)) ?_⟩
  rintro D σ H ⟨B, cs, g, R, D', q, pp⟩
  refine ⟨B, cs, g, R, _, q, fun d cs1 v g1 H1 q1 R1 r1 s1 f1 => ?_⟩
  have fin : ∀ dx, H1 dx = none → WD X.K ca ZP E (.ref (ca n)) (some dx) σ (upd H1 dx (.xd [(f, v)])) := fun dx hdx => by
    refine ⟨B, g1.freeze dx, cs1, ⟨n, [(f, d)]⟩, R1.newFz hdx, ⟨rfl, .inr ⟨dx, [v], rfl, upd_same, .inr rfl, ?_⟩⟩, q1⟩
    exact .cons (Rp.go (fun _ h => .inl h) (fun a u h e => by rw [upd_ne (ne_of_none e hdx)]; exact e) (fun a xs h => Rd.updn hdx h) r1) .nil
  exact mk1_ok (Q := fun cls d H' => WD X.K ca ZP E cls d σ H') fin
end

/-! ### contracts with exceptions -/
abbrev TX := List SV → (SV → Prop) → (EV → Prop) → Prop
def spX (K : PySem.W.Frag) (ca : Nat → Addr) (ZP : ZF) (n : Nat) (C : TX) : Sp := fun vs H Q E => vs.length = n ∧ ∃ svs g, RSs K g H svs vs ∧ (∀ sv ∈ svs, settled sv = true) ∧ GOk ZP g H ∧ ∃ Q' E', C svs Q' E' ∧
  (∀ sv v g' H', Q' sv → GOk ZP g' H' → RS K g' H' sv v → (∀ xs a, sv = .own xs → v = .ref a → H a = none) → Frm (fun _ => False) g H g' H' → Q v H') ∧
  ∀ ev cls d g' H', E' ev → GOk ZP g' H' → Xr K ca g' H' ev cls d → Frm (fun _ => False) g H g' H' → E cls d H'
/-- f(e, ..), f may raise -/
def t_callX (E : EV → CS → Prop) (C : TX) (t : TSA) : TD := fun cs Q => t cs fun svs cs1 => C svs (fun sv => Q sv cs1) fun ev => E ev cs1
section
variable {X : Cx} {ca : Nat → Addr} {ZP : ZT} {k n m : Nat} {f : Addr} {fd : FuncData} {ps ks : List Str} {x : Str} {p pos : Pos} {e : Expr} {es : List Expr} {kw : Keyword} {kws : List Keyword} {C : TX} {t tk : TSA} {E : EV → CS → Prop}
  {gg : List Value → List Value → List Value} {gV : List V → List V → List V} {gS : List SV → List SV → List SV}
theorem run_GS {pins : List (Addr × Obj)} {σ : L2.St} {H : Hp} {s : Shared} {Q : VK} {args : Args} {us : List Value} {vs : List V} {sp : Sp} {W : WX} (F : FnG X.prog X.w X.K X.mg X.base (L2.CX X.prog X.w) k f fd ps sp) (hg : X.A.guards = some []) (hr : Room k X.A) (tk : Takes X W)
    (I : L2.Inv X pins σ H s) (hb : BindsTo s fd args (ps.zip us)) (r : Vals vs us) (h : sp vs H Q (WE W σ)) : wpAny (model X.prog X.w) X.A (call (.ref f) args.pos args.kw) (EP X pins σ Q) X.xe s := by
  refine wpAny_call (codeAny_mono (F.run X.A X.stack s H args us vs Q (WE W σ) hg hr I.env0 hb r h) ?_)
  intro res s' z
  cases res with
  | error e => exact passAt tk σ pins H s e s' I z
  | ok fl =>
    cases fl with
    | ret u => exact I.after z
    | next => exact z.elim
    | brk => exact z.elim
    | cont => exact z.elim
theorem callX_fin {B : Bs} {cs1 : CS} {g1 : GW} {H1 : Hp} {σ : L2.St} {svs : List SV} {vs : List V} {Q : VK} {Q1 : SV → Prop} (R1 : Rel X.K ZP B g1 H1 cs1 σ) (r1 : RSs X.K g1 H1 svs vs) (st : ∀ sv ∈ svs, settled sv = true) (hl : vs.length = n) (q1 : C svs Q1 fun ev => E ev cs1)
    (k : ∀ sv v g' H', Q1 sv → Rel X.K ZP B g' H' cs1 σ → RS X.K g' H' sv v → Tmp H1 cs1 σ sv v → Frm (fun _ => False) g1 H1 g' H' → Q v H') : spX X.K ca ZP.zp n C vs H1 Q (WE (WD X.K ca ZP E) σ) := by
  refine ⟨hl, svs, g1, r1, st, ⟨R1.zok, R1.fzok⟩, _, _, q1, fun sv v g' H' q' G' r' fr f' => ?_, fun ev cls d g' H' q' G' x' f' => ?_⟩
  · have R' := R1.go f' G'.zok G'.fzok
    have tm : Tmp H1 cs1 σ sv v := fun xs a e1 e2 => by
      refine ⟨fun ho => ?_, fr xs a e1 e2⟩
      obtain ⟨ws, ho⟩ := R1.owsome ho
      rw [fr xs a e1 e2] at ho; cases ho
    exact k sv v g' H' q' R' r' tm f'
  · exact ⟨B, g', cs1, ev, R1.go f' G'.zok G'.fzok, x', q'⟩
theorem de_callX (F : FnG X.prog X.w X.K X.mg X.base (L2.CX X.prog X.w) k f fd ps (spX X.K ca ZP.zp n C)) (hgd : X.A.guards = some []) (hr : Room k X.A) (tk : TakesD X ca ZP E) (hg : Gl X x) (hm : X.mg x = some (.ref f)) (hk : PySem.W.keepIn X.K (.ref f) = true) (hb : Binds X.K fd ps [])
    (hC : ∀ svs Q E, C svs Q E → svs.length = n)
    (ha : DA X ZP (e :: es) t) (hdb : (x == ("__debug__" : Str)) = false := by decide) (he : starEach (e :: es) X.env = (false, eval e X.env) :: starEach es X.env := by rfl) (hpl : (backTo pos (starEach es X.env)).any (·.1) = false := by rfl) :
    DE X ZP (.Call (.Name x p) (e :: es) [] pos) (t_callX E C t) := by
  refine ⟨⟨fun pins s σ H Q I h => ?_⟩⟩
  obtain ⟨B, cs, g, R, Q', q, kk⟩ := h
  refine wpAny_Call_Name_kw (ld_glob I hg hm ?_ hdb)
  refine PySem.W.callWith_K (h₀ := X.base) I.ok.mod.kin hk (thn (ha.pa.run pos pins s σ H (fun vs H1 => vs.length = n ∧ spX X.K ca ZP.zp n C vs H1 Q (WE (WD X.K ca ZP E) σ)) I ⟨B, cs, g, R, _, q, fun svs cs1 vs g1 H1 q1 R1 r1 st s1 f1 => ?_⟩) ?_) he hpl
  · have hl : vs.length = n := by rw [← hC _ _ _ q1]; exact (Paired.length r1).symm
    exact ⟨hl, callX_fin R1 r1 st hl q1 fun sv v g' H' q' R' r' tm f' => kk sv cs1 v g' H' q' R' r' (tm.back f1) s1 (f1.trans (f'.mono fun _ _ _ z => z.elim))⟩
  · rintro us s1 ⟨vs, H1, I1, r, hl, q⟩
    refine ⟨I1.kIn, ?_⟩
    have hl2 : us.length = ps.length := by rw [← r.length]; exact F.len _ _ _ _ q
    have b := hb s1 us I1.kIn (by rw [List.append_nil]; exact hl2)
    rw [List.append_nil] at b
    exact run_GS (args := ⟨us, []⟩) F hgd hr tk I1 b r q
end
end Cl

namespace Cl
open PySem PySem.Spec PyProof.Rows L2

/-! ### calls with keywords of a def that may raise -/
section
variable {X : Cx} {ca : Nat → Addr} {ZP : ZT} {k n m : Nat} {f : Addr} {fd : FuncData} {ps ks : List Str} {sp : Sp} {W : WX} {x : Str} {p pos : Pos} {e : Expr} {es : List Expr} {kws : List Keyword} {C : TX} {ta tka : TA} {t tk : TSA} {E : EV → CS → Prop}
  {gg : List Value → List Value → List Value} {gV : List V → List V → List V} {gS : List SV → List SV → List SV}
def tCallGKX (n m : Nat) (sp : Sp) (gV : List V → List V → List V) (W : WX) (t tk : TA) : TE := fun σ H Q => t σ H fun vs H1 => tk σ H1 fun zs H2 => vs.length = n ∧ zs.length = m ∧ sp (gV vs zs) H2 Q (WE W σ)
theorem pe_callGKX (F : FnG X.prog X.w X.K X.mg X.base (L2.CX X.prog X.w) k f fd ps sp) (hgd : X.A.guards = some []) (hr : Room k X.A) (hg : Gl X x) (hm : X.mg x = some (.ref f)) (hk : PySem.W.keepIn X.K (.ref f) = true) (hb : KBd X.K fd ps ks n gg) (hrel : KRel gV gg) (hx : Takes X W)
    (ha : PA X (e :: es) ta) (hkw : PK X kws tka) (hall : (backToKw pos (keywordEach kws X.env)).all (·.1.isSome) = true := by rfl) (hks : (backToKw pos (keywordEach kws X.env)).filterMap (·.1) = ks := by rfl)
    (hdb : (x == ("__debug__" : Str)) = false := by decide) (he : starEach (e :: es) X.env = (false, eval e X.env) :: starEach es X.env := by rfl)
    (hpl : ((backTo pos (starEach (e :: es) X.env)).any (·.1) || (backToKw pos (keywordEach kws X.env)).any (·.1.isNone)) = false := by rfl) :
    PE X (.Call (.Name x p) (e :: es) kws pos) (tCallGKX n ks.length sp gV W ta tka) := by
  constructor
  intro pins s σ H Q I h
  refine wpAny_Call_Name_kw (ld_glob I hg hm ?_ hdb)
  refine PySem.W.callWith_KW (h₀ := X.base) I.ok.mod.kin hk hall (thn (ha.run pos pins s σ H _ I h) ?_) hpl he
  rintro us s1 ⟨vs, H1, I1, r, q⟩
  refine thn (hkw.run pos pins s1 σ H1 _ I1 q) ?_
  rintro ws s2 ⟨zs, H2, I2, rz, l1, l2, q2⟩
  refine ⟨I2.kIn, ?_⟩
  rw [hks]
  exact run_GS (args := ⟨us, ks.zip ws⟩) F hgd hr hx I2 (hb s2 us ws I2.kIn (r.length.symm.trans l1) (rz.length.symm.trans l2)) (hrel _ _ _ _ r rz) q2
theorem pe_callGK0X (F : FnG X.prog X.w X.K X.mg X.base (L2.CX X.prog X.w) k f fd ps sp) (hgd : X.A.guards = some []) (hr : Room k X.A) (hg : Gl X x) (hm : X.mg x = some (.ref f)) (hk : PySem.W.keepIn X.K (.ref f) = true) (hb : KBd X.K fd ps ks 0 gg) (hrel : KRel gV gg) (hx : Takes X W)
    (hkw : PK X kws tka) (hall : (backToKw pos (keywordEach kws X.env)).all (·.1.isSome) = true := by rfl) (hks : (backToKw pos (keywordEach kws X.env)).filterMap (·.1) = ks := by rfl)
    (hdb : (x == ("__debug__" : Str)) = false := by decide)
    (hpl : ((backTo pos (starEach [] X.env)).any (·.1) || (backToKw pos (keywordEach kws X.env)).any (·.1.isNone)) = false := by rfl) :
    PE X (.Call (.Name x p) [] kws pos) (tCallGKX 0 ks.length sp gV W tNil tka) := by
  constructor
  intro pins s σ H Q I h
  refine wpAny_Call_Name_kw (ld_glob I hg hm ?_ hdb)
  refine PySem.W.callWith_KW0 (h₀ := X.base) I.ok.mod.kin hk hall ?_ hpl
  refine thn (hkw.run pos pins s σ H _ I h) ?_
  rintro ws s2 ⟨zs, H2, I2, rz, l1, l2, q2⟩
  refine ⟨I2.kIn, ?_⟩
  rw [hks]
  exact run_GS (args := ⟨[], ks.zip ws⟩) F hgd hr hx I2 (hb s2 [] ws I2.kIn rfl (rz.length.symm.trans l2)) (hrel _ _ _ _ .nil rz) q2
def t_callKX (E : EV → CS → Prop) (gS : List SV → List SV → List SV) (m mk : Nat) (C : TX) (t tk : TSA) : TD := fun cs Q => t cs fun svs cs1 => tk cs1 fun zvs cs2 => (svs.length = m ∧ zvs.length = mk) ∧ C (gS svs zvs) (fun sv => Q sv cs2) fun ev => E ev cs2
theorem de_callK0X (F : FnG X.prog X.w X.K X.mg X.base (L2.CX X.prog X.w) k f fd ps (spX X.K ca ZP.zp n C)) (hgd : X.A.guards = some []) (hr : Room k X.A) (hx : TakesD X ca ZP E) (hg : Gl X x) (hm : X.mg x = some (.ref f)) (hk : PySem.W.keepIn X.K (.ref f) = true)
    (hb : KBd X.K fd ps ks 0 gg) (hrel : KRel gV gg) (hS : SRel gV gS) (hn : ∀ zs : List V, zs.length = ks.length → (gV [] zs).length = n)
    (hkw : DK X ZP kws tk) (hall : (backToKw pos (keywordEach kws X.env)).all (·.1.isSome) = true := by rfl) (hks : (backToKw pos (keywordEach kws X.env)).filterMap (·.1) = ks := by rfl)
    (hdb : (x == ("__debug__" : Str)) = false := by decide)
    (hpl : ((backTo pos (starEach [] X.env)).any (·.1) || (backToKw pos (keywordEach kws X.env)).any (·.1.isNone)) = false := by rfl) :
    DE X ZP (.Call (.Name x p) [] kws pos) (t_callKX E gS 0 ks.length C t_anil tk) := by
  refine ⟨PE.imp (pe_callGK0X F hgd hr hg hm hk hb hrel hx hkw.pk hall hks hdb hpl) ?_⟩
  rintro σ H Q ⟨B, cs, g, R, Q', q, kk⟩
  show tA X.K ZP tk σ H _
  refine ⟨B, cs, g, R, _, q, fun svs cs1 vs g1 H1 q1 R1 r1 st s1 f1 => ?_⟩
  have hl : vs.length = ks.length := by rw [← Paired.length r1]; exact q1.1.2
  obtain ⟨r2, st2⟩ := hS X.K g1 H1 [] svs [] vs .nil r1
  refine ⟨rfl, hl, ?_⟩
  refine callX_fin R1 r2 (st2 (fun _ z => by cases z) st) (hn vs hl) q1.2 fun sv v g' H' q' R' r' t' f' => ?_
  exact kk sv cs1 v g' H' q' R' r' (t'.back f1) s1 (f1.trans (f'.mono fun _ _ _ z => z.elim))
theorem de_callKX (F : FnG X.prog X.w X.K X.mg X.base (L2.CX X.prog X.w) k f fd ps (spX X.K ca ZP.zp n C)) (hgd : X.A.guards = some []) (hr : Room k X.A) (hx : TakesD X ca ZP E) (hg : Gl X x) (hm : X.mg x = some (.ref f)) (hk : PySem.W.keepIn X.K (.ref f) = true) {m : Nat}
    (hb : KBd X.K fd ps ks m gg) (hrel : KRel gV gg) (hS : SRel gV gS) (hn : ∀ vs zs : List V, vs.length = m → zs.length = ks.length → (gV vs zs).length = n)
    (ha : DA X ZP (e :: es) t) (hkw : DK X ZP kws tk) (hall : (backToKw pos (keywordEach kws X.env)).all (·.1.isSome) = true := by rfl) (hks : (backToKw pos (keywordEach kws X.env)).filterMap (·.1) = ks := by rfl)
    (hdb : (x == ("__debug__" : Str)) = false := by decide) (he : starEach (e :: es) X.env = (false, eval e X.env) :: starEach es X.env := by rfl)
    (hpl : ((backTo pos (starEach (e :: es) X.env)).any (·.1) || (backToKw pos (keywordEach kws X.env)).any (·.1.isNone)) = false := by rfl) :
    DE X ZP (.Call (.Name x p) (e :: es) kws pos) (t_callKX E gS m ks.length C t tk) := by
  refine ⟨PE.imp (pe_callGKX F hgd hr hg hm hk hb hrel hx ha.pa hkw.pk hall hks hdb he hpl) ?_⟩
  rintro σ H Q ⟨B, cs, g, R, Q', q, kk⟩
  refine ⟨B, cs, g, R, _, q, fun svs cs1 vs g1 H1 q1 R1 r1 st s1 f1 => ?_⟩
  refine ⟨B, cs1, g1, R1, _, q1, fun zvs cs2 zs g2 H2 q2 R2 r2 st2 s2 f2 => ?_⟩
  have l1 : vs.length = m := by rw [← Paired.length r1]; exact q2.1.1
  have l2 : zs.length = ks.length := by rw [← Paired.length r2]; exact q2.1.2
  obtain ⟨r3, st3⟩ := hS X.K g2 H2 svs zvs vs zs (RSs.frm f2 R1.fzow st r1) r2
  refine ⟨l1, l2, ?_⟩
  have f12 : Frm (ow cs σ) g H g2 H2 := f1.trans (f2.mono fun a _ _ h => s1 a h)
  refine callX_fin R2 r3 (st3 st st2) (hn vs zs l1 l2) q2.2 fun sv v g' H' q' R' r' t' f' => ?_
  exact kk sv cs2 v g' H' q' R' r' (t'.back f12) (fun a h => s1 a (s2 a h)) (f12.trans (f'.mono fun _ _ _ z => z.elim))
end

/-! ### statements at a def's top: what comes behind is told from the def's start -/
def tS0 (K : PySem.W.Frag) (ZP : ZT) (t : TSD) : TS := fun D σ H => ∃ B cs g, Rel K ZP B g H cs σ ∧ ∃ D', t D' cs ∧ SPost K ZP B B.2 B.1 D' D
structure DS0 (X : Cx) (ZP : ZT) (st : Stmt) (t : TSD) : Prop where
  ps : PS X st (tS0 X.K ZP t)
structure DSs0 (X : Cx) (ZP : ZT) (st : List Stmt) (t : TSD) : Prop where
  pss : PSs X st (tS0 X.K ZP t)
section
variable {X : Cx} {ZP : ZT} {st : Stmt} {sts rest : List Stmt} {t u : TSD}
theorem tS0_of {K : PySem.W.Frag} {D : Ends} {σ : L2.St} {H : Hp} (h : tS0 K ZP t D σ H) : tS K ZP t D σ H := by
  obtain ⟨B, cs, g, R, D', q, p⟩ := h
  have hz : ∀ a, B.2.fz a → B.2.zs a = none ∧ ¬ (fun _ => False) a := fun a h => by
    refine ⟨?_, fun z => z⟩
    cases e : B.2.zs a with
    | none => rfl
    | some t =>
      have e2 := R.base.zsm a t e
      rw [(R.fzok a (R.base.fzm a h)).2] at e2; cases e2
  exact ⟨B, cs, g, R, D', q, p.from (R.base.stay hz)⟩
theorem ds0_of (h : DS X ZP st t) : DS0 X ZP st t := ⟨PS.imp h.ps fun D σ H q => tS0_of q⟩
theorem dss0_of (h : DSs X ZP sts t) : DSs0 X ZP sts t := ⟨PSs.imp h.pss fun D σ H q => tS0_of q⟩
theorem dss0_one (h : DS0 X ZP st t) : DSs0 X ZP [st] t := ⟨pss_one h.ps⟩
theorem dss0_cons (h : DS0 X ZP st t) (h2 : DSs0 X ZP rest u) : DSs0 X ZP (st :: rest) (t_seq t u) := by
  refine ⟨PSs.imp (pss_cons h.ps h2.pss) ?_⟩
  rintro D σ H ⟨B, cs, g, R, D', q, p⟩
  exact ⟨B, cs, g, R, { D' with nx := u D' }, q, ⟨fun cs1 σ1 g1 H1 R1 s1 q1 => ⟨B, cs1, g1, R1, D', q1, p⟩, p.bk, p.ct, p.rt⟩⟩
end

/-! ### a def that may raise -/
def runX (t : (EV → CS → Prop) → TSD) (N : List Str) (n : Nat) : TX := fun svs Q E => svs.length = n ∧ t (fun ev _ => E ev) { nx := fun _ => Q (.dat .none), rt := Q } (initC N svs)
section
variable {P : Program} {w : World} {K : PySem.W.Frag} {mg : Str → Option Value} {base : Heap} {zp : ZF} {ca : Nat → Addr}
theorem fnDX {x qual : Str} {st : Stmt} {f : Addr} {fd : FuncData} {N ps : List Str} {k : Nat} {t : (EV → CS → Prop) → TSD} (F : Fun K x qual st f fd) (S : FnScope N ps (defScope st))
    (bod : ∀ (cdv : Value) (A : Around) (outer : List Env) (s : Shared) (H : Hp) (E0 : XK) (bs : Bs → Prop) (E : EV → CS → Prop), A.guards = some [] → Room k (A.deeper (envOfC qual (defScope st) s.heap.objs.size f cdv)) → (∀ B1 B2, bs B1 → bs B2 → B1 = B2) →
      TakesD (cxOf (L2.CX P w) P w K mg base N qual (defScope st) f cdv A outer s H E0) ca ⟨zp, bs⟩ E →
      DSs0 (cxOf (L2.CX P w) P w K mg base N qual (defScope st) f cdv A outer s H E0) ⟨zp, bs⟩ (defBody st) (t E)) :
    FnG P w K mg base (L2.CX P w) (k + 1) f fd ps (spX K ca zp ps.length (runX t N ps.length)) := by
  obtain ⟨oc, od, kV, doc, pm, an, cdv, ct, osl, rfl, lk, cdk⟩ := F.ex
  refine fnG_of lk cdk S (fun vs H Q E h => h.1) fun A outer s H vs Q E0 hg hr want => ?_
  obtain ⟨hl, svs, g, r, sty, G, Q', E', ⟨_, q⟩, kn, kx⟩ := want
  have tk : TakesD (cxOf (L2.CX P w) P w K mg base N qual (defScope st) f cdv A outer s H E0) ca ⟨zp, fun B => B = (H, g)⟩ (fun ev _ => E' ev) := by
    refine Takes.imp (takes_of rfl rfl rfl rfl) ?_
    rintro cls d σ H' ⟨B, g', cs, ev, R, xr, e⟩
    have hB : B = (H, g) := R.bs
    subst hB
    exact kx ev cls d g' H' e ⟨R.zok, R.fzok⟩ xr R.base
  refine ⟨_, (bod cdv A outer s H E0 _ _ hg hr (fun B1 B2 e1 e2 => e1.trans e2.symm) tk).pss, ?_⟩
  refine ⟨(H, g), initC N svs, g, G.rel (ZP := ⟨zp, fun B => B = (H, g)⟩) rfl r sty, _, q, ⟨fun cs' σ' g' H' R' s' q' => ?_, fun _ _ _ _ _ _ z => z.elim, fun _ _ _ _ _ _ z => z.elim, fun sv v cs' σ' g' H' R' s' r' t' q' => ?_⟩⟩
  · exact kn _ .non g' H' q' ⟨R'.zok, R'.fzok⟩ .non (fun _ _ e => by cases e) R'.base
  · exact kn sv v g' H' q' ⟨R'.zok, R'.fzok⟩ r' t' R'.base
/-- a def that lets nothing out, with a try at its top -/
theorem fnD0 {x qual : Str} {st : Stmt} {f : Addr} {fd : FuncData} {N ps : List Str} {k : Nat} {t : TSD} (F : Fun K x qual st f fd) (S : FnScope N ps (defScope st))
    (bod : ∀ (cdv : Value) (A : Around) (outer : List Env) (s : Shared) (H : Hp) (E : XK) (bs : Bs → Prop), A.guards = some [] → Room k (A.deeper (envOfC qual (defScope st) s.heap.objs.size f cdv)) → (∀ B1 B2, bs B1 → bs B2 → B1 = B2) →
      DSs0 (cxOf CX0 P w K mg base N qual (defScope st) f cdv A outer s H E).nox ⟨zp, bs⟩ (defBody st) t) :
    FnG P w K mg base CX0 (k + 1) f fd ps (spD K zp ps.length (runD t N ps.length)) := by
  refine funG F S (fun vs H Q E h => h.1) fun cdv A outer s H vs Q E hg hr h => ?_
  obtain ⟨hl, svs, g, r, st, G, Q', ⟨_, q⟩, k⟩ := h
  refine ⟨_, (bod cdv A outer s H E (fun B => B = (H, g)) hg hr (fun B1 B2 e1 e2 => e1.trans e2.symm)).pss, ?_⟩
  refine ⟨(H, g), initC N svs, g, G.rel (ZP := ⟨zp, fun B => B = (H, g)⟩) rfl r st, _, q, ⟨fun cs' σ' g' H' R' s' q' => ?_, fun _ _ _ _ _ _ z => z.elim, fun _ _ _ _ _ _ z => z.elim, fun sv v cs' σ' g' H' R' s' r' t' q' => ?_⟩⟩
  · exact k _ .non g' H' q' ⟨R'.zok, R'.fzok⟩ .non (fun _ _ e => by cases e) R'.base
  · exact k sv v g' H' q' ⟨R'.zok, R'.fzok⟩ r' t' R'.base
end
end Cl

/-! try, the caught exception's fields, its classes -/
namespace Cl
open PySem PySem.Spec PyProof.Rows L2

/-- a slot is emptied -/
theorem Rel.gone {K : PySem.W.Frag} {ZP : ZT} {B : Bs} {g : GW} {H : Hp} {cs : CS} {σ : L2.St} (R : Rel K ZP B g H cs σ) (i : Nat) : Rel K ZP B g H (cs.set i none) (σ.set i none) := by
  have key : ∀ {j : Nat} {sv : SV}, (cs.set i none)[j]? = some (some sv) → j ≠ i ∧ cs[j]? = some (some sv) := fun {j sv} e => by
    by_cases h : j = i
    · subst h
      by_cases hl : j < cs.length
      · rw [List.getElem?_set_self hl] at e; cases e
      · rw [List.getElem?_eq_none (by simpa using hl)] at e; cases e
    · exact ⟨h, by rw [List.getElem?_set_ne (Ne.symm h)] at e; exact e⟩
  have sg : ∀ {j : Nat} {v : V}, j ≠ i → (σ.set i none)[j]? = some (some v) → σ[j]? = some (some v) := fun {j v} h e => by
    rw [List.getElem?_set_ne (Ne.symm h)] at e; exact e
  refine ⟨by simp [R.len], fun j sv e => ?_, fun j k xs ys a e1 e2 e3 e4 => ?_, R.zok, R.fzok, R.base, fun a h => ?_, R.bs⟩
  · obtain ⟨h, e⟩ := key e
    obtain ⟨v, e1, r⟩ := R.slot j sv e
    exact ⟨v, by rw [List.getElem?_set_ne (Ne.symm h)]; exact e1, r⟩
  · obtain ⟨h1, e1⟩ := key e1
    obtain ⟨h2, e2⟩ := key e2
    exact R.sep j k xs ys a e1 e2 (sg h1 e3) (sg h2 e4)
  · obtain ⟨j, xs, e1, e2⟩ := h
    obtain ⟨h1, e1⟩ := key e1
    exact R.fresh a ⟨j, xs, e1, sg h1 e2⟩

/-! ### try: body, except x as e: suite -/
/-- tb: the body, by what is wished of exceptions; th: the suite, by the exception's address, class and dict; sub: whether a class is caught -/
def t_try (sub : Nat → Option Bool) (i : Nat) (tb : (EV → CS → Prop) → TSD) (th : Addr → Nat → Option Addr → TSD) (E : EV → CS → Prop) : TSD := fun D cs => ∀ E2 : EV → CS → Prop,
  (∀ ev cs', (∃ b, sub ev.cls = some b ∧ (b = true → i < cs'.length ∧ ∀ a d, th a ev.cls d { nx := fun c => D.nx (c.set i none), rt := D.rt, bk := fun c => D.bk (c.set i none), ct := fun c => D.ct (c.set i none) } (cs'.set i (some (.exc a ev.cls d ev.fs)))) ∧ (b = false → E ev cs')) → E2 ev cs') → tb E2 D cs
section
variable {X : Cx} {ca : Nat → Addr} {ZP : ZT} {x nm : Str} {c : Value} {i : Nat} {sub : Nat → Option Bool} {body suite : List Stmt} {b₀ : Stmt} {np pos pos' : Pos} {tb : (EV → CS → Prop) → TSD} {th : Addr → Nat → Option Addr → TSD} {E : EV → CS → Prop}
theorem ds0_try (hbs : ∀ B1 B2, ZP.bs B1 → ZP.bs B2 → B1 = B2) (hs : X.stack = X.env :: X.outer) (hf : X.env.frame = some X.env.locals) (hN : X.N.Nodup) (hi : X.N[i]? = some nm) (hln : X.env.kindOf nm = some .local) (hc : Names X x c)
    (hsub : ∀ n b, sub n = some b → PySem.W.exmOne X.K (.ref (ca n)) c = some b) (tk : TakesD X ca ZP E)
    (hb : ∀ (pn : List (Addr × Obj)) (xe : Value → Shared → Prop) (E2 : EV → CS → Prop), TakesD (X.tr pn xe) ca ZP E2 → DSs0 (X.tr pn xe) ZP body (tb E2))
    (hsu : ∀ (a : Addr) (oe : Obj) (n : Nat) (d : Option Addr) (pn : List (Addr × Obj)), Zc (.ref (ca n)) d oe → (∃ vs, oe.data = .fields vs) → DSs0 (X.suite a ((a, oe) :: pn)) ZP (b₀ :: suite) (th a n d)) :
    DS0 X ZP (.Try body [.ExceptHandler (some (.Name x np)) (some nm) (b₀ :: suite) pos'] [] [] pos) (t_try sub i tb th E) := by
  let EW : WX → EV → CS → Prop := fun W ev cs => ∀ B σ g H cls d, Rel X.K ZP B g H cs σ → Xr X.K ca g H ev cls d → W cls d σ H
  refine ⟨PS.imp (ps_try_as (tb := fun W => tS0 X.K ZP (tb (EW W))) (ts := fun a cls d D σ H => ∃ n, cls = .ref (ca n) ∧ tS0 X.K ZP (th a n d) D σ H) hs hf hN hi hln hc tk (fun W pn xe tkW _ => ?_) (fun a oe cls d pn hz hfl => ?_)) ?_⟩
  · refine (hb pn xe (EW W) ?_).pss
    refine Takes.imp tkW ?_
    rintro cls d σ H ⟨B, g, cs, ev, R, xr, e⟩
    exact e B σ g H cls d R xr
  · refine ⟨fun pins s σ H D I h => ?_⟩
    obtain ⟨n, e, h⟩ := h
    subst e
    exact (hsu a oe n d pn hz hfl).pss.run pins s σ H D I h
  · rintro D σ H ⟨B, cs, g, R, D', q, p⟩
    refine ⟨B, cs, g, R, D', q _ fun ev cs' hh => ?_, p⟩
    rintro B1 σ1 g1 H1 cls d R1 ⟨rfl, xr⟩
    obtain ⟨b, eb, h1, h2⟩ := hh
    have eB : B1 = B := hbs B1 B R1.bs R.bs
    rw [eB] at R1
    refine ⟨b, hsub _ _ eb, fun hb a ha => ?_, fun hb => ?_⟩
    · obtain ⟨hlen, h3⟩ := h1 hb
      refine ⟨ev.cls, rfl, B, cs'.set i (some (.exc a ev.cls d ev.fs)), g1, R1.store hlen ⟨rfl, xr⟩ (fun _ _ e => by cases e), _, h3 a d, ?_⟩
      constructor
      · exact fun c2 σ2 g2 H2 R2 s2 q2 => p.nx (c2.set i none) (σ2.set i none) g2 H2 (R2.gone i) s2 q2
      · exact fun c2 σ2 g2 H2 R2 s2 q2 => p.bk (c2.set i none) (σ2.set i none) g2 H2 (R2.gone i) s2 q2
      · exact fun c2 σ2 g2 H2 R2 s2 q2 => p.ct (c2.set i none) (σ2.set i none) g2 H2 (R2.gone i) s2 q2
      · exact p.rt
    · exact ⟨B, g1, cs', ev, R1, ⟨rfl, xr⟩, h2 hb⟩
/-- in a frame that lets nothing out -/
theorem takesD_no {X : Cx} {ca : Nat → Addr} {ZP : ZT} : TakesD X ca ZP (fun _ _ => False) := by
  rintro u s' ⟨a, B, sI, pins, σ, H, cls, d, e, I, nb, up, sky, na, os, ag, B', g, cs, ev, R, xr, z⟩
  exact z.elim
end

/-! ### e.f in the suite -/
def t_xf (n0 : Nat) (a : Addr) (n : Nat) (d : Option Addr) (f : Str) (i : Nat) : TVD := fun cs Q => n = n0 ∧ ∃ fs v, cs[i]? = some (some (.exc a n d fs)) ∧ fs.lookup f = some v ∧ Q v cs
theorem lookup_zip {K : PySem.W.Frag} {H : Hp} {fz : Addr → Prop} {f : Str} : ∀ {fs : List (Str × PyData)} {vs : List V} {d : PyData}, RpAll K H fz (fs.map (·.2)) vs → fs.lookup f = some d → ∃ v, ((fs.map (·.1)).zip vs).lookup f = some v ∧ Rp K H fz d v
  | [], _, _, _, e => by cases e
  | (y, c) :: fs, _, d, .cons (v := v) (vs := vs) r rs, e => by
    rw [List.lookup_cons] at e
    by_cases h : f == y
    · rw [h] at e
      cases e
      exact ⟨v, by rw [List.map_cons, List.zip_cons_cons, List.lookup_cons, h], r⟩
    · have h' : (f == y) = false := by simpa using h
      rw [h'] at e
      obtain ⟨u, e1, e2⟩ := lookup_zip rs e
      exact ⟨u, by rw [List.map_cons, List.zip_cons_cons, List.lookup_cons, h']; exact e1, e2⟩
section
variable {X : Cx} {ca : Nat → Addr} {ZP : ZT} {a : Addr} {oe : Obj} {n n0 : Nat} {d : Option Addr} {pn : List (Addr × Obj)} {x f : Str} {i : Nat} {pos p2 : Pos}
theorem dv_xf (T : XfC X.K (ca n0)) (hno : PySem.W.findIn X.K (.ref (ca n0)) f = some none) (hz : Zc (.ref (ca n)) d oe) (hf : ∃ vs, oe.data = .fields vs) (hN : X.N[i]? = some x) (hv : Vis X.env.scope x) (hd : (x == ("__debug__" : Str)) = false := by decide) (hcd : (x == ("__classdict__" : Str)) = false := by decide)
    (hb : attributeBase (.Name x p2) f X.env (eval (.Name x p2) X.env) = eval (.Name x p2) X.env := by rfl) :
    DV (X.suite a ((a, oe) :: pn)) ZP (.Attribute (.Name x p2) f pos) (t_xf n0 a n d f i) := by
  by_cases hn : n = n0
  · subst hn
    refine ⟨PE.imp (pe_xf T hno hz hf (pe_var (X := X.suite a ((a, oe) :: pn)) hN hv hd hcd) hb) ?_⟩
    rintro σ H Q ⟨B, cs, g, R, Q', ⟨_, fs, v, e, l, q⟩, k⟩
    obtain ⟨u, e1, rfl, xr⟩ := R.slot i _ e
    rcases xr with ⟨_, e4⟩ | ⟨dx, vs, e4, e5, e6, e7⟩
    · subst e4; cases l
    · obtain ⟨w, e8, r⟩ := lookup_zip e7 l
      exact ⟨_, e1, rfl, rfl, dx, _, w, e4, e5, e8, k v cs w g H q R r (fun _ h => h) .refl⟩
  · refine ⟨⟨fun pins s σ H Q I h => ?_⟩⟩
    obtain ⟨B, cs, g, R, Q', ⟨h0, _⟩, k⟩ := h
    exact absurd h0 hn
end
/-! ### isinstance of a caught exception that has fields: a twin for any dict -/
section
open PySem.W PySem.Calls
variable {prog : Program} {w : World} {A : Around} {E : Value → Shared → Prop} {s : Shared} {K : PySem.W.Frag} {x D : Addr} {ox : Obj} {od : Option Obj}
theorem bindN {C : Addr} {name : Str} {b v : Value} (isC : (clsIn K C).isSome = true) (inC : findIn K (.ref C) name = some (some b)) (getB : specialIn K b "__get__" = some (some v)) (tkB : takesIn K b = some true) : findObj K C od name = some (.bind v b) := by
  cases od with
  | some o => exact findObj_data isC inC getB tkB
  | none => exact findObj_dataN isC inC getB tkB
theorem class_of_exc {Q : Option Value → Shared → Prop} (c : ExcC K D) (inK : K.In s.heap) (J : InstAt s.heap x ox D od) (q : Q (some (.ref D)) { s with toks := s.toks + 1 }) :
    wpAny (model prog w) A (getAttr? (.ref x) "__class__") Q E s := by
  have bd : findObj K D od "__class__" = some (.bind (.builtin "getset_descriptor.__get__") (.builtin "object.__class__")) := by
    refine bindN ?_ c.ha c.hn c.ht
    obtain ⟨cd, e, _⟩ := any_some c.hd
    rw [e]; rfl
  obtain ⟨hh, gs, dr, tk, os⟩ := s
  have k0 := J.type (M := model prog w)
  have k1 := looks_findIn (M := model prog w) inK c.hg
  have k2 := looks_findIn (M := model prog w) inK c.hk
  have k3 := looks_find (M := model prog w) inK J bd
  have below : Looks (model prog w) hh (isInstance (.ref x) (.type "BaseException")) true := k0.andThen (looks_subIn inK c.hs)
  have z0 : (false && onTheHeap (Value.builtin "BaseException.__getattribute__")) = false := rfl
  have z2 : (Value.builtin "BaseException.__getattribute__" == Value.builtin "object.__getattribute__") = false := by decide +kernel
  have z1 : (onTheHeap (Value.ref D) && Value.builtin "BaseException.__getattribute__" == Value.builtin "object.__getattribute__") = false := by
    rw [z2]; rfl
  unfold getAttr? getAttrBy? getAttrBy
  refine wpAny_bind (wpAny_mkText (wpAny_bind (wpAny_attempt (wpAny_holding (wpAny_bind (k0.at (wpAny_bind (k1.at ?_))))))))
  show wpAny _ _ (if (onTheHeap (Value.ref D) && Value.builtin "BaseException.__getattribute__" == Value.builtin "object.__getattribute__") = true then _ else _) _ _ _
  rw [z1, if_neg Bool.false_ne_true]
  unfold getAttrByItsOwn hookBefore
  refine wpAny_bind ?_
  rw [if_pos (show onTheHeap (Value.ref D) = true from rfl)]
  refine k2.at (wpAny_bind (wpAny_attempt (wpAny_holding ?_)))
  unfold callGetattribute
  rw [z0, if_neg Bool.false_ne_true]
  unfold boundAndCalled
  rw [PySem.F.excAttr_ValueError.ga.bind (.ref x)]
  refine wpAny_bind (wpAny_pure ?_)
  show wpAny _ _ (call (.builtin "BaseException.__getattribute__") [.ref x, .str "__class__" tk]) _ _ _
  refine wpAny_call (codeAny_call_builtin PySem.F.excAttr_ValueError.ga.plain PySem.F.entry_bexc_ga ?_)
  refine @check_slot (model prog w) _ _ ⟨hh, gs, dr, tk + 1, os⟩ "BaseException.__getattribute__" "BaseException" "__getattribute__" (.ref x) [.str "__class__" tk] [] _ (by decide +kernel) (by decide +kernel) below (PySem.F.args_bexc_ga (.ref x) (.str "__class__" tk)) ?_
  unfold Builtin.«object.__getattribute__»
  refine wpAny_bind (wpAny_of_eq (a := ((Value.ref x : Value), [Value.str "__class__" tk])) (by first | rfl | (simp only [slotArgs]; rfl)) ?_)
  refine wpAny_bind (wpAny_pure (wpAny_bind (k0.at (wpAny_bind (k3.at ?_)))))
  show wpAny _ _ (holding [Value.builtin "object.__class__"] (call (.builtin "getset_descriptor.__get__") [.builtin "object.__class__", .ref x, .ref D]) >>= ret) _ _ _
  refine wpAny_bind (wpAny_holding (wpAny_call (class_get (s := ⟨hh, gs, dr, tk + 1, os⟩) (ox := ox) (od := od) inK J c.hm ?_)))
  refine wpAny_pure ?_
  show wpAny _ _ (handedOut (.ref D)) _ _ _
  rw [handedOut_of (v := .ref D) rfl]
  first
    | exact wpAny_pure (wpAny_pure q)
    | exact wpAny_pure q
    | exact wpAny_pure (wpAny_bind (wpAny_pure (wpAny_pure q)))
theorem kit_excO (c : ExcC K D) : KitX K (.ref x) (.ref D) (fun h => InstAt h x ox D od) where
  ty := fun _ _ _ J => J.type
  it := fun _ _ inK _ => by
    obtain ⟨cd, e, _⟩ := any_some c.hd
    unfold clsIn at e
    split at e
    · rename_i c1 d1 cd1 sl1 eo
      intro A1 Q1 E1 s1 kk qq
      unfold isType loadHead
      exact wpAny_bind (wpAny_loadPart (kk _ _ (inK _ _ eo)) (wpAny_pure qq))
    · cases e
  ne := fun h tp dd its n sl inK htp => by
    obtain ⟨cd, e, _⟩ := any_some c.hd
    refine Bool.eq_false_iff.mpr fun q => ?_
    cases (Value.ref.inj (beq_iff_eq.mp q) : D = tp)
    unfold clsIn at e
    split at e
    · rename_i c1 d1 cd1 sl1 eo
      cases (inK _ _ eo).symm.trans htp
    · cases e
  ca := fun inK J k => class_of_exc c inK J k
end
/-- isinstance(e, c) -/
def rIsX (K : PySem.W.Frag) (C a : Addr) (d : Option Addr) : List V → Hp → VK → Prop := fun xs H Q => ∃ (c : V) (cv : Value) (b : Bool), xs = [.ref a, c] ∧ (∀ u, RelV c u → u = cv) ∧ PySem.W.kitOne K (.ref C) cv = some b ∧
  (d = none ∨ ∃ dx fs, d = some dx ∧ H dx = some (.xd fs)) ∧ Q (.bl b) H
theorem call_isX {X : Cx} {a C : Addr} {d : Option Addr} {oe : Obj} {pn : List (Addr × Obj)} (c : ExcC X.K C) (hz : Zc (.ref C) d oe) (hf : ∃ vs, oe.data = .fields vs) : CallR (X.suite a ((a, oe) :: pn)) (.builtin "isinstance") (rIsX X.K C a d) := by
  rintro pins s σ H xs us Q I r ⟨w, cv, b, rfl, hcv, e, hd, q⟩
  obtain ⟨u1, u2, rfl, r1, r2⟩ := vals2 r
  cases (show u1 = Value.ref a from r1)
  cases hcv _ r2
  obtain ⟨hget, _⟩ := I.pin (a, oe) (List.mem_append.mpr (.inl List.mem_cons_self))
  obtain ⟨vs, hv⟩ := hf
  have nc : PySem.W.notCls oe = true := by unfold PySem.W.notCls; rw [hv]
  have fin : ∀ od, PySem.W.InstAt s.heap a oe C od → wpAny (model X.prog X.w) (X.suite a ((a, oe) :: pn)).A (call (.builtin "isinstance") [.ref a, cv]) (EP (X.suite a ((a, oe) :: pn)) pins σ Q) (X.suite a ((a, oe) :: pn)).xe s := fun od J =>
    PySem.W.kia_one (kit_excO c) I.kIn J e (fun z => nomatch z) fun tk => ⟨.bl b, H, I.kept (t' := tk) fun _ _ z => z, rfl, q⟩
  rcases hd with hd | ⟨dx, fs, hd, hx⟩
  · refine fin none ⟨hget, hz.1, nc, ?_⟩
    rw [hz.2, hd]
    trivial
  · obtain ⟨mA, ⟨o, es, ep, ho, _⟩, _⟩ := (show ObjOk X.prog X.w H s.heap dx (.xd fs) from I.hok dx _ hx)
    refine fin (some o) ⟨hget, hz.1, nc, ?_⟩
    rw [hz.2, hd]
    exact ho
def t_isx (sub : Nat → Option Bool) (a : Addr) (n : Nat) (d : Option Addr) (i : Nat) : TVD := fun cs Q => ∃ b fs, sub n = some b ∧ cs[i]? = some (some (.exc a n d fs)) ∧ Q (.bool b) cs
section
variable {X : Cx} {ca : Nat → Addr} {ZP : ZT} {a : Addr} {oe : Obj} {n : Nat} {d : Option Addr} {pn : List (Addr × Obj)} {x y : Str} {i : Nat} {pos p2 p3 p : Pos} {sub : Nat → Option Bool} {v : V} {cv : Value}
theorem dv_isx (hE : ∀ m b, sub m = some b → ExcC X.K (ca m) ∧ PySem.W.kitOne X.K (.ref (ca m)) cv = some b) (hz : Zc (.ref (ca n)) d oe) (hf : ∃ vs, oe.data = .fields vs) (hg : Gl X "isinstance") (hm : X.mg "isinstance" = none)
    (hN : X.N[i]? = some x) (hv : Vis X.env.scope x) (hc : PE (X.suite a ((a, oe) :: pn)) (.Name y p3) (tC v)) (hcv : ∀ u, RelV v u → u = cv) (hd : (x == ("__debug__" : Str)) = false := by decide) (hcd : (x == ("__classdict__" : Str)) = false := by decide)
    (he : starEach [.Name x p2, .Name y p3] X.env = (false, eval (.Name x p2) X.env) :: starEach [.Name y p3] X.env := by rfl) :
    DV (X.suite a ((a, oe) :: pn)) ZP (.Call (.Name "isinstance" p) [.Name x p2, .Name y p3] [] pos) (t_isx sub a n d i) := by
  cases hs : sub n with
  | none =>
    refine ⟨⟨fun pins s σ H Q I h => ?_⟩⟩
    obtain ⟨B, cs, g, R, Q', ⟨b, fs, h0, _⟩, k⟩ := h
    rw [hs] at h0; cases h0
  | some b0 =>
    obtain ⟨c, kk⟩ := hE n b0 hs
    refine ⟨PE.imp (pe_callB (X := X.suite a ((a, oe) :: pn)) (call_isX c hz hf) hg hm (by decide +kernel) (pa_cons (pe_var (X := X.suite a ((a, oe) :: pn)) hN hv hd hcd) (pa_cons hc pa_nil) he) (by decide) (by decide) he rfl) ?_⟩
    rintro σ H Q ⟨B, cs, g, R, Q', ⟨b, fs, h0, e, q⟩, k⟩
    rw [hs] at h0; cases h0
    obtain ⟨u, e1, rfl, xr⟩ := R.slot i _ e
    refine ⟨_, e1, v, cv, b0, rfl, hcv, kk, ?_, k _ cs _ g H q R (.bl b0) (fun _ h => h) .refl⟩
    rcases xr with ⟨h1, _⟩ | ⟨dx, vs, e4, e5, _, _⟩
    · exact .inl h1
    · exact .inr ⟨dx, _, e4, e5⟩
end
end Cl

/-! len of the script; x[i] = e with its side conditions -/
namespace Cl
open PySem PySem.Spec PyProof.Rows L2
section
variable {X : Cx} {ZP : ZT} {pos p p2 : Pos} {x : Str}
def t_lenScr (i : Nat) : TVD := fun cs Q => ∃ ns, cs[i]? = some (some (.scr ns)) ∧ Q (.int ns.length) cs
theorem dv_lenScr (i : Nat) (hm : X.mg "len" = none) (hg : Gl X "len" := by rfl) (hN : X.N[i]? = some x := by rfl) (hv : Vis X.env.scope x := by first | exact Or.inl rfl | exact Or.inr (Or.inl rfl) | exact Or.inr (Or.inr rfl)) (hd : (x == ("__debug__" : Str)) = false := by decide)
    (hcd : (x == ("__classdict__" : Str)) = false := by decide) (he : starEach [.Name x p2] X.env = (false, eval (.Name x p2) X.env) :: starEach [] X.env := by rfl) : DV X ZP (.Call (.Name "len" p) [.Name x p2] [] pos) (t_lenScr i) := by
  refine ⟨PE.imp (pe_callB call_len_seq hg hm (by decide +kernel) (pa_cons (pe_var hN hv hd hcd) pa_nil he) (by decide) (by decide) he rfl) ?_⟩
  rintro σ H Q ⟨B, cs, g, R, Q', ⟨ns, e, q⟩, k⟩
  obtain ⟨v, e1, r⟩ := R.slot i _ e
  obtain ⟨a, rfl, hs⟩ := scr_sq r
  refine ⟨_, e1, a, ns.map V.int, rfl, .inl hs, ?_⟩
  rw [List.length_map]
  exact k _ cs _ g H q R (.int _) (fun _ h => h) .refl
variable {ie : Expr} {ti : TVD} {xpos : Pos}
theorem dgix (i : Nat) (h : DV X ZP ie ti) (hN : X.N[i]? = some x := by rfl) (hv : Vis X.env.scope x := by first | exact Or.inl rfl | exact Or.inr (Or.inl rfl) | exact Or.inr (Or.inr rfl)) (hd : (x == ("__debug__" : Str)) = false := by decide)
    (hcd : (x == ("__classdict__" : Str)) = false := by decide)
    (ha : ∀ v, assign (.Subscript (.Name x xpos) ie pos) X.env v = (do
      let ov ← holding [v] (eval (.Name x xpos) X.env)
      let iv ← holding [v, ov] (eval ie X.env)
      standAt pos
      holding [v, ov, iv] (setItem ov iv v)
      release [v, ov, iv] []) := by intro _; rfl) : DG X ZP (.Subscript (.Name x xpos) ie pos) (g_setix i ti) := dg_setix hN hv h hd hcd ha
end
end Cl

/-! tuple * 1; a def that may raise, but does not; the law's end for it -/
namespace Cl
open PySem PySem.Spec PyProof.Rows L2
theorem mul_one {l : Addr} {its : Array Value} {n : Nat} {dd : Option Addr} {sl : Array (Option Value)} {u : Tok} :
    Meets (Builtin.«tuple.__mul__» ⟨[.ref l, .int 1 u], []⟩) (fun _ R s => s.heap.get? l = some { cls := .type "tuple", dict := dd, data := .seq its n, slots := sl } ∧ R (.ok (.ret (Value.ref l))) s) :=
  .of_wp fun prog w A R s h => by
    obtain ⟨hp, g, d, tk, os⟩ := s
    obtain ⟨hl, h⟩ := h
    have f1 := AutoSeq1.idx_int
    wp_walk using wpAny_loadPart' hl
    repeat (first
      | (refine wpAny_ite_false (by decide) ?_; wp_walk using wpAny_loadPart' hl)
      | (refine wpAny_ite_true (by simp) ?_; wp_walk using wpAny_loadPart' hl))
    exact ⟨_, rfl, h⟩
theorem op_rep1 {X : Cx} : OpR X (binaryOp .Mult) (fun x y H Q => ∃ l xs, x = .ref l ∧ y = .int 1 ∧ SqT X.K H l xs ∧ Q (.ref l) H) := by
  rintro pins s σ H x y v u Q I rx ry ⟨l, xs, rfl, rfl, hT, q⟩
  cases rx
  obtain ⟨t, rfl⟩ := ry
  obtain ⟨its, r, ⟨⟨cls, dd, data, sl⟩, ho, hc, n, hd⟩, hs⟩ := I.tuple hT
  simp only at hc hd
  subst hc hd
  exact wpAny_binaryOp_repeat_ref (T := "tuple") (U := "int") (by decide) ⟨_, ho, rfl⟩ (fun s' => typeIs_int s' 1 t) noFill_tuple_mul F.fills_int_mul F.slot_int_rmul repeat_tuple F.slot_int_index.lookup
    (call_meets F.slot_int_rmul (typeIs_int s 1 t) F.entry_int_rmul (F.args_int_rmul_2 _ _) (int_rmul_tuple 1 t l its.toArray n dd sl)
      ⟨ho, rfl, ⟨_, ho, rfl⟩, call_meets F.slot_tuple_mul ⟨_, ho, rfl⟩ F.entry_tuple_mul (F.args_tuple_mul_2 _ _) mul_one ⟨ho, ⟨.ref l, H, I, rfl, q⟩⟩⟩)
/-- *, a tuple once too -/
def mulY : OpX := fun x y Q => match x, y with
  | .tuple xs, .int k => if k = 1 then Q (.dat (.tuple xs)) else mulX (.tuple xs) (.int k) Q
  | x, y => mulX x y Q
theorem oy_mul {X : Cx} : OpR X (binaryOp .Mult) (rO X.K mulY) := by
  rintro pins s σ H x y v u Q I rx ry ⟨fz, d, e, hd, he, Q', q, k⟩
  have old : mulX d e Q' → wpAny (model X.prog X.w) X.A (binaryOp .Mult v u) (EP X pins σ Q) X.xe s := fun q => ox_mul pins s σ H x y v u Q I rx ry ⟨fz, d, e, hd, he, Q', q, k⟩
  cases d with
  | tuple xs =>
    cases e with
    | int j =>
      have q : (if j = 1 then Q' (.dat (.tuple xs)) else mulX (.tuple xs) (.int j) Q') := q
      by_cases hj : j = 1
      · rw [if_pos hj] at q
        subst hj
        obtain ⟨a, vs, rfl, ha, ra⟩ := hd.tup
        cases he.int
        exact op_rep1 pins s σ H _ _ v u Q I rx ry ⟨a, vs, rfl, rfl, ha, k _ _ _ q (.same (.tup ha ra))⟩
      · rw [if_neg hj] at q
        exact old q
    | _ => exact old q
  | _ => cases e <;> exact old q
/-- the promise of a def that may raise, told of its calls that do not -/
theorem FnG.quiet {P : Program} {w : World} {K : PySem.W.Frag} {mg : Str → Option Value} {base : Heap} {k : Nat} {f : Addr} {fd : FuncData} {ps : List Str} {ca : Nat → Addr} {zp : ZF} {n : Nat} {C : TX} (F : FnG P w K mg base (L2.CX P w) k f fd ps (spX K ca zp n C)) :
    FnG P w K mg base CX0 k f fd ps (spD K zp n fun svs Q => C svs Q fun _ => False) := by
  have up : ∀ vs H Q E, spD K zp n (fun svs Q => C svs Q fun _ => False) vs H Q E → spX K ca zp n C vs H Q (fun _ _ _ => False) := by
    rintro vs H Q E ⟨hl, svs, g, r, st, G, Q', q, h⟩
    exact ⟨hl, svs, g, r, st, G, Q', _, q, h, fun _ _ _ _ _ z => z.elim⟩
  refine ⟨fun vs H Q E h => F.len _ _ _ _ (up _ _ _ _ h), fun A o s H a us vs Q E hg hr he hb hv hs => ?_⟩
  refine codeAny_mono (F.run A o s H a us vs Q _ hg hr he hb hv (up _ _ _ _ hs)) fun r s' z => ?_
  cases r with
  | error e =>
    obtain ⟨_, _, _, _, _, _, _, _, _, _, _, _, z⟩ := z
    exact z.elim
  | ok fl => cases fl <;> exact z
end Cl

/-! sum of a tuple, min and max of ints -/
namespace Cl
open PySem PySem.Spec PyProof.Rows L2
def sumY : C1X := fun d Q => match d with
  | .tuple xs => (match intsD xs with
    | some ns => Q (.dat (.int ns.sum))
    | none => False)
  | d => sumX d Q
theorem c_sumY {X : Cx} (hc : X.calm = true) : CallR X (.builtin "sum") (rC1 X.K sumY) := by
  rintro pins s σ H xs us Q I r ⟨x, fz, d, rfl, hd, Q', q, k⟩
  cases d with
  | tuple ds =>
    obtain ⟨a, vs, rfl, h, ra⟩ := hd.tup
    cases e : intsD ds with
    | none => simp only [sumY, e] at q
    | some ns =>
      simp only [sumY, e] at q
      have hv := ra.intsOf e
      rw [hv] at h
      obtain ⟨its, rv, ht, _⟩ := I.tuple h
      rw [Vals.ref1 r]
      have hi : IntsAre its ns := rv.ints
      obtain ⟨ys, ey⟩ := hi.allInts.items
      have hn : numsOf (intItems ys).toList = ns := by rw [← ey]; exact hi.numsOf
      rw [nums_intItems] at hn
      rw [ey] at ht
      refine PySem.W.ktm_sumG (I.ok.hd hc) ht fun h' tk t' hk => ?_
      rw [preSum_eq, List.take_of_length_le (by simp), hn]
      exact ⟨.int _, H, I.kept hk, ⟨_, rfl⟩, k _ _ _ q (.same (.int _))⟩
  | _ => exact c_sum hc pins s σ H _ us Q I r ⟨x, fz, _, rfl, hd, Q', q, k⟩
/-- the greatest, the least of some ints -/
def maxX : C1X := fun d Q => match d with
  | .list xs => (match intsD xs with
    | some ns => 0 < ns.length ∧ ∀ m, m ∈ ns → (∀ y, y ∈ ns → y ≤ m) → Q (.dat (.int m))
    | none => False)
  | _ => False
def minX : C1X := fun d Q => match d with
  | .list xs => (match intsD xs with
    | some ns => 0 < ns.length ∧ ∀ m, m ∈ ns → (∀ y, y ∈ ns → m ≤ y) → Q (.dat (.int m))
    | none => False)
  | _ => False
theorem c_max {X : Cx} (hc : X.calm = true) : CallR X (.builtin "max") (rC1 X.K maxX) := by
  rintro pins s σ H xs us Q I r ⟨x, fz, d, rfl, hd, Q', q, k⟩
  cases d with
  | list ds =>
    obtain ⟨a, vs, rfl, h, ra⟩ := hd.lst
    cases e : intsD ds with
    | none => simp only [maxX, e] at q
    | some bs =>
      simp only [maxX, e] at q
      exact cr_max hc pins s σ H _ us Q I r ⟨a, bs, rfl, SqL.of (by rw [← ra.intsOf e]; exact h), q.1, fun m h1 h2 => k _ _ _ (q.2 m h1 h2) (.same (.int _))⟩
  | _ => exact q.elim
theorem c_min {X : Cx} (hc : X.calm = true) : CallR X (.builtin "min") (rC1 X.K minX) := by
  rintro pins s σ H xs us Q I r ⟨x, fz, d, rfl, hd, Q', q, k⟩
  cases d with
  | list ds =>
    obtain ⟨a, vs, rfl, h, ra⟩ := hd.lst
    cases e : intsD ds with
    | none => simp only [minX, e] at q
    | some bs =>
      simp only [minX, e] at q
      exact cr_min hc pins s σ H _ us Q I r ⟨a, bs, rfl, SqL.of (by rw [← ra.intsOf e]; exact h), q.1, fun m h1 h2 => k _ _ _ (q.2 m h1 h2) (.same (.int _))⟩
  | _ => exact q.elim
end Cl

/-! what the top says of the classes of errors -/
namespace Cl
open PySem PySem.Spec PyProof.Rows L2
theorem kit_vE {K : PySem.W.Frag} {c : Addr} {b : Bool} (h : PySem.W.subIn K (.ref c) (.type "ValueError") = some b) : PySem.W.kitOne K (.ref c) (.type "ValueError") = some b := by
  unfold PySem.W.kitOne
  rw [if_neg (by intro z; cases z)]
  show (if PySem.W.kitMeta "ValueError" = true then PySem.W.subIn K (.ref c) (.type "ValueError") else none) = some b
  rw [if_pos (by decide +kernel)]
  exact h
theorem kit_cl {K : PySem.W.Frag} {c d : Addr} {b : Bool} (hc : PySem.W.isClsIn K d = true) (ht : PySem.W.typeIn K (.ref d) = some (.type "type")) (hd : PySem.W.subIn K (.ref d) (.ref d) = some true) (h : PySem.W.subIn K (.ref c) (.ref d) = some b) : PySem.W.kitOne K (.ref c) (.ref d) = some b := by
  unfold PySem.W.kitOne
  by_cases e : c = d
  · subst e
    rw [h] at hd
    rw [if_pos (by simp)]
    exact hd.symm
  · rw [if_neg (by simpa using e)]
    show (if ((PySem.W.clsIn K d).isSome && PySem.W.typeIn K (.ref d) == some (.type "type")) = true then PySem.W.subIn K (.ref c) (.ref d) else none) = some b
    have hc' : (PySem.W.clsIn K d).isSome = true := hc
    rw [if_pos (by rw [hc', ht]; rfl)]
    exact h
theorem oex_of {K : PySem.W.Frag} {C : Addr} {nm q : Str} {N : Addr} {bs bm : List Value} {sn : List Str} {sub : List Value} {ab : Bool} {col : Option Bool} {dd : Option Addr} {m0 m1 m2 m3 m5 : Option Value}
    (l : K.lookup C = some (excClassObj nm q C N bs bm true sn sub ab col dd m0 m1 m2 m3 m5 "ValueError.__new__")) (hb : PySem.HandSPX.refsVE bm = true) (sa : PySem.W.findIn K (.ref C) "__setattr__" = some (some (.builtin "object.__setattr__"))) (eC : PySem.W.subIn K (.ref C) (.type "BaseException") = some true)
    (tC : PySem.W.typeIn K (.ref C) = some (.type "type")) (kC : PySem.W.keepIn K (.ref C) = true) : OexC K C := ⟨⟨nm, q, N, bs, bm, sn, sub, ab, col, dd, m0, m1, m2, m3, m5, l, hb⟩, sa, eC, tC, kC⟩
end Cl

namespace Lk
open PySem PySem.Spec PyProof.Rows L2 Cl
def topS (i : Nat) : Stmt := PySem.Challenge.pw_onlyhigher_k03_states_in_order.main.body.getD i (.Pass ⟨0, 0, 0, 0⟩)
abbrev S_is_integer : Stmt := topS 4
abbrev N_is_integer : List Str := ["value"]
theorem SC_is_integer : FnScope N_is_integer ["value"] (defScope S_is_integer) := ⟨rfl, rfl, rfl, by decide +kernel, rfl, by decide +kernel, by decide +kernel⟩
abbrev S_states : Stmt := topS 6
abbrev N_states : List Str := ["card", "found", "top", "longer", "state", "level"]
theorem SC_states : FnScope N_states ["card"] (defScope S_states) := ⟨rfl, rfl, rfl, by decide +kernel, rfl, by decide +kernel, by decide +kernel⟩
abbrev S_is_state : Stmt := topS 7
abbrev N_is_state : List Str := ["card", "value", "level", "top"]
theorem SC_is_state : FnScope N_is_state ["card", "value"] (defScope S_is_state) := ⟨rfl, rfl, rfl, by decide +kernel, rfl, by decide +kernel, by decide +kernel⟩
abbrev S_place_of : Stmt := topS 8
abbrev N_place_of : List Str := ["card", "state", "place", "level", "top"]
theorem SC_place_of : FnScope N_place_of ["card", "state"] (defScope S_place_of) := ⟨rfl, rfl, rfl, by decide +kernel, rfl, by decide +kernel, by decide +kernel⟩
abbrev S_is_above : Stmt := topS 9
abbrev N_is_above : List Str := ["state", "other", "low", "high"]
theorem SC_is_above : FnScope N_is_above ["state", "other"] (defScope S_is_above) := ⟨rfl, rfl, rfl, by decide +kernel, rfl, by decide +kernel, by decide +kernel⟩
abbrev S_rises : Stmt := topS 10
abbrev N_rises : List Str := ["state", "other"]
theorem SC_rises : FnScope N_rises ["state", "other"] (defScope S_rises) := ⟨rfl, rfl, rfl, by decide +kernel, rfl, by decide +kernel, by decide +kernel⟩
abbrev S_room : Stmt := topS 11
abbrev N_room : List Str := ["card", "state", "top", "level"]
theorem SC_room : FnScope N_room ["card", "state"] (defScope S_room) := ⟨rfl, rfl, rfl, by decide +kernel, rfl, by decide +kernel, by decide +kernel⟩
abbrev S__law_box : Stmt := topS 13
abbrev N__law_box : List Str := ["_law_script", "_law_marks", "_law_stirred", "_law_cell", "_law_mark"]
theorem SC__law_box : FnScope N__law_box ["_law_script"] (defScope S__law_box) := ⟨rfl, rfl, rfl, by decide +kernel, rfl, by decide +kernel, by decide +kernel⟩
abbrev S__law_draw : Stmt := topS 14
abbrev N__law_draw : List Str := ["_law_box_here", "_law_many", "_law_great_here", "_law_mark", "_law_count", "_law_found"]
theorem SC__law_draw : FnScope N__law_draw ["_law_box_here", "_law_many"] (defScope S__law_draw) := ⟨rfl, rfl, rfl, by decide +kernel, rfl, by decide +kernel, by decide +kernel⟩
abbrev S__law_pick : Stmt := topS 15
abbrev N__law_pick : List Str := ["_law_box_here", "_law_items"]
theorem SC__law_pick : FnScope N__law_pick ["_law_box_here", "_law_items"] (defScope S__law_pick) := ⟨rfl, rfl, rfl, by decide +kernel, rfl, by decide +kernel, by decide +kernel⟩
abbrev S__law_card : Stmt := topS 16
abbrev N__law_card : List Str := ["_law_box_here", "_law_most", "_law_found", "_law_size", "_law_turn", "_law_top"]
theorem SC__law_card : FnScope N__law_card ["_law_box_here", "_law_most"] (defScope S__law_card) := ⟨rfl, rfl, rfl, by decide +kernel, rfl, by decide +kernel, by decide +kernel⟩
abbrev S__law_all : Stmt := topS 17
abbrev N__law_all : List Str := ["_law_card_here", "_law_levels", "_law_found", "_law_top", "_law_place"]
theorem SC__law_all : FnScope N__law_all ["_law_card_here"] (defScope S__law_all) := ⟨rfl, rfl, rfl, by decide +kernel, rfl, by decide +kernel, by decide +kernel⟩
abbrev S__law_great : Stmt := topS 18
abbrev N__law_great : List Str := ["_law_box_here"]
theorem SC__law_great : FnScope N__law_great ["_law_box_here"] (defScope S__law_great) := ⟨rfl, rfl, rfl, by decide +kernel, rfl, by decide +kernel, by decide +kernel⟩
abbrev S__law_told : Stmt := topS 19
abbrev N__law_told : List Str := ["_law_card_here", "_law_thing", "_law_is_named", "bad_state"]
theorem SC__law_told : FnScope N__law_told ["_law_card_here", "_law_thing", "_law_is_named"] (defScope S__law_told) := ⟨rfl, rfl, rfl, by decide +kernel, rfl, by decide +kernel, by decide +kernel⟩
abbrev S__law_odd : Stmt := topS 20
abbrev N__law_odd : List Str := ["_law_box_here", "_law_card_here", "_law_levels", "_law_spot", "_law_fresh", "_law_menu", "_law_level"]
theorem SC__law_odd : FnScope N__law_odd ["_law_box_here", "_law_card_here", "_law_levels"] (defScope S__law_odd) := ⟨rfl, rfl, rfl, by decide +kernel, rfl, by decide +kernel, by decide +kernel⟩
abbrev S__law_is_state : Stmt := topS 21
abbrev N__law_is_state : List Str := ["_law_card_here", "_law_thing", "_law_top", "_law_level"]
theorem SC__law_is_state : FnScope N__law_is_state ["_law_card_here", "_law_thing"] (defScope S__law_is_state) := ⟨rfl, rfl, rfl, by decide +kernel, rfl, by decide +kernel, by decide +kernel⟩
abbrev S__law_is_counted : Stmt := topS 22
abbrev N__law_is_counted : List Str := ["_law_box_here", "_law_card_here", "_law_turns", "_law_due", "_law_turn", "_law_place", "_law_thing", "_law_told_here", "_law_kept"]
theorem SC__law_is_counted : FnScope N__law_is_counted ["_law_box_here", "_law_card_here", "_law_turns"] (defScope S__law_is_counted) := ⟨rfl, rfl, rfl, by decide +kernel, rfl, by decide +kernel, by decide +kernel⟩
abbrev S__law_is_compared : Stmt := topS 23
abbrev N__law_is_compared : List Str := ["_law_card_here", "_law_one", "_law_two", "_law_gaps", "_law_first", "_law_second", "_law_is_up", "_law_gap"]
theorem SC__law_is_compared : FnScope N__law_is_compared ["_law_card_here", "_law_one", "_law_two"] (defScope S__law_is_compared) := ⟨rfl, rfl, rfl, by decide +kernel, rfl, by decide +kernel, by decide +kernel⟩
abbrev S__law_is_all : Stmt := topS 24
abbrev N__law_is_all : List Str := ["_law_box_here", "_law_card_here", "_law_rows", "_law_one", "_law_left", "_law_top", "_law_level", "_law_two", "_law_three", "_law_turn", "_law_told_here", "_law_full"]
theorem SC__law_is_all : FnScope N__law_is_all ["_law_box_here", "_law_card_here"] (defScope S__law_is_all) := ⟨rfl, rfl, rfl, by decide +kernel, rfl, by decide +kernel, by decide +kernel⟩
abbrev S_law : Stmt := topS 25
abbrev N_law : List Str := ["_law_script", "_law_box_here", "_law_small", "_law_middle", "_law_last"]
theorem SC_law : FnScope N_law ["_law_script"] (defScope S_law) := ⟨rfl, rfl, rfl, by decide +kernel, rfl, by decide +kernel, by decide +kernel⟩
abbrev SI_NoState : Stmt := (match topS 2 with | .ClassDef _ _ _ b _ _ _ _ _ _ _ => b | _ => []).getD 0 (.Pass ⟨0, 0, 0, 0⟩)
theorem SCI_NoState : FnScope ["self", "given"] ["self", "given"] (defScope SI_NoState) := ⟨rfl, rfl, rfl, by decide +kernel, rfl, by decide +kernel, by decide +kernel⟩
structure Adr where
  a_is_integer : Addr
  d_is_integer : FuncData
  a_states : Addr
  d_states : FuncData
  a_is_state : Addr
  d_is_state : FuncData
  a_place_of : Addr
  d_place_of : FuncData
  a_is_above : Addr
  d_is_above : FuncData
  a_rises : Addr
  d_rises : FuncData
  a_room : Addr
  d_room : FuncData
  a__law_box : Addr
  d__law_box : FuncData
  a__law_draw : Addr
  d__law_draw : FuncData
  a__law_pick : Addr
  d__law_pick : FuncData
  a__law_card : Addr
  d__law_card : FuncData
  a__law_all : Addr
  d__law_all : FuncData
  a__law_great : Addr
  d__law_great : FuncData
  a__law_told : Addr
  d__law_told : FuncData
  a__law_odd : Addr
  d__law_odd : FuncData
  a__law_is_state : Addr
  d__law_is_state : FuncData
  a__law_is_counted : Addr
  d__law_is_counted : FuncData
  a__law_is_compared : Addr
  d__law_is_compared : FuncData
  a__law_is_all : Addr
  d__law_is_all : FuncData
  a_law : Addr
  d_law : FuncData
  a_HigherError : Addr
  a_NoState : Addr
  i_NoState : Addr
  di_NoState : FuncData
def Adr.ca (A : Adr) : Nat → Addr := fun n => match n with  | _ => A.a_NoState
def sb_HigherError : Nat → Option Bool := fun n => if n < 1 then some true else none
def sb_NoState : Nat → Option Bool := fun n => if n = 0 then some true else if n < 1 then some false else none
def sb_ValueError : Nat → Option Bool := fun n => if n < 1 then some true else none
structure Tx (K : PySem.W.Frag) (mg : Str → Option Value) (A : Adr) : Prop where
  m_ValueError : mg "ValueError" = none
  m_abs : mg "abs" = none
  m_all : mg "all" = none
  m_bool : mg "bool" = none
  m_int : mg "int" = none
  m_isinstance : mg "isinstance" = none
  m_len : mg "len" = none
  m_list : mg "list" = none
  m_range : mg "range" = none
  m_repr : mg "repr" = none
  m_sum : mg "sum" = none
  m_tuple : mg "tuple" = none
  m_zip : mg "zip" = none
  F_is_integer : Fun K "is_integer" "is_integer" S_is_integer A.a_is_integer A.d_is_integer
  g_is_integer : mg "is_integer" = some (.ref A.a_is_integer)
  b_is_integer : Binds K A.d_is_integer ["value"] []
  F_states : Fun K "states" "states" S_states A.a_states A.d_states
  g_states : mg "states" = some (.ref A.a_states)
  b_states : Binds K A.d_states ["card"] []
  F_is_state : Fun K "is_state" "is_state" S_is_state A.a_is_state A.d_is_state
  g_is_state : mg "is_state" = some (.ref A.a_is_state)
  b_is_state : Binds K A.d_is_state ["card", "value"] []
  F_place_of : Fun K "place_of" "place_of" S_place_of A.a_place_of A.d_place_of
  g_place_of : mg "place_of" = some (.ref A.a_place_of)
  b_place_of : Binds K A.d_place_of ["card", "state"] []
  F_is_above : Fun K "is_above" "is_above" S_is_above A.a_is_above A.d_is_above
  g_is_above : mg "is_above" = some (.ref A.a_is_above)
  b_is_above : Binds K A.d_is_above ["state", "other"] []
  F_rises : Fun K "rises" "rises" S_rises A.a_rises A.d_rises
  g_rises : mg "rises" = some (.ref A.a_rises)
  b_rises : Binds K A.d_rises ["state", "other"] []
  F_room : Fun K "room" "room" S_room A.a_room A.d_room
  g_room : mg "room" = some (.ref A.a_room)
  b_room : Binds K A.d_room ["card", "state"] []
  F__law_box : Fun K "_law_box" "_law_box" S__law_box A.a__law_box A.d__law_box
  g__law_box : mg "_law_box" = some (.ref A.a__law_box)
  b__law_box : Binds K A.d__law_box ["_law_script"] []
  F__law_draw : Fun K "_law_draw" "_law_draw" S__law_draw A.a__law_draw A.d__law_draw
  g__law_draw : mg "_law_draw" = some (.ref A.a__law_draw)
  b__law_draw : Binds K A.d__law_draw ["_law_box_here", "_law_many"] []
  F__law_pick : Fun K "_law_pick" "_law_pick" S__law_pick A.a__law_pick A.d__law_pick
  g__law_pick : mg "_law_pick" = some (.ref A.a__law_pick)
  b__law_pick : Binds K A.d__law_pick ["_law_box_here", "_law_items"] []
  F__law_card : Fun K "_law_card" "_law_card" S__law_card A.a__law_card A.d__law_card
  g__law_card : mg "_law_card" = some (.ref A.a__law_card)
  b__law_card : Binds K A.d__law_card ["_law_box_here", "_law_most"] []
  F__law_all : Fun K "_law_all" "_law_all" S__law_all A.a__law_all A.d__law_all
  g__law_all : mg "_law_all" = some (.ref A.a__law_all)
  b__law_all : Binds K A.d__law_all ["_law_card_here"] []
  F__law_great : Fun K "_law_great" "_law_great" S__law_great A.a__law_great A.d__law_great
  g__law_great : mg "_law_great" = some (.ref A.a__law_great)
  b__law_great : Binds K A.d__law_great ["_law_box_here"] []
  F__law_told : Fun K "_law_told" "_law_told" S__law_told A.a__law_told A.d__law_told
  g__law_told : mg "_law_told" = some (.ref A.a__law_told)
  b__law_told : Binds K A.d__law_told ["_law_card_here", "_law_thing", "_law_is_named"] []
  F__law_odd : Fun K "_law_odd" "_law_odd" S__law_odd A.a__law_odd A.d__law_odd
  g__law_odd : mg "_law_odd" = some (.ref A.a__law_odd)
  b__law_odd : Binds K A.d__law_odd ["_law_box_here", "_law_card_here", "_law_levels"] []
  F__law_is_state : Fun K "_law_is_state" "_law_is_state" S__law_is_state A.a__law_is_state A.d__law_is_state
  g__law_is_state : mg "_law_is_state" = some (.ref A.a__law_is_state)
  b__law_is_state : Binds K A.d__law_is_state ["_law_card_here", "_law_thing"] []
  F__law_is_counted : Fun K "_law_is_counted" "_law_is_counted" S__law_is_counted A.a__law_is_counted A.d__law_is_counted
  g__law_is_counted : mg "_law_is_counted" = some (.ref A.a__law_is_counted)
  b__law_is_counted : Binds K A.d__law_is_counted ["_law_box_here", "_law_card_here", "_law_turns"] []
  F__law_is_compared : Fun K "_law_is_compared" "_law_is_compared" S__law_is_compared A.a__law_is_compared A.d__law_is_compared
  g__law_is_compared : mg "_law_is_compared" = some (.ref A.a__law_is_compared)
  b__law_is_compared : Binds K A.d__law_is_compared ["_law_card_here", "_law_one", "_law_two"] []
  F__law_is_all : Fun K "_law_is_all" "_law_is_all" S__law_is_all A.a__law_is_all A.d__law_is_all
  g__law_is_all : mg "_law_is_all" = some (.ref A.a__law_is_all)
  b__law_is_all : Binds K A.d__law_is_all ["_law_box_here", "_law_card_here"] []
  F_law : Fun K "law" "law" S_law A.a_law A.d_law
  g_law : mg "law" = some (.ref A.a_law)
  b_law : Binds K A.d_law ["_law_script"] []
  g_HigherError : mg "HigherError" = some (.ref A.a_HigherError)
  bB : BaseC K A.a_HigherError
  g_NoState : mg "NoState" = some (.ref A.a_NoState)
  o_NoState : OexC K A.a_NoState
  fi_NoState : PySem.W.findIn K (.ref A.a_NoState) "__init__" = some (some (.ref A.i_NoState))
  ti_NoState : PySem.W.typeIn K (.ref A.i_NoState) = some (.type "function")
  FI_NoState : Fun K "__init__" "NoState.__init__" SI_NoState A.i_NoState A.di_NoState
  bi_NoState : Binds K A.di_NoState ["self", "given"] []
  no_NoState : PySem.W.findIn K (.ref A.a_NoState) "given" = some none
  xf_NoState : XfC K A.a_NoState
  em_NoState : ∀ n b, sb_NoState n = some b → PySem.W.exmOne K (.ref (A.ca n)) (.ref A.a_NoState) = some b
  ki_HigherError : ∀ n b, sb_HigherError n = some b → ExcC K (A.ca n) ∧ PySem.W.kitOne K (.ref (A.ca n)) (.ref A.a_HigherError) = some b
  ki_ValueError : ∀ n b, sb_ValueError n = some b → ExcC K (A.ca n) ∧ PySem.W.kitOne K (.ref (A.ca n)) (.type "ValueError") = some b
def kb_place_of_0_state_card_g : List Value → List Value → List Value := fun us ws => match us, ws with
  | [], [b0, b1] => [b1, b0]
  | _, _ => []
def kb_place_of_0_state_card_V : List V → List V → List V := fun us ws => match us, ws with
  | [], [b0, b1] => [b1, b0]
  | _, _ => []
def kb_place_of_0_state_card_S : List SV → List SV → List SV := fun us ws => match us, ws with
  | [], [b0, b1] => [b1, b0]
  | _, _ => []
theorem kb_place_of_0_state_card {K : PySem.W.Frag} {f : Addr} {fd : FuncData} (F : Fun K "place_of" "place_of" S_place_of f fd) : KBd K fd ["card", "state"] ["state", "card"] 0 kb_place_of_0_state_card_g :=
  kbd F fun _ _ _ _ _ _ us ws h1 h2 => match us, ws, h1, h2 with | [], [_, _], _, _ => rfl
theorem kb_place_of_0_state_card_rel : KRel kb_place_of_0_state_card_V kb_place_of_0_state_card_g := fun vs us zs ws r1 r2 => by
  cases r1 with
  | nil =>
    cases r2 with
    | nil => exact .nil
    | cons k0 k0_ =>
      cases k0_ with
      | nil => exact .nil
      | cons k1 k1_ =>
        cases k1_ with
        | nil =>
          exact (.cons k1 (.cons k0 .nil))
        | cons _ _ => exact .nil
  | cons _ _ => exact .nil
theorem kb_place_of_0_state_card_s : SRel kb_place_of_0_state_card_V kb_place_of_0_state_card_S := fun K g H svs zvs vs zs r1 r2 => by
  cases r1 with
  | nil =>
    cases r2 with
    | nil => exact ⟨.nil, fun _ _ sv hm => by cases hm⟩
    | cons k0 k0_ =>
      cases k0_ with
      | nil => exact ⟨.nil, fun _ _ sv hm => by cases hm⟩
      | cons k1 k1_ =>
        cases k1_ with
        | nil =>
          refine ⟨(.cons k1 (.cons k0 .nil)), fun h1 h2 sv hm => ?_⟩
          simp only [kb_place_of_0_state_card_S, List.mem_cons, List.not_mem_nil, or_false] at hm
          rcases hm with rfl | rfl
          · exact h2 _ (by simp)
          · exact h2 _ (by simp)
        | cons _ _ => exact ⟨.nil, fun _ _ sv hm => by cases hm⟩
  | cons _ _ => exact ⟨.nil, fun _ _ sv hm => by cases hm⟩
theorem kb_place_of_0_state_card_len (zs : List V) (h : zs.length = 2) : (kb_place_of_0_state_card_V [] zs).length = 2 := match zs, h with | [_, _], _ => rfl
def kb_rises_0_state_other_g : List Value → List Value → List Value := fun us ws => match us, ws with
  | [], [b0, b1] => [b0, b1]
  | _, _ => []
def kb_rises_0_state_other_V : List V → List V → List V := fun us ws => match us, ws with
  | [], [b0, b1] => [b0, b1]
  | _, _ => []
def kb_rises_0_state_other_S : List SV → List SV → List SV := fun us ws => match us, ws with
  | [], [b0, b1] => [b0, b1]
  | _, _ => []
theorem kb_rises_0_state_other {K : PySem.W.Frag} {f : Addr} {fd : FuncData} (F : Fun K "rises" "rises" S_rises f fd) : KBd K fd ["state", "other"] ["state", "other"] 0 kb_rises_0_state_other_g :=
  kbd F fun _ _ _ _ _ _ us ws h1 h2 => match us, ws, h1, h2 with | [], [_, _], _, _ => rfl
theorem kb_rises_0_state_other_rel : KRel kb_rises_0_state_other_V kb_rises_0_state_other_g := fun vs us zs ws r1 r2 => by
  cases r1 with
  | nil =>
    cases r2 with
    | nil => exact .nil
    | cons k0 k0_ =>
      cases k0_ with
      | nil => exact .nil
      | cons k1 k1_ =>
        cases k1_ with
        | nil =>
          exact (.cons k0 (.cons k1 .nil))
        | cons _ _ => exact .nil
  | cons _ _ => exact .nil
theorem kb_rises_0_state_other_s : SRel kb_rises_0_state_other_V kb_rises_0_state_other_S := fun K g H svs zvs vs zs r1 r2 => by
  cases r1 with
  | nil =>
    cases r2 with
    | nil => exact ⟨.nil, fun _ _ sv hm => by cases hm⟩
    | cons k0 k0_ =>
      cases k0_ with
      | nil => exact ⟨.nil, fun _ _ sv hm => by cases hm⟩
      | cons k1 k1_ =>
        cases k1_ with
        | nil =>
          refine ⟨(.cons k0 (.cons k1 .nil)), fun h1 h2 sv hm => ?_⟩
          simp only [kb_rises_0_state_other_S, List.mem_cons, List.not_mem_nil, or_false] at hm
          rcases hm with rfl | rfl
          · exact h2 _ (by simp)
          · exact h2 _ (by simp)
        | cons _ _ => exact ⟨.nil, fun _ _ sv hm => by cases hm⟩
  | cons _ _ => exact ⟨.nil, fun _ _ sv hm => by cases hm⟩
theorem kb_rises_0_state_other_len (zs : List V) (h : zs.length = 2) : (kb_rises_0_state_other_V [] zs).length = 2 := match zs, h with | [_, _], _ => rfl
def kb_states_0_card_g : List Value → List Value → List Value := fun us ws => match us, ws with
  | [], [b0] => [b0]
  | _, _ => []
def kb_states_0_card_V : List V → List V → List V := fun us ws => match us, ws with
  | [], [b0] => [b0]
  | _, _ => []
def kb_states_0_card_S : List SV → List SV → List SV := fun us ws => match us, ws with
  | [], [b0] => [b0]
  | _, _ => []
theorem kb_states_0_card {K : PySem.W.Frag} {f : Addr} {fd : FuncData} (F : Fun K "states" "states" S_states f fd) : KBd K fd ["card"] ["card"] 0 kb_states_0_card_g :=
  kbd F fun _ _ _ _ _ _ us ws h1 h2 => match us, ws, h1, h2 with | [], [_], _, _ => rfl
theorem kb_states_0_card_rel : KRel kb_states_0_card_V kb_states_0_card_g := fun vs us zs ws r1 r2 => by
  cases r1 with
  | nil =>
    cases r2 with
    | nil => exact .nil
    | cons k0 k0_ =>
      cases k0_ with
      | nil =>
        exact (.cons k0 .nil)
      | cons _ _ => exact .nil
  | cons _ _ => exact .nil
theorem kb_states_0_card_s : SRel kb_states_0_card_V kb_states_0_card_S := fun K g H svs zvs vs zs r1 r2 => by
  cases r1 with
  | nil =>
    cases r2 with
    | nil => exact ⟨.nil, fun _ _ sv hm => by cases hm⟩
    | cons k0 k0_ =>
      cases k0_ with
      | nil =>
        refine ⟨(.cons k0 .nil), fun h1 h2 sv hm => ?_⟩
        simp only [kb_states_0_card_S, List.mem_cons, List.not_mem_nil, or_false] at hm
        rcases hm with rfl
        · exact h2 _ (by simp)
      | cons _ _ => exact ⟨.nil, fun _ _ sv hm => by cases hm⟩
  | cons _ _ => exact ⟨.nil, fun _ _ sv hm => by cases hm⟩
theorem kb_states_0_card_len (zs : List V) (h : zs.length = 1) : (kb_states_0_card_V [] zs).length = 1 := match zs, h with | [_], _ => rfl
def kb_room_0_state_card_g : List Value → List Value → List Value := fun us ws => match us, ws with
  | [], [b0, b1] => [b1, b0]
  | _, _ => []
def kb_room_0_state_card_V : List V → List V → List V := fun us ws => match us, ws with
  | [], [b0, b1] => [b1, b0]
  | _, _ => []
def kb_room_0_state_card_S : List SV → List SV → List SV := fun us ws => match us, ws with
  | [], [b0, b1] => [b1, b0]
  | _, _ => []
theorem kb_room_0_state_card {K : PySem.W.Frag} {f : Addr} {fd : FuncData} (F : Fun K "room" "room" S_room f fd) : KBd K fd ["card", "state"] ["state", "card"] 0 kb_room_0_state_card_g :=
  kbd F fun _ _ _ _ _ _ us ws h1 h2 => match us, ws, h1, h2 with | [], [_, _], _, _ => rfl
theorem kb_room_0_state_card_rel : KRel kb_room_0_state_card_V kb_room_0_state_card_g := fun vs us zs ws r1 r2 => by
  cases r1 with
  | nil =>
    cases r2 with
    | nil => exact .nil
    | cons k0 k0_ =>
      cases k0_ with
      | nil => exact .nil
      | cons k1 k1_ =>
        cases k1_ with
        | nil =>
          exact (.cons k1 (.cons k0 .nil))
        | cons _ _ => exact .nil
  | cons _ _ => exact .nil
theorem kb_room_0_state_card_s : SRel kb_room_0_state_card_V kb_room_0_state_card_S := fun K g H svs zvs vs zs r1 r2 => by
  cases r1 with
  | nil =>
    cases r2 with
    | nil => exact ⟨.nil, fun _ _ sv hm => by cases hm⟩
    | cons k0 k0_ =>
      cases k0_ with
      | nil => exact ⟨.nil, fun _ _ sv hm => by cases hm⟩
      | cons k1 k1_ =>
        cases k1_ with
        | nil =>
          refine ⟨(.cons k1 (.cons k0 .nil)), fun h1 h2 sv hm => ?_⟩
          simp only [kb_room_0_state_card_S, List.mem_cons, List.not_mem_nil, or_false] at hm
          rcases hm with rfl | rfl
          · exact h2 _ (by simp)
          · exact h2 _ (by simp)
        | cons _ _ => exact ⟨.nil, fun _ _ sv hm => by cases hm⟩
  | cons _ _ => exact ⟨.nil, fun _ _ sv hm => by cases hm⟩
theorem kb_room_0_state_card_len (zs : List V) (h : zs.length = 2) : (kb_room_0_state_card_V [] zs).length = 2 := match zs, h with | [_, _], _ => rfl
def kb_is_above_0_other_state_g : List Value → List Value → List Value := fun us ws => match us, ws with
  | [], [b0, b1] => [b1, b0]
  | _, _ => []
def kb_is_above_0_other_state_V : List V → List V → List V := fun us ws => match us, ws with
  | [], [b0, b1] => [b1, b0]
  | _, _ => []
def kb_is_above_0_other_state_S : List SV → List SV → List SV := fun us ws => match us, ws with
  | [], [b0, b1] => [b1, b0]
  | _, _ => []
theorem kb_is_above_0_other_state {K : PySem.W.Frag} {f : Addr} {fd : FuncData} (F : Fun K "is_above" "is_above" S_is_above f fd) : KBd K fd ["state", "other"] ["other", "state"] 0 kb_is_above_0_other_state_g :=
  kbd F fun _ _ _ _ _ _ us ws h1 h2 => match us, ws, h1, h2 with | [], [_, _], _, _ => rfl
theorem kb_is_above_0_other_state_rel : KRel kb_is_above_0_other_state_V kb_is_above_0_other_state_g := fun vs us zs ws r1 r2 => by
  cases r1 with
  | nil =>
    cases r2 with
    | nil => exact .nil
    | cons k0 k0_ =>
      cases k0_ with
      | nil => exact .nil
      | cons k1 k1_ =>
        cases k1_ with
        | nil =>
          exact (.cons k1 (.cons k0 .nil))
        | cons _ _ => exact .nil
  | cons _ _ => exact .nil
theorem kb_is_above_0_other_state_s : SRel kb_is_above_0_other_state_V kb_is_above_0_other_state_S := fun K g H svs zvs vs zs r1 r2 => by
  cases r1 with
  | nil =>
    cases r2 with
    | nil => exact ⟨.nil, fun _ _ sv hm => by cases hm⟩
    | cons k0 k0_ =>
      cases k0_ with
      | nil => exact ⟨.nil, fun _ _ sv hm => by cases hm⟩
      | cons k1 k1_ =>
        cases k1_ with
        | nil =>
          refine ⟨(.cons k1 (.cons k0 .nil)), fun h1 h2 sv hm => ?_⟩
          simp only [kb_is_above_0_other_state_S, List.mem_cons, List.not_mem_nil, or_false] at hm
          rcases hm with rfl | rfl
          · exact h2 _ (by simp)
          · exact h2 _ (by simp)
        | cons _ _ => exact ⟨.nil, fun _ _ sv hm => by cases hm⟩
  | cons _ _ => exact ⟨.nil, fun _ _ sv hm => by cases hm⟩
theorem kb_is_above_0_other_state_len (zs : List V) (h : zs.length = 2) : (kb_is_above_0_other_state_V [] zs).length = 2 := match zs, h with | [_, _], _ => rfl
section
variable {P : Program} {w : World} {K : PySem.W.Frag} {mg : Str → Option Value} {base : Heap} {A : Adr}
theorem xc_NoState (X : Tx K mg A) : FnOk P w K mg base CX0 2 A.i_NoState A.di_NoState ["self", "given"] (spI A.a_NoState "given") :=
  X.FI_NoState.ok SCI_NoState (fun vs H Q E h => by obtain ⟨a, v, rfl, _⟩ := h; rfl) fun cdv Ar outer s H vs Q E hr h => ⟨tInit1 K "given" "what is no state of a card", pss_cons (ps_expr (pe_ovinit rfl X.g_HigherError X.bB (by exact (pa_cons (pv 0) (pa_cons pe_str pa_nil))))) (pss_one (ps_ost (pv 0) (pv 1))), init1_run X.o_NoState X.no_NoState h (fun _ q _ => q)⟩
theorem mk_NoState {Y : Cx} (X : Tx Y.K Y.mg A) : Exc1 Y "NoState" "given" A.a_NoState 2 := ⟨X.o_NoState, ⟨_, _, X.fi_NoState, X.ti_NoState, xc_NoState X, X.bi_NoState⟩, X.g_NoState⟩
def T_is_integer : TSD := (t_ret (t_v (t_andV (t_isi "int" (t_lname 0)) (t_notV (t_isi "bool" (t_lname 0))))))
def C_is_integer : TF := runD T_is_integer N_is_integer 1
theorem ok_is_integer (X : Tx K mg A) : FnG P w K mg base CX0 1 A.a_is_integer A.d_is_integer ["value"] (spD K ZPu 1 C_is_integer) := by
  refine fnD X.F_is_integer SC_is_integer fun cdv Ar outer s H E hgd hr => ?_
  have hu : (Ar.deeper (envOfC "is_integer" (defScope S_is_integer) s.heap.objs.size A.a_is_integer cdv)).units + 64 < cLine := by have := hr.un; omega
  exact (dss_one (ds_ret (de_v (dv_and (dv_isi isTy_int (by rfl) X.m_isinstance (by rfl) X.m_int (by decide +kernel) (dln 0)) (dv_one (dv_not (dv_isi isTy_bool (by rfl) X.m_isinstance (by rfl) X.m_bool (by decide +kernel) (dln 0))))))))
def T_states : TSD := (t_seq (t_asg (t_lstd (t_acons (t_tupd t_anil) t_anil)) (g_name 1))
      (t_seq (t_for (t_wtup (t_f (t_name 0))) (g_name 2) (t_seq (t_asg (t_lstd t_anil) (g_name 3))
      (t_seq (t_for (t_wlist (t_f (t_name 1))) (g_name 4) (t_drop (t_v (t_extend 3 (t_f (t_lc [5] (t_wrng1 (t_acons (t_f (t_op addX (t_lname 2) (t_l (t_c (.int 1))))) t_anil)) (g_name 5) t_yes (t_f (t_op addX (t_lname 4) (t_l (t_tupd (t_acons (t_f (t_name 5)) t_anil)))))))))))
      (t_asg (t_c1 listX (t_lname 3)) (g_name 1)))))
      (t_ret (t_c1 tupleX (t_lname 1)))))
def C_states : TF := runD T_states N_states 1
theorem ok_states (X : Tx K mg A) : FnG P w K mg base CX0 1 A.a_states A.d_states ["card"] (spD K ZPu 1 C_states) := by
  refine fnD X.F_states SC_states fun cdv Ar outer s H E hgd hr => ?_
  have hu : (Ar.deeper (envOfC "states" (defScope S_states) s.heap.objs.size A.a_states cdv)).units + 64 < cLine := by have := hr.un; omega
  exact (dss_cons (ds_asg (de_lst (da_cons (dv_tup da_nil) da_nil)) (dgm 1 SC_states.nd))
      (dss_cons (ds_for PassesOwn.never rfl (di_tup (dv_e (den 0))) (dgm 2 SC_states.nd) (dss_cons (ds_asg (de_lst da_nil) (dgm 3 SC_states.nd))
      (dss_cons (ds_for PassesOwn.never rfl (di_list (dv_e (den 1))) (dgm 4 SC_states.nd) (dss_one (ds_expr (de_v (dvex 3 (dv_e (de_lc (own := [("level", 5)]) (vs := [5]) rfl SC_states.nd (di_range1 (by rfl) X.m_range (da_cons (dv_e (de_op ox_add (dln 2) (dl_v dv_int))) da_nil)) (blkOk_by (own := [("level", 5)]) (N := N_states) (sc := defScope S_states) (by decide +kernel)) rfl (fun _ _ _ _ _ => (dgb 5 SC_states.nd)) (fun _ _ _ _ _ => dts_nil) (fun _ _ _ _ _ => (dv_e (de_op ox_add (dln 4) (dl_v (dv_tup (da_cons (dv_e (den 5)) da_nil)))))))))))))
      (dss_one (ds_asg (de_t1 c_list (by rfl) X.m_list (by decide +kernel) (dln 3)) (dgm 1 SC_states.nd))))))
      (dss_one (ds_ret (de_t1 c_tuple (by rfl) X.m_tuple (by decide +kernel) (dln 1))))))
def T_is_state : TSD := (t_seq (t_if (t_or (t_not (t_tst (t_v (t_isi "tuple" (t_lname 1))))) (t_tst (t_op neY (t_l (t_f (t_c1 lenX (t_lname 1)))) (t_l (t_f (t_c1 lenX (t_lname 0))))))) (t_ret (t_v (t_c (.bool false)))) t_next)
      (t_ret (t_c1 allX (t_l (t_f (t_lc [2, 3] (t_wzip (t_acons (t_f (t_name 1)) (t_acons (t_f (t_name 0)) t_anil))) (g_tup 2 (g_cons (g_name 2) (g_cons (g_name 3) g_nil))) t_yes (t_andV (t_f (t_call C_is_integer (t_acons (t_f (t_name 2)) t_anil))) (t_f (t_chain' leX leX (t_l (t_c (.int 0))) (t_lname 2) (t_lname 3))))))))))
def C_is_state : TF := runD T_is_state N_is_state 2
theorem ok_is_state (X : Tx K mg A) : FnG P w K mg base CX0 2 A.a_is_state A.d_is_state ["card", "value"] (spD K ZPu 2 C_is_state) := by
  have G_is_integer := ok_is_integer (P := P) (w := w) (base := base) X
  refine fnD X.F_is_state SC_is_state fun cdv Ar outer s H E hgd hr => ?_
  have hu : (Ar.deeper (envOfC "is_state" (defScope S_is_state) s.heap.objs.size A.a_is_state cdv)).units + 64 < cLine := by have := hr.un; omega
  exact (dss_cons (ds_if (dt_w (dw_or (dt_not (dt_val (de_v (dv_isi isTy_tuple (by rfl) X.m_isinstance (by rfl) X.m_tuple (by decide +kernel) (dln 1))))) (dw_or1 (dt_cmp (oy_ne hu) (dl_v (dv_e (de_b1 c_len (by rfl) X.m_len (by decide +kernel) (dln 1)))) (dl_v (dv_e (de_b1 c_len (by rfl) X.m_len (by decide +kernel) (dln 0)))))))) (dss_one (ds_ret (de_v dv_bl))) dss_nil)
      (dss_one (ds_ret (de_b1 (c_all rfl) (by rfl) X.m_all (by decide +kernel) (dl_v (dv_e (de_lc (own := [("level", 2), ("top", 3)]) (vs := [2, 3]) rfl SC_is_state.nd (di_zip (by rfl) X.m_zip (da_cons (dv_e (den 1)) (da_cons (dv_e (den 0)) da_nil))) (blkOk_by (own := [("level", 2), ("top", 3)]) (N := N_is_state) (sc := defScope S_is_state) (by decide +kernel)) rfl (fun _ _ _ _ _ => (dgn_tup rfl (dgns_cons (dgb 2 SC_is_state.nd) (dgns_cons (dgb 3 SC_is_state.nd) dgns_nil)))) (fun _ _ _ _ _ => dts_nil) (fun _ _ _ _ _ => (dv_and (dv_e (de_call G_is_integer hgd (hr.mono (by decide)) (by rfl) X.g_is_integer X.F_is_integer.kp X.b_is_integer (fun _ _ h => h.1) (da_cons (dv_e (den 2)) da_nil))) (dv_one (dv_e (de_chain ox_le ox_le (dl_v dv_int) (dln 2) (dln 3)))))))))))))
def T_place_of (E : EV → CS → Prop) : TSD := (t_seq (t_if (t_not (t_tst (t_call C_is_state (t_acons (t_f (t_name 0)) (t_acons (t_f (t_name 1)) t_anil))))) (t_raise1 E 0 "given" (t_f (t_name 1))) t_next)
      (t_seq (t_asg (t_v (t_c (.int 0))) (g_name 2))
      (t_seq (t_for (t_wzip (t_acons (t_f (t_name 1)) (t_acons (t_f (t_name 0)) t_anil))) (g_tup 2 (g_cons (g_name 3) (g_cons (g_name 4) g_nil))) (t_asg (t_op addX (t_l (t_f (t_op mulY (t_lname 2) (t_l (t_f (t_op addX (t_lname 4) (t_l (t_c (.int 1))))))))) (t_lname 3)) (g_name 2)))
      (t_retn 2))))
def C_place_of : TX := runX T_place_of N_place_of 2
theorem ok_place_of (X : Tx K mg A) : FnG P w K mg base (L2.CX P w) 4 A.a_place_of A.d_place_of ["card", "state"] (spX K A.ca ZPu 2 C_place_of) := by
  have G_is_state := ok_is_state (P := P) (w := w) (base := base) X
  refine fnDX X.F_place_of SC_place_of fun cdv Ar outer s H E0 bs E hgd hr hbs tk => ?_
  have hu : (Ar.deeper (envOfC "place_of" (defScope S_place_of) s.heap.objs.size A.a_place_of cdv)).units + 64 < cLine := by have := hr.un; omega
  exact (dss0_of (dss_cons (ds_if (dt_not (dt_val (de_call G_is_state hgd (hr.mono (by decide)) (by rfl) X.g_is_state X.F_is_state.kp X.b_is_state (fun _ _ h => h.1) (da_cons (dv_e (den 0)) (da_cons (dv_e (den 1)) da_nil))))) (dss_one (ds_raise1 (ca := A.ca) rfl tk (mk_NoState X) (hr.mono (by decide)) (by rfl) (dv_e (den 1)))) dss_nil)
      (dss_cons (ds_asg (de_v dv_int) (dgm 2 SC_place_of.nd))
      (dss_cons (ds_for (passes_of rfl) rfl (di_zip (by rfl) X.m_zip (da_cons (dv_e (den 1)) (da_cons (dv_e (den 0)) da_nil))) (dg_tup rfl (dgs_cons (dgm 3 SC_place_of.nd) (dgs_cons (dgm 4 SC_place_of.nd) dgs_nil))) (dss_one (ds_asg (de_op ox_add (dl_v (dv_e (de_op oy_mul (dln 2) (dl_v (dv_e (de_op ox_add (dln 4) (dl_v dv_int))))))) (dln 3)) (dgm 2 SC_place_of.nd))))
      (dss_one (dsrn 2))))))
def T_is_above : TSD := (t_ret (t_v (t_andV (t_f (t_op neY (t_lname 0) (t_lname 1))) (t_f (t_c1 allX (t_l (t_f (t_lc [2, 3] (t_wzip (t_acons (t_f (t_name 0)) (t_acons (t_f (t_name 1)) t_anil))) (g_tup 2 (g_cons (g_name 2) (g_cons (g_name 3) g_nil))) t_yes (t_f (t_op leX (t_lname 2) (t_lname 3)))))))))))
def C_is_above : TF := runD T_is_above N_is_above 2
theorem ok_is_above (X : Tx K mg A) : FnG P w K mg base CX0 1 A.a_is_above A.d_is_above ["state", "other"] (spD K ZPu 2 C_is_above) := by
  refine fnD X.F_is_above SC_is_above fun cdv Ar outer s H E hgd hr => ?_
  have hu : (Ar.deeper (envOfC "is_above" (defScope S_is_above) s.heap.objs.size A.a_is_above cdv)).units + 64 < cLine := by have := hr.un; omega
  exact (dss_one (ds_ret (de_v (dv_and (dv_e (de_cmp (oy_ne hu) (dln 0) (dln 1))) (dv_one (dv_e (de_b1 (c_all rfl) (by rfl) X.m_all (by decide +kernel) (dl_v (dv_e (de_lc (own := [("low", 2), ("high", 3)]) (vs := [2, 3]) rfl SC_is_above.nd (di_zip (by rfl) X.m_zip (da_cons (dv_e (den 0)) (da_cons (dv_e (den 1)) da_nil))) (blkOk_by (own := [("low", 2), ("high", 3)]) (N := N_is_above) (sc := defScope S_is_above) (by decide +kernel)) rfl (fun _ _ _ _ _ => (dgn_tup rfl (dgns_cons (dgb 2 SC_is_above.nd) (dgns_cons (dgb 3 SC_is_above.nd) dgns_nil)))) (fun _ _ _ _ _ => dts_nil) (fun _ _ _ _ _ => (dv_e (de_cmp ox_le (dln 2) (dln 3))))))))))))))
def T_rises : TSD := (t_ret (t_op subX (t_l (t_f (t_c1 sumY (t_lname 1)))) (t_l (t_f (t_c1 sumY (t_lname 0))))))
def C_rises : TF := runD T_rises N_rises 2
theorem ok_rises (X : Tx K mg A) : FnG P w K mg base CX0 1 A.a_rises A.d_rises ["state", "other"] (spD K ZPu 2 C_rises) := by
  refine fnD X.F_rises SC_rises fun cdv Ar outer s H E hgd hr => ?_
  have hu : (Ar.deeper (envOfC "rises" (defScope S_rises) s.heap.objs.size A.a_rises cdv)).units + 64 < cLine := by have := hr.un; omega
  exact (dss_one (ds_ret (de_op ox_sub (dl_v (dv_e (de_b1 (c_sumY rfl) (by rfl) X.m_sum (by decide +kernel) (dln 1)))) (dl_v (dv_e (de_b1 (c_sumY rfl) (by rfl) X.m_sum (by decide +kernel) (dln 0)))))))
def T_room : TSD := (t_ret (t_c1 tupleX (t_l (t_f (t_lc [2, 3] (t_wzip (t_acons (t_f (t_name 0)) (t_acons (t_f (t_name 1)) t_anil))) (g_tup 2 (g_cons (g_name 2) (g_cons (g_name 3) g_nil))) t_yes (t_f (t_op subX (t_lname 2) (t_lname 3))))))))
def C_room : TF := runD T_room N_room 2
theorem ok_room (X : Tx K mg A) : FnG P w K mg base CX0 1 A.a_room A.d_room ["card", "state"] (spD K ZPu 2 C_room) := by
  refine fnD X.F_room SC_room fun cdv Ar outer s H E hgd hr => ?_
  have hu : (Ar.deeper (envOfC "room" (defScope S_room) s.heap.objs.size A.a_room cdv)).units + 64 < cLine := by have := hr.un; omega
  exact (dss_one (ds_ret (de_t1 c_tuple (by rfl) X.m_tuple (by decide +kernel) (dl_v (dv_e (de_lc (own := [("top", 2), ("level", 3)]) (vs := [2, 3]) rfl SC_room.nd (di_zip (by rfl) X.m_zip (da_cons (dv_e (den 0)) (da_cons (dv_e (den 1)) da_nil))) (blkOk_by (own := [("top", 2), ("level", 3)]) (N := N_room) (sc := defScope S_room) (by decide +kernel)) rfl (fun _ _ _ _ _ => (dgn_tup rfl (dgns_cons (dgb 2 SC_room.nd) (dgns_cons (dgb 3 SC_room.nd) dgns_nil)))) (fun _ _ _ _ _ => dts_nil) (fun _ _ _ _ _ => (dv_e (de_op ox_sub (dln 2) (dln 3))))))))))
def T__law_box : TSD := (t_seq (t_par 1 2 (t_lc [3] (t_wlist (t_f (t_sliceScr 0 t_no (t_some (t_c (.int 63)))))) (g_name 3) t_yes (t_f (t_op addX (t_l (t_f (t_op mulY (t_l (t_c (.int 2))) (t_l (t_f (t_c1 absX (t_lname 3))))))) (t_l (t_f (t_c1 intX (t_l (t_f (t_op ltY (t_lname 3) (t_l (t_c (.int 0)))))))))))) (t_op addX (t_l (t_c (.int 40961))) (t_l (t_lenScr 0))))
      (t_seq (t_for (t_wlist (t_f (t_name 1))) (g_name 4) (t_asg (t_op modX (t_l (t_f (t_c1 intX (t_l (t_f (t_op addX (t_l (t_f (t_op mulY (t_lname 2) (t_l (t_c (.int 69069)))))) (t_lname 4))))))) (t_l (t_c (.int 4294967291)))) (g_name 2)))
      (t_retdbox 5 [.l 2, .i, .i] (t_xcons (t_lc [4] (t_wlist (t_f (t_name 1))) (g_name 4) (t_tst (t_op gtY (t_lname 4) (t_l (t_f (t_op powX (t_l (t_c (.int 10))) (t_l (t_c (.int 15)))))))) (t_f (t_name 4))) (t_xcons (t_name 2) (t_xcons (t_v (t_c (.int 0))) t_anil))))))
def C__law_box : TF := runD T__law_box N__law_box 1
theorem ok__law_box (X : Tx K mg A) : FnG P w K mg base CX0 1 A.a__law_box A.d__law_box ["_law_script"] (spD K ZPu 1 C__law_box) := by
  refine fnD X.F__law_box SC__law_box fun cdv Ar outer s H E hgd hr => ?_
  have hu : (Ar.deeper (envOfC "_law_box" (defScope S__law_box) s.heap.objs.size A.a__law_box cdv)).units + 64 < cLine := by have := hr.un; omega
  exact (dss_cons (dspar 1 2 SC__law_box.nd (de_lc (own := [("_law_cell", 3)]) (vs := [3]) rfl SC__law_box.nd (di_list (dv_e (de_sliceScr 0 do_none (do_some dv_int)))) (blkOk_by (own := [("_law_cell", 3)]) (N := N__law_box) (sc := defScope S__law_box) (by decide +kernel)) rfl (fun _ _ _ _ _ => (dgb 3 SC__law_box.nd)) (fun _ _ _ _ _ => dts_nil) (fun _ _ _ _ _ => (dv_e (de_op ox_add (dl_v (dv_e (de_op oy_mul (dl_v dv_int) (dl_v (dv_e (de_b1 c_abs (by rfl) X.m_abs (by decide +kernel) (dln 3))))))) (dl_v (dv_e (de_t1 c_int (by rfl) X.m_int (by decide +kernel) (dl_v (dv_e (de_cmp (oy_lt hu) (dln 3) (dl_v dv_int))))))))))) (de_op ox_add (dl_v dv_int) (dl_v (dv_lenScr 0 X.m_len))))
      (dss_cons (ds_for PassesOwn.never rfl (di_list (dv_e (den 1))) (dgm 4 SC__law_box.nd) (dss_one (ds_asg (de_op ox_mod (dl_v (dv_e (de_t1 c_int (by rfl) X.m_int (by decide +kernel) (dl_v (dv_e (de_op ox_add (dl_v (dv_e (de_op oy_mul (dln 2) (dl_v dv_int)))) (dln 4))))))) (dl_v dv_int)) (dgm 2 SC__law_box.nd))))
      (dss_one (ds_retdbox (t := 5) (fs := [.l 2, .i, .i]) (dxp_cons (de_lc (own := [("_law_mark", 4)]) (vs := [4]) rfl SC__law_box.nd (di_list (dv_e (den 1))) (blkOk_by (own := [("_law_mark", 4)]) (N := N__law_box) (sc := defScope S__law_box) (by decide +kernel)) rfl (fun _ _ _ _ _ => (dgb 4 SC__law_box.nd)) (fun _ _ _ _ _ => (dts_one (dt_cmp (oy_gt hu) (dln 4) (dl_v (dv_e (de_op ox_pow (dl_v dv_int) (dl_v dv_int))))))) (fun _ _ _ _ _ => (dv_e (den 4)))) (dxp_cons (den 2) (dxp_cons (de_v dv_int) dxp_nil))) rfl rfl (by simp) (by decide) rfl (by decide) (by decide)))))
def C__law_draw : TF := drawC 5
theorem ok__law_draw (X : Tx K mg A) : FnG P w K mg base CX0 1 A.a__law_draw A.d__law_draw ["_law_box_here", "_law_many"] (spD K ZPu 2 C__law_draw) := by
  refine funG X.F__law_draw SC__law_draw (fun vs H Q E h => h.1) fun cdv Ar outer s H vs Q E hg hr h => ?_
  have hu : (Ar.deeper (envOfC "_law_draw" (defScope S__law_draw) s.heap.objs.size A.a__law_draw cdv)).units + 64 < cLine := by have := hr.un; omega
  have hu1 : (Ar.deeper (envOfC "_law_draw" (defScope S__law_draw) s.heap.objs.size A.a__law_draw cdv)).units + 1 < cLine := by omega
  have nd := SC__law_draw.nd
  refine ⟨_, pss_cons (ps_asg (pe_dget hu1 (pvn 0) pe_str fun _ _ => rfl) (pgn 2 nd))
    (pss_cons (ps_if (pt_cmpR (oy_ne hu) (pvn 2) (pe_lst pa_nil) (nomark _))
      (pss_cons (ps_asg (pe_ix ix_list (pvn 2) pe_int fun _ _ => rfl) (pgn 3 nd))
      (pss_cons (ps_asg (pe_op ox_fdiv (pvn 3) (pvn 1)) (pg_sub (pvn 2) pe_int set_list))
      (pss_cons (ps_if (pt_cmpR ox_lt (pvn 3) (pvn 1) (nomark _))
        (pss_one (ps_expr (pe_bm PySem.F.plainAttrs_list PySem.F.slot_list_pop PySem.F.type_list_pop mt_popAt (pvn 2) (pa_cons pe_int pa_nil)))) pss_nil)
      (pss_one (ps_ret (pe_op ox_mod (pe_callTy c_int (by rfl) X.m_int (by decide +kernel) (pa_cons (pvn 3) pa_nil)) (pvn 1))))))) pss_nil)
    (pss_cons (ps_asg (pe_op ox_add (pe_dget hu1 (pvn 0) pe_str fun _ _ => rfl) pe_int) (pgn 4 nd))
    (pss_cons (ps_asg (pvn 4) (pg_sub (pvn 0) pe_str (set_dict hu1)))
    (pss_cons (ps_asg (pe_op ox_mod (pe_callTy c_int (by rfl) X.m_int (by decide +kernel) (pa_cons (pe_op ox_add (pe_dget hu1 (pvn 0) pe_str fun _ _ => rfl) (pe_op ox_mul pe_int (pvn 4))) pa_nil)) pe_int) (pgn 5 nd))
    (pss_cons (ps_asg (pe_op ox_mod (pe_callTy c_int (by rfl) X.m_int (by decide +kernel) (pa_cons (pe_op ox_add (pe_op ox_add (pe_op ox_mul (pvn 5) (pvn 5)) (pe_op ox_mul pe_int (pvn 4))) pe_int) pa_nil)) pe_int) (pgn 5 nd))
    (pss_cons (ps_asg (pe_op ox_mod (pe_callTy c_int (by rfl) X.m_int (by decide +kernel) (pa_cons (pe_op ox_add (pe_op ox_mul (pvn 5) (pvn 5)) (pe_dget hu1 (pvn 0) pe_str fun _ _ => rfl)) pa_nil)) pe_int) (pgn 5 nd))
    (pss_one (ps_ret (pe_op ox_mod (pe_callTy c_int (by rfl) X.m_int (by decide +kernel) (pa_cons (pe_op ox_fdiv (pvn 5) pe_int) pa_nil)) (pvn 1)))))))))), ?_⟩
  obtain ⟨a, n, g, rfl, hz, G, hn, hn2, k⟩ := draw_in h
  obtain ⟨bs, ha, fl⟩ := dbox_of (ks := (["great", "stirred", "count"] : List Str)) (fs := [.l 2, .i, .i]) G hz rfl
  match bs, fl, ha with
  | [.ref gr, .int sm, .int cn], ⟨zg, _⟩, ha =>
  obtain ⟨gs, hgl, hgs⟩ := ints_of_two G zg
  have ne : ∀ {b : Addr} {p : Addr} {o : HO} {u : HO}, H p = none → H b = some o → upd H p u b = some o := fun hp e => by rw [upd_ne (ne_of_none e hp)]; exact e
  have dab : a ≠ gr := fun e => by subst e; rw [hz] at zg; cases zg
  have dg : ∀ {H' : Hp} {cn : Int}, H' a = some (.dK [(Sum.inr "great", .ref gr), (Sum.inr "stirred", .int sm), (Sum.inr "count", .int cn)]) →
      DGet H' a (.str "great") (some (.ref gr)) ∧ DGet H' a (.str "stirred") (some (.int sm)) ∧ DGet H' a (.str "count") (some (.int cn)) := fun e => by
    refine ⟨?_, ?_, ?_⟩
    · have := DGet.k (k := Sum.inr "great") e; exact this
    · have := DGet.k (k := Sum.inr "stirred") e; exact this
    · have := DGet.k (k := Sum.inr "count") e; exact this
  have ha0 : H a = some (.dK [(Sum.inr "great", .ref gr), (Sum.inr "stirred", .int sm), (Sum.inr "count", .int cn)]) := ha
  dsimp only [tSeq, tIfS, tTest, tOp, tVar, tC, tLst, tNil, tAsg, tBM0, tBM, gName, gSub, tDrop, tCons, tRet, tCB, tNext, tDGet]
  refine ⟨.ref a, rfl, a, _, rfl, (dg ha0).1, ?_⟩
  refine ⟨.ref gr, rfl, Nat.zero_le _, fun p hp => ?_⟩
  have ha1 := ne (u := .lst []) hp ha0
  have hg1 := ne (u := .lst []) hp hgs
  have s1 : Step g H (upd H p (.lst [])) := .laid G hp
  refine rNeNil' hg1 upd_same ⟨_, rfl, ?_⟩
  clear hgs ha ha0 ne
  generalize upd H p (.lst []) = H1 at ha1 hg1 s1
  cases gs with
  | nil =>
    refine iteF ?_
    refine ⟨.ref a, rfl, a, _, rfl, (dg ha1).2.2, rOi (cn + 1) (fun _ q => q) ?_⟩
    have put : DPut H1 a (.str "count") (.int (cn + 1)) (upd H1 a (.dK [(Sum.inr "great", .ref gr), (Sum.inr "stirred", .int sm), (Sum.inr "count", .int (cn + 1))])) :=
      DPut.k (k := Sum.inr "count") ha1 (show 3 < sizeLine by decide)
    refine ⟨_, rfl, .ref a, rfl, a, _, rfl, put, ?_⟩
    have s2 := s1.trans (.region' s1.ok hz ha1 (fun _ e => by cases e) (fun _ _ e => by cases e) (o' := .dK [(Sum.inr "great", .ref gr), (Sum.inr "stirred", .int sm), (Sum.inr "count", .int (cn + 1))])
      (.inr (.inr (.inr ⟨_, _, [.ref gr, .int sm, .int (cn + 1)], rfl, rfl, zg, True.intro⟩))))
    have ha2 : upd H1 a (.dK [(Sum.inr "great", .ref gr), (Sum.inr "stirred", .int sm), (Sum.inr "count", .int (cn + 1))]) a = some (.dK [(Sum.inr "great", .ref gr), (Sum.inr "stirred", .int sm), (Sum.inr "count", .int (cn + 1))]) := upd_same
    dsimp only [List.set]
    generalize upd H1 a (.dK [(Sum.inr "great", .ref gr), (Sum.inr "stirred", .int sm), (Sum.inr "count", .int (cn + 1))]) = H2 at s2 ha2
    generalize cn + 1 = tn at ha2
    refine ⟨.ref a, rfl, a, _, rfl, (dg ha2).2.1, _, rfl, rOi (2654435761 * tn) (fun _ q => ⟨mulOk_l (by decide) (by decide), q⟩) (rOi _ (fun _ q => q) (rCi _ (fun _ q => q) (rOi _ (fun _ q => ⟨by decide, q⟩) ?_)))⟩
    generalize hbl : (sm + 2654435761 * tn) % 4294967291 = bl
    have b1 : 0 ≤ bl := by rw [← hbl]; exact Int.emod_nonneg _ (by decide)
    have b2 : bl < 4294967291 := by rw [← hbl]; exact Int.emod_lt_of_pos _ (by decide)
    refine ⟨_, rfl, _, rfl, rOi (bl * bl) (fun _ q => ⟨mulOk_r (by omega) (by omega), q⟩) ⟨_, rfl, rOi _ (fun _ q => ⟨mulOk_l (by decide) (by decide), q⟩) (rOi _ (fun _ q => q) (rOi _ (fun _ q => q) (rCi _ (fun _ q => q) (rOi _ (fun _ q => ⟨by decide, q⟩) ?_))))⟩⟩
    generalize hcl : (bl * bl + 40503 * tn + 7) % 4294967279 = cl
    have c1 : 0 ≤ cl := by rw [← hcl]; exact Int.emod_nonneg _ (by decide)
    have c2 : cl < 4294967279 := by rw [← hcl]; exact Int.emod_lt_of_pos _ (by decide)
    refine ⟨_, rfl, _, rfl, rOi (cl * cl) (fun _ q => ⟨mulOk_r (by omega) (by omega), q⟩) ⟨.ref a, rfl, a, _, rfl, (dg ha2).2.1, rOi _ (fun _ q => q) (rCi _ (fun _ q => q) (rOi _ (fun _ q => ⟨by decide, q⟩) ?_))⟩⟩
    refine ⟨_, rfl, rOi _ (fun _ q => ⟨by decide, fdiv_small (by decide), q⟩) (rCi _ (fun _ q => q) ⟨_, rfl, rOi _ (fun _ q => ⟨hn, q⟩) ?_⟩)⟩
    exact k _ _ (Int.emod_nonneg _ (by omega)) (Int.emod_lt_of_pos _ hn) s2
  | cons l rs =>
    refine iteT ?_
    have at0 : ∀ xs : List V, atI (V.int l :: xs) 0 = some (.int l) := fun xs => by
      unfold atI ixN
      rw [if_pos (by decide), if_pos (by rw [List.length_cons]; omega)]
      rfl
    refine ⟨.ref gr, rfl, rIx0 hg1 0 (at0 _) ?_⟩
    have ix0 : ixN ((l :: rs).map V.int).length 0 = some 0 := by
      unfold ixN
      rw [if_pos (by decide), if_pos (by rw [List.length_map, List.length_cons]; omega)]
      rfl
    refine ⟨_, rfl, _, rfl, rOi (l / n) (fun _ q => ⟨hn, fdiv_small hn2, q⟩) ⟨.ref gr, rfl, gr, _, 0, 0, rfl, rfl, hg1, ix0, ?_⟩⟩
    have s2 := s1.trans (.region s1.ok zg hg1 (o' := .lst (((l / n) :: rs).map V.int)) (.inl ⟨rfl, (l / n) :: rs, by simpa using hgl, rfl⟩))
    have hg2 : upd H1 gr (.lst (((l / n) :: rs).map V.int)) gr = some (.lst (((l / n) :: rs).map V.int)) := upd_same
    show ∃ v, _
    refine ⟨_, rfl, _, rfl, rOb (decide (l < n)) (fun _ q => q) ⟨_, rfl, ?_⟩⟩
    have fin : ∀ H', Step g H H' → (∃ v, (((L2.start N__law_draw [.ref a, .int n]).set 2 (some (.ref gr))).set 3 (some (.int l)))[3]? = some (some v) ∧ rC1 K intX [v] H' fun x H1 => ∃ v, (((L2.start N__law_draw [.ref a, .int n]).set 2 (some (.ref gr))).set 3 (some (.int l)))[1]? = some (some v) ∧ rO K modX x v H1 Q) := fun H' s =>
      ⟨_, rfl, rCi l (fun _ q => q) ⟨_, rfl, rOi (l % n) (fun _ q => ⟨hn, q⟩) (k _ _ (Int.emod_nonneg _ (by omega)) (Int.emod_lt_of_pos _ hn) s)⟩⟩
    by_cases hlt : l < n
    · rw [decide_eq_true hlt]
      refine iteT ?_
      have ty2 : tyV K "list" (.ref gr) (upd H1 gr (.lst (((l / n) :: rs).map V.int))) := .inl ⟨rfl, _, SqL.of hg2⟩
      refine ⟨.ref gr, rfl, ty2, gr, _, 0, 0, .int (l / n), rfl, rfl, hg2, by decide, by decide, ?_, rfl, ?_⟩
      · unfold seqIndex?
        simp
      · refine fin _ (s2.trans (.region s2.ok zg hg2 (.inl ⟨rfl, rs, ?_, rfl⟩)))
        rw [List.length_cons] at hgl; omega
    · rw [decide_eq_false hlt]
      refine iteF ?_
      exact fin _ s2

def T__law_pick : TSD := (t_ret (t_op ixX (t_lname 1) (t_l (t_f (t_call C__law_draw (t_aconsR (t_name 0) (t_acons (t_f (t_c1 lenX (t_lname 1))) t_anil)))))))
def C__law_pick : TF := runD T__law_pick N__law_pick 2
theorem ok__law_pick (X : Tx K mg A) : FnG P w K mg base CX0 2 A.a__law_pick A.d__law_pick ["_law_box_here", "_law_items"] (spD K ZPu 2 C__law_pick) := by
  have G__law_draw := ok__law_draw (P := P) (w := w) (base := base) X
  refine fnD X.F__law_pick SC__law_pick fun cdv Ar outer s H E hgd hr => ?_
  have hu : (Ar.deeper (envOfC "_law_pick" (defScope S__law_pick) s.heap.objs.size A.a__law_pick cdv)).units + 64 < cLine := by have := hr.un; omega
  exact (dss_one (ds_ret (de_ix (dln 1) (dl_v (dv_e (de_call G__law_draw hgd (hr.mono (by decide)) (by rfl) X.g__law_draw X.F__law_draw.kp X.b__law_draw (fun _ _ h => h.1) (da_consR (den 0) (da_cons (dv_e (de_b1 c_len (by rfl) X.m_len (by decide +kernel) (dln 1))) da_nil))))))))
def T__law_card : TSD := (t_seq (t_par 2 3 (t_lstd t_anil) (t_v (t_c (.int 1))))
      (t_seq (t_for (t_wrng1 (t_acons (t_f (t_op addX (t_l (t_c (.int 1))) (t_l (t_f (t_call C__law_draw (t_aconsR (t_name 0) (t_acons (t_c (.int 5)) t_anil))))))) t_anil)) (g_name 4) (t_seq (t_asg (t_call C__law_pick (t_aconsR (t_name 0) (t_acons (t_f (t_lstd (t_acons (t_c (.int 1)) (t_acons (t_c (.int 1)) (t_acons (t_c (.int 1)) (t_acons (t_c (.int 2)) (t_acons (t_c (.int 2)) (t_acons (t_c (.int 3)) (t_acons (t_c (.int 4)) (t_acons (t_c (.int 7)) t_anil)))))))))) t_anil))) (g_name 5))
      (t_if (t_tst (t_op leX (t_l (t_f (t_op mulY (t_lname 3) (t_l (t_f (t_op addX (t_lname 5) (t_l (t_c (.int 1))))))))) (t_lname 1))) (t_seq (t_drop (t_v (t_append 2 (t_f (t_name 5)))))
      (t_asg (t_op mulY (t_lname 3) (t_l (t_f (t_op addX (t_lname 5) (t_l (t_c (.int 1))))))) (g_name 3))) t_next)))
      (t_ret (t_ifx (t_tst (t_op neY (t_lname 2) (t_l (t_f (t_lstd t_anil))))) (t_c1 tupleX (t_lname 2)) (t_v (t_tupd (t_acons (t_c (.int 1)) t_anil)))))))
def C__law_card : TF := runD T__law_card N__law_card 2
theorem ok__law_card (X : Tx K mg A) : FnG P w K mg base CX0 3 A.a__law_card A.d__law_card ["_law_box_here", "_law_most"] (spD K ZPu 2 C__law_card) := by
  have G__law_draw := ok__law_draw (P := P) (w := w) (base := base) X
  have G__law_pick := ok__law_pick (P := P) (w := w) (base := base) X
  refine fnD X.F__law_card SC__law_card fun cdv Ar outer s H E hgd hr => ?_
  have hu : (Ar.deeper (envOfC "_law_card" (defScope S__law_card) s.heap.objs.size A.a__law_card cdv)).units + 64 < cLine := by have := hr.un; omega
  exact (dss_cons (dspar 2 3 SC__law_card.nd (de_lst da_nil) (de_v dv_int))
      (dss_cons (ds_for PassesOwn.never rfl (di_range1 (by rfl) X.m_range (da_cons (dv_e (de_op ox_add (dl_v dv_int) (dl_v (dv_e (de_call G__law_draw hgd (hr.mono (by decide)) (by rfl) X.g__law_draw X.F__law_draw.kp X.b__law_draw (fun _ _ h => h.1) (da_consR (den 0) (da_cons dv_int da_nil))))))) da_nil)) (dgm 4 SC__law_card.nd) (dss_cons (ds_asg (de_call G__law_pick hgd (hr.mono (by decide)) (by rfl) X.g__law_pick X.F__law_pick.kp X.b__law_pick (fun _ _ h => h.1) (da_consR (den 0) (da_cons (dv_e (de_lst (da_cons dv_int (da_cons dv_int (da_cons dv_int (da_cons dv_int (da_cons dv_int (da_cons dv_int (da_cons dv_int (da_cons dv_int da_nil)))))))))) da_nil))) (dgm 5 SC__law_card.nd))
      (dss_one (ds_if (dt_cmp ox_le (dl_v (dv_e (de_op oy_mul (dln 3) (dl_v (dv_e (de_op ox_add (dln 5) (dl_v dv_int))))))) (dln 1)) (dss_cons (ds_expr (de_v (dvap 2 (dv_e (den 5)))))
      (dss_one (ds_asg (de_op oy_mul (dln 3) (dl_v (dv_e (de_op ox_add (dln 5) (dl_v dv_int))))) (dgm 3 SC__law_card.nd)))) dss_nil))))
      (dss_one (ds_ret (de_if (dt_cmp (oy_ne hu) (dln 2) (dl_v (dv_e (de_lst da_nil)))) (de_t1 c_tuple (by rfl) X.m_tuple (by decide +kernel) (dln 2)) (de_v (dv_tup (da_cons dv_int da_nil))))))))
def T__law_all : TSD := (t_seq (t_par 1 2 (t_lc [3] (t_wtup (t_f (t_name 0))) (g_name 3) t_yes (t_c (.int 0))) (t_lstd t_anil))
      (t_seq (t_drop (t_v (t_append 2 (t_f (t_c1 tupleX (t_lname 1))))))
      (t_seq (t_asg (t_op subX (t_l (t_f (t_c1 lenX (t_lname 0)))) (t_l (t_c (.int 1)))) (g_name 4))
      (t_seq (t_while (t_tst (t_op geX (t_lname 4) (t_l (t_c (.int 0))))) (t_if (t_tst (t_op ltY (t_l (t_f (t_op ixX (t_lname 1) (t_lname 4)))) (t_l (t_f (t_op ixX (t_lname 0) (t_lname 4)))))) (t_seq (t_asg (t_v (t_f (t_op addX (t_l (t_f (t_op ixX (t_lname 1) (t_lname 4)))) (t_l (t_c (.int 1)))))) (g_setix 1 (t_f (t_name 4))))
      (t_seq (t_drop (t_v (t_append 2 (t_f (t_c1 tupleX (t_lname 1))))))
      (t_asg (t_op subX (t_l (t_f (t_c1 lenX (t_lname 0)))) (t_l (t_c (.int 1)))) (g_name 4)))) (t_seq (t_asg (t_v (t_c (.int 0))) (g_setix 1 (t_f (t_name 4))))
      (t_asg (t_op subX (t_lname 4) (t_l (t_c (.int 1)))) (g_name 4)))))
      (t_retn 2)))))
def C__law_all : TF := runD T__law_all N__law_all 1
theorem ok__law_all (X : Tx K mg A) : FnG P w K mg base CX0 1 A.a__law_all A.d__law_all ["_law_card_here"] (spD K ZPu 1 C__law_all) := by
  refine fnD X.F__law_all SC__law_all fun cdv Ar outer s H E hgd hr => ?_
  have hu : (Ar.deeper (envOfC "_law_all" (defScope S__law_all) s.heap.objs.size A.a__law_all cdv)).units + 64 < cLine := by have := hr.un; omega
  exact (dss_cons (dspar 1 2 SC__law_all.nd (de_lc (own := [("_law_top", 3)]) (vs := [3]) rfl SC__law_all.nd (di_tup (dv_e (den 0))) (blkOk_by (own := [("_law_top", 3)]) (N := N__law_all) (sc := defScope S__law_all) (by decide +kernel)) rfl (fun _ _ _ _ _ => (dgb 3 SC__law_all.nd)) (fun _ _ _ _ _ => dts_nil) (fun _ _ _ _ _ => dv_int)) (de_lst da_nil))
      (dss_cons (ds_expr (de_v (dvap 2 (dv_e (de_t1 c_tuple (by rfl) X.m_tuple (by decide +kernel) (dln 1))))))
      (dss_cons (ds_asg (de_op ox_sub (dl_v (dv_e (de_b1 c_len (by rfl) X.m_len (by decide +kernel) (dln 0)))) (dl_v dv_int)) (dgm 4 SC__law_all.nd))
      (dss_cons (ds_while PassesOwn.never (dt_cmp ox_ge (dln 4) (dl_v dv_int)) (dss_one (ds_if (dt_cmp (oy_lt hu) (dl_v (dv_e (de_ix (dln 1) (dln 4)))) (dl_v (dv_e (de_ix (dln 0) (dln 4))))) (dss_cons (ds_asg (de_v (dv_e (de_op ox_add (dl_v (dv_e (de_ix (dln 1) (dln 4)))) (dl_v dv_int)))) (dgix 1 (dv_e (den 4))))
      (dss_cons (ds_expr (de_v (dvap 2 (dv_e (de_t1 c_tuple (by rfl) X.m_tuple (by decide +kernel) (dln 1))))))
      (dss_one (ds_asg (de_op ox_sub (dl_v (dv_e (de_b1 c_len (by rfl) X.m_len (by decide +kernel) (dln 0)))) (dl_v dv_int)) (dgm 4 SC__law_all.nd))))) (dss_cons (ds_asg (de_v dv_int) (dgix 1 (dv_e (den 4))))
      (dss_one (ds_asg (de_op ox_sub (dln 4) (dl_v dv_int)) (dgm 4 SC__law_all.nd)))))))
      (dss_one (dsrn 2))))))
def T__law_great : TSD := (t_ret (t_call C__law_pick (t_aconsR (t_name 0) (t_acons (t_f (t_lstd (t_acons (t_tupd (t_acons (t_c (.int 7)) (t_acons (t_c (.int 7)) (t_acons (t_c (.int 7)) t_anil)))) (t_acons (t_tupd (t_acons (t_c (.int 1)) (t_acons (t_c (.int 3)) (t_acons (t_c (.int 7)) (t_acons (t_c (.int 7)) t_anil))))) (t_acons (t_tupd (t_acons (t_c (.int 7)) (t_acons (t_c (.int 3)) (t_acons (t_c (.int 3)) (t_acons (t_c (.int 3)) t_anil))))) (t_acons (t_tupd (t_acons (t_c (.int 3)) (t_acons (t_c (.int 3)) (t_acons (t_c (.int 3)) (t_acons (t_c (.int 1)) (t_acons (t_c (.int 1)) (t_acons (t_c (.int 1)) t_anil))))))) (t_acons (t_tupd (t_acons (t_c (.int 2)) (t_acons (t_c (.int 7)) (t_acons (t_c (.int 4)) (t_acons (t_c (.int 3)) t_anil))))) (t_acons (t_tupd (t_acons (t_c (.int 6)) (t_acons (t_c (.int 6)) (t_acons (t_c (.int 6)) t_anil)))) t_anil)))))))) t_anil))))
def C__law_great : TF := runD T__law_great N__law_great 1
theorem ok__law_great (X : Tx K mg A) : FnG P w K mg base CX0 3 A.a__law_great A.d__law_great ["_law_box_here"] (spD K ZPu 1 C__law_great) := by
  have G__law_pick := ok__law_pick (P := P) (w := w) (base := base) X
  refine fnD X.F__law_great SC__law_great fun cdv Ar outer s H E hgd hr => ?_
  have hu : (Ar.deeper (envOfC "_law_great" (defScope S__law_great) s.heap.objs.size A.a__law_great cdv)).units + 64 < cLine := by have := hr.un; omega
  exact (dss_one (ds_ret (de_call G__law_pick hgd (hr.mono (by decide)) (by rfl) X.g__law_pick X.F__law_pick.kp X.b__law_pick (fun _ _ h => h.1) (da_consR (den 0) (da_cons (dv_e (de_lst (da_cons (dv_tup (da_cons dv_int (da_cons dv_int (da_cons dv_int da_nil)))) (da_cons (dv_tup (da_cons dv_int (da_cons dv_int (da_cons dv_int (da_cons dv_int da_nil))))) (da_cons (dv_tup (da_cons dv_int (da_cons dv_int (da_cons dv_int (da_cons dv_int da_nil))))) (da_cons (dv_tup (da_cons dv_int (da_cons dv_int (da_cons dv_int (da_cons dv_int (da_cons dv_int (da_cons dv_int da_nil))))))) (da_cons (dv_tup (da_cons dv_int (da_cons dv_int (da_cons dv_int (da_cons dv_int da_nil))))) (da_cons (dv_tup (da_cons dv_int (da_cons dv_int (da_cons dv_int da_nil)))) da_nil)))))))) da_nil)))))
def T__law_told : TSD := (t_try sb_NoState 3 (fun E => (t_ret (t_lstd (t_acons (t_c (.str "told")) (t_acons (t_f (t_ifx (t_tst (t_name 2)) (t_callKX E kb_place_of_0_state_card_S 0 2 C_place_of t_anil (t_acons (t_f (t_name 1)) (t_acons (t_f (t_name 0)) t_anil))) (t_callX E C_place_of (t_acons (t_f (t_name 0)) (t_acons (t_f (t_name 1)) t_anil))))) t_anil))))) (fun a n d => (t_ret (t_lstd (t_acons (t_c (.str "NoState")) (t_acons (t_xf 0 a n d "given" 3) (t_acons (t_andV (t_isx sb_ValueError a n d 3) (t_isx sb_HigherError a n d 3)) t_anil)))))) (fun _ _ => False))
def C__law_told : TF := runD T__law_told N__law_told 3
theorem ok__law_told (X : Tx K mg A) : FnG P w K mg base CX0 5 A.a__law_told A.d__law_told ["_law_card_here", "_law_thing", "_law_is_named"] (spD K ZPu 3 C__law_told) := by
  have G_place_of := ok_place_of (P := P) (w := w) (base := base) X
  refine fnD0 X.F__law_told SC__law_told fun cdv Ar outer s H E bs hgd hr hbs => ?_
  have hu : (Ar.deeper (envOfC "_law_told" (defScope S__law_told) s.heap.objs.size A.a__law_told cdv)).units + 64 < cLine := by have := hr.un; omega
  exact (dss0_one (ds0_try (ca := A.ca) (i := 3) hbs rfl rfl SC__law_told.nd rfl rfl ⟨rfl, by decide, Or.inl X.g_NoState⟩ (fun m b h => X.em_NoState m b h) takesD_no (fun pn xe E2 tk => dss0_of (dss_one (ds_ret (de_lst (da_cons dv_str (da_cons (dv_e (de_if (dt_val (den 2)) (de_callK0X G_place_of hgd (hr.mono (by decide)) tk (by rfl) X.g_place_of X.F_place_of.kp (kb_place_of_0_state_card X.F_place_of) kb_place_of_0_state_card_rel kb_place_of_0_state_card_s (fun zs h => kb_place_of_0_state_card_len zs h) (dk_cons (dv_e (den 1)) (dk_cons (dv_e (den 0)) dk_nil))) (de_callX G_place_of hgd (hr.mono (by decide)) tk (by rfl) X.g_place_of X.F_place_of.kp X.b_place_of (fun _ _ _ h => h.1) (da_cons (dv_e (den 0)) (da_cons (dv_e (den 1)) da_nil))))) da_nil)))))) (fun a oe n d pn hz hfl => dss0_of (dss_one (ds_ret (de_lst (da_cons dv_str (da_cons (dv_xf (i := 3) (n0 := 0) (ca := A.ca) X.xf_NoState X.no_NoState hz hfl (by rfl) (Or.inl rfl)) (da_cons (dv_and (dv_isx (i := 3) (ca := A.ca) (fun m b h => X.ki_ValueError m b h) hz hfl (by rfl) X.m_isinstance (by rfl) (Or.inl rfl) (pe_bltn (v := .ty "ValueError") (by rfl) X.m_ValueError (by decide +kernel) rfl) (fun u h => h)) (dv_one (dv_isx (i := 3) (ca := A.ca) (fun m b h => X.ki_HigherError m b h) hz hfl (by rfl) X.m_isinstance (by rfl) (Or.inl rfl) (pe_glob (v := .ref A.a_HigherError) (by rfl) X.g_HigherError rfl) (fun u h => h)))) da_nil)))))))))
def T__law_odd : TSD := (t_seq (t_asg (t_call C__law_draw (t_aconsR (t_name 0) (t_acons (t_f (t_c1 lenX (t_lname 2))) t_anil))) (g_name 3))
      (t_seq (t_asg (t_call C__law_pick (t_aconsR (t_name 0) (t_acons (t_f (t_lstd (t_acons (t_f (t_op addX (t_l (t_f (t_op ixX (t_lname 1) (t_lname 3)))) (t_l (t_c (.int 1))))) (t_acons (t_neg (t_l (t_c (.int 1)))) (t_acons (t_c (.bool true)) (t_acons (t_c (.bool false)) (t_acons (t_c .none) (t_acons (t_c (.str "0")) (t_acons (t_tupd (t_acons (t_c (.int 0)) t_anil)) (t_acons (t_f (t_op powX (t_l (t_c (.int 10))) (t_l (t_c (.int 12))))) (t_acons (t_f (t_op ixX (t_lname 2) (t_lname 3))) (t_acons (t_f (t_lstd (t_acons (t_c (.int 0)) t_anil))) t_anil)))))))))))) t_anil))) (g_name 4))
      (t_seq (t_asg (t_op mulY (t_l (t_f (t_lstd (t_acons (t_f (t_op addX (t_l (t_f (t_op addX (t_l (t_f (t_slice (t_lname 2) t_no (t_some (t_f (t_name 3)))))) (t_l (t_tupd (t_acons (t_f (t_name 4)) t_anil)))))) (t_l (t_f (t_slice (t_lname 2) (t_some (t_f (t_op addX (t_lname 3) (t_l (t_c (.int 1)))))) t_no))))) t_anil)))) (t_l (t_c (.int 6)))) (g_name 5))
      (t_seq (t_asg (t_op addX (t_lname 5) (t_l (t_f (t_lstd (t_acons (t_f (t_c1 listX (t_lname 2))) (t_acons (t_f (t_slice (t_lname 2) t_no (t_some (t_f (t_name 3))))) (t_acons (t_f (t_op addX (t_lname 2) (t_l (t_tupd (t_acons (t_c (.int 0)) t_anil))))) (t_acons (t_tupd (t_acons (t_f (t_name 2)) t_anil)) (t_acons (t_c .none) (t_acons (t_c (.int 0)) (t_acons (t_c (.bool true)) (t_acons (t_c (.str "")) (t_acons t_dict0 (t_acons (t_f (t_lstd t_anil)) (t_acons (t_tupd t_anil) (t_acons (t_f (t_op addX (t_lname 1) (t_lname 1))) t_anil)))))))))))))))) (g_name 5))
      (t_seq (t_drop (t_v (t_append 5 (t_f (t_c1 tupleX (t_l (t_f (t_lc [6] (t_wtup (t_f (t_name 2))) (g_name 6) t_yes (t_f (t_ifx (t_tst (t_op ltY (t_lname 6) (t_l (t_c (.int 2))))) (t_c1 boolX (t_lname 6)) (t_name 6)))))))))))
      (t_ret (t_call C__law_pick (t_aconsR (t_name 0) (t_acons (t_f (t_name 5)) t_anil)))))))))
def C__law_odd : TF := runD T__law_odd N__law_odd 3
theorem ok__law_odd (X : Tx K mg A) : FnG P w K mg base CX0 3 A.a__law_odd A.d__law_odd ["_law_box_here", "_law_card_here", "_law_levels"] (spD K ZPu 3 C__law_odd) := by
  have G__law_draw := ok__law_draw (P := P) (w := w) (base := base) X
  have G__law_pick := ok__law_pick (P := P) (w := w) (base := base) X
  refine fnD X.F__law_odd SC__law_odd fun cdv Ar outer s H E hgd hr => ?_
  have hu : (Ar.deeper (envOfC "_law_odd" (defScope S__law_odd) s.heap.objs.size A.a__law_odd cdv)).units + 64 < cLine := by have := hr.un; omega
  exact (dss_cons (ds_asg (de_call G__law_draw hgd (hr.mono (by decide)) (by rfl) X.g__law_draw X.F__law_draw.kp X.b__law_draw (fun _ _ h => h.1) (da_consR (den 0) (da_cons (dv_e (de_b1 c_len (by rfl) X.m_len (by decide +kernel) (dln 2))) da_nil))) (dgm 3 SC__law_odd.nd))
      (dss_cons (ds_asg (de_call G__law_pick hgd (hr.mono (by decide)) (by rfl) X.g__law_pick X.F__law_pick.kp X.b__law_pick (fun _ _ h => h.1) (da_consR (den 0) (da_cons (dv_e (de_lst (da_cons (dv_e (de_op ox_add (dl_v (dv_e (de_ix (dln 1) (dln 3)))) (dl_v dv_int))) (da_cons (dv_neg (dl_v dv_int)) (da_cons dv_bl (da_cons dv_bl (da_cons dv_non (da_cons dv_str (da_cons (dv_tup (da_cons dv_int da_nil)) (da_cons (dv_e (de_op ox_pow (dl_v dv_int) (dl_v dv_int))) (da_cons (dv_e (de_ix (dln 2) (dln 3))) (da_cons (dv_e (de_lst (da_cons dv_int da_nil))) da_nil)))))))))))) da_nil))) (dgm 4 SC__law_odd.nd))
      (dss_cons (ds_asg (de_op oy_mul (dl_v (dv_e (de_lst (da_cons (dv_e (de_op ox_add (dl_v (dv_e (de_op ox_add (dl_v (dv_e (de_slice (dln 2) do_none (do_some (dv_e (den 3)))))) (dl_v (dv_tup (da_cons (dv_e (den 4)) da_nil)))))) (dl_v (dv_e (de_slice (dln 2) (do_some (dv_e (de_op ox_add (dln 3) (dl_v dv_int)))) do_none))))) da_nil)))) (dl_v dv_int)) (dgm 5 SC__law_odd.nd))
      (dss_cons (ds_asg (de_op ox_add (dln 5) (dl_v (dv_e (de_lst (da_cons (dv_e (de_t1 c_list (by rfl) X.m_list (by decide +kernel) (dln 2))) (da_cons (dv_e (de_slice (dln 2) do_none (do_some (dv_e (den 3))))) (da_cons (dv_e (de_op ox_add (dln 2) (dl_v (dv_tup (da_cons dv_int da_nil))))) (da_cons (dv_tup (da_cons (dv_e (den 2)) da_nil)) (da_cons dv_non (da_cons dv_int (da_cons dv_bl (da_cons dv_str (da_cons dv_dict0 (da_cons (dv_e (de_lst da_nil)) (da_cons (dv_tup da_nil) (da_cons (dv_e (de_op ox_add (dln 1) (dln 1))) da_nil)))))))))))))))) (dgm 5 SC__law_odd.nd))
      (dss_cons (ds_expr (de_v (dvap 5 (dv_e (de_t1 c_tuple (by rfl) X.m_tuple (by decide +kernel) (dl_v (dv_e (de_lc (own := [("_law_level", 6)]) (vs := [6]) rfl SC__law_odd.nd (di_tup (dv_e (den 2))) (blkOk_by (own := [("_law_level", 6)]) (N := N__law_odd) (sc := defScope S__law_odd) (by decide +kernel)) rfl (fun _ _ _ _ _ => (dgb 6 SC__law_odd.nd)) (fun _ _ _ _ _ => dts_nil) (fun _ _ _ _ _ => (dv_e (de_if (dt_cmp (oy_lt hu) (dln 6) (dl_v dv_int)) (de_t1 c_bool (by rfl) X.m_bool (by decide +kernel) (dln 6)) (den 6))))))))))))
      (dss_one (ds_ret (de_call G__law_pick hgd (hr.mono (by decide)) (by rfl) X.g__law_pick X.F__law_pick.kp X.b__law_pick (fun _ _ h => h.1) (da_consR (den 0) (da_cons (dv_e (den 5)) da_nil))))))))))
def T__law_is_state : TSD := (t_seq (t_if (t_or (t_not (t_tst (t_v (t_isi "tuple" (t_lname 1))))) (t_tst (t_op neY (t_l (t_f (t_c1 lenX (t_lname 1)))) (t_l (t_f (t_c1 lenX (t_lname 0))))))) (t_ret (t_v (t_c (.bool false)))) t_next)
      (t_seq (t_for (t_wzip (t_acons (t_f (t_name 0)) (t_acons (t_f (t_name 1)) t_anil))) (g_tup 2 (g_cons (g_name 2) (g_cons (g_name 3) g_nil))) (t_if (t_or (t_tst (t_v (t_isi "bool" (t_lname 3)))) (t_or (t_not (t_tst (t_v (t_isi "int" (t_lname 3))))) (t_or (t_tst (t_op ltY (t_lname 3) (t_l (t_c (.int 0))))) (t_tst (t_op gtY (t_lname 3) (t_lname 2)))))) (t_ret (t_v (t_c (.bool false)))) t_next))
      (t_ret (t_v (t_c (.bool true))))))
def C__law_is_state : TF := runD T__law_is_state N__law_is_state 2
theorem ok__law_is_state (X : Tx K mg A) : FnG P w K mg base CX0 1 A.a__law_is_state A.d__law_is_state ["_law_card_here", "_law_thing"] (spD K ZPu 2 C__law_is_state) := by
  refine fnD X.F__law_is_state SC__law_is_state fun cdv Ar outer s H E hgd hr => ?_
  have hu : (Ar.deeper (envOfC "_law_is_state" (defScope S__law_is_state) s.heap.objs.size A.a__law_is_state cdv)).units + 64 < cLine := by have := hr.un; omega
  exact (dss_cons (ds_if (dt_w (dw_or (dt_not (dt_val (de_v (dv_isi isTy_tuple (by rfl) X.m_isinstance (by rfl) X.m_tuple (by decide +kernel) (dln 1))))) (dw_or1 (dt_cmp (oy_ne hu) (dl_v (dv_e (de_b1 c_len (by rfl) X.m_len (by decide +kernel) (dln 1)))) (dl_v (dv_e (de_b1 c_len (by rfl) X.m_len (by decide +kernel) (dln 0)))))))) (dss_one (ds_ret (de_v dv_bl))) dss_nil)
      (dss_cons (ds_for PassesOwn.never rfl (di_zip (by rfl) X.m_zip (da_cons (dv_e (den 0)) (da_cons (dv_e (den 1)) da_nil))) (dg_tup rfl (dgs_cons (dgm 2 SC__law_is_state.nd) (dgs_cons (dgm 3 SC__law_is_state.nd) dgs_nil))) (dss_one (ds_if (dt_w (dw_or (dt_val (de_v (dv_isi isTy_bool (by rfl) X.m_isinstance (by rfl) X.m_bool (by decide +kernel) (dln 3)))) (dw_or (dt_not (dt_val (de_v (dv_isi isTy_int (by rfl) X.m_isinstance (by rfl) X.m_int (by decide +kernel) (dln 3))))) (dw_or (dt_cmp (oy_lt hu) (dln 3) (dl_v dv_int)) (dw_or1 (dt_cmp (oy_gt hu) (dln 3) (dln 2))))))) (dss_one (ds_ret (de_v dv_bl))) dss_nil)))
      (dss_one (ds_ret (de_v dv_bl)))))
def T__law_is_counted : TSD := (t_seq (t_asg (t_call C__law_all (t_acons (t_f (t_name 1)) t_anil)) (g_name 3))
      (t_seq (t_if (t_tst (t_op neY (t_l (t_f (t_c1 shX (t_l (t_f (t_call C_states (t_acons (t_f (t_name 1)) t_anil))))))) (t_l (t_f (t_c1 shX (t_l (t_f (t_c1 tupleX (t_lname 3))))))))) (t_ret (t_v (t_c (.bool false)))) t_next)
      (t_seq (t_for (t_wrng1 (t_acons (t_f (t_name 2)) t_anil)) (g_name 4) (t_seq (t_asg (t_call C__law_draw (t_aconsR (t_name 0) (t_acons (t_f (t_c1 lenX (t_lname 3))) t_anil))) (g_name 5))
      (t_seq (t_if (t_tst (t_op neY (t_l (t_f (t_c1 shX (t_l (t_f (t_call C__law_told (t_acons (t_f (t_name 1)) (t_acons (t_f (t_op ixX (t_lname 3) (t_lname 5))) (t_acons (t_f (t_op eqY (t_lname 4) (t_l (t_c (.int 1))))) t_anil))))))))) (t_l (t_f (t_c1 shX (t_l (t_f (t_lstd (t_acons (t_c (.str "told")) (t_acons (t_f (t_name 5)) t_anil)))))))))) (t_ret (t_v (t_c (.bool false)))) t_next)
      (t_seq (t_asg (t_call C__law_odd (t_aconsR (t_name 0) (t_acons (t_f (t_name 1)) (t_acons (t_f (t_op ixX (t_lname 3) (t_lname 5))) t_anil)))) (g_name 6))
      (t_seq (t_par 7 8 (t_call C__law_told (t_acons (t_f (t_name 1)) (t_acons (t_f (t_name 6)) (t_acons (t_f (t_op eqY (t_lname 4) (t_l (t_c (.int 2))))) t_anil)))) (t_c1 shX (t_lname 6)))
      (t_if (t_tst (t_call C__law_is_state (t_acons (t_f (t_name 1)) (t_acons (t_f (t_name 6)) t_anil)))) (t_if (t_or (t_tst (t_op neY (t_l (t_f (t_op ixX (t_lname 7) (t_l (t_c (.int 0)))))) (t_l (t_c (.str "told"))))) (t_tst (t_op neY (t_l (t_f (t_c1 shX (t_l (t_f (t_op ixX (t_lname 3) (t_l (t_f (t_op ixX (t_lname 7) (t_l (t_c (.int 1)))))))))))) (t_lname 8)))) (t_ret (t_v (t_c (.bool false)))) t_next) (t_if (t_or (t_tst (t_op neY (t_l (t_f (t_c1 shX (t_lname 7)))) (t_l (t_f (t_c1 shX (t_l (t_f (t_lstd (t_acons (t_c (.str "NoState")) (t_acons (t_f (t_name 6)) (t_acons (t_c (.bool true)) t_anil))))))))))) (t_tst (t_op neY (t_l (t_f (t_c1 shX (t_lname 6)))) (t_lname 8)))) (t_ret (t_v (t_c (.bool false)))) t_next)))))))
      (t_ret (t_v (t_c (.bool true)))))))
def C__law_is_counted : TF := runD T__law_is_counted N__law_is_counted 3
theorem ok__law_is_counted (X : Tx K mg A) : FnG P w K mg base CX0 6 A.a__law_is_counted A.d__law_is_counted ["_law_box_here", "_law_card_here", "_law_turns"] (spD K ZPu 3 C__law_is_counted) := by
  have G__law_all := ok__law_all (P := P) (w := w) (base := base) X
  have G__law_draw := ok__law_draw (P := P) (w := w) (base := base) X
  have G__law_is_state := ok__law_is_state (P := P) (w := w) (base := base) X
  have G__law_odd := ok__law_odd (P := P) (w := w) (base := base) X
  have G__law_told := ok__law_told (P := P) (w := w) (base := base) X
  have G_states := ok_states (P := P) (w := w) (base := base) X
  refine fnD X.F__law_is_counted SC__law_is_counted fun cdv Ar outer s H E hgd hr => ?_
  have hu : (Ar.deeper (envOfC "_law_is_counted" (defScope S__law_is_counted) s.heap.objs.size A.a__law_is_counted cdv)).units + 64 < cLine := by have := hr.un; omega
  exact (dss_cons (ds_asg (de_call G__law_all hgd (hr.mono (by decide)) (by rfl) X.g__law_all X.F__law_all.kp X.b__law_all (fun _ _ h => h.1) (da_cons (dv_e (den 1)) da_nil)) (dgm 3 SC__law_is_counted.nd))
      (dss_cons (ds_if (dt_cmp (oy_ne hu) (dl_v (dv_e (de_b1 (c_show hgd hu) (by rfl) X.m_repr (by decide +kernel) (dl_v (dv_e (de_call G_states hgd (hr.mono (by decide)) (by rfl) X.g_states X.F_states.kp X.b_states (fun _ _ h => h.1) (da_cons (dv_e (den 1)) da_nil))))))) (dl_v (dv_e (de_b1 (c_show hgd hu) (by rfl) X.m_repr (by decide +kernel) (dl_v (dv_e (de_t1 c_tuple (by rfl) X.m_tuple (by decide +kernel) (dln 3)))))))) (dss_one (ds_ret (de_v dv_bl))) dss_nil)
      (dss_cons (ds_for PassesOwn.never rfl (di_range1 (by rfl) X.m_range (da_cons (dv_e (den 2)) da_nil)) (dgm 4 SC__law_is_counted.nd) (dss_cons (ds_asg (de_call G__law_draw hgd (hr.mono (by decide)) (by rfl) X.g__law_draw X.F__law_draw.kp X.b__law_draw (fun _ _ h => h.1) (da_consR (den 0) (da_cons (dv_e (de_b1 c_len (by rfl) X.m_len (by decide +kernel) (dln 3))) da_nil))) (dgm 5 SC__law_is_counted.nd))
      (dss_cons (ds_if (dt_cmp (oy_ne hu) (dl_v (dv_e (de_b1 (c_show hgd hu) (by rfl) X.m_repr (by decide +kernel) (dl_v (dv_e (de_call G__law_told hgd (hr.mono (by decide)) (by rfl) X.g__law_told X.F__law_told.kp X.b__law_told (fun _ _ h => h.1) (da_cons (dv_e (den 1)) (da_cons (dv_e (de_ix (dln 3) (dln 5))) (da_cons (dv_e (de_cmp (oy_eq hu) (dln 4) (dl_v dv_int))) da_nil))))))))) (dl_v (dv_e (de_b1 (c_show hgd hu) (by rfl) X.m_repr (by decide +kernel) (dl_v (dv_e (de_lst (da_cons dv_str (da_cons (dv_e (den 5)) da_nil))))))))) (dss_one (ds_ret (de_v dv_bl))) dss_nil)
      (dss_cons (ds_asg (de_call G__law_odd hgd (hr.mono (by decide)) (by rfl) X.g__law_odd X.F__law_odd.kp X.b__law_odd (fun _ _ h => h.1) (da_consR (den 0) (da_cons (dv_e (den 1)) (da_cons (dv_e (de_ix (dln 3) (dln 5))) da_nil)))) (dgm 6 SC__law_is_counted.nd))
      (dss_cons (dspar 7 8 SC__law_is_counted.nd (de_call G__law_told hgd (hr.mono (by decide)) (by rfl) X.g__law_told X.F__law_told.kp X.b__law_told (fun _ _ h => h.1) (da_cons (dv_e (den 1)) (da_cons (dv_e (den 6)) (da_cons (dv_e (de_cmp (oy_eq hu) (dln 4) (dl_v dv_int))) da_nil)))) (de_b1 (c_show hgd hu) (by rfl) X.m_repr (by decide +kernel) (dln 6)))
      (dss_one (ds_if (dt_val (de_call G__law_is_state hgd (hr.mono (by decide)) (by rfl) X.g__law_is_state X.F__law_is_state.kp X.b__law_is_state (fun _ _ h => h.1) (da_cons (dv_e (den 1)) (da_cons (dv_e (den 6)) da_nil)))) (dss_one (ds_if (dt_w (dw_or (dt_cmp (oy_ne hu) (dl_v (dv_e (de_ix (dln 7) (dl_v dv_int)))) (dl_v dv_str)) (dw_or1 (dt_cmp (oy_ne hu) (dl_v (dv_e (de_b1 (c_show hgd hu) (by rfl) X.m_repr (by decide +kernel) (dl_v (dv_e (de_ix (dln 3) (dl_v (dv_e (de_ix (dln 7) (dl_v dv_int)))))))))) (dln 8))))) (dss_one (ds_ret (de_v dv_bl))) dss_nil)) (dss_one (ds_if (dt_w (dw_or (dt_cmp (oy_ne hu) (dl_v (dv_e (de_b1 (c_show hgd hu) (by rfl) X.m_repr (by decide +kernel) (dln 7)))) (dl_v (dv_e (de_b1 (c_show hgd hu) (by rfl) X.m_repr (by decide +kernel) (dl_v (dv_e (de_lst (da_cons dv_str (da_cons (dv_e (den 6)) (da_cons dv_bl da_nil)))))))))) (dw_or1 (dt_cmp (oy_ne hu) (dl_v (dv_e (de_b1 (c_show hgd hu) (by rfl) X.m_repr (by decide +kernel) (dln 6)))) (dln 8))))) (dss_one (ds_ret (de_v dv_bl))) dss_nil)))))))))
      (dss_one (ds_ret (de_v dv_bl))))))
def T__law_is_compared : TSD := (t_seq (t_asg (t_lc [4, 5] (t_wzip (t_acons (t_f (t_name 1)) (t_acons (t_f (t_name 2)) t_anil))) (g_tup 2 (g_cons (g_name 4) (g_cons (g_name 5) g_nil))) t_yes (t_f (t_op subX (t_lname 5) (t_lname 4)))) (g_name 3))
      (t_seq (t_asg (t_v (t_andV (t_f (t_op eqY (t_l (t_f (t_lc [7] (t_wlist (t_f (t_name 3))) (g_name 7) (t_tst (t_op ltY (t_lname 7) (t_l (t_c (.int 0))))) (t_c (.int 1))))) (t_l (t_f (t_lstd t_anil))))) (t_f (t_op gtY (t_l (t_f (t_c1 sumY (t_lname 3)))) (t_l (t_c (.int 0))))))) (g_name 6))
      (t_seq (t_if (t_tst (t_op neY (t_l (t_f (t_c1 shX (t_l (t_f (t_call C_is_above (t_acons (t_f (t_name 1)) (t_acons (t_f (t_name 2)) t_anil)))))))) (t_l (t_f (t_c1 shX (t_lname 6)))))) (t_ret (t_v (t_c (.bool false)))) t_next)
      (t_seq (t_if (t_or (t_tst (t_name 6)) (t_tst (t_op eqY (t_l (t_f (t_c1 sumY (t_l (t_f (t_lc [7] (t_wlist (t_f (t_name 3))) (g_name 7) t_yes (t_f (t_c1 absX (t_lname 7))))))))) (t_l (t_c (.int 0)))))) (t_ret (t_op eqY (t_l (t_f (t_c1 shX (t_l (t_f (t_call C_rises (t_acons (t_f (t_name 1)) (t_acons (t_f (t_name 2)) t_anil)))))))) (t_l (t_f (t_c1 shX (t_l (t_f (t_c1 sumY (t_lname 3))))))))) t_next)
      (t_ret (t_v (t_c (.bool true))))))))
def C__law_is_compared : TF := runD T__law_is_compared N__law_is_compared 3
theorem ok__law_is_compared (X : Tx K mg A) : FnG P w K mg base CX0 2 A.a__law_is_compared A.d__law_is_compared ["_law_card_here", "_law_one", "_law_two"] (spD K ZPu 3 C__law_is_compared) := by
  have G_is_above := ok_is_above (P := P) (w := w) (base := base) X
  have G_rises := ok_rises (P := P) (w := w) (base := base) X
  refine fnD X.F__law_is_compared SC__law_is_compared fun cdv Ar outer s H E hgd hr => ?_
  have hu : (Ar.deeper (envOfC "_law_is_compared" (defScope S__law_is_compared) s.heap.objs.size A.a__law_is_compared cdv)).units + 64 < cLine := by have := hr.un; omega
  exact (dss_cons (ds_setLc (i := 3) (own := [("_law_first", 4), ("_law_second", 5)]) (vs := [4, 5]) rfl SC__law_is_compared.nd rfl rfl (sw_true rfl rfl rfl (by decide +kernel)) (di_zip (by rfl) X.m_zip (da_cons (dv_e (den 1)) (da_cons (dv_e (den 2)) da_nil))) (blkOk_by (own := [("_law_first", 4), ("_law_second", 5)]) (N := N__law_is_compared) (sc := defScope S__law_is_compared) (by decide +kernel)) rfl (fun _ _ _ _ _ => (dgn_tup rfl (dgns_cons (dgb 4 SC__law_is_compared.nd) (dgns_cons (dgb 5 SC__law_is_compared.nd) dgns_nil)))) (fun _ _ _ _ _ => dts_nil) (fun _ _ _ _ _ => (dv_e (de_op ox_sub (dln 5) (dln 4)))))
      (dss_cons (ds_asg (de_v (dv_and (dv_e (de_cmp (oy_eq hu) (dl_v (dv_e (de_lc (own := [("_law_gap", 7)]) (vs := [7]) rfl SC__law_is_compared.nd (di_list (dv_e (den 3))) (blkOk_by (own := [("_law_gap", 7)]) (N := N__law_is_compared) (sc := defScope S__law_is_compared) (by decide +kernel)) rfl (fun _ _ _ _ _ => (dgb 7 SC__law_is_compared.nd)) (fun _ _ _ _ _ => (dts_one (dt_cmp (oy_lt hu) (dln 7) (dl_v dv_int)))) (fun _ _ _ _ _ => dv_int)))) (dl_v (dv_e (de_lst da_nil))))) (dv_one (dv_e (de_cmp (oy_gt hu) (dl_v (dv_e (de_b1 (c_sumY rfl) (by rfl) X.m_sum (by decide +kernel) (dln 3)))) (dl_v dv_int)))))) (dgm 6 SC__law_is_compared.nd))
      (dss_cons (ds_if (dt_cmp (oy_ne hu) (dl_v (dv_e (de_b1 (c_show hgd hu) (by rfl) X.m_repr (by decide +kernel) (dl_v (dv_e (de_call G_is_above hgd (hr.mono (by decide)) (by rfl) X.g_is_above X.F_is_above.kp X.b_is_above (fun _ _ h => h.1) (da_cons (dv_e (den 1)) (da_cons (dv_e (den 2)) da_nil)))))))) (dl_v (dv_e (de_b1 (c_show hgd hu) (by rfl) X.m_repr (by decide +kernel) (dln 6))))) (dss_one (ds_ret (de_v dv_bl))) dss_nil)
      (dss_cons (ds_if (dt_w (dw_or (dt_val (den 6)) (dw_or1 (dt_cmp (oy_eq hu) (dl_v (dv_e (de_b1 (c_sumY rfl) (by rfl) X.m_sum (by decide +kernel) (dl_v (dv_e (de_lc (own := [("_law_gap", 7)]) (vs := [7]) rfl SC__law_is_compared.nd (di_list (dv_e (den 3))) (blkOk_by (own := [("_law_gap", 7)]) (N := N__law_is_compared) (sc := defScope S__law_is_compared) (by decide +kernel)) rfl (fun _ _ _ _ _ => (dgb 7 SC__law_is_compared.nd)) (fun _ _ _ _ _ => dts_nil) (fun _ _ _ _ _ => (dv_e (de_b1 c_abs (by rfl) X.m_abs (by decide +kernel) (dln 7)))))))))) (dl_v dv_int))))) (dss_one (ds_ret (de_cmp (oy_eq hu) (dl_v (dv_e (de_b1 (c_show hgd hu) (by rfl) X.m_repr (by decide +kernel) (dl_v (dv_e (de_call G_rises hgd (hr.mono (by decide)) (by rfl) X.g_rises X.F_rises.kp X.b_rises (fun _ _ h => h.1) (da_cons (dv_e (den 1)) (da_cons (dv_e (den 2)) da_nil)))))))) (dl_v (dv_e (de_b1 (c_show hgd hu) (by rfl) X.m_repr (by decide +kernel) (dl_v (dv_e (de_b1 (c_sumY rfl) (by rfl) X.m_sum (by decide +kernel) (dln 3)))))))))) dss_nil)
      (dss_one (ds_ret (de_v dv_bl)))))))
def T__law_is_all : TSD := (t_seq (t_asg (t_call C__law_all (t_acons (t_f (t_name 1)) t_anil)) (g_name 2))
      (t_seq (t_for (t_wlist (t_f (t_name 2))) (g_name 3) (t_seq (t_asg (t_c1 tupleX (t_l (t_f (t_lc [5, 6] (t_wzip (t_acons (t_f (t_name 1)) (t_acons (t_f (t_name 3)) t_anil))) (g_tup 2 (g_cons (g_name 5) (g_cons (g_name 6) g_nil))) t_yes (t_f (t_op subX (t_lname 5) (t_lname 6))))))) (g_name 4))
      (t_seq (t_if (t_tst (t_op neY (t_l (t_f (t_c1 shX (t_l (t_f (t_call C_room (t_acons (t_f (t_name 1)) (t_acons (t_f (t_name 3)) t_anil)))))))) (t_l (t_f (t_c1 shX (t_lname 4)))))) (t_ret (t_v (t_c (.bool false)))) t_next)
      (t_if (t_tst (t_op neY (t_l (t_f (t_lc [7] (t_wlist (t_f (t_name 2))) (g_name 7) (t_not (t_tst (t_call C__law_is_compared (t_acons (t_f (t_name 1)) (t_acons (t_f (t_name 3)) (t_acons (t_f (t_name 7)) t_anil)))))) (t_f (t_name 7))))) (t_l (t_f (t_lstd t_anil))))) (t_ret (t_v (t_c (.bool false)))) t_next))))
      (t_seq (t_asg (t_lc [9] (t_wrng1 (t_acons (t_c (.int 3)) t_anil)) (g_name 9) t_yes (t_f (t_call C__law_pick (t_aconsR (t_name 0) (t_acons (t_f (t_name 2)) t_anil))))) (g_tup 3 (g_cons (g_name 3) (g_cons (g_name 7) (g_cons (g_name 8) g_nil)))))
      (t_seq (t_asg (t_lstd (t_acons (t_f (t_call C_is_above (t_acons (t_f (t_name 3)) (t_acons (t_f (t_name 7)) t_anil)))) (t_acons (t_f (t_callK kb_is_above_0_other_state_S 0 2 C_is_above t_anil (t_acons (t_f (t_name 3)) (t_acons (t_f (t_name 7)) t_anil)))) (t_acons (t_f (t_call C_is_above (t_acons (t_f (t_name 7)) (t_acons (t_f (t_name 8)) t_anil)))) (t_acons (t_f (t_call C_is_above (t_acons (t_f (t_name 3)) (t_acons (t_f (t_name 8)) t_anil)))) t_anil))))) (g_name 10))
      (t_seq (t_if (t_or (t_and (t_tst (t_op ixX (t_lname 10) (t_l (t_c (.int 0))))) (t_tst (t_op ixX (t_lname 10) (t_l (t_c (.int 1)))))) (t_and (t_tst (t_op ixX (t_lname 10) (t_l (t_c (.int 0))))) (t_and (t_tst (t_op ixX (t_lname 10) (t_l (t_c (.int 2))))) (t_not (t_tst (t_op ixX (t_lname 10) (t_l (t_c (.int 3))))))))) (t_ret (t_v (t_c (.bool false)))) t_next)
      (t_seq (t_asg (t_c1 tupleX (t_lname 1)) (g_name 11))
      (t_seq (t_asg (t_lstd (t_acons (t_f (t_callK kb_room_0_state_card_S 0 2 C_room t_anil (t_acons (t_f (t_name 3)) (t_acons (t_f (t_name 1)) t_anil)))) (t_acons (t_f (t_c1 lenX (t_l (t_f (t_callK kb_states_0_card_S 0 1 C_states t_anil (t_acons (t_f (t_name 1)) t_anil)))))) t_anil))) (g_name 10))
      (t_seq (t_if (t_tst (t_op neY (t_l (t_f (t_c1 shX (t_lname 10)))) (t_l (t_f (t_c1 shX (t_l (t_f (t_lstd (t_acons (t_f (t_c1 tupleX (t_l (t_f (t_lc [5, 6] (t_wzip (t_acons (t_f (t_name 1)) (t_acons (t_f (t_name 3)) t_anil))) (g_tup 2 (g_cons (g_name 5) (g_cons (g_name 6) g_nil))) t_yes (t_f (t_op subX (t_lname 5) (t_lname 6)))))))) (t_acons (t_f (t_c1 lenX (t_lname 2))) t_anil)))))))))) (t_ret (t_v (t_c (.bool false)))) t_next)
      (t_ret (t_op eqY (t_l (t_f (t_c1 shX (t_l (t_f (t_callK kb_rises_0_state_other_S 0 2 C_rises t_anil (t_acons (t_f (t_name 3)) (t_acons (t_f (t_name 11)) t_anil)))))))) (t_l (t_f (t_c1 shX (t_l (t_f (t_op subX (t_l (t_f (t_c1 sumY (t_lname 1)))) (t_l (t_f (t_c1 sumY (t_lname 3))))))))))))))))))))
def C__law_is_all : TF := runD T__law_is_all N__law_is_all 2
theorem ok__law_is_all (X : Tx K mg A) : FnG P w K mg base CX0 3 A.a__law_is_all A.d__law_is_all ["_law_box_here", "_law_card_here"] (spD K ZPu 2 C__law_is_all) := by
  have G__law_all := ok__law_all (P := P) (w := w) (base := base) X
  have G__law_is_compared := ok__law_is_compared (P := P) (w := w) (base := base) X
  have G__law_pick := ok__law_pick (P := P) (w := w) (base := base) X
  have G_is_above := ok_is_above (P := P) (w := w) (base := base) X
  have G_rises := ok_rises (P := P) (w := w) (base := base) X
  have G_room := ok_room (P := P) (w := w) (base := base) X
  have G_states := ok_states (P := P) (w := w) (base := base) X
  refine fnD X.F__law_is_all SC__law_is_all fun cdv Ar outer s H E hgd hr => ?_
  have hu : (Ar.deeper (envOfC "_law_is_all" (defScope S__law_is_all) s.heap.objs.size A.a__law_is_all cdv)).units + 64 < cLine := by have := hr.un; omega
  exact (dss_cons (ds_asg (de_call G__law_all hgd (hr.mono (by decide)) (by rfl) X.g__law_all X.F__law_all.kp X.b__law_all (fun _ _ h => h.1) (da_cons (dv_e (den 1)) da_nil)) (dgm 2 SC__law_is_all.nd))
      (dss_cons (ds_for PassesOwn.never rfl (di_list (dv_e (den 2))) (dgm 3 SC__law_is_all.nd) (dss_cons (ds_asg (de_t1 c_tuple (by rfl) X.m_tuple (by decide +kernel) (dl_v (dv_e (de_lc (own := [("_law_top", 5), ("_law_level", 6)]) (vs := [5, 6]) rfl SC__law_is_all.nd (di_zip (by rfl) X.m_zip (da_cons (dv_e (den 1)) (da_cons (dv_e (den 3)) da_nil))) (blkOk_by (own := [("_law_top", 5), ("_law_level", 6)]) (N := N__law_is_all) (sc := defScope S__law_is_all) (by decide +kernel)) rfl (fun _ _ _ _ _ => (dgn_tup rfl (dgns_cons (dgb 5 SC__law_is_all.nd) (dgns_cons (dgb 6 SC__law_is_all.nd) dgns_nil)))) (fun _ _ _ _ _ => dts_nil) (fun _ _ _ _ _ => (dv_e (de_op ox_sub (dln 5) (dln 6)))))))) (dgm 4 SC__law_is_all.nd))
      (dss_cons (ds_if (dt_cmp (oy_ne hu) (dl_v (dv_e (de_b1 (c_show hgd hu) (by rfl) X.m_repr (by decide +kernel) (dl_v (dv_e (de_call G_room hgd (hr.mono (by decide)) (by rfl) X.g_room X.F_room.kp X.b_room (fun _ _ h => h.1) (da_cons (dv_e (den 1)) (da_cons (dv_e (den 3)) da_nil)))))))) (dl_v (dv_e (de_b1 (c_show hgd hu) (by rfl) X.m_repr (by decide +kernel) (dln 4))))) (dss_one (ds_ret (de_v dv_bl))) dss_nil)
      (dss_one (ds_if (dt_cmp (oy_ne hu) (dl_v (dv_e (de_lc (own := [("_law_two", 7)]) (vs := [7]) rfl SC__law_is_all.nd (di_list (dv_e (den 2))) (blkOk_by (own := [("_law_two", 7)]) (N := N__law_is_all) (sc := defScope S__law_is_all) (by decide +kernel)) rfl (fun _ _ _ _ _ => (dgb 7 SC__law_is_all.nd)) (fun _ _ _ _ _ => (dts_one (dt_not (dt_val (de_call G__law_is_compared hgd (hr.mono (by decide)) (by rfl) X.g__law_is_compared X.F__law_is_compared.kp X.b__law_is_compared (fun _ _ h => h.1) (da_cons (dv_e (den 1)) (da_cons (dv_e (den 3)) (da_cons (dv_e (den 7)) da_nil)))))))) (fun _ _ _ _ _ => (dv_e (den 7)))))) (dl_v (dv_e (de_lst da_nil)))) (dss_one (ds_ret (de_v dv_bl))) dss_nil)))))
      (dss_cons (ds_asg (de_lc (own := [("_law_turn", 9)]) (vs := [9]) rfl SC__law_is_all.nd (di_range1 (by rfl) X.m_range (da_cons dv_int da_nil)) (blkOk_by (own := [("_law_turn", 9)]) (N := N__law_is_all) (sc := defScope S__law_is_all) (by decide +kernel)) rfl (fun _ _ _ _ _ => (dgb 9 SC__law_is_all.nd)) (fun _ _ _ _ _ => dts_nil) (fun _ _ _ _ _ => (dv_e (de_call G__law_pick hgd (hr.mono (by decide)) (by rfl) X.g__law_pick X.F__law_pick.kp X.b__law_pick (fun _ _ h => h.1) (da_consR (den 0) (da_cons (dv_e (den 2)) da_nil)))))) (dg_tup rfl (dgs_cons (dgm 3 SC__law_is_all.nd) (dgs_cons (dgm 7 SC__law_is_all.nd) (dgs_cons (dgm 8 SC__law_is_all.nd) dgs_nil)))))
      (dss_cons (ds_asg (de_lst (da_cons (dv_e (de_call G_is_above hgd (hr.mono (by decide)) (by rfl) X.g_is_above X.F_is_above.kp X.b_is_above (fun _ _ h => h.1) (da_cons (dv_e (den 3)) (da_cons (dv_e (den 7)) da_nil)))) (da_cons (dv_e (de_callK0 G_is_above hgd (hr.mono (by decide)) (by rfl) X.g_is_above X.F_is_above.kp (kb_is_above_0_other_state X.F_is_above) kb_is_above_0_other_state_rel kb_is_above_0_other_state_s (fun zs h => kb_is_above_0_other_state_len zs h) (dk_cons (dv_e (den 3)) (dk_cons (dv_e (den 7)) dk_nil)))) (da_cons (dv_e (de_call G_is_above hgd (hr.mono (by decide)) (by rfl) X.g_is_above X.F_is_above.kp X.b_is_above (fun _ _ h => h.1) (da_cons (dv_e (den 7)) (da_cons (dv_e (den 8)) da_nil)))) (da_cons (dv_e (de_call G_is_above hgd (hr.mono (by decide)) (by rfl) X.g_is_above X.F_is_above.kp X.b_is_above (fun _ _ h => h.1) (da_cons (dv_e (den 3)) (da_cons (dv_e (den 8)) da_nil)))) da_nil))))) (dgm 10 SC__law_is_all.nd))
      (dss_cons (ds_if (dt_w (dw_or (dt_w (dw_and (dt_val (de_ix (dln 10) (dl_v dv_int))) (dw_and1 (dt_val (de_ix (dln 10) (dl_v dv_int)))))) (dw_or1 (dt_w (dw_and (dt_val (de_ix (dln 10) (dl_v dv_int))) (dw_and (dt_val (de_ix (dln 10) (dl_v dv_int))) (dw_and1 (dt_not (dt_val (de_ix (dln 10) (dl_v dv_int))))))))))) (dss_one (ds_ret (de_v dv_bl))) dss_nil)
      (dss_cons (ds_asg (de_t1 c_tuple (by rfl) X.m_tuple (by decide +kernel) (dln 1)) (dgm 11 SC__law_is_all.nd))
      (dss_cons (ds_asg (de_lst (da_cons (dv_e (de_callK0 G_room hgd (hr.mono (by decide)) (by rfl) X.g_room X.F_room.kp (kb_room_0_state_card X.F_room) kb_room_0_state_card_rel kb_room_0_state_card_s (fun zs h => kb_room_0_state_card_len zs h) (dk_cons (dv_e (den 3)) (dk_cons (dv_e (den 1)) dk_nil)))) (da_cons (dv_e (de_b1 c_len (by rfl) X.m_len (by decide +kernel) (dl_v (dv_e (de_callK0 G_states hgd (hr.mono (by decide)) (by rfl) X.g_states X.F_states.kp (kb_states_0_card X.F_states) kb_states_0_card_rel kb_states_0_card_s (fun zs h => kb_states_0_card_len zs h) (dk_cons (dv_e (den 1)) dk_nil)))))) da_nil))) (dgm 10 SC__law_is_all.nd))
      (dss_cons (ds_if (dt_cmp (oy_ne hu) (dl_v (dv_e (de_b1 (c_show hgd hu) (by rfl) X.m_repr (by decide +kernel) (dln 10)))) (dl_v (dv_e (de_b1 (c_show hgd hu) (by rfl) X.m_repr (by decide +kernel) (dl_v (dv_e (de_lst (da_cons (dv_e (de_t1 c_tuple (by rfl) X.m_tuple (by decide +kernel) (dl_v (dv_e (de_lc (own := [("_law_top", 5), ("_law_level", 6)]) (vs := [5, 6]) rfl SC__law_is_all.nd (di_zip (by rfl) X.m_zip (da_cons (dv_e (den 1)) (da_cons (dv_e (den 3)) da_nil))) (blkOk_by (own := [("_law_top", 5), ("_law_level", 6)]) (N := N__law_is_all) (sc := defScope S__law_is_all) (by decide +kernel)) rfl (fun _ _ _ _ _ => (dgn_tup rfl (dgns_cons (dgb 5 SC__law_is_all.nd) (dgns_cons (dgb 6 SC__law_is_all.nd) dgns_nil)))) (fun _ _ _ _ _ => dts_nil) (fun _ _ _ _ _ => (dv_e (de_op ox_sub (dln 5) (dln 6))))))))) (da_cons (dv_e (de_b1 c_len (by rfl) X.m_len (by decide +kernel) (dln 2))) da_nil))))))))) (dss_one (ds_ret (de_v dv_bl))) dss_nil)
      (dss_one (ds_ret (de_cmp (oy_eq hu) (dl_v (dv_e (de_b1 (c_show hgd hu) (by rfl) X.m_repr (by decide +kernel) (dl_v (dv_e (de_callK0 G_rises hgd (hr.mono (by decide)) (by rfl) X.g_rises X.F_rises.kp (kb_rises_0_state_other X.F_rises) kb_rises_0_state_other_rel kb_rises_0_state_other_s (fun zs h => kb_rises_0_state_other_len zs h) (dk_cons (dv_e (den 3)) (dk_cons (dv_e (den 11)) dk_nil)))))))) (dl_v (dv_e (de_b1 (c_show hgd hu) (by rfl) X.m_repr (by decide +kernel) (dl_v (dv_e (de_op ox_sub (dl_v (dv_e (de_b1 (c_sumY rfl) (by rfl) X.m_sum (by decide +kernel) (dln 1)))) (dl_v (dv_e (de_b1 (c_sumY rfl) (by rfl) X.m_sum (by decide +kernel) (dln 3)))))))))))))))))))))
def T_law (E : EV → CS → Prop) : TSD := (t_seq (t_asg (t_call C__law_box (t_aconsR (t_name 0) t_anil)) (g_name 1))
      (t_seq (t_par 2 3 (t_call C__law_card (t_aconsR (t_name 1) (t_acons (t_c (.int 20)) t_anil))) (t_call C__law_card (t_aconsR (t_name 1) (t_acons (t_c (.int 64)) t_anil))))
      (t_seq (t_if (t_or (t_not (t_tst (t_call C__law_is_counted (t_aconsR (t_name 1) (t_acons (t_f (t_name 2)) (t_acons (t_c (.int 8)) t_anil)))))) (t_or (t_not (t_tst (t_call C__law_is_counted (t_aconsR (t_name 1) (t_acons (t_f (t_name 3)) (t_acons (t_c (.int 12)) t_anil)))))) (t_not (t_tst (t_call C__law_is_all (t_aconsR (t_name 1) (t_acons (t_f (t_name 2)) t_anil))))))) (t_ret (t_v (t_c (.bool false)))) t_next)
      (t_seq (t_if (t_and (t_tst (t_op eqY (t_l (t_f (t_call C__law_draw (t_aconsR (t_name 1) (t_acons (t_c (.int 12)) t_anil))))) (t_l (t_c (.int 0))))) (t_not (t_tst (t_call C__law_is_counted (t_aconsR (t_name 1) (t_acons (t_f (t_call C__law_great (t_aconsR (t_name 1) t_anil))) (t_acons (t_c (.int 4)) t_anil))))))) (t_ret (t_v (t_c (.bool false)))) t_next)
      (t_seq (t_asg (t_op subX (t_l (t_f (t_c1 lenX (t_l (t_f (t_call C__law_all (t_acons (t_f (t_name 3)) t_anil))))))) (t_l (t_c (.int 1)))) (g_name 4))
      (t_ret (t_op eqY (t_l (t_f (t_c1 shX (t_l (t_f (t_lstd (t_acons (t_f (t_callX E C_place_of (t_acons (t_f (t_name 3)) (t_acons (t_f (t_c1 tupleX (t_lname 3))) t_anil)))) (t_acons (t_f (t_call C_room (t_acons (t_f (t_name 3)) (t_acons (t_f (t_c1 tupleX (t_lname 3))) t_anil)))) t_anil)))))))) (t_l (t_f (t_c1 shX (t_l (t_f (t_lstd (t_acons (t_f (t_name 4)) (t_acons (t_f (t_op mulY (t_l (t_tupd (t_acons (t_c (.int 0)) t_anil))) (t_l (t_f (t_c1 lenX (t_lname 3)))))) t_anil)))))))))))))))
def C_law : TX := runX T_law N_law 1
theorem ok_law (X : Tx K mg A) : FnG P w K mg base (L2.CX P w) 7 A.a_law A.d_law ["_law_script"] (spX K A.ca ZPu 1 C_law) := by
  have G__law_all := ok__law_all (P := P) (w := w) (base := base) X
  have G__law_box := ok__law_box (P := P) (w := w) (base := base) X
  have G__law_card := ok__law_card (P := P) (w := w) (base := base) X
  have G__law_draw := ok__law_draw (P := P) (w := w) (base := base) X
  have G__law_great := ok__law_great (P := P) (w := w) (base := base) X
  have G__law_is_all := ok__law_is_all (P := P) (w := w) (base := base) X
  have G__law_is_counted := ok__law_is_counted (P := P) (w := w) (base := base) X
  have G_place_of := ok_place_of (P := P) (w := w) (base := base) X
  have G_room := ok_room (P := P) (w := w) (base := base) X
  refine fnDX X.F_law SC_law fun cdv Ar outer s H E0 bs E hgd hr hbs tk => ?_
  have hu : (Ar.deeper (envOfC "law" (defScope S_law) s.heap.objs.size A.a_law cdv)).units + 64 < cLine := by have := hr.un; omega
  exact (dss0_of (dss_cons (ds_asg (de_call G__law_box hgd (hr.mono (by decide)) (by rfl) X.g__law_box X.F__law_box.kp X.b__law_box (fun _ _ h => h.1) (da_consR (den 0) da_nil)) (dgm 1 SC_law.nd))
      (dss_cons (dspar 2 3 SC_law.nd (de_call G__law_card hgd (hr.mono (by decide)) (by rfl) X.g__law_card X.F__law_card.kp X.b__law_card (fun _ _ h => h.1) (da_consR (den 1) (da_cons dv_int da_nil))) (de_call G__law_card hgd (hr.mono (by decide)) (by rfl) X.g__law_card X.F__law_card.kp X.b__law_card (fun _ _ h => h.1) (da_consR (den 1) (da_cons dv_int da_nil))))
      (dss_cons (ds_if (dt_w (dw_or (dt_not (dt_val (de_call G__law_is_counted hgd (hr.mono (by decide)) (by rfl) X.g__law_is_counted X.F__law_is_counted.kp X.b__law_is_counted (fun _ _ h => h.1) (da_consR (den 1) (da_cons (dv_e (den 2)) (da_cons dv_int da_nil)))))) (dw_or (dt_not (dt_val (de_call G__law_is_counted hgd (hr.mono (by decide)) (by rfl) X.g__law_is_counted X.F__law_is_counted.kp X.b__law_is_counted (fun _ _ h => h.1) (da_consR (den 1) (da_cons (dv_e (den 3)) (da_cons dv_int da_nil)))))) (dw_or1 (dt_not (dt_val (de_call G__law_is_all hgd (hr.mono (by decide)) (by rfl) X.g__law_is_all X.F__law_is_all.kp X.b__law_is_all (fun _ _ h => h.1) (da_consR (den 1) (da_cons (dv_e (den 2)) da_nil))))))))) (dss_one (ds_ret (de_v dv_bl))) dss_nil)
      (dss_cons (ds_if (dt_w (dw_and (dt_cmp (oy_eq hu) (dl_v (dv_e (de_call G__law_draw hgd (hr.mono (by decide)) (by rfl) X.g__law_draw X.F__law_draw.kp X.b__law_draw (fun _ _ h => h.1) (da_consR (den 1) (da_cons dv_int da_nil))))) (dl_v dv_int)) (dw_and1 (dt_not (dt_val (de_call G__law_is_counted hgd (hr.mono (by decide)) (by rfl) X.g__law_is_counted X.F__law_is_counted.kp X.b__law_is_counted (fun _ _ h => h.1) (da_consR (den 1) (da_cons (dv_e (de_call G__law_great hgd (hr.mono (by decide)) (by rfl) X.g__law_great X.F__law_great.kp X.b__law_great (fun _ _ h => h.1) (da_consR (den 1) da_nil))) (da_cons dv_int da_nil))))))))) (dss_one (ds_ret (de_v dv_bl))) dss_nil)
      (dss_cons (ds_asg (de_op ox_sub (dl_v (dv_e (de_b1 c_len (by rfl) X.m_len (by decide +kernel) (dl_v (dv_e (de_call G__law_all hgd (hr.mono (by decide)) (by rfl) X.g__law_all X.F__law_all.kp X.b__law_all (fun _ _ h => h.1) (da_cons (dv_e (den 3)) da_nil))))))) (dl_v dv_int)) (dgm 4 SC_law.nd))
      (dss_one (ds_ret (de_cmp (oy_eq hu) (dl_v (dv_e (de_b1 (c_show hgd hu) (by rfl) X.m_repr (by decide +kernel) (dl_v (dv_e (de_lst (da_cons (dv_e (de_callX G_place_of hgd (hr.mono (by decide)) tk (by rfl) X.g_place_of X.F_place_of.kp X.b_place_of (fun _ _ _ h => h.1) (da_cons (dv_e (den 3)) (da_cons (dv_e (de_t1 c_tuple (by rfl) X.m_tuple (by decide +kernel) (dln 3))) da_nil)))) (da_cons (dv_e (de_call G_room hgd (hr.mono (by decide)) (by rfl) X.g_room X.F_room.kp X.b_room (fun _ _ h => h.1) (da_cons (dv_e (den 3)) (da_cons (dv_e (de_t1 c_tuple (by rfl) X.m_tuple (by decide +kernel) (dln 3))) da_nil)))) da_nil)))))))) (dl_v (dv_e (de_b1 (c_show hgd hu) (by rfl) X.m_repr (by decide +kernel) (dl_v (dv_e (de_lst (da_cons (dv_e (den 4)) (da_cons (dv_e (de_op oy_mul (dl_v (dv_tup (da_cons dv_int da_nil))) (dl_v (dv_e (de_b1 c_len (by rfl) X.m_len (by decide +kernel) (dln 3)))))) da_nil)))))))))))))))))
end
end Lk

/-! cards, states, places: plain lists -/
namespace Cards
def sz : List Nat → Nat
  | [] => 1
  | t :: ts => (t + 1) * sz ts
theorem sz_append : ∀ a b : List Nat, sz (a ++ b) = sz a * sz b
  | [], b => by simp [sz]
  | t :: a, b => by
    show (t + 1) * sz (a ++ b) = (t + 1) * sz a * sz b
    rw [sz_append a b, Nat.mul_assoc]
theorem sz_pos : ∀ a : List Nat, 1 ≤ sz a
  | [] => by simp [sz]
  | t :: a => Nat.mul_pos (by omega) (sz_pos a)
theorem sz_snoc (a : List Nat) (t : Nat) : sz (a ++ [t]) = sz a * (t + 1) := by rw [sz_append]; simp [sz]
def digR : List Nat → Nat → List Nat
  | [], _ => []
  | t :: ts, k => k % (t + 1) :: digR ts (k / (t + 1))
def st (cs : List Nat) (k : Nat) : List Nat := (digR cs.reverse k).reverse
theorem st_nil (k : Nat) : st [] k = [] := rfl
theorem digR_cons (t : Nat) (ts : List Nat) (k : Nat) : digR (t :: ts) k = k % (t + 1) :: digR ts (k / (t + 1)) := rfl
theorem st_snoc (a : List Nat) (t k : Nat) : st (a ++ [t]) k = st a (k / (t + 1)) ++ [k % (t + 1)] := by
  unfold st
  rw [List.reverse_append, show [t].reverse ++ a.reverse = t :: a.reverse from rfl, digR_cons, List.reverse_cons]
theorem snoc_ind {P : List Nat → Prop} (h0 : P []) (h1 : ∀ a t, P a → P (a ++ [t])) (l : List Nat) : P l := by
  have : ∀ r : List Nat, P r.reverse := fun r => by
    induction r with
    | nil => exact h0
    | cons t r ih => rw [List.reverse_cons]; exact h1 _ _ ih
  have z := this l.reverse
  rwa [List.reverse_reverse] at z
theorem st_len (cs : List Nat) : ∀ k, (st cs k).length = cs.length := by
  induction cs using snoc_ind with
  | h0 => intro k; rfl
  | h1 a t ih => intro k; rw [st_snoc, List.length_append, List.length_append, ih]; rfl
/-- level by level at most -/
def leL : List Nat → List Nat → Prop
  | [], [] => True
  | a :: as, b :: bs => a ≤ b ∧ leL as bs
  | _, _ => False
theorem leL_len : ∀ {a b : List Nat}, leL a b → a.length = b.length
  | [], [], _ => rfl
  | a :: as, b :: bs, h => by rw [List.length_cons, List.length_cons, leL_len h.2]
  | [], _ :: _, h => h.elim
  | _ :: _, [], h => h.elim
theorem leL_append : ∀ {a b c d : List Nat}, leL a b → leL c d → leL (a ++ c) (b ++ d)
  | [], [], _, _, _, h => h
  | a :: as, b :: bs, _, _, h, h2 => ⟨h.1, leL_append h.2 h2⟩
  | [], _ :: _, _, _, h, _ => h.elim
  | _ :: _, [], _, _, h, _ => h.elim
theorem leL_le : ∀ {a b : List Nat} {M : Nat}, leL a b → (∀ t ∈ b, t ≤ M) → ∀ x ∈ a, x ≤ M
  | a :: as, b :: bs, M, h, hM, x, hx => by
    rcases List.mem_cons.mp hx with rfl | hx
    · exact Nat.le_trans h.1 (hM b List.mem_cons_self)
    · exact leL_le h.2 (fun t ht => hM t (List.mem_cons_of_mem _ ht)) x hx
theorem leL_refl : ∀ a : List Nat, leL a a
  | [] => True.intro
  | a :: as => ⟨Nat.le_refl _, leL_refl as⟩
theorem leL_snoc_inv : ∀ {s a : List Nat} {t : Nat}, leL s (a ++ [t]) → ∃ s' l, s = s' ++ [l] ∧ leL s' a ∧ l ≤ t
  | [], [], _, h => h.elim
  | [x], [], t, h => ⟨[], x, rfl, True.intro, h.1⟩
  | _ :: _ :: _, [], _, h => h.2.elim
  | [], _ :: _, _, h => h.elim
  | x :: s, b :: a, t, h => by
    obtain ⟨s', l, e, h1, h2⟩ := leL_snoc_inv (s := s) (a := a) (t := t) h.2
    exact ⟨x :: s', l, by rw [e]; rfl, ⟨h.1, h1⟩, h2⟩
theorem st_le (cs : List Nat) : ∀ k, leL (st cs k) cs := by
  induction cs using snoc_ind with
  | h0 => intro k; exact True.intro
  | h1 a t ih =>
    intro k
    rw [st_snoc]
    exact leL_append (ih _) ⟨by have := Nat.mod_lt k (show 0 < t + 1 by omega); omega, True.intro⟩
/-- the place -/
def valA : Nat → List Nat → List Nat → Nat
  | acc, l :: s, t :: cs => valA (acc * (t + 1) + l) s cs
  | acc, _, _ => acc
theorem valA_snoc : ∀ (s cs : List Nat) (acc l t : Nat), s.length = cs.length → valA acc (s ++ [l]) (cs ++ [t]) = valA acc s cs * (t + 1) + l
  | [], [], acc, l, t, _ => rfl
  | a :: s, b :: cs, acc, l, t, h => valA_snoc s cs _ l t (by simpa using h)
  | [], _ :: _, _, _, _, h => by simp at h
  | _ :: _, [], _, _, _, h => by simp at h
theorem val_st (cs : List Nat) : ∀ k, k < sz cs → valA 0 (st cs k) cs = k := by
  induction cs using snoc_ind with
  | h0 => intro k h; have : k < 1 := h; show 0 = k; omega
  | h1 a t ih =>
    intro k h
    rw [sz_snoc] at h
    rw [st_snoc, valA_snoc _ _ _ _ _ (st_len a _), ih _ ((Nat.div_lt_iff_lt_mul (by omega)).mpr h)]
    have := Nat.div_add_mod k (t + 1)
    rw [Nat.mul_comm] at this
    exact this
theorem st_val (cs : List Nat) : ∀ s, leL s cs → valA 0 s cs < sz cs ∧ st cs (valA 0 s cs) = s := by
  induction cs using snoc_ind with
  | h0 =>
    intro s h
    cases s with
    | nil => exact ⟨by decide, rfl⟩
    | cons => exact h.elim
  | h1 a t ih =>
    intro s h
    obtain ⟨s', l, rfl, h1, h2⟩ := leL_snoc_inv h
    obtain ⟨i1, i2⟩ := ih s' h1
    rw [valA_snoc _ _ _ _ _ (leL_len h1), sz_snoc, st_snoc]
    have e1 : (valA 0 s' a * (t + 1) + l) / (t + 1) = valA 0 s' a := by
      rw [Nat.add_comm, Nat.mul_comm, Nat.add_mul_div_left _ _ (by omega), Nat.div_eq_of_lt (by omega), Nat.zero_add]
    have e2 : (valA 0 s' a * (t + 1) + l) % (t + 1) = l := by
      rw [Nat.add_comm, Nat.mul_comm, Nat.add_mul_mod_self_left, Nat.mod_eq_of_lt (by omega)]
    rw [e1, e2, i2]
    refine ⟨?_, rfl⟩
    have h3 : (valA 0 s' a + 1) * (t + 1) ≤ sz a * (t + 1) := Nat.mul_le_mul_right _ i1
    rw [Nat.succ_mul] at h3
    omega
/-- all states, in order -/
def rowsOf (cs : List Nat) : List (List Nat) := (List.range (sz cs)).map (st cs)
def step (rows : List (List Nat)) (m : Nat) : List (List Nat) := rows.flatMap fun r => (List.range m).map fun k => r ++ [k]
theorem range_mul {α : Type} (g : Nat → Nat → α) (m : Nat) (hm : 0 < m) : ∀ n, (List.range (n * m)).map (fun k => g (k / m) (k % m)) = (List.range n).flatMap fun i => (List.range m).map fun j => g i j
  | 0 => by simp
  | n + 1 => by
    rw [Nat.succ_mul, List.range_add, List.map_append, range_mul g m hm n, List.range_succ, List.flatMap_append]
    congr 1
    simp only [List.map_map, List.flatMap_cons, List.flatMap_nil, List.append_nil]
    refine List.map_congr_left fun j hj => ?_
    have hj := List.mem_range.mp hj
    show g ((n * m + j) / m) ((n * m + j) % m) = g n j
    have e1 : (n * m + j) / m = n := by
      rw [Nat.add_comm, Nat.mul_comm, Nat.add_mul_div_left _ _ hm, Nat.div_eq_of_lt hj, Nat.zero_add]
    have e2 : (n * m + j) % m = j := by
      rw [Nat.add_comm, Nat.mul_comm, Nat.add_mul_mod_self_left, Nat.mod_eq_of_lt hj]
    rw [e1, e2]
theorem rows_snoc (a : List Nat) (t : Nat) : rowsOf (a ++ [t]) = step (rowsOf a) (t + 1) := by
  unfold rowsOf step
  rw [sz_snoc, List.flatMap_map]
  rw [← range_mul (fun i j => st a i ++ [j]) (t + 1) (by omega)]
  exact List.map_congr_left fun k _ => st_snoc a t k
theorem rows_nil : rowsOf [] = [[]] := rfl
theorem rows_len (cs : List Nat) : (rowsOf cs).length = sz cs := by simp [rowsOf]
theorem rows_at {cs : List Nat} {k : Nat} (h : k < sz cs) : (rowsOf cs)[k]? = some (st cs k) := by
  unfold rowsOf
  rw [List.getElem?_map, List.getElem?_range h]
  rfl
theorem rows_mem {cs s : List Nat} (h : s ∈ rowsOf cs) : leL s cs := by
  obtain ⟨k, _, rfl⟩ := List.mem_map.mp h
  exact st_le cs k
theorem mem_rows {cs s : List Nat} (h : leL s cs) : s ∈ rowsOf cs := by
  obtain ⟨h1, h2⟩ := st_val cs s h
  exact List.mem_map.mpr ⟨_, List.mem_range.mpr h1, h2⟩
theorem step_append (a b : List (List Nat)) (m : Nat) : step (a ++ b) m = step a m ++ step b m := by simp [step]
theorem step_len (rows : List (List Nat)) (m : Nat) : (step rows m).length = rows.length * m := by
  induction rows with
  | nil => simp [step]
  | cons r rs ih =>
    have e : step (r :: rs) m = ((List.range m).map fun k => r ++ [k]) ++ step rs m := by simp [step]
    rw [e, List.length_append, ih, List.length_map, List.length_range, List.length_cons, Nat.succ_mul, Nat.add_comm]
theorem st_zero (b : List Nat) : ∀ (a : List Nat) (q : Nat), st (a ++ b) (q * sz b) = st a q ++ List.replicate b.length 0 := by
  induction b using snoc_ind with
  | h0 => intro a q; simp [sz]
  | h1 b t ih =>
    intro a q
    rw [← List.append_assoc, st_snoc, sz_snoc, ← Nat.mul_assoc, Nat.mul_div_cancel _ (by omega), Nat.mul_mod_left, ih, List.length_append, List.length_singleton, List.replicate_succ', List.append_assoc]
end Cards

namespace Lk
open PySem PySem.Spec PyProof.Rows L2 Cl Cards
def iN (xs : List Nat) : List PyData := xs.map fun n => .int (n : Nat)
abbrev tN (xs : List Nat) : PyData := .tuple (iN xs)
theorem iN_len (xs : List Nat) : (iN xs).length = xs.length := by simp [iN]
theorem iN_append (a b : List Nat) : iN (a ++ b) = iN a ++ iN b := List.map_append
theorem iN_cons (a : Nat) (b : List Nat) : iN (a :: b) = .int (a : Nat) :: iN b := rfl
theorem iN_nil : iN [] = [] := rfl
/-- a card that the law takes -/
structure Crd (cs : List Nat) : Prop where
  top : ∀ t ∈ cs, t ≤ 7
  len : cs.length ≤ 6
  one : 1 ≤ cs.length
  sz : sz cs ≤ 512
def isInt : PyData → Bool
  | .int _ => true
  | _ => false
theorem is_integer_spec (d : PyData) {Q : SV → Prop} (h : Q (.dat (.bool (isInt d)))) : C_is_integer [.dat d] Q := by
  refine ⟨rfl, ?_⟩
  show T_is_integer _ [some (.dat d)]
  dsimp only [T_is_integer, t_lenScr, t_raise1, t_callX, t_callKX, t_xf, t_isx, runX, t_seq, t_if, t_or, t_and, t_not, t_tst, t_v, t_f, t_l, t_c, t_c1, t_op, t_chain', t_ret, t_asg, t_for, t_wenum, t_wlist, t_wtup, t_wstr, t_wrng1, t_wrng2, t_drop, g_setix, t_wzip, t_lname, t_name, t_next, t_ifx, t_isi, t_notV, t_andV, t_orV, t_call, t_callK, t_acons, t_aconsR, t_anil, t_tupd, t_lstd, g_name, g_tup, g_cons, g_nil, t_drop, t_lc, t_yes, t_star1, t_retn, t_par, t_slice, t_some, t_no, t_dict0, t_dict1, t_rev, t_neg, t_extend, t_append, t_sliceScr, t_retbox, t_xcons, LV.get, CS.at_, SV.view, datsOf, Option.map_some, List.getElem?_cons_zero, List.getElem?_cons_succ, List.set_cons_zero, List.set_cons_succ, settled, initC, List.map_cons, List.map_nil, List.length_cons, List.length_nil, List.cons_append, List.nil_append, seqOf, runD]
  refine ⟨⟨_, rfl⟩, ?_⟩
  cases d <;> first | exact h | exact ⟨⟨_, rfl⟩, h⟩
/-- one level -/
def okI (d : PyData) (t : Nat) : Bool := match d with
  | .int m => decide (0 ≤ m) && decide (m ≤ (t : Int))
  | _ => false
def okL : List PyData → List Nat → Bool
  | d :: ds, t :: ts => okI d t && okL ds ts
  | _, _ => true
def isSt (cs : List Nat) : PyData → Bool
  | .tuple ds => decide (ds.length = cs.length) && okL ds cs
  | _ => false
theorem okL_true : ∀ {ds : List PyData} {cs : List Nat}, ds.length = cs.length → okL ds cs = true → ∃ s, ds = iN s ∧ leL s cs
  | [], [], _, _ => ⟨[], rfl, True.intro⟩
  | d :: ds, t :: cs, hl, h => by
    have h : (okI d t && okL ds cs) = true := h
    rw [Bool.and_eq_true] at h
    obtain ⟨s, rfl, hs⟩ := okL_true (by simpa using hl) h.2
    have h1 := h.1
    cases d with
    | int m =>
      have h1 : (decide (0 ≤ m) && decide (m ≤ (t : Int))) = true := h1
      rw [Bool.and_eq_true, decide_eq_true_eq, decide_eq_true_eq] at h1
      refine ⟨m.toNat :: s, ?_, by omega, hs⟩
      rw [iN_cons]
      congr 2
      omega
    | _ => cases h1
  | [], _ :: _, hl, _ => by simp at hl
  | _ :: _, [], hl, _ => by simp at hl
theorem isSt_true {cs : List Nat} {d : PyData} (h : isSt cs d = true) : ∃ s, d = tN s ∧ leL s cs := by
  cases d with
  | tuple ds =>
    have h : (decide (ds.length = cs.length) && okL ds cs) = true := h
    rw [Bool.and_eq_true, decide_eq_true_eq] at h
    obtain ⟨s, rfl, hs⟩ := okL_true h.1 h.2
    exact ⟨s, rfl, hs⟩
  | _ => cases h
theorem okL_iN : ∀ {s cs : List Nat}, leL s cs → okL (iN s) cs = true
  | [], [], _ => rfl
  | a :: s, t :: cs, h => by
    show (okI (.int (a : Nat)) t && okL (iN s) cs) = true
    rw [okL_iN h.2, Bool.and_true]
    show (decide ((0 : Int) ≤ (a : Nat)) && decide (((a : Nat) : Int) ≤ (t : Int))) = true
    have := h.1
    rw [decide_eq_true (by omega), decide_eq_true (by omega)]
    rfl
  | [], _ :: _, h => h.elim
  | _ :: _, [], h => h.elim
theorem isSt_tN {s cs : List Nat} (h : leL s cs) : isSt cs (tN s) = true := by
  show (decide ((iN s).length = cs.length) && okL (iN s) cs) = true
  rw [okL_iN h, iN_len, leL_len h]
  simp
theorem boolsD_map : ∀ bs : List Bool, boolsD (bs.map .bool) = some bs
  | [] => rfl
  | b :: bs => by show (boolsD (bs.map .bool)).map _ = _; rw [boolsD_map bs]; rfl
theorem intsD_map : ∀ bs : List Int, intsD (bs.map .int) = some bs
  | [] => rfl
  | b :: bs => by show (intsD (bs.map .int)).map _ = _; rw [intsD_map bs]; rfl
theorem intsD_iN : ∀ bs : List Nat, intsD (iN bs) = some (bs.map fun n => ((n : Nat) : Int))
  | [] => rfl
  | b :: bs => by show (intsD (iN bs)).map _ = _; rw [intsD_iN bs]; rfl
theorem is_state_spec {cs : List Nat} (hc : Crd cs) (d : PyData) {Q : SV → Prop} (h : Q (.dat (.bool (isSt cs d)))) : C_is_state [.dat (tN cs), .dat d] Q := by
  refine ⟨rfl, ?_⟩
  have hc6 := hc.len
  show T_is_state _ [some (.dat (tN cs)), some (.dat d), none, none]
  dsimp only [T_is_state, t_lenScr, t_raise1, t_callX, t_callKX, t_xf, t_isx, runX, t_seq, t_if, t_or, t_and, t_not, t_tst, t_v, t_f, t_l, t_c, t_c1, t_op, t_chain', t_ret, t_asg, t_for, t_wenum, t_wlist, t_wtup, t_wstr, t_wrng1, t_wrng2, t_drop, g_setix, t_wzip, t_lname, t_name, t_next, t_ifx, t_isi, t_notV, t_andV, t_orV, t_call, t_callK, t_acons, t_aconsR, t_anil, t_tupd, t_lstd, g_name, g_tup, g_cons, g_nil, t_drop, t_lc, t_yes, t_star1, t_retn, t_par, t_slice, t_some, t_no, t_dict0, t_dict1, t_rev, t_neg, t_extend, t_append, t_sliceScr, t_retbox, t_xcons, LV.get, CS.at_, SV.view, datsOf, Option.map_some, List.getElem?_cons_zero, List.getElem?_cons_succ, List.set_cons_zero, List.set_cons_succ, settled, initC, List.map_cons, List.map_nil, List.length_cons, List.length_nil, List.cons_append, List.nil_append, seqOf, runD, ltY, gtY, inX, notinX, ordX, boolX, addX, subX, mulX, mulY, modX, fdivX, powX, ltX, leX, gtX, geX, eqY, neY, isX, isnX, ixX, lenX, listX, tupleX, intX, strX, shX, sumX, sumY, maxX, minX, allX, absX, slX]
  refine ⟨⟨_, rfl⟩, ?_⟩
  cases d with
  | tuple ds =>
    refine iteF ⟨⟨_, rfl⟩, ⟨_, rfl⟩, ?_⟩
    rw [iN_len]
    have h : Q (.dat (.bool (decide (ds.length = cs.length) && okL ds cs))) := h
    by_cases hl : ds.length = cs.length
    · rw [decide_eq_true (show ((ds.length : Nat) : Int) = (cs.length : Nat) by omega)]
      rw [decide_eq_true hl, Bool.true_and] at h
      refine iteF ?_
      refine lcD_ind (I := fun rows acc css => css = [some (.dat (tN cs)), some (.dat (.tuple ds)), none, none] ∧ ∃ (us : List PyData) (ts : List Nat) (bs : List Bool), rows = rowsD (zipRs us (iN ts)) ∧ acc = bs.map .bool ∧ us.length = ts.length ∧ (bs.all id && okL us ts) = okL ds cs ∧ bs.length + us.length ≤ 100) ?_ ?_ _ _ _ ⟨rfl, ds, cs, [], rfl, rfl, hl, by simp, by simp; omega⟩
      · rintro acc css ⟨rfl, us, ts, bs, e, rfl, hul, ho, hz⟩
        show match boolsD (bs.map .bool) with | some bs => _ | none => False
        rw [boolsD_map]
        cases us with
        | nil =>
          cases ts with
          | nil =>
            have ho : (bs.all id && true) = okL ds cs := ho
            rw [Bool.and_true] at ho
            dsimp only
            rw [ho]; exact h
          | cons => simp at hul
        | cons u us =>
          cases ts with
          | nil => simp at hul
          | cons => cases e
      · rintro r rows acc css N hN ⟨rfl, us, ts, bs, e, rfl, hul, ho, hz⟩
        cases us with
        | nil => cases e
        | cons u us =>
          cases ts with
          | nil => cases e
          | cons t ts =>
            cases e
            have go : ∀ b : Bool, okI u t = b → N (bs.map .bool ++ [.bool b]) [some (.dat (tN cs)), some (.dat (.tuple ds)), none, none] := fun b hb => by
              refine hN _ _ ⟨rfl, us, ts, bs ++ [b], rfl, by simp, by simpa using hul, ?_, ?_⟩
              · rw [← ho]
                show ((bs ++ [b]).all id && okL us ts) = (bs.all id && (okI u t && okL us ts))
                rw [hb, List.all_append]
                simp [Bool.and_assoc]
              · rw [List.length_append, List.length_singleton]; rw [List.length_cons] at hz; omega
            have hz1 : (bs.map PyData.bool).length < sizeLine := by rw [List.length_map, sizeLine_eq]; rw [List.length_cons] at hz; omega
            dsimp only [t_lenScr, t_raise1, t_callX, t_callKX, t_xf, t_isx, runX, t_seq, t_if, t_or, t_and, t_not, t_tst, t_v, t_f, t_l, t_c, t_c1, t_op, t_chain', t_ret, t_asg, t_for, t_wenum, t_wlist, t_wtup, t_wstr, t_wrng1, t_wrng2, t_drop, g_setix, t_wzip, t_lname, t_name, t_next, t_ifx, t_isi, t_notV, t_andV, t_orV, t_call, t_callK, t_acons, t_aconsR, t_anil, t_tupd, t_lstd, g_name, g_tup, g_cons, g_nil, t_drop, t_lc, t_yes, t_star1, t_retn, t_par, t_slice, t_some, t_no, t_dict0, t_dict1, t_rev, t_neg, t_extend, t_append, t_sliceScr, t_retbox, t_xcons, LV.get, CS.at_, SV.view, datsOf, Option.map_some, List.getElem?_cons_zero, List.getElem?_cons_succ, List.set_cons_zero, List.set_cons_succ, settled, initC, List.map_cons, List.map_nil, List.length_cons, List.length_nil, List.cons_append, List.nil_append, seqOf, runD, ltY, gtY, inX, notinX, ordX, boolX, addX, subX, mulX, mulY, modX, fdivX, powX, ltX, leX, gtX, geX, eqY, neY, isX, isnX, ixX, lenX, listX, tupleX, intX, strX, shX, sumX, sumY, maxX, minX, allX, absX, slX]
            refine ⟨rfl, by show 2 < 4; decide, by show 3 < 4; decide, rfl, ?_⟩
            refine iteT ?_
            refine is_integer_spec u ?_
            dsimp only
            cases u with
            | int m =>
              refine ⟨⟨_, rfl⟩, _, _, rfl, rfl, ?_⟩
              by_cases h0 : 0 ≤ m
              · refine .inr ⟨by rw [decide_eq_true h0], ⟨_, rfl⟩, _, _, rfl, rfl, ⟨_, rfl⟩, hz1, go _ ?_⟩
                show (decide (0 ≤ m) && decide (m ≤ (t : Int))) = decide (m ≤ ((t : Nat) : Int))
                rw [decide_eq_true h0, Bool.true_and]
              · refine .inl ⟨by rw [decide_eq_false h0], hz1, go _ ?_⟩
                show (decide (0 ≤ m) && decide (m ≤ (t : Int))) = false
                rw [decide_eq_false h0, Bool.false_and]
            | _ => exact ⟨hz1, go false rfl⟩
    · rw [decide_eq_false (show ¬ ((ds.length : Nat) : Int) = (cs.length : Nat) by omega)]
      rw [decide_eq_false hl, Bool.false_and] at h
      exact iteT h
  | _ => exact iteT h
theorem lis_state_spec {cs : List Nat} (hc : Crd cs) (d : PyData) {Q : SV → Prop} (h : Q (.dat (.bool (isSt cs d)))) : C__law_is_state [.dat (tN cs), .dat d] Q := by
  refine ⟨rfl, ?_⟩
  show T__law_is_state _ [some (.dat (tN cs)), some (.dat d), none, none]
  dsimp only [T__law_is_state, t_lenScr, t_raise1, t_callX, t_callKX, t_xf, t_isx, runX, t_seq, t_if, t_or, t_and, t_not, t_tst, t_v, t_f, t_l, t_c, t_c1, t_op, t_chain', t_ret, t_asg, t_for, t_wenum, t_wlist, t_wtup, t_wstr, t_wrng1, t_wrng2, t_drop, g_setix, t_wzip, t_lname, t_name, t_next, t_ifx, t_isi, t_notV, t_andV, t_orV, t_call, t_callK, t_acons, t_aconsR, t_anil, t_tupd, t_lstd, g_name, g_tup, g_cons, g_nil, t_drop, t_lc, t_yes, t_star1, t_retn, t_par, t_slice, t_some, t_no, t_dict0, t_dict1, t_rev, t_neg, t_extend, t_append, t_sliceScr, t_retbox, t_xcons, LV.get, CS.at_, SV.view, datsOf, Option.map_some, List.getElem?_cons_zero, List.getElem?_cons_succ, List.set_cons_zero, List.set_cons_succ, settled, initC, List.map_cons, List.map_nil, List.length_cons, List.length_nil, List.cons_append, List.nil_append, seqOf, runD, ltY, gtY, inX, notinX, ordX, boolX, addX, subX, mulX, mulY, modX, fdivX, powX, ltX, leX, gtX, geX, eqY, neY, isX, isnX, ixX, lenX, listX, tupleX, intX, strX, shX, sumX, sumY, maxX, minX, allX, absX, slX]
  refine ⟨⟨_, rfl⟩, ?_⟩
  cases d with
  | tuple ds =>
    refine iteF ⟨⟨_, rfl⟩, ⟨_, rfl⟩, ?_⟩
    rw [iN_len]
    have h : Q (.dat (.bool (decide (ds.length = cs.length) && okL ds cs))) := h
    by_cases hl : ds.length = cs.length
    · rw [decide_eq_true (show ((ds.length : Nat) : Int) = (cs.length : Nat) by omega)]
      rw [decide_eq_true hl, Bool.true_and] at h
      refine iteF ?_
      refine forD_ind (I := fun rows css => ∃ (x y : Option SV) (us : List PyData) (ts : List Nat), css = [some (.dat (tN cs)), some (.dat (.tuple ds)), x, y] ∧ rows = rowsD (zipRs (iN ts) us) ∧ us.length = ts.length ∧ Q (.dat (.bool (okL us ts)))) ?_ ?_ _ _ ⟨none, none, ds, cs, rfl, rfl, hl, h⟩
      · rintro css ⟨x, y, us, ts, rfl, e, hul, h⟩
        cases us with
        | nil =>
          cases ts with
          | nil => exact h
          | cons => simp at hul
        | cons u us =>
          cases ts with
          | nil => simp at hul
          | cons => cases e
      · rintro r rows css N hN ⟨x, y, us, ts, rfl, e, hul, h⟩
        cases us with
        | nil => cases ts <;> cases e
        | cons u us =>
          cases ts with
          | nil => cases e
          | cons t ts =>
            cases e
            have h : Q (.dat (.bool (okI u t && okL us ts))) := h
            have go : okI u t = true → N [some (.dat (tN cs)), some (.dat (.tuple ds)), some (.dat (.int (t : Nat))), some (.dat u)] := fun hb => by
              rw [hb, Bool.true_and] at h
              exact hN _ ⟨_, _, us, ts, rfl, rfl, by simpa using hul, h⟩
            have no : okI u t = false → Q (.dat (.bool false)) := fun hb => by rw [hb, Bool.false_and] at h; exact h
            dsimp only [t_lenScr, t_raise1, t_callX, t_callKX, t_xf, t_isx, runX, t_seq, t_if, t_or, t_and, t_not, t_tst, t_v, t_f, t_l, t_c, t_c1, t_op, t_chain', t_ret, t_asg, t_for, t_wenum, t_wlist, t_wtup, t_wstr, t_wrng1, t_wrng2, t_drop, g_setix, t_wzip, t_lname, t_name, t_next, t_ifx, t_isi, t_notV, t_andV, t_orV, t_call, t_callK, t_acons, t_aconsR, t_anil, t_tupd, t_lstd, g_name, g_tup, g_cons, g_nil, t_drop, t_lc, t_yes, t_star1, t_retn, t_par, t_slice, t_some, t_no, t_dict0, t_dict1, t_rev, t_neg, t_extend, t_append, t_sliceScr, t_retbox, t_xcons, LV.get, CS.at_, SV.view, datsOf, Option.map_some, List.getElem?_cons_zero, List.getElem?_cons_succ, List.set_cons_zero, List.set_cons_succ, settled, initC, List.map_cons, List.map_nil, List.length_cons, List.length_nil, List.cons_append, List.nil_append, seqOf, runD, ltY, gtY, inX, notinX, ordX, boolX, addX, subX, mulX, mulY, modX, fdivX, powX, ltX, leX, gtX, geX, eqY, neY, isX, isnX, ixX, lenX, listX, tupleX, intX, strX, shX, sumX, sumY, maxX, minX, allX, absX, slX]
            refine ⟨rfl, by show 2 < 4; decide, by show 3 < 4; decide, rfl, ⟨_, rfl⟩, ?_⟩
            cases u with
            | int m =>
              refine iteF ⟨⟨_, rfl⟩, iteF ⟨⟨_, rfl⟩, ?_⟩⟩
              dsimp only
              have ho : okI (.int m) t = (decide (0 ≤ m) && decide (m ≤ (t : Int))) := rfl
              by_cases h0 : m < 0
              · rw [decide_eq_true h0]
                exact iteT (iteT (no (by rw [ho, decide_eq_false (show ¬ 0 ≤ m by omega)]; rfl)))
              · rw [decide_eq_false h0]
                refine iteF ⟨⟨_, rfl⟩, ⟨_, rfl⟩, ?_⟩
                by_cases h1 : ((t : Nat) : Int) < m
                · rw [decide_eq_true h1]
                  exact iteT (no (by rw [ho, decide_eq_false (show ¬ m ≤ (t : Int) by omega), Bool.and_false]))
                · rw [decide_eq_false h1]
                  exact iteF (go (by rw [ho, decide_eq_true (show 0 ≤ m by omega), decide_eq_true (show m ≤ (t : Int) by omega)]; rfl))
            | bool b => exact iteT (iteT (no rfl))
            | _ => exact iteF ⟨⟨_, rfl⟩, iteT (iteT (no rfl))⟩
    · rw [decide_eq_false (show ¬ ((ds.length : Nat) : Int) = (cs.length : Nat) by omega)]
      rw [decide_eq_false hl, Bool.false_and] at h
      exact iteT h
  | _ => exact iteT h
end Lk

namespace Lk
open PySem PySem.Spec PyProof.Rows L2 Cl Cards
theorem atI_mid {x z : List PyData} {y : PyData} {p : Int} (h : p = (x.length : Nat)) : atI (x ++ y :: z) p = some y := by
  subst h
  unfold atI ixN
  rw [if_pos (by omega), if_pos (by simp; omega)]
  simp
theorem ixN_mid {n : Nat} {p : Int} (h0 : 0 ≤ p) (h1 : p < n) : ixN n p = some p.toNat := by
  unfold ixN
  rw [if_pos h0, if_pos h1]
theorem set_mid {x z : List PyData} {y d : PyData} {p : Int} (h : p = (x.length : Nat)) : (x ++ y :: z).set p.toNat d = x ++ d :: z := by
  subst h
  simp
theorem snoc_or (a : List Nat) : a = [] ∨ ∃ b t, a = b ++ [t] := by
  induction a using snoc_ind with
  | h0 => exact .inl rfl
  | h1 a t _ => exact .inr ⟨a, t, rfl⟩
def rT (cs : List Nat) (n : Nat) : List PyData := (List.range n).map fun k => tN (st cs k)
theorem rT_len (cs : List Nat) (n : Nat) : (rT cs n).length = n := by simp [rT]
theorem rT_succ (cs : List Nat) (n : Nat) : rT cs (n + 1) = rT cs n ++ [tN (st cs n)] := by simp [rT, List.range_succ]
def tR (cs : List Nat) : List PyData := rT cs (sz cs)
theorem tR_eq (cs : List Nat) : tR cs = (rowsOf cs).map tN := by simp [tR, rT, rowsOf]
theorem zeros_map : ∀ cs : List Nat, (iN cs).map (fun _ => PyData.int 0) = iN (List.replicate cs.length 0)
  | [] => rfl
  | c :: cs => by
    show PyData.int 0 :: (iN cs).map (fun _ => PyData.int 0) = iN (List.replicate (cs.length + 1) 0)
    rw [zeros_map cs]
    rfl
/-- where the counting stands -/
def cntS (cs a b : List Nat) (q k : Nat) : CS := [some (.dat (tN cs)), some (.own (iN (st a q ++ List.replicate b.length 0))), some (.own (rT cs (k + 1))), none, some (.dat (.int ((a.length : Nat) - 1 : Int)))]
theorem all_spec {cs : List Nat} (hc : Crd cs) {Q : SV → Prop} (h : Q (.own (tR cs))) : C__law_all [.dat (tN cs)] Q := by
  have hc6 := hc.len
  have hsz := hc.sz
  have hpos := sz_pos cs
  refine ⟨rfl, ?_⟩
  show T__law_all _ [some (.dat (tN cs)), none, none, none, none]
  refine seq_step (fun c => c = [some (.dat (tN cs)), some (.own (iN (List.replicate cs.length 0))), some (.own []), none, none]) (fun N hN => ?_) ?_
  · dsimp only [t_lenScr, t_raise1, t_callX, t_callKX, t_xf, t_isx, runX, t_seq, t_if, t_or, t_and, t_not, t_tst, t_v, t_f, t_l, t_c, t_c1, t_op, t_chain', t_ret, t_asg, t_for, t_wenum, t_wlist, t_wtup, t_wstr, t_wrng1, t_wrng2, t_drop, g_setix, t_wzip, t_lname, t_name, t_next, t_ifx, t_isi, t_notV, t_andV, t_orV, t_call, t_callK, t_acons, t_aconsR, t_anil, t_tupd, t_lstd, g_name, g_tup, g_cons, g_nil, t_drop, t_lc, t_yes, t_star1, t_retn, t_par, t_slice, t_some, t_no, t_dict0, t_dict1, t_rev, t_neg, t_extend, t_append, t_sliceScr, t_retbox, t_xcons, LV.get, CS.at_, SV.view, datsOf, Option.map_some, List.getElem?_cons_zero, List.getElem?_cons_succ, List.set_cons_zero, List.set_cons_succ, settled, initC, List.map_cons, List.map_nil, List.length_cons, List.length_nil, List.cons_append, List.nil_append, seqOf, runD, ltY, gtY, inX, notinX, ordX, boolX, addX, subX, mulX, mulY, modX, fdivX, powX, ltX, leX, gtX, geX, eqY, neY, isX, isnX, ixX, lenX, listX, tupleX, intX, strX, shX, sumX, sumY, maxX, minX, allX, absX, slX]
    refine lcD_map (fun _ => .int 0) _ _ (by rw [iN_len, sizeLine_eq]; omega) (fun d hd K N hK => ?_) ?_
    · dsimp only [t_lenScr, t_raise1, t_callX, t_callKX, t_xf, t_isx, runX, t_seq, t_if, t_or, t_and, t_not, t_tst, t_v, t_f, t_l, t_c, t_c1, t_op, t_chain', t_ret, t_asg, t_for, t_wenum, t_wlist, t_wtup, t_wstr, t_wrng1, t_wrng2, t_drop, g_setix, t_wzip, t_lname, t_name, t_next, t_ifx, t_isi, t_notV, t_andV, t_orV, t_call, t_callK, t_acons, t_aconsR, t_anil, t_tupd, t_lstd, g_name, g_tup, g_cons, g_nil, t_drop, t_lc, t_yes, t_star1, t_retn, t_par, t_slice, t_some, t_no, t_dict0, t_dict1, t_rev, t_neg, t_extend, t_append, t_sliceScr, t_retbox, t_xcons, LV.get, CS.at_, SV.view, datsOf, Option.map_some, List.getElem?_cons_zero, List.getElem?_cons_succ, List.set_cons_zero, List.set_cons_succ, settled, initC, List.map_cons, List.map_nil, List.length_cons, List.length_nil, List.cons_append, List.nil_append, seqOf, runD, ltY, gtY, inX, notinX, ordX, boolX, addX, subX, mulX, mulY, modX, fdivX, powX, ltX, leX, gtX, geX, eqY, neY, isX, isnX, ixX, lenX, listX, tupleX, intX, strX, shX, sumX, sumY, maxX, minX, allX, absX, slX]
      exact ⟨by show 3 < 5; decide, iteT hK⟩
    · refine ⟨by decide, by show 1 < 5; decide, by show 2 < 5; decide, hN _ ?_⟩
      have e : (iN cs).map (fun _ => PyData.int 0) = iN (List.replicate cs.length 0) := zeros_map cs
      rw [e]
      rfl
  rintro c rfl
  refine seq_step (fun c => c = [some (.dat (tN cs)), some (.own (iN (List.replicate cs.length 0))), some (.own (rT cs 1)), none, none]) (fun N hN => ?_) ?_
  · dsimp only [t_lenScr, t_raise1, t_callX, t_callKX, t_xf, t_isx, runX, t_seq, t_if, t_or, t_and, t_not, t_tst, t_v, t_f, t_l, t_c, t_c1, t_op, t_chain', t_ret, t_asg, t_for, t_wenum, t_wlist, t_wtup, t_wstr, t_wrng1, t_wrng2, t_drop, g_setix, t_wzip, t_lname, t_name, t_next, t_ifx, t_isi, t_notV, t_andV, t_orV, t_call, t_callK, t_acons, t_aconsR, t_anil, t_tupd, t_lstd, g_name, g_tup, g_cons, g_nil, t_drop, t_lc, t_yes, t_star1, t_retn, t_par, t_slice, t_some, t_no, t_dict0, t_dict1, t_rev, t_neg, t_extend, t_append, t_sliceScr, t_retbox, t_xcons, LV.get, CS.at_, SV.view, datsOf, Option.map_some, List.getElem?_cons_zero, List.getElem?_cons_succ, List.set_cons_zero, List.set_cons_succ, settled, initC, List.map_cons, List.map_nil, List.length_cons, List.length_nil, List.cons_append, List.nil_append, seqOf, runD, ltY, gtY, inX, notinX, ordX, boolX, addX, subX, mulX, mulY, modX, fdivX, powX, ltX, leX, gtX, geX, eqY, neY, isX, isnX, ixX, lenX, listX, tupleX, intX, strX, shX, sumX, sumY, maxX, minX, allX, absX, slX]
    refine ⟨⟨_, rfl⟩, ⟨_, rfl⟩, by rw [sizeLine_eq]; decide, hN _ ?_⟩
    have e := st_zero cs [] 0
    rw [List.nil_append, Nat.zero_mul, st_nil, List.nil_append] at e
    show _ = ([some (.dat (tN cs)), some (.own (iN (List.replicate cs.length 0))), some (.own [tN (st cs 0)]), none, none] : CS)
    rw [e]
  rintro c rfl
  refine seq_step (fun c => c = cntS cs cs [] 0 0) (fun N hN => ?_) ?_
  · dsimp only [t_lenScr, t_raise1, t_callX, t_callKX, t_xf, t_isx, runX, t_seq, t_if, t_or, t_and, t_not, t_tst, t_v, t_f, t_l, t_c, t_c1, t_op, t_chain', t_ret, t_asg, t_for, t_wenum, t_wlist, t_wtup, t_wstr, t_wrng1, t_wrng2, t_drop, g_setix, t_wzip, t_lname, t_name, t_next, t_ifx, t_isi, t_notV, t_andV, t_orV, t_call, t_callK, t_acons, t_aconsR, t_anil, t_tupd, t_lstd, g_name, g_tup, g_cons, g_nil, t_drop, t_lc, t_yes, t_star1, t_retn, t_par, t_slice, t_some, t_no, t_dict0, t_dict1, t_rev, t_neg, t_extend, t_append, t_sliceScr, t_retbox, t_xcons, LV.get, CS.at_, SV.view, datsOf, Option.map_some, List.getElem?_cons_zero, List.getElem?_cons_succ, List.set_cons_zero, List.set_cons_succ, settled, initC, List.map_cons, List.map_nil, List.length_cons, List.length_nil, List.cons_append, List.nil_append, seqOf, runD, ltY, gtY, inX, notinX, ordX, boolX, addX, subX, mulX, mulY, modX, fdivX, powX, ltX, leX, gtX, geX, eqY, neY, isX, isnX, ixX, lenX, listX, tupleX, intX, strX, shX, sumX, sumY, maxX, minX, allX, absX, slX]
    refine ⟨⟨_, rfl⟩, by show 4 < 5; decide, hN _ ?_⟩
    have e := st_zero cs [] 0
    rw [List.nil_append, Nat.zero_mul, st_nil, List.nil_append] at e
    unfold cntS
    rw [e, iN_len]
    simp
  rintro c rfl
  refine seq_step (fun c => ∃ x, c = [some (.dat (tN cs)), x, some (.own (tR cs)), none, some (.dat (.int (-1)))]) (fun N hN => ?_) ?_
  · refine ⟨fun m c => ∃ a b q k, cs = a ++ b ∧ (q + 1) * sz b = k + 1 ∧ k < sz cs ∧ c = cntS cs a b q k ∧ m = (sz cs - k) * (cs.length + 2) + a.length, ⟨_, cs, [], 0, 0, by simp, by simp [sz], by omega, rfl, rfl⟩, ?_⟩
    rintro m c ⟨a, b, q, k, e, hq, hk, rfl, hm⟩
    have hab : a.length + b.length = cs.length := by rw [e, List.length_append]
    dsimp only [cntS, t_lenScr, t_raise1, t_callX, t_callKX, t_xf, t_isx, runX, t_seq, t_if, t_or, t_and, t_not, t_tst, t_v, t_f, t_l, t_c, t_c1, t_op, t_chain', t_ret, t_asg, t_for, t_wenum, t_wlist, t_wtup, t_wstr, t_wrng1, t_wrng2, t_drop, g_setix, t_wzip, t_lname, t_name, t_next, t_ifx, t_isi, t_notV, t_andV, t_orV, t_call, t_callK, t_acons, t_aconsR, t_anil, t_tupd, t_lstd, g_name, g_tup, g_cons, g_nil, t_drop, t_lc, t_yes, t_star1, t_retn, t_par, t_slice, t_some, t_no, t_dict0, t_dict1, t_rev, t_neg, t_extend, t_append, t_sliceScr, t_retbox, t_xcons, LV.get, CS.at_, SV.view, datsOf, Option.map_some, List.getElem?_cons_zero, List.getElem?_cons_succ, List.set_cons_zero, List.set_cons_succ, settled, initC, List.map_cons, List.map_nil, List.length_cons, List.length_nil, List.cons_append, List.nil_append, seqOf, runD, ltY, gtY, inX, notinX, ordX, boolX, addX, subX, mulX, mulY, modX, fdivX, powX, ltX, leX, gtX, geX, eqY, neY, isX, isnX, ixX, lenX, listX, tupleX, intX, strX, shX, sumX, sumY, maxX, minX, allX, absX, slX]
    refine ⟨⟨_, rfl⟩, ?_⟩
    rcases snoc_or a with rfl | ⟨a, t, rfl⟩
    · rw [decide_eq_false (by simp)]
      refine iteF (hN _ ?_)
      have e : cs = b := by rw [e]; rfl
      subst e
      have hq0 : q = 0 := by
        rcases Nat.eq_zero_or_pos q with h0 | h0
        · exact h0
        · have : 2 * sz cs ≤ (q + 1) * sz cs := Nat.mul_le_mul_right _ (by omega)
          omega
      subst hq0
      have hk1 : k + 1 = sz cs := by omega
      rw [hk1]
      exact ⟨_, rfl⟩
    · rw [decide_eq_true (by rw [List.length_append, List.length_singleton]; omega)]
      refine iteT ?_
      have hat : ((a ++ [t]).length : Int) - 1 = (a.length : Nat) := by rw [List.length_append, List.length_singleton]; omega
      have hrow : st (a ++ [t]) q ++ List.replicate b.length 0 = st a (q / (t + 1)) ++ (q % (t + 1)) :: List.replicate b.length 0 := by rw [st_snoc]; simp
      have hcs : cs = a ++ t :: b := by rw [e]; simp
      have hmod := Nat.mod_lt q (show 0 < t + 1 by omega)
      have hdm := Nat.div_add_mod q (t + 1)
      rw [hat, hrow, iN_append, iN_cons]
      have hl1 : ((a.length : Nat) : Int) = ((iN (st a (q / (t + 1)))).length : Nat) := by rw [iN_len, st_len]
      have g1 : atI (iN (st a (q / (t + 1))) ++ PyData.int ((q % (t + 1) : Nat) : Int) :: iN (List.replicate b.length 0)) ((a.length : Nat) : Int) = some (.int ((q % (t + 1) : Nat) : Int)) := atI_mid hl1
      have g2 : atI (iN cs) ((a.length : Nat) : Int) = some (.int ((t : Nat) : Int)) := by
        rw [hcs, iN_append, iN_cons]
        exact atI_mid (by rw [iN_len])
      have g3 : ixN (iN (st a (q / (t + 1))) ++ PyData.int ((q % (t + 1) : Nat) : Int) :: iN (List.replicate b.length 0)).length ((a.length : Nat) : Int) = some ((a.length : Nat) : Int).toNat := by
        refine ixN_mid (by omega) ?_
        rw [List.length_append, List.length_cons, iN_len, st_len]
        omega
      have g4 : ∀ d, (iN (st a (q / (t + 1))) ++ PyData.int ((q % (t + 1) : Nat) : Int) :: iN (List.replicate b.length 0)).set ((a.length : Nat) : Int).toNat d = iN (st a (q / (t + 1))) ++ d :: iN (List.replicate b.length 0) := fun d => set_mid hl1
      refine ⟨⟨_, rfl⟩, ⟨_, rfl⟩, ?_⟩
      rw [g1]
      dsimp only
      refine ⟨⟨_, rfl⟩, ⟨_, rfl⟩, ?_⟩
      rw [g2]
      dsimp only
      by_cases hlt : q % (t + 1) < t
      · rw [decide_eq_true (show ((q % (t + 1) : Nat) : Int) < ((t : Nat) : Int) by omega)]
        refine iteT ?_
        refine ⟨⟨_, rfl⟩, ⟨_, rfl⟩, ?_⟩
        refine ⟨⟨_, rfl⟩, ?_⟩
        rw [g3]
        dsimp only
        rw [g4]
        have hd1 : (q + 1) / (t + 1) = q / (t + 1) := by
          rw [show q + 1 = (q % (t + 1) + 1) + (t + 1) * (q / (t + 1)) by omega, Nat.add_mul_div_left _ _ (by omega), Nat.div_eq_of_lt (by omega), Nat.zero_add]
        have hd2 : (q + 1) % (t + 1) = q % (t + 1) + 1 := by
          rw [show q + 1 = (q % (t + 1) + 1) + (t + 1) * (q / (t + 1)) by omega, Nat.add_mul_mod_self_left, Nat.mod_eq_of_lt (by omega)]
        have hst : st cs (k + 1) = st a (q / (t + 1)) ++ (q % (t + 1) + 1) :: List.replicate b.length 0 := by
          rw [← hq]
          conv => lhs; rw [e]
          rw [st_zero, st_snoc, hd1, hd2]
          simp
        have hrw : iN (st a (q / (t + 1))) ++ PyData.int (((q % (t + 1) : Nat) : Int) + 1) :: iN (List.replicate b.length 0) = iN (st cs (k + 1)) := by
          rw [hst, iN_append, iN_cons]
          rfl
        rw [hrw]
        have hk2 : k + 1 < sz cs := by
          rcases Nat.lt_or_ge (k + 1) (sz cs) with h0 | h0
          · exact h0
          · exfalso
            have h1 : k + 1 = sz cs := by omega
            have h2 : sz cs = sz a * (t + 1) * sz b := by rw [e, sz_append, sz_snoc]
            have h3 : (q + 1) * sz b = sz a * (t + 1) * sz b := by rw [hq, h1, h2]
            have h4 : q + 1 = sz a * (t + 1) := Nat.eq_of_mul_eq_mul_right (sz_pos b) h3
            have h5 : (q + 1) % (t + 1) = 0 := by rw [h4, Nat.mul_mod_left]
            omega
        refine ⟨⟨_, rfl⟩, ⟨_, rfl⟩, by rw [rT_len, sizeLine_eq]; omega, ?_⟩
        refine ⟨⟨_, rfl⟩, by show 4 < 5; decide, (sz cs - (k + 1)) * (cs.length + 2) + cs.length, ?_, cs, [], k + 1, k + 1, by simp, by simp [sz], hk2, ?_, rfl⟩
        · rw [hm, show sz cs - k = (sz cs - (k + 1)) + 1 by omega, Nat.succ_mul]
          omega
        · rw [rT_succ cs (k + 1), iN_len]
          simp
      · rw [decide_eq_false (show ¬ ((q % (t + 1) : Nat) : Int) < ((t : Nat) : Int) by omega)]
        refine iteF ?_
        have hqt : q % (t + 1) = t := by omega
        refine ⟨⟨_, rfl⟩, ?_⟩
        rw [g3]
        dsimp only
        rw [g4]
        refine ⟨⟨_, rfl⟩, by show 4 < 5; decide, (sz cs - k) * (cs.length + 2) + a.length, ?_, a, t :: b, q / (t + 1), k, hcs, ?_, hk, ?_, rfl⟩
        · rw [hm, List.length_append, List.length_singleton]
          omega
        · show (q / (t + 1) + 1) * ((t + 1) * sz b) = k + 1
          rw [← Nat.mul_assoc, ← hq]
          congr 1
          rw [Nat.succ_mul, Nat.mul_comm]
          omega
        · rw [iN_append]
          rfl
  rintro c ⟨x, rfl⟩
  exact h
end Lk

namespace Lk
open PySem PySem.Spec PyProof.Rows L2 Cl Cards
def tI (rows : List (List Nat)) : List PyData := rows.map tN
theorem tI_append (a b : List (List Nat)) : tI (a ++ b) = tI a ++ tI b := List.map_append
theorem row_ext (r : List Nat) (t : Nat) : ((rangeD 0 ((t : Nat) + 1 : Int)).map fun d => match d with
    | .int k => PyData.tuple (iN r ++ [.int k])
    | _ => d) = tI (Cards.step [r] (t + 1)) := by
  unfold rangeD tI Cards.step
  rw [show (((t : Nat) : Int) + 1 - 0).toNat = t + 1 by omega]
  simp [iN]
theorem states_spec {cs : List Nat} (hc : Crd cs) {Q : SV → Prop} (h : Q (.dat (.tuple (tR cs)))) : C_states [.dat (tN cs)] Q := by
  refine ⟨rfl, ?_⟩
  have hsz := hc.sz
  show T_states _ [some (.dat (tN cs)), none, none, none, none, none]
  dsimp only [T_states, t_lenScr, t_raise1, t_callX, t_callKX, t_xf, t_isx, runX, t_seq, t_if, t_or, t_and, t_not, t_tst, t_v, t_f, t_l, t_c, t_c1, t_op, t_chain', t_ret, t_asg, t_for, t_wenum, t_wlist, t_wtup, t_wstr, t_wrng1, t_wrng2, t_drop, g_setix, t_wzip, t_lname, t_name, t_next, t_ifx, t_isi, t_notV, t_andV, t_orV, t_call, t_callK, t_acons, t_aconsR, t_anil, t_tupd, t_lstd, g_name, g_tup, g_cons, g_nil, t_drop, t_lc, t_yes, t_star1, t_retn, t_par, t_slice, t_some, t_no, t_dict0, t_dict1, t_rev, t_neg, t_extend, t_append, t_sliceScr, t_retbox, t_xcons, LV.get, CS.at_, SV.view, datsOf, Option.map_some, List.getElem?_cons_zero, List.getElem?_cons_succ, List.set_cons_zero, List.set_cons_succ, settled, initC, List.map_cons, List.map_nil, List.length_cons, List.length_nil, List.cons_append, List.nil_append, seqOf, runD, ltY, gtY, inX, notinX, ordX, boolX, addX, subX, mulX, mulY, modX, fdivX, powX, ltX, leX, gtX, geX, eqY, neY, isX, isnX, ixX, lenX, listX, tupleX, intX, strX, shX, sumX, sumY, maxX, minX, allX, absX, slX]
  refine ⟨by decide, by decide, by simp, ?_⟩
  refine forD_ind (I := fun ds css => ∃ a b x y z, cs = a ++ b ∧ ds = iN b ∧ css = [some (.dat (tN cs)), some (.own (tI (rowsOf a))), x, y, z, none]) ?_ ?_ _ _ ⟨[], cs, none, none, none, rfl, rfl, rfl⟩
  · rintro css ⟨a, b, x, y, z, e, e2, rfl⟩
    cases b with
    | cons t ts => cases e2
    | nil =>
      rw [List.append_nil] at e
      subst e
      refine ⟨⟨_, rfl⟩, ?_⟩
      rw [tR_eq] at h
      exact h
  · rintro d ds css N hN ⟨a, b, x, y, z, e, e2, rfl⟩
    cases b with
    | nil => cases e2
    | cons t b =>
      cases e2
      have e : cs = (a ++ [t]) ++ b := by rw [e]; simp
      have hbig : sz (a ++ [t]) * 1 ≤ sz cs := by rw [e, sz_append (a ++ [t]) b]; exact Nat.mul_le_mul_left _ (sz_pos b)
      have hbig2 : sz (a ++ [t]) ≤ 512 := by omega
      have ha2 : sz a * (t + 1) ≤ 512 := by rw [← sz_snoc]; exact hbig2
      have ht : t ≤ 7 := hc.top t (by rw [e]; simp)
      dsimp only [t_lenScr, t_raise1, t_callX, t_callKX, t_xf, t_isx, runX, t_seq, t_if, t_or, t_and, t_not, t_tst, t_v, t_f, t_l, t_c, t_c1, t_op, t_chain', t_ret, t_asg, t_for, t_wenum, t_wlist, t_wtup, t_wstr, t_wrng1, t_wrng2, t_drop, g_setix, t_wzip, t_lname, t_name, t_next, t_ifx, t_isi, t_notV, t_andV, t_orV, t_call, t_callK, t_acons, t_aconsR, t_anil, t_tupd, t_lstd, g_name, g_tup, g_cons, g_nil, t_drop, t_lc, t_yes, t_star1, t_retn, t_par, t_slice, t_some, t_no, t_dict0, t_dict1, t_rev, t_neg, t_extend, t_append, t_sliceScr, t_retbox, t_xcons, LV.get, CS.at_, SV.view, datsOf, Option.map_some, List.getElem?_cons_zero, List.getElem?_cons_succ, List.set_cons_zero, List.set_cons_succ, settled, initC, List.map_cons, List.map_nil, List.length_cons, List.length_nil, List.cons_append, List.nil_append, seqOf, runD, ltY, gtY, inX, notinX, ordX, boolX, addX, subX, mulX, mulY, modX, fdivX, powX, ltX, leX, gtX, geX, eqY, neY, isX, isnX, ixX, lenX, listX, tupleX, intX, strX, shX, sumX, sumY, maxX, minX, allX, absX, slX]
      refine ⟨by show 2 < 6; decide, by decide, by show 3 < 6; decide, ?_⟩
      refine forD_ind (I := fun ds css => ∃ done todo x, rowsOf a = done ++ todo ∧ ds = tI todo ∧ css = [some (.dat (tN cs)), some (.dat (.list (tI (rowsOf a)))), some (.dat (.int (t : Nat))), some (.own (tI (Cards.step done (t + 1)))), x, none]) ?_ ?_ _ _ ⟨[], rowsOf a, z, rfl, rfl, rfl⟩
      · rintro css ⟨done, todo, x, e3, e4, rfl⟩
        cases todo with
        | cons r rs => cases e4
        | nil =>
          rw [List.append_nil] at e3
          subst e3
          refine ⟨⟨_, rfl⟩, by show 1 < 6; decide, ?_⟩
          refine hN _ ⟨a ++ [t], b, some (.dat (.int (t : Nat))), some (.own (tI (Cards.step (rowsOf a) (t + 1)))), x, e, rfl, ?_⟩
          rw [rows_snoc]
          rfl
      · rintro d ds css N2 hN2 ⟨done, todo, x, e3, e4, rfl⟩
        cases todo with
        | nil => cases e4
        | cons r rs =>
          cases e4
          have hr : r ∈ rowsOf a := by rw [e3]; simp
          have hrl : r.length ≤ 6 := by
            have := leL_len (rows_mem hr)
            have h6 := hc.len
            rw [e, List.length_append, List.length_append] at h6
            omega
          have hdl : (done.length + 1) * (t + 1) ≤ 512 := by
            have h1 : done.length + 1 ≤ (rowsOf a).length := by rw [e3]; simp
            rw [rows_len] at h1
            exact Nat.le_trans (Nat.mul_le_mul_right _ h1) ha2
          dsimp only [t_lenScr, t_raise1, t_callX, t_callKX, t_xf, t_isx, runX, t_seq, t_if, t_or, t_and, t_not, t_tst, t_v, t_f, t_l, t_c, t_c1, t_op, t_chain', t_ret, t_asg, t_for, t_wenum, t_wlist, t_wtup, t_wstr, t_wrng1, t_wrng2, t_drop, g_setix, t_wzip, t_lname, t_name, t_next, t_ifx, t_isi, t_notV, t_andV, t_orV, t_call, t_callK, t_acons, t_aconsR, t_anil, t_tupd, t_lstd, g_name, g_tup, g_cons, g_nil, t_drop, t_lc, t_yes, t_star1, t_retn, t_par, t_slice, t_some, t_no, t_dict0, t_dict1, t_rev, t_neg, t_extend, t_append, t_sliceScr, t_retbox, t_xcons, LV.get, CS.at_, SV.view, datsOf, Option.map_some, List.getElem?_cons_zero, List.getElem?_cons_succ, List.set_cons_zero, List.set_cons_succ, settled, initC, List.map_cons, List.map_nil, List.length_cons, List.length_nil, List.cons_append, List.nil_append, seqOf, runD, ltY, gtY, inX, notinX, ordX, boolX, addX, subX, mulX, mulY, modX, fdivX, powX, ltX, leX, gtX, geX, eqY, neY, isX, isnX, ixX, lenX, listX, tupleX, intX, strX, shX, sumX, sumY, maxX, minX, allX, absX, slX]
          refine ⟨by show 4 < 6; decide, ⟨_, rfl⟩, ⟨_, rfl⟩, by omega, by omega, ?_⟩
          refine lcD_map (fun d => match d with
            | .int k => PyData.tuple (iN r ++ [.int k])
            | _ => d) _ _ (by rw [rangeD_len, sizeLine_eq]; omega) (fun d hd K N hK => ?_) ?_
          · obtain ⟨i, hi, rfl⟩ := List.mem_map.mp hd
            dsimp only [t_lenScr, t_raise1, t_callX, t_callKX, t_xf, t_isx, runX, t_seq, t_if, t_or, t_and, t_not, t_tst, t_v, t_f, t_l, t_c, t_c1, t_op, t_chain', t_ret, t_asg, t_for, t_wenum, t_wlist, t_wtup, t_wstr, t_wrng1, t_wrng2, t_drop, g_setix, t_wzip, t_lname, t_name, t_next, t_ifx, t_isi, t_notV, t_andV, t_orV, t_call, t_callK, t_acons, t_aconsR, t_anil, t_tupd, t_lstd, g_name, g_tup, g_cons, g_nil, t_drop, t_lc, t_yes, t_star1, t_retn, t_par, t_slice, t_some, t_no, t_dict0, t_dict1, t_rev, t_neg, t_extend, t_append, t_sliceScr, t_retbox, t_xcons, LV.get, CS.at_, SV.view, datsOf, Option.map_some, List.getElem?_cons_zero, List.getElem?_cons_succ, List.set_cons_zero, List.set_cons_succ, settled, initC, List.map_cons, List.map_nil, List.length_cons, List.length_nil, List.cons_append, List.nil_append, seqOf, runD, ltY, gtY, inX, notinX, ordX, boolX, addX, subX, mulX, mulY, modX, fdivX, powX, ltX, leX, gtX, geX, eqY, neY, isX, isnX, ixX, lenX, listX, tupleX, intX, strX, shX, sumX, sumY, maxX, minX, allX, absX, slX]
            refine ⟨by show 5 < 6; decide, ?_⟩
            refine iteT ⟨⟨_, rfl⟩, by decide, ?_⟩
            exact ⟨by rw [iN_len, sizeLine_eq]; show r.length + 1 ≤ _; omega, hK⟩
          · rw [row_ext]
            show _ ∧ _
            refine ⟨?_, hN2 _ ⟨done ++ [r], rs, some (.dat (tN r)), by rw [e3]; simp, rfl, ?_⟩⟩
            · show (tI (Cards.step done (t + 1))).length + (tI (Cards.step [r] (t + 1))).length ≤ sizeLine
              unfold tI
              rw [List.length_map, List.length_map, step_len, step_len, sizeLine_eq]
              rw [Nat.succ_mul] at hdl
              simp
              omega
            · rw [step_append, tI_append]; rfl
theorem place_spec {cs : List Nat} (hc : Crd cs) (d : PyData) {Q : SV → Prop} {E : _ → Prop} (h1 : ∀ s, d = tN s → leL s cs → Q (.dat (.int (valA 0 s cs : Nat)))) (h2 : isSt cs d = false → E ⟨0, [("given", d)]⟩) : C_place_of [.dat (tN cs), .dat d] Q E := by
  refine ⟨rfl, ?_⟩
  show T_place_of _ _ [some (.dat (tN cs)), some (.dat d), none, none, none]
  dsimp only [T_place_of, t_lenScr, t_raise1, t_callX, t_callKX, t_xf, t_isx, runX, t_seq, t_if, t_or, t_and, t_not, t_tst, t_v, t_f, t_l, t_c, t_c1, t_op, t_chain', t_ret, t_asg, t_for, t_wenum, t_wlist, t_wtup, t_wstr, t_wrng1, t_wrng2, t_drop, g_setix, t_wzip, t_lname, t_name, t_next, t_ifx, t_isi, t_notV, t_andV, t_orV, t_call, t_callK, t_acons, t_aconsR, t_anil, t_tupd, t_lstd, g_name, g_tup, g_cons, g_nil, t_drop, t_lc, t_yes, t_star1, t_retn, t_par, t_slice, t_some, t_no, t_dict0, t_dict1, t_rev, t_neg, t_extend, t_append, t_sliceScr, t_retbox, t_xcons, LV.get, CS.at_, SV.view, datsOf, Option.map_some, List.getElem?_cons_zero, List.getElem?_cons_succ, List.set_cons_zero, List.set_cons_succ, settled, initC, List.map_cons, List.map_nil, List.length_cons, List.length_nil, List.cons_append, List.nil_append, seqOf, runD, ltY, gtY, inX, notinX, ordX, boolX, addX, subX, mulX, mulY, modX, fdivX, powX, ltX, leX, gtX, geX, eqY, neY, isX, isnX, ixX, lenX, listX, tupleX, intX, strX, shX, sumX, sumY, maxX, minX, allX, absX, slX]
  refine is_state_spec hc d ?_
  dsimp only
  cases hs : isSt cs d with
  | false =>
    refine iteT (h2 hs)
  | true =>
    refine iteF ⟨by decide, ?_⟩
    obtain ⟨s, rfl, hle⟩ := isSt_true hs
    have q := h1 s rfl hle
    refine forD_ind (I := fun rows css => ∃ acc us ts x y, us.length = ts.length ∧ (∀ t ∈ ts, t ≤ 7) ∧ rows = rowsD (zipRs (iN us) (iN ts)) ∧ css = [some (.dat (tN cs)), some (.dat (tN s)), some (.dat (.int (acc : Nat))), x, y] ∧ valA acc us ts = valA 0 s cs) ?_ ?_ _ _ ⟨0, s, cs, none, none, leL_len hle, hc.top, rfl, rfl, rfl⟩
    · rintro css ⟨acc, us, ts, x, y, hl, _, e, rfl, ev⟩
      cases us with
      | cons u us =>
        cases ts with
        | nil => simp at hl
        | cons => cases e
      | nil =>
        have ev : acc = valA 0 s cs := by cases ts <;> exact ev
        rw [ev]
        exact q
    · rintro r rows css N hN ⟨acc, us, ts, x, y, hl, h7, e, rfl, ev⟩
      cases us with
      | nil => cases e
      | cons u us =>
        cases ts with
        | nil => cases e
        | cons t ts =>
          cases e
          have ht : t ≤ 7 := h7 t List.mem_cons_self
          dsimp only [t_lenScr, t_raise1, t_callX, t_callKX, t_xf, t_isx, runX, t_seq, t_if, t_or, t_and, t_not, t_tst, t_v, t_f, t_l, t_c, t_c1, t_op, t_chain', t_ret, t_asg, t_for, t_wenum, t_wlist, t_wtup, t_wstr, t_wrng1, t_wrng2, t_drop, g_setix, t_wzip, t_lname, t_name, t_next, t_ifx, t_isi, t_notV, t_andV, t_orV, t_call, t_callK, t_acons, t_aconsR, t_anil, t_tupd, t_lstd, g_name, g_tup, g_cons, g_nil, t_drop, t_lc, t_yes, t_star1, t_retn, t_par, t_slice, t_some, t_no, t_dict0, t_dict1, t_rev, t_neg, t_extend, t_append, t_sliceScr, t_retbox, t_xcons, LV.get, CS.at_, SV.view, datsOf, Option.map_some, List.getElem?_cons_zero, List.getElem?_cons_succ, List.set_cons_zero, List.set_cons_succ, settled, initC, List.map_cons, List.map_nil, List.length_cons, List.length_nil, List.cons_append, List.nil_append, seqOf, runD, ltY, gtY, inX, notinX, ordX, boolX, addX, subX, mulX, mulY, modX, fdivX, powX, ltX, leX, gtX, geX, eqY, neY, isX, isnX, ixX, lenX, listX, tupleX, intX, strX, shX, sumX, sumY, maxX, minX, allX, absX, slX]
          refine ⟨rfl, by show 3 < 5; decide, by show 4 < 5; decide, rfl, ⟨_, rfl⟩, ⟨_, rfl⟩, mulOk_r (by omega) (by omega), ⟨_, rfl⟩, by show 2 < 5; decide, ?_⟩
          refine hN _ ⟨acc * (t + 1) + u, us, ts, some (.dat (.int (u : Nat))), some (.dat (.int (t : Nat))), by simpa using hl, fun t ht => h7 t (List.mem_cons_of_mem _ ht), rfl, ?_, ev⟩
          simp
theorem told_spec {cs : List Nat} (hc : Crd cs) (d : PyData) (b : Bool) {Q : SV → Prop} (h1 : ∀ s, d = tN s → leL s cs → Q (.own [.str "told", .int (valA 0 s cs : Nat)])) (h2 : isSt cs d = false → Q (.own [.str "NoState", d, .bool true])) : C__law_told [.dat (tN cs), .dat d, .dat (.bool b)] Q := by
  refine ⟨rfl, ?_⟩
  show T__law_told _ [some (.dat (tN cs)), some (.dat d), some (.dat (.bool b)), none]
  unfold T__law_told t_try
  intro E2 hE
  have fin : isSt cs d = false → E2 ⟨0, [("given", d)]⟩ [some (.dat (tN cs)), some (.dat d), some (.dat (.bool b)), none] := fun hs => by
    refine hE _ _ ⟨true, rfl, fun _ => ⟨by show 3 < 4; decide, fun a e => ?_⟩, fun z => by cases z⟩
    dsimp only [t_lenScr, t_raise1, t_callX, t_callKX, t_xf, t_isx, runX, t_seq, t_if, t_or, t_and, t_not, t_tst, t_v, t_f, t_l, t_c, t_c1, t_op, t_chain', t_ret, t_asg, t_for, t_wenum, t_wlist, t_wtup, t_wstr, t_wrng1, t_wrng2, t_drop, g_setix, t_wzip, t_lname, t_name, t_next, t_ifx, t_isi, t_notV, t_andV, t_orV, t_call, t_callK, t_acons, t_aconsR, t_anil, t_tupd, t_lstd, g_name, g_tup, g_cons, g_nil, t_drop, t_lc, t_yes, t_star1, t_retn, t_par, t_slice, t_some, t_no, t_dict0, t_dict1, t_rev, t_neg, t_extend, t_append, t_sliceScr, t_retbox, t_xcons, LV.get, CS.at_, SV.view, datsOf, Option.map_some, List.getElem?_cons_zero, List.getElem?_cons_succ, List.set_cons_zero, List.set_cons_succ, settled, initC, List.map_cons, List.map_nil, List.length_cons, List.length_nil, List.cons_append, List.nil_append, seqOf, runD, ltY, gtY, inX, notinX, ordX, boolX, addX, subX, mulX, mulY, modX, fdivX, powX, ltX, leX, gtX, geX, eqY, neY, isX, isnX, ixX, lenX, listX, tupleX, intX, strX, shX, sumX, sumY, maxX, minX, allX, absX, slX]
    refine ⟨rfl, _, d, rfl, rfl, true, _, rfl, rfl, true, _, rfl, rfl, by decide, ?_⟩
    exact h2 hs
  cases b with
  | true =>
    dsimp only [t_lenScr, t_raise1, t_callX, t_callKX, t_xf, t_isx, runX, t_seq, t_if, t_or, t_and, t_not, t_tst, t_v, t_f, t_l, t_c, t_c1, t_op, t_chain', t_ret, t_asg, t_for, t_wenum, t_wlist, t_wtup, t_wstr, t_wrng1, t_wrng2, t_drop, g_setix, t_wzip, t_lname, t_name, t_next, t_ifx, t_isi, t_notV, t_andV, t_orV, t_call, t_callK, t_acons, t_aconsR, t_anil, t_tupd, t_lstd, g_name, g_tup, g_cons, g_nil, t_drop, t_lc, t_yes, t_star1, t_retn, t_par, t_slice, t_some, t_no, t_dict0, t_dict1, t_rev, t_neg, t_extend, t_append, t_sliceScr, t_retbox, t_xcons, LV.get, CS.at_, SV.view, datsOf, Option.map_some, List.getElem?_cons_zero, List.getElem?_cons_succ, List.set_cons_zero, List.set_cons_succ, settled, initC, List.map_cons, List.map_nil, List.length_cons, List.length_nil, List.cons_append, List.nil_append, seqOf, runD, ltY, gtY, inX, notinX, ordX, boolX, addX, subX, mulX, mulY, modX, fdivX, powX, ltX, leX, gtX, geX, eqY, neY, isX, isnX, ixX, lenX, listX, tupleX, intX, strX, shX, sumX, sumY, maxX, minX, allX, absX, slX]
    refine iteT ⟨⟨rfl, rfl⟩, ?_⟩
    exact place_spec hc d (fun s e hs => ⟨by decide, h1 s e hs⟩) fin
  | false =>
    dsimp only [t_lenScr, t_raise1, t_callX, t_callKX, t_xf, t_isx, runX, t_seq, t_if, t_or, t_and, t_not, t_tst, t_v, t_f, t_l, t_c, t_c1, t_op, t_chain', t_ret, t_asg, t_for, t_wenum, t_wlist, t_wtup, t_wstr, t_wrng1, t_wrng2, t_drop, g_setix, t_wzip, t_lname, t_name, t_next, t_ifx, t_isi, t_notV, t_andV, t_orV, t_call, t_callK, t_acons, t_aconsR, t_anil, t_tupd, t_lstd, g_name, g_tup, g_cons, g_nil, t_drop, t_lc, t_yes, t_star1, t_retn, t_par, t_slice, t_some, t_no, t_dict0, t_dict1, t_rev, t_neg, t_extend, t_append, t_sliceScr, t_retbox, t_xcons, LV.get, CS.at_, SV.view, datsOf, Option.map_some, List.getElem?_cons_zero, List.getElem?_cons_succ, List.set_cons_zero, List.set_cons_succ, settled, initC, List.map_cons, List.map_nil, List.length_cons, List.length_nil, List.cons_append, List.nil_append, seqOf, runD, ltY, gtY, inX, notinX, ordX, boolX, addX, subX, mulX, mulY, modX, fdivX, powX, ltX, leX, gtX, geX, eqY, neY, isX, isnX, ixX, lenX, listX, tupleX, intX, strX, shX, sumX, sumY, maxX, minX, allX, absX, slX]
    refine iteF ?_
    exact place_spec hc d (fun s e hs => ⟨by decide, h1 s e hs⟩) fin
end Lk

namespace Lk
open PySem PySem.Spec PyProof.Rows L2 Cl Cards
theorem can_iN : ∀ a : List Nat, PyData.canLayAll0 (iN a) = true
  | [] => by simp [iN, PyData.canLayAll0]
  | x :: a => by rw [iN_cons]; simp only [PyData.canLayAll0, PyData.canLay0, Bool.true_and]; exact can_iN a
theorem depth_iN : ∀ a : List Nat, PyData.depthAll (iN a) = 0
  | [] => by simp [iN, PyData.depthAll]
  | x :: a => by rw [iN_cons]; simp only [PyData.depthAll, PyData.depth, depth_iN a]; rfl
theorem shaped_tN (a : List Nat) : SeqAt.shaped (tN a) = true := by
  unfold SeqAt.shaped
  simp only [PyData.canLay0, can_iN, PyData.depth, depth_iN]
  decide
theorem eqv_iN : ∀ a b : List Nat, PyData.eqvAll (iN a) (iN b) = decide (a = b)
  | [], [] => by simp [iN, PyData.eqvAll]
  | [], y :: b => by rw [iN_cons]; simp [iN, PyData.eqvAll]
  | x :: a, [] => by rw [iN_cons]; simp [iN, PyData.eqvAll]
  | x :: a, y :: b => by
    rw [iN_cons, iN_cons]
    simp only [PyData.eqvAll, PyData.eqv, eqv_iN a b]
    by_cases h : x = y
    · subst h; simp
    · have e : (((x : Nat) : Int) == ((y : Nat) : Int)) = false := beq_eq_false_iff_ne.mpr (by omega)
      rw [e, decide_eq_false (fun z => h (List.cons.inj z).1)]
      rfl
theorem eqv_tN (a b : List Nat) : PyData.eqv (tN a) (tN b) = decide (a = b) := by
  simp only [PyData.eqv, eqv_iN]
def leB : List Nat → List Nat → Bool
  | x :: a, y :: b => decide (x ≤ y) && leB a b
  | _, _ => true
def abv (a b : List Nat) : Bool := !decide (a = b) && leB a b
theorem lst_le (a b : List Nat) (css : CS) (hl : a.length = b.length) (hl6 : a.length ≤ 6) {Q : List PyData → CS → Prop} (g : TGD) (te : TVD) (vs : List Nat) (hs : ∀ (x y : Nat) (K : PyData → CS → Prop), K (.bool (decide (x ≤ y))) css → g (.dat (.tuple [.int (x : Nat), .int (y : Nat)])) css fun cs1 => t_yes cs1 fun b cs2 => if b = true then te cs2 (fun y cs3 => K y (wipeC cs3 vs)) else False)
    (h : ∀ bs : List Bool, bs.all id = leB a b → Q (bs.map .bool) css) : lcD vs g t_yes te Q (rowsD (zipRs (iN a) (iN b))) [] css := by
  refine lcD_ind (I := fun rows acc c => c = css ∧ ∃ (us ts : List Nat) (bs : List Bool), rows = rowsD (zipRs (iN us) (iN ts)) ∧ acc = bs.map .bool ∧ us.length = ts.length ∧ (bs.all id && leB us ts) = leB a b ∧ bs.length + us.length ≤ 6) ?_ ?_ _ _ _ ⟨rfl, a, b, [], rfl, rfl, hl, by simp, by simpa using hl6⟩
  · rintro acc c ⟨rfl, us, ts, bs, e, rfl, hul, ho, _⟩
    refine h bs ?_
    cases us with
    | nil =>
      cases ts with
      | nil => rw [← ho]; simp [leB]
      | cons => simp at hul
    | cons u us =>
      cases ts with
      | nil => simp at hul
      | cons => cases e
  · rintro r rows acc c N hN ⟨rfl, us, ts, bs, e, rfl, hul, ho, hz⟩
    cases us with
    | nil => cases e
    | cons u us =>
      cases ts with
      | nil => cases e
      | cons t ts =>
        cases e
        rw [List.length_cons] at hz
        have := hs u t (fun y cs3 => (bs.map PyData.bool).length < sizeLine ∧ N (bs.map PyData.bool ++ [y]) cs3) ⟨by rw [List.length_map, sizeLine_eq]; omega, hN _ _ ⟨rfl, us, ts, bs ++ [decide (u ≤ t)], rfl, by simp, by simpa using hul, ?_, ?_⟩⟩
        · exact this
        · rw [← ho, List.all_append]
          show ((bs.all id && (decide (u ≤ t) && true)) && leB us ts) = (bs.all id && (decide (u ≤ t) && leB us ts))
          rw [Bool.and_true, Bool.and_assoc]
        · rw [List.length_append, List.length_singleton]; omega
theorem above_spec (a b : List Nat) (hl : a.length = b.length) (hl6 : a.length ≤ 6) {Q : SV → Prop} (h : Q (.dat (.bool (abv a b)))) : C_is_above [.dat (tN a), .dat (tN b)] Q := by
  refine ⟨rfl, ?_⟩
  show T_is_above _ [some (.dat (tN a)), some (.dat (tN b)), none, none]
  dsimp only [T_is_above, t_lenScr, t_raise1, t_callX, t_callKX, t_xf, t_isx, runX, t_seq, t_if, t_or, t_and, t_not, t_tst, t_v, t_f, t_l, t_c, t_c1, t_op, t_chain', t_ret, t_asg, t_for, t_wenum, t_wlist, t_wtup, t_wstr, t_wrng1, t_wrng2, t_drop, g_setix, t_wzip, t_lname, t_name, t_next, t_ifx, t_isi, t_notV, t_andV, t_orV, t_call, t_callK, t_acons, t_aconsR, t_anil, t_tupd, t_lstd, g_name, g_tup, g_cons, g_nil, t_drop, t_lc, t_yes, t_star1, t_retn, t_par, t_slice, t_some, t_no, t_dict0, t_dict1, t_rev, t_neg, t_extend, t_append, t_sliceScr, t_retbox, t_xcons, LV.get, CS.at_, SV.view, datsOf, Option.map_some, List.getElem?_cons_zero, List.getElem?_cons_succ, List.set_cons_zero, List.set_cons_succ, settled, initC, List.map_cons, List.map_nil, List.length_cons, List.length_nil, List.cons_append, List.nil_append, seqOf, runD, ltY, gtY, inX, notinX, ordX, boolX, addX, subX, mulX, mulY, modX, fdivX, powX, ltX, leX, gtX, geX, eqY, neY, eqX, neX, isX, isnX, ixX, lenX, listX, tupleX, intX, strX, shX, sumX, sumY, maxX, minX, allX, absX, slX]
  refine ⟨⟨_, rfl⟩, ⟨_, rfl⟩, shaped_tN a, shaped_tN b, ?_⟩
  rw [eqv_tN]
  unfold abv at h
  by_cases hab : a = b
  · rw [decide_eq_true hab] at h ⊢
    exact h
  · rw [decide_eq_false hab] at h ⊢
    refine lst_le a b [some (.dat (tN a)), some (.dat (tN b)), none, none] hl hl6 _ _ _ (fun x y K hK => ?_) fun bs hbs => ?_
    · dsimp only [t_lenScr, t_raise1, t_callX, t_callKX, t_xf, t_isx, runX, t_seq, t_if, t_or, t_and, t_not, t_tst, t_v, t_f, t_l, t_c, t_c1, t_op, t_chain', t_ret, t_asg, t_for, t_wenum, t_wlist, t_wtup, t_wstr, t_wrng1, t_wrng2, t_drop, g_setix, t_wzip, t_lname, t_name, t_next, t_ifx, t_isi, t_notV, t_andV, t_orV, t_call, t_callK, t_acons, t_aconsR, t_anil, t_tupd, t_lstd, g_name, g_tup, g_cons, g_nil, t_drop, t_lc, t_yes, t_star1, t_retn, t_par, t_slice, t_some, t_no, t_dict0, t_dict1, t_rev, t_neg, t_extend, t_append, t_sliceScr, t_retbox, t_xcons, LV.get, CS.at_, SV.view, datsOf, Option.map_some, List.getElem?_cons_zero, List.getElem?_cons_succ, List.set_cons_zero, List.set_cons_succ, settled, initC, List.map_cons, List.map_nil, List.length_cons, List.length_nil, List.cons_append, List.nil_append, seqOf, runD, ltY, gtY, inX, notinX, ordX, boolX, addX, subX, mulX, mulY, modX, fdivX, powX, ltX, leX, gtX, geX, eqY, neY, eqX, neX, isX, isnX, ixX, lenX, listX, tupleX, intX, strX, shX, sumX, sumY, maxX, minX, allX, absX, slX]
      refine ⟨rfl, by show 2 < 4; decide, by show 3 < 4; decide, rfl, ?_⟩
      refine iteT ⟨⟨_, rfl⟩, ⟨_, rfl⟩, ?_⟩
      rw [show decide (((x : Nat) : Int) ≤ ((y : Nat) : Int)) = decide (x ≤ y) by simp]
      exact hK
    · show match boolsD (bs.map .bool) with | some bs => _ | none => False
      rw [boolsD_map]
      dsimp only
      rw [hbs]
      rw [Bool.not_false, Bool.true_and] at h
      exact h
def SN (a : List Nat) : Int := (a.map fun n => ((n : Nat) : Int)).sum
theorem SN_cons (x : Nat) (a : List Nat) : SN (x :: a) = x + SN a := by simp [SN]
theorem SN_bd : ∀ (a : List Nat), (∀ x ∈ a, x ≤ 7) → 0 ≤ SN a ∧ SN a ≤ 7 * a.length
  | [], _ => by simp [SN]
  | x :: a, h => by
    have := SN_bd a fun y hy => h y (List.mem_cons_of_mem _ hy)
    have := h x List.mem_cons_self
    rw [SN_cons, List.length_cons]
    omega
theorem rises_spec (a b : List Nat) {Q : SV → Prop} (h : Q (.dat (.int (SN b - SN a)))) : C_rises [.dat (tN a), .dat (tN b)] Q := by
  refine ⟨rfl, ?_⟩
  show T_rises _ [some (.dat (tN a)), some (.dat (tN b))]
  dsimp only [T_rises, t_lenScr, t_raise1, t_callX, t_callKX, t_xf, t_isx, runX, t_seq, t_if, t_or, t_and, t_not, t_tst, t_v, t_f, t_l, t_c, t_c1, t_op, t_chain', t_ret, t_asg, t_for, t_wenum, t_wlist, t_wtup, t_wstr, t_wrng1, t_wrng2, t_drop, g_setix, t_wzip, t_lname, t_name, t_next, t_ifx, t_isi, t_notV, t_andV, t_orV, t_call, t_callK, t_acons, t_aconsR, t_anil, t_tupd, t_lstd, g_name, g_tup, g_cons, g_nil, t_drop, t_lc, t_yes, t_star1, t_retn, t_par, t_slice, t_some, t_no, t_dict0, t_dict1, t_rev, t_neg, t_extend, t_append, t_sliceScr, t_retbox, t_xcons, LV.get, CS.at_, SV.view, datsOf, Option.map_some, List.getElem?_cons_zero, List.getElem?_cons_succ, List.set_cons_zero, List.set_cons_succ, settled, initC, List.map_cons, List.map_nil, List.length_cons, List.length_nil, List.cons_append, List.nil_append, seqOf, runD, ltY, gtY, inX, notinX, ordX, boolX, addX, subX, mulX, mulY, modX, fdivX, powX, ltX, leX, gtX, geX, eqY, neY, eqX, neX, isX, isnX, ixX, lenX, listX, tupleX, intX, strX, shX, sumX, sumY, maxX, minX, allX, absX, slX]
  refine ⟨⟨_, rfl⟩, ?_⟩
  rw [intsD_iN, intsD_iN]
  exact ⟨⟨_, rfl⟩, h⟩
/-- the gaps -/
def gaps : List Nat → List Nat → List Int
  | x :: a, y :: b => (((y : Nat) : Int) - ((x : Nat) : Int)) :: gaps a b
  | _, _ => []
theorem gaps_len : ∀ {a b : List Nat}, a.length = b.length → (gaps a b).length = a.length
  | [], [], _ => rfl
  | _ :: a, _ :: b, h => by show (gaps a b).length + 1 = a.length + 1; rw [gaps_len (by simpa using h)]
theorem gaps_sum : ∀ {a b : List Nat}, a.length = b.length → (gaps a b).sum = SN b - SN a
  | [], [], _ => rfl
  | x :: a, y :: b, h => by
    show ((((y : Nat) : Int) - ((x : Nat) : Int)) :: gaps a b).sum = _
    rw [List.sum_cons, gaps_sum (by simpa using h), SN_cons, SN_cons]
    omega
theorem gaps_bd : ∀ {a b : List Nat}, (∀ x ∈ a, x ≤ 7) → (∀ x ∈ b, x ≤ 7) → ∀ g ∈ gaps a b, -7 ≤ g ∧ g ≤ 7
  | x :: a, y :: b, h1, h2, g, hg => by
    have a1 := h1 x List.mem_cons_self
    have a2 := h2 y List.mem_cons_self
    rcases List.mem_cons.mp hg with rfl | hg
    · omega
    · exact gaps_bd (fun z hz => h1 z (List.mem_cons_of_mem _ hz)) (fun z hz => h2 z (List.mem_cons_of_mem _ hz)) g hg
def neg (g : Int) : Bool := decide (g < 0)
theorem gaps_neg : ∀ {a b : List Nat}, a.length = b.length → ((gaps a b).filter neg = [] ↔ leB a b = true)
  | [], [], _ => by simp [gaps, leB]
  | x :: a, y :: b, h => by
    have ih := gaps_neg (a := a) (b := b) (by simpa using h)
    show ((((y : Nat) : Int) - ((x : Nat) : Int)) :: gaps a b).filter neg = [] ↔ (decide (x ≤ y) && leB a b) = true
    by_cases hxy : x ≤ y
    · have : neg (((y : Nat) : Int) - ((x : Nat) : Int)) = false := decide_eq_false (by omega)
      rw [List.filter_cons_of_neg (by rw [this]; decide), ih, decide_eq_true hxy, Bool.true_and]
    · have : neg (((y : Nat) : Int) - ((x : Nat) : Int)) = true := decide_eq_true (by omega)
      rw [List.filter_cons_of_pos this, decide_eq_false hxy, Bool.false_and]
      simp
theorem leB_sum : ∀ {a b : List Nat}, a.length = b.length → leB a b = true → 0 ≤ SN b - SN a ∧ (SN b - SN a = 0 → a = b)
  | [], [], _, _ => by simp [SN]
  | x :: a, y :: b, h, hle => by
    have hle : (decide (x ≤ y) && leB a b) = true := hle
    rw [Bool.and_eq_true, decide_eq_true_eq] at hle
    obtain ⟨i1, i2⟩ := leB_sum (by simpa using h) hle.2
    rw [SN_cons, SN_cons]
    refine ⟨by omega, fun e => ?_⟩
    rw [i2 (by omega), show x = y by omega]
def upB (a b : List Nat) : Bool := decide ((gaps a b).filter neg = []) && decide (0 < (gaps a b).sum)
theorem leB_refl : ∀ a : List Nat, leB a a = true
  | [] => rfl
  | x :: a => by show (decide (x ≤ x) && leB a a) = true; rw [leB_refl a]; simp
theorem up_abv {a b : List Nat} (h : a.length = b.length) : upB a b = abv a b := by
  unfold upB abv
  by_cases hle : leB a b = true
  · obtain ⟨i1, i2⟩ := leB_sum h hle
    rw [decide_eq_true ((gaps_neg h).mpr hle), hle, gaps_sum h, Bool.true_and, Bool.and_true]
    by_cases hab : a = b
    · subst hab
      simp
    · rw [decide_eq_false hab]
      have : 0 < SN b - SN a := by
        rcases Int.lt_or_le 0 (SN b - SN a) with h0 | h0
        · exact h0
        · exact absurd (i2 (by omega)) hab
      rw [decide_eq_true this]
      rfl
  · have e : leB a b = false := by simpa using hle
    rw [decide_eq_false (fun z => hle ((gaps_neg h).mp z)), e]
    simp
end Lk

namespace Lk
open PySem PySem.Spec PyProof.Rows L2 Cl Cards
theorem tm_dec {d : PyData} (h1 : d.leavesShort 200 = true := by decide +kernel) (h2 : d.showable = true := by decide +kernel) (h3 : d.weight ≤ 200 := by decide +kernel) (h4 : d.depth ≤ 3 := by decide +kernel) : Tm 200 3 d := ⟨h1, h2, h3, h4⟩
theorem tm_bool (b : Bool) : Tm 200 3 (.bool b) := by cases b <;> exact tm_dec
theorem tm_int {i : Int} (h0 : -190 < i) (h1 : i < 190) : Tm 200 3 (.int i) := (Tm.int h0 h1).mono (by decide) (by decide)
def zipD (f : Nat → Nat → PyData) : List Nat → List Nat → List PyData
  | x :: a, y :: b => f x y :: zipD f a b
  | _, _ => []
theorem zip_lc {vs : List Nat} {g : TGD} {te : TVD} (f : Nat → Nat → PyData) : ∀ (a b : List Nat) (acc : List PyData) (css : CS) {Q : List PyData → CS → Prop}, acc.length + a.length ≤ 100 →
    (∀ (x y : Nat) (K : PyData → CS → Prop), K (f x y) css → g (.dat (.tuple [.int (x : Nat), .int (y : Nat)])) css fun cs1 => te cs1 (fun y cs3 => K y (wipeC cs3 vs))) →
    Q (acc ++ zipD f a b) css → lcD vs g t_yes te Q (rowsD (zipRs (iN a) (iN b))) acc css
  | [], b, acc, css, Q, _, _, h => by
    have h : Q (acc ++ []) css := h
    rw [List.append_nil] at h
    exact h
  | x :: a, [], acc, css, Q, _, _, h => by
    have h : Q (acc ++ []) css := h
    rw [List.append_nil] at h
    exact h
  | x :: a, y :: b, acc, css, Q, hl, hs, h => by
    rw [List.length_cons] at hl
    have := hs x y (fun d cs3 => acc.length < sizeLine ∧ lcD vs g t_yes te Q (rowsD (zipRs (iN a) (iN b))) (acc ++ [d]) cs3) ⟨by rw [sizeLine_eq]; omega, zip_lc f a b (acc ++ [f x y]) css (by rw [List.length_append, List.length_singleton]; omega) hs (by rw [List.append_assoc]; exact h)⟩
    exact this
theorem zipD_gaps : ∀ a b : List Nat, zipD (fun x y => .int (((y : Nat) : Int) - ((x : Nat) : Int))) a b = (gaps a b).map .int
  | [], _ => by cases ‹List Nat› <;> rfl
  | x :: a, [] => rfl
  | x :: a, y :: b => by
    show _ :: zipD _ a b = _ :: (gaps a b).map .int
    rw [zipD_gaps a b]
def pI (p : Int → Bool) : PyData → Bool
  | .int g => p g
  | _ => false
theorem filter_pI (p : Int → Bool) : ∀ gs : List Int, (gs.map PyData.int).filter (pI p) = (gs.filter p).map .int
  | [] => rfl
  | g :: gs => by
    rw [List.map_cons]
    cases h : p g with
    | true => rw [List.filter_cons_of_pos (show pI p (.int g) = true from h), List.filter_cons_of_pos h, List.map_cons, filter_pI p gs]
    | false => rw [List.filter_cons_of_neg (show ¬ pI p (.int g) = true by show ¬ p g = true; rw [h]; decide), List.filter_cons_of_neg (by rw [h]; decide), filter_pI p gs]
theorem can_ones : ∀ a : List PyData, PyData.canLayAll0 (a.map fun _ => .int 1) = true
  | [] => by simp [PyData.canLayAll0]
  | x :: a => by rw [List.map_cons]; simp only [PyData.canLayAll0, PyData.canLay0, Bool.true_and]; exact can_ones a
theorem depth_ones : ∀ a : List PyData, PyData.depthAll (a.map fun _ => .int 1) = 0
  | [] => by simp [PyData.depthAll]
  | x :: a => by rw [List.map_cons]; simp only [PyData.depthAll, PyData.depth, depth_ones a]; rfl
theorem shaped_ones (a : List PyData) : SeqAt.shaped (.list (a.map fun _ => .int 1)) = true := by
  unfold SeqAt.shaped
  simp only [PyData.canLay0, can_ones, PyData.depth, depth_ones]
  decide
theorem eqv_nil (a : List PyData) : PyData.eqv (.list a) (.list []) = decide (a = []) := by
  cases a with
  | nil => simp [PyData.eqv, PyData.eqvAll]
  | cons => simp [PyData.eqv, PyData.eqvAll]
theorem eqb (a : Str) {A B : Prop} (h : B) : if (!decide (a = a)) = true then A else B := by simpa using h
theorem ifor_T {i : Nat} {R : TTD} {A B : TSD} {D : DEnds} {css : CS} (h : css[i]? = some (some (.dat (.bool true)))) (hA : A D css) : t_if (t_or (t_tst (t_name i)) R) A B D css := by
  unfold t_if t_or t_tst t_name
  rw [h]
  exact iteT (iteT hA)
theorem ifor_F {i : Nat} {R : TTD} {A B : TSD} {D : DEnds} {css : CS} (h : css[i]? = some (some (.dat (.bool false)))) (hR : R css fun c cs1 => if c = true then A D cs1 else B D cs1) : t_if (t_or (t_tst (t_name i)) R) A B D css := by
  unfold t_if t_or t_tst t_name
  rw [h]
  exact iteF hR
theorem compared_spec (cs a b : List Nat) (hl : a.length = b.length) (hl6 : a.length ≤ 6) (ha : ∀ x ∈ a, x ≤ 7) (hb : ∀ x ∈ b, x ≤ 7) {Q : SV → Prop} (h : Q (.dat (.bool true))) : C__law_is_compared [.dat (tN cs), .dat (tN a), .dat (tN b)] Q := by
  refine ⟨rfl, ?_⟩
  have s1 := SN_bd a ha
  have s2 := SN_bd b hb
  have gs := gaps_sum hl
  have hgl := gaps_len hl
  show T__law_is_compared _ [some (.dat (tN cs)), some (.dat (tN a)), some (.dat (tN b)), none, none, none, none, none]
  refine seq_step (fun c => c = [some (.dat (tN cs)), some (.dat (tN a)), some (.dat (tN b)), some (.own ((gaps a b).map .int)), none, none, none, none]) (fun N hN => ?_) ?_
  · dsimp only [t_lenScr, t_raise1, t_callX, t_callKX, t_xf, t_isx, runX, t_seq, t_if, t_or, t_and, t_not, t_tst, t_v, t_f, t_l, t_c, t_c1, t_op, t_chain', t_ret, t_asg, t_for, t_wenum, t_wlist, t_wtup, t_wstr, t_wrng1, t_wrng2, t_drop, g_setix, t_wzip, t_lname, t_name, t_next, t_ifx, t_isi, t_notV, t_andV, t_orV, t_call, t_callK, t_acons, t_aconsR, t_anil, t_tupd, t_lstd, g_name, g_tup, g_cons, g_nil, t_drop, t_lc, t_yes, t_star1, t_retn, t_par, t_slice, t_some, t_no, t_dict0, t_dict1, t_rev, t_neg, t_extend, t_append, t_sliceScr, t_retbox, t_xcons, LV.get, CS.at_, SV.view, datsOf, Option.map_some, List.getElem?_cons_zero, List.getElem?_cons_succ, List.set_cons_zero, List.set_cons_succ, settled, initC, List.map_cons, List.map_nil, List.length_cons, List.length_nil, List.cons_append, List.nil_append, seqOf, runD, ltY, gtY, inX, notinX, ordX, boolX, addX, subX, mulX, mulY, modX, fdivX, powX, ltX, leX, gtX, geX, eqY, neY, eqX, neX, isX, isnX, ixX, lenX, listX, tupleX, intX, strX, shX, sumX, sumY, maxX, minX, allX, absX, slX]
    refine zip_lc (fun x y => .int (((y : Nat) : Int) - ((x : Nat) : Int))) a b [] [some (.dat (tN cs)), some (.dat (tN a)), some (.dat (tN b)), none, none, none, none, none] (by rw [List.length_nil]; omega) (fun x y K hK => ?_) ?_
    · dsimp only [t_lenScr, t_raise1, t_callX, t_callKX, t_xf, t_isx, runX, t_seq, t_if, t_or, t_and, t_not, t_tst, t_v, t_f, t_l, t_c, t_c1, t_op, t_chain', t_ret, t_asg, t_for, t_wenum, t_wlist, t_wtup, t_wstr, t_wrng1, t_wrng2, t_drop, g_setix, t_wzip, t_lname, t_name, t_next, t_ifx, t_isi, t_notV, t_andV, t_orV, t_call, t_callK, t_acons, t_aconsR, t_anil, t_tupd, t_lstd, g_name, g_tup, g_cons, g_nil, t_drop, t_lc, t_yes, t_star1, t_retn, t_par, t_slice, t_some, t_no, t_dict0, t_dict1, t_rev, t_neg, t_extend, t_append, t_sliceScr, t_retbox, t_xcons, LV.get, CS.at_, SV.view, datsOf, Option.map_some, List.getElem?_cons_zero, List.getElem?_cons_succ, List.set_cons_zero, List.set_cons_succ, settled, initC, List.map_cons, List.map_nil, List.length_cons, List.length_nil, List.cons_append, List.nil_append, seqOf, runD, ltY, gtY, inX, notinX, ordX, boolX, addX, subX, mulX, mulY, modX, fdivX, powX, ltX, leX, gtX, geX, eqY, neY, eqX, neX, isX, isnX, ixX, lenX, listX, tupleX, intX, strX, shX, sumX, sumY, maxX, minX, allX, absX, slX]
      exact ⟨rfl, by show 4 < 8; decide, by show 5 < 8; decide, rfl, ⟨_, rfl⟩, ⟨_, rfl⟩, hK⟩
    · rw [List.nil_append, zipD_gaps]
      exact ⟨by show 3 < 8; decide, hN _ rfl⟩
  rintro c rfl
  refine seq_step (fun c => ∃ g, (g = SV.own ((gaps a b).map .int) ∨ g = SV.dat (.list ((gaps a b).map .int))) ∧ c = [some (.dat (tN cs)), some (.dat (tN a)), some (.dat (tN b)), some g, none, none, some (.dat (.bool (upB a b))), none]) (fun N hN => ?_) ?_
  · dsimp only [t_lenScr, t_raise1, t_callX, t_callKX, t_xf, t_isx, runX, t_seq, t_if, t_or, t_and, t_not, t_tst, t_v, t_f, t_l, t_c, t_c1, t_op, t_chain', t_ret, t_asg, t_for, t_wenum, t_wlist, t_wtup, t_wstr, t_wrng1, t_wrng2, t_drop, g_setix, t_wzip, t_lname, t_name, t_next, t_ifx, t_isi, t_notV, t_andV, t_orV, t_call, t_callK, t_acons, t_aconsR, t_anil, t_tupd, t_lstd, g_name, g_tup, g_cons, g_nil, t_drop, t_lc, t_yes, t_star1, t_retn, t_par, t_slice, t_some, t_no, t_dict0, t_dict1, t_rev, t_neg, t_extend, t_append, t_sliceScr, t_retbox, t_xcons, LV.get, CS.at_, SV.view, datsOf, Option.map_some, List.getElem?_cons_zero, List.getElem?_cons_succ, List.set_cons_zero, List.set_cons_succ, settled, initC, List.map_cons, List.map_nil, List.length_cons, List.length_nil, List.cons_append, List.nil_append, seqOf, runD, ltY, gtY, inX, notinX, ordX, boolX, addX, subX, mulX, mulY, modX, fdivX, powX, ltX, leX, gtX, geX, eqY, neY, eqX, neX, isX, isnX, ixX, lenX, listX, tupleX, intX, strX, shX, sumX, sumY, maxX, minX, allX, absX, slX]
    refine lcD_filter (pI neg) (fun _ => .int 1) [some (.dat (tN cs)), some (.dat (tN a)), some (.dat (tN b)), some (.dat (.list ((gaps a b).map .int))), none, none, none, none] _ [] (by rw [List.length_nil, List.length_map, sizeLine_eq]; omega) (fun d hd K N2 hK hN2 => ?_) ?_
    · obtain ⟨g, hg, rfl⟩ := List.mem_map.mp hd
      dsimp only [t_lenScr, t_raise1, t_callX, t_callKX, t_xf, t_isx, runX, t_seq, t_if, t_or, t_and, t_not, t_tst, t_v, t_f, t_l, t_c, t_c1, t_op, t_chain', t_ret, t_asg, t_for, t_wenum, t_wlist, t_wtup, t_wstr, t_wrng1, t_wrng2, t_drop, g_setix, t_wzip, t_lname, t_name, t_next, t_ifx, t_isi, t_notV, t_andV, t_orV, t_call, t_callK, t_acons, t_aconsR, t_anil, t_tupd, t_lstd, g_name, g_tup, g_cons, g_nil, t_drop, t_lc, t_yes, t_star1, t_retn, t_par, t_slice, t_some, t_no, t_dict0, t_dict1, t_rev, t_neg, t_extend, t_append, t_sliceScr, t_retbox, t_xcons, LV.get, CS.at_, SV.view, datsOf, Option.map_some, List.getElem?_cons_zero, List.getElem?_cons_succ, List.set_cons_zero, List.set_cons_succ, settled, initC, List.map_cons, List.map_nil, List.length_cons, List.length_nil, List.cons_append, List.nil_append, seqOf, runD, ltY, gtY, inX, notinX, ordX, boolX, addX, subX, mulX, mulY, modX, fdivX, powX, ltX, leX, gtX, geX, eqY, neY, eqX, neX, isX, isnX, ixX, lenX, listX, tupleX, intX, strX, shX, sumX, sumY, maxX, minX, allX, absX, slX]
      refine ⟨by show 7 < 8; decide, ⟨_, rfl⟩, ?_⟩
      by_cases h0 : g < 0
      · rw [decide_eq_true h0]
        exact iteT (hK (decide_eq_true h0))
      · rw [decide_eq_false h0]
        exact iteF (hN2 (decide_eq_false h0))
    · rw [List.nil_append, filter_pI]
      show _ ∧ _ ∧ _ ∧ _
      refine ⟨by decide, shaped_ones _, by decide +kernel, ?_⟩
      rw [eqv_nil]
      have e : decide ((((gaps a b).filter neg).map PyData.int).map (fun _ => PyData.int 1) = []) = decide ((gaps a b).filter neg = []) := by simp
      rw [e]
      by_cases hf : (gaps a b).filter neg = []
      · rw [decide_eq_true hf]
        refine ⟨⟨_, rfl⟩, ?_⟩
        show match intsD ((gaps a b).map .int) with | some ns => _ | none => False
        rw [intsD_map]
        refine ⟨by show 6 < 8; decide, hN _ ⟨_, .inr rfl, ?_⟩⟩
        show _ = ([some (.dat (tN cs)), some (.dat (tN a)), some (.dat (tN b)), some (.dat (.list ((gaps a b).map .int))), none, none, some (.dat (.bool (upB a b))), none] : CS)
        unfold upB
        rw [decide_eq_true hf, Bool.true_and]
        rfl
      · rw [decide_eq_false hf]
        refine ⟨by show 6 < 8; decide, hN _ ⟨_, .inr rfl, ?_⟩⟩
        show _ = ([some (.dat (tN cs)), some (.dat (tN a)), some (.dat (tN b)), some (.dat (.list ((gaps a b).map .int))), none, none, some (.dat (.bool (upB a b))), none] : CS)
        unfold upB
        rw [decide_eq_false hf, Bool.false_and]
        rfl
  rintro c ⟨g, hg, rfl⟩
  rw [up_abv hl]
  refine seq_step (fun c => c = [some (.dat (tN cs)), some (.dat (tN a)), some (.dat (tN b)), some g, none, none, some (.dat (.bool (abv a b))), none]) (fun N hN => ?_) ?_
  · dsimp only [t_lenScr, t_raise1, t_callX, t_callKX, t_xf, t_isx, runX, t_seq, t_if, t_or, t_and, t_not, t_tst, t_v, t_f, t_l, t_c, t_c1, t_op, t_chain', t_ret, t_asg, t_for, t_wenum, t_wlist, t_wtup, t_wstr, t_wrng1, t_wrng2, t_drop, g_setix, t_wzip, t_lname, t_name, t_next, t_ifx, t_isi, t_notV, t_andV, t_orV, t_call, t_callK, t_acons, t_aconsR, t_anil, t_tupd, t_lstd, g_name, g_tup, g_cons, g_nil, t_drop, t_lc, t_yes, t_star1, t_retn, t_par, t_slice, t_some, t_no, t_dict0, t_dict1, t_rev, t_neg, t_extend, t_append, t_sliceScr, t_retbox, t_xcons, LV.get, CS.at_, SV.view, datsOf, Option.map_some, List.getElem?_cons_zero, List.getElem?_cons_succ, List.set_cons_zero, List.set_cons_succ, settled, initC, List.map_cons, List.map_nil, List.length_cons, List.length_nil, List.cons_append, List.nil_append, seqOf, runD, ltY, gtY, inX, notinX, ordX, boolX, addX, subX, mulX, mulY, modX, fdivX, powX, ltX, leX, gtX, geX, eqY, neY, eqX, neX, isX, isnX, ixX, lenX, listX, tupleX, intX, strX, shX, sumX, sumY, maxX, minX, allX, absX, slX]
    refine above_spec a b hl hl6 ?_
    exact ⟨(tm_bool _).ok, ⟨_, rfl⟩, (tm_bool _).ok, eqb _ (hN _ rfl)⟩
  rintro c rfl
  have fin : ∀ g', (g' = SV.own ((gaps a b).map .int) ∨ g' = SV.dat (.list ((gaps a b).map .int))) → ∀ (x : Option SV) (nx : CS → Prop), t_ret (t_op eqY (t_l (t_f (t_c1 shX (t_l (t_f (t_call C_rises (t_acons (t_f (t_name 1)) (t_acons (t_f (t_name 2)) t_anil)))))))) (t_l (t_f (t_c1 shX (t_l (t_f (t_c1 sumY (t_lname 3)))))))) { nx := nx, rt := Q } [some (.dat (tN cs)), some (.dat (tN a)), some (.dat (tN b)), some g', none, none, some (.dat (.bool (abv a b))), x] := fun g' hg' x nx => by
    dsimp only [t_lenScr, t_raise1, t_callX, t_callKX, t_xf, t_isx, runX, t_seq, t_if, t_or, t_and, t_not, t_tst, t_v, t_f, t_l, t_c, t_c1, t_op, t_chain', t_ret, t_asg, t_for, t_wenum, t_wlist, t_wtup, t_wstr, t_wrng1, t_wrng2, t_drop, g_setix, t_wzip, t_lname, t_name, t_next, t_ifx, t_isi, t_notV, t_andV, t_orV, t_call, t_callK, t_acons, t_aconsR, t_anil, t_tupd, t_lstd, g_name, g_tup, g_cons, g_nil, t_drop, t_lc, t_yes, t_star1, t_retn, t_par, t_slice, t_some, t_no, t_dict0, t_dict1, t_rev, t_neg, t_extend, t_append, t_sliceScr, t_retbox, t_xcons, LV.get, CS.at_, SV.view, datsOf, Option.map_some, List.getElem?_cons_zero, List.getElem?_cons_succ, List.set_cons_zero, List.set_cons_succ, settled, initC, List.map_cons, List.map_nil, List.length_cons, List.length_nil, List.cons_append, List.nil_append, seqOf, runD, ltY, gtY, inX, notinX, ordX, boolX, addX, subX, mulX, mulY, modX, fdivX, powX, ltX, leX, gtX, geX, eqY, neY, eqX, neX, isX, isnX, ixX, lenX, listX, tupleX, intX, strX, shX, sumX, sumY, maxX, minX, allX, absX, slX]
    refine rises_spec a b ?_
    have ok : shOk (.int (SN b - SN a)) := (tm_int (by omega) (by omega)).ok
    refine ⟨ok, ⟨_, rfl⟩, ?_⟩
    rcases hg' with rfl | rfl
    all_goals
      show match intsD ((gaps a b).map .int) with | some ns => _ | none => False
      rw [intsD_map]
      dsimp only
      rw [gs]
      refine ⟨ok, ?_⟩
      rw [decide_eq_true rfl]
      exact h
  refine seq_step (fun _ => True) (fun N hN => ?_) (fun c _ => ?_)
  · cases habv : abv a b with
    | true =>
      refine ifor_T rfl ?_
      have := fin g hg none N
      rw [habv] at this
      exact this
    | false =>
      refine ifor_F rfl ?_
      rcases hg with rfl | rfl
      all_goals
        dsimp only [t_tst, t_op, t_l, t_f, t_c1, t_lc, t_wlist, t_name, t_c, List.getElem?_cons_succ, List.getElem?_cons_zero, List.set_cons_zero, List.set_cons_succ, SV.view]
        refine lcD_map (fun d => match d with | .int g => .int (if g < 0 then -g else g) | d => d) [some (.dat (tN cs)), some (.dat (tN a)), some (.dat (tN b)), some (.dat (.list ((gaps a b).map .int))), none, none, some (.dat (.bool false)), none] _ (by rw [List.length_map, sizeLine_eq]; omega) (fun d hd K N2 hK => ?_) ?_
        · obtain ⟨g, hg, rfl⟩ := List.mem_map.mp hd
          dsimp only [t_lenScr, t_raise1, t_callX, t_callKX, t_xf, t_isx, runX, t_seq, t_if, t_or, t_and, t_not, t_tst, t_v, t_f, t_l, t_c, t_c1, t_op, t_chain', t_ret, t_asg, t_for, t_wenum, t_wlist, t_wtup, t_wstr, t_wrng1, t_wrng2, t_drop, g_setix, t_wzip, t_lname, t_name, t_next, t_ifx, t_isi, t_notV, t_andV, t_orV, t_call, t_callK, t_acons, t_aconsR, t_anil, t_tupd, t_lstd, g_name, g_tup, g_cons, g_nil, t_drop, t_lc, t_yes, t_star1, t_retn, t_par, t_slice, t_some, t_no, t_dict0, t_dict1, t_rev, t_neg, t_extend, t_append, t_sliceScr, t_retbox, t_xcons, LV.get, CS.at_, SV.view, datsOf, Option.map_some, List.getElem?_cons_zero, List.getElem?_cons_succ, List.set_cons_zero, List.set_cons_succ, settled, initC, List.map_cons, List.map_nil, List.length_cons, List.length_nil, List.cons_append, List.nil_append, seqOf, runD, ltY, gtY, inX, notinX, ordX, boolX, addX, subX, mulX, mulY, modX, fdivX, powX, ltX, leX, gtX, geX, eqY, neY, eqX, neX, isX, isnX, ixX, lenX, listX, tupleX, intX, strX, shX, sumX, sumY, maxX, minX, allX, absX, slX]
          exact ⟨by show 7 < 8; decide, ⟨_, rfl⟩, hK⟩
        · have e : ((gaps a b).map PyData.int).map (fun d => match d with | .int g => PyData.int (if g < 0 then -g else g) | d => d) = ((gaps a b).map fun g : Int => if g < 0 then -g else g).map .int := by simp
          rw [e]
          show match intsD (((gaps a b).map fun g : Int => if g < 0 then -g else g).map .int) with | some ns => _ | none => False
          rw [intsD_map]
          dsimp only [LV.get, eqY]
          split
          · have := fin _ (.inr rfl) none N
            rw [habv] at this
            exact this
          · exact hN _ True.intro
  · exact h
end Lk

namespace Lk
open PySem PySem.Spec PyProof.Rows L2 Cl Cards
def rmD (cs s : List Nat) : List PyData := zipD (fun x y => .int (((x : Nat) : Int) - ((y : Nat) : Int))) cs s
theorem rmD_tm : ∀ {s cs : List Nat}, leL s cs → (∀ t ∈ cs, t ≤ 7) → (rmD cs s).length = cs.length ∧ ∀ d ∈ rmD cs s, Tm 200 3 d
  | [], [], _, _ => ⟨rfl, fun _ h => by cases h⟩
  | x :: s, t :: cs, h, h7 => by
    obtain ⟨i1, i2⟩ := rmD_tm h.2 fun y hy => h7 y (List.mem_cons_of_mem _ hy)
    refine ⟨?_, fun d hd => ?_⟩
    · show (rmD cs s).length + 1 = cs.length + 1
      rw [i1]
    · have hd : d ∈ PyData.int (((t : Nat) : Int) - ((x : Nat) : Int)) :: rmD cs s := hd
      rcases List.mem_cons.mp hd with rfl | hd
      · have := h.1; have := h7 t List.mem_cons_self
        exact tm_int (by omega) (by omega)
      · exact i2 d hd
  | [], _ :: _, h, _ => h.elim
  | _ :: _, [], h, _ => h.elim
theorem rm_tm {s cs : List Nat} (hc : Crd cs) (h : leL s cs) : Tm 1300 4 (.tuple (rmD cs s)) := by
  obtain ⟨h1, h2⟩ := rmD_tm h hc.top
  exact (Tm.tupOf (n := 6) h2 (by rw [h1]; exact hc.len)).mono (by decide) (by decide)
theorem room_spec {cs s : List Nat} (h6 : cs.length ≤ 6) {Q : SV → Prop} (h : Q (.dat (.tuple (rmD cs s)))) : C_room [.dat (tN cs), .dat (tN s)] Q := by
  refine ⟨rfl, ?_⟩
  show T_room _ [some (.dat (tN cs)), some (.dat (tN s)), none, none]
  dsimp only [T_room, t_lenScr, t_raise1, t_callX, t_callKX, t_xf, t_isx, runX, t_seq, t_if, t_or, t_and, t_not, t_tst, t_v, t_f, t_l, t_c, t_c1, t_op, t_chain', t_ret, t_asg, t_for, t_wenum, t_wlist, t_wtup, t_wstr, t_wrng1, t_wrng2, t_drop, g_setix, t_wzip, t_lname, t_name, t_next, t_ifx, t_isi, t_notV, t_andV, t_orV, t_call, t_callK, t_acons, t_aconsR, t_anil, t_tupd, t_lstd, g_name, g_tup, g_cons, g_nil, t_drop, t_lc, t_yes, t_star1, t_retn, t_par, t_slice, t_some, t_no, t_dict0, t_dict1, t_rev, t_neg, t_extend, t_append, t_sliceScr, t_retbox, t_xcons, LV.get, CS.at_, SV.view, datsOf, Option.map_some, List.getElem?_cons_zero, List.getElem?_cons_succ, List.set_cons_zero, List.set_cons_succ, settled, initC, List.map_cons, List.map_nil, List.length_cons, List.length_nil, List.cons_append, List.nil_append, seqOf, runD, ltY, gtY, inX, notinX, ordX, boolX, addX, subX, mulX, mulY, modX, fdivX, powX, ltX, leX, gtX, geX, eqY, neY, eqX, neX, isX, isnX, ixX, lenX, listX, tupleX, intX, strX, shX, sumX, sumY, maxX, minX, allX, absX, slX]
  refine zip_lc (fun x y => .int (((x : Nat) : Int) - ((y : Nat) : Int))) cs s [] [some (.dat (tN cs)), some (.dat (tN s)), none, none] (by rw [List.length_nil]; omega) (fun x y K hK => ?_) ?_
  · dsimp only [t_lenScr, t_raise1, t_callX, t_callKX, t_xf, t_isx, runX, t_seq, t_if, t_or, t_and, t_not, t_tst, t_v, t_f, t_l, t_c, t_c1, t_op, t_chain', t_ret, t_asg, t_for, t_wenum, t_wlist, t_wtup, t_wstr, t_wrng1, t_wrng2, t_drop, g_setix, t_wzip, t_lname, t_name, t_next, t_ifx, t_isi, t_notV, t_andV, t_orV, t_call, t_callK, t_acons, t_aconsR, t_anil, t_tupd, t_lstd, g_name, g_tup, g_cons, g_nil, t_drop, t_lc, t_yes, t_star1, t_retn, t_par, t_slice, t_some, t_no, t_dict0, t_dict1, t_rev, t_neg, t_extend, t_append, t_sliceScr, t_retbox, t_xcons, LV.get, CS.at_, SV.view, datsOf, Option.map_some, List.getElem?_cons_zero, List.getElem?_cons_succ, List.set_cons_zero, List.set_cons_succ, settled, initC, List.map_cons, List.map_nil, List.length_cons, List.length_nil, List.cons_append, List.nil_append, seqOf, runD, ltY, gtY, inX, notinX, ordX, boolX, addX, subX, mulX, mulY, modX, fdivX, powX, ltX, leX, gtX, geX, eqY, neY, eqX, neX, isX, isnX, ixX, lenX, listX, tupleX, intX, strX, shX, sumX, sumY, maxX, minX, allX, absX, slX]
    exact ⟨rfl, by show 2 < 4; decide, by show 3 < 4; decide, rfl, ⟨_, rfl⟩, ⟨_, rfl⟩, hK⟩
  · exact h
theorem draw_spec {n : Int} {Q : SV → Prop} (h0 : 0 < n) (h1 : n < 2 ^ 60) (h : ∀ r : Int, 0 ≤ r → r < n → Q (.dat (.int r))) : C__law_draw [.raw 5, .dat (.int n)] Q := ⟨rfl, n, rfl, h0, h1, h⟩
theorem pick_spec (ds : List PyData) {Q : SV → Prop} (hn : ds ≠ []) (hl : ds.length < 2 ^ 60) (h : ∀ d ∈ ds, Q (.dat d)) : C__law_pick [.raw 5, .dat (.list ds)] Q := by
  refine ⟨rfl, ?_⟩
  show T__law_pick _ [some (.raw 5), some (.dat (.list ds))]
  dsimp only [T__law_pick, t_lenScr, t_raise1, t_callX, t_callKX, t_xf, t_isx, runX, t_seq, t_if, t_or, t_and, t_not, t_tst, t_v, t_f, t_l, t_c, t_c1, t_op, t_chain', t_ret, t_asg, t_for, t_wenum, t_wlist, t_wtup, t_wstr, t_wrng1, t_wrng2, t_drop, g_setix, t_wzip, t_lname, t_name, t_next, t_ifx, t_isi, t_notV, t_andV, t_orV, t_call, t_callK, t_acons, t_aconsR, t_anil, t_tupd, t_lstd, g_name, g_tup, g_cons, g_nil, t_drop, t_lc, t_yes, t_star1, t_retn, t_par, t_slice, t_some, t_no, t_dict0, t_dict1, t_rev, t_neg, t_extend, t_append, t_sliceScr, t_retbox, t_xcons, LV.get, CS.at_, SV.view, datsOf, Option.map_some, List.getElem?_cons_zero, List.getElem?_cons_succ, List.set_cons_zero, List.set_cons_succ, settled, initC, List.map_cons, List.map_nil, List.length_cons, List.length_nil, List.cons_append, List.nil_append, seqOf, runD, ltY, gtY, inX, notinX, ordX, boolX, addX, subX, mulX, mulY, modX, fdivX, powX, ltX, leX, gtX, geX, eqY, neY, eqX, neX, isX, isnX, ixX, lenX, listX, tupleX, intX, strX, shX, sumX, sumY, maxX, minX, allX, absX, slX]
  refine ⟨⟨_, rfl⟩, rfl, ⟨_, rfl⟩, draw_spec ?_ (by omega) fun r h0 h1 => ?_⟩
  · have := List.length_pos_iff.mpr hn
    omega
  · dsimp only
    have hr : r.toNat < ds.length := by omega
    have e : atI ds r = some ds[r.toNat] := by
      unfold atI ixN
      rw [if_pos h0, if_pos h1]
      simp [hr]
    rw [e]
    exact h _ (List.getElem_mem hr)
theorem tR_mem {cs : List Nat} {d : PyData} (h : d ∈ tR cs) : ∃ s, leL s cs ∧ d = tN s := by
  rw [tR_eq] at h
  obtain ⟨s, hs, rfl⟩ := List.mem_map.mp h
  exact ⟨s, rows_mem hs, rfl⟩
theorem tR_len (cs : List Nat) : (tR cs).length = sz cs := rT_len cs _
theorem tR_ne (cs : List Nat) : tR cs ≠ [] := fun e => by
  have := tR_len cs
  rw [e] at this
  have := sz_pos cs
  simp at *
  omega
theorem leB_anti : ∀ {a b : List Nat}, a.length = b.length → leB a b = true → leB b a = true → a = b
  | [], [], _, _, _ => rfl
  | x :: a, y :: b, h, h1, h2 => by
    have h1 : (decide (x ≤ y) && leB a b) = true := h1
    have h2 : (decide (y ≤ x) && leB b a) = true := h2
    rw [Bool.and_eq_true, decide_eq_true_eq] at h1 h2
    rw [leB_anti (by simpa using h) h1.2 h2.2, show x = y by omega]
theorem leB_trans : ∀ {a b c : List Nat}, a.length = b.length → b.length = c.length → leB a b = true → leB b c = true → leB a c = true
  | [], [], [], _, _, _, _ => rfl
  | x :: a, y :: b, z :: c, h, h', h1, h2 => by
    have h1 : (decide (x ≤ y) && leB a b) = true := h1
    have h2 : (decide (y ≤ z) && leB b c) = true := h2
    rw [Bool.and_eq_true, decide_eq_true_eq] at h1 h2
    show (decide (x ≤ z) && leB a c) = true
    rw [leB_trans (by simpa using h) (by simpa using h') h1.2 h2.2, decide_eq_true (by omega)]
    rfl
theorem abv_anti {a b : List Nat} (h : a.length = b.length) (h1 : abv a b = true) : abv b a = false := by
  unfold abv at *
  rw [Bool.and_eq_true, Bool.not_eq_true', decide_eq_false_iff_not] at h1
  cases h2 : leB b a with
  | false => rw [Bool.and_false]
  | true => exact absurd (leB_anti h h1.2 h2) h1.1
theorem abv_trans {a b c : List Nat} (h : a.length = b.length) (h' : b.length = c.length) (h1 : abv a b = true) (h2 : abv b c = true) : abv a c = true := by
  unfold abv at *
  rw [Bool.and_eq_true, Bool.not_eq_true', decide_eq_false_iff_not] at h1 h2
  rw [leB_trans h h' h1.2 h2.2, Bool.and_true, Bool.not_eq_true', decide_eq_false_iff_not]
  intro e
  subst e
  exact h1.1 (leB_anti h h1.2 h2.2)
theorem tm_len (n : Nat) (h : n ≤ 512) : Tm 200 3 (.int (n : Nat)) := by
  have all : (List.range 513).all (fun n => PyData.leavesShort 200 (.int ((n : Nat) : Int)) && (PyData.showable (.int ((n : Nat) : Int)) && decide (PyData.weight (.int ((n : Nat) : Int)) ≤ 200))) = true := by decide +kernel
  have := List.all_eq_true.mp all n (List.mem_range.mpr (by omega))
  rw [Bool.and_eq_true, Bool.and_eq_true, decide_eq_true_eq] at this
  exact ⟨this.1, this.2.1, this.2.2, by simp [PyData.depth]⟩
end Lk

namespace Lk
open PySem PySem.Spec PyProof.Rows L2 Cl Cards
theorem restC_self (vs : List Nat) (cs : CS) : restC vs cs cs = cs := by
  unfold restC
  apply List.ext_getElem?
  intro j
  rw [List.getElem?_mapIdx]
  cases h : cs[j]? with
  | none => rfl
  | some x =>
    show some (if j ∈ vs then cs.getD j none else x) = some x
    split
    · rw [List.getD_eq_getElem?_getD, h]; rfl
    · rfl
theorem is_all_spec {cs : List Nat} (hc : Crd cs) {Q : SV → Prop} (h : Q (.dat (.bool true))) : C__law_is_all [.raw 5, .dat (tN cs)] Q := by
  refine ⟨rfl, ?_⟩
  have h6 := hc.len
  have hsz := hc.sz
  have lst : ∀ {s : List Nat}, leL s cs → s.length ≤ 6 := fun hs => by rw [leL_len hs]; exact h6
  have eql : ∀ {a b : List Nat}, leL a cs → leL b cs → a.length = b.length := fun h1 h2 => (leL_len h1).trans (leL_len h2).symm
  have s7 : ∀ {s : List Nat}, leL s cs → ∀ x ∈ s, x ≤ 7 := fun hs => leL_le hs hc.top
  show T__law_is_all _ [some (.raw 5), some (.dat (tN cs)), none, none, none, none, none, none, none, none, none, none]
  refine seq_step (fun c => c = [some (.raw 5), some (.dat (tN cs)), some (.own (tR cs)), none, none, none, none, none, none, none, none, none]) (fun N hN => ?_) ?_
  · dsimp only [t_lenScr, t_raise1, t_callX, t_callKX, t_xf, t_isx, runX, t_seq, t_if, t_or, t_and, t_not, t_tst, t_v, t_f, t_l, t_c, t_c1, t_op, t_chain', t_ret, t_asg, t_for, t_wenum, t_wlist, t_wtup, t_wstr, t_wrng1, t_wrng2, t_drop, g_setix, t_wzip, t_lname, t_name, t_next, t_ifx, t_isi, t_notV, t_andV, t_orV, t_call, t_callK, t_acons, t_aconsR, t_anil, t_tupd, t_lstd, g_name, g_tup, g_cons, g_nil, t_drop, t_lc, t_yes, t_star1, t_retn, t_par, t_slice, t_some, t_no, t_dict0, t_dict1, t_rev, t_neg, t_extend, t_append, t_sliceScr, t_retbox, t_xcons, LV.get, CS.at_, SV.view, datsOf, Option.map_some, List.getElem?_cons_zero, List.getElem?_cons_succ, List.set_cons_zero, List.set_cons_succ, settled, initC, List.map_cons, List.map_nil, List.length_cons, List.length_nil, List.cons_append, List.nil_append, seqOf, runD, ltY, gtY, inX, notinX, ordX, boolX, addX, subX, mulX, mulY, modX, fdivX, powX, ltX, leX, gtX, geX, eqY, neY, eqX, neX, isX, isnX, ixX, lenX, listX, tupleX, intX, strX, shX, sumX, sumY, maxX, minX, allX, absX, slX]
    exact all_spec hc ⟨by show 2 < 12; decide, hN _ rfl⟩
  rintro c rfl
  refine seq_step (fun c => ∃ x y, c = [some (.raw 5), some (.dat (tN cs)), some (.dat (.list (tR cs))), x, y, none, none, none, none, none, none, none]) (fun N hN => ?_) ?_
  · dsimp only [t_for, t_wlist, t_f, t_name, List.getElem?_cons_succ, List.getElem?_cons_zero, List.set_cons_zero, List.set_cons_succ, SV.view]
    refine forD_ind (I := fun ds c => ∃ (x y : Option SV), (∀ d ∈ ds, d ∈ tR cs) ∧ c = [some (.raw 5), some (.dat (tN cs)), some (.dat (.list (tR cs))), x, y, none, none, none, none, none, none, none]) ?_ ?_ _ _ ⟨none, none, fun _ h => h, rfl⟩
    · rintro c ⟨x, y, _, rfl⟩
      exact hN _ ⟨x, y, rfl⟩
    · rintro d ds c N' hN' ⟨x, y, hd, rfl⟩
      obtain ⟨s, hs, rfl⟩ := tR_mem (hd d List.mem_cons_self)
      refine ⟨by show 3 < 12; decide, ?_⟩
      refine seq_step (fun c => c = [some (.raw 5), some (.dat (tN cs)), some (.dat (.list (tR cs))), some (.dat (tN s)), some (.dat (.tuple (rmD cs s))), none, none, none, none, none, none, none]) (fun N2 hN2 => ?_) ?_
      · dsimp only [t_lenScr, t_raise1, t_callX, t_callKX, t_xf, t_isx, runX, t_seq, t_if, t_or, t_and, t_not, t_tst, t_v, t_f, t_l, t_c, t_c1, t_op, t_chain', t_ret, t_asg, t_for, t_wenum, t_wlist, t_wtup, t_wstr, t_wrng1, t_wrng2, t_drop, g_setix, t_wzip, t_lname, t_name, t_next, t_ifx, t_isi, t_notV, t_andV, t_orV, t_call, t_callK, t_acons, t_aconsR, t_anil, t_tupd, t_lstd, g_name, g_tup, g_cons, g_nil, t_drop, t_lc, t_yes, t_star1, t_retn, t_par, t_slice, t_some, t_no, t_dict0, t_dict1, t_rev, t_neg, t_extend, t_append, t_sliceScr, t_retbox, t_xcons, LV.get, CS.at_, SV.view, datsOf, Option.map_some, List.getElem?_cons_zero, List.getElem?_cons_succ, List.set_cons_zero, List.set_cons_succ, settled, initC, List.map_cons, List.map_nil, List.length_cons, List.length_nil, List.cons_append, List.nil_append, seqOf, runD, ltY, gtY, inX, notinX, ordX, boolX, addX, subX, mulX, mulY, modX, fdivX, powX, ltX, leX, gtX, geX, eqY, neY, eqX, neX, isX, isnX, ixX, lenX, listX, tupleX, intX, strX, shX, sumX, sumY, maxX, minX, allX, absX, slX]
        refine zip_lc (fun x y => .int (((x : Nat) : Int) - ((y : Nat) : Int))) cs s [] [some (.raw 5), some (.dat (tN cs)), some (.dat (.list (tR cs))), some (.dat (tN s)), y, none, none, none, none, none, none, none] (by rw [List.length_nil]; omega) (fun x y K hK => ?_) ?_
        · dsimp only [t_lenScr, t_raise1, t_callX, t_callKX, t_xf, t_isx, runX, t_seq, t_if, t_or, t_and, t_not, t_tst, t_v, t_f, t_l, t_c, t_c1, t_op, t_chain', t_ret, t_asg, t_for, t_wenum, t_wlist, t_wtup, t_wstr, t_wrng1, t_wrng2, t_drop, g_setix, t_wzip, t_lname, t_name, t_next, t_ifx, t_isi, t_notV, t_andV, t_orV, t_call, t_callK, t_acons, t_aconsR, t_anil, t_tupd, t_lstd, g_name, g_tup, g_cons, g_nil, t_drop, t_lc, t_yes, t_star1, t_retn, t_par, t_slice, t_some, t_no, t_dict0, t_dict1, t_rev, t_neg, t_extend, t_append, t_sliceScr, t_retbox, t_xcons, LV.get, CS.at_, SV.view, datsOf, Option.map_some, List.getElem?_cons_zero, List.getElem?_cons_succ, List.set_cons_zero, List.set_cons_succ, settled, initC, List.map_cons, List.map_nil, List.length_cons, List.length_nil, List.cons_append, List.nil_append, seqOf, runD, ltY, gtY, inX, notinX, ordX, boolX, addX, subX, mulX, mulY, modX, fdivX, powX, ltX, leX, gtX, geX, eqY, neY, eqX, neX, isX, isnX, ixX, lenX, listX, tupleX, intX, strX, shX, sumX, sumY, maxX, minX, allX, absX, slX]
          exact ⟨rfl, by show 5 < 12; decide, by show 6 < 12; decide, rfl, ⟨_, rfl⟩, ⟨_, rfl⟩, hK⟩
        · exact ⟨by show 4 < 12; decide, hN2 _ rfl⟩
      rintro c rfl
      refine seq_step (fun c => c = [some (.raw 5), some (.dat (tN cs)), some (.dat (.list (tR cs))), some (.dat (tN s)), some (.dat (.tuple (rmD cs s))), none, none, none, none, none, none, none]) (fun N2 hN2 => ?_) ?_
      · dsimp only [t_lenScr, t_raise1, t_callX, t_callKX, t_xf, t_isx, runX, t_seq, t_if, t_or, t_and, t_not, t_tst, t_v, t_f, t_l, t_c, t_c1, t_op, t_chain', t_ret, t_asg, t_for, t_wenum, t_wlist, t_wtup, t_wstr, t_wrng1, t_wrng2, t_drop, g_setix, t_wzip, t_lname, t_name, t_next, t_ifx, t_isi, t_notV, t_andV, t_orV, t_call, t_callK, t_acons, t_aconsR, t_anil, t_tupd, t_lstd, g_name, g_tup, g_cons, g_nil, t_drop, t_lc, t_yes, t_star1, t_retn, t_par, t_slice, t_some, t_no, t_dict0, t_dict1, t_rev, t_neg, t_extend, t_append, t_sliceScr, t_retbox, t_xcons, LV.get, CS.at_, SV.view, datsOf, Option.map_some, List.getElem?_cons_zero, List.getElem?_cons_succ, List.set_cons_zero, List.set_cons_succ, settled, initC, List.map_cons, List.map_nil, List.length_cons, List.length_nil, List.cons_append, List.nil_append, seqOf, runD, ltY, gtY, inX, notinX, ordX, boolX, addX, subX, mulX, mulY, modX, fdivX, powX, ltX, leX, gtX, geX, eqY, neY, eqX, neX, isX, isnX, ixX, lenX, listX, tupleX, intX, strX, shX, sumX, sumY, maxX, minX, allX, absX, slX]
        exact room_spec h6 ⟨(rm_tm hc hs).ok, ⟨_, rfl⟩, (rm_tm hc hs).ok, eqb _ (hN2 _ rfl)⟩
      rintro c rfl
      dsimp only [t_lenScr, t_raise1, t_callX, t_callKX, t_xf, t_isx, runX, t_seq, t_if, t_or, t_and, t_not, t_tst, t_v, t_f, t_l, t_c, t_c1, t_op, t_chain', t_ret, t_asg, t_for, t_wenum, t_wlist, t_wtup, t_wstr, t_wrng1, t_wrng2, t_drop, g_setix, t_wzip, t_lname, t_name, t_next, t_ifx, t_isi, t_notV, t_andV, t_orV, t_call, t_callK, t_acons, t_aconsR, t_anil, t_tupd, t_lstd, g_name, g_tup, g_cons, g_nil, t_drop, t_lc, t_yes, t_star1, t_retn, t_par, t_slice, t_some, t_no, t_dict0, t_dict1, t_rev, t_neg, t_extend, t_append, t_sliceScr, t_retbox, t_xcons, LV.get, CS.at_, SV.view, datsOf, Option.map_some, List.getElem?_cons_zero, List.getElem?_cons_succ, List.set_cons_zero, List.set_cons_succ, settled, initC, List.map_cons, List.map_nil, List.length_cons, List.length_nil, List.cons_append, List.nil_append, seqOf, runD, ltY, gtY, inX, notinX, ordX, boolX, addX, subX, mulX, mulY, modX, fdivX, powX, ltX, leX, gtX, geX, eqY, neY, eqX, neX, isX, isnX, ixX, lenX, listX, tupleX, intX, strX, shX, sumX, sumY, maxX, minX, allX, absX, slX]
      refine lcD_filter (fun _ => false) (fun d => d) [some (.raw 5), some (.dat (tN cs)), some (.dat (.list (tR cs))), some (.dat (tN s)), some (.dat (.tuple (rmD cs s))), none, none, none, none, none, none, none] _ [] (by rw [List.length_nil, tR_len, sizeLine_eq]; omega) (fun d hd2 K N2 hK hN2 => ?_) ?_
      · obtain ⟨s2, hs2, rfl⟩ := tR_mem hd2
        dsimp only [t_lenScr, t_raise1, t_callX, t_callKX, t_xf, t_isx, runX, t_seq, t_if, t_or, t_and, t_not, t_tst, t_v, t_f, t_l, t_c, t_c1, t_op, t_chain', t_ret, t_asg, t_for, t_wenum, t_wlist, t_wtup, t_wstr, t_wrng1, t_wrng2, t_drop, g_setix, t_wzip, t_lname, t_name, t_next, t_ifx, t_isi, t_notV, t_andV, t_orV, t_call, t_callK, t_acons, t_aconsR, t_anil, t_tupd, t_lstd, g_name, g_tup, g_cons, g_nil, t_drop, t_lc, t_yes, t_star1, t_retn, t_par, t_slice, t_some, t_no, t_dict0, t_dict1, t_rev, t_neg, t_extend, t_append, t_sliceScr, t_retbox, t_xcons, LV.get, CS.at_, SV.view, datsOf, Option.map_some, List.getElem?_cons_zero, List.getElem?_cons_succ, List.set_cons_zero, List.set_cons_succ, settled, initC, List.map_cons, List.map_nil, List.length_cons, List.length_nil, List.cons_append, List.nil_append, seqOf, runD, ltY, gtY, inX, notinX, ordX, boolX, addX, subX, mulX, mulY, modX, fdivX, powX, ltX, leX, gtX, geX, eqY, neY, eqX, neX, isX, isnX, ixX, lenX, listX, tupleX, intX, strX, shX, sumX, sumY, maxX, minX, allX, absX, slX]
        refine ⟨by show 7 < 12; decide, ?_⟩
        exact compared_spec cs s s2 (eql hs hs2) (lst hs) (s7 hs) (s7 hs2) (iteF (hN2 rfl))
      · have e : (tR cs).filter (fun _ => false) = [] := by simp
        rw [e]
        show _ ∧ _ ∧ _ ∧ _
        refine ⟨by decide, by decide +kernel, by decide +kernel, ?_⟩
        rw [show PyData.eqv (.list ([] ++ [].map fun d => d)) (.list []) = true by decide +kernel]
        exact iteF (hN' _ ⟨_, _, fun d hd2 => hd d (List.mem_cons_of_mem _ hd2), rfl⟩)
  rintro c ⟨x, y, rfl⟩
  refine seq_step (fun c => ∃ a b e, leL a cs ∧ leL b cs ∧ leL e cs ∧ c = [some (.raw 5), some (.dat (tN cs)), some (.dat (.list (tR cs))), some (.dat (tN a)), y, none, none, some (.dat (tN b)), some (.dat (tN e)), none, none, none]) (fun N hN => ?_) ?_
  · dsimp only [t_asg, t_lc, t_wrng1, t_acons, t_c, t_anil]
    refine ⟨by decide, by decide, ?_⟩
    refine lcD_ind (I := fun ds acc c => c = [some (.raw 5), some (.dat (tN cs)), some (.dat (.list (tR cs))), x, y, none, none, none, none, none, none, none] ∧ ∃ us : List (List Nat), acc = tI us ∧ (∀ u ∈ us, leL u cs) ∧ us.length + ds.length = 3) ?_ ?_ _ _ _ ⟨rfl, [], rfl, (fun _ h => by cases h), by decide⟩
    · rintro acc c ⟨rfl, us, rfl, hu, hl⟩
      match us, hu, hl with
      | [a, b, e], hu, _ =>
        rw [restC_self]
        dsimp only [g_tup, g_cons, g_name, g_nil, tI, List.map_cons, List.map_nil]
        refine ⟨rfl, by show 3 < 12; decide, by show 7 < 12; decide, by show 8 < 12; decide, rfl, hN _ ⟨a, b, e, hu a (by simp), hu b (by simp), hu e (by simp), ?_⟩⟩
        rfl
      | [], _, hl => cases hl
      | [_], _, hl => cases hl
      | [_, _], _, hl => cases hl
      | _ :: _ :: _ :: _ :: _, _, hl => simp at hl
    · rintro d ds acc c N' hN' ⟨rfl, us, rfl, hu, hl⟩
      rw [List.length_cons] at hl
      dsimp only [t_lenScr, t_raise1, t_callX, t_callKX, t_xf, t_isx, runX, t_seq, t_if, t_or, t_and, t_not, t_tst, t_v, t_f, t_l, t_c, t_c1, t_op, t_chain', t_ret, t_asg, t_for, t_wenum, t_wlist, t_wtup, t_wstr, t_wrng1, t_wrng2, t_drop, g_setix, t_wzip, t_lname, t_name, t_next, t_ifx, t_isi, t_notV, t_andV, t_orV, t_call, t_callK, t_acons, t_aconsR, t_anil, t_tupd, t_lstd, g_name, g_tup, g_cons, g_nil, t_drop, t_lc, t_yes, t_star1, t_retn, t_par, t_slice, t_some, t_no, t_dict0, t_dict1, t_rev, t_neg, t_extend, t_append, t_sliceScr, t_retbox, t_xcons, LV.get, CS.at_, SV.view, datsOf, Option.map_some, List.getElem?_cons_zero, List.getElem?_cons_succ, List.set_cons_zero, List.set_cons_succ, settled, initC, List.map_cons, List.map_nil, List.length_cons, List.length_nil, List.cons_append, List.nil_append, seqOf, runD, ltY, gtY, inX, notinX, ordX, boolX, addX, subX, mulX, mulY, modX, fdivX, powX, ltX, leX, gtX, geX, eqY, neY, eqX, neX, isX, isnX, ixX, lenX, listX, tupleX, intX, strX, shX, sumX, sumY, maxX, minX, allX, absX, slX]
      refine ⟨by show 9 < 12; decide, iteT ⟨rfl, pick_spec _ (tR_ne cs) (by rw [tR_len]; omega) fun d hd => ?_⟩⟩
      obtain ⟨s, hs, rfl⟩ := tR_mem hd
      refine ⟨by unfold tI; rw [List.length_map, sizeLine_eq]; omega, hN' _ _ ⟨rfl, us ++ [s], by rw [tI_append]; rfl, fun u hm => ?_, by rw [List.length_append, List.length_singleton]; omega⟩⟩
      rcases List.mem_append.mp hm with hm | hm
      · exact hu u hm
      · rw [List.mem_singleton] at hm; subst hm; exact hs
  rintro c ⟨a, b, e, ha, hb, he, rfl⟩
  refine seq_step (fun c => c = [some (.raw 5), some (.dat (tN cs)), some (.dat (.list (tR cs))), some (.dat (tN a)), y, none, none, some (.dat (tN b)), some (.dat (tN e)), none, some (.own [.bool (abv a b), .bool (abv b a), .bool (abv b e), .bool (abv a e)]), none]) (fun N hN => ?_) ?_
  · dsimp only [t_lenScr, t_raise1, t_callX, t_callKX, t_xf, t_isx, runX, t_seq, t_if, t_or, t_and, t_not, t_tst, t_v, t_f, t_l, t_c, t_c1, t_op, t_chain', t_ret, t_asg, t_for, t_wenum, t_wlist, t_wtup, t_wstr, t_wrng1, t_wrng2, t_drop, g_setix, t_wzip, t_lname, t_name, t_next, t_ifx, t_isi, t_notV, t_andV, t_orV, t_call, t_callK, t_acons, t_aconsR, t_anil, t_tupd, t_lstd, g_name, g_tup, g_cons, g_nil, t_drop, t_lc, t_yes, t_star1, t_retn, t_par, t_slice, t_some, t_no, t_dict0, t_dict1, t_rev, t_neg, t_extend, t_append, t_sliceScr, t_retbox, t_xcons, LV.get, CS.at_, SV.view, datsOf, Option.map_some, List.getElem?_cons_zero, List.getElem?_cons_succ, List.set_cons_zero, List.set_cons_succ, settled, initC, List.map_cons, List.map_nil, List.length_cons, List.length_nil, List.cons_append, List.nil_append, seqOf, runD, ltY, gtY, inX, notinX, ordX, boolX, addX, subX, mulX, mulY, modX, fdivX, powX, ltX, leX, gtX, geX, eqY, neY, eqX, neX, isX, isnX, ixX, lenX, listX, tupleX, intX, strX, shX, sumX, sumY, maxX, minX, allX, absX, slX]
    refine above_spec a b (eql ha hb) (lst ha) ?_
    refine ⟨⟨rfl, rfl⟩, above_spec b a (eql hb ha) (lst hb) ?_⟩
    refine above_spec b e (eql hb he) (lst hb) ?_
    refine above_spec a e (eql ha he) (lst ha) ?_
    exact ⟨by rw [sizeLine_eq]; decide, by show 10 < 12; decide, hN _ rfl⟩
  rintro c rfl
  refine seq_step (fun c => c = [some (.raw 5), some (.dat (tN cs)), some (.dat (.list (tR cs))), some (.dat (tN a)), y, none, none, some (.dat (tN b)), some (.dat (tN e)), none, some (.own [.bool (abv a b), .bool (abv b a), .bool (abv b e), .bool (abv a e)]), none]) (fun N hN => ?_) ?_
  · dsimp only [t_lenScr, t_raise1, t_callX, t_callKX, t_xf, t_isx, runX, t_seq, t_if, t_or, t_and, t_not, t_tst, t_v, t_f, t_l, t_c, t_c1, t_op, t_chain', t_ret, t_asg, t_for, t_wenum, t_wlist, t_wtup, t_wstr, t_wrng1, t_wrng2, t_drop, g_setix, t_wzip, t_lname, t_name, t_next, t_ifx, t_isi, t_notV, t_andV, t_orV, t_call, t_callK, t_acons, t_aconsR, t_anil, t_tupd, t_lstd, g_name, g_tup, g_cons, g_nil, t_drop, t_lc, t_yes, t_star1, t_retn, t_par, t_slice, t_some, t_no, t_dict0, t_dict1, t_rev, t_neg, t_extend, t_append, t_sliceScr, t_retbox, t_xcons, LV.get, CS.at_, SV.view, datsOf, Option.map_some, List.getElem?_cons_zero, List.getElem?_cons_succ, List.set_cons_zero, List.set_cons_succ, settled, initC, List.map_cons, List.map_nil, List.length_cons, List.length_nil, List.cons_append, List.nil_append, seqOf, runD, ltY, gtY, inX, notinX, ordX, boolX, addX, subX, mulX, mulY, modX, fdivX, powX, ltX, leX, gtX, geX, eqY, neY, eqX, neX, isX, isnX, ixX, lenX, listX, tupleX, intX, strX, shX, sumX, sumY, maxX, minX, allX, absX, slX]
    refine ⟨⟨_, rfl⟩, ?_⟩
    have n0 : ∀ w x y z : PyData, atI [w, x, y, z] 0 = some w := fun _ _ _ _ => rfl
    have n1 : ∀ w x y z : PyData, atI [w, x, y, z] 1 = some x := fun _ _ _ _ => rfl
    have n2 : ∀ w x y z : PyData, atI [w, x, y, z] 2 = some y := fun _ _ _ _ => rfl
    have n3 : ∀ w x y z : PyData, atI [w, x, y, z] 3 = some z := fun _ _ _ _ => rfl
    simp only [n0, n1, n2, n3]
    cases h1 : abv a b with
    | false =>
      exact iteF (iteF ⟨⟨_, rfl⟩, iteF (iteF (hN _ (by rw [h1])))⟩)
    | true =>
      refine iteT ⟨⟨_, rfl⟩, ?_⟩
      simp only [abv_anti (eql ha hb) h1]
      refine iteF ⟨⟨_, rfl⟩, ?_⟩
      rw [if_pos True.intro]
      refine ⟨⟨_, rfl⟩, ?_⟩
      cases h2 : abv b e with
      | false => exact iteF (iteF (hN _ (by rw [h1, h2, abv_anti (eql ha hb) h1])))
      | true =>
        refine iteT ⟨⟨_, rfl⟩, ?_⟩
        simp only [abv_trans (eql ha hb) (eql hb he) h1 h2]
        exact iteF (hN _ (by rw [h1, h2, abv_anti (eql ha hb) h1, abv_trans (eql ha hb) (eql hb he) h1 h2]))
  rintro c rfl
  refine seq_step (fun c => ∃ z, c = [some (.raw 5), some (.dat (tN cs)), some (.dat (.list (tR cs))), some (.dat (tN a)), y, none, none, some (.dat (tN b)), some (.dat (tN e)), none, z, some (.dat (tN cs))]) (fun N hN => ?_) ?_
  · dsimp only [t_lenScr, t_raise1, t_callX, t_callKX, t_xf, t_isx, runX, t_seq, t_if, t_or, t_and, t_not, t_tst, t_v, t_f, t_l, t_c, t_c1, t_op, t_chain', t_ret, t_asg, t_for, t_wenum, t_wlist, t_wtup, t_wstr, t_wrng1, t_wrng2, t_drop, g_setix, t_wzip, t_lname, t_name, t_next, t_ifx, t_isi, t_notV, t_andV, t_orV, t_call, t_callK, t_acons, t_aconsR, t_anil, t_tupd, t_lstd, g_name, g_tup, g_cons, g_nil, t_drop, t_lc, t_yes, t_star1, t_retn, t_par, t_slice, t_some, t_no, t_dict0, t_dict1, t_rev, t_neg, t_extend, t_append, t_sliceScr, t_retbox, t_xcons, LV.get, CS.at_, SV.view, datsOf, Option.map_some, List.getElem?_cons_zero, List.getElem?_cons_succ, List.set_cons_zero, List.set_cons_succ, settled, initC, List.map_cons, List.map_nil, List.length_cons, List.length_nil, List.cons_append, List.nil_append, seqOf, runD, ltY, gtY, inX, notinX, ordX, boolX, addX, subX, mulX, mulY, modX, fdivX, powX, ltX, leX, gtX, geX, eqY, neY, eqX, neX, isX, isnX, ixX, lenX, listX, tupleX, intX, strX, shX, sumX, sumY, maxX, minX, allX, absX, slX]
    exact ⟨⟨_, rfl⟩, by show 11 < 12; decide, hN _ ⟨_, rfl⟩⟩
  rintro c ⟨z, rfl⟩
  refine seq_step (fun c => c = [some (.raw 5), some (.dat (tN cs)), some (.dat (.list (tR cs))), some (.dat (tN a)), y, none, none, some (.dat (tN b)), some (.dat (tN e)), none, some (.own [.tuple (rmD cs a), .int (sz cs : Nat)]), some (.dat (tN cs))]) (fun N hN => ?_) ?_
  · dsimp only [t_lenScr, t_raise1, t_callX, t_callKX, t_xf, t_isx, runX, t_seq, t_if, t_or, t_and, t_not, t_tst, t_v, t_f, t_l, t_c, t_c1, t_op, t_chain', t_ret, t_asg, t_for, t_wenum, t_wlist, t_wtup, t_wstr, t_wrng1, t_wrng2, t_drop, g_setix, t_wzip, t_lname, t_name, t_next, t_ifx, t_isi, t_notV, t_andV, t_orV, t_call, t_callK, t_acons, t_aconsR, t_anil, t_tupd, t_lstd, g_name, g_tup, g_cons, g_nil, t_drop, t_lc, t_yes, t_star1, t_retn, t_par, t_slice, t_some, t_no, t_dict0, t_dict1, t_rev, t_neg, t_extend, t_append, t_sliceScr, t_retbox, t_xcons, LV.get, CS.at_, SV.view, datsOf, Option.map_some, List.getElem?_cons_zero, List.getElem?_cons_succ, List.set_cons_zero, List.set_cons_succ, settled, initC, List.map_cons, List.map_nil, List.length_cons, List.length_nil, List.cons_append, List.nil_append, seqOf, runD, ltY, gtY, inX, notinX, ordX, boolX, addX, subX, mulX, mulY, modX, fdivX, powX, ltX, leX, gtX, geX, eqY, neY, eqX, neX, isX, isnX, ixX, lenX, listX, tupleX, intX, strX, shX, sumX, sumY, maxX, minX, allX, absX, slX]
    refine ⟨⟨rfl, rfl⟩, room_spec h6 ⟨⟨rfl, rfl⟩, states_spec hc ?_⟩⟩
    refine ⟨by rw [sizeLine_eq]; decide, by show 10 < 12; decide, hN _ ?_⟩
    rw [tR_len]
  rintro c rfl
  have tm2 : Tm 5000 6 (.list [.tuple (rmD cs a), .int (sz cs : Nat)]) := by
    refine (Tm.lstOf (W := 1300) (D := 4) (n := 2) (fun d hd => ?_) (Nat.le_refl _)).mono (by decide) (by decide)
    simp only [List.mem_cons, List.not_mem_nil, or_false] at hd
    rcases hd with rfl | rfl
    · exact rm_tm hc ha
    · exact (tm_len _ hsz).mono (by decide) (by decide)
  refine seq_step (fun c => ∃ z, c = [some (.raw 5), some (.dat (tN cs)), some (.dat (.list (tR cs))), some (.dat (tN a)), y, none, none, some (.dat (tN b)), some (.dat (tN e)), none, z, some (.dat (tN cs))]) (fun N hN => ?_) ?_
  · dsimp only [t_lenScr, t_raise1, t_callX, t_callKX, t_xf, t_isx, runX, t_seq, t_if, t_or, t_and, t_not, t_tst, t_v, t_f, t_l, t_c, t_c1, t_op, t_chain', t_ret, t_asg, t_for, t_wenum, t_wlist, t_wtup, t_wstr, t_wrng1, t_wrng2, t_drop, g_setix, t_wzip, t_lname, t_name, t_next, t_ifx, t_isi, t_notV, t_andV, t_orV, t_call, t_callK, t_acons, t_aconsR, t_anil, t_tupd, t_lstd, g_name, g_tup, g_cons, g_nil, t_drop, t_lc, t_yes, t_star1, t_retn, t_par, t_slice, t_some, t_no, t_dict0, t_dict1, t_rev, t_neg, t_extend, t_append, t_sliceScr, t_retbox, t_xcons, LV.get, CS.at_, SV.view, datsOf, Option.map_some, List.getElem?_cons_zero, List.getElem?_cons_succ, List.set_cons_zero, List.set_cons_succ, settled, initC, List.map_cons, List.map_nil, List.length_cons, List.length_nil, List.cons_append, List.nil_append, seqOf, runD, ltY, gtY, inX, notinX, ordX, boolX, addX, subX, mulX, mulY, modX, fdivX, powX, ltX, leX, gtX, geX, eqY, neY, eqX, neX, isX, isnX, ixX, lenX, listX, tupleX, intX, strX, shX, sumX, sumY, maxX, minX, allX, absX, slX]
    refine ⟨⟨_, rfl⟩, tm2.ok, ?_⟩
    refine zip_lc (fun x y => .int (((x : Nat) : Int) - ((y : Nat) : Int))) cs a [] [some (.raw 5), some (.dat (tN cs)), some (.dat (.list (tR cs))), some (.dat (tN a)), y, none, none, some (.dat (tN b)), some (.dat (tN e)), none, some (.own [.tuple (rmD cs a), .int (sz cs : Nat)]), some (.dat (tN cs))] (by rw [List.length_nil]; omega) (fun x y K hK => ?_) ?_
    · dsimp only [t_lenScr, t_raise1, t_callX, t_callKX, t_xf, t_isx, runX, t_seq, t_if, t_or, t_and, t_not, t_tst, t_v, t_f, t_l, t_c, t_c1, t_op, t_chain', t_ret, t_asg, t_for, t_wenum, t_wlist, t_wtup, t_wstr, t_wrng1, t_wrng2, t_drop, g_setix, t_wzip, t_lname, t_name, t_next, t_ifx, t_isi, t_notV, t_andV, t_orV, t_call, t_callK, t_acons, t_aconsR, t_anil, t_tupd, t_lstd, g_name, g_tup, g_cons, g_nil, t_drop, t_lc, t_yes, t_star1, t_retn, t_par, t_slice, t_some, t_no, t_dict0, t_dict1, t_rev, t_neg, t_extend, t_append, t_sliceScr, t_retbox, t_xcons, LV.get, CS.at_, SV.view, datsOf, Option.map_some, List.getElem?_cons_zero, List.getElem?_cons_succ, List.set_cons_zero, List.set_cons_succ, settled, initC, List.map_cons, List.map_nil, List.length_cons, List.length_nil, List.cons_append, List.nil_append, seqOf, runD, ltY, gtY, inX, notinX, ordX, boolX, addX, subX, mulX, mulY, modX, fdivX, powX, ltX, leX, gtX, geX, eqY, neY, eqX, neX, isX, isnX, ixX, lenX, listX, tupleX, intX, strX, shX, sumX, sumY, maxX, minX, allX, absX, slX]
      exact ⟨rfl, by show 5 < 12; decide, by show 6 < 12; decide, rfl, ⟨_, rfl⟩, ⟨_, rfl⟩, hK⟩
    · simp only [restC_self]
      dsimp only [List.getElem?_cons_succ, List.getElem?_cons_zero, SV.view]
      refine ⟨⟨_, rfl⟩, by rw [sizeLine_eq]; decide, ?_⟩
      rw [tR_len]
      exact ⟨tm2.ok, eqb _ (hN _ ⟨_, rfl⟩)⟩
  rintro c ⟨z, rfl⟩
  have b1 := SN_bd a (s7 ha)
  have b2 := SN_bd cs hc.top
  have b3 := lst ha
  have ok : shOk (.int (SN cs - SN a)) := (tm_int (by omega) (by omega)).ok
  dsimp only [t_lenScr, t_raise1, t_callX, t_callKX, t_xf, t_isx, runX, t_seq, t_if, t_or, t_and, t_not, t_tst, t_v, t_f, t_l, t_c, t_c1, t_op, t_chain', t_ret, t_asg, t_for, t_wenum, t_wlist, t_wtup, t_wstr, t_wrng1, t_wrng2, t_drop, g_setix, t_wzip, t_lname, t_name, t_next, t_ifx, t_isi, t_notV, t_andV, t_orV, t_call, t_callK, t_acons, t_aconsR, t_anil, t_tupd, t_lstd, g_name, g_tup, g_cons, g_nil, t_drop, t_lc, t_yes, t_star1, t_retn, t_par, t_slice, t_some, t_no, t_dict0, t_dict1, t_rev, t_neg, t_extend, t_append, t_sliceScr, t_retbox, t_xcons, LV.get, CS.at_, SV.view, datsOf, Option.map_some, List.getElem?_cons_zero, List.getElem?_cons_succ, List.set_cons_zero, List.set_cons_succ, settled, initC, List.map_cons, List.map_nil, List.length_cons, List.length_nil, List.cons_append, List.nil_append, seqOf, runD, ltY, gtY, inX, notinX, ordX, boolX, addX, subX, mulX, mulY, modX, fdivX, powX, ltX, leX, gtX, geX, eqY, neY, eqX, neX, isX, isnX, ixX, lenX, listX, tupleX, intX, strX, shX, sumX, sumY, maxX, minX, allX, absX, slX]
  refine ⟨⟨rfl, rfl⟩, rises_spec a cs ⟨ok, ⟨_, rfl⟩, ?_⟩⟩
  rw [intsD_iN, intsD_iN]
  refine ⟨⟨_, rfl⟩, ok, ?_⟩
  show Q (.dat (.bool (decide ((PyData.int (SN cs - SN a)).shown = (PyData.int (SN cs - SN a)).shown))))
  rw [decide_eq_true rfl]
  exact h
end Lk

namespace Lk
open PySem PySem.Spec PyProof.Rows L2 Cl Cards
theorem iN_inj : ∀ {a b : List Nat}, iN a = iN b → a = b
  | [], [], _ => rfl
  | [], _ :: _, h => by cases h
  | _ :: _, [], h => by cases h
  | x :: a, y :: b, h => by
    rw [iN_cons, iN_cons] at h
    injection h with h1 h2
    injection h1 with h1
    rw [iN_inj h2, show x = y by omega]
theorem iN_tm {s : List Nat} (h7 : ∀ x ∈ s, x ≤ 7) : ∀ d ∈ iN s, Tm 200 3 d := fun d hd => by
  obtain ⟨x, hx, rfl⟩ := List.mem_map.mp hd
  have := h7 x hx
  exact tm_int (by omega) (by omega)
theorem tup_tm {ds : List PyData} (h : ∀ d ∈ ds, Tm 200 3 d) (hl : ds.length ≤ 14) : Tm 3000 6 (.tuple ds) := (Tm.tupOf (n := 14) h hl).mono (by decide) (by decide)
theorem lst_tm {ds : List PyData} (h : ∀ d ∈ ds, Tm 200 3 d) (hl : ds.length ≤ 14) : Tm 3000 6 (.list ds) := (Tm.lstOf (n := 14) h hl).mono (by decide) (by decide)
theorem cutD_mem {xs : List PyData} {lo hi : Option Int} {d : PyData} (h : d ∈ cutD xs lo hi) : d ∈ xs := by
  unfold Cl.cutD at h
  exact List.mem_of_mem_drop (List.mem_of_mem_take h)
theorem cutD_len (xs : List PyData) (lo hi : Option Int) : (cutD xs lo hi).length ≤ xs.length := by
  unfold Cl.cutD
  rw [List.length_take, List.length_drop]
  omega
theorem atI_at {xs : List PyData} {r : Int} (h0 : 0 ≤ r) (h1 : r < xs.length) : ∃ d, atI xs r = some d ∧ d ∈ xs := by
  have hr : r.toNat < xs.length := by omega
  refine ⟨xs[r.toNat], ?_, List.getElem_mem hr⟩
  unfold atI ixN
  rw [if_pos h0, if_pos h1]
  simp [hr]
theorem atI_iN {xs : List Nat} {r : Int} (h0 : 0 ≤ r) (h1 : r < xs.length) : ∃ x : Nat, atI (iN xs) r = some (.int (x : Nat)) ∧ x ∈ xs := by
  obtain ⟨d, e, hd⟩ := atI_at (xs := iN xs) h0 (by rw [iN_len]; exact h1)
  obtain ⟨x, hx, rfl⟩ := List.mem_map.mp hd
  exact ⟨x, e, hx⟩
theorem tm10 : Tm 200 3 (.int (10 ^ 12)) := ⟨by decide +kernel, by decide +kernel, by decide +kernel, by decide +kernel⟩
theorem odd_spec {cs s : List Nat} (hc : Crd cs) (hs : leL s cs) {Q : SV → Prop} (h : ∀ d, Tm 3000 6 d → Q (.dat d)) : C__law_odd [.raw 5, .dat (tN cs), .dat (tN s)] Q := by
  refine ⟨rfl, ?_⟩
  have h6 := hc.len
  have h1 := hc.one
  have hl := leL_len hs
  have s7 := leL_le hs hc.top
  have zz : sizeLine = 16777216 := sizeLine_eq
  have ts := iN_tm s7
  have tc := iN_tm hc.top
  show T__law_odd _ [some (.raw 5), some (.dat (tN cs)), some (.dat (tN s)), none, none, none, none]
  refine seq_step (fun c => ∃ r : Int, 0 ≤ r ∧ r < cs.length ∧ c = [some (.raw 5), some (.dat (tN cs)), some (.dat (tN s)), some (.dat (.int r)), none, none, none]) (fun N hN => ?_) ?_
  · dsimp only [t_lenScr, t_raise1, t_callX, t_callKX, t_xf, t_isx, runX, t_seq, t_if, t_or, t_and, t_not, t_tst, t_v, t_f, t_l, t_c, t_c1, t_op, t_chain', t_ret, t_asg, t_for, t_wenum, t_wlist, t_wtup, t_wstr, t_wrng1, t_wrng2, t_drop, g_setix, t_wzip, t_lname, t_name, t_next, t_ifx, t_isi, t_notV, t_andV, t_orV, t_call, t_callK, t_acons, t_aconsR, t_anil, t_tupd, t_lstd, g_name, g_tup, g_cons, g_nil, t_drop, t_lc, t_yes, t_star1, t_retn, t_par, t_slice, t_some, t_no, t_dict0, t_dict1, t_rev, t_neg, t_extend, t_append, t_sliceScr, t_retbox, t_xcons, LV.get, CS.at_, SV.view, datsOf, Option.map_some, List.getElem?_cons_zero, List.getElem?_cons_succ, List.set_cons_zero, List.set_cons_succ, settled, initC, List.map_cons, List.map_nil, List.length_cons, List.length_nil, List.cons_append, List.nil_append, seqOf, runD, ltY, gtY, inX, notinX, ordX, boolX, addX, subX, mulX, mulY, modX, fdivX, powX, ltX, leX, gtX, geX, eqY, neY, eqX, neX, isX, isnX, ixX, lenX, listX, tupleX, intX, strX, shX, sumX, sumY, maxX, minX, allX, absX, slX]
    refine ⟨rfl, ⟨_, rfl⟩, draw_spec (by rw [iN_len]; omega) (by rw [iN_len]; omega) fun r g0 g1 => ?_⟩
    rw [iN_len] at g1
    exact ⟨by show 3 < 7; decide, hN _ ⟨r, g0, by omega, rfl⟩⟩
  rintro c ⟨r, g0, g1, rfl⟩
  obtain ⟨t, et, ht⟩ := atI_iN g0 g1
  obtain ⟨l, el, hlm⟩ := atI_iN (xs := s) g0 (by omega)
  have ht7 := hc.top t ht
  have hl7 := s7 l hlm
  refine seq_step (fun c => ∃ f, Tm 200 3 f ∧ c = [some (.raw 5), some (.dat (tN cs)), some (.dat (tN s)), some (.dat (.int r)), some (.dat f), none, none]) (fun N hN => ?_) ?_
  · dsimp only [t_lenScr, t_raise1, t_callX, t_callKX, t_xf, t_isx, runX, t_seq, t_if, t_or, t_and, t_not, t_tst, t_v, t_f, t_l, t_c, t_c1, t_op, t_chain', t_ret, t_asg, t_for, t_wenum, t_wlist, t_wtup, t_wstr, t_wrng1, t_wrng2, t_drop, g_setix, t_wzip, t_lname, t_name, t_next, t_ifx, t_isi, t_notV, t_andV, t_orV, t_call, t_callK, t_acons, t_aconsR, t_anil, t_tupd, t_lstd, g_name, g_tup, g_cons, g_nil, t_drop, t_lc, t_yes, t_star1, t_retn, t_par, t_slice, t_some, t_no, t_dict0, t_dict1, t_rev, t_neg, t_extend, t_append, t_sliceScr, t_retbox, t_xcons, LV.get, CS.at_, SV.view, datsOf, Option.map_some, List.getElem?_cons_zero, List.getElem?_cons_succ, List.set_cons_zero, List.set_cons_succ, settled, initC, List.map_cons, List.map_nil, List.length_cons, List.length_nil, List.cons_append, List.nil_append, seqOf, runD, ltY, gtY, inX, notinX, ordX, boolX, addX, subX, mulX, mulY, modX, fdivX, powX, ltX, leX, gtX, geX, eqY, neY, eqX, neX, isX, isnX, ixX, lenX, listX, tupleX, intX, strX, shX, sumX, sumY, maxX, minX, allX, absX, slX]
    refine ⟨rfl, ⟨_, rfl⟩, ⟨_, rfl⟩, ?_⟩
    rw [et]
    dsimp only
    refine ⟨by rw [zz]; decide, by decide, by decide, by decide, ⟨_, rfl⟩, ⟨_, rfl⟩, ?_⟩
    rw [el]
    dsimp only
    refine ⟨by rw [zz]; decide, by rw [zz]; decide, pick_spec _ (by simp) (by simp) fun d hd => ⟨by show 4 < 7; decide, hN _ ⟨d, ?_, rfl⟩⟩⟩
    simp only [List.mem_cons, List.not_mem_nil, or_false] at hd
    rcases hd with rfl | rfl | rfl | rfl | rfl | rfl | rfl | rfl | rfl | rfl
    · exact tm_int (by omega) (by omega)
    · exact tm_dec
    · exact tm_dec
    · exact tm_dec
    · exact tm_dec
    · exact tm_dec
    · exact tm_dec
    · exact tm10
    · exact tm_int (by omega) (by omega)
    · exact tm_dec
  rintro c ⟨f, tf, rfl⟩
  refine seq_step (fun c => ∃ ds : List PyData, ds.length = 6 ∧ (∀ d ∈ ds, Tm 3000 6 d) ∧ c = [some (.raw 5), some (.dat (tN cs)), some (.dat (tN s)), some (.dat (.int r)), some (.dat f), some (.own ds), none]) (fun N hN => ?_) ?_
  · dsimp only [t_lenScr, t_raise1, t_callX, t_callKX, t_xf, t_isx, runX, t_seq, t_if, t_or, t_and, t_not, t_tst, t_v, t_f, t_l, t_c, t_c1, t_op, t_chain', t_ret, t_asg, t_for, t_wenum, t_wlist, t_wtup, t_wstr, t_wrng1, t_wrng2, t_drop, g_setix, t_wzip, t_lname, t_name, t_next, t_ifx, t_isi, t_notV, t_andV, t_orV, t_call, t_callK, t_acons, t_aconsR, t_anil, t_tupd, t_lstd, g_name, g_tup, g_cons, g_nil, t_drop, t_lc, t_yes, t_star1, t_retn, t_par, t_slice, t_some, t_no, t_dict0, t_dict1, t_rev, t_neg, t_extend, t_append, t_sliceScr, t_retbox, t_xcons, LV.get, CS.at_, SV.view, datsOf, Option.map_some, List.getElem?_cons_zero, List.getElem?_cons_succ, List.set_cons_zero, List.set_cons_succ, settled, initC, List.map_cons, List.map_nil, List.length_cons, List.length_nil, List.cons_append, List.nil_append, seqOf, runD, ltY, gtY, inX, notinX, ordX, boolX, addX, subX, mulX, mulY, modX, fdivX, powX, ltX, leX, gtX, geX, eqY, neY, eqX, neX, isX, isnX, ixX, lenX, listX, tupleX, intX, strX, shX, sumX, sumY, maxX, minX, allX, absX, slX]
    have c1 := cutD_len (iN s) none (some r)
    have c2 := cutD_len (iN s) (some (r + 1)) none
    rw [iN_len] at c1 c2
    refine ⟨⟨_, rfl⟩, by rw [zz]; decide, ?_, ⟨_, rfl⟩, ⟨_, rfl⟩, ?_, by rw [zz]; decide, by decide, by decide, by rw [zz]; show 1 * 6 ≤ _; decide, by show 5 < 7; decide, hN _ ⟨_, rfl, fun d hd => ?_, rfl⟩⟩
    · omega
    · rw [List.length_append, List.length_singleton]; omega
    · have hd : d = .tuple (cutD (iN s) none (some r) ++ [f] ++ cutD (iN s) (some (r + 1)) none) := by
        have : d ∈ (List.replicate 6 [PyData.tuple (cutD (iN s) none (some r) ++ [f] ++ cutD (iN s) (some (r + 1)) none)]).flatten := hd
        simpa using this
      subst hd
      refine tup_tm (fun d hd => ?_) (by rw [List.length_append, List.length_append, List.length_singleton]; omega)
      rcases List.mem_append.mp hd with hd | hd
      · rcases List.mem_append.mp hd with hd | hd
        · exact ts d (cutD_mem hd)
        · rw [List.mem_singleton] at hd; subst hd; exact tf
      · exact ts d (cutD_mem hd)
  rintro c ⟨m1, m1l, m1t, rfl⟩
  refine seq_step (fun c => ∃ ds : List PyData, ds.length = 18 ∧ (∀ d ∈ ds, Tm 3000 6 d) ∧ c = [some (.raw 5), some (.dat (tN cs)), some (.dat (tN s)), some (.dat (.int r)), some (.dat f), some (.own ds), none]) (fun N hN => ?_) ?_
  · dsimp only [t_lenScr, t_raise1, t_callX, t_callKX, t_xf, t_isx, runX, t_seq, t_if, t_or, t_and, t_not, t_tst, t_v, t_f, t_l, t_c, t_c1, t_op, t_chain', t_ret, t_asg, t_for, t_wenum, t_wlist, t_wtup, t_wstr, t_wrng1, t_wrng2, t_drop, g_setix, t_wzip, t_lname, t_name, t_next, t_ifx, t_isi, t_notV, t_andV, t_orV, t_call, t_callK, t_acons, t_aconsR, t_anil, t_tupd, t_lstd, g_name, g_tup, g_cons, g_nil, t_drop, t_lc, t_yes, t_star1, t_retn, t_par, t_slice, t_some, t_no, t_dict0, t_dict1, t_rev, t_neg, t_extend, t_append, t_sliceScr, t_retbox, t_xcons, LV.get, CS.at_, SV.view, datsOf, Option.map_some, List.getElem?_cons_zero, List.getElem?_cons_succ, List.set_cons_zero, List.set_cons_succ, settled, initC, List.map_cons, List.map_nil, List.length_cons, List.length_nil, List.cons_append, List.nil_append, seqOf, runD, ltY, gtY, inX, notinX, ordX, boolX, addX, subX, mulX, mulY, modX, fdivX, powX, ltX, leX, gtX, geX, eqY, neY, eqX, neX, isX, isnX, ixX, lenX, listX, tupleX, intX, strX, shX, sumX, sumY, maxX, minX, allX, absX, slX]
    have c1 := cutD_len (iN s) none (some r)
    rw [iN_len] at c1
    refine ⟨⟨_, rfl⟩, ⟨_, rfl⟩, ⟨_, rfl⟩, ⟨_, rfl⟩, by rw [zz]; decide, ?_, by rw [zz]; decide, by rw [zz]; decide, by rw [zz]; decide, ⟨_, rfl⟩, ⟨_, rfl⟩, ?_, by rw [zz]; decide, ?_, by show 5 < 7; decide, hN _ ⟨_, ?_, fun d hd => ?_, rfl⟩⟩
    · rw [iN_len]; omega
    · rw [iN_len]; omega
    · rw [m1l, zz]; decide
    · rw [List.length_append, m1l]; rfl
    · rcases List.mem_append.mp hd with hd | hd
      · exact m1t d hd
      · have w : ∀ {e : PyData}, Tm 200 3 e → Tm 3000 6 e := fun he => he.mono (by decide) (by decide)
        simp only [List.mem_cons, List.not_mem_nil, or_false] at hd
        rcases hd with rfl | rfl | rfl | rfl | rfl | rfl | rfl | rfl | rfl | rfl | rfl | rfl
        · exact lst_tm ts (by rw [iN_len]; omega)
        · exact tup_tm (fun d hd => ts d (cutD_mem hd)) (by omega)
        · refine tup_tm (fun d hd => ?_) (by rw [List.length_append, iN_len, List.length_singleton]; omega)
          rcases List.mem_append.mp hd with hd | hd
          · exact ts d hd
          · rw [List.mem_singleton] at hd; subst hd; exact tm_dec
        · have t1 : Tm 1400 4 (tN s) := (Tm.tupOf (n := 6) ts (by rw [iN_len]; omega)).mono (by decide) (by decide)
          exact (Tm.tupOf (n := 1) (ds := [tN s]) (fun d hd => by rw [List.mem_singleton] at hd; subst hd; exact t1) (Nat.le_refl _)).mono (by decide) (by decide)
        · exact w tm_dec
        · exact w tm_dec
        · exact w tm_dec
        · exact w tm_dec
        · exact w tm_dec
        · exact w tm_dec
        · exact w tm_dec
        · refine tup_tm (fun d hd => ?_) (by rw [List.length_append, iN_len]; omega)
          rcases List.mem_append.mp hd with hd | hd <;> exact tc d hd
  rintro c ⟨m2, m2l, m2t, rfl⟩
  refine seq_step (fun c => ∃ ds : List PyData, ds.length = 19 ∧ (∀ d ∈ ds, Tm 3000 6 d) ∧ c = [some (.raw 5), some (.dat (tN cs)), some (.dat (tN s)), some (.dat (.int r)), some (.dat f), some (.own ds), none]) (fun N hN => ?_) ?_
  · dsimp only [t_lenScr, t_raise1, t_callX, t_callKX, t_xf, t_isx, runX, t_seq, t_if, t_or, t_and, t_not, t_tst, t_v, t_f, t_l, t_c, t_c1, t_op, t_chain', t_ret, t_asg, t_for, t_wenum, t_wlist, t_wtup, t_wstr, t_wrng1, t_wrng2, t_drop, g_setix, t_wzip, t_lname, t_name, t_next, t_ifx, t_isi, t_notV, t_andV, t_orV, t_call, t_callK, t_acons, t_aconsR, t_anil, t_tupd, t_lstd, g_name, g_tup, g_cons, g_nil, t_drop, t_lc, t_yes, t_star1, t_retn, t_par, t_slice, t_some, t_no, t_dict0, t_dict1, t_rev, t_neg, t_extend, t_append, t_sliceScr, t_retbox, t_xcons, LV.get, CS.at_, SV.view, datsOf, Option.map_some, List.getElem?_cons_zero, List.getElem?_cons_succ, List.set_cons_zero, List.set_cons_succ, settled, initC, List.map_cons, List.map_nil, List.length_cons, List.length_nil, List.cons_append, List.nil_append, seqOf, runD, ltY, gtY, inX, notinX, ordX, boolX, addX, subX, mulX, mulY, modX, fdivX, powX, ltX, leX, gtX, geX, eqY, neY, eqX, neX, isX, isnX, ixX, lenX, listX, tupleX, intX, strX, shX, sumX, sumY, maxX, minX, allX, absX, slX]
    refine ⟨⟨_, rfl⟩, ?_⟩
    refine lcD_map (fun d => match d with | .int x => if x < 2 then .bool (x != 0) else .int x | d => d) [some (.raw 5), some (.dat (tN cs)), some (.dat (tN s)), some (.dat (.int r)), some (.dat f), some (.own m2), none] _ (by rw [iN_len, zz]; omega) (fun d hd K N2 hK => ?_) ?_
    · obtain ⟨x, hx, rfl⟩ := List.mem_map.mp hd
      dsimp only [t_lenScr, t_raise1, t_callX, t_callKX, t_xf, t_isx, runX, t_seq, t_if, t_or, t_and, t_not, t_tst, t_v, t_f, t_l, t_c, t_c1, t_op, t_chain', t_ret, t_asg, t_for, t_wenum, t_wlist, t_wtup, t_wstr, t_wrng1, t_wrng2, t_drop, g_setix, t_wzip, t_lname, t_name, t_next, t_ifx, t_isi, t_notV, t_andV, t_orV, t_call, t_callK, t_acons, t_aconsR, t_anil, t_tupd, t_lstd, g_name, g_tup, g_cons, g_nil, t_drop, t_lc, t_yes, t_star1, t_retn, t_par, t_slice, t_some, t_no, t_dict0, t_dict1, t_rev, t_neg, t_extend, t_append, t_sliceScr, t_retbox, t_xcons, LV.get, CS.at_, SV.view, datsOf, Option.map_some, List.getElem?_cons_zero, List.getElem?_cons_succ, List.set_cons_zero, List.set_cons_succ, settled, initC, List.map_cons, List.map_nil, List.length_cons, List.length_nil, List.cons_append, List.nil_append, seqOf, runD, ltY, gtY, inX, notinX, ordX, boolX, addX, subX, mulX, mulY, modX, fdivX, powX, ltX, leX, gtX, geX, eqY, neY, eqX, neX, isX, isnX, ixX, lenX, listX, tupleX, intX, strX, shX, sumX, sumY, maxX, minX, allX, absX, slX]
      refine ⟨by show 6 < 7; decide, ⟨_, rfl⟩, ?_⟩
      by_cases h2 : ((x : Nat) : Int) < 2
      · rw [decide_eq_true h2]
        refine iteT ?_
        dsimp only at hK
        rw [if_pos h2] at hK
        exact ⟨⟨_, rfl⟩, hK⟩
      · rw [decide_eq_false h2]
        refine iteF ?_
        dsimp only at hK
        rw [if_neg h2] at hK
        exact hK
    · rw [restC_self]
      dsimp only [List.getElem?_cons_succ, List.getElem?_cons_zero]
      refine ⟨by rw [m2l, zz]; decide, hN _ ⟨_, ?_, fun d hd => ?_, rfl⟩⟩
      · rw [List.length_append, m2l]; rfl
      · rcases List.mem_append.mp hd with hd | hd
        · exact m2t d hd
        · rw [List.mem_singleton] at hd
          subst hd
          refine tup_tm (fun d hd => ?_) (by rw [List.length_map, iN_len]; omega)
          obtain ⟨e, he, rfl⟩ := List.mem_map.mp hd
          obtain ⟨x, hx, rfl⟩ := List.mem_map.mp he
          dsimp only
          split
          · exact tm_bool _
          · exact ts _ he
  rintro c ⟨m3, m3l, m3t, rfl⟩
  dsimp only [t_lenScr, t_raise1, t_callX, t_callKX, t_xf, t_isx, runX, t_seq, t_if, t_or, t_and, t_not, t_tst, t_v, t_f, t_l, t_c, t_c1, t_op, t_chain', t_ret, t_asg, t_for, t_wenum, t_wlist, t_wtup, t_wstr, t_wrng1, t_wrng2, t_drop, g_setix, t_wzip, t_lname, t_name, t_next, t_ifx, t_isi, t_notV, t_andV, t_orV, t_call, t_callK, t_acons, t_aconsR, t_anil, t_tupd, t_lstd, g_name, g_tup, g_cons, g_nil, t_drop, t_lc, t_yes, t_star1, t_retn, t_par, t_slice, t_some, t_no, t_dict0, t_dict1, t_rev, t_neg, t_extend, t_append, t_sliceScr, t_retbox, t_xcons, LV.get, CS.at_, SV.view, datsOf, Option.map_some, List.getElem?_cons_zero, List.getElem?_cons_succ, List.set_cons_zero, List.set_cons_succ, settled, initC, List.map_cons, List.map_nil, List.length_cons, List.length_nil, List.cons_append, List.nil_append, seqOf, runD, ltY, gtY, inX, notinX, ordX, boolX, addX, subX, mulX, mulY, modX, fdivX, powX, ltX, leX, gtX, geX, eqY, neY, eqX, neX, isX, isnX, ixX, lenX, listX, tupleX, intX, strX, shX, sumX, sumY, maxX, minX, allX, absX, slX]
  refine ⟨rfl, pick_spec m3 (fun e => by rw [e] at m3l; cases m3l) (by omega) fun d hd => h d (m3t d hd)⟩
theorem tm_row {cs s : List Nat} (hc : Crd cs) (hs : leL s cs) : Tm 70 1 (tN s) := by
  refine (Tm.tupOf (W := 10) (D := 0) (n := 6) (fun d hd => ?_) (by rw [iN_len, leL_len hs]; exact hc.len)).mono (by decide) (by decide)
  obtain ⟨x, hx, rfl⟩ := List.mem_map.mp hd
  have := leL_le hs hc.top x hx
  exact Tm.int (by omega) (by omega)
theorem tm_rows {cs : List Nat} (hc : Crd cs) : Tm 40000 2 (.tuple (tR cs)) := by
  refine (Tm.tupOf (W := 70) (D := 1) (n := 512) (fun d hd => ?_) (by rw [tR_len]; exact hc.sz)).mono (by decide) (by decide)
  obtain ⟨s, hs, rfl⟩ := tR_mem hd
  exact tm_row hc hs
theorem tR_at {cs : List Nat} {k : Int} (h0 : 0 ≤ k) (h1 : k < sz cs) : atI (tR cs) k = some (tN (st cs k.toNat)) := by
  unfold atI ixN
  rw [tR_len, if_pos h0, if_pos h1]
  show (tR cs)[k.toNat]? = _
  rw [tR_eq, List.getElem?_map, rows_at (by omega)]
  rfl
theorem counted_spec {cs : List Nat} (hc : Crd cs) {n : Int} (hn : n ≤ 100) (hn0 : 0 ≤ n) {Q : SV → Prop} (h : Q (.dat (.bool true))) : C__law_is_counted [.raw 5, .dat (tN cs), .dat (.int n)] Q := by
  refine ⟨rfl, ?_⟩
  have zz : sizeLine = 16777216 := sizeLine_eq
  have hsz := hc.sz
  have hpos := sz_pos cs
  have rok := (tm_rows hc).ok
  show T__law_is_counted _ [some (.raw 5), some (.dat (tN cs)), some (.dat (.int n)), none, none, none, none, none, none]
  refine seq_step (fun c => c = [some (.raw 5), some (.dat (tN cs)), some (.dat (.int n)), some (.own (tR cs)), none, none, none, none, none]) (fun N hN => ?_) ?_
  · dsimp only [t_lenScr, t_raise1, t_callX, t_callKX, t_xf, t_isx, runX, t_seq, t_if, t_or, t_and, t_not, t_tst, t_v, t_f, t_l, t_c, t_c1, t_op, t_chain', t_ret, t_asg, t_for, t_wenum, t_wlist, t_wtup, t_wstr, t_wrng1, t_wrng2, t_drop, g_setix, t_wzip, t_lname, t_name, t_next, t_ifx, t_isi, t_notV, t_andV, t_orV, t_call, t_callK, t_acons, t_aconsR, t_anil, t_tupd, t_lstd, g_name, g_tup, g_cons, g_nil, t_drop, t_lc, t_yes, t_star1, t_retn, t_par, t_slice, t_some, t_no, t_dict0, t_dict1, t_rev, t_neg, t_extend, t_append, t_sliceScr, t_retbox, t_xcons, LV.get, CS.at_, SV.view, datsOf, Option.map_some, List.getElem?_cons_zero, List.getElem?_cons_succ, List.set_cons_zero, List.set_cons_succ, settled, initC, List.map_cons, List.map_nil, List.length_cons, List.length_nil, List.cons_append, List.nil_append, seqOf, runD, ltY, gtY, inX, notinX, ordX, boolX, addX, subX, mulX, mulY, modX, fdivX, powX, ltX, leX, gtX, geX, eqY, neY, eqX, neX, isX, isnX, ixX, lenX, listX, tupleX, intX, strX, shX, sumX, sumY, maxX, minX, allX, absX, slX]
    exact all_spec hc ⟨by show 3 < 9; decide, hN _ rfl⟩
  rintro c rfl
  refine seq_step (fun c => c = [some (.raw 5), some (.dat (tN cs)), some (.dat (.int n)), some (.own (tR cs)), none, none, none, none, none]) (fun N hN => ?_) ?_
  · dsimp only [t_lenScr, t_raise1, t_callX, t_callKX, t_xf, t_isx, runX, t_seq, t_if, t_or, t_and, t_not, t_tst, t_v, t_f, t_l, t_c, t_c1, t_op, t_chain', t_ret, t_asg, t_for, t_wenum, t_wlist, t_wtup, t_wstr, t_wrng1, t_wrng2, t_drop, g_setix, t_wzip, t_lname, t_name, t_next, t_ifx, t_isi, t_notV, t_andV, t_orV, t_call, t_callK, t_acons, t_aconsR, t_anil, t_tupd, t_lstd, g_name, g_tup, g_cons, g_nil, t_drop, t_lc, t_yes, t_star1, t_retn, t_par, t_slice, t_some, t_no, t_dict0, t_dict1, t_rev, t_neg, t_extend, t_append, t_sliceScr, t_retbox, t_xcons, LV.get, CS.at_, SV.view, datsOf, Option.map_some, List.getElem?_cons_zero, List.getElem?_cons_succ, List.set_cons_zero, List.set_cons_succ, settled, initC, List.map_cons, List.map_nil, List.length_cons, List.length_nil, List.cons_append, List.nil_append, seqOf, runD, ltY, gtY, inX, notinX, ordX, boolX, addX, subX, mulX, mulY, modX, fdivX, powX, ltX, leX, gtX, geX, eqY, neY, eqX, neX, isX, isnX, ixX, lenX, listX, tupleX, intX, strX, shX, sumX, sumY, maxX, minX, allX, absX, slX]
    exact states_spec hc ⟨rok, ⟨_, rfl⟩, rok, eqb _ (hN _ rfl)⟩
  rintro c rfl
  refine seq_step (fun _ => True) (fun N hN => ?_) (fun c _ => h)
  dsimp only [t_for, t_wrng1, t_acons, t_f, t_name, List.getElem?_cons_succ, List.getElem?_cons_zero, SV.view, t_anil]
  refine ⟨by omega, by omega, ?_⟩
  refine forD_ind (I := fun ds c => (∀ d ∈ ds, ∃ i : Int, d = .int i) ∧ ∃ x4 x5 x6 x7 x8, c = [some (.raw 5), some (.dat (tN cs)), some (.dat (.int n)), some (.own (tR cs)), x4, x5, x6, x7, x8]) ?_ ?_ _ _ ⟨fun d hd => ?_, none, none, none, none, none, rfl⟩
  · rintro c ⟨_, x4, x5, x6, x7, x8, rfl⟩
    exact hN _ True.intro
  · rintro d ds c N' hN' ⟨hd, x4, x5, x6, x7, x8, rfl⟩
    obtain ⟨i, rfl⟩ := hd _ List.mem_cons_self
    refine ⟨by show 4 < 9; decide, ?_⟩
    refine seq_step (fun c => ∃ k : Int, 0 ≤ k ∧ k < sz cs ∧ c = [some (.raw 5), some (.dat (tN cs)), some (.dat (.int n)), some (.own (tR cs)), some (.dat (.int i)), some (.dat (.int k)), x6, x7, x8]) (fun N2 hN2 => ?_) ?_
    · dsimp only [t_lenScr, t_raise1, t_callX, t_callKX, t_xf, t_isx, runX, t_seq, t_if, t_or, t_and, t_not, t_tst, t_v, t_f, t_l, t_c, t_c1, t_op, t_chain', t_ret, t_asg, t_for, t_wenum, t_wlist, t_wtup, t_wstr, t_wrng1, t_wrng2, t_drop, g_setix, t_wzip, t_lname, t_name, t_next, t_ifx, t_isi, t_notV, t_andV, t_orV, t_call, t_callK, t_acons, t_aconsR, t_anil, t_tupd, t_lstd, g_name, g_tup, g_cons, g_nil, t_drop, t_lc, t_yes, t_star1, t_retn, t_par, t_slice, t_some, t_no, t_dict0, t_dict1, t_rev, t_neg, t_extend, t_append, t_sliceScr, t_retbox, t_xcons, LV.get, CS.at_, SV.view, datsOf, Option.map_some, List.getElem?_cons_zero, List.getElem?_cons_succ, List.set_cons_zero, List.set_cons_succ, settled, initC, List.map_cons, List.map_nil, List.length_cons, List.length_nil, List.cons_append, List.nil_append, seqOf, runD, ltY, gtY, inX, notinX, ordX, boolX, addX, subX, mulX, mulY, modX, fdivX, powX, ltX, leX, gtX, geX, eqY, neY, eqX, neX, isX, isnX, ixX, lenX, listX, tupleX, intX, strX, shX, sumX, sumY, maxX, minX, allX, absX, slX]
      refine ⟨rfl, ⟨_, rfl⟩, draw_spec (by rw [tR_len]; omega) (by rw [tR_len]; omega) fun r g0 g1 => ?_⟩
      rw [tR_len] at g1
      exact ⟨by show 5 < 9; decide, hN2 _ ⟨r, g0, g1, rfl⟩⟩
    rintro c ⟨k, g0, g1, rfl⟩
    have hat := tR_at g0 g1
    have hle := st_le cs k.toNat
    have hval := val_st cs k.toNat (by omega)
    have tin : ∀ s, tN (st cs k.toNat) = tN s → s = st cs k.toNat := fun s e => by
      have e1 : iN (st cs k.toNat) = iN s := by injection e
      exact (iN_inj e1).symm
    refine seq_step (fun c => c = [some (.raw 5), some (.dat (tN cs)), some (.dat (.int n)), some (.own (tR cs)), some (.dat (.int i)), some (.dat (.int k)), x6, x7, x8]) (fun N2 hN2 => ?_) ?_
    · dsimp only [t_lenScr, t_raise1, t_callX, t_callKX, t_xf, t_isx, runX, t_seq, t_if, t_or, t_and, t_not, t_tst, t_v, t_f, t_l, t_c, t_c1, t_op, t_chain', t_ret, t_asg, t_for, t_wenum, t_wlist, t_wtup, t_wstr, t_wrng1, t_wrng2, t_drop, g_setix, t_wzip, t_lname, t_name, t_next, t_ifx, t_isi, t_notV, t_andV, t_orV, t_call, t_callK, t_acons, t_aconsR, t_anil, t_tupd, t_lstd, g_name, g_tup, g_cons, g_nil, t_drop, t_lc, t_yes, t_star1, t_retn, t_par, t_slice, t_some, t_no, t_dict0, t_dict1, t_rev, t_neg, t_extend, t_append, t_sliceScr, t_retbox, t_xcons, LV.get, CS.at_, SV.view, datsOf, Option.map_some, List.getElem?_cons_zero, List.getElem?_cons_succ, List.set_cons_zero, List.set_cons_succ, settled, initC, List.map_cons, List.map_nil, List.length_cons, List.length_nil, List.cons_append, List.nil_append, seqOf, runD, ltY, gtY, inX, notinX, ordX, boolX, addX, subX, mulX, mulY, modX, fdivX, powX, ltX, leX, gtX, geX, eqY, neY, eqX, neX, isX, isnX, ixX, lenX, listX, tupleX, intX, strX, shX, sumX, sumY, maxX, minX, allX, absX, slX]
      refine ⟨⟨_, rfl⟩, ⟨_, rfl⟩, ?_⟩
      rw [hat]
      dsimp only
      refine ⟨⟨_, rfl⟩, ?_⟩
      have ok2 : shOk (.list [.str "told", .int k]) := by
        refine ((Tm.lstOf (W := 200) (D := 3) (n := 2) (fun d hd => ?_) (Nat.le_refl _)).mono (W' := 1000) (D' := 6) (by decide) (by decide)).ok
        simp only [List.mem_cons, List.not_mem_nil, or_false] at hd
        rcases hd with rfl | rfl
        · exact tm_dec
        · have := tm_len k.toNat (by omega)
          rw [Int.toNat_of_nonneg g0] at this
          exact this
      refine told_spec hc _ _ (fun s e hs => ?_) (fun e => ?_)
      · rw [tin s e, hval, Int.toNat_of_nonneg g0]
        exact ⟨ok2, by rw [zz]; decide, ok2, eqb _ (hN2 _ rfl)⟩
      · rw [isSt_tN hle] at e; cases e
    rintro c rfl
    refine seq_step (fun c => ∃ d, Tm 3000 6 d ∧ c = [some (.raw 5), some (.dat (tN cs)), some (.dat (.int n)), some (.own (tR cs)), some (.dat (.int i)), some (.dat (.int k)), some (.dat d), x7, x8]) (fun N2 hN2 => ?_) ?_
    · dsimp only [t_lenScr, t_raise1, t_callX, t_callKX, t_xf, t_isx, runX, t_seq, t_if, t_or, t_and, t_not, t_tst, t_v, t_f, t_l, t_c, t_c1, t_op, t_chain', t_ret, t_asg, t_for, t_wenum, t_wlist, t_wtup, t_wstr, t_wrng1, t_wrng2, t_drop, g_setix, t_wzip, t_lname, t_name, t_next, t_ifx, t_isi, t_notV, t_andV, t_orV, t_call, t_callK, t_acons, t_aconsR, t_anil, t_tupd, t_lstd, g_name, g_tup, g_cons, g_nil, t_drop, t_lc, t_yes, t_star1, t_retn, t_par, t_slice, t_some, t_no, t_dict0, t_dict1, t_rev, t_neg, t_extend, t_append, t_sliceScr, t_retbox, t_xcons, LV.get, CS.at_, SV.view, datsOf, Option.map_some, List.getElem?_cons_zero, List.getElem?_cons_succ, List.set_cons_zero, List.set_cons_succ, settled, initC, List.map_cons, List.map_nil, List.length_cons, List.length_nil, List.cons_append, List.nil_append, seqOf, runD, ltY, gtY, inX, notinX, ordX, boolX, addX, subX, mulX, mulY, modX, fdivX, powX, ltX, leX, gtX, geX, eqY, neY, eqX, neX, isX, isnX, ixX, lenX, listX, tupleX, intX, strX, shX, sumX, sumY, maxX, minX, allX, absX, slX]
      refine ⟨rfl, ⟨_, rfl⟩, ⟨_, rfl⟩, ?_⟩
      rw [hat]
      dsimp only
      exact odd_spec hc hle fun d hd => ⟨by show 6 < 9; decide, hN2 _ ⟨d, hd, rfl⟩⟩
    rintro c ⟨d, td, rfl⟩
    have dok := td.ok
    refine seq_step (fun c => ∃ o : List PyData, ((∃ s, d = tN s ∧ leL s cs ∧ o = [.str "told", .int (valA 0 s cs : Nat)]) ∨ (isSt cs d = false ∧ o = [.str "NoState", d, .bool true])) ∧ c = [some (.raw 5), some (.dat (tN cs)), some (.dat (.int n)), some (.own (tR cs)), some (.dat (.int i)), some (.dat (.int k)), some (.dat d), some (.own o), some (.dat (.str d.shown))]) (fun N2 hN2 => ?_) ?_
    · dsimp only [t_lenScr, t_raise1, t_callX, t_callKX, t_xf, t_isx, runX, t_seq, t_if, t_or, t_and, t_not, t_tst, t_v, t_f, t_l, t_c, t_c1, t_op, t_chain', t_ret, t_asg, t_for, t_wenum, t_wlist, t_wtup, t_wstr, t_wrng1, t_wrng2, t_drop, g_setix, t_wzip, t_lname, t_name, t_next, t_ifx, t_isi, t_notV, t_andV, t_orV, t_call, t_callK, t_acons, t_aconsR, t_anil, t_tupd, t_lstd, g_name, g_tup, g_cons, g_nil, t_drop, t_lc, t_yes, t_star1, t_retn, t_par, t_slice, t_some, t_no, t_dict0, t_dict1, t_rev, t_neg, t_extend, t_append, t_sliceScr, t_retbox, t_xcons, LV.get, CS.at_, SV.view, datsOf, Option.map_some, List.getElem?_cons_zero, List.getElem?_cons_succ, List.set_cons_zero, List.set_cons_succ, settled, initC, List.map_cons, List.map_nil, List.length_cons, List.length_nil, List.cons_append, List.nil_append, seqOf, runD, ltY, gtY, inX, notinX, ordX, boolX, addX, subX, mulX, mulY, modX, fdivX, powX, ltX, leX, gtX, geX, eqY, neY, eqX, neX, isX, isnX, ixX, lenX, listX, tupleX, intX, strX, shX, sumX, sumY, maxX, minX, allX, absX, slX]
      refine ⟨⟨_, rfl⟩, ?_⟩
      refine told_spec hc _ _ (fun s e hs => ?_) (fun e => ?_)
      · exact ⟨⟨_, rfl⟩, dok, by show 7 < 9; decide, by show 8 < 9; decide, hN2 _ ⟨_, .inl ⟨s, e, hs, rfl⟩, rfl⟩⟩
      · exact ⟨⟨_, rfl⟩, dok, by show 7 < 9; decide, by show 8 < 9; decide, hN2 _ ⟨_, .inr ⟨e, rfl⟩, rfl⟩⟩
    rintro c ⟨o, ho, rfl⟩
    dsimp only [t_lenScr, t_raise1, t_callX, t_callKX, t_xf, t_isx, runX, t_seq, t_if, t_or, t_and, t_not, t_tst, t_v, t_f, t_l, t_c, t_c1, t_op, t_chain', t_ret, t_asg, t_for, t_wenum, t_wlist, t_wtup, t_wstr, t_wrng1, t_wrng2, t_drop, g_setix, t_wzip, t_lname, t_name, t_next, t_ifx, t_isi, t_notV, t_andV, t_orV, t_call, t_callK, t_acons, t_aconsR, t_anil, t_tupd, t_lstd, g_name, g_tup, g_cons, g_nil, t_drop, t_lc, t_yes, t_star1, t_retn, t_par, t_slice, t_some, t_no, t_dict0, t_dict1, t_rev, t_neg, t_extend, t_append, t_sliceScr, t_retbox, t_xcons, LV.get, CS.at_, SV.view, datsOf, Option.map_some, List.getElem?_cons_zero, List.getElem?_cons_succ, List.set_cons_zero, List.set_cons_succ, settled, initC, List.map_cons, List.map_nil, List.length_cons, List.length_nil, List.cons_append, List.nil_append, seqOf, runD, ltY, gtY, inX, notinX, ordX, boolX, addX, subX, mulX, mulY, modX, fdivX, powX, ltX, leX, gtX, geX, eqY, neY, eqX, neX, isX, isnX, ixX, lenX, listX, tupleX, intX, strX, shX, sumX, sumY, maxX, minX, allX, absX, slX]
    refine lis_state_spec hc d ?_
    dsimp only
    rcases ho with ⟨s, rfl, hs, rfl⟩ | ⟨hno, rfl⟩
    · rw [isSt_tN hs]
      obtain ⟨v1, v2⟩ := st_val cs s hs
      have g2 := tR_at (cs := cs) (k := ((valA 0 s cs : Nat) : Int)) (by omega) (by omega)
      rw [Int.toNat_natCast, v2] at g2
      refine iteT ⟨⟨_, rfl⟩, ?_⟩
      have n0 : ∀ w x : PyData, atI [w, x] 0 = some w := fun _ _ => rfl
      have n1 : ∀ w x : PyData, atI [w, x] 1 = some x := fun _ _ => rfl
      rw [n0]
      dsimp only
      refine eqb _ ⟨⟨_, rfl⟩, ⟨_, rfl⟩, ?_⟩
      rw [n1]
      dsimp only
      rw [g2]
      exact ⟨dok, ⟨_, rfl⟩, eqb _ (hN' _ ⟨fun d hd2 => hd d (List.mem_cons_of_mem _ hd2), _, _, _, _, _, rfl⟩)⟩
    · rw [hno]
      have ok3 : shOk (.list [.str "NoState", d, .bool true]) := by
        refine ((Tm.lstOf (W := 3000) (D := 6) (n := 3) (fun d hd => ?_) (Nat.le_refl _)).mono (W' := 10000) (D' := 10) (by decide) (by decide)).ok
        simp only [List.mem_cons, List.not_mem_nil, or_false] at hd
        rcases hd with rfl | rfl | rfl
        · exact (tm_dec).mono (by decide) (by decide)
        · exact td
        · exact (tm_bool _).mono (by decide) (by decide)
      refine iteF ⟨⟨_, rfl⟩, ok3, by rw [zz]; decide, ok3, eqb _ ⟨⟨_, rfl⟩, dok, ⟨_, rfl⟩, eqb _ (hN' _ ⟨fun d hd2 => hd d (List.mem_cons_of_mem _ hd2), _, _, _, _, _, rfl⟩)⟩⟩
  · unfold rangeD at hd
    obtain ⟨i, _, rfl⟩ := List.mem_map.mp hd
    exact ⟨_, rfl⟩
end Lk

namespace Lk
open PySem PySem.Spec PyProof.Rows L2 Cl Cards
theorem eqv_nilN (a : List Nat) : PyData.eqv (.list (iN a)) (.list []) = decide (a = []) := by
  cases a with
  | nil => simp [PyData.eqv, PyData.eqvAll, iN]
  | cons => rw [iN_cons]; simp [PyData.eqv, PyData.eqvAll]
theorem shaped_lN (a : List Nat) : SeqAt.shaped (.list (iN a)) = true := by
  unfold SeqAt.shaped
  simp only [PyData.canLay0, can_iN, PyData.depth, depth_iN]
  decide
theorem card_spec {m : Nat} (hm : m ≤ 512) {Q : SV → Prop} (h : ∀ cs, Crd cs → Q (.dat (tN cs))) : C__law_card [.raw 5, .dat (.int (m : Nat))] Q := by
  refine ⟨rfl, ?_⟩
  have zz : sizeLine = 16777216 := sizeLine_eq
  show T__law_card _ [some (.raw 5), some (.dat (.int (m : Nat))), none, none, none, none]
  refine seq_step (fun c => c = [some (.raw 5), some (.dat (.int (m : Nat))), some (.own (iN [])), some (.dat (.int ((sz [] : Nat) : Int))), none, none]) (fun N hN => ?_) ?_
  · dsimp only [t_lenScr, t_raise1, t_callX, t_callKX, t_xf, t_isx, runX, t_seq, t_if, t_or, t_and, t_not, t_tst, t_v, t_f, t_l, t_c, t_c1, t_op, t_chain', t_ret, t_asg, t_for, t_wenum, t_wlist, t_wtup, t_wstr, t_wrng1, t_wrng2, t_drop, g_setix, t_wzip, t_lname, t_name, t_next, t_ifx, t_isi, t_notV, t_andV, t_orV, t_call, t_callK, t_acons, t_aconsR, t_anil, t_tupd, t_lstd, g_name, g_tup, g_cons, g_nil, t_drop, t_lc, t_yes, t_star1, t_retn, t_par, t_slice, t_some, t_no, t_dict0, t_dict1, t_rev, t_neg, t_extend, t_append, t_sliceScr, t_retbox, t_xcons, LV.get, CS.at_, SV.view, datsOf, Option.map_some, List.getElem?_cons_zero, List.getElem?_cons_succ, List.set_cons_zero, List.set_cons_succ, settled, initC, List.map_cons, List.map_nil, List.length_cons, List.length_nil, List.cons_append, List.nil_append, seqOf, runD, ltY, gtY, inX, notinX, ordX, boolX, addX, subX, mulX, mulY, modX, fdivX, powX, ltX, leX, gtX, geX, eqY, neY, eqX, neX, isX, isnX, ixX, lenX, listX, tupleX, intX, strX, shX, sumX, sumY, maxX, minX, allX, absX, slX]
    exact ⟨by decide, by show 2 < 6; decide, by show 3 < 6; decide, hN _ rfl⟩
  rintro c rfl
  refine seq_step (fun c => ∃ cs x y, (∀ t ∈ cs, t ≤ 7) ∧ cs.length ≤ 6 ∧ sz cs ≤ 512 ∧ c = [some (.raw 5), some (.dat (.int (m : Nat))), some (.own (iN cs)), some (.dat (.int (sz cs : Nat))), x, y]) (fun N hN => ?_) ?_
  · dsimp only [t_for, t_wrng1, t_acons, t_aconsR, t_f, t_op, t_l, t_c, t_call, t_name, t_anil, addX, LV.get, List.getElem?_cons_zero, SV.view, settled]
    refine ⟨rfl, draw_spec (by decide) (by decide) fun r g0 g1 => ?_⟩
    refine ⟨by omega, by omega, ?_⟩
    refine forD_ind (I := fun ds c => ∃ cs x y, (∀ t ∈ cs, t ≤ 7) ∧ cs.length + ds.length ≤ 6 ∧ sz cs ≤ 512 ∧ c = [some (.raw 5), some (.dat (.int (m : Nat))), some (.own (iN cs)), some (.dat (.int (sz cs : Nat))), x, y]) ?_ ?_ _ _ ⟨[], none, none, (fun _ h => by cases h), by rw [rangeD_len, List.length_nil]; omega, by decide, rfl⟩
    · rintro c ⟨cs, x, y, h7, hl, hs, rfl⟩
      exact hN _ ⟨cs, x, y, h7, by simpa using hl, hs, rfl⟩
    · rintro d ds c N' hN' ⟨cs, x, y, h7, hl, hs, rfl⟩
      rw [List.length_cons] at hl
      refine ⟨by show 4 < 6; decide, ?_⟩
      refine seq_step (fun c => ∃ t : Nat, t ≤ 7 ∧ c = [some (.raw 5), some (.dat (.int (m : Nat))), some (.own (iN cs)), some (.dat (.int (sz cs : Nat))), some (.dat d), some (.dat (.int (t : Nat)))]) (fun N2 hN2 => ?_) ?_
      · dsimp only [t_lenScr, t_raise1, t_callX, t_callKX, t_xf, t_isx, runX, t_seq, t_if, t_or, t_and, t_not, t_tst, t_v, t_f, t_l, t_c, t_c1, t_op, t_chain', t_ret, t_asg, t_for, t_wenum, t_wlist, t_wtup, t_wstr, t_wrng1, t_wrng2, t_drop, g_setix, t_wzip, t_lname, t_name, t_next, t_ifx, t_isi, t_notV, t_andV, t_orV, t_call, t_callK, t_acons, t_aconsR, t_anil, t_tupd, t_lstd, g_name, g_tup, g_cons, g_nil, t_drop, t_lc, t_yes, t_star1, t_retn, t_par, t_slice, t_some, t_no, t_dict0, t_dict1, t_rev, t_neg, t_extend, t_append, t_sliceScr, t_retbox, t_xcons, LV.get, CS.at_, SV.view, datsOf, Option.map_some, List.getElem?_cons_zero, List.getElem?_cons_succ, List.set_cons_zero, List.set_cons_succ, settled, initC, List.map_cons, List.map_nil, List.length_cons, List.length_nil, List.cons_append, List.nil_append, seqOf, runD, ltY, gtY, inX, notinX, ordX, boolX, addX, subX, mulX, mulY, modX, fdivX, powX, ltX, leX, gtX, geX, eqY, neY, eqX, neX, isX, isnX, ixX, lenX, listX, tupleX, intX, strX, shX, sumX, sumY, maxX, minX, allX, absX, slX]
        refine ⟨rfl, by rw [zz]; decide, pick_spec _ (by simp) (by simp) fun d hd => ⟨by show 5 < 6; decide, hN2 _ ?_⟩⟩
        simp only [List.mem_cons, List.not_mem_nil, or_false] at hd
        rcases hd with rfl | rfl | rfl | rfl | rfl | rfl | rfl | rfl
        · exact ⟨1, by decide, rfl⟩
        · exact ⟨1, by decide, rfl⟩
        · exact ⟨1, by decide, rfl⟩
        · exact ⟨2, by decide, rfl⟩
        · exact ⟨2, by decide, rfl⟩
        · exact ⟨3, by decide, rfl⟩
        · exact ⟨4, by decide, rfl⟩
        · exact ⟨7, by decide, rfl⟩
      rintro c ⟨t, ht, rfl⟩
      dsimp only [t_lenScr, t_raise1, t_callX, t_callKX, t_xf, t_isx, runX, t_seq, t_if, t_or, t_and, t_not, t_tst, t_v, t_f, t_l, t_c, t_c1, t_op, t_chain', t_ret, t_asg, t_for, t_wenum, t_wlist, t_wtup, t_wstr, t_wrng1, t_wrng2, t_drop, g_setix, t_wzip, t_lname, t_name, t_next, t_ifx, t_isi, t_notV, t_andV, t_orV, t_call, t_callK, t_acons, t_aconsR, t_anil, t_tupd, t_lstd, g_name, g_tup, g_cons, g_nil, t_drop, t_lc, t_yes, t_star1, t_retn, t_par, t_slice, t_some, t_no, t_dict0, t_dict1, t_rev, t_neg, t_extend, t_append, t_sliceScr, t_retbox, t_xcons, LV.get, CS.at_, SV.view, datsOf, Option.map_some, List.getElem?_cons_zero, List.getElem?_cons_succ, List.set_cons_zero, List.set_cons_succ, settled, initC, List.map_cons, List.map_nil, List.length_cons, List.length_nil, List.cons_append, List.nil_append, seqOf, runD, ltY, gtY, inX, notinX, ordX, boolX, addX, subX, mulX, mulY, modX, fdivX, powX, ltX, leX, gtX, geX, eqY, neY, eqX, neX, isX, isnX, ixX, lenX, listX, tupleX, intX, strX, shX, sumX, sumY, maxX, minX, allX, absX, slX]
      refine ⟨⟨_, rfl⟩, ⟨_, rfl⟩, mulOk_r (by omega) (by omega), ⟨_, rfl⟩, ?_⟩
      by_cases hle : ((sz cs : Nat) : Int) * (((t : Nat) : Int) + 1) ≤ ((m : Nat) : Int)
      · rw [decide_eq_true hle]
        have hsn : sz (cs ++ [t]) = sz cs * (t + 1) := sz_snoc cs t
        have hle2 : sz (cs ++ [t]) ≤ m := by
          rw [hsn]
          have e : ((sz cs * (t + 1) : Nat) : Int) = ((sz cs : Nat) : Int) * (((t : Nat) : Int) + 1) := by simp
          omega
        refine iteT ⟨⟨_, rfl⟩, by rw [iN_len, zz]; omega, ⟨_, rfl⟩, ⟨_, rfl⟩, mulOk_r (by omega) (by omega), by show 3 < 6; decide, hN' _ ⟨cs ++ [t], some (.dat d), some (.dat (.int (t : Nat))), fun x hx => ?_, by rw [List.length_append, List.length_singleton]; omega, by omega, ?_⟩⟩
        · rcases List.mem_append.mp hx with hx | hx
          · exact h7 x hx
          · rw [List.mem_singleton] at hx; subst hx; exact ht
        · rw [hsn, iN_append]
          simp [iN]
      · rw [decide_eq_false hle]
        exact iteF (hN' _ ⟨cs, _, _, h7, by omega, hs, rfl⟩)
  rintro c ⟨cs, x, y, h7, hl, hs, rfl⟩
  dsimp only [t_lenScr, t_raise1, t_callX, t_callKX, t_xf, t_isx, runX, t_seq, t_if, t_or, t_and, t_not, t_tst, t_v, t_f, t_l, t_c, t_c1, t_op, t_chain', t_ret, t_asg, t_for, t_wenum, t_wlist, t_wtup, t_wstr, t_wrng1, t_wrng2, t_drop, g_setix, t_wzip, t_lname, t_name, t_next, t_ifx, t_isi, t_notV, t_andV, t_orV, t_call, t_callK, t_acons, t_aconsR, t_anil, t_tupd, t_lstd, g_name, g_tup, g_cons, g_nil, t_drop, t_lc, t_yes, t_star1, t_retn, t_par, t_slice, t_some, t_no, t_dict0, t_dict1, t_rev, t_neg, t_extend, t_append, t_sliceScr, t_retbox, t_xcons, LV.get, CS.at_, SV.view, datsOf, Option.map_some, List.getElem?_cons_zero, List.getElem?_cons_succ, List.set_cons_zero, List.set_cons_succ, settled, initC, List.map_cons, List.map_nil, List.length_cons, List.length_nil, List.cons_append, List.nil_append, seqOf, runD, ltY, gtY, inX, notinX, ordX, boolX, addX, subX, mulX, mulY, modX, fdivX, powX, ltX, leX, gtX, geX, eqY, neY, eqX, neX, isX, isnX, ixX, lenX, listX, tupleX, intX, strX, shX, sumX, sumY, maxX, minX, allX, absX, slX]
  refine ⟨⟨_, rfl⟩, by rw [zz]; decide, shaped_lN cs, by decide +kernel, ?_⟩
  rw [eqv_nilN]
  by_cases hcs : cs = []
  · rw [decide_eq_true hcs]
    exact iteF ⟨by rw [zz]; decide, h [1] ⟨by decide, by decide, by decide, by decide⟩⟩
  · rw [decide_eq_false hcs]
    exact iteT ⟨⟨_, rfl⟩, h cs ⟨h7, hl, List.length_pos_iff.mpr hcs, hs⟩⟩
theorem great_spec {Q : SV → Prop} (h : ∀ cs, Crd cs → Q (.dat (tN cs))) : C__law_great [.raw 5] Q := by
  refine ⟨rfl, ?_⟩
  have zz : sizeLine = 16777216 := sizeLine_eq
  show T__law_great _ [some (.raw 5)]
  dsimp only [T__law_great, t_lenScr, t_raise1, t_callX, t_callKX, t_xf, t_isx, runX, t_seq, t_if, t_or, t_and, t_not, t_tst, t_v, t_f, t_l, t_c, t_c1, t_op, t_chain', t_ret, t_asg, t_for, t_wenum, t_wlist, t_wtup, t_wstr, t_wrng1, t_wrng2, t_drop, g_setix, t_wzip, t_lname, t_name, t_next, t_ifx, t_isi, t_notV, t_andV, t_orV, t_call, t_callK, t_acons, t_aconsR, t_anil, t_tupd, t_lstd, g_name, g_tup, g_cons, g_nil, t_drop, t_lc, t_yes, t_star1, t_retn, t_par, t_slice, t_some, t_no, t_dict0, t_dict1, t_rev, t_neg, t_extend, t_append, t_sliceScr, t_retbox, t_xcons, LV.get, CS.at_, SV.view, datsOf, Option.map_some, List.getElem?_cons_zero, List.getElem?_cons_succ, List.set_cons_zero, List.set_cons_succ, settled, initC, List.map_cons, List.map_nil, List.length_cons, List.length_nil, List.cons_append, List.nil_append, seqOf, runD, ltY, gtY, inX, notinX, ordX, boolX, addX, subX, mulX, mulY, modX, fdivX, powX, ltX, leX, gtX, geX, eqY, neY, eqX, neX, isX, isnX, ixX, lenX, listX, tupleX, intX, strX, shX, sumX, sumY, maxX, minX, allX, absX, slX]
  refine ⟨rfl, by rw [zz]; decide, by rw [zz]; decide, by rw [zz]; decide, by rw [zz]; decide, by rw [zz]; decide, by rw [zz]; decide, by rw [zz]; decide, pick_spec _ (by simp) (by simp) fun d hd => ?_⟩
  simp only [List.mem_cons, List.not_mem_nil, or_false] at hd
  rcases hd with rfl | rfl | rfl | rfl | rfl | rfl
  · exact h [7, 7, 7] ⟨by decide, by decide, by decide, by decide⟩
  · exact h [1, 3, 7, 7] ⟨by decide, by decide, by decide, by decide⟩
  · exact h [7, 3, 3, 3] ⟨by decide, by decide, by decide, by decide⟩
  · exact h [3, 3, 3, 1, 1, 1] ⟨by decide, by decide, by decide, by decide⟩
  · exact h [2, 7, 4, 3] ⟨by decide, by decide, by decide, by decide⟩
  · exact h [6, 6, 6] ⟨by decide, by decide, by decide, by decide⟩
theorem box_spec (ns : List Int) {Q : SV → Prop} (h : Q (.raw 5)) : C__law_box [.scr ns] Q := by
  refine ⟨rfl, ?_⟩
  have zz : sizeLine = 16777216 := sizeLine_eq
  show T__law_box _ [some (.scr ns), none, none, none, none]
  refine seq_step (fun c => ∃ (us : List Int) (z : Int), us.length ≤ 63 ∧ c = [some (.scr ns), some (.own (us.map .int)), some (.dat (.int z)), none, none]) (fun N hN => ?_) ?_
  · dsimp only [t_lenScr, t_raise1, t_callX, t_callKX, t_xf, t_isx, runX, t_seq, t_if, t_or, t_and, t_not, t_tst, t_v, t_f, t_l, t_c, t_c1, t_op, t_chain', t_ret, t_asg, t_for, t_wenum, t_wlist, t_wtup, t_wstr, t_wrng1, t_wrng2, t_drop, g_setix, t_wzip, t_lname, t_name, t_next, t_ifx, t_isi, t_notV, t_andV, t_orV, t_call, t_callK, t_acons, t_aconsR, t_anil, t_tupd, t_lstd, g_name, g_tup, g_cons, g_nil, t_drop, t_lc, t_yes, t_star1, t_retn, t_par, t_slice, t_some, t_no, t_dict0, t_dict1, t_rev, t_neg, t_extend, t_append, t_sliceScr, t_retbox, t_xcons, LV.get, CS.at_, SV.view, datsOf, Option.map_some, List.getElem?_cons_zero, List.getElem?_cons_succ, List.set_cons_zero, List.set_cons_succ, settled, initC, List.map_cons, List.map_nil, List.length_cons, List.length_nil, List.cons_append, List.nil_append, seqOf, runD, ltY, gtY, inX, notinX, ordX, boolX, addX, subX, mulX, mulY, modX, fdivX, powX, ltX, leX, gtX, geX, eqY, neY, eqX, neX, isX, isnX, ixX, lenX, listX, tupleX, intX, strX, shX, sumX, sumY, maxX, minX, allX, absX, slX]
    rw [show (some 63 : Option Int) = some ((63 : Nat) : Int) from rfl, cut_take, ← List.map_take]
    refine lcD_ind (I := fun ds acc c => c = [some (.scr ns), none, none, none, none] ∧ ∃ us vs : List Int, ds = vs.map .int ∧ acc = us.map .int ∧ us.length + vs.length ≤ 63) ?_ ?_ _ _ _ ⟨rfl, [], ns.take 63, rfl, rfl, ?_⟩
    · rintro acc c ⟨rfl, us, vs, e1, rfl, hl⟩
      exact ⟨ns, rfl, by show 1 < 5; decide, by show 2 < 5; decide, hN _ ⟨us, _, by omega, rfl⟩⟩
    · rintro d ds acc c N' hN' ⟨rfl, us, vs, e1, rfl, hl⟩
      cases vs with
      | nil => cases e1
      | cons v vs =>
        cases e1
        rw [List.length_cons] at hl
        have hz : (us.map PyData.int).length < sizeLine := by rw [List.length_map, zz]; omega
        have fin : ∀ k : Int, N' (us.map PyData.int ++ [.int k]) [some (.scr ns), none, none, none, none] := fun k => hN' _ _ ⟨rfl, us ++ [k], vs, rfl, by simp, by rw [List.length_append, List.length_singleton]; omega⟩
        dsimp only [t_lenScr, t_raise1, t_callX, t_callKX, t_xf, t_isx, runX, t_seq, t_if, t_or, t_and, t_not, t_tst, t_v, t_f, t_l, t_c, t_c1, t_op, t_chain', t_ret, t_asg, t_for, t_wenum, t_wlist, t_wtup, t_wstr, t_wrng1, t_wrng2, t_drop, g_setix, t_wzip, t_lname, t_name, t_next, t_ifx, t_isi, t_notV, t_andV, t_orV, t_call, t_callK, t_acons, t_aconsR, t_anil, t_tupd, t_lstd, g_name, g_tup, g_cons, g_nil, t_drop, t_lc, t_yes, t_star1, t_retn, t_par, t_slice, t_some, t_no, t_dict0, t_dict1, t_rev, t_neg, t_extend, t_append, t_sliceScr, t_retbox, t_xcons, LV.get, CS.at_, SV.view, datsOf, Option.map_some, List.getElem?_cons_zero, List.getElem?_cons_succ, List.set_cons_zero, List.set_cons_succ, settled, initC, List.map_cons, List.map_nil, List.length_cons, List.length_nil, List.cons_append, List.nil_append, seqOf, runD, ltY, gtY, inX, notinX, ordX, boolX, addX, subX, mulX, mulY, modX, fdivX, powX, ltX, leX, gtX, geX, eqY, neY, eqX, neX, isX, isnX, ixX, lenX, listX, tupleX, intX, strX, shX, sumX, sumY, maxX, minX, allX, absX, slX]
        exact ⟨by show 3 < 5; decide, ⟨_, rfl⟩, mulOk_l (by decide) (by decide), ⟨_, rfl⟩, hz, fin _⟩
    · rw [List.length_nil, List.length_take]; omega
  rintro c ⟨us, z, hu, rfl⟩
  refine seq_step (fun c => ∃ (z : Int) (x : Option SV), c = [some (.scr ns), some (.dat (.list (us.map .int))), some (.dat (.int z)), none, x]) (fun N hN => ?_) ?_
  · dsimp only [t_for, t_wlist, t_f, t_name, List.getElem?_cons_succ, List.getElem?_cons_zero, List.set_cons_zero, List.set_cons_succ, SV.view]
    refine forD_ind (I := fun ds c => ∃ (vs : List Int) (z : Int) (x : Option SV), ds = vs.map .int ∧ c = [some (.scr ns), some (.dat (.list (us.map .int))), some (.dat (.int z)), none, x]) ?_ ?_ _ _ ⟨us, z, none, rfl, rfl⟩
    · rintro c ⟨vs, z, x, _, rfl⟩
      exact hN _ ⟨z, x, rfl⟩
    · rintro d ds c N' hN' ⟨vs, z, x, e, rfl⟩
      cases vs with
      | nil => cases e
      | cons v vs =>
        cases e
        dsimp only [t_lenScr, t_raise1, t_callX, t_callKX, t_xf, t_isx, runX, t_seq, t_if, t_or, t_and, t_not, t_tst, t_v, t_f, t_l, t_c, t_c1, t_op, t_chain', t_ret, t_asg, t_for, t_wenum, t_wlist, t_wtup, t_wstr, t_wrng1, t_wrng2, t_drop, g_setix, t_wzip, t_lname, t_name, t_next, t_ifx, t_isi, t_notV, t_andV, t_orV, t_call, t_callK, t_acons, t_aconsR, t_anil, t_tupd, t_lstd, g_name, g_tup, g_cons, g_nil, t_drop, t_lc, t_yes, t_star1, t_retn, t_par, t_slice, t_some, t_no, t_dict0, t_dict1, t_rev, t_neg, t_extend, t_append, t_sliceScr, t_retbox, t_xcons, LV.get, CS.at_, SV.view, datsOf, Option.map_some, List.getElem?_cons_zero, List.getElem?_cons_succ, List.set_cons_zero, List.set_cons_succ, settled, initC, List.map_cons, List.map_nil, List.length_cons, List.length_nil, List.cons_append, List.nil_append, seqOf, runD, ltY, gtY, inX, notinX, ordX, boolX, addX, subX, mulX, mulY, modX, fdivX, powX, ltX, leX, gtX, geX, eqY, neY, eqX, neX, isX, isnX, ixX, lenX, listX, tupleX, intX, strX, shX, sumX, sumY, maxX, minX, allX, absX, slX]
        exact ⟨by show 4 < 5; decide, ⟨_, rfl⟩, mulOk_r (by decide) (by decide), ⟨_, rfl⟩, by decide, by show 2 < 5; decide, hN' _ ⟨vs, _, _, rfl, rfl⟩⟩
  rintro c ⟨z, x, rfl⟩
  dsimp only [t_lenScr, t_raise1, t_callX, t_callKX, t_xf, t_isx, runX, t_seq, t_if, t_or, t_and, t_not, t_tst, t_v, t_f, t_l, t_c, t_c1, t_op, t_chain', t_ret, t_asg, t_for, t_wenum, t_wlist, t_wtup, t_wstr, t_wrng1, t_wrng2, t_drop, g_setix, t_wzip, t_lname, t_name, t_next, t_ifx, t_isi, t_notV, t_andV, t_orV, t_call, t_callK, t_acons, t_aconsR, t_anil, t_tupd, t_lstd, g_name, g_tup, g_cons, g_nil, t_drop, t_lc, t_yes, t_star1, t_retn, t_par, t_slice, t_some, t_no, t_dict0, t_dict1, t_rev, t_neg, t_extend, t_append, t_sliceScr, t_retbox, t_xcons, LV.get, CS.at_, SV.view, datsOf, Option.map_some, List.getElem?_cons_zero, List.getElem?_cons_succ, List.set_cons_zero, List.set_cons_succ, settled, initC, List.map_cons, List.map_nil, List.length_cons, List.length_nil, List.cons_append, List.nil_append, seqOf, runD, ltY, gtY, inX, notinX, ordX, boolX, addX, subX, mulX, mulY, modX, fdivX, powX, ltX, leX, gtX, geX, eqY, neY, eqX, neX, isX, isnX, ixX, lenX, listX, tupleX, intX, strX, shX, sumX, sumY, maxX, minX, allX, absX, slX, t_retdbox]
  refine lcD_ind (I := fun ds acc c => c = [some (.scr ns), some (.dat (.list (us.map .int))), some (.dat (.int z)), none, none] ∧ ∃ ws vs : List Int, ds = vs.map .int ∧ acc = ws.map .int ∧ ws.length + vs.length ≤ 63) ?_ ?_ _ _ _ ⟨rfl, [], us, rfl, rfl, by simpa using hu⟩
  · rintro acc c ⟨rfl, ws, vs, e1, rfl, hl⟩
    refine ⟨⟨⟨ws, rfl, .inl ⟨rfl, by omega⟩⟩, True.intro⟩, h⟩
  · rintro d ds acc c N' hN' ⟨rfl, ws, vs, e1, rfl, hl⟩
    cases vs with
    | nil => cases e1
    | cons v vs =>
      cases e1
      rw [List.length_cons] at hl
      have hz : (ws.map PyData.int).length < sizeLine := by rw [List.length_map, zz]; omega
      dsimp only [t_lenScr, t_raise1, t_callX, t_callKX, t_xf, t_isx, runX, t_seq, t_if, t_or, t_and, t_not, t_tst, t_v, t_f, t_l, t_c, t_c1, t_op, t_chain', t_ret, t_asg, t_for, t_wenum, t_wlist, t_wtup, t_wstr, t_wrng1, t_wrng2, t_drop, g_setix, t_wzip, t_lname, t_name, t_next, t_ifx, t_isi, t_notV, t_andV, t_orV, t_call, t_callK, t_acons, t_aconsR, t_anil, t_tupd, t_lstd, g_name, g_tup, g_cons, g_nil, t_drop, t_lc, t_yes, t_star1, t_retn, t_par, t_slice, t_some, t_no, t_dict0, t_dict1, t_rev, t_neg, t_extend, t_append, t_sliceScr, t_retbox, t_xcons, LV.get, CS.at_, SV.view, datsOf, Option.map_some, List.getElem?_cons_zero, List.getElem?_cons_succ, List.set_cons_zero, List.set_cons_succ, settled, initC, List.map_cons, List.map_nil, List.length_cons, List.length_nil, List.cons_append, List.nil_append, seqOf, runD, ltY, gtY, inX, notinX, ordX, boolX, addX, subX, mulX, mulY, modX, fdivX, powX, ltX, leX, gtX, geX, eqY, neY, eqX, neX, isX, isnX, ixX, lenX, listX, tupleX, intX, strX, shX, sumX, sumY, maxX, minX, allX, absX, slX]
      refine ⟨by show 4 < 5; decide, ⟨_, rfl⟩, by decide, by decide, by decide, ?_⟩
      by_cases hv : (10 : Int) ^ (15 : Int).toNat < v
      · rw [decide_eq_true hv]
        exact iteT ⟨hz, hN' _ _ ⟨rfl, ws ++ [v], vs, rfl, by simp, by rw [List.length_append, List.length_singleton]; omega⟩⟩
      · rw [decide_eq_false hv]
        exact iteF (hN' _ _ ⟨rfl, ws, vs, rfl, rfl, by omega⟩)
theorem val_full {cs : List Nat} : valA 0 cs cs = sz cs - 1 := by
  induction cs using snoc_ind with
  | h0 => rfl
  | h1 a t ih =>
    rw [valA_snoc _ _ _ _ _ rfl, ih, sz_snoc]
    have := sz_pos a
    rw [Nat.sub_mul, Nat.one_mul]
    have h2 : 1 * (t + 1) ≤ sz a * (t + 1) := Nat.mul_le_mul_right _ this
    omega
theorem rm_full (cs : List Nat) : rmD cs cs = iN (List.replicate cs.length 0) := by
  induction cs with
  | nil => rfl
  | cons t cs ih =>
    show PyData.int (((t : Nat) : Int) - ((t : Nat) : Int)) :: rmD cs cs = _
    rw [ih, Int.sub_self]
    rfl
theorem rep_flat (n : Nat) : (List.replicate n [PyData.int 0]).flatten = iN (List.replicate n 0) := by
  induction n with
  | zero => rfl
  | succ n ih => rw [List.replicate_succ, List.flatten_cons, ih, List.replicate_succ]; rfl
theorem law_spec (ns : List Int) {Q : SV → Prop} {E : _ → Prop} (h : Q (.dat (.bool true))) : C_law [.scr ns] Q E := by
  refine ⟨rfl, ?_⟩
  have zz : sizeLine = 16777216 := sizeLine_eq
  show T_law _ _ [some (.scr ns), none, none, none, none]
  refine seq_step (fun c => c = [some (.scr ns), some (.raw 5), none, none, none]) (fun N hN => ?_) ?_
  · dsimp only [t_lenScr, t_raise1, t_callX, t_callKX, t_xf, t_isx, runX, t_seq, t_if, t_or, t_and, t_not, t_tst, t_v, t_f, t_l, t_c, t_c1, t_op, t_chain', t_ret, t_asg, t_for, t_wenum, t_wlist, t_wtup, t_wstr, t_wrng1, t_wrng2, t_drop, g_setix, t_wzip, t_lname, t_name, t_next, t_ifx, t_isi, t_notV, t_andV, t_orV, t_call, t_callK, t_acons, t_aconsR, t_anil, t_tupd, t_lstd, g_name, g_tup, g_cons, g_nil, t_drop, t_lc, t_yes, t_star1, t_retn, t_par, t_slice, t_some, t_no, t_dict0, t_dict1, t_rev, t_neg, t_extend, t_append, t_sliceScr, t_retbox, t_xcons, LV.get, CS.at_, SV.view, datsOf, Option.map_some, List.getElem?_cons_zero, List.getElem?_cons_succ, List.set_cons_zero, List.set_cons_succ, settled, initC, List.map_cons, List.map_nil, List.length_cons, List.length_nil, List.cons_append, List.nil_append, seqOf, runD, ltY, gtY, inX, notinX, ordX, boolX, addX, subX, mulX, mulY, modX, fdivX, powX, ltX, leX, gtX, geX, eqY, neY, eqX, neX, isX, isnX, ixX, lenX, listX, tupleX, intX, strX, shX, sumX, sumY, maxX, minX, allX, absX, slX]
    exact ⟨rfl, box_spec ns ⟨by show 1 < 5; decide, hN _ rfl⟩⟩
  rintro c rfl
  refine seq_step (fun c => ∃ a b, Crd a ∧ Crd b ∧ c = [some (.scr ns), some (.raw 5), some (.dat (tN a)), some (.dat (tN b)), none]) (fun N hN => ?_) ?_
  · dsimp only [t_lenScr, t_raise1, t_callX, t_callKX, t_xf, t_isx, runX, t_seq, t_if, t_or, t_and, t_not, t_tst, t_v, t_f, t_l, t_c, t_c1, t_op, t_chain', t_ret, t_asg, t_for, t_wenum, t_wlist, t_wtup, t_wstr, t_wrng1, t_wrng2, t_drop, g_setix, t_wzip, t_lname, t_name, t_next, t_ifx, t_isi, t_notV, t_andV, t_orV, t_call, t_callK, t_acons, t_aconsR, t_anil, t_tupd, t_lstd, g_name, g_tup, g_cons, g_nil, t_drop, t_lc, t_yes, t_star1, t_retn, t_par, t_slice, t_some, t_no, t_dict0, t_dict1, t_rev, t_neg, t_extend, t_append, t_sliceScr, t_retbox, t_xcons, LV.get, CS.at_, SV.view, datsOf, Option.map_some, List.getElem?_cons_zero, List.getElem?_cons_succ, List.set_cons_zero, List.set_cons_succ, settled, initC, List.map_cons, List.map_nil, List.length_cons, List.length_nil, List.cons_append, List.nil_append, seqOf, runD, ltY, gtY, inX, notinX, ordX, boolX, addX, subX, mulX, mulY, modX, fdivX, powX, ltX, leX, gtX, geX, eqY, neY, eqX, neX, isX, isnX, ixX, lenX, listX, tupleX, intX, strX, shX, sumX, sumY, maxX, minX, allX, absX, slX]
    refine ⟨rfl, card_spec (m := 20) (by decide) fun a ha => ⟨rfl, card_spec (m := 64) (by decide) fun b hb => ?_⟩⟩
    exact ⟨by show 2 < 5; decide, by show 3 < 5; decide, hN _ ⟨a, b, ha, hb, rfl⟩⟩
  rintro c ⟨a, b, ha, hb, rfl⟩
  refine seq_step (fun c => c = [some (.scr ns), some (.raw 5), some (.dat (tN a)), some (.dat (tN b)), none]) (fun N hN => ?_) ?_
  · dsimp only [t_lenScr, t_raise1, t_callX, t_callKX, t_xf, t_isx, runX, t_seq, t_if, t_or, t_and, t_not, t_tst, t_v, t_f, t_l, t_c, t_c1, t_op, t_chain', t_ret, t_asg, t_for, t_wenum, t_wlist, t_wtup, t_wstr, t_wrng1, t_wrng2, t_drop, g_setix, t_wzip, t_lname, t_name, t_next, t_ifx, t_isi, t_notV, t_andV, t_orV, t_call, t_callK, t_acons, t_aconsR, t_anil, t_tupd, t_lstd, g_name, g_tup, g_cons, g_nil, t_drop, t_lc, t_yes, t_star1, t_retn, t_par, t_slice, t_some, t_no, t_dict0, t_dict1, t_rev, t_neg, t_extend, t_append, t_sliceScr, t_retbox, t_xcons, LV.get, CS.at_, SV.view, datsOf, Option.map_some, List.getElem?_cons_zero, List.getElem?_cons_succ, List.set_cons_zero, List.set_cons_succ, settled, initC, List.map_cons, List.map_nil, List.length_cons, List.length_nil, List.cons_append, List.nil_append, seqOf, runD, ltY, gtY, inX, notinX, ordX, boolX, addX, subX, mulX, mulY, modX, fdivX, powX, ltX, leX, gtX, geX, eqY, neY, eqX, neX, isX, isnX, ixX, lenX, listX, tupleX, intX, strX, shX, sumX, sumY, maxX, minX, allX, absX, slX]
    refine ⟨rfl, counted_spec ha (by decide) (by decide) ?_⟩
    dsimp only
    refine iteF ⟨rfl, counted_spec hb (by decide) (by decide) ?_⟩
    dsimp only
    exact iteF ⟨rfl, is_all_spec ha (iteF (hN _ rfl))⟩
  rintro c rfl
  refine seq_step (fun c => c = [some (.scr ns), some (.raw 5), some (.dat (tN a)), some (.dat (tN b)), none]) (fun N hN => ?_) ?_
  · dsimp only [t_lenScr, t_raise1, t_callX, t_callKX, t_xf, t_isx, runX, t_seq, t_if, t_or, t_and, t_not, t_tst, t_v, t_f, t_l, t_c, t_c1, t_op, t_chain', t_ret, t_asg, t_for, t_wenum, t_wlist, t_wtup, t_wstr, t_wrng1, t_wrng2, t_drop, g_setix, t_wzip, t_lname, t_name, t_next, t_ifx, t_isi, t_notV, t_andV, t_orV, t_call, t_callK, t_acons, t_aconsR, t_anil, t_tupd, t_lstd, g_name, g_tup, g_cons, g_nil, t_drop, t_lc, t_yes, t_star1, t_retn, t_par, t_slice, t_some, t_no, t_dict0, t_dict1, t_rev, t_neg, t_extend, t_append, t_sliceScr, t_retbox, t_xcons, LV.get, CS.at_, SV.view, datsOf, Option.map_some, List.getElem?_cons_zero, List.getElem?_cons_succ, List.set_cons_zero, List.set_cons_succ, settled, initC, List.map_cons, List.map_nil, List.length_cons, List.length_nil, List.cons_append, List.nil_append, seqOf, runD, ltY, gtY, inX, notinX, ordX, boolX, addX, subX, mulX, mulY, modX, fdivX, powX, ltX, leX, gtX, geX, eqY, neY, eqX, neX, isX, isnX, ixX, lenX, listX, tupleX, intX, strX, shX, sumX, sumY, maxX, minX, allX, absX, slX]
    refine ⟨rfl, draw_spec (by decide) (by decide) fun r g0 g1 => ?_⟩
    dsimp only
    by_cases hr : r = 0
    · rw [decide_eq_true hr]
      refine iteT ⟨rfl, rfl, great_spec fun e he => ?_⟩
      exact counted_spec he (by decide) (by decide) (iteF (hN _ rfl))
    · rw [decide_eq_false hr]
      exact iteF (iteF (hN _ rfl))
  rintro c rfl
  refine seq_step (fun c => c = [some (.scr ns), some (.raw 5), some (.dat (tN a)), some (.dat (tN b)), some (.dat (.int ((sz b : Nat) - 1 : Int)))]) (fun N hN => ?_) ?_
  · dsimp only [t_lenScr, t_raise1, t_callX, t_callKX, t_xf, t_isx, runX, t_seq, t_if, t_or, t_and, t_not, t_tst, t_v, t_f, t_l, t_c, t_c1, t_op, t_chain', t_ret, t_asg, t_for, t_wenum, t_wlist, t_wtup, t_wstr, t_wrng1, t_wrng2, t_drop, g_setix, t_wzip, t_lname, t_name, t_next, t_ifx, t_isi, t_notV, t_andV, t_orV, t_call, t_callK, t_acons, t_aconsR, t_anil, t_tupd, t_lstd, g_name, g_tup, g_cons, g_nil, t_drop, t_lc, t_yes, t_star1, t_retn, t_par, t_slice, t_some, t_no, t_dict0, t_dict1, t_rev, t_neg, t_extend, t_append, t_sliceScr, t_retbox, t_xcons, LV.get, CS.at_, SV.view, datsOf, Option.map_some, List.getElem?_cons_zero, List.getElem?_cons_succ, List.set_cons_zero, List.set_cons_succ, settled, initC, List.map_cons, List.map_nil, List.length_cons, List.length_nil, List.cons_append, List.nil_append, seqOf, runD, ltY, gtY, inX, notinX, ordX, boolX, addX, subX, mulX, mulY, modX, fdivX, powX, ltX, leX, gtX, geX, eqY, neY, eqX, neX, isX, isnX, ixX, lenX, listX, tupleX, intX, strX, shX, sumX, sumY, maxX, minX, allX, absX, slX]
    refine all_spec hb ⟨by show 4 < 5; decide, hN _ ?_⟩
    rw [tR_len]
  rintro c rfl
  have hpos := sz_pos b
  have hsz := hb.sz
  have h1 := hb.one
  have h6 := hb.len
  have ok : shOk (.list [.int ((sz b - 1 : Nat) : Int), .tuple (iN (List.replicate b.length 0))]) := by
    refine ((Tm.lstOf (W := 1300) (D := 4) (n := 2) (fun d hd => ?_) (Nat.le_refl _)).mono (W' := 5000) (D' := 6) (by decide) (by decide)).ok
    simp only [List.mem_cons, List.not_mem_nil, or_false] at hd
    rcases hd with rfl | rfl
    · exact (tm_len _ (by omega)).mono (by decide) (by decide)
    · rw [← rm_full]
      exact rm_tm hb (leL_refl b)
  dsimp only [t_lenScr, t_raise1, t_callX, t_callKX, t_xf, t_isx, runX, t_seq, t_if, t_or, t_and, t_not, t_tst, t_v, t_f, t_l, t_c, t_c1, t_op, t_chain', t_ret, t_asg, t_for, t_wenum, t_wlist, t_wtup, t_wstr, t_wrng1, t_wrng2, t_drop, g_setix, t_wzip, t_lname, t_name, t_next, t_ifx, t_isi, t_notV, t_andV, t_orV, t_call, t_callK, t_acons, t_aconsR, t_anil, t_tupd, t_lstd, g_name, g_tup, g_cons, g_nil, t_drop, t_lc, t_yes, t_star1, t_retn, t_par, t_slice, t_some, t_no, t_dict0, t_dict1, t_rev, t_neg, t_extend, t_append, t_sliceScr, t_retbox, t_xcons, LV.get, CS.at_, SV.view, datsOf, Option.map_some, List.getElem?_cons_zero, List.getElem?_cons_succ, List.set_cons_zero, List.set_cons_succ, settled, initC, List.map_cons, List.map_nil, List.length_cons, List.length_nil, List.cons_append, List.nil_append, seqOf, runD, ltY, gtY, inX, notinX, ordX, boolX, addX, subX, mulX, mulY, modX, fdivX, powX, ltX, leX, gtX, geX, eqY, neY, eqX, neX, isX, isnX, ixX, lenX, listX, tupleX, intX, strX, shX, sumX, sumY, maxX, minX, allX, absX, slX]
  refine ⟨⟨_, rfl⟩, place_spec hb _ (fun s e hs => ?_) (fun e => ?_)⟩
  · have e1 : iN b = iN s := by injection e
    have e2 := iN_inj e1
    subst e2
    rw [val_full]
    refine ⟨⟨_, rfl⟩, room_spec h6 ?_⟩
    rw [rm_full]
    refine ⟨by rw [zz]; decide, ok, by rw [zz]; decide, ⟨_, rfl⟩, ?_⟩
    rw [iN_len]
    have fin : shOk (.list [.int ((sz b : Nat) - 1 : Int), .tuple (iN (List.replicate b.length 0))]) ∧ Q (.dat (.bool (decide ((PyData.list [.int ((sz b - 1 : Nat) : Int), .tuple (iN (List.replicate b.length 0))]).shown = (PyData.list [.int ((sz b : Nat) - 1 : Int), .tuple (iN (List.replicate b.length 0))]).shown)))) := by
      rw [show ((sz b : Nat) - 1 : Int) = ((sz b - 1 : Nat) : Int) by omega]
      refine ⟨ok, ?_⟩
      rw [decide_eq_true rfl]
      exact h
    by_cases h2 : ((b.length : Nat) : Int) = 1
    · rw [if_pos h2]
      have e4 : iN (List.replicate b.length 0) = [.int 0] := by rw [show b.length = 1 by omega]; rfl
      rw [e4] at fin
      rw [e4]
      exact ⟨by rw [zz]; decide, fin⟩
    · rw [if_neg h2]
      refine ⟨by simp, by omega, by omega, by decide, ?_⟩
      rw [Int.toNat_natCast, rep_flat]
      exact ⟨by rw [zz]; decide, fin⟩
  · rw [isSt_tN (leL_refl b)] at e; cases e
end Lk

namespace Lk
open PySem PySem.Spec PyProof.Rows L2 Cl
theorem all_mk {l : PySem.W.OpenLaw} {w : World} {K : PySem.W.Frag} {h : Heap} {mg : Str → Option Value} {fa f0 f1 f2 f3 f4 f5 f6 f7 f8 f9 f10 f11 f12 f13 f14 f15 f16 f17 f18 f19 : Addr} (X0 : K.In h) (Gn : h.Ns mainGlobals mg) (hfa : mg "law" = some (.ref fa))
    {od0 od1 od2 od3 od4 od5 od6 od7 od8 od9 od10 od11 od12 od13 od14 od15 od16 od17 od18 od19 an0 an1 an2 an3 an4 an5 an6 an7 an8 an9 an10 an11 an12 an13 an14 an15 an16 an17 an18 an19 : Option Addr} {sl0 sl1 sl2 sl3 sl4 sl5 sl6 sl7 sl8 sl9 sl10 sl11 sl12 sl13 sl14 sl15 sl16 sl17 sl18 sl19 : Array (Option Value)} {oc0 oc1 oc2 oc3 oc4 oc5 oc6 oc7 oc8 oc9 oc10 oc11 oc12 oc13 oc14 oc15 oc16 oc17 oc18 oc19 kV0 kV1 kV2 kV3 kV4 kV5 kV6 kV7 kV8 kV9 kV10 kV11 kV12 kV13 kV14 kV15 kV16 kV17 kV18 kV19 dc0 dc1 dc2 dc3 dc4 dc5 dc6 dc7 dc8 dc9 dc10 dc11 dc12 dc13 dc14 dc15 dc16 dc17 dc18 dc19 pm0 pm1 pm2 pm3 pm4 pm5 pm6 pm7 pm8 pm9 pm10 pm11 pm12 pm13 pm14 pm15 pm16 pm17 pm18 pm19 cd0 cd1 cd2 cd3 cd4 cd5 cd6 cd7 cd8 cd9 cd10 cd11 cd12 cd13 cd14 cd15 cd16 cd17 cd18 cd19 ct0 ct1 ct2 ct3 ct4 ct5 ct6 ct7 ct8 ct9 ct10 ct11 ct12 ct13 ct14 ct15 ct16 ct17 ct18 ct19 : Value}
    {cB cc0 ci0 : Addr}
    {xnm0 xq0 : Str} {xN0 : Addr} {xbs0 xsub0 : List Value} {xsn0 : List Str} {xab0 : Bool} {xcol0 : Option Bool} {xdd0 xod0 xan0 : Option Addr} {xm00 xm10 xm20 xm30 xm50 : Option Value} {xoc0 xkV0 xdc0 xpm0 xcd0 xct0 : Value} {xsl0 : Array (Option Value)}
    (hB : PySem.W.nsIn K mainGlobals "HigherError" = some (some (.ref cB)))
    (hB1 : PySem.W.specialIn K (.ref cB) "__getattribute__" = some (some (.builtin "type.__getattribute__")))
    (hB2 : PySem.W.readsIn K cB (.type "type") = true)
    (hB3 : PySem.W.findCls K (.ref cB) (.type "type") "__init__" = some (.val (.builtin "ValueError.__init__")))
    (hB4 : PySem.W.subIn K (.ref cB) (.type "BaseException") = some true)
    (hB5 : PySem.W.hasDictIn K cB = true)
    (hB6 : PySem.W.typeIn K (.ref cB) = some (.type "type"))
    (hB7 : PySem.W.isClsIn K cB = true)
    (hB8 : PySem.W.subIn K (.ref cB) (.ref cB) = some true)
    (hO1 : PySem.W.specialIn K (.builtin "object.__class__") "__get__" = some (some (.builtin "getset_descriptor.__get__")))
    (hO2 : PySem.W.takesIn K (.builtin "object.__class__") = some true)
    (h0a : PySem.W.nsIn K mainGlobals "NoState" = some (some (.ref cc0)))
    (h0l : K.lookup cc0 = some (excClassObj xnm0 xq0 cc0 xN0 xbs0 [.ref cB, .type "ValueError", .type "Exception", .type "BaseException", .type "object"] true xsn0 xsub0 xab0 xcol0 xdd0 xm00 xm10 xm20 xm30 xm50 "ValueError.__new__"))
    (h0s : PySem.W.findIn K (.ref cc0) "__setattr__" = some (some (.builtin "object.__setattr__")))
    (h0e : PySem.W.subIn K (.ref cc0) (.type "BaseException") = some true)
    (h0v : PySem.W.subIn K (.ref cc0) (.type "ValueError") = some true)
    (h0t : PySem.W.typeIn K (.ref cc0) = some (.type "type"))
    (h0k : PySem.W.keepIn K (.ref cc0) = true)
    (h0g : PySem.W.findIn K (.ref cc0) "__getattribute__" = some (some (.builtin "BaseException.__getattribute__")))
    (h0h : PySem.W.findIn K (.ref cc0) "__getattr__" = some none)
    (h0d : PySem.W.hasDictIn K cc0 = true)
    (h0c : PySem.W.findIn K (.ref cc0) "__class__" = some (some (.builtin "object.__class__")))
    (h0m : PySem.W.mroIn K cc0 (.type "object") = some true)
    (h0z : PySem.W.isClsIn K cc0 = true)
    (h0B : PySem.W.subIn K (.ref cc0) (.ref cB) = some true)
    (h0x0 : PySem.W.subIn K (.ref cc0) (.ref cc0) = some true)
    (h0n : PySem.W.findIn K (.ref cc0) "given" = some none)
    (h0i : PySem.W.findIn K (.ref cc0) "__init__" = some (some (.ref ci0)))
    (h0it : PySem.W.typeIn K (.ref ci0) = some (.type "function"))
    (h0il : K.lookup ci0 = some ⟨xoc0, xod0, .func (PySem.W.fnOf "__init__" "NoState.__init__" (defArgs SI_NoState) (defBody SI_NoState) (defScope SI_NoState) .none xkV0 xdc0 xpm0 xan0 xcd0 xct0), xsl0⟩)
    (h0ic : PySem.W.codeIn K xcd0 "NoState.__init__" = true)
    (h0ik : PySem.W.keepIn K (.ref ci0) = true)
    (a0 : PySem.W.nsIn K mainGlobals "is_integer" = some (some (.ref f0))) (l0 : K.lookup f0 = some ⟨oc0, od0, .func (PySem.W.fnOf "is_integer" "is_integer" (defArgs S_is_integer) (defBody S_is_integer) (defScope S_is_integer) .none kV0 dc0 pm0 an0 cd0 ct0), sl0⟩) (c0 : PySem.W.codeIn K cd0 "is_integer" = true) (k0 : PySem.W.keepIn K (.ref f0) = true)
    (a1 : PySem.W.nsIn K mainGlobals "states" = some (some (.ref f1))) (l1 : K.lookup f1 = some ⟨oc1, od1, .func (PySem.W.fnOf "states" "states" (defArgs S_states) (defBody S_states) (defScope S_states) .none kV1 dc1 pm1 an1 cd1 ct1), sl1⟩) (c1 : PySem.W.codeIn K cd1 "states" = true) (k1 : PySem.W.keepIn K (.ref f1) = true)
    (a2 : PySem.W.nsIn K mainGlobals "is_state" = some (some (.ref f2))) (l2 : K.lookup f2 = some ⟨oc2, od2, .func (PySem.W.fnOf "is_state" "is_state" (defArgs S_is_state) (defBody S_is_state) (defScope S_is_state) .none kV2 dc2 pm2 an2 cd2 ct2), sl2⟩) (c2 : PySem.W.codeIn K cd2 "is_state" = true) (k2 : PySem.W.keepIn K (.ref f2) = true)
    (a3 : PySem.W.nsIn K mainGlobals "place_of" = some (some (.ref f3))) (l3 : K.lookup f3 = some ⟨oc3, od3, .func (PySem.W.fnOf "place_of" "place_of" (defArgs S_place_of) (defBody S_place_of) (defScope S_place_of) .none kV3 dc3 pm3 an3 cd3 ct3), sl3⟩) (c3 : PySem.W.codeIn K cd3 "place_of" = true) (k3 : PySem.W.keepIn K (.ref f3) = true)
    (a4 : PySem.W.nsIn K mainGlobals "is_above" = some (some (.ref f4))) (l4 : K.lookup f4 = some ⟨oc4, od4, .func (PySem.W.fnOf "is_above" "is_above" (defArgs S_is_above) (defBody S_is_above) (defScope S_is_above) .none kV4 dc4 pm4 an4 cd4 ct4), sl4⟩) (c4 : PySem.W.codeIn K cd4 "is_above" = true) (k4 : PySem.W.keepIn K (.ref f4) = true)
    (a5 : PySem.W.nsIn K mainGlobals "rises" = some (some (.ref f5))) (l5 : K.lookup f5 = some ⟨oc5, od5, .func (PySem.W.fnOf "rises" "rises" (defArgs S_rises) (defBody S_rises) (defScope S_rises) .none kV5 dc5 pm5 an5 cd5 ct5), sl5⟩) (c5 : PySem.W.codeIn K cd5 "rises" = true) (k5 : PySem.W.keepIn K (.ref f5) = true)
    (a6 : PySem.W.nsIn K mainGlobals "room" = some (some (.ref f6))) (l6 : K.lookup f6 = some ⟨oc6, od6, .func (PySem.W.fnOf "room" "room" (defArgs S_room) (defBody S_room) (defScope S_room) .none kV6 dc6 pm6 an6 cd6 ct6), sl6⟩) (c6 : PySem.W.codeIn K cd6 "room" = true) (k6 : PySem.W.keepIn K (.ref f6) = true)
    (a7 : PySem.W.nsIn K mainGlobals "_law_box" = some (some (.ref f7))) (l7 : K.lookup f7 = some ⟨oc7, od7, .func (PySem.W.fnOf "_law_box" "_law_box" (defArgs S__law_box) (defBody S__law_box) (defScope S__law_box) .none kV7 dc7 pm7 an7 cd7 ct7), sl7⟩) (c7 : PySem.W.codeIn K cd7 "_law_box" = true) (k7 : PySem.W.keepIn K (.ref f7) = true)
    (a8 : PySem.W.nsIn K mainGlobals "_law_draw" = some (some (.ref f8))) (l8 : K.lookup f8 = some ⟨oc8, od8, .func (PySem.W.fnOf "_law_draw" "_law_draw" (defArgs S__law_draw) (defBody S__law_draw) (defScope S__law_draw) .none kV8 dc8 pm8 an8 cd8 ct8), sl8⟩) (c8 : PySem.W.codeIn K cd8 "_law_draw" = true) (k8 : PySem.W.keepIn K (.ref f8) = true)
    (a9 : PySem.W.nsIn K mainGlobals "_law_pick" = some (some (.ref f9))) (l9 : K.lookup f9 = some ⟨oc9, od9, .func (PySem.W.fnOf "_law_pick" "_law_pick" (defArgs S__law_pick) (defBody S__law_pick) (defScope S__law_pick) .none kV9 dc9 pm9 an9 cd9 ct9), sl9⟩) (c9 : PySem.W.codeIn K cd9 "_law_pick" = true) (k9 : PySem.W.keepIn K (.ref f9) = true)
    (a10 : PySem.W.nsIn K mainGlobals "_law_card" = some (some (.ref f10))) (l10 : K.lookup f10 = some ⟨oc10, od10, .func (PySem.W.fnOf "_law_card" "_law_card" (defArgs S__law_card) (defBody S__law_card) (defScope S__law_card) .none kV10 dc10 pm10 an10 cd10 ct10), sl10⟩) (c10 : PySem.W.codeIn K cd10 "_law_card" = true) (k10 : PySem.W.keepIn K (.ref f10) = true)
    (a11 : PySem.W.nsIn K mainGlobals "_law_all" = some (some (.ref f11))) (l11 : K.lookup f11 = some ⟨oc11, od11, .func (PySem.W.fnOf "_law_all" "_law_all" (defArgs S__law_all) (defBody S__law_all) (defScope S__law_all) .none kV11 dc11 pm11 an11 cd11 ct11), sl11⟩) (c11 : PySem.W.codeIn K cd11 "_law_all" = true) (k11 : PySem.W.keepIn K (.ref f11) = true)
    (a12 : PySem.W.nsIn K mainGlobals "_law_great" = some (some (.ref f12))) (l12 : K.lookup f12 = some ⟨oc12, od12, .func (PySem.W.fnOf "_law_great" "_law_great" (defArgs S__law_great) (defBody S__law_great) (defScope S__law_great) .none kV12 dc12 pm12 an12 cd12 ct12), sl12⟩) (c12 : PySem.W.codeIn K cd12 "_law_great" = true) (k12 : PySem.W.keepIn K (.ref f12) = true)
    (a13 : PySem.W.nsIn K mainGlobals "_law_told" = some (some (.ref f13))) (l13 : K.lookup f13 = some ⟨oc13, od13, .func (PySem.W.fnOf "_law_told" "_law_told" (defArgs S__law_told) (defBody S__law_told) (defScope S__law_told) .none kV13 dc13 pm13 an13 cd13 ct13), sl13⟩) (c13 : PySem.W.codeIn K cd13 "_law_told" = true) (k13 : PySem.W.keepIn K (.ref f13) = true)
    (a14 : PySem.W.nsIn K mainGlobals "_law_odd" = some (some (.ref f14))) (l14 : K.lookup f14 = some ⟨oc14, od14, .func (PySem.W.fnOf "_law_odd" "_law_odd" (defArgs S__law_odd) (defBody S__law_odd) (defScope S__law_odd) .none kV14 dc14 pm14 an14 cd14 ct14), sl14⟩) (c14 : PySem.W.codeIn K cd14 "_law_odd" = true) (k14 : PySem.W.keepIn K (.ref f14) = true)
    (a15 : PySem.W.nsIn K mainGlobals "_law_is_state" = some (some (.ref f15))) (l15 : K.lookup f15 = some ⟨oc15, od15, .func (PySem.W.fnOf "_law_is_state" "_law_is_state" (defArgs S__law_is_state) (defBody S__law_is_state) (defScope S__law_is_state) .none kV15 dc15 pm15 an15 cd15 ct15), sl15⟩) (c15 : PySem.W.codeIn K cd15 "_law_is_state" = true) (k15 : PySem.W.keepIn K (.ref f15) = true)
    (a16 : PySem.W.nsIn K mainGlobals "_law_is_counted" = some (some (.ref f16))) (l16 : K.lookup f16 = some ⟨oc16, od16, .func (PySem.W.fnOf "_law_is_counted" "_law_is_counted" (defArgs S__law_is_counted) (defBody S__law_is_counted) (defScope S__law_is_counted) .none kV16 dc16 pm16 an16 cd16 ct16), sl16⟩) (c16 : PySem.W.codeIn K cd16 "_law_is_counted" = true) (k16 : PySem.W.keepIn K (.ref f16) = true)
    (a17 : PySem.W.nsIn K mainGlobals "_law_is_compared" = some (some (.ref f17))) (l17 : K.lookup f17 = some ⟨oc17, od17, .func (PySem.W.fnOf "_law_is_compared" "_law_is_compared" (defArgs S__law_is_compared) (defBody S__law_is_compared) (defScope S__law_is_compared) .none kV17 dc17 pm17 an17 cd17 ct17), sl17⟩) (c17 : PySem.W.codeIn K cd17 "_law_is_compared" = true) (k17 : PySem.W.keepIn K (.ref f17) = true)
    (a18 : PySem.W.nsIn K mainGlobals "_law_is_all" = some (some (.ref f18))) (l18 : K.lookup f18 = some ⟨oc18, od18, .func (PySem.W.fnOf "_law_is_all" "_law_is_all" (defArgs S__law_is_all) (defBody S__law_is_all) (defScope S__law_is_all) .none kV18 dc18 pm18 an18 cd18 ct18), sl18⟩) (c18 : PySem.W.codeIn K cd18 "_law_is_all" = true) (k18 : PySem.W.keepIn K (.ref f18) = true)
    (a19 : PySem.W.nsIn K mainGlobals "law" = some (some (.ref f19))) (l19 : K.lookup f19 = some ⟨oc19, od19, .func (PySem.W.fnOf "law" "law" (defArgs S_law) (defBody S_law) (defScope S_law) .none kV19 dc19 pm19 an19 cd19 ct19), sl19⟩) (c19 : PySem.W.codeIn K cd19 "law" = true) (k19 : PySem.W.keepIn K (.ref f19) = true)
    (z0 : PySem.W.nsIn K mainGlobals "ValueError" = some none)
    (z1 : PySem.W.nsIn K mainGlobals "abs" = some none)
    (z2 : PySem.W.nsIn K mainGlobals "all" = some none)
    (z3 : PySem.W.nsIn K mainGlobals "bool" = some none)
    (z4 : PySem.W.nsIn K mainGlobals "int" = some none)
    (z5 : PySem.W.nsIn K mainGlobals "isinstance" = some none)
    (z6 : PySem.W.nsIn K mainGlobals "len" = some none)
    (z7 : PySem.W.nsIn K mainGlobals "list" = some none)
    (z8 : PySem.W.nsIn K mainGlobals "range" = some none)
    (z9 : PySem.W.nsIn K mainGlobals "repr" = some none)
    (z10 : PySem.W.nsIn K mainGlobals "sum" = some none)
    (z11 : PySem.W.nsIn K mainGlobals "tuple" = some none)
    (z12 : PySem.W.nsIn K mainGlobals "zip" = some none)
    : ∃ fd : FuncData, (∀ (s : Shared) (v : Value), BindsTo s fd ⟨[v], []⟩ [("_law_script", v)]) ∧ ∀ base : Heap, K.In base → base.Ns mainGlobals mg → FnG l.prog w K mg base CX0 7 fa fd ["_law_script"] (spD K ZPu 1 (fun svs Q => C_law svs Q fun _ => False)) := by
  have e := hfa.symm.trans (PySem.W.mg_of X0 Gn a19)
  cases e
  have F0 := fun_mk (st := S_is_integer) l0 c0 k0
  have b0 := F0.binds (ps := ["value"]) fun _ _ _ _ _ _ us hl => match us, hl with | [_], _ => rfl
  have F1 := fun_mk (st := S_states) l1 c1 k1
  have b1 := F1.binds (ps := ["card"]) fun _ _ _ _ _ _ us hl => match us, hl with | [_], _ => rfl
  have F2 := fun_mk (st := S_is_state) l2 c2 k2
  have b2 := F2.binds (ps := ["card", "value"]) fun _ _ _ _ _ _ us hl => match us, hl with | [_, _], _ => rfl
  have F3 := fun_mk (st := S_place_of) l3 c3 k3
  have b3 := F3.binds (ps := ["card", "state"]) fun _ _ _ _ _ _ us hl => match us, hl with | [_, _], _ => rfl
  have F4 := fun_mk (st := S_is_above) l4 c4 k4
  have b4 := F4.binds (ps := ["state", "other"]) fun _ _ _ _ _ _ us hl => match us, hl with | [_, _], _ => rfl
  have F5 := fun_mk (st := S_rises) l5 c5 k5
  have b5 := F5.binds (ps := ["state", "other"]) fun _ _ _ _ _ _ us hl => match us, hl with | [_, _], _ => rfl
  have F6 := fun_mk (st := S_room) l6 c6 k6
  have b6 := F6.binds (ps := ["card", "state"]) fun _ _ _ _ _ _ us hl => match us, hl with | [_, _], _ => rfl
  have F7 := fun_mk (st := S__law_box) l7 c7 k7
  have b7 := F7.binds (ps := ["_law_script"]) fun _ _ _ _ _ _ us hl => match us, hl with | [_], _ => rfl
  have F8 := fun_mk (st := S__law_draw) l8 c8 k8
  have b8 := F8.binds (ps := ["_law_box_here", "_law_many"]) fun _ _ _ _ _ _ us hl => match us, hl with | [_, _], _ => rfl
  have F9 := fun_mk (st := S__law_pick) l9 c9 k9
  have b9 := F9.binds (ps := ["_law_box_here", "_law_items"]) fun _ _ _ _ _ _ us hl => match us, hl with | [_, _], _ => rfl
  have F10 := fun_mk (st := S__law_card) l10 c10 k10
  have b10 := F10.binds (ps := ["_law_box_here", "_law_most"]) fun _ _ _ _ _ _ us hl => match us, hl with | [_, _], _ => rfl
  have F11 := fun_mk (st := S__law_all) l11 c11 k11
  have b11 := F11.binds (ps := ["_law_card_here"]) fun _ _ _ _ _ _ us hl => match us, hl with | [_], _ => rfl
  have F12 := fun_mk (st := S__law_great) l12 c12 k12
  have b12 := F12.binds (ps := ["_law_box_here"]) fun _ _ _ _ _ _ us hl => match us, hl with | [_], _ => rfl
  have F13 := fun_mk (st := S__law_told) l13 c13 k13
  have b13 := F13.binds (ps := ["_law_card_here", "_law_thing", "_law_is_named"]) fun _ _ _ _ _ _ us hl => match us, hl with | [_, _, _], _ => rfl
  have F14 := fun_mk (st := S__law_odd) l14 c14 k14
  have b14 := F14.binds (ps := ["_law_box_here", "_law_card_here", "_law_levels"]) fun _ _ _ _ _ _ us hl => match us, hl with | [_, _, _], _ => rfl
  have F15 := fun_mk (st := S__law_is_state) l15 c15 k15
  have b15 := F15.binds (ps := ["_law_card_here", "_law_thing"]) fun _ _ _ _ _ _ us hl => match us, hl with | [_, _], _ => rfl
  have F16 := fun_mk (st := S__law_is_counted) l16 c16 k16
  have b16 := F16.binds (ps := ["_law_box_here", "_law_card_here", "_law_turns"]) fun _ _ _ _ _ _ us hl => match us, hl with | [_, _, _], _ => rfl
  have F17 := fun_mk (st := S__law_is_compared) l17 c17 k17
  have b17 := F17.binds (ps := ["_law_card_here", "_law_one", "_law_two"]) fun _ _ _ _ _ _ us hl => match us, hl with | [_, _, _], _ => rfl
  have F18 := fun_mk (st := S__law_is_all) l18 c18 k18
  have b18 := F18.binds (ps := ["_law_box_here", "_law_card_here"]) fun _ _ _ _ _ _ us hl => match us, hl with | [_, _], _ => rfl
  have F19 := fun_mk (st := S_law) l19 c19 k19
  have b19 := F19.binds (ps := ["_law_script"]) fun _ _ _ _ _ _ us hl => match us, hl with | [_], _ => rfl
  have FI0 := fun_mk (st := SI_NoState) h0il h0ic h0ik
  have BI0 := FI0.binds (ps := ["self", "given"]) fun _ _ _ _ _ _ us hl => match us, hl with | [_, _], _ => rfl
  have EC0 : ExcC K cc0 := ⟨h0g, h0h, h0e, h0d, h0c, hO1, hO2, h0m⟩
  have X : Tx K mg { a_is_integer := f0, d_is_integer := PySem.W.fnOf "is_integer" "is_integer" (defArgs S_is_integer) (defBody S_is_integer) (defScope S_is_integer) .none kV0 dc0 pm0 an0 cd0 ct0, a_states := f1, d_states := PySem.W.fnOf "states" "states" (defArgs S_states) (defBody S_states) (defScope S_states) .none kV1 dc1 pm1 an1 cd1 ct1, a_is_state := f2, d_is_state := PySem.W.fnOf "is_state" "is_state" (defArgs S_is_state) (defBody S_is_state) (defScope S_is_state) .none kV2 dc2 pm2 an2 cd2 ct2, a_place_of := f3, d_place_of := PySem.W.fnOf "place_of" "place_of" (defArgs S_place_of) (defBody S_place_of) (defScope S_place_of) .none kV3 dc3 pm3 an3 cd3 ct3, a_is_above := f4, d_is_above := PySem.W.fnOf "is_above" "is_above" (defArgs S_is_above) (defBody S_is_above) (defScope S_is_above) .none kV4 dc4 pm4 an4 cd4 ct4, a_rises := f5, d_rises := PySem.W.fnOf "rises" "rises" (defArgs S_rises) (defBody S_rises) (defScope S_rises) .none kV5 dc5 pm5 an5 cd5 ct5, a_room := f6, d_room := PySem.W.fnOf "room" "room" (defArgs S_room) (defBody S_room) (defScope S_room) .none kV6 dc6 pm6 an6 cd6 ct6, a__law_box := f7, d__law_box := PySem.W.fnOf "_law_box" "_law_box" (defArgs S__law_box) (defBody S__law_box) (defScope S__law_box) .none kV7 dc7 pm7 an7 cd7 ct7, a__law_draw := f8, d__law_draw := PySem.W.fnOf "_law_draw" "_law_draw" (defArgs S__law_draw) (defBody S__law_draw) (defScope S__law_draw) .none kV8 dc8 pm8 an8 cd8 ct8, a__law_pick := f9, d__law_pick := PySem.W.fnOf "_law_pick" "_law_pick" (defArgs S__law_pick) (defBody S__law_pick) (defScope S__law_pick) .none kV9 dc9 pm9 an9 cd9 ct9, a__law_card := f10, d__law_card := PySem.W.fnOf "_law_card" "_law_card" (defArgs S__law_card) (defBody S__law_card) (defScope S__law_card) .none kV10 dc10 pm10 an10 cd10 ct10, a__law_all := f11, d__law_all := PySem.W.fnOf "_law_all" "_law_all" (defArgs S__law_all) (defBody S__law_all) (defScope S__law_all) .none kV11 dc11 pm11 an11 cd11 ct11, a__law_great := f12, d__law_great := PySem.W.fnOf "_law_great" "_law_great" (defArgs S__law_great) (defBody S__law_great) (defScope S__law_great) .none kV12 dc12 pm12 an12 cd12 ct12, a__law_told := f13, d__law_told := PySem.W.fnOf "_law_told" "_law_told" (defArgs S__law_told) (defBody S__law_told) (defScope S__law_told) .none kV13 dc13 pm13 an13 cd13 ct13, a__law_odd := f14, d__law_odd := PySem.W.fnOf "_law_odd" "_law_odd" (defArgs S__law_odd) (defBody S__law_odd) (defScope S__law_odd) .none kV14 dc14 pm14 an14 cd14 ct14, a__law_is_state := f15, d__law_is_state := PySem.W.fnOf "_law_is_state" "_law_is_state" (defArgs S__law_is_state) (defBody S__law_is_state) (defScope S__law_is_state) .none kV15 dc15 pm15 an15 cd15 ct15, a__law_is_counted := f16, d__law_is_counted := PySem.W.fnOf "_law_is_counted" "_law_is_counted" (defArgs S__law_is_counted) (defBody S__law_is_counted) (defScope S__law_is_counted) .none kV16 dc16 pm16 an16 cd16 ct16, a__law_is_compared := f17, d__law_is_compared := PySem.W.fnOf "_law_is_compared" "_law_is_compared" (defArgs S__law_is_compared) (defBody S__law_is_compared) (defScope S__law_is_compared) .none kV17 dc17 pm17 an17 cd17 ct17, a__law_is_all := f18, d__law_is_all := PySem.W.fnOf "_law_is_all" "_law_is_all" (defArgs S__law_is_all) (defBody S__law_is_all) (defScope S__law_is_all) .none kV18 dc18 pm18 an18 cd18 ct18, a_law := fa, d_law := PySem.W.fnOf "law" "law" (defArgs S_law) (defBody S_law) (defScope S_law) .none kV19 dc19 pm19 an19 cd19 ct19, a_HigherError := cB, a_NoState := cc0, i_NoState := ci0, di_NoState := PySem.W.fnOf "__init__" "NoState.__init__" (defArgs SI_NoState) (defBody SI_NoState) (defScope SI_NoState) .none xkV0 xdc0 xpm0 xan0 xcd0 xct0 } := { m_ValueError := PySem.W.mg_none_of X0 Gn z0, m_abs := PySem.W.mg_none_of X0 Gn z1, m_all := PySem.W.mg_none_of X0 Gn z2, m_bool := PySem.W.mg_none_of X0 Gn z3, m_int := PySem.W.mg_none_of X0 Gn z4, m_isinstance := PySem.W.mg_none_of X0 Gn z5, m_len := PySem.W.mg_none_of X0 Gn z6, m_list := PySem.W.mg_none_of X0 Gn z7, m_range := PySem.W.mg_none_of X0 Gn z8, m_repr := PySem.W.mg_none_of X0 Gn z9, m_sum := PySem.W.mg_none_of X0 Gn z10, m_tuple := PySem.W.mg_none_of X0 Gn z11, m_zip := PySem.W.mg_none_of X0 Gn z12, F_is_integer := F0, g_is_integer := PySem.W.mg_of X0 Gn a0, b_is_integer := b0, F_states := F1, g_states := PySem.W.mg_of X0 Gn a1, b_states := b1, F_is_state := F2, g_is_state := PySem.W.mg_of X0 Gn a2, b_is_state := b2, F_place_of := F3, g_place_of := PySem.W.mg_of X0 Gn a3, b_place_of := b3, F_is_above := F4, g_is_above := PySem.W.mg_of X0 Gn a4, b_is_above := b4, F_rises := F5, g_rises := PySem.W.mg_of X0 Gn a5, b_rises := b5, F_room := F6, g_room := PySem.W.mg_of X0 Gn a6, b_room := b6, F__law_box := F7, g__law_box := PySem.W.mg_of X0 Gn a7, b__law_box := b7, F__law_draw := F8, g__law_draw := PySem.W.mg_of X0 Gn a8, b__law_draw := b8, F__law_pick := F9, g__law_pick := PySem.W.mg_of X0 Gn a9, b__law_pick := b9, F__law_card := F10, g__law_card := PySem.W.mg_of X0 Gn a10, b__law_card := b10, F__law_all := F11, g__law_all := PySem.W.mg_of X0 Gn a11, b__law_all := b11, F__law_great := F12, g__law_great := PySem.W.mg_of X0 Gn a12, b__law_great := b12, F__law_told := F13, g__law_told := PySem.W.mg_of X0 Gn a13, b__law_told := b13, F__law_odd := F14, g__law_odd := PySem.W.mg_of X0 Gn a14, b__law_odd := b14, F__law_is_state := F15, g__law_is_state := PySem.W.mg_of X0 Gn a15, b__law_is_state := b15, F__law_is_counted := F16, g__law_is_counted := PySem.W.mg_of X0 Gn a16, b__law_is_counted := b16, F__law_is_compared := F17, g__law_is_compared := PySem.W.mg_of X0 Gn a17, b__law_is_compared := b17, F__law_is_all := F18, g__law_is_all := PySem.W.mg_of X0 Gn a18, b__law_is_all := b18, F_law := F19, g_law := PySem.W.mg_of X0 Gn a19, b_law := b19, g_HigherError := PySem.W.mg_of X0 Gn hB, bB := ⟨hB1, hB2, hB3⟩, g_NoState := PySem.W.mg_of X0 Gn h0a, o_NoState := oex_of h0l (by rfl) h0s h0e h0t h0k, fi_NoState := h0i, ti_NoState := h0it, FI_NoState := FI0, bi_NoState := BI0, xf_NoState := ⟨h0g, h0h, h0e, h0d⟩, no_NoState := h0n, em_NoState := (fun n b h => match n, h with | 0, h => (by cases (show some true = some b from h); exact PySem.W.exm_ref h0e h0d h0t h0x0) | n + 1, h => (by simp [sb_NoState] at h)), ki_HigherError := (fun n b h => match n, h with | 0, h => (by cases (show some true = some b from h); exact ⟨EC0, kit_cl hB7 hB6 hB8 h0B⟩) | n + 1, h => (by simp [sb_HigherError] at h)), ki_ValueError := (fun n b h => match n, h with | 0, h => (by cases (show some true = some b from h); exact ⟨EC0, kit_vE h0v⟩) | n + 1, h => (by simp [sb_ValueError] at h)) }
  exact ⟨PySem.W.fnOf "law" "law" (defArgs S_law) (defBody S_law) (defScope S_law) .none kV19 dc19 pm19 an19 cd19 ct19, fun s v => .of_eq rfl, fun base _ _ => (ok_law (P := l.prog) (w := w) (base := base) X).quiet⟩
end Lk
open PySem PySem.W PyProof.Rows
set_option maxHeartbeats 0 in
theorem PySem.Challenge.cw_onlyhigher_k03_states_in_order_holds : PySem.Challenge.rw_onlyhigher_k03_states_in_order.Holds := by
  w_on; o_law; k_head; (case hw => w_witness2)
  k_fill
  refine Cl.walkG (l := PySem.Challenge.rw_onlyhigher_k03_states_in_order) (n := 63) (k := 7) (x := "_law_script") (CX := fun _ => L2.CX0) (sp := fun w => Cl.spD _ Cl.ZPu 1 (fun svs Q => Lk.C_law svs Q fun _ => False)) rfl (by decide) rfl ⟨rfl, by decide, by decide⟩ (fun w h Y => PySem.W.kIn_of Y) ?F (fun _ _ a ns hl ho hS => Cl.law_want ho hS (Lk.law_spec ns rfl)) (fun _ _ _ _ _ h => h)
  case F =>
    intro w mg fa h KX Gn hmg
    refine' Lk.all_mk KX Gn hmg ?hB ?hB1 ?hB2 ?hB3 ?hB4 ?hB5 ?hB6 ?hB7 ?hB8 ?hO1 ?hO2 ?h0a ?h0l ?h0s ?h0e ?h0v ?h0t ?h0k ?h0g ?h0h ?h0d ?h0c ?h0m ?h0z ?h0B ?h0x0 ?h0n ?h0i ?h0it ?h0il ?h0ic ?h0ik ?a0 ?l0 ?c0 ?k0 ?a1 ?l1 ?c1 ?k1 ?a2 ?l2 ?c2 ?k2 ?a3 ?l3 ?c3 ?k3 ?a4 ?l4 ?c4 ?k4 ?a5 ?l5 ?c5 ?k5 ?a6 ?l6 ?c6 ?k6 ?a7 ?l7 ?c7 ?k7 ?a8 ?l8 ?c8 ?k8 ?a9 ?l9 ?c9 ?k9 ?a10 ?l10 ?c10 ?k10 ?a11 ?l11 ?c11 ?k11 ?a12 ?l12 ?c12 ?k12 ?a13 ?l13 ?c13 ?k13 ?a14 ?l14 ?c14 ?k14 ?a15 ?l15 ?c15 ?k15 ?a16 ?l16 ?c16 ?k16 ?a17 ?l17 ?c17 ?k17 ?a18 ?l18 ?c18 ?k18 ?a19 ?l19 ?c19 ?k19 ?z0 ?z1 ?z2 ?z3 ?z4 ?z5 ?z6 ?z7 ?z8 ?z9 ?z10 ?z11 ?z12
    (case hB => k_is); (case hB1 => k_is); (case hB2 => k_is); (case hB3 => k_is); (case hB4 => k_is); (case hB5 => k_is); (case hB6 => k_is); (case hB7 => k_is); (case hB8 => k_is); (case hO1 => k_is); (case hO2 => k_is); (case h0a => k_is); (case h0l => k_is); (case h0s => k_is); (case h0e => k_is); (case h0v => k_is); (case h0t => k_is); (case h0k => k_is); (case h0g => k_is); (case h0h => k_is); (case h0d => k_is); (case h0c => k_is); (case h0m => k_is); (case h0z => k_is); (case h0B => k_is); (case h0x0 => k_is); (case h0n => k_is); (case h0i => k_is); (case h0it => k_is); (case h0il => k_is); (case h0ic => k_is); (case h0ik => k_is); (case a0 => k_is); (case l0 => k_is); (case c0 => k_is); (case k0 => k_is); (case a1 => k_is); (case l1 => k_is); (case c1 => k_is); (case k1 => k_is); (case a2 => k_is); (case l2 => k_is); (case c2 => k_is); (case k2 => k_is); (case a3 => k_is); (case l3 => k_is); (case c3 => k_is); (case k3 => k_is); (case a4 => k_is); (case l4 => k_is); (case c4 => k_is); (case k4 => k_is); (case a5 => k_is); (case l5 => k_is); (case c5 => k_is); (case k5 => k_is); (case a6 => k_is); (case l6 => k_is); (case c6 => k_is); (case k6 => k_is); (case a7 => k_is); (case l7 => k_is); (case c7 => k_is); (case k7 => k_is); (case a8 => k_is); (case l8 => k_is); (case c8 => k_is); (case k8 => k_is); (case a9 => k_is); (case l9 => k_is); (case c9 => k_is); (case k9 => k_is); (case a10 => k_is); (case l10 => k_is); (case c10 => k_is); (case k10 => k_is); (case a11 => k_is); (case l11 => k_is); (case c11 => k_is); (case k11 => k_is); (case a12 => k_is); (case l12 => k_is); (case c12 => k_is); (case k12 => k_is); (case a13 => k_is); (case l13 => k_is); (case c13 => k_is); (case k13 => k_is); (case a14 => k_is); (case l14 => k_is); (case c14 => k_is); (case k14 => k_is); (case a15 => k_is); (case l15 => k_is); (case c15 => k_is); (case k15 => k_is); (case a16 => k_is); (case l16 => k_is); (case c16 => k_is); (case k16 => k_is); (case a17 => k_is); (case l17 => k_is); (case c17 => k_is); (case k17 => k_is); (case a18 => k_is); (case l18 => k_is); (case c18 => k_is); (case k18 => k_is); (case a19 => k_is); (case l19 => k_is); (case c19 => k_is); (case k19 => k_is); (case z0 => k_is); (case z1 => k_is); (case z2 => k_is); (case z3 => k_is); (case z4 => k_is); (case z5 => k_is); (case z6 => k_is); (case z7 => k_is); (case z8 => k_is); (case z9 => k_is); (case z10 => k_is); (case z11 => k_is); (case z12 => k_is)

