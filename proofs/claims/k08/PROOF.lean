import PyProof.Rows.All
import Wide.All
import OpenK.AllK
import Wide.FinOn
import HandS.ForMost
import HandS.Flow
import KE.DataEq
import HandS.EndBits
import HandS.Style
import KE.KUnpackStar
import HandS.Text
import HandS.IsInst
import HandS.TupAny
import HandS.TupMul
import HandS.ExcField
import HandS.ExcIs
import HandS.TryMany
import HandS.More
import HandS.SortInts
import KE.KDictPairs
import PyProof.NeKinds
import HandS.TupLe
import HandS.Exc
import HandS.TryOnly
import PyProof.DictUpdate
import KE.GoesMore
import PyProof.EnumMake
import HandS.Iter
import HandS.SetFor
import HandS.Strs
import HandS.Comp
import KE.GoesComp
import KE.KAsSuite
import HandS.HeadHook3
import PyProof.StrLawsRepr
import HandS.ExcOwn
import HandS.ExcInit
import HandS.ExcSuper
import HandS.Defaults
import PySem.Challenge.RW_numberedlines_k08_numbers_reckoned
set_option maxHeartbeats 4000000
set_option Elab.async false
set_option maxRecDepth 100000
set_option linter.all false
namespace Nb
open PySem L2

/-! ### values of the plain interpreter: pure data, cells of the store, functions, tuples that hold such -/
/-- a constant of the module that is no plain data: a dict with text keys, a tuple with functions in it, a function -/
inductive Gx where
  | dct (l : List (Str × Gx))
  | dat (x : PyData)
  | tup (l : List Gx)
  | fun_ (x : Str) (k : Nat)
inductive Va where
  | d (x : PyData)
  | ref (n : Nat)
  | fn (k : Gx)
  | tup (l : List Va)
  | z (n : Nat)
inductive Ob where
  | lst (l : List Va)
  | dct (l : List (Key × Va))
  | ins (cn : Str) (fs : List (Str × Va))
abbrev Sto := List Ob
/-- an exception: its class's name, its own fields -/
structure Xn where
  cn : Str
  fs : List (Str × PyData)
inductive R (α : Type) where
  | ok (a : α) (S : Sto)
  | bad
  | ex (x : Xn) (S : Sto)
def R.bind {α β : Type} (r : R α) (f : α → Sto → R β) : R β := match r with
  | .ok a S => f a S
  | .bad => .bad
  | .ex x S => .ex x S
@[simp] theorem R.bind_ex {α β : Type} (x : Xn) (S : Sto) (f : α → Sto → R β) : (R.ex x S : R α).bind f = .ex x S := rfl
@[simp] theorem R.bind_ok {α β : Type} (a : α) (S : Sto) (f : α → Sto → R β) : (R.ok a S).bind f = f a S := rfl
@[simp] theorem R.bind_bad {α β : Type} (f : α → Sto → R β) : (R.bad : R α).bind f = .bad := rfl
def R.sat {α : Type} (r : R α) (Q : α → Sto → Prop) : Prop := match r with
  | .ok a S => Q a S
  | .bad => False
  | .ex _ _ => False
@[simp] theorem R.sat_ok {α : Type} (a : α) (S : Sto) (Q : α → Sto → Prop) : (R.ok a S).sat Q = Q a S := rfl
@[simp] theorem R.sat_bad {α : Type} (Q : α → Sto → Prop) : (R.bad : R α).sat Q = False := rfl
theorem R.sat_bind {α β : Type} {r : R α} {f : α → Sto → R β} {Q : β → Sto → Prop} (h : (r.bind f).sat Q) : r.sat fun a S => (f a S).sat Q := by
  cases r with
  | ok a S => exact h
  | bad => exact h
  | ex x S => exact h
theorem R.sat_mono {α : Type} {r : R α} {Q Q' : α → Sto → Prop} (h : r.sat Q) (k : ∀ a S, Q a S → Q' a S) : r.sat Q' := by
  cases r with
  | ok a S => exact k _ _ h
  | bad => exact h
  | ex x S => exact h
/-- the same, with what is wanted of an exception that comes out -/
def R.se {α : Type} (E : Xn → Sto → Prop) (r : R α) (Q : α → Sto → Prop) : Prop := match r with
  | .ok a S => Q a S
  | .bad => False
  | .ex x S => E x S
@[simp] theorem R.se_ok {α : Type} {E : Xn → Sto → Prop} (a : α) (S : Sto) (Q : α → Sto → Prop) : (R.ok a S).se E Q = Q a S := rfl
@[simp] theorem R.se_bad {α : Type} {E : Xn → Sto → Prop} (Q : α → Sto → Prop) : (R.bad : R α).se E Q = False := rfl
theorem R.se_bind {α β : Type} {E : Xn → Sto → Prop} {r : R α} {f : α → Sto → R β} {Q : β → Sto → Prop} (h : (r.bind f).se E Q) : r.se E fun a S => (f a S).se E Q := by
  cases r with
  | ok a S => exact h
  | bad => exact h
  | ex x S => exact h
theorem R.se_mono {α : Type} {E : Xn → Sto → Prop} {r : R α} {Q Q' : α → Sto → Prop} (h : r.se E Q) (k : ∀ a S, Q a S → Q' a S) : r.se E Q' := by
  cases r with
  | ok a S => exact k _ _ h
  | bad => exact h
  | ex x S => exact h
theorem R.se_imp {α : Type} {E E' : Xn → Sto → Prop} {r : R α} {Q Q' : α → Sto → Prop} (h : r.se E Q) (kx : ∀ x S, E x S → E' x S) (k : ∀ a S, Q a S → Q' a S) : r.se E' Q' := by
  cases r with
  | ok a S => exact k _ _ h
  | bad => exact h
  | ex x S => exact kx _ _ h
/-- nothing may come out of it -/
def R.nx {α : Type} (r : R α) : R α := match r with
  | .ok a S => .ok a S
  | .bad => .bad
  | .ex _ _ => .bad
@[simp] theorem R.nx_ok {α : Type} (a : α) (S : Sto) : (R.ok a S).nx = R.ok a S := rfl
theorem R.sat_se {α : Type} {E : Xn → Sto → Prop} {r : R α} {Q : α → Sto → Prop} (h : r.sat Q) : r.se E Q := by
  cases r with
  | ok a S => exact h
  | bad => exact h
  | ex x S => exact h.elim

/-! ### how they lie in the abstract heap: μ the addresses of the cells -/
def KT (K : PySem.W.Frag) (a : Addr) (xs : List V) : Prop := ∃ (o : Obj) (its : Array Value) (n : Nat), K.lookup a = some o ∧ o.cls = .type "tuple" ∧ o.data = .seq its n ∧ its.size ≤ sizeLine ∧ Vals xs its.toList
/-- what is known of the heap: where the cells stand, and which other places are read as data -/
structure Vw where
  ad : List Addr
  fz : Addr → Prop
def Vw.add (μ : Vw) (p : Addr) : Vw := ⟨μ.ad, fun b => μ.fz b ∨ b = p⟩
def Vw.cell (μ : Vw) (p : Addr) : Vw := ⟨μ.ad ++ [p], μ.fz⟩
/-- it stands there, is known, and is no cell -/
def Fz (H : Hp) (μ : Vw) (a : Addr) (u : HO) : Prop := (H a = some u ∨ ∃ o, H a = some (.frz o u)) ∧ a ∉ μ.ad ∧ μ.fz a
/-- a tuple that has no dict of its own -/
def KTs (K : PySem.W.Frag) (a : Addr) (xs : List V) : Prop := ∃ (o : Obj) (its : Array Value) (n : Nat), K.lookup a = some o ∧ o.dict = none ∧ o.cls = .type "tuple" ∧ o.data = .seq its n ∧ its.size ≤ sizeLine ∧ Vals xs its.toList
def TZ (K : PySem.W.Frag) (H : Hp) (μ : Vw) (a : Addr) (xs : List V) : Prop := (∃ o : Obj, H a = some (.frz o (.tup xs)) ∧ o.dict = none ∧ a ∉ μ.ad ∧ μ.fz a) ∨ KTs K a xs
def TA (K : PySem.W.Frag) (H : Hp) (μ : Vw) (a : Addr) (xs : List V) : Prop := Fz H μ a (.tup xs) ∨ KT K a xs
def KL (K : PySem.W.Frag) (a : Addr) (xs : List V) : Prop := ∃ (its : List Value) (n : Nat), K.lookup a = some { cls := .type "list", data := .seq its.toArray n } ∧ its.length ≤ sizeLine ∧ Vals xs its
def LA (K : PySem.W.Frag) (H : Hp) (μ : Vw) (a : Addr) (xs : List V) : Prop := Fz H μ a (.lst xs) ∨ KL K a xs
theorem TA.sq {K : PySem.W.Frag} {H : Hp} {μ : Vw} {a : Addr} {xs : List V} (h : TA K H μ a xs) : SqT K H a xs := by
  rcases h with h | h
  · exact .inl h.1
  · exact .inr h
theorem TZ.ta {K : PySem.W.Frag} {H : Hp} {μ : Vw} {a : Addr} {xs : List V} (h : TZ K H μ a xs) : TA K H μ a xs := by
  rcases h with ⟨o, h, _, n, f⟩ | ⟨o, its, n, h1, _, h2, h3, h4, h5⟩
  · exact .inl ⟨.inr ⟨o, h⟩, n, f⟩
  · exact .inr ⟨o, its, n, h1, h2, h3, h4, h5⟩
theorem TZ.sq {K : PySem.W.Frag} {H : Hp} {μ : Vw} {a : Addr} {xs : List V} (h : TZ K H μ a xs) : SqT K H a xs := h.ta.sq
theorem LA.sq {K : PySem.W.Frag} {H : Hp} {μ : Vw} {a : Addr} {xs : List V} (h : LA K H μ a xs) : SqL K H a xs := by
  rcases h with h | ⟨its, n, h1, h2, h3⟩
  · exact .inl h.1
  · exact .inr ⟨_, its.toArray, n, h1, rfl, rfl, rfl, by simpa using h2, by simpa using h3⟩
def kD : Key → PyData
  | .inl i => .int i
  | .inr x => .str x
/-- a dict that is never written again -/
def DZ (H : Hp) (μ : Vw) (a : Addr) (ks : List (Key × V)) : Prop := ∃ o : Obj, H a = some (.frz o (.dK ks)) ∧ a ∉ μ.ad ∧ μ.fz a
theorem DZ.fz {H : Hp} {μ : Vw} {a : Addr} {ks : List (Key × V)} (h : DZ H μ a ks) : Fz H μ a (.dK ks) := let ⟨o, h, n, f⟩ := h; ⟨.inr ⟨o, h⟩, n, f⟩
mutual
inductive Rp (K : PySem.W.Frag) (H : Hp) (μ : Vw) : PyData → V → Prop
  | non : Rp K H μ .none .non
  | bl (b : Bool) : Rp K H μ (.bool b) (.bl b)
  | int (i : Int) : Rp K H μ (.int i) (.int i)
  | str (x : Str) : Rp K H μ (.str x) (.str x)
  | lst {a : Addr} {xs : List V} {ds : List PyData} : LA K H μ a xs → RpL K H μ ds xs → ds.length ≤ sizeLine → Rp K H μ (.list ds) (.ref a)
  | tup {a : Addr} {xs : List V} {ds : List PyData} : TZ K H μ a xs → RpL K H μ ds xs → ds.length ≤ sizeLine → Rp K H μ (.tuple ds) (.ref a)
  | dct {a : Addr} {ks : List (Key × V)} {kvs : List (PyData × PyData)} : DZ H μ a ks → RpK K H μ kvs ks → kvs.length ≤ sizeLine → Rp K H μ (.dict kvs) (.ref a)
inductive RpK (K : PySem.W.Frag) (H : Hp) (μ : Vw) : List (PyData × PyData) → List (Key × V) → Prop
  | nil : RpK K H μ [] []
  | cons {k : Key} {v : V} {d : PyData} {kvs : List (PyData × PyData)} {ks : List (Key × V)} : Rp K H μ d v → RpK K H μ kvs ks → RpK K H μ ((kD k, d) :: kvs) ((k, v) :: ks)
inductive RpL (K : PySem.W.Frag) (H : Hp) (μ : Vw) : List PyData → List V → Prop
  | nil : RpL K H μ [] []
  | cons {v : V} {vs : List V} {d : PyData} {ds : List PyData} : Rp K H μ d v → RpL K H μ ds vs → RpL K H μ (d :: ds) (v :: vs)
end
theorem RpL.length {K : PySem.W.Frag} {H : Hp} {μ : Vw} : ∀ {ds : List PyData} {vs : List V}, RpL K H μ ds vs → ds.length = vs.length
  | _, _, .nil => rfl
  | _, _, .cons _ t => by rw [List.length_cons, List.length_cons, RpL.length t]
theorem RpL.get {K : PySem.W.Frag} {H : Hp} {μ : Vw} : ∀ {ds : List PyData} {vs : List V} {i : Nat} {d : PyData}, RpL K H μ ds vs → ds[i]? = some d → ∃ v, vs[i]? = some v ∧ Rp K H μ d v
  | _, _, _, _, .nil, e => by simp at e
  | _, _, 0, _, .cons r _, e => by simp at e; subst e; exact ⟨_, rfl, r⟩
  | _, _, i + 1, d, .cons _ t, e => by
    obtain ⟨u, h1, h2⟩ := RpL.get (i := i) (d := d) t (by simpa using e)
    exact ⟨u, by simpa using h1, h2⟩
theorem RpL.append {K : PySem.W.Frag} {H : Hp} {μ : Vw} : ∀ {ds es : List PyData} {vs ws : List V}, RpL K H μ ds vs → RpL K H μ es ws → RpL K H μ (ds ++ es) (vs ++ ws)
  | _, _, _, _, .nil, s => s
  | _, _, _, _, .cons r t, s => .cons r (RpL.append t s)
theorem RpL.take {K : PySem.W.Frag} {H : Hp} {μ : Vw} : ∀ {ds : List PyData} {vs : List V} (n : Nat), RpL K H μ ds vs → RpL K H μ (ds.take n) (vs.take n)
  | _, _, 0, _ => .nil
  | _, _, _ + 1, .nil => .nil
  | _, _, n + 1, .cons r t => .cons r (RpL.take n t)
theorem RpL.drop {K : PySem.W.Frag} {H : Hp} {μ : Vw} : ∀ {ds : List PyData} {vs : List V} (n : Nat), RpL K H μ ds vs → RpL K H μ (ds.drop n) (vs.drop n)
  | _, _, 0, r => r
  | _, _, _ + 1, .nil => .nil
  | _, _, n + 1, .cons _ t => RpL.drop n t
theorem RpL.reverse {K : PySem.W.Frag} {H : Hp} {μ : Vw} : ∀ {ds : List PyData} {vs : List V}, RpL K H μ ds vs → RpL K H μ ds.reverse vs.reverse
  | _, _, .nil => .nil
  | _, _, .cons r t => by rw [List.reverse_cons, List.reverse_cons]; exact (RpL.reverse t).append (.cons r .nil)

/-- from one abstract heap and what is known of it to a later one -/
structure Ex (H : Hp) (μ : Vw) (H' : Hp) (μ' : Vw) : Prop where
  keep : ∀ b o, H b = some o → b ∉ μ.ad → H' b = some o
  live : ∀ b o, H b = some o → ∃ o', H' b = some o'
  pre : ∃ t, μ'.ad = μ.ad ++ t
  new : ∀ b ∈ μ'.ad, b ∉ μ.ad → H b = none
  fzs : ∀ b, μ.fz b → μ'.fz b
  fnew : ∀ b, μ'.fz b → ¬ μ.fz b → H b = none
theorem Ex.refl (H : Hp) (μ : Vw) : Ex H μ H μ := ⟨fun _ _ h _ => h, fun _ o h => ⟨o, h⟩, ⟨[], by simp⟩, fun b h n => absurd h n, fun _ h => h, fun b h n => absurd h n⟩
theorem Ex.out {H H' : Hp} {μ μ' : Vw} (e : Ex H μ H' μ') {b : Addr} {o : HO} (h : H b = some o) (n : b ∉ μ.ad) : b ∉ μ'.ad := fun z => by
  have := e.new b z n
  rw [h] at this; cases this
theorem Ex.free {H H' : Hp} {μ μ' : Vw} (e : Ex H μ H' μ') {b : Addr} (h : H' b = none) : H b = none := by
  cases q : H b with
  | none => rfl
  | some o =>
    obtain ⟨o', r⟩ := e.live b o q
    rw [h] at r; cases r
theorem Ex.trans {H H1 H2 : Hp} {μ μ1 μ2 : Vw} (a : Ex H μ H1 μ1) (b : Ex H1 μ1 H2 μ2) : Ex H μ H2 μ2 := by
  refine ⟨fun c o h n => b.keep c o (a.keep c o h n) (a.out h n), fun c o h => let ⟨o', h'⟩ := a.live c o h; b.live c o' h', ?_, fun c h n => ?_, fun c h => b.fzs c (a.fzs c h), fun c h n => ?_⟩
  · obtain ⟨t, e⟩ := a.pre
    obtain ⟨u, f⟩ := b.pre
    exact ⟨t ++ u, by rw [f, e, List.append_assoc]⟩
  · by_cases z : c ∈ μ1.ad
    · exact a.new c z n
    · exact a.free (b.new c h z)
  · by_cases z : μ1.fz c
    · exact a.fnew c z n
    · exact a.free (b.fnew c h z)
/-- the cells made since are forgotten -/
theorem Ex.cut {H H' : Hp} {μ μ' : Vw} (e : Ex H μ H' μ') : Ex H μ H' ⟨μ.ad, μ'.fz⟩ := ⟨e.keep, e.live, ⟨[], by simp⟩, fun b h n => absurd h n, e.fzs, e.fnew⟩
theorem Fz.mono {H H' : Hp} {μ μ' : Vw} {a : Addr} {u : HO} (e : Ex H μ H' μ') (h : Fz H μ a u) : Fz H' μ' a u := by
  obtain ⟨h | ⟨o, h⟩, n, f⟩ := h
  · exact ⟨.inl (e.keep _ _ h n), e.out h n, e.fzs _ f⟩
  · exact ⟨.inr ⟨o, e.keep _ _ h n⟩, e.out h n, e.fzs _ f⟩
theorem TA.mono {K : PySem.W.Frag} {H H' : Hp} {μ μ' : Vw} {a : Addr} {xs : List V} (e : Ex H μ H' μ') (h : TA K H μ a xs) : TA K H' μ' a xs := h.imp (fun q => q.mono e) id
theorem TZ.mono {K : PySem.W.Frag} {H H' : Hp} {μ μ' : Vw} {a : Addr} {xs : List V} (e : Ex H μ H' μ') (h : TZ K H μ a xs) : TZ K H' μ' a xs := by
  rcases h with ⟨o, h, d, n, f⟩ | h
  · exact .inl ⟨o, e.keep _ _ h n, d, e.out h n, e.fzs _ f⟩
  · exact .inr h
theorem DZ.mono {H H' : Hp} {μ μ' : Vw} {a : Addr} {ks : List (Key × V)} (e : Ex H μ H' μ') (h : DZ H μ a ks) : DZ H' μ' a ks :=
  let ⟨o, h, n, f⟩ := h; ⟨o, e.keep _ _ h n, e.out h n, e.fzs _ f⟩
theorem LA.mono {K : PySem.W.Frag} {H H' : Hp} {μ μ' : Vw} {a : Addr} {xs : List V} (e : Ex H μ H' μ') (h : LA K H μ a xs) : LA K H' μ' a xs := h.imp (fun q => q.mono e) id
mutual
theorem Rp.mono {K : PySem.W.Frag} {H H' : Hp} {μ μ' : Vw} (e : Ex H μ H' μ') : ∀ {d : PyData} {v : V}, Rp K H μ d v → Rp K H' μ' d v
  | _, _, .non => .non
  | _, _, .bl b => .bl b
  | _, _, .int i => .int i
  | _, _, .str x => .str x
  | _, _, .lst h t l => .lst (h.mono e) (RpL.mono e t) l
  | _, _, .tup h t l => .tup (h.mono e) (RpL.mono e t) l
  | _, _, .dct h t l => .dct (DZ.mono e h) (RpK.mono e t) l
theorem RpK.mono {K : PySem.W.Frag} {H H' : Hp} {μ μ' : Vw} (e : Ex H μ H' μ') : ∀ {ds : List (PyData × PyData)} {vs : List (Key × V)}, RpK K H μ ds vs → RpK K H' μ' ds vs
  | _, _, .nil => .nil
  | _, _, .cons r t => .cons (Rp.mono e r) (RpK.mono e t)
theorem RpL.mono {K : PySem.W.Frag} {H H' : Hp} {μ μ' : Vw} (e : Ex H μ H' μ') : ∀ {ds : List PyData} {vs : List V}, RpL K H μ ds vs → RpL K H' μ' ds vs
  | _, _, .nil => .nil
  | _, _, .cons r t => .cons (Rp.mono e r) (RpL.mono e t)
end
mutual
theorem Rp.dp {K : PySem.W.Frag} {H : Hp} {μ : Vw} : ∀ {d : PyData} {v : V}, d.plain = true → Rp K H μ d v → Dp K H v d
  | _, _, _, .non => .non
  | _, _, _, .bl b => .bl b
  | _, _, _, .int i => .int i
  | _, _, _, .str x => .str x
  | _, _, p, .lst h t _ => .lst h.sq (RpL.dp p t)
  | _, _, p, .tup h t _ => .tup h.sq (RpL.dp p t)
  | _, _, p, .dct _ _ _ => nomatch p
theorem RpL.dp {K : PySem.W.Frag} {H : Hp} {μ : Vw} : ∀ {ds : List PyData} {vs : List V}, PyData.plainAll ds = true → RpL K H μ ds vs → DpAll K H vs ds
  | _, _, _, .nil => .nil
  | _, _, p, .cons r t => .cons (Rp.dp (Bool.and_eq_true_iff.mp p).1 r) (RpL.dp (Bool.and_eq_true_iff.mp p).2 t)
end
end Nb

namespace Nb
open PySem L2

/-! ### the IR -/
inductive Bo where | add | sub | mul | fdiv | mod | pow deriving DecidableEq
inductive Co where | eq | ne | lt | le | gt | ge | isin | notin | is | isnot deriving DecidableEq
inductive Bf where | len | repr | abs | int | tuple | all | str | dict | sorted | min | sum | max | any | dictC deriving DecidableEq
inductive Mt where | append | upper | join | extend | pop | update | get deriving DecidableEq
inductive Tk where | int | str | tuple | list | bool | dict deriving DecidableEq
mutual
inductive IE where
  | loc (i : Nat)
  | glo (k : Nat)
  | non | bl (b : Bool) | int (i : Int) | str (x : Str)
  | bin (op : Bo) (a b : IE)
  | neg (a : IE)
  | not (a : IE)
  | cmp (op : Co) (a b : IE)
  | cmp2 (op op' : Co) (a b c : IE)
  | and (a b : IE) | or (a b : IE)
  | ife (c a b : IE)
  | ix (a i : IE)
  | sl (a : IE) (lo hi : IO)
  | tup (es : IEs)
  | fz (f : IF)
  | mk (f : IF)
  | dct0
  | dct (kvs : IKs)
  | call (f : Nat) (es : IEs)
  | blt (b : Bf) (es : IEs)
  | met (m : Mt) (o : IE) (es : IEs)
  | zz (a : IE)
  | isi (a : IE) (k : Tk)
  | dctZ (kvs : IKs)
  | rv (a : IE)
  | dyn (i : Nat) (fn : List (Str × Nat)) (es : IEs)
  | fld (a : IE) (f : Str)
  | mko (cn : Str) (es : IEs)
  | mth (m : Str) (a : IE) (es : IEs)
  | callK (j : Nat) (es ks : IEs)
inductive IF where
  | disp (es : IEs)
  | cat (a b : IE)
  | comp (elt : IE) (tg : IT) (it : II) (cd : IO) (own : List Nat)
  | rev (a : IE)
  | lst (a : IE)
  | rpt (a : IF) (n : IE)
  | srs (a : IE)
  | cmpC (elt : IE) (tg : IT) (i : Nat) (cd : IO) (own : List Nat)
  | cmpE (elt : IE) (tg : IT) (i : Nat) (cd : IO) (own : List Nat)
  | compX (elt : IE) (tg : IT) (it : II) (cd : IO) (own : List Nat)
inductive IO where
  | no | so (e : IE)
inductive IEs where
  | nil | cons (e : IE) (es : IEs)
inductive IKs where
  | nil | cons (k v : IE) (r : IKs)
inductive IT where
  | nm (i : Nat)
  | tp (ts : ITs)
  | st (ts : ITs) (i : Nat)
  | sub (o i : IE)
inductive ITs where
  | nil | cons (t : IT) (ts : ITs)
inductive II where
  | val (e : IE)
  | rng (es : IEs)
  | enu (es : IEs)
  | zip (es : IEs)
end
/-- built-in classes that the text's own ones are of -/
inductive Bx where | ve | le | ex deriving DecidableEq
/-- what an except clause asks and tells: of what was caught -/
inductive HT where
  | own (y : Str)
  | blt (k : Bx)
  | any (ys : List Str)
  | no (t : HT)
  | an (a b : HT)
mutual
inductive HE where
  | dat (x : PyData)
  | att (f : Str)
  | tup (es : HEs)
  | ife (t : HT) (a b : HE)
inductive HEs where
  | nil | cons (e : HE) (r : HEs)
end
inductive HS where
  | ret (e : HE)
  | asg (i : Nat) (e : HE)
mutual
inductive IS where
  | asg (t : IT) (e : IE)
  | setZ (i : Nat) (f : IF)
  | setM (i : Nat) (f : IF)
  | aug (i : Nat) (op : Bo) (e : IE)
  | ife (c : IE) (a b : ISs)
  | for_ (t : IT) (it : II) (b : ISs)
  | wh (c : IE) (b : ISs)
  | forC (t : IT) (k : Nat) (b : ISs)
  | ret (e : IE)
  | ex (e : IE)
  | tag (k : Nat) (s : IS)
  | par (i j : Nat) (a b : IE)
  | raise (cn : Str) (es : IEs)
  | try_ (b : ISs) (cs : List (Str × Option Nat × HS))
  | setF (a : IE) (f : Str) (e : IE)
  | pass
inductive ISs where
  | nil | cons (s : IS) (r : ISs)
end

/-! ### operations by values -/
abbrev En := List (Option Va)
/-- a class of exceptions: its own fields, what it is one of -/
structure Xi where
  fl : List Str
  up : List Str
  bu : List Bx
/-- an own class: its instances' fields, its __init__ (which def, how many parameters), its methods likewise -/
structure Ci where
  fl : List Str
  ini : Option (Nat × Nat)
  ms : List (Str × Nat × Nat)
/-- a way to call a def: how many by place, which by keywords, what each parameter gets -/
structure Kw where
  f : Nat
  nm : Str
  n : Nat
  ks : List Str
  ar : List (Nat ⊕ PyData)
structure Ox where
  cs : List (Str × Ci)
  kw : List Kw
structure Cfg where
  Φ : Nat → List Va → Sto → R Va
  gl : Nat → Option Va
  wf : Nat
  xs : List (Str × Xi)
  os : Ox
def lookC (cs : List (Str × Ci)) (cn : Str) : Option Ci := (cs.find? fun p => decide (p.1 = cn)).map (·.2)
/-- a field -/
def fldA : List (Str × Va) → Str → Option Va
  | [], _ => none
  | (g, x) :: r, f => if g = f then some x else fldA r f
def putO (f : Str) (v : Va) : List (Str × Va) → List (Str × Va)
  | [] => [(f, v)]
  | (g, x) :: r => if g = f then (g, v) :: r else (g, x) :: putO f v r
def msL : List (Str × Nat × Nat) → Str → Option (Nat × Nat)
  | [], _ => none
  | (g, x) :: r, f => if g = f then some x else msL r f
def fldV (cs : List (Str × Ci)) (f : Str) : Va → Sto → R Va
  | .ref n, S => match S[n]? with
    | some (.ins cn fs) => (match lookC cs cn with
      | some ci => if f ∈ ci.fl then (match fldA fs f with
        | some v => .ok v S
        | none => .bad) else .bad
      | none => .bad)
    | _ => .bad
  | _, _ => .bad
def setFV (cs : List (Str × Ci)) (f : Str) : Va → Va → Sto → R Unit
  | .ref n, v, S => match S[n]? with
    | some (.ins cn fs) => (match lookC cs cn with
      | some ci => if f ∈ ci.fl ∧ fs.length < 1000 then .ok () (S.set n (.ins cn (putO f v fs))) else .bad
      | none => .bad)
    | _ => .bad
  | _, _, _ => .bad
/-- which def a method is -/
def methV (cs : List (Str × Ci)) (m : Str) : Va → Sto → R (Nat × Nat)
  | .ref n, S => match S[n]? with
    | some (.ins cn fs) => (match lookC cs cn with
      | some ci => (match msL ci.ms m with
        | some q => if (fldA fs m).isNone then .ok q S else .bad
        | none => .bad)
      | none => .bad)
    | _ => .bad
  | _, _ => .bad
def mkoV (Φ : Nat → List Va → Sto → R Va) (cs : List (Str × Ci)) (cn : Str) (l : List Va) (S : Sto) : R Va := match lookC cs cn with
  | some ci => (match ci.ini with
    | some (j, a) => if l.length + 1 = a then (Φ j (.ref S.length :: l) (S ++ [.ins cn []])).bind fun v S2 => (match v with
      | .d .none => .ok (.ref S.length) S2
      | _ => .bad) else .bad
    | none => .bad)
  | none => .bad
def arrV : List (Nat ⊕ PyData) → List Va → Option (List Va)
  | [], _ => some []
  | .inl i :: r, l => match l[i]?, arrV r l with
    | some v, some t => some (v :: t)
    | _, _ => none
  | .inr d :: r, l => (arrV r l).map (Va.d d :: ·)
def callKV (Φ : Nat → List Va → Sto → R Va) (kw : List Kw) (j : Nat) (l m : List Va) (S : Sto) : R Va := match kw[j]? with
  | some q => (match arrV q.ar (l ++ m) with
    | some l' => Φ q.f l' S
    | none => .bad)
  | none => .bad
def lookX (xs : List (Str × Xi)) (cn : Str) : Option Xi := (xs.find? fun p => decide (p.1 = cn)).map (·.2)

def pureL : List Va → Option (List PyData)
  | [] => some []
  | .d x :: r => (pureL r).map (x :: ·)
  | _ :: _ => none
theorem pureL_d : ∀ l : List PyData, pureL (l.map .d) = some l
  | [] => rfl
  | x :: r => by rw [List.map_cons, pureL, pureL_d r]; rfl
def kOf : Va → Option Key
  | .d (.int i) => some (.inl i)
  | .d (.str x) => some (.inr x)
  | _ => none
def valA (kvs : List (Key × Va)) (k : Key) : Option Va := (kvs.find? fun kv => decide (kv.1 = k)).map (·.2)
def putA (kvs : List (Key × Va)) (k : Key) (v : Va) : List (Key × Va) :=
  if kvs.any (fun kv => decide (kv.1 = k)) then kvs.map fun kv => if kv.1 = k then (kv.1, v) else kv else kvs ++ [(k, v)]
def truth : Va → Sto → R Bool
  | .d .none, S => .ok false S
  | .d (.bool b), S => .ok b S
  | .d (.int i), S => .ok (i != 0) S
  | .d (.str x), S => if x.length ≤ sizeLine then .ok ((x.length : Int) != 0) S else .bad
  | .d (.list l), S => .ok (!l.isEmpty) S
  | .d (.tuple l), S => .ok (!l.isEmpty) S
  | .d (.dict l), S => .ok (!l.isEmpty) S
  | .ref n, S => match S[n]? with
    | some (.lst l) => .ok (!l.isEmpty) S
    | some (.dct l) => .ok (!l.isEmpty) S
    | _ => .bad
  | _, _ => .bad
def small64 (i : Int) : Bool := decide (-(2 ^ 64) < i) && decide (i < 2 ^ 64)
def binV : Bo → Va → Va → Sto → R Va
  | .add, .d (.int i), .d (.int j), S => .ok (.d (.int (i + j))) S
  | .add, .d (.str x), .d (.str y), S => if x.length + y.length ≤ sizeLine then .ok (.d (.str (x ++ y))) S else .bad
  | .add, .d (.tuple xs), .d (.tuple ys), S => if xs.length + ys.length ≤ sizeLine then .ok (.d (.tuple (xs ++ ys))) S else .bad
  | .add, .d (.list xs), .d (.list ys), S => if xs.length + ys.length ≤ sizeLine then .ok (.d (.list (xs ++ ys))) S else .bad
  | .sub, .d (.int i), .d (.int j), S => .ok (.d (.int (i - j))) S
  | .mul, .d (.int i), .d (.int j), S => if small64 i || small64 j then .ok (.d (.int (i * j))) S else .bad
  | .mul, .d (.str x), .d (.int n), S => if decide (2 ≤ n) && decide (n ≤ 100000) && decide (1 ≤ x.length) && decide (x.length ≤ 100) then .ok (.d (.str ⟨(List.replicate n.toNat x.cps).foldl (· ++ ·) #[]⟩)) S else .bad
  | .mul, .d (.tuple l), .d (.int n), S => if decide (0 ≤ n) && decide (n ≤ 1000) && decide (1 ≤ l.length) && decide (l.length ≤ 1000) then .ok (.d (.tuple (List.replicate n.toNat l).flatten)) S else .bad
  | .fdiv, .d (.int i), .d (.int j), S => if decide (0 < j) && decide (j < 1073741824) then .ok (.d (.int (i / j))) S else if decide (j ≠ 0) && decide (j.natAbs.log2 < 9000) then .ok (.d (.int (i.fdiv j))) S else .bad
  | .mod, .d (.int i), .d (.int j), S => if decide (0 < j) then .ok (.d (.int (i % j))) S else .bad
  | .pow, .d (.int i), .d (.int j), S => if decide (0 ≤ j) && decide (j ≤ 1000000) && decide (i.natAbs < 2 ^ 64) then .ok (.d (.int (i ^ j.toNat))) S else .bad
  | _, _, _, _ => .bad
/-- x op= y, of ints and texts -/
def augV : Bo → Va → Va → Sto → R Va
  | .add, .d (.int i), .d (.int j), S => .ok (.d (.int (i + j))) S
  | .add, .d (.str x), .d (.str y), S => if x.length + y.length ≤ sizeLine then .ok (.d (.str (x ++ y))) S else .bad
  | .sub, .d (.int i), .d (.int j), S => .ok (.d (.int (i - j))) S
  | _, _, _, _ => .bad
def eqOk (x : PyData) : Bool := x.plain && decide (x.depth ≤ 64)
def isScal : PyData → Bool
  | .none | .bool _ | .int _ | .str _ => true
  | _ => false
def anyEq (x : PyData) (l : List PyData) : Bool := l.any fun y => PyData.eqv y x
def keyD : PyData → Option Key
  | .int i => some (.inl i)
  | .str x => some (.inr x)
  | _ => none
def valD (kvs : List (PyData × PyData)) (k : Key) : Option PyData := (kvs.find? fun kv => decide (keyD kv.1 = some k)).map (·.2)
/-- what a dict of the module holds at a key -/
def lookG (l : List (Str × Gx)) (z : Str) : Option Gx := (l.find? fun e => decide (e.1 = z)).map (·.2)
mutual
def vaG : Gx → Va
  | .dat x => .d x
  | .tup l => .tup (vaGs l)
  | .dct l => .fn (.dct l)
  | .fun_ x k => .fn (.fun_ x k)
def vaGs : List Gx → List Va
  | [] => []
  | g :: r => vaG g :: vaGs r
end
def inG (g : Gx) (x : Str) (S : Sto) : R Bool := match g with
  | .dct l => .ok (lookG l x).isSome S
  | _ => .bad
def getG (g : Gx) (x : Str) (S : Sto) : R Va := match g with
  | .dct l => (match lookG l x with
    | some h => .ok (vaG h) S
    | none => .bad)
  | _ => .bad
def inL (x : PyData) (l : List PyData) (S : Sto) : R Bool := if eqOk x && l.all eqOk then .ok (anyEq x l) S else .bad
def inV : Va → Va → Sto → R Bool
  | .d (.str x), .fn g, S => inG g x S
  | .d (.str x), .d (.str y), S => match x.cps.toList with
    | [c] => .ok (decide (c ∈ y.cps.toList)) S
    | _ => .bad
  | .d x, .d (.dict kvs), S => match keyD x with
    | some k => .ok (valD kvs k).isSome S
    | none => .bad
  | .d x, .d (.list l), S => if isScal x && l.all isScal then .ok (anyEq x l) S else inL x l S
  | .d x, .d (.tuple l), S => if isScal x && l.all isScal then .ok (anyEq x l) S else .bad
  | x, .ref n, S => match kOf x, S[n]? with
    | some k, some (.dct kvs) => .ok (valA kvs k).isSome S
    | _, _ => .bad
  | _, _, _ => .bad
/-- tuples of whole numbers, from the first pair that differs on -/
def intsD : List PyData → Option (List Int)
  | [] => some []
  | .int i :: r => (intsD r).map (i :: ·)
  | _ :: _ => none
def lexGe : List Int → List Int → Bool
  | _, [] => true
  | [], _ :: _ => false
  | x :: xs, y :: ys => if x = y then lexGe xs ys else decide (y ≤ x)
def geT (x y : List PyData) (S : Sto) : R Bool := match intsD x, intsD y with
  | some a, some b => .ok (lexGe a b) S
  | _, _ => .bad
def isNone : PyData → Bool
  | .none => true
  | _ => false
/-- x is y, y None or a truth -/
def isV : PyData → PyData → Option Bool
  | .none, x => some (isNone x)
  | .bool b, .bool a => some (decide (a = b))
  | _, _ => none
def isR (o : Option Bool) (S : Sto) : R Bool := match o with
  | some b => .ok b S
  | none => .bad
def isnR (o : Option Bool) (S : Sto) : R Bool := match o with
  | some b => .ok (!b) S
  | none => .bad
/-- whether it is empty, by ==; whatever is in it -/
def eqE : PyData → PyData → Option Bool
  | .tuple l, .tuple [] => some l.isEmpty
  | .list l, .list [] => some l.isEmpty
  | _, _ => none
def eqE' (x y : PyData) (S : Sto) : R Bool := match eqE x y with
  | some b => .ok b S
  | none => .bad
def neE' (x y : PyData) (S : Sto) : R Bool := match eqE x y with
  | some b => .ok (!b) S
  | none => .bad
def cmpV : Co → Va → Va → Sto → R Bool
  | .eq, .d x, .d y, S => if eqOk x && eqOk y then .ok (PyData.eqv x y) S else eqE' x y S
  | .ne, .d x, .d y, S => if eqOk x && eqOk y then .ok (!PyData.eqv x y) S else neE' x y S
  | .eq, .ref n, .d (.list []), S => match S[n]? with
    | some (.lst l) => .ok l.isEmpty S
    | _ => .bad
  | .ne, .ref n, .d (.list []), S => match S[n]? with
    | some (.lst l) => .ok (!l.isEmpty) S
    | _ => .bad
  | .lt, .d (.int i), .d (.int j), S => .ok (decide (i < j)) S
  | .le, .d (.int i), .d (.int j), S => .ok (decide (i ≤ j)) S
  | .gt, .d (.int i), .d (.int j), S => .ok (decide (j < i)) S
  | .ge, .d (.int i), .d (.int j), S => .ok (decide (j ≤ i)) S
  | .lt, .d (.str i), .d (.str j), S => .ok (decide (i.cps.toList < j.cps.toList)) S
  | .le, .d (.str i), .d (.str j), S => .ok (!decide (j.cps.toList < i.cps.toList)) S
  | .gt, .d (.str i), .d (.str j), S => .ok (decide (j.cps.toList < i.cps.toList)) S
  | .ge, .d (.str i), .d (.str j), S => .ok (!decide (i.cps.toList < j.cps.toList)) S
  | .ge, .d (.tuple x), .d (.tuple y), S => geT x y S
  | .is, .d x, .d y, S => isR (isV y x) S
  | .isnot, .d x, .d y, S => isnR (isV y x) S
  | .isin, x, y, S => inV x y S
  | .notin, x, y, S => (inV x y S).bind fun b S => .ok (!b) S
  | _, _, _, _ => .bad
def getV : Va → Va → Sto → R Va
  | .fn g, .d (.str x), S => getG g x S
  | .d (.list l), .d (.int i), S => match atI l i with | some v => .ok (.d v) S | none => .bad
  | .d (.tuple l), .d (.int i), S => match atI l i with | some v => .ok (.d v) S | none => .bad
  | .tup l, .d (.int i), S => match atI l i with | some v => .ok v S | none => .bad
  | .d (.str s), .d (.int i), S => if s.length ≤ sizeLine then (match atI s.cps.toList i with | some c => .ok (.d (.str ⟨#[c]⟩)) S | none => .bad) else .bad
  | .d (.dict kvs), .d x, S => match keyD x with
    | some k => (match valD kvs k with | some v => .ok (.d v) S | none => .bad)
    | none => .bad
  | .ref n, .d (.int i), S => match S[n]? with
    | some (.lst l) => (match atI l i with | some v => .ok v S | none => .bad)
    | some (.dct kvs) => (match valA kvs (.inl i) with | some v => .ok v S | none => .bad)
    | _ => .bad
  | .ref n, .d (.str x), S => match S[n]? with
    | some (.dct kvs) => (match valA kvs (.inr x) with | some v => .ok v S | none => .bad)
    | _ => .bad
  | _, _, _ => .bad
def cutD {α : Type} (xs : List α) (lo hi : Option Int) : List α := (xs.drop (HT.sIx xs.length 0 lo)).take (HT.sIx xs.length xs.length hi - HT.sIx xs.length 0 lo)
def slV : Va → Option Int → Option Int → Sto → R Va
  | .d (.tuple l), lo, hi, S => .ok (.d (.tuple (cutD l lo hi))) S
  | .d (.list l), lo, hi, S => .ok (.d (.list (cutD l lo hi))) S
  | .d (.str s), lo, hi, S => if s.length ≤ sizeLine then .ok (.d (.str (cutS s lo hi))) S else .bad
  | .ref n, lo, hi, S => match S[n]? with
    | some (.lst l) => (match pureL l with
      | some ds => if ds.length ≤ sizeLine then .ok (.d (.list (cutD ds lo hi))) S else .bad
      | none => .bad)
    | _ => .bad
  | _, _, _, _ => .bad
def mkTup (l : List Va) : Va := match pureL l with
  | some ds => .d (.tuple ds)
  | none => .tup l
/-- the items of a list, wherever it stands -/
def items : Va → Sto → R (List Va)
  | .d (.list l), S => .ok (l.map .d) S
  | .ref n, S => match S[n]? with | some (.lst l) => .ok l S | _ => .bad
  | _, _ => .bad
def seqOf : Va → Sto → R (List Va)
  | .d (.list l), S => .ok (l.map .d) S
  | .d (.tuple l), S => .ok (l.map .d) S
  | .tup l, S => .ok l S
  | .ref n, S => match S[n]? with | some (.lst l) => .ok l S | _ => .bad
  | _, _ => .bad
def freeze (l : List Va) (S : Sto) : R Va := match pureL l with
  | some ds => .ok (.d (.list ds)) S
  | none => .bad
def alloc (o : Ob) (S : Sto) : R Va := .ok (.ref S.length) (S ++ [o])
def lenV : Va → Sto → R Va
  | .d (.list l), S => .ok (.d (.int l.length)) S
  | .d (.tuple l), S => .ok (.d (.int l.length)) S
  | .tup l, S => .ok (.d (.int l.length)) S
  | .d (.str x), S => if x.length ≤ sizeLine then .ok (.d (.int x.length)) S else .bad
  | .ref n, S => match S[n]? with
    | some (.lst l) => .ok (.d (.int l.length)) S
    | some (.dct l) => .ok (.d (.int l.length)) S
    | _ => .bad
  | _, _ => .bad
def showOk (x : PyData) : Bool := x.showable && !x.hasDict && decide (x.depth ≤ 64) && decide (x.shown.length ≤ sizeLine)
mutual
/-- no dict in it but empty ones -/
def d0 : PyData → Bool
  | .list l => d0All l
  | .tuple l => d0All l
  | .dict l => l.isEmpty
  | _ => true
def d0All : List PyData → Bool
  | [] => true
  | x :: r => d0 x && d0All r
end
def isD0 (x : PyData) : Bool := x.showable && d0 x && decide (x.depth ≤ 64) && decide (x.shown.length ≤ sizeLine)
/-- a list cell of pure data is shown as such -/
def dataOf : Va → Sto → Option PyData
  | .d x, _ => some x
  | .ref n, S => match S[n]? with
    | some (.lst l) => (pureL l).map PyData.list
    | _ => none
  | _, _ => none
def boolsOf : List PyData → Option (List Bool)
  | [] => some []
  | .bool b :: r => (boolsOf r).map (b :: ·)
  | _ :: _ => none
def strsOf : List PyData → Option (List Str)
  | [] => some []
  | .str x :: r => (strsOf r).map (x :: ·)
  | _ :: _ => none
def isD : Tk → PyData → Bool
  | .int, .int _ => true
  | .int, .bool _ => true
  | .bool, .bool _ => true
  | .str, .str _ => true
  | .tuple, .tuple _ => true
  | .list, .list _ => true
  | .dict, .dict _ => true
  | _, _ => false
def isiV : Tk → Va → Sto → R Bool
  | k, .d x, S => .ok (isD k x) S
  | k, .ref n, S => match S[n]? with
    | some (.lst _) => .ok (isD k (.list [])) S
    | some (.dct _) => .ok (isD k (.dict [])) S
    | _ => .bad
  | _, _, _ => .bad
/-- texts in order -/
def insS (x : Str) : List Str → List Str
  | [] => [x]
  | y :: r => if decide (y.cps.toList < x.cps.toList) then y :: insS x r else x :: y :: r
def sortS : List Str → List Str
  | [] => []
  | x :: r => insS x (sortS r)
def strKs {α : Type} : List (Key × α) → Option (List Str)
  | [] => some []
  | (.inr x, _) :: r => (strKs r).map (x :: ·)
  | _ :: _ => none
def dKs : List (PyData × PyData) → Option (List (Key × Va))
  | [] => some []
  | (k, v) :: r => match keyD k, dKs r with
    | some k, some l => some ((k, .d v) :: l)
    | _, _ => none
def maxL : List Int → Option Int
  | [] => none
  | i :: r => match maxL r with
    | none => some i
    | some j => some (if j ≤ i then i else j)
/-- whole numbers in order -/
def insI (x : Int) : List Int → List Int
  | [] => [x]
  | y :: r => if decide (y < x) then y :: insI x r else x :: y :: r
def sortI : List Int → List Int
  | [] => []
  | x :: r => insI x (sortI r)
def intKs {α : Type} : List (Key × α) → Option (List Int)
  | [] => some []
  | (.inl x, _) :: r => (intKs r).map (x :: ·)
  | _ :: _ => none
def srtK {α : Type} (l : List (Key × α)) (S : Sto) : R Va := match strKs l with
  | some ks => if ks.length < 64 then .ok (.d (.list ((sortS ks).map .str))) S else .bad
  | none => (match intKs l with
    | some ks => .ok (.d (.list ((sortI ks).map .int))) S
    | none => .bad)
/-- pairs of a key and a thing -/
def prsV : List PyData → Option (List (Key × Va))
  | [] => some []
  | .tuple [k, v] :: r => (match keyD k, prsV r with
    | some k, some l => some ((k, .d v) :: l)
    | _, _ => none)
  | _ :: _ => none
def sumV (l : List PyData) (S : Sto) : R Va := match intsD l with
  | some ns => .ok (.d (.int ns.sum)) S
  | none => .bad
def maxV (l : List PyData) (S : Sto) : R Va := match intsD l with
  | some ns => (match maxL ns with
    | some m => .ok (.d (.int m)) S
    | none => .bad)
  | none => .bad
def pureK : List (Key × Va) → Option (List (PyData × PyData))
  | [] => some []
  | (k, .d x) :: r => (pureK r).map ((kD k, x) :: ·)
  | _ :: _ => none
def freezeD (l : List (Key × Va)) (S : Sto) : R Va := match pureK (l.foldl (fun acc kv => putA acc kv.1 kv.2) []) with
  | some kvs => .ok (.d (.dict kvs)) S
  | none => .bad
def prsF (l : List PyData) (S : Sto) : R Va := match prsV l with
  | some m => freezeD m S
  | none => .bad
/-- dict(l) that is written behind -/
def prsC (l : List PyData) (S : Sto) : R Va := match prsV l with
  | some m => alloc (.dct (m.foldl (fun acc kv => putA acc kv.1 kv.2) [])) S
  | none => .bad
/-- sorted(set(l)), whole numbers -/
def insU (x : Int) : List Int → List Int
  | [] => [x]
  | y :: r => if x < y then x :: y :: r else if x = y then y :: r else y :: insU x r
def setI (ns : List Int) : List Int := ns.foldr insU []
def srsV : Va → Sto → R (List Va)
  | .d (.list l), S => (match intsD l with
    | some ns => if ns.length < 64 then .ok ((setI ns).map fun i => Va.d (.int i)) S else .bad
    | none => .bad)
  | _, _ => .bad
def isTp : Va → Bool
  | .tup _ => true
  | _ => false
def bltV : Bf → List Va → Sto → R Va
  | .len, [x], S => lenV x S
  | .repr, [x], S => match dataOf x S with
    | some d => if showOk d || isD0 d then .ok (.d (.str d.shown)) S else .bad
    | none => .bad
  | .abs, [.d (.int i)], S => .ok (.d (.int (if i < 0 then -i else i))) S
  | .int, [.d (.int i)], S => .ok (.d (.int i)) S
  | .int, [.d (.bool b)], S => .ok (.d (.int (if b then 1 else 0))) S
  | .all, [.d (.list l)], S => match boolsOf l with
    | some bs => .ok (.d (.bool (bs.all id))) S
    | none => .bad
  | .str, [.d (.int i)], S => if i.natAbs.log2 < 1920 then .ok (.d (.str (toString i))) S else .bad
  | .dict, [.ref n], S => match S[n]? with
    | some (.dct l) => alloc (.dct l) S
    | _ => .bad
  | .dict, [.d (.dict l)], S => .ok (.d (.dict l)) S
  | .dict, [.d (.tuple l)], S => prsF l S
  | .dict, [.d (.list l)], S => prsF l S
  | .sorted, [.ref n], S => match S[n]? with
    | some (.dct l) => srtK l S
    | _ => .bad
  | .sorted, [.d (.dict kvs)], S => match dKs kvs with
    | some l => srtK l S
    | none => .bad
  | .sorted, [.d (.list l)], S => match intsD l with
    | some ns => .ok (.d (.list ((sortI ns).map PyData.int))) S
    | none => .bad
  | .any, [.d (.list l)], S => match boolsOf l with
    | some bs => .ok (.d (.bool (bs.any id))) S
    | none => .bad
  | .dictC, [.ref n], S => match S[n]? with
    | some (.dct l) => alloc (.dct l) S
    | _ => .bad
  | .dictC, [.d (.dict l)], S => match dKs l with
    | some m => alloc (.dct m) S
    | none => .bad
  | .dictC, [.d (.tuple l)], S => prsC l S
  | .dictC, [.d (.list l)], S => prsC l S
  | .min, [.d (.int i), .d (.int j)], S => .ok (.d (.int (if j < i then j else i))) S
  | .sum, [.d (.list l)], S => sumV l S
  | .max, [.d (.list l)], S => maxV l S
  | .tuple, [x], S => if isTp x then .bad else (seqOf x S).bind fun l S => match pureL l with
    | some ds => .ok (.d (.tuple ds)) S
    | none => .bad
  | _, _, _ => .bad
def appV : Va → List Va → Sto → R Va
  | .ref n, [y], S => match S[n]? with
    | some (.lst l) => if l.length < sizeLine then .ok (.d .none) (S.set n (.lst (l ++ [y]))) else .bad
    | _ => .bad
  | _, _, _ => .bad
def extV : Va → List Va → Sto → R Va
  | .ref n, [.d (.list m)], S => match S[n]? with
    | some (.lst l) => if l.length + m.length ≤ sizeLine then .ok (.d .none) (S.set n (.lst (l ++ m.map .d))) else .bad
    | _ => .bad
  | _, _, _ => .bad
def uppV : Va → List Va → Sto → R Va
  | .d (.str a), [], S => if a.length ≤ 5592405 then .ok (.d (.str (Txt.upper a))) S else .bad
  | _, _, _ => .bad
def joiV : Va → List Va → Sto → R Va
  | .d (.str a), [.d (.list l)], S => match strsOf l with
    | some ys => if (ys.map (·.length)).sum + ys.length * a.length ≤ 16777216 then .ok (.d (.str (Txt.join a ys))) S else .bad
    | none => .bad
  | _, _, _ => .bad
def popV : Va → List Va → Sto → R Va
  | .ref n, [], S => match S[n]? with
    | some (.lst l) => (match l.getLast? with
      | some x => .ok x (S.set n (.lst l.dropLast))
      | none => .bad)
    | _ => .bad
  | _, _, _ => .bad
def updV : Va → List Va → Sto → R Va
  | .ref n, [.d (.dict kvs)], S => match S[n]?, dKs kvs with
    | some (.dct l), some m => if l.length + m.length ≤ sizeLine then .ok (.d .none) (S.set n (.dct (m.foldl (fun acc kv => putA acc kv.1 kv.2) l))) else .bad
    | _, _ => .bad
  | _, _, _ => .bad
def dgtV : Va → List Va → Sto → R Va
  | .ref n, [k, y], S => match kOf k, S[n]? with
    | some k, some (.dct kvs) => .ok ((valA kvs k).getD y) S
    | _, _ => .bad
  | .d (.dict kvs), [k, y], S => match kOf k with
    | some k => .ok (((valD kvs k).map Va.d).getD y) S
    | none => .bad
  | _, _, _ => .bad
def rvV : Va → Sto → R Va
  | .d (.tuple l), S => .ok (.d (.tuple l.reverse)) S
  | _, _ => .bad
def metV : Mt → Va → List Va → Sto → R Va
  | .append => appV
  | .extend => extV
  | .upper => uppV
  | .join => joiV
  | .pop => popV
  | .update => updV
  | .get => dgtV
def isLs : Va → Sto → R Unit
  | .ref n, S => match S[n]? with
    | some (.lst _) => .ok () S
    | _ => .bad
  | _, _ => .bad
def isDt : Va → Sto → R Unit
  | .ref n, S => match S[n]? with
    | some (.dct _) => .ok () S
    | _ => .bad
  | _, _ => .bad
def isDd : Va → Sto → R Unit
  | .ref n, S => match S[n]? with
    | some (.dct _) => .ok () S
    | _ => .bad
  | .d (.dict _), S => .ok () S
  | _, _ => .bad
def isSt : Va → Sto → R Unit
  | .d (.str _), S => .ok () S
  | _, _ => .bad
/-- whether it is a thing that has the method -/
def recv : Mt → Va → Sto → R Unit
  | .append => isLs
  | .extend => isLs
  | .upper => isSt
  | .join => isSt
  | .pop => isLs
  | .update => isDt
  | .get => isDd
def setV : Va → Va → Va → Sto → R Unit
  | .ref n, i, v, S => match kOf i, S[n]? with
    | some k, some (.dct kvs) => if kvs.length < sizeLine then .ok () (S.set n (.dct (putA kvs k v))) else .bad
    | some (.inl j), some (.lst l) => if 0 ≤ j ∧ j < l.length ∧ l.length ≤ sizeLine then .ok () (S.set n (.lst (l.set j.toNat v))) else .bad
    | _, _ => .bad
  | _, _, _, _ => .bad
def iR62 (i : Int) : Bool := decide (-(2 ^ 62) ≤ i) && decide (i < 2 ^ 62)
def rng1 : Va → Sto → R (List Va)
  | .d (.int j), S => if iR62 j && decide (j.toNat ≤ sizeLine) then .ok ((List.range j.toNat).map fun k => Va.d (.int (k : Nat))) S else .bad
  | _, _ => .bad
def rng2 : Va → Va → Sto → R (List Va)
  | .d (.int i), .d (.int j), S => if iR62 i && iR62 j && decide ((j - i).toNat ≤ sizeLine) then .ok ((List.range (j - i).toNat).map fun k => Va.d (.int (i + (k : Nat)))) S else .bad
  | _, _, _ => .bad
def rng3 : Va → Va → Va → Sto → R (List Va)
  | .d (.int i), .d (.int j), .d (.int c), S => if iR62 i && iR62 j && decide (c = -1) && decide ((i - j).toNat ≤ sizeLine) then .ok ((List.range (i - j).toNat).map fun k => Va.d (.int (i - (k : Nat)))) S else .bad
  | _, _, _, _ => .bad
def rngV : List Va → Sto → R (List Va)
  | [x], S => rng1 x S
  | [x, y], S => rng2 x y S
  | [x, y, z], S => rng3 x y z S
  | _, _ => .bad
/-- the items with their places -/
def enumD : Nat → List PyData → List Va
  | _, [] => []
  | i, x :: r => .tup [.d (.int (i : Nat)), .d x] :: enumD (i + 1) r
def enuV : List Va → Sto → R (List Va)
  | [.d (.list l)], S => .ok (enumD 0 l) S
  | [.d (.tuple l)], S => .ok (enumD 0 l) S
  | _, _ => .bad
/-- what is walked beside another: whether it is a tuple, and the items -/
def sqV : Va → Option (List Va)
  | .d (.list l) => some (l.map .d)
  | .d (.tuple l) => some (l.map .d)
  | .d (.str s) => if s.length ≤ sizeLine then some (s.cps.toList.map fun c => .d (.str ⟨#[c]⟩)) else none
  | .tup l => some l
  | _ => none
def zip2 : List Va → List Va → List Va
  | x :: xs, y :: ys => .tup [x, y] :: zip2 xs ys
  | _, _ => []
def zipV : List Va → Sto → R (List Va)
  | [x, y], S => match sqV x, sqV y with
    | some p, some q => .ok (zip2 p q) S
    | _, _ => .bad
  | _, _ => .bad
/-- a def that a name holds -/
def dynV (Φ : Nat → List Va → Sto → R Va) (fn : List (Str × Nat)) : Va → List Va → Sto → R Va
  | .fn (.fun_ x k), l, S => if fn[k]? = some (x, l.length) then Φ k l S else .bad
  | _, _, _ => .bad
/-- a new list so often -/
def rptV (l : List Va) : Va → Sto → R (List Va)
  | .d (.int k), S => if decide (-(2 ^ 62) ≤ k) && decide (k < 2 ^ 62) && decide (l.length * k.toNat ≤ sizeLine) then .ok (List.replicate k.toNat l).flatten S else .bad
  | _, _ => .bad
mutual
/-- the very same data -/
def beqD : PyData → PyData → Bool
  | .none, .none => true
  | .bool a, .bool b => a == b
  | .int a, .int b => decide (a = b)
  | .str a, .str b => decide (a = b)
  | .list a, .list b => beqDs a b
  | .tuple a, .tuple b => beqDs a b
  | .dict [], .dict [] => true
  | _, _ => false
def beqDs : List PyData → List PyData → Bool
  | [], [] => true
  | a :: r, b :: s => beqD a b && beqDs r s
  | _, _ => false
end
def sameL : List Va → List Va → Bool
  | [], [] => true
  | .d a :: r, .d b :: s => beqD a b && sameL r s
  | _, _ => false
def sameC (n : Nat) (l : List Va) (S : Sto) : Bool := match S[n]? with
  | some (.lst m) => sameL l m
  | _ => false
/-- the items of a cell with their places -/
def enumV : Nat → List Va → List Va
  | _, [] => []
  | i, x :: r => .tup [.d (.int (i : Nat)), x] :: enumV (i + 1) r
/-- what a comprehension gathers -/
def compF (f : Va → Sto → R (Option Va)) : List Va → List Va → Sto → R (List Va)
  | [], acc, S => .ok acc S
  | x :: xs, acc, S => (f x S).bind fun y S1 => match y with
    | some y => compF f xs (acc ++ [y]) S1
    | none => compF f xs acc S1
inductive Fl where
  | nx (η : En) | rt (v : Va)
def forF (f : Va → En → Sto → R Fl) : List Va → En → Sto → R Fl
  | [], η, S => .ok (.nx η) S
  | x :: xs, η, S => (f x η S).bind fun fl S1 => match fl with
    | .nx η1 => forF f xs η1 S1
    | .rt v => .ok (.rt v) S1
def whF (c : En → Sto → R Bool) (f : En → Sto → R Fl) : Nat → En → Sto → R Fl
  | 0, _, _ => .bad
  | n + 1, η, S => (c η S).bind fun b S1 => if b then (f η S1).bind fun fl S2 => (match fl with
      | .nx η1 => whF c f n η1 S2
      | .rt v => .ok (.rt v) S2) else .ok (.nx η) S1
def wipeE (η : En) : List Nat → En
  | [] => η
  | v :: vs => (wipeE η vs).set v none

/-! ### the interpreter -/
mutual
def ev (C : Cfg) : IE → En → Sto → R Va
  | .loc i, η, S => match η[i]? with
    | some (some v) => .ok v S
    | _ => .bad
  | .glo k, _, S => match C.gl k with
    | some v => .ok v S
    | none => .bad
  | .non, _, S => .ok (.d .none) S
  | .bl b, _, S => .ok (.d (.bool b)) S
  | .int i, _, S => .ok (.d (.int i)) S
  | .str x, _, S => .ok (.d (.str x)) S
  | .bin op a b, η, S => (ev C a η S).bind fun x S1 => (ev C b η S1).bind fun y S2 => binV op x y S2
  | .neg a, η, S => (ev C a η S).bind fun x S1 => match x with
    | .d (.int i) => .ok (.d (.int (-i))) S1
    | _ => .bad
  | .not a, η, S => (ev C a η S).bind fun x S1 => (truth x S1).bind fun b S2 => .ok (.d (.bool (!b))) S2
  | .cmp op a b, η, S => (ev C a η S).bind fun x S1 => (ev C b η S1).bind fun y S2 => (cmpV op x y S2).bind fun r S3 => .ok (.d (.bool r)) S3
  | .cmp2 op op' a b c, η, S => (ev C a η S).bind fun x S1 => (ev C b η S1).bind fun y S2 => (cmpV op x y S2).bind fun r S3 =>
      if r then (ev C c η S3).bind fun z S4 => (cmpV op' y z S4).bind fun r' S5 => .ok (.d (.bool r')) S5 else .ok (.d (.bool false)) S3
  | .and a b, η, S => (ev C a η S).bind fun x S1 => (truth x S1).bind fun t S2 => if t then ev C b η S2 else .ok x S2
  | .or a b, η, S => (ev C a η S).bind fun x S1 => (truth x S1).bind fun t S2 => if t then .ok x S2 else ev C b η S2
  | .ife c a b, η, S => (ev C c η S).bind fun x S1 => (truth x S1).bind fun t S2 => if t then ev C a η S2 else ev C b η S2
  | .ix a i, η, S => (ev C a η S).bind fun x S1 => (ev C i η S1).bind fun y S2 => getV x y S2
  | .sl a lo hi, η, S => (ev C a η S).bind fun x S1 => (evO C lo η S1).bind fun l S2 => (evO C hi η S2).bind fun h S3 => slV x l h S3
  | .tup es, η, S => (evL C es η S).bind fun l S1 => .ok (mkTup l) S1
  | .fz f, η, S => (evF C f η S).bind fun l S1 => freeze l S1
  | .mk f, η, S => (evF C f η S).bind fun l S1 => alloc (.lst l) S1
  | .dct0, _, S => alloc (.dct []) S
  | .dct kvs, η, S => (evK C kvs η (S ++ [.dct []])).bind fun l S1 => match S1[S.length]? with
    | some (.dct []) => .ok (.ref S.length) (S1.set S.length (.dct (l.foldl (fun acc kv => putA acc kv.1 kv.2) [])))
    | _ => .bad
  | .call f es, η, S => (evL C es η S).bind fun l S1 => C.Φ f l S1
  | .blt b es, η, S => (evL C es η S).bind fun l S1 => bltV b l S1
  | .met m o es, η, S => (ev C o η S).bind fun x S1 => (recv m x S1).bind fun _ S1 => (evL C es η S1).bind fun l S2 => metV m x l S2
  | .zz a, η, S => (ev C a η S).bind fun x S1 => match x with
    | .ref n => .ok (.z n) S1
    | _ => .bad
  | .isi a k, η, S => (ev C a η S).bind fun x S1 => (isiV k x S1).bind fun b S2 => .ok (.d (.bool b)) S2
  | .dctZ kvs, η, S => (evK C kvs η S).bind fun l S1 => freezeD l S1
  | .rv a, η, S => (ev C a η S).bind fun x S1 => rvV x S1
  | .dyn i fn es, η, S => match η[i]? with
    | some (some v) => (evL C es η S).nx.bind fun l S1 => dynV C.Φ fn v l S1
    | _ => .bad
  | .fld a f, η, S => (ev C a η S).bind fun x S1 => fldV C.os.cs f x S1
  | .mko cn es, η, S => (evL C es η S).bind fun l S1 => mkoV C.Φ C.os.cs cn l S1
  | .mth m a es, η, S => (ev C a η S).bind fun x S1 => (methV C.os.cs m x S1).bind fun q S1 => (evL C es η S1).bind fun l S2 => if l.length + 1 = q.2 then C.Φ q.1 (x :: l) S2 else .bad
  | .callK j es ks, η, S => (evL C es η S).bind fun l S1 => (evL C ks η S1).bind fun m S2 => callKV C.Φ C.os.kw j l m S2
def evF (C : Cfg) : IF → En → Sto → R (List Va)
  | .disp es, η, S => evL C es η S
  | .cat a b, η, S => (ev C a η S).bind fun x S1 => (ev C b η S1).bind fun y S2 => (items x S2).bind fun l S3 => (items y S3).bind fun m S4 => if l.length + m.length ≤ sizeLine then .ok (l ++ m) S4 else .bad
  | .comp elt tg it cd own, η, S => ((iter C it η S).bind fun xs S1 =>
      compF (fun x S2 => (asgn C tg x (wipeE η own) S2).bind fun η2 S3 => (evT C cd η2 S3).bind fun b S4 => if b then (ev C elt η2 S4).bind fun y S5 => .ok (some y) S5 else .ok none S4) xs [] S1).nx
  | .rev a, η, S => (ev C a η S).bind fun x S1 => (items x S1).bind fun l S2 => .ok l.reverse S2
  | .lst a, η, S => (ev C a η S).bind fun x S1 => seqOf x S1
  | .srs a, η, S => (ev C a η S).bind fun x S1 => srsV x S1
  | .cmpC elt tg i cd own, η, S => R.nx (match η[i]? with
    | some (some (.ref n)) => (match S[n]? with
      | some (.lst l) => if l.length ≤ sizeLine then (compF (fun x S2 => if sameC n l S2 then (asgn C tg x (wipeE η own) S2).bind fun η2 S3 => (evT C cd η2 S3).bind fun b S4 => if b then (ev C elt η2 S4).bind fun y S5 => .ok (some y) S5 else .ok none S4 else .bad) l [] S).bind fun acc S3 => if sameC n l S3 then .ok acc S3 else .bad else .bad
      | _ => .bad)
    | _ => .bad)
  | .cmpE elt tg i cd own, η, S => R.nx (match η[i]? with
    | some (some (.ref n)) => (match S[n]? with
      | some (.lst l) => if l.length ≤ sizeLine then (compF (fun x S2 => if sameC n l S2 then (asgn C tg x (wipeE η own) S2).bind fun η2 S3 => (evT C cd η2 S3).bind fun b S4 => if b then (ev C elt η2 S4).bind fun y S5 => .ok (some y) S5 else .ok none S4 else .bad) (enumV 0 l) [] S).bind fun acc S3 => if sameC n l S3 then .ok acc S3 else .bad else .bad
      | _ => .bad)
    | _ => .bad)
  | .compX elt tg it cd own, η, S => (iter C it η S).bind fun xs S1 =>
      compF (fun x S2 => (asgn C tg x (wipeE η own) S2).bind fun η2 S3 => (evT C cd η2 S3).bind fun b S4 => if b then (ev C elt η2 S4).bind fun y S5 => .ok (some y) S5 else .ok none S4) xs [] S1
  | .rpt a n, η, S => (evF C a η S).bind fun l S1 => (ev C n η S1).bind fun y S2 => rptV l y S2
def evO (C : Cfg) : IO → En → Sto → R (Option Int)
  | .no, _, S => .ok none S
  | .so e, η, S => (ev C e η S).bind fun x S1 => match x with
    | .d (.int i) => .ok (some i) S1
    | _ => .bad
def evL (C : Cfg) : IEs → En → Sto → R (List Va)
  | .nil, _, S => .ok [] S
  | .cons e es, η, S => (ev C e η S).bind fun x S1 => (evL C es η S1).bind fun l S2 => .ok (x :: l) S2
/-- the test of a comprehension's clause -/
def evT (C : Cfg) : IO → En → Sto → R Bool
  | .no, _, S => .ok true S
  | .so e, η, S => (ev C e η S).bind fun x S1 => truth x S1
def evK (C : Cfg) : IKs → En → Sto → R (List (Key × Va))
  | .nil, _, S => .ok [] S
  | .cons k v r, η, S => (ev C k η S).bind fun x S1 => (ev C v η S1).bind fun y S2 => (evK C r η S2).bind fun l S3 => match kOf x with
    | some k => .ok ((k, y) :: l) S3
    | none => .bad
def iter (C : Cfg) : II → En → Sto → R (List Va)
  | .val e, η, S => (ev C e η S).bind fun x S1 => match x with
    | .d (.list l) => .ok (l.map .d) S1
    | .d (.tuple l) => .ok (l.map .d) S1
    | .d (.str s) => if s.length ≤ sizeLine then .ok (s.cps.toList.map fun c => .d (.str ⟨#[c]⟩)) S1 else .bad
    | .tup l => .ok l S1
    | .d (.dict kvs) => .ok (kvs.map fun kv => .d kv.1) S1
    | _ => .bad
  | .rng es, η, S => (evL C es η S).bind fun l S1 => rngV l S1
  | .enu es, η, S => (evL C es η S).bind fun l S1 => enuV l S1
  | .zip es, η, S => (evL C es η S).bind fun l S1 => zipV l S1
def asgn (C : Cfg) : IT → Va → En → Sto → R En
  | .nm i, v, η, S => .ok (η.set i (some v)) S
  | .tp ts, v, η, S => match v with
    | .d (.tuple l) => asgns C ts (l.map .d) η S
    | .d (.list l) => asgns C ts (l.map .d) η S
    | .tup l => asgns C ts l η S
    | _ => .bad
  | .st ts i, v, η, S => match v with
    | .d (.tuple l) => asgnSt C ts i l η S
    | _ => .bad
  | .sub o i, v, η, S => (ev C o η S).bind fun x S1 => (ev C i η S1).bind fun y S2 => (setV x y v S2).bind fun _ S3 => .ok η S3
def asgns (C : Cfg) : ITs → List Va → En → Sto → R En
  | .nil, [], η, S => .ok η S
  | .cons t ts, v :: vs, η, S => (asgn C t v η S).nx.bind fun η1 S1 => asgns C ts vs η1 S1
  | _, _, _, _ => .bad
def asgnSt (C : Cfg) : ITs → Nat → List PyData → En → Sto → R En
  | .nil, i, l, η, S => .ok (η.set i (some (.d (.list l)))) S
  | .cons t ts, i, x :: l, η, S => (asgn C t (.d x) η S).nx.bind fun η1 S1 => asgnSt C ts i l η1 S1
  | .cons _ _, _, [], _, _ => .bad
end
/-- a loop over a list cell, as it stands at each turn -/
def forCF (f : Va → En → Sto → R Fl) (n : Nat) : Nat → Nat → En → Sto → R Fl
  | 0, _, _, _ => .bad
  | m + 1, i, η, S => match S[n]? with
    | some (.lst l) => (match l[i]? with
      | some x => (f x η S).bind fun fl S1 => match fl with
        | .nx η1 => forCF f n m (i + 1) η1 S1
        | .rt v => .ok (.rt v) S1
      | none => .ok (.nx η) S)
    | _ => .bad
/-- raise cn(..) -/
def rsV (xs : List (Str × Xi)) (cn : Str) (l : List Va) (S : Sto) : R Fl := match lookX xs cn, pureL l with
  | some xi, some ds => if ds.length = xi.fl.length then .ex ⟨cn, (xi.fl.zip ds).reverse⟩ S else .bad
  | _, _ => .bad
def attX (x : Xn) (f : Str) : Option PyData := (x.fs.find? fun p => decide (p.1 = f)).map (·.2)
def htV (xs : List (Str × Xi)) (xi : Xi) : HT → Option Bool
  | .own y => if (lookX xs y).isSome then some (decide (y ∈ xi.up)) else none
  | .blt k => some (decide (k ∈ xi.bu))
  | .any ys => if ys.all fun y => (lookX xs y).isSome then some (ys.any fun y => decide (y ∈ xi.up)) else none
  | .no t => (htV xs xi t).map not
  | .an a b => match htV xs xi a with
    | some true => htV xs xi b
    | some false => some false
    | none => none
mutual
def heV (xs : List (Str × Xi)) (xi : Xi) (x : Xn) : HE → Option PyData
  | .dat d => if isScal d then some d else none
  | .att f => if f ∈ xi.fl then attX x f else none
  | .tup es => match heL xs xi x es with
    | some ds => if ds.length ≤ 1000 then some (.tuple ds) else none
    | none => none
  | .ife t a b => match htV xs xi t with
    | some true => heV xs xi x a
    | some false => heV xs xi x b
    | none => none
def heL (xs : List (Str × Xi)) (xi : Xi) (x : Xn) : HEs → Option (List PyData)
  | .nil => some []
  | .cons e r => match heV xs xi x e with
    | some d => (heL xs xi x r).map (d :: ·)
    | none => none
end
def hsV (xs : List (Str × Xi)) (xi : Xi) (x : Xn) (n : Nat) (o : Option Nat) : HS → Sto → R Fl
  | .ret e, S => match heV xs xi x e with
    | some d => .ok (.rt (.d d)) S
    | none => .bad
  | .asg j e, S => if o = some j then .bad else match heV xs xi x e with
    | some d => .ok (.nx ((List.replicate n none).set j (some (.d d)))) S
    | none => .bad
def clzV (xs : List (Str × Xi)) (xi : Xi) (x : Xn) (n : Nat) (S : Sto) : List (Str × Option Nat × HS) → R Fl
  | [] => .ex x S
  | c :: r => if c.1 ∈ xi.up then hsV xs xi x n c.2.1 c.2.2 S else clzV xs xi x n S r
/-- try: .., except cn as i: .. -/
def tryV (xs : List (Str × Xi)) (cs : List (Str × Option Nat × HS)) (n : Nat) (r : R Fl) : R Fl := match r with
  | .ok fl S => .ok fl S
  | .bad => .bad
  | .ex x S => match lookX xs x.cn with
    | some xi => clzV xs xi x n S cs
    | none => .bad
mutual
def exec (C : Cfg) : IS → En → Sto → R Fl
  | .asg t e, η, S => (ev C e η S).bind fun v S1 => (asgn C t v η S1).bind fun η1 S2 => .ok (.nx η1) S2
  | .setZ i f, η, S => ((evF C f η S).bind fun l S1 => freeze l S1).bind fun v S1 => .ok (.nx (η.set i (some v))) S1
  | .setM i f, η, S => ((evF C f η S).bind fun l S1 => alloc (.lst l) S1).bind fun v S1 => .ok (.nx (η.set i (some v))) S1
  | .aug i op e, η, S => match η[i]? with
    | some (some x) => (ev C e η S).bind fun y S1 => (augV op x y S1).bind fun z S2 => .ok (.nx (η.set i (some z))) S2
    | _ => .bad
  | .ife c a b, η, S => (ev C c η S).bind fun x S1 => (truth x S1).bind fun t S2 => if t then execs C a η S2 else execs C b η S2
  | .for_ t it b, η, S => (iter C it η S).bind fun xs S1 => forF (fun x η1 S2 => (asgn C t x η1 S2).bind fun η2 S3 => execs C b η2 S3) xs η S1
  | .wh c b, η, S => whF (fun η1 S1 => (ev C c η1 S1).bind fun x S2 => truth x S2) (fun η1 S1 => execs C b η1 S1) C.wf η S
  | .forC t k b, η, S => match η[k]? with
    | some (some (.ref n)) => (match S[n]? with
      | some (.lst l) => forCF (fun x η1 S2 => (asgn C t x η1 S2).bind fun η2 S3 => execs C b η2 S3) n (l.length + 1) 0 η S
      | _ => .bad)
    | _ => .bad
  | .ret e, η, S => (ev C e η S).bind fun v S1 => .ok (.rt v) S1
  | .ex e, η, S => (ev C e η S).bind fun _ S1 => .ok (.nx η) S1
  | .tag _ s, η, S => exec C s η S
  | .raise cn es, η, S => (evL C es η S).bind fun l S1 => rsV C.xs cn l S1
  | .try_ b cs, η, S => tryV C.xs cs η.length (execs C b η S)
  | .setF a f e, η, S => (ev C e η S).bind fun v S1 => (ev C a η S1).bind fun x S2 => (setFV C.os.cs f x v S2).bind fun _ S3 => .ok (.nx η) S3
  | .pass, η, S => .ok (.nx η) S
  | .par i j a b, η, S => (ev C a η S).bind fun v S1 => (ev C b η S1).bind fun w S2 => .ok (.nx ((η.set i (some v)).set j (some w))) S2
def execs (C : Cfg) : ISs → En → Sto → R Fl
  | .nil, η, S => .ok (.nx η) S
  | .cons s r, η, S => (exec C s η S).bind fun fl S1 => match fl with
    | .nx η1 => execs C r η1 S1
    | .rt v => .ok (.rt v) S1
end
/-! no cell but the first n is named in it -/
mutual
def clV (n : Nat) : Va → Bool
  | .d _ => true
  | .ref k => decide (k < n)
  | .fn _ => true
  | .z k => decide (k < n)
  | .tup l => clVs n l
def clVs (n : Nat) : List Va → Bool
  | [] => true
  | v :: r => clV n v && clVs n r
end
def clO (n : Nat) : Ob → Bool
  | .lst l => clVs n l
  | .dct l => clVs n (l.map (·.2))
  | .ins _ l => clVs n (l.map (·.2))
def clS (S : Sto) : Bool := S.all (clO S.length)
/-- the cells made by a call are forgotten behind it, if nothing names them -/
def trim0 (n : Nat) (v : Va) (S : Sto) : R Va := if clV n v && (S.take n).all (clO n) then .ok v (S.take n) else .ok v S
/-- a list of plain data that is handed back for good: no cell any more -/
def trimZ (n k : Nat) (S : Sto) : R Va := match S[k]? with
  | some (.lst l) => (match pureL l with
    | some ds => if decide (n ≤ k) && (S.take n).all (clO n) && decide (ds.length ≤ sizeLine) then .ok (.d (.list ds)) (S.take n) else .bad
    | none => .bad)
  | _ => .bad
def trim (n : Nat) (v : Va) (S : Sto) : R Va := match v with
  | .z k => trimZ n k S
  | v => trim0 n v S
/-- behind an exception -/
def trimE (n : Nat) (x : Xn) (S : Sto) : R Va := if (S.take n).all (clO n) then .ex x (S.take n) else .ex x S
def finR (n : Nat) (r : R Fl) : R Va := match r with
  | .ok (.nx _) S1 => trim n (.d .none) S1
  | .ok (.rt v) S1 => trim n v S1
  | .bad => .bad
  | .ex x S1 => trimE n x S1
theorem finR_nx {n : Nat} {η : En} {S1 : Sto} : finR n (.ok (.nx η) S1) = trim n (.d .none) S1 := rfl
theorem finR_rt {n : Nat} {v : Va} {S1 : Sto} : finR n (.ok (.rt v) S1) = trim n v S1 := rfl
def runF (C : Cfg) (m : Nat) (b : ISs) (vs : List Va) (S : Sto) : R Va :=
  finR S.length (execs C b (vs.map some ++ List.replicate (m - vs.length) none) S)
end Nb

namespace Nb
open PySem L2 PySem.Spec

/-! ### how values lie: ff tells where a function stands -/
mutual
inductive RV (K : PySem.W.Frag) (ff : Gx → V → Prop) (H : Hp) (μ : Vw) : Va → V → Prop
  | d {x : PyData} {v : V} : Rp K H μ x v → RV K ff H μ (.d x) v
  | ref {n : Nat} {a : Addr} : μ.ad[n]? = some a → RV K ff H μ (.ref n) (.ref a)
  | z {n : Nat} {a : Addr} : μ.ad[n]? = some a → RV K ff H μ (.z n) (.ref a)
  | fn {k : Gx} {v : V} : ff k v → RV K ff H μ (.fn k) v
  | tup {a : Addr} {l : List Va} {xs : List V} : TA K H μ a xs → RVL K ff H μ l xs → l.length ≤ sizeLine → RV K ff H μ (.tup l) (.ref a)
inductive RVL (K : PySem.W.Frag) (ff : Gx → V → Prop) (H : Hp) (μ : Vw) : List Va → List V → Prop
  | nil : RVL K ff H μ [] []
  | cons {v : V} {vs : List V} {d : Va} {ds : List Va} : RV K ff H μ d v → RVL K ff H μ ds vs → RVL K ff H μ (d :: ds) (v :: vs)
end
section
variable {K : PySem.W.Frag} {ff : Gx → V → Prop} {H H' : Hp} {μ μ' : Vw}
theorem Ex.cell (e : Ex H μ H' μ') {n : Nat} {a : Addr} (h : μ.ad[n]? = some a) : μ'.ad[n]? = some a := by
  obtain ⟨t, q⟩ := e.pre
  have hl : n < μ.ad.length := (List.getElem?_eq_some_iff.mp h).1
  rw [q, List.getElem?_append_left hl]
  exact h
mutual
theorem RV.mono (e : Ex H μ H' μ') : ∀ {x : Va} {v : V}, RV K ff H μ x v → RV K ff H' μ' x v
  | _, _, .d r => .d (r.mono e)
  | _, _, .ref h => .ref (e.cell h)
  | _, _, .z h => .z (e.cell h)
  | _, _, .fn h => .fn h
  | _, _, .tup h t l => .tup (h.mono e) (RVL.mono e t) l
theorem RVL.mono (e : Ex H μ H' μ') : ∀ {ds : List Va} {vs : List V}, RVL K ff H μ ds vs → RVL K ff H' μ' ds vs
  | _, _, .nil => .nil
  | _, _, .cons r t => .cons (RV.mono e r) (RVL.mono e t)
end
theorem RVL.length : ∀ {ds : List Va} {vs : List V}, RVL K ff H μ ds vs → ds.length = vs.length
  | _, _, .nil => rfl
  | _, _, .cons _ t => by rw [List.length_cons, List.length_cons, RVL.length t]
theorem RVL.get : ∀ {ds : List Va} {vs : List V} {i : Nat} {d : Va}, RVL K ff H μ ds vs → ds[i]? = some d → ∃ v, vs[i]? = some v ∧ RV K ff H μ d v
  | _, _, _, _, .nil, e => by simp at e
  | _, _, 0, _, .cons r _, e => by simp at e; subst e; exact ⟨_, rfl, r⟩
  | _, _, i + 1, d, .cons _ t, e => by
    obtain ⟨u, h1, h2⟩ := RVL.get (i := i) (d := d) t (by simpa using e)
    exact ⟨u, by simpa using h1, h2⟩
theorem RVL.append : ∀ {ds es : List Va} {vs ws : List V}, RVL K ff H μ ds vs → RVL K ff H μ es ws → RVL K ff H μ (ds ++ es) (vs ++ ws)
  | _, _, _, _, .nil, s => s
  | _, _, _, _, .cons r t, s => .cons r (RVL.append t s)
theorem RVL.reverse : ∀ {ds : List Va} {vs : List V}, RVL K ff H μ ds vs → RVL K ff H μ ds.reverse vs.reverse
  | _, _, .nil => .nil
  | _, _, .cons r t => by rw [List.reverse_cons, List.reverse_cons]; exact (RVL.reverse t).append (.cons r .nil)
theorem RVL.of : ∀ {ds : List PyData} {vs : List V}, RpL K H μ ds vs → RVL K ff H μ (ds.map .d) vs
  | _, _, .nil => .nil
  | _, _, .cons r t => .cons (.d r) (RVL.of t)
theorem RVL.pure : ∀ {l : List Va} {vs : List V} {ds : List PyData}, RVL K ff H μ l vs → pureL l = some ds → RpL K H μ ds vs
  | _, _, _, .nil, e => by cases e; exact .nil
  | _, _, ds, .cons (d := x) (ds := r) q t, e => by
    cases q with
    | d q =>
      rw [pureL] at e
      obtain ⟨l, e1, e2⟩ := Option.map_eq_some_iff.mp e
      subst e2
      exact .cons q (RVL.pure t e1)
    | ref _ => cases e
    | z _ => cases e
    | fn _ => cases e
    | tup _ _ _ => cases e
theorem pureL_length : ∀ {l : List Va} {ds : List PyData}, pureL l = some ds → ds.length = l.length
  | [], _, e => by cases e; rfl
  | .d x :: r, _, e => by
    rw [pureL] at e
    obtain ⟨l, e1, e2⟩ := Option.map_eq_some_iff.mp e
    subst e2
    rw [List.length_cons, List.length_cons, pureL_length e1]
  | .ref _ :: _, _, e => by cases e
  | .fn _ :: _, _, e => by cases e
  | .tup _ :: _, _, e => by cases e
  | .z _ :: _, _, e => by cases e
/-- atI over two lists that go together -/
theorem atI_rp {ds : List PyData} {vs : List V} {i : Int} {d : PyData} (r : RpL K H μ ds vs) (h : atI ds i = some d) : ∃ v, atI vs i = some v ∧ Rp K H μ d v := by
  unfold atI at h ⊢
  rw [← r.length]
  obtain ⟨j, e1, e2⟩ := Option.bind_eq_some_iff.mp h
  obtain ⟨v, e3, e4⟩ := r.get e2
  exact ⟨v, by rw [e1]; exact e3, e4⟩
theorem atI_rv {ds : List Va} {vs : List V} {i : Int} {d : Va} (r : RVL K ff H μ ds vs) (h : atI ds i = some d) : ∃ v, atI vs i = some v ∧ RV K ff H μ d v := by
  unfold atI at h ⊢
  rw [← r.length]
  obtain ⟨j, e1, e2⟩ := Option.bind_eq_some_iff.mp h
  obtain ⟨v, e3, e4⟩ := r.get e2
  exact ⟨v, by rw [e1]; exact e3, e4⟩

/-! ### the store -/
def RKV (K : PySem.W.Frag) (ff : Gx → V → Prop) (H : Hp) (μ : Vw) : List (Key × Va) → List (Key × V) → Prop := Paired fun p q => p.1 = q.1 ∧ RV K ff H μ p.2 q.2
def ROV (K : PySem.W.Frag) (ff : Gx → V → Prop) (H : Hp) (μ : Vw) : List (Str × Va) → List (Str × V) → Prop := Paired fun p q => p.1 = q.1 ∧ RV K ff H μ p.2 q.2
def RO (K : PySem.W.Frag) (ff : Gx → V → Prop) (H : Hp) (μ : Vw) (a : Addr) : Ob → Prop
  | .lst l => ∃ vs, H a = some (.lst vs) ∧ RVL K ff H μ l vs
  | .dct kvs => ∃ ks, H a = some (.dK ks) ∧ RKV K ff H μ kvs ks
  | .ins cn fs => ∃ C dx vs, ff (.fun_ cn 0) (.ref C) ∧ H a = some (.ins C dx vs) ∧ ROV K ff H μ fs vs
/-- where functions stand; the heap at the beginning; what is wanted of exceptions -/
structure Fx where
  f : Gx → V → Prop
  H0 : Hp
  μ0 : Vw
  E : Xn → Sto → Prop
structure RS (K : PySem.W.Frag) (F : Fx) (H : Hp) (μ : Vw) (S : Sto) : Prop where
  len : μ.ad.length = S.length
  nd : μ.ad.Nodup
  kn : ∀ b, μ.fz b → ∃ o, H b = some o
  at_ : ∀ (n : Nat) (a : Addr) (o : Ob), μ.ad[n]? = some a → S[n]? = some o → RO K F.f H μ a o
  his : Ex F.H0 F.μ0 H μ
/-- another beginning -/
theorem RS.re {K : PySem.W.Frag} {F F' : Fx} {H : Hp} {μ : Vw} {S : Sto} (r : RS K F H μ S) (e : F'.f = F.f) (h : Ex F'.H0 F'.μ0 H μ) : RS K F' H μ S :=
  ⟨r.len, r.nd, r.kn, fun n a o h1 h2 => by rw [e]; exact r.at_ n a o h1 h2, h⟩
variable {F : Fx}
theorem RKV.mono (e : Ex H μ H' μ') {kvs : List (Key × Va)} {ks : List (Key × V)} (h : RKV K ff H μ kvs ks) : RKV K ff H' μ' kvs ks := Paired.mapP h fun _ _ q => ⟨q.1, q.2.mono e⟩
theorem ROV.mono (e : Ex H μ H' μ') {kvs : List (Str × Va)} {ks : List (Str × V)} (h : ROV K ff H μ kvs ks) : ROV K ff H' μ' kvs ks := Paired.mapP h fun _ _ q => ⟨q.1, q.2.mono e⟩
theorem RS.there {S : Sto} (r : RS K F H μ S) {a : Addr} (h : a ∈ μ.ad) : ∃ o, H a = some o ∧ Mut (some o) ∧ (∀ xs, o ≠ .tup xs) := by
  obtain ⟨n, hn, e⟩ := List.mem_iff_getElem.mp h
  have hS : n < S.length := by rw [← r.len]; exact hn
  have q := r.at_ n a S[n] (by rw [← e]; simp [hn]) (by simp [hS])
  cases hc : S[n] with
  | lst l =>
    rw [hc] at q
    obtain ⟨vs, e1, _⟩ := q
    exact ⟨_, e1, trivial, fun xs z => nomatch z⟩
  | dct l =>
    rw [hc] at q
    obtain ⟨vs, e1, _⟩ := q
    exact ⟨_, e1, trivial, fun xs z => nomatch z⟩
  | ins cn fs =>
    rw [hc] at q
    obtain ⟨C, dx, vs, _, e1, _⟩ := q
    exact ⟨_, e1, trivial, fun xs z => nomatch z⟩
theorem RS.unk {S : Sto} (r : RS K F H μ S) {p : Addr} (h : H p = none) : ¬ μ.fz p := fun z => by
  obtain ⟨o, e⟩ := r.kn p z
  rw [h] at e; cases e
theorem RS.fresh {S : Sto} (r : RS K F H μ S) {p : Addr} (h : H p = none) : p ∉ μ.ad := fun z => by
  obtain ⟨o, e, _⟩ := r.there z
  rw [h] at e; cases e
/-- a new thing that is no cell, known from now on -/
theorem Ex.new1 {H : Hp} {μ : Vw} {p : Addr} {o : HO} (h : H p = none) : Ex H μ (upd H p o) (μ.add p) :=
  ⟨fun b u q _ => by rw [upd_ne (ne_of_none q h)]; exact q, fun b u q => ⟨u, by rw [upd_ne (ne_of_none q h)]; exact q⟩, ⟨[], by simp [Vw.add]⟩, fun b z n => absurd z n, fun b z => .inl z, fun b z n => by
    rcases z with z | z
    · exact absurd z n
    · rw [z]; exact h⟩
theorem RO.mono' {a : Addr} {ob : Ob} (e : Ex H μ H' μ') (hs : ∀ o, H a = some o → H' a = some o) (q : RO K ff H μ a ob) : RO K ff H' μ' a ob := by
  cases ob with
  | lst l =>
    obtain ⟨vs, e1, e2⟩ := q
    exact ⟨vs, hs _ e1, e2.mono e⟩
  | dct l =>
    obtain ⟨vs, e1, e2⟩ := q
    exact ⟨vs, hs _ e1, RKV.mono e e2⟩
  | ins cn fs =>
    obtain ⟨C, dx, vs, ec, e1, e2⟩ := q
    exact ⟨C, dx, vs, ec, hs _ e1, ROV.mono e e2⟩
theorem RS.new1 {S : Sto} (r : RS K F H μ S) {p : Addr} {o : HO} (h : H p = none) : RS K F (upd H p o) (μ.add p) S :=
  ⟨r.len, r.nd, fun b z => by
    rcases z with z | z
    · obtain ⟨u, q⟩ := r.kn b z
      exact ⟨u, by rw [upd_ne (ne_of_none q h)]; exact q⟩
    · rw [z]; exact ⟨o, upd_same⟩, fun n a ob h1 h2 => (r.at_ n a ob h1 h2).mono' (Ex.new1 h) fun u e1 => by rw [upd_ne (ne_of_none e1 h)]; exact e1, r.his.trans (Ex.new1 h)⟩
/-- a new cell -/
theorem Ex.cellNew {H : Hp} {μ : Vw} {p : Addr} {o : HO} (h : H p = none) : Ex H μ (upd H p o) (μ.cell p) :=
  ⟨fun b u q _ => by rw [upd_ne (ne_of_none q h)]; exact q, fun b u q => ⟨u, by rw [upd_ne (ne_of_none q h)]; exact q⟩, ⟨[p], rfl⟩, fun b z n => by
    rcases List.mem_append.mp z with z | z
    · exact absurd z n
    · rw [List.mem_singleton.mp z]; exact h, fun b z => z, fun b z n => absurd z n⟩
theorem RS.cellNew {S : Sto} (r : RS K F H μ S) {p : Addr} {o : HO} {ob : Ob} (h : H p = none) (q : RO K F.f (upd H p o) (μ.cell p) p ob) : RS K F (upd H p o) (μ.cell p) (S ++ [ob]) := by
  have e : Ex H μ (upd H p o) (μ.cell p) := Ex.cellNew h
  refine ⟨by simp [Vw.cell, r.len], ?_, fun b z => let ⟨u, q⟩ := r.kn b z; ⟨u, by rw [upd_ne (ne_of_none q h)]; exact q⟩, fun n a ob' h1 h2 => ?_, r.his.trans e⟩
  · show (μ.ad ++ [p]).Nodup
    rw [List.nodup_append]
    exact ⟨r.nd, by simp, fun x hx y hy => by rw [List.mem_singleton.mp hy]; exact fun z => r.fresh h (z ▸ hx)⟩
  · have h1 : (μ.ad ++ [p])[n]? = some a := h1
    by_cases hn : n < μ.ad.length
    · rw [List.getElem?_append_left hn] at h1
      rw [List.getElem?_append_left (by rw [← r.len]; exact hn)] at h2
      exact (r.at_ n a ob' h1 h2).mono' e fun u e1 => by rw [upd_ne (ne_of_none e1 h)]; exact e1
    · have hl : n < (μ.ad ++ [p]).length := (List.getElem?_eq_some_iff.mp h1).1
      rw [List.length_append, List.length_singleton] at hl
      have en : n = μ.ad.length := by omega
      subst en
      rw [List.getElem?_append_right (Nat.le_refl _), Nat.sub_self] at h1
      rw [r.len, List.getElem?_append_right (Nat.le_refl _), Nat.sub_self] at h2
      cases h1
      cases h2
      exact q
/-- a cell written -/
theorem Ex.write {H : Hp} {μ : Vw} {a : Addr} {o : HO} (h : a ∈ μ.ad) : Ex H μ (upd H a o) μ :=
  ⟨fun b u q n => by rw [upd_ne (fun (z : b = a) => n (by rw [z]; exact h))]; exact q, fun b u q => by
    by_cases z : b = a
    · subst z; exact ⟨o, upd_same⟩
    · exact ⟨u, by rw [upd_ne z]; exact q⟩, ⟨[], by simp⟩, fun b z n => absurd z n, fun b z => z, fun b z n => absurd z n⟩
theorem RS.write {S : Sto} (r : RS K F H μ S) {n : Nat} {a : Addr} {o : HO} {ob : Ob} (h : μ.ad[n]? = some a) (q : RO K F.f (upd H a o) μ a ob) : RS K F (upd H a o) μ (S.set n ob) := by
  have ha : a ∈ μ.ad := List.mem_of_getElem? h
  have e : Ex H μ (upd H a o) μ := Ex.write ha
  refine ⟨by rw [List.length_set]; exact r.len, r.nd, fun b z => let ⟨u, q⟩ := r.kn b z; e.live b u q, fun m b ob' h1 h2 => ?_, r.his.trans e⟩
  by_cases hm : n = m
  · subst hm
    rw [h] at h1
    cases h1
    have hl : n < S.length := by rw [← r.len]; exact (List.getElem?_eq_some_iff.mp h).1
    rw [List.getElem?_set_self hl] at h2
    cases h2
    exact q
  · rw [List.getElem?_set_ne hm] at h2
    have nab : b ≠ a := fun z => by
      subst z
      exact hm (nodup_ix' r.nd h h1)
    exact (r.at_ m b ob' h1 h2).mono' e fun u e1 => by rw [upd_ne nab]; exact e1
where
  nodup_ix' {N : List Addr} (hN : N.Nodup) {i j : Nat} {x : Addr} (a : N[i]? = some x) (b : N[j]? = some x) : i = j := by
    obtain ⟨h1, e1⟩ := List.getElem?_eq_some_iff.mp a
    obtain ⟨h2, e2⟩ := List.getElem?_eq_some_iff.mp b
    exact (List.getElem_inj hN).mp (e1.trans e2.symm)
/-- a thing that is not known is changed, or made known -/
theorem Ex.hid {H H1 H2 : Hp} {μ μ1 : Vw} {p : Addr} (e : Ex H μ H1 μ1) (hh : ∀ b, b ≠ p → H2 b = H1 b) (h : H p = none) : Ex H μ H2 μ1 :=
  ⟨fun b u q n => by rw [hh b (ne_of_none q h)]; exact e.keep b u q n, fun b u q => by rw [hh b (ne_of_none q h)]; exact e.live b u q, e.pre, e.new, e.fzs, e.fnew⟩
theorem Ex.known {H H1 : Hp} {μ μ1 : Vw} {p : Addr} (e : Ex H μ H1 μ1) (h : H p = none) : Ex H μ H1 (μ1.add p) :=
  ⟨e.keep, e.live, e.pre, e.new, fun b z => .inl (e.fzs b z), fun b z n => by
    rcases z with z | z
    · exact e.fnew b z n
    · rw [z]; exact h⟩
theorem Ex.addV {H : Hp} {μ : Vw} {p : Addr} (h : ¬ μ.fz p → H p = none) : Ex H μ H (μ.add p) :=
  ⟨fun _ _ q _ => q, fun _ u q => ⟨u, q⟩, ⟨[], by simp [Vw.add]⟩, fun b z n => absurd z n, fun b z => .inl z, fun b z n => by
    rcases z with z | z
    · exact absurd z n
    · rw [z] at n ⊢; exact h n⟩
/-- two heaps that are one but at p -/
def Off (p : Addr) (H H2 : Hp) : Prop := ∀ b, b ≠ p → H2 b = H b
theorem Off.upd {H : Hp} {p : Addr} {o : HO} : Off p H (upd H p o) := fun b n => upd_ne n
def ers (H : Hp) (p : Addr) : Hp := fun b => if b = p then none else H b
theorem Off.ers {H : Hp} {p : Addr} : Off p H (ers H p) := fun b n => by unfold Nb.ers; rw [if_neg n]
theorem ers_none {H : Hp} {p : Addr} : ers H p p = none := by unfold ers; rw [if_pos rfl]
theorem upd_ers {H : Hp} {p : Addr} {o : HO} (h : H p = some o) : upd (ers H p) p o = H := by
  funext b
  by_cases z : b = p
  · subst z; rw [upd_same, h]
  · rw [upd_ne z]; exact Off.ers b z
/-- facts about what is known do not hang on a thing that is not -/
theorem Fz.hid {H2 : Hp} {a p : Addr} {u : HO} (hh : Off p H H2) (n : ¬ μ.fz p) (h : Fz H μ a u) : Fz H2 μ a u := by
  have ne : a ≠ p := fun z => n (by rw [← z]; exact h.2.2)
  refine ⟨?_, h.2⟩
  rw [hh a ne]
  exact h.1
theorem DZ.hid {H2 : Hp} {a p : Addr} {ks : List (Key × V)} (hh : Off p H H2) (n : ¬ μ.fz p) (h : DZ H μ a ks) : DZ H2 μ a ks := by
  obtain ⟨o, h, f, g⟩ := h
  have ne : a ≠ p := fun z => n (by rw [← z]; exact g)
  exact ⟨o, by rw [hh a ne]; exact h, f, g⟩
theorem TZ.hid {K : PySem.W.Frag} {H2 : Hp} {a p : Addr} {xs : List V} (hh : Off p H H2) (n : ¬ μ.fz p) (h : TZ K H μ a xs) : TZ K H2 μ a xs := by
  rcases h with ⟨o, h, d, f, g⟩ | h
  · have ne : a ≠ p := fun z => n (by rw [← z]; exact g)
    exact .inl ⟨o, by rw [hh a ne]; exact h, d, f, g⟩
  · exact .inr h
mutual
theorem Rp.hid {H2 : Hp} {p : Addr} (hh : Off p H H2) (n : ¬ μ.fz p) : ∀ {d : PyData} {v : V}, Rp K H μ d v → Rp K H2 μ d v
  | _, _, .non => .non
  | _, _, .bl b => .bl b
  | _, _, .int i => .int i
  | _, _, .str x => .str x
  | _, _, .lst h t l => .lst (h.imp (Fz.hid hh n) id) (RpL.hid hh n t) l
  | _, _, .tup h t l => .tup (TZ.hid hh n h) (RpL.hid hh n t) l
  | _, _, .dct h t l => .dct (DZ.hid hh n h) (RpK.hid hh n t) l
theorem RpK.hid {H2 : Hp} {p : Addr} (hh : Off p H H2) (n : ¬ μ.fz p) : ∀ {ds : List (PyData × PyData)} {vs : List (Key × V)}, RpK K H μ ds vs → RpK K H2 μ ds vs
  | _, _, .nil => .nil
  | _, _, .cons r t => .cons (Rp.hid hh n r) (RpK.hid hh n t)
theorem RpL.hid {H2 : Hp} {p : Addr} (hh : Off p H H2) (n : ¬ μ.fz p) : ∀ {ds : List PyData} {vs : List V}, RpL K H μ ds vs → RpL K H2 μ ds vs
  | _, _, .nil => .nil
  | _, _, .cons r t => .cons (Rp.hid hh n r) (RpL.hid hh n t)
end
mutual
theorem RV.hid {H2 : Hp} {p : Addr} (hh : Off p H H2) (n : ¬ μ.fz p) : ∀ {x : Va} {v : V}, RV K ff H μ x v → RV K ff H2 μ x v
  | _, _, .d r => .d (Rp.hid hh n r)
  | _, _, .ref h => .ref h
  | _, _, .z h => .z h
  | _, _, .fn h => .fn h
  | _, _, .tup h t l => .tup (h.imp (Fz.hid hh n) id) (RVL.hid hh n t) l
theorem RVL.hid {H2 : Hp} {p : Addr} (hh : Off p H H2) (n : ¬ μ.fz p) : ∀ {ds : List Va} {vs : List V}, RVL K ff H μ ds vs → RVL K ff H2 μ ds vs
  | _, _, .nil => .nil
  | _, _, .cons r t => .cons (RV.hid hh n r) (RVL.hid hh n t)
end
theorem RKV.hid {H2 : Hp} {p : Addr} (hh : Off p H H2) (n : ¬ μ.fz p) {kvs : List (Key × Va)} {ks : List (Key × V)} (h : RKV K ff H μ kvs ks) : RKV K ff H2 μ kvs ks := Paired.mapP h fun _ _ q => ⟨q.1, RV.hid hh n q.2⟩
theorem ROV.hid {H2 : Hp} {p : Addr} (hh : Off p H H2) (n : ¬ μ.fz p) {kvs : List (Str × Va)} {ks : List (Str × V)} (h : ROV K ff H μ kvs ks) : ROV K ff H2 μ kvs ks := Paired.mapP h fun _ _ q => ⟨q.1, RV.hid hh n q.2⟩
theorem RS.hid {H2 : Hp} {S : Sto} {p : Addr} (r : RS K F H μ S) (hh : Off p H H2) (n : ¬ μ.fz p) (nm : p ∉ μ.ad) (hz : F.H0 p = none) : RS K F H2 μ S :=
  ⟨r.len, r.nd, (fun b z => by rw [hh b (fun q => n (by rw [← q]; exact z))]; exact r.kn b z), fun m a ob h1 h2 => by
    have q := r.at_ m a ob h1 h2
    have ne : a ≠ p := fun z => nm (by rw [← z]; exact List.mem_of_getElem? h1)
    cases ob with
    | lst l =>
      obtain ⟨vs, e1, e2⟩ := q
      exact ⟨vs, by rw [hh a ne]; exact e1, RVL.hid hh n e2⟩
    | dct l =>
      obtain ⟨vs, e1, e2⟩ := q
      exact ⟨vs, by rw [hh a ne]; exact e1, RKV.hid hh n e2⟩
    | ins cn fs =>
      obtain ⟨C, dx, vs, ec, e1, e2⟩ := q
      exact ⟨C, dx, vs, ec, by rw [hh a ne]; exact e1, ROV.hid hh n e2⟩, r.his.hid hh hz⟩
/-! ### the frame -/
structure RE (K : PySem.W.Frag) (ff : Gx → V → Prop) (H : Hp) (μ : Vw) (η : En) (σ : St) : Prop where
  len : η.length = σ.length
  at_ : ∀ (i : Nat) (v : Va), η[i]? = some (some v) → ∃ w, σ[i]? = some (some w) ∧ RV K ff H μ v w
theorem RE.mono (e : Ex H μ H' μ') {η : En} {σ : St} (r : RE K ff H μ η σ) : RE K ff H' μ' η σ := ⟨r.len, fun i v h => let ⟨w, h1, h2⟩ := r.at_ i v h; ⟨w, h1, h2.mono e⟩⟩
theorem RE.set {η : En} {σ : St} (r : RE K ff H μ η σ) (i : Nat) {v : Va} {w : V} (q : RV K ff H μ v w) : RE K ff H μ (η.set i (some v)) (σ.set i (some w)) := by
  refine ⟨by rw [List.length_set, List.length_set]; exact r.len, fun j u h => ?_⟩
  by_cases e : i = j
  · subst e
    have hl : i < η.length := by
      have := (List.getElem?_eq_some_iff.mp h).1
      rwa [List.length_set] at this
    rw [List.getElem?_set_self hl] at h
    cases h
    exact ⟨w, List.getElem?_set_self (by rw [← r.len]; exact hl), q⟩
  · rw [List.getElem?_set_ne e] at h
    obtain ⟨w', h1, h2⟩ := r.at_ j u h
    exact ⟨w', by rw [List.getElem?_set_ne e]; exact h1, h2⟩
theorem RE.hid {H2 : Hp} {p : Addr} {η : En} {σ : St} (r : RE K ff H μ η σ) (hh : Off p H H2) (n : ¬ μ.fz p) : RE K ff H2 μ η σ := ⟨r.len, fun i v h => let ⟨w, h1, h2⟩ := r.at_ i v h; ⟨w, h1, RV.hid hh n h2⟩⟩
theorem wipeE_length (η : En) : ∀ vs : List Nat, (wipeE η vs).length = η.length
  | [] => rfl
  | v :: vs => by unfold wipeE; rw [List.length_set, wipeE_length η vs]
theorem RE.wipe {η : En} {σ : St} (r : RE K ff H μ η σ) : ∀ vs : List Nat, RE K ff H μ (wipeE η vs) (wipe σ vs)
  | [] => r
  | v :: vs => by
    have ih := RE.wipe r vs
    refine ⟨by rw [wipeE_length, wipe_length]; exact r.len, fun j u h => ?_⟩
    unfold wipeE at h
    unfold L2.wipe
    by_cases e : v = j
    · subst e
      by_cases hl : v < (wipeE η vs).length
      · rw [List.getElem?_set_self hl] at h; cases h
      · rw [List.getElem?_eq_none (by simpa using hl)] at h; cases h
    · rw [List.getElem?_set_ne e] at h
      obtain ⟨w', h1, h2⟩ := ih.at_ j u h
      exact ⟨w', by rw [List.getElem?_set_ne e]; exact h1, h2⟩
theorem Fz.grow {a p : Addr} {u : HO} (h : Fz H μ a u) : Fz H (μ.add p) a u := ⟨h.1, h.2.1, .inl h.2.2⟩
theorem DZ.grow {a p : Addr} {ks : List (Key × V)} (h : DZ H μ a ks) : DZ H (μ.add p) a ks := let ⟨o, h, f, g⟩ := h; ⟨o, h, f, .inl g⟩
theorem TZ.grow {K : PySem.W.Frag} {a p : Addr} {xs : List V} (h : TZ K H μ a xs) : TZ K H (μ.add p) a xs := by
  rcases h with ⟨o, h, d, f, g⟩ | h
  · exact .inl ⟨o, h, d, f, .inl g⟩
  · exact .inr h
mutual
theorem Rp.grow {p : Addr} : ∀ {d : PyData} {v : V}, Rp K H μ d v → Rp K H (μ.add p) d v
  | _, _, .non => .non
  | _, _, .bl b => .bl b
  | _, _, .int i => .int i
  | _, _, .str x => .str x
  | _, _, .lst h t l => .lst (h.imp Fz.grow id) (RpL.grow t) l
  | _, _, .tup h t l => .tup (TZ.grow h) (RpL.grow t) l
  | _, _, .dct h t l => .dct (DZ.grow h) (RpK.grow t) l
theorem RpK.grow {p : Addr} : ∀ {ds : List (PyData × PyData)} {vs : List (Key × V)}, RpK K H μ ds vs → RpK K H (μ.add p) ds vs
  | _, _, .nil => .nil
  | _, _, .cons r t => .cons (Rp.grow r) (RpK.grow t)
theorem RpL.grow {p : Addr} : ∀ {ds : List PyData} {vs : List V}, RpL K H μ ds vs → RpL K H (μ.add p) ds vs
  | _, _, .nil => .nil
  | _, _, .cons r t => .cons (Rp.grow r) (RpL.grow t)
end
mutual
theorem RV.grow {p : Addr} : ∀ {x : Va} {v : V}, RV K ff H μ x v → RV K ff H (μ.add p) x v
  | _, _, .d r => .d (Rp.grow r)
  | _, _, .ref h => .ref h
  | _, _, .z h => .z h
  | _, _, .fn h => .fn h
  | _, _, .tup h t l => .tup (h.imp Fz.grow id) (RVL.grow t) l
theorem RVL.grow {p : Addr} : ∀ {ds : List Va} {vs : List V}, RVL K ff H μ ds vs → RVL K ff H (μ.add p) ds vs
  | _, _, .nil => .nil
  | _, _, .cons r t => .cons (RV.grow r) (RVL.grow t)
end
theorem RS.grow {S : Sto} {p : Addr} {o : HO} (r : RS K F H μ S) (h : H p = some o) (hz : F.H0 p = none) : RS K F H (μ.add p) S :=
  ⟨r.len, r.nd, fun b z => by
    rcases z with z | z
    · exact r.kn b z
    · rw [z]; exact ⟨o, h⟩, fun n a ob h1 h2 => by
    have q := r.at_ n a ob h1 h2
    cases ob with
    | lst l => obtain ⟨vs, e1, e2⟩ := q; exact ⟨vs, e1, RVL.grow e2⟩
    | dct l => obtain ⟨vs, e1, e2⟩ := q; exact ⟨vs, e1, Paired.mapP e2 fun _ _ q => ⟨q.1, RV.grow q.2⟩⟩
    | ins cn fs => obtain ⟨C, dx, vs, ec, e1, e2⟩ := q; exact ⟨C, dx, vs, ec, e1, Paired.mapP e2 fun _ _ q => ⟨q.1, RV.grow q.2⟩⟩, r.his.known hz⟩
end
end Nb

/-! ### new tuples, with the very object: it has no dict of its own -/
namespace L2
open PySem PySem.Spec PyProof.Rows
section
variable {X : Cx}
/-- what is asked behind a new tuple -/
def NewT (H : Hp) (zs : List V) (Q : VK) : Prop := ∀ (p : Addr) (o : Obj), H p = none → o.dict = none → Q (.ref p) (upd H p (.frz o (.tup zs)))
theorem Inv.layT {pins : List (Addr × Obj)} {σ : L2.St} {H : Hp} {s : Shared} (I : Inv X pins σ H s) {zs : List V} {us : List Value} (r : Vals zs us) (hz : zs.length ≤ sizeLine) {Q : VK} (q : NewT H zs Q) :
    EP X pins σ Q (.ref s.heap.objs.size) { s with heap := s.heap.push { cls := .type "tuple", data := .seq us.toArray } } :=
  ⟨.ref s.heap.objs.size, upd H s.heap.objs.size (.frz { cls := .type "tuple", data := .seq us.toArray } (.tup zs)), I.laid (t' := s.toks) (o := .frz { cls := .type "tuple", data := .seq us.toArray } (.tup zs)) (fun b u e => Heap.get?_push_of_some _ e) (Nat.le_refl _)
    ⟨Heap.get?_push_size _ rfl, hz, us, r, IsTup.new _ _⟩, rfl, q _ _ (I.hok.fresh (Nat.le_refl _)) rfl⟩
def tTupZ (t : TA) : TE := fun σ H Q => t σ H fun zs H1 => zs.length ≤ sizeLine ∧ NewT H1 zs Q
theorem pe_tupZ {es : List Expr} {t : TA} {pos : Pos} {k : Nat} (h : PA X es t) : PE X (.Tuple es k pos) (tTupZ t) :=
  ⟨fun pins s σ H Q I hq => wpAny_Tuple_spliced (thn (h.run pos pins s σ H _ I hq) fun us s1 ⟨zs, H1, I1, r, z, q⟩ => ⟨by rw [← r.length]; exact z, I1.layT r z q⟩)⟩
def rCatZ (K : PySem.W.Frag) : R2 := fun x y H Q => ∃ a b as bs, x = .ref a ∧ y = .ref b ∧ SqT K H a as ∧ SqT K H b bs ∧ as.length + bs.length ≤ sizeLine ∧
  (as = [] → Q (.ref b) H) ∧ (as ≠ [] → bs = [] → Q (.ref a) H) ∧ (as ≠ [] → bs ≠ [] → NewT H (as ++ bs) Q)
theorem op_catZ : OpR X (binaryOp .Add) (rCatZ X.K) := by
  intro pins s σ H x y v u Q I rx ry h
  obtain ⟨a, b, as, bs, rfl, rfl, ha, hb, hz, q0, q1, q2⟩ := h
  by_cases hx : as = []
  · exact op_catA pins s σ H _ _ v u Q I rx ry ⟨a, b, as, bs, rfl, rfl, ha, hb, hz, q0, fun z => absurd hx z, fun z => absurd hx z⟩
  · cases rx
    cases ry
    obtain ⟨us, r1, p1, _⟩ := I.tuple ha
    obtain ⟨ws, r2, p2, _⟩ := I.tuple hb
    refine HT.cat_tup p1 p2 (fun z => hx (r1.nil_iff.mp z)) (fun z => ⟨.ref a, H, I, rfl, q1 hx (r2.nil_iff.mp z)⟩) (fun z => ?_) (by rw [← r1.length, ← r2.length]; exact hz)
    have e := I.layT (r1.append r2) (by rw [List.length_append]; exact hz) (q2 hx fun w => z (r2.nil_iff.mpr w))
    rw [show (us ++ ws).toArray = us.toArray ++ ws.toArray by simp] at e
    first | exact e | simpa using e
def rSlZ (K : PySem.W.Frag) : V → Option Int → Option Int → Hp → VK → Prop := fun x lo hi H Q => ∃ a as, x = .ref a ∧ SqT K H a as ∧
  (HT.sIx as.length 0 lo = 0 ∧ HT.sIx as.length as.length hi = as.length → Q (.ref a) H) ∧ (¬ (HT.sIx as.length 0 lo = 0 ∧ HT.sIx as.length as.length hi = as.length) → NewT H (cutV as lo hi) Q)
theorem sl_tupZ : SlR X (rSlZ X.K) := by
  intro pins s σ H x v vl vu lo hi sl Q I rx hs pl pu h
  obtain ⟨a, as, rfl, hx, q1, q2⟩ := h
  by_cases hw : HT.sIx as.length 0 lo = 0 ∧ HT.sIx as.length as.length hi = as.length
  · exact sl_tupA pins s σ H _ v vl vu lo hi sl Q I rx hs pl pu ⟨a, as, rfl, hx, q1, fun z => absurd hw z⟩
  · cases rx
    obtain ⟨us, r, ht, hz⟩ := I.tuple hx
    have hl : us.toArray.size = as.length := by rw [List.size_toArray, r.length]
    refine ⟨"tuple", _, PyProof.Rows.slot_tuple_getitem.lookup, ht.typeIs, ?_⟩
    refine HT.getItem_tuple_cut ht hs pl pu (by rw [hl]; exact hw) ?_ (by rw [hl]; exact hz)
    rw [hl]
    have e := I.layT ((r.drop (HT.sIx as.length 0 lo)).take (HT.sIx as.length as.length hi - HT.sIx as.length 0 lo)) (Nat.le_trans (cutV_length as lo hi) hz) (q2 hw)
    first | exact e | simpa using e
theorem call_tupZ : CallR X (.type "tuple") (fun xs H Q => ∃ p ys, xs = [.ref p] ∧ ((SqL X.K H p ys ∧ NewT H ys Q) ∨ (SqT X.K H p ys ∧ Q (.ref p) H))) := by
  intro pins s σ H xs us Q I r h
  obtain ⟨p, ys, rfl, h⟩ := h
  rcases h with ⟨hq, q⟩ | ⟨hq, q⟩
  · obtain ⟨u, rfl, rx⟩ := vals1 r
    cases rx
    obtain ⟨ws, r', pl, hz⟩ := I.list hq
    have hl := r'.length
    refine call_tuple_list pl.isList (fun h' kp => ?_) (by simp only [List.size_toArray] <;> omega)
    exact (I.kept (t' := s.toks) kp).layT r' hz q
  · exact call_tuple_of pins s σ H _ us Q I r ⟨p, ys, rfl, .inr ⟨hq, q⟩⟩
end
end L2

/-! ### isinstance of a caught exception, with a dict of its own or without -/
namespace PySem.W
open PySem PySem.Spec PySem.Calls PyProof.Rows
section
variable {prog : Program} {w : World} {A : Around} {E : Value → Shared → Prop} {s : Shared} {K : Frag} {x D : Addr} {ox : Obj} {od : Option Obj}
/-- what a class says of how its instances' class is asked for -/
structure AskC (K : Frag) (D : Addr) : Prop where
  g : findIn K (.ref D) "__getattribute__" = some (some (.builtin "BaseException.__getattribute__"))
  k : findIn K (.ref D) "__getattr__" = some none
  s : subIn K (.ref D) (.type "BaseException") = some true
  d : hasDictIn K D = true
  a : findIn K (.ref D) "__class__" = some (some (.builtin "object.__class__"))
  n : specialIn K (.builtin "object.__class__") "__get__" = some (some (.builtin "getset_descriptor.__get__"))
  t : takesIn K (.builtin "object.__class__") = some true
  m : mroIn K D (.type "object") = some true
theorem fnd_cls (h : AskC K D) : findObj K D od "__class__" = some (.bind (.builtin "getset_descriptor.__get__") (.builtin "object.__class__")) := by
  have hc : (clsIn K D).isSome = true := by
    obtain ⟨cd, hc, _⟩ := any_some h.d
    rw [hc]
    rfl
  obtain ⟨cd, hc⟩ := Option.isSome_iff_exists.mp hc
  unfold findObj
  rw [hc, Option.bind_some, h.a, Option.bind_some]
  simp [h.n, h.t]
theorem ask_cls {Q : Option Value → Shared → Prop} (h : AskC K D) (X : K.In s.heap) (I : InstAt s.heap x ox D od)
    (q : Q (some (.ref D)) { s with toks := s.toks + 1 }) : wpAny (model prog w) A (getAttr? (.ref x) "__class__") Q E s := by
  obtain ⟨hp, g, d, t, os⟩ := s
  have l0 := I.type (M := model prog w)
  have l1 := looks_findIn (M := model prog w) X h.g
  have l2 := looks_findIn (M := model prog w) X h.k
  have l3 := looks_find (M := model prog w) X I (fnd_cls (od := od) h)
  have sb : Looks (model prog w) hp (isInstance (.ref x) (.type "BaseException")) true :=
    l0.andThen (looks_subIn X h.s)
  have z0 : (false && onTheHeap (Value.builtin "BaseException.__getattribute__")) = false := rfl
  have z2 : (Value.builtin "BaseException.__getattribute__" == Value.builtin "object.__getattribute__") = false := by
    decide +kernel
  have z1 : (onTheHeap (Value.ref D) && Value.builtin "BaseException.__getattribute__" == Value.builtin "object.__getattribute__") = false := by
    rw [z2]
    rfl
  unfold getAttr? getAttrBy? getAttrBy
  refine wpAny_bind (wpAny_mkText (wpAny_bind (wpAny_attempt (wpAny_holding (wpAny_bind (l0.at (wpAny_bind (l1.at ?_))))))))
  show wpAny _ _ (if (onTheHeap (Value.ref D) && Value.builtin "BaseException.__getattribute__" == Value.builtin "object.__getattribute__") = true then _ else _) _ _ _
  rw [z1, if_neg Bool.false_ne_true]
  unfold getAttrByItsOwn hookBefore
  refine wpAny_bind ?_
  rw [if_pos (show onTheHeap (Value.ref D) = true from rfl)]
  refine l2.at ?_
  refine wpAny_bind (wpAny_attempt (wpAny_holding ?_))
  unfold callGetattribute
  rw [z0, if_neg Bool.false_ne_true]
  unfold boundAndCalled
  rw [PySem.F.excAttr_ValueError.ga.bind (.ref x)]
  refine wpAny_bind (wpAny_pure ?_)
  show wpAny _ _ (call (.builtin "BaseException.__getattribute__") [.ref x, .str "__class__" t]) _ _ _
  refine wpAny_call (codeAny_call_builtin PySem.F.excAttr_ValueError.ga.plain PySem.F.entry_bexc_ga ?_)
  refine @check_slot (model prog w) _ _ ⟨hp, g, d, t + 1, os⟩ "BaseException.__getattribute__" "BaseException" "__getattribute__"
    (.ref x) [.str "__class__" t] [] _ (by decide +kernel) (by decide +kernel) sb (PySem.F.args_bexc_ga (.ref x) (.str "__class__" t)) ?_
  unfold Builtin.«object.__getattribute__»
  refine wpAny_bind (wpAny_of_eq (a := ((Value.ref x : Value), [Value.str "__class__" t]))
    (by first | rfl | (simp only [slotArgs]; rfl)) ?_)
  refine wpAny_bind (wpAny_pure (wpAny_bind (l0.at (wpAny_bind (l3.at ?_)))))
  show wpAny _ _ (holding [Value.builtin "object.__class__"] (call (.builtin "getset_descriptor.__get__") [.builtin "object.__class__", .ref x, .ref D]) >>= ret) _ _ _
  refine wpAny_bind (wpAny_holding (wpAny_call (class_get (s := ⟨hp, g, d, t + 1, os⟩) (ox := ox) (od := od) X I h.m ?_)))
  refine wpAny_pure ?_
  show wpAny _ _ (handedOut (.ref D)) _ _ _
  rw [handedOut_of (v := .ref D) rfl]
  first
    | exact wpAny_pure (wpAny_pure q)
    | exact wpAny_pure q
    | exact wpAny_pure (wpAny_bind (wpAny_pure (wpAny_pure q)))
theorem kit_exc (h : AskC K D) : KitX K (.ref x) (.ref D) (fun hp => InstAt hp x ox D od) where
  ty := fun _ _ _ I => I.type
  it := fun _ _ X _ => by
    obtain ⟨c1, h1, _⟩ := any_some h.d
    unfold clsIn at h1
    split at h1
    · rename_i c' d' cd' sl' ho
      intro A' Q' E' s' k q
      unfold isType loadHead
      exact wpAny_bind (wpAny_loadPart (k _ _ (X _ _ ho)) (wpAny_pure q))
    · cases h1
  ne := fun hp tp dd its n sl X htp => by
    obtain ⟨c1, h1, _⟩ := any_some h.d
    refine Bool.eq_false_iff.mpr fun q => ?_
    have e : D = tp := Value.ref.inj (beq_iff_eq.mp q)
    subst e
    unfold clsIn at h1
    split at h1
    · rename_i c' d' cd' sl' ho
      cases (X _ _ ho).symm.trans htp
    · cases h1
  ca := fun X I k => ask_cls h X I k
end
end PySem.W
namespace L2
open PySem PySem.Spec PyProof.Rows
section
variable {X : Cx} {a D : Addr} {d : Option Addr} {oe : Obj} {pn : List (Addr × Obj)}
theorem inst_X {pins : List (Addr × Obj)} {σ : L2.St} {H : Hp} {s : Shared} (hz : Zc (.ref D) d oe) (hf : ∃ vs, oe.data = .fields vs) (I : Inv (X.suite a ((a, oe) :: pn)) pins σ H s)
    (hd : ∀ dx, d = some dx → ∃ fs, H dx = some (.xd fs)) : ∃ od, PySem.W.InstAt s.heap a oe D od := by
  obtain ⟨hget, _⟩ := I.pin (a, oe) (List.mem_append.mpr (.inl List.mem_cons_self))
  obtain ⟨vs, hv⟩ := hf
  have nc : PySem.W.notCls oe := by
    unfold PySem.W.notCls
    rw [hv] <;> rfl
  cases d with
  | none =>
    refine ⟨none, hget, hz.1, nc, ?_⟩
    rw [hz.2]
    trivial
  | some dx =>
    obtain ⟨fs, hx⟩ := hd dx rfl
    obtain ⟨mA, hns, _⟩ := (show ObjOk X.prog X.w H s.heap dx (.xd fs) from I.hok dx _ hx)
    obtain ⟨od, ho, _⟩ := lookIn_ns hns
    refine ⟨some od, hget, hz.1, nc, ?_⟩
    rw [hz.2]
    exact ho
/-- isinstance of the exception that the suite holds: it has its class and (fields or not) a dict that stands -/
theorem call_isX (C : PySem.W.AskC X.K D) (hz : Zc (.ref D) d oe) (hf : ∃ vs, oe.data = .fields vs) :
    CallR (X.suite a ((a, oe) :: pn)) (.builtin "isinstance") (fun xs H Q => ∃ (c : V) (cv : Value) (b : Bool), xs = [.ref a, c] ∧ ClsV c cv ∧ PySem.W.kitOne X.K (.ref D) cv = some b ∧
      (∀ dx, d = some dx → ∃ fs, H dx = some (.xd fs)) ∧ Q (.bl b) H) := by
  intro pins s σ H xs us Q I r h
  obtain ⟨c, cv, b, rfl, hcv, e, hd, q⟩ := h
  obtain ⟨u1, u2, rfl, r1, r2⟩ := vals2 r
  have ec := hcv.eq r2
  subst ec
  cases (show u1 = Value.ref a from r1)
  obtain ⟨od, J⟩ := inst_X hz hf I hd
  exact PySem.W.kia_one (PySem.W.kit_exc C) I.kIn J e (fun z => nomatch z) fun tk => ⟨.bl b, H, I.kept (t' := tk) fun _ _ z => z, rfl, q⟩
theorem call_isXT (C : PySem.W.AskC X.K D) (hz : Zc (.ref D) d oe) (hf : ∃ vs, oe.data = .fields vs) :
    CallR (X.suite a ((a, oe) :: pn)) (.builtin "isinstance") (fun xs H Q => ∃ (tp : Addr) (ob : Obj) (cs : List V) (ws : List Value) (b : Bool), xs = [.ref a, .ref tp] ∧ H tp = some (.frz ob (.tup cs)) ∧ Paired ClsV cs ws ∧
      PySem.W.kitAny X.K (.ref D) ws = some b ∧ (∀ dx, d = some dx → ∃ fs, H dx = some (.xd fs)) ∧ Q (.bl b) H) := by
  intro pins s σ H xs us Q I r h
  obtain ⟨tp, ob, cs, ws, b, rfl, hT, k, e, hd, q⟩ := h
  obtain ⟨u1, u2, rfl, r1, r2⟩ := vals2 r
  cases (show u2 = Value.ref tp from r2)
  cases (show u1 = Value.ref a from r1)
  obtain ⟨od, J⟩ := inst_X hz hf I hd
  obtain ⟨_, _, its, rv, o, h1, h2, n, h3⟩ := (show ObjOk X.prog X.w H s.heap tp (.frz ob (.tup cs)) from I.hok tp _ hT)
  have e3 := ClsV.all k rv
  subst e3
  obtain ⟨oc, od2, dt, sl⟩ := o
  simp only at h2 h3
  subst h2 h3
  exact PySem.W.kia_tup (PySem.W.kit_exc C) I.kIn J h1 e (fun z => nomatch z) fun tk => ⟨.bl b, H, I.tok tk, rfl, q⟩
end
end L2
namespace Nb
open PySem L2 PySem.Spec PyProof.Rows
/-! ### several except clauses, each with a name or without -/
abbrev Clz := List (Value × Option Nat × (Addr → Value → Option Addr → TS))
/-- a clause's end: its name is gone -/
def endC (o : Option Nat) (D : Ends) : Ends := match o with
  | none => D
  | some i => ⟨fun σ H => D.nx (σ.set i none) H, D.rt, fun σ H => D.bk (σ.set i none) H, fun σ H => D.ct (σ.set i none) H⟩
def setC (o : Option Nat) (a : Addr) (σ : L2.St) : L2.St := match o with
  | none => σ
  | some i => σ.set i (some (.ref a))
/-- what the clauses wish of what leaves the body -/
def wCl (K : PySem.W.Frag) (Wout : L2.WX) (D : Ends) : Clz → L2.WX
  | [], cls, d, σ, H => Wout cls d σ H
  | (c, o, ts) :: r, cls, d, σ, H => ∃ b, PySem.W.exmOne K cls c = some b ∧
    (b = true → ∀ a, H a = none → ts a cls d (endC o D) (setC o a σ) H) ∧ (b = false → wCl K Wout D r cls d σ H)
/-- the clauses as they stand in the text -/
inductive ClOk (X : Cx) : List ExceptHandler → Clz → Prop
  | nil : ClOk X [] []
  | cons {x : Str} {c : Value} {o : Option Nat} {on : Option Str} {ts : Addr → Value → Option Addr → TS} {b₀ : Stmt} {su : List Stmt} {np p' : Pos} {hs : List ExceptHandler} {l : Clz} (hc : Names X x c)
      (hn : (o = none ∧ on = none) ∨ ∃ i n, o = some i ∧ on = some n ∧ X.N[i]? = some n ∧ X.env.kindOf n = some .local)
      (hsu : ∀ (a : Addr) (oe : Obj) (cls : Value) (d : Option Addr) (pn : List (Addr × Obj)), Zc cls d oe →
        (∃ vs, oe.data = .fields vs) → PSs (X.suite a ((a, oe) :: pn)) (b₀ :: su) (ts a cls d)) (r : ClOk X hs l) :
      ClOk X (.ExceptHandler (some (.Name x np)) on (b₀ :: su) p' :: hs) ((c, o, ts) :: l)
section
variable {X : Cx} {body : List Stmt} {h₀ : ExceptHandler} {hds : List ExceptHandler} {l : Clz} {pos : Pos} {tb : L2.WX → TS} {Wout : L2.WX}
theorem ps_try_L (hs : X.stack = X.env :: X.outer) (hf : X.env.frame = some X.env.locals) (hN : X.N.Nodup) (tk : Takes X Wout)
    (hb : ∀ (W : L2.WX) (pn : List (Addr × Obj)) (xe : Value → Shared → Prop), Takes (X.tr pn xe) W →
      PassesOwn (model X.prog X.w) X.A X.env xe → PSs (X.tr pn xe) body (tb W))
    (hh : ClOk X (h₀ :: hds) l) : PS X (.Try body (h₀ :: hds) [] [] pos) (fun D σ H => tb (wCl X.K Wout D l) D σ H) := by
  refine ⟨fun pins s σ H D I h => wpAny_Try_except ?_⟩
  have ok := I.ok
  have hfr : X.A.frames = some (X.env :: X.outer) := by
    rw [ok.frames, hs]
  refine wpAny_mono ((hb (wCl X.K Wout D l) (X.pn ++ pins)
    (fun e s₁ => wpAny (model X.prog X.w) X.A (noteFrame e X.env) (fun _ s₂ => wpAny (model X.prog X.w) X.A (setFlight e none)
      (fun _ s₃ => wpAny (model X.prog X.w) X.A (handleBy e X.env (h₀ :: hds)) (SP X pins D) X.xe s₃) X.xe s₂) X.xe s₁)
    (fun u s' xx => ?_) PassesOwn.looking).run [] s σ H D (I.toTry _) h) (fun f s1 hsp => ?_) (fun e s1 he => he)
  · obtain ⟨a, B, sI, pins', σ', H', cls, d, rfl, J', nb, up, sky, na, os, ag, w⟩ := xx
    have J : Inv X pins σ' H' sI := J'.ofTry ok
    have sky' : Sky B (X.env :: X.outer) a (Zc cls d) X.env.locals s'.heap := by
      rw [← hs]
      exact sky
    show wpAny (model X.prog X.w) X.A (noteFrame (.ref a) X.env) _ _ _
    refine Sky.land Zc.steady hfr hf sky' fun h3 fl3 up3 => ?_
    have J3 : Inv X pins σ' H' { s' with heap := h3 } := J.landed nb fl3.1 (up.trans up3) os ag
    obtain ⟨oe3, vs3, he3, hz3, hd3⟩ := fl3.there
    have nfr : a ∉ frs (X.env :: X.outer) := fun hm => by
      obtain ⟨_, o', e', hnf⟩ := fl3.2.2.1.mem hm
      rw [he3] at e'
      cases e'
      exact hnf _ hd3
    have nL : a ≠ X.env.locals := fun z => nfr (List.mem_filterMap.mpr ⟨X.env, List.mem_cons_self, by rw [hf, z]⟩)
    have nF : a ∉ X.fs := fun hm => by
      obtain ⟨e, he, q⟩ := List.mem_filterMap.mp hm
      exact nfr (List.mem_filterMap.mpr ⟨e, List.mem_cons_of_mem _ he, q⟩)
    have S3 := J3.suite he3 hd3 na nL nF
    have go : ∀ {hs2 : List ExceptHandler} {l2 : Clz}, ClOk X hs2 l2 → wCl X.K Wout D l2 cls d σ' H' →
        wpAny (model X.prog X.w) X.A (handleBy (.ref a) X.env hs2) (SP X pins D) X.xe { s' with heap := h3 } := by
      intro hs2 l2 hk
      induction hk with
      | nil =>
        intro w
        obtain ⟨_, _, _, oe, vs, T, oT, ts', he, _, hd, h1, _⟩ := id fl3
        have fin : wpAny (model X.prog X.w) X.A (setFlight (.ref a) X.env.frame) (fun _ s4 =>
            wpAny (model X.prog X.w) X.A (throw (.ref a) : Sem Flow) (SP X pins D) X.xe s4) X.xe { s' with heap := h3 } := by
          rw [hf]
          exact HandSPX.setFlight_upZ fl3 fun h4 hh4 up4 => wpAny_throw (tk _ _
            ⟨a, B, sI, pins, σ', H', cls, d, rfl, J, nb, (up.trans up3).trans up4, .inr (.inr (by rw [hs]; exact hh4)), na, os, ag, w⟩)
        refine wpAny_handleBy_nil ?_
        unfold PySem.passOn
        refine wpAny_bind (wpAny_field he hd h1 ?_)
        rw [if_neg (show ¬ ((Value.ref T == Value.none) = true) from by simp)]
        first
          | exact wpAny_bind (wpAny_pure (wpAny_bind fin))
          | exact wpAny_bind fin
      | @cons x c o on ts b₀ su np p' hs3 l3 hc hn hsu r ih =>
        intro w
        obtain ⟨b, hb1, hyes, hno⟩ := w
        have LT : PySem.W.Looks (model X.prog X.w) h3 (typeOf (.ref a)) cls := fun A Q E s k q =>
          wpAny_typeOf_ref (k _ _ he3) (by rw [hz3.1]; exact q)
        have LM := PySem.W.exm_one (M := model X.prog X.w) (J3.kIn) LT hb1
        have test : ∀ {Q : Value → Shared → Prop} {E : Value → Shared → Prop}, Q c { s' with heap := h3 } →
            wpAny (model X.prog X.w) (X.A.mark (some (.ref a))) (eval (.Name x np) X.env) Q E { s' with heap := h3 } := fun {Q E} q => by
          obtain ⟨hg, hdbg, hm | ⟨hm, hv, hnn⟩⟩ := hc
          · exact ld_glob (X := X.suite a ((a, oe3) :: (X.pn ++ pins))) S3 hg hm q hdbg
          · exact ld_blt (X := X.suite a ((a, oe3) :: (X.pn ++ pins))) S3 hg hm hv q hnn hdbg
        refine wpAny_handleBy_cons (codeAny_handlers_test (test (LM.here ?_))) (by intro q; cases q)
        cases b with
        | false =>
          show wpAny _ X.A (handleBy (.ref a) X.env hs3) _ _ _
          exact ih (hno rfl)
        | true =>
          have y := hyes rfl a na
          rcases hn with ⟨rfl, rfl⟩ | ⟨i, n, rfl, rfl, hi, hln⟩
          · refine codeAny_handlers_suite (HandSPX.lands_againZ fl3 fun h4 fl4 up4 => ?_)
            have J4 : Inv X pins σ' H' { s' with heap := h4 } := J.landed nb fl4.1 ((up.trans up3).trans up4) os ag
            obtain ⟨oe4, vs4, he4, hz4, hd4⟩ := fl4.there
            have S4 := J4.suite he4 hd4 na nL nF
            refine wpAny_mono ((hsu a oe4 cls d (X.pn ++ pins) hz4 ⟨_, hd4⟩).run [] _ _ H' _ S4 y) (fun f s6 hsp => ?_) (fun _ _ z => False.elim z)
            cases f with
            | ret u =>
              obtain ⟨v6, σ6, H6, S6, r6, q6⟩ := hsp
              exact ⟨_, _, _, S6.unsuite ok, r6, q6⟩
            | _ =>
              obtain ⟨σ6, H6, S6, q6⟩ := hsp
              exact ⟨_, _, S6.unsuite ok, q6⟩
          · refine codeAny_handlers_suite_as (HandSPX.lands_againZ fl3 fun h4 fl4 up4 => ?_)
            have J4 : Inv X pins σ' H' { s' with heap := h4 } := J.landed nb fl4.1 ((up.trans up3).trans up4) os ag
            obtain ⟨oe4, vs4, he4, hz4, hd4⟩ := fl4.there
            have S4 := J4.suite he4 hd4 na nL nF
            refine store_ok (X := X.suite a ((a, oe4) :: (X.pn ++ pins))) (v := .ref a) S4 hN hi (.inl hln) rfl (fun s5 S5 => ?_) (.inr hln)
            refine wpAny_mono ((hsu a oe4 cls d (X.pn ++ pins) hz4 ⟨_, hd4⟩).run [] s5 _ H' _ S5 y) (fun f s6 hsp => ?_) (fun _ _ z => False.elim z)
            have end_ : ∀ {σ6 : L2.St} {H6 : Hp} {Q : Shared → Prop}, Inv (X.suite a ((a, oe4) :: (X.pn ++ pins))) [] σ6 H6 s6 →
                (∀ s7, Inv X pins (σ6.set i none) H6 s7 → Q s7) →
                wpAny (model X.prog X.w) X.A (do bindName X.env n .none; unbindBehindTheSuite X.env n p') (fun _ s7 => Q s7) X.xe s6 :=
              fun {σ6 H6 Q} S6 hq => gone_ok (S6.unsuite ok) hN hi hln hq
            cases f with
            | ret u =>
              obtain ⟨v6, σ6, H6, S6, r6, q6⟩ := hsp
              exact end_ S6 fun s7 J7 => ⟨_, _, _, J7, r6, q6⟩
            | _ =>
              obtain ⟨σ6, H6, S6, q6⟩ := hsp
              exact end_ S6 fun s7 J7 => ⟨_, _, J7, q6⟩
    exact go hh w
  · cases f with
    | next =>
      obtain ⟨σ', H', J', q⟩ := hsp
      exact wpAny_execs_nil ⟨σ', H', J'.ofTry ok, q⟩
    | ret u =>
      obtain ⟨v, σ', H', J', r, q⟩ := hsp
      exact ⟨v, σ', H', J'.ofTry ok, r, q⟩
    | _ =>
      obtain ⟨σ', H', J', q⟩ := hsp
      exact ⟨σ', H', J'.ofTry ok, q⟩
end
end Nb

/-! ### dict(t), t a tuple of pairs; sorted(d), d with whole numbers as keys -/
namespace L2
open PySem PySem.Spec PyProof.Rows
section
variable {X : Cx}
/-- a tuple without a dict of its own -/
def PlT (K : PySem.W.Frag) (H : Hp) (a : Addr) (zs : List V) : Prop := (∃ o : Obj, H a = some (.frz o (.tup zs)) ∧ o.dict = none) ∨ Nb.KTs K a zs
theorem PlT.at_ {pins : List (Addr × Obj)} {σ : L2.St} {H : Hp} {s : Shared} {a : Addr} {zs : List V} (I : Inv X pins σ H s) (h : PlT X.K H a zs) : ∃ us : List Value, Vals zs us ∧ PlainSeq "tuple" s.heap a us.toArray ∧ zs.length ≤ sizeLine := by
  rcases h with ⟨o, h, hd⟩ | ⟨o, us, n, hk, hd, hc, hs, hz, r⟩
  · obtain ⟨e, z, us, r, o', e', hc, n, hs⟩ := I.hok a _ h
    rw [e] at e'
    cases e'
    exact ⟨us, r, ⟨o, n, e, hc, hd, hs⟩, z⟩
  · refine ⟨us.toList, r, ⟨o, n, I.kIn a o hk, hc, hd, by simpa using hs⟩, ?_⟩
    rw [r.length, Array.length_toList]
    exact hz
theorem pairsZ {pins : List (Addr × Obj)} {σ : L2.St} {H : Hp} {s : Shared} (I : Inv X pins σ H s) : ∀ {ps : List Addr} {kvs : List (Key × V)}, Paired (fun p kv => SqT X.K H p [kV kv.1, kv.2]) ps kvs →
    ∃ (prs : List (Key × Value)) (uvs : List (Value × Value)), KV kvs prs ∧ prs.length = ps.length ∧ uvs.length = ps.length ∧ ∀ (j : Nat) (u x : Value), uvs[j]? = some (u, x) → ∃ (b : Addr) (k : Key), ps[j]? = some b ∧ IsTup s.heap b #[u, x] ∧ prs[j]? = some (k, x) ∧ keyIs k u = true
  | _, _, .nil => ⟨[], [], .nil, rfl, rfl, fun j u x e => by simp at e⟩
  | _, _, .cons (a := p) (b := kv) h t => by
    obtain ⟨prs, uvs, r, h1, h2, h3⟩ := pairsZ I t
    obtain ⟨us, rv, ht, _⟩ := I.tuple h
    obtain ⟨u, y, ei, ru, ry⟩ := vals2 rv
    subst ei
    refine ⟨(kv.1, y) :: prs, (u, y) :: uvs, .cons ⟨rfl, ry⟩ r, by simp [h1], by simp [h2], fun j u' x e => ?_⟩
    cases j with
    | zero =>
      have e' : (u, y) = (u', x) := Option.some.inj e
      cases e'
      exact ⟨p, kv.1, rfl, ht, rfl, kV_is (P := X.prog) (w := X.w) ru⟩
    | succ j =>
      obtain ⟨b, k, e1, e2, e3, e4⟩ := h3 j u' x (by simpa using e)
      exact ⟨b, k, by simpa using e1, e2, by simpa using e3, e4⟩
/-- dict(t) -/
theorem call_dictT (hcalm : X.calm = true) : CallR X (.type "dict") (fun xs H Q => ∃ (a : Addr) (ps : List Addr) (kvs : List (Key × V)), xs = [.ref a] ∧ PlT X.K H a (ps.map V.ref) ∧ Paired (fun p kv => SqT X.K H p [kV kv.1, kv.2]) ps kvs ∧
    ∀ p, H p = none → Q (.ref p) (upd H p (.dK (mergeK [] kvs)))) := by
  intro pins s σ H xs us Q I r q
  obtain ⟨a, ps, kvs, ex, hq, hp, q⟩ := q
  subst ex
  obtain ⟨u, eu, rx⟩ := vals1 r
  subst eu
  cases rx
  obtain ⟨ws, rv, pl, hz⟩ := PlT.at_ I hq
  have ei := refs_at rv
  subst ei
  rw [List.length_map] at hz
  obtain ⟨prs, uvs, rel, l1, l2, hpr⟩ := pairsZ I hp
  have items : PairItems s.heap (ps.map Value.ref).toArray (fun j => ps.getD j 0) uvs := by
    refine ⟨by simp [l2], fun j k v e => ?_⟩
    obtain ⟨b, k', e1, e2, _⟩ := hpr j k v e
    have e3 : ps.getD j 0 = b := by simp [List.getD, e1]
    show _ = some (Value.ref (ps.getD j 0)) ∧ PairAt s.heap (ps.getD j 0) k v
    rw [e3]
    exact ⟨by simp [e1], .inl e2⟩
  refine PySem.call_dict_pairs (knd := mixKind X.prog X.w) (kvs := prs) (PairArg.tuple a (ps.map Value.ref).toArray (fun j => ps.getD j 0) uvs) (I.ok.hd hcalm) ⟨pl, items⟩ ⟨by rw [l1, l2], fun j k v e => ?_⟩ (by rw [l2]; exact hz) fun h' tk hd' k => ?_
  · obtain ⟨b, k', _, _, e3, e4⟩ := hpr j k v e
    exact ⟨k', e3, e4⟩
  · have hlen : (mergeK [] kvs).length ≤ sizeLine := by
      have h1 := length_mergeK kvs []
      rw [List.length_nil, Nat.zero_add, rel.length, l1] at h1
      exact Nat.le_trans h1 hz
    exact ⟨.ref s.heap.objs.size, upd H s.heap.objs.size (.dK (mergeK [] kvs)), I.laid (t' := tk) (fun b o e => k b o (by simp) e) (Nat.le_refl _) ⟨hlen, beq_eq_false_iff_ne.mpr (Nat.ne_of_gt I.big), merged [] prs, KV.merge rel .nil, hd'⟩, rfl, q _ (I.hok.fresh (Nat.le_refl _))⟩
/-- sorted(d): any number of keys, all of them whole numbers -/
theorem call_sortedDN (hcalm : X.calm = true) : CallR X (.builtin "sorted") (fun xs H Q => ∃ (a : Addr) (kvs : List (Key × V)) (ks : List Int), xs = [.ref a] ∧ Rd H a (.dK kvs) ∧ kvs.map (·.1) = ks.map Sum.inl ∧
    ∀ (ys : List Int) (p : Addr), ys.Perm ks → ys.Pairwise (· ≤ ·) → H p = none → Q (.ref p) (upd H p (.lst (ys.map V.int)))) := by
  intro pins s σ H xs us Q I r q
  obtain ⟨a, kvs, ks, ex, hd, hks, q⟩ := q
  subst ex
  obtain ⟨u, eu, rx⟩ := vals1 r
  subst eu
  cases rx
  obtain ⟨z, lo, vs, rel, dd⟩ := dk_rd I.hok hd
  obtain ⟨ep, hat⟩ := dd.dictAt
  have hkeys : vs.map (·.1) = ks.map Sum.inl := rel.keys.symm.trans hks
  have hl : vs.length = ks.length := by simpa using congrArg List.length hkeys
  have hz : vs.length ≤ sizeLine := by rw [← rel.length]; exact z
  refine Calls.call_function_entry PyProof.Rows.kind_sorted PyProof.Rows.plain_sorted PyProof.Rows.entry_sorted (PyProof.Rows.args_sorted1 _) ?_
  unfold Builtin.«sorted»
  refine wpAny_bind (m := checkCount "sorted" 1 1 _) (wpAny_pure ?_)
  refine wpAny_bind (PySem.W.kdu_collect (A := X.A.in1) (PySem.W.kdl_dict (knd := mixKind X.prog X.w) (kvs := vs) (ep := ep) lo) (I.ok.hd hcalm) hat hz fun h' tk acc hk hacc => ?_)
  have hal : acc.toList.length = ks.length := by rw [Array.length_toList, hacc.1, hl]
  have hS : IntsAre acc.toList ks := ints_each hal fun j v e => by
    obtain ⟨k, x, e1, e2⟩ := hacc.2 j v (by rw [← Array.getElem?_toList]; exact e)
    have e3 : (vs.map (·.1))[j]? = some k := by rw [List.getElem?_map, e1]; rfl
    rw [hkeys, List.getElem?_map] at e3
    cases e4 : ks[j]? with
    | none => rw [e4] at e3; cases e3
    | some y =>
      rw [e4] at e3
      have e5 : Sum.inl y = k := Option.some.inj e3
      subst e5
      rcases keyIs_shape (show keyIs (Sum.inl y) v = true from e2) with ⟨i, t, ek, ev⟩ | ⟨i, t, ek, ev⟩
      · cases ek
        exact ⟨y, t, rfl, ev⟩
      · cases ek
  have I1 : Inv X pins σ H { s with heap := h', toks := tk } := I.kept hk
  have hzk : acc.toList.length ≤ sizeLine := by rw [hal, ← hl]; exact hz
  refine wpAny_bind (wpAny_newList ?_ hzk)
  have hoL : (h'.push (seqObj "list" acc.toList.toArray 0)).get? h'.objs.size = some (seqObj "list" acc.toList.toArray 0) := Heap.get?_push_size _ rfl
  show wpAny _ _ _ _ _ { s with heap := h'.push (seqObj "list" acc.toList.toArray 0), toks := tk }
  refine wpAny_bind (wpAny_holding (wpAny_call_entry PyProof.Rows.slot_list_sort ⟨_, hoL, rfl⟩ PyProof.Rows.entry_list_sort
    (SrtO.list_sort_ord (s := { s with heap := h'.push (seqObj "list" acc.toList.toArray 0), toks := tk }) SrtO.swo_int hoL hzk (fun h2 => SrtO.ints_sortable hS h2) fun out h1 h2 => ⟨.none, rfl, ?_⟩) (PyProof.Rows.args_list_sort _)))
  obtain ⟨g1, g2, g3⟩ := SrtO.ints_out hS h1 h2
  obtain ⟨e', he'⟩ := PyProof.Rows.sortedHeap_at (vs := acc.toList) (out := out.toArray) hoL
  have hlen : ((out.map SrtO.iv).map V.int).length ≤ sizeLine := by rw [List.length_map, g2.length_eq, ← hal]; exact hzk
  refine wpAny_pure ⟨_, rfl, .ref h'.objs.size, upd H h'.objs.size (.lst ((out.map SrtO.iv).map V.int)), I1.laid (t' := tk) (fun b u e => ?_) (Nat.le_refl _) ⟨hlen, out, e', vals_of_ints g1, he'⟩, rfl, q _ _ g2 g3 (I1.hok.fresh (Nat.le_refl _))⟩
  have hb : b < h'.objs.size := Heap.lt_size e
  rw [PyProof.Rows.sortedHeap_old (Nat.ne_of_lt hb) (by rw [size_push']; exact Nat.lt_succ_of_lt hb)]
  exact Heap.get?_push_of_some _ e
end
end L2

/-! ### tuple * 0, tuple * 1 -/
namespace L2
open PySem PySem.Spec PyProof.Rows
theorem tuple_mul1 (l : Addr) (items : Array Value) (n : Nat) (dd : Option Addr) (sl : Array (Option Value)) (u : Tok) :
    Meets (Builtin.«tuple.__mul__» ⟨[.ref l, .int 1 u], []⟩) (fun _ R s => s.heap.get? l = some { cls := .type "tuple", dict := dd, data := .seq items n, slots := sl } ∧ R (.ok (.ret (Value.ref l))) s) :=
  .of_wp fun prog w A R s h => by
    obtain ⟨hp, g, d, tk, os⟩ := s
    obtain ⟨hl, h⟩ := h
    have f1 := AutoSeq1.idx_int
    have c1 : (items.isEmpty || (1 : Int) == 1) = true := Bool.or_true _
    wp_walk using wpAny_loadPart' hl
    repeat (first
      | (refine wpAny_ite_true (decide_eq_true c1) ?_; wp_walk using wpAny_loadPart' hl)
      | (refine wpAny_ite_false (by decide) ?_; wp_walk using wpAny_loadPart' hl))
    exact ⟨_, rfl, h⟩
theorem tuple_mul0 (l : Addr) (items : Array Value) (n : Nat) (dd : Option Addr) (sl : Array (Option Value)) (u : Tok) (hi : items.isEmpty = false) :
    Meets (Builtin.«tuple.__mul__» ⟨[.ref l, .int 0 u], []⟩) (fun _ R s => s.heap.get? l = some { cls := .type "tuple", dict := dd, data := .seq items n, slots := sl } ∧
      R (.ok (.ret (Value.ref s.heap.objs.size))) { s with heap := s.heap.push { cls := Value.type "tuple", data := Data.seq #[] }, toks := s.toks }) :=
  .of_wp fun prog w A R s h => by
    obtain ⟨hp, g, d, tk, os⟩ := s
    obtain ⟨hl, h⟩ := h
    have f1 := AutoSeq1.idx_int
    have c1 : (items.isEmpty || (0 : Int) == 1) = false := by rw [hi]; rfl
    have c2 : (decide ((0 : Int) ≤ 0) || items.isEmpty) = true := Bool.true_or _
    wp_walk using wpAny_loadPart' hl
    repeat (first
      | (refine wpAny_ite_false (decide_eq_false (by rw [c1]; exact Bool.false_ne_true)) ?_; wp_walk using wpAny_loadPart' hl)
      | (refine wpAny_ite_true (decide_eq_true c2) ?_; wp_walk using wpAny_loadPart' hl)
      | (refine wpAny_ite_false (by decide) ?_; wp_walk using wpAny_loadPart' hl))
    exact ⟨_, rfl, h⟩
section
variable {X : Cx}
def rRepS (K : PySem.W.Frag) : R2 := fun x y H Q => ∃ l k xs, x = .ref l ∧ y = .int k ∧ SqT K H l xs ∧ xs ≠ [] ∧ ((k = 1 ∧ Q (.ref l) H) ∨ (k = 0 ∧ NewT H [] Q))
theorem op_repS : OpR X (binaryOp .Mult) (rRepS X.K) := by
  intro pins s σ H x y v u Q I rx ry h
  obtain ⟨l, k, xs, rfl, rfl, hT, hne, q⟩ := h
  cases rx
  obtain ⟨t, rfl⟩ := ry
  obtain ⟨its, r, ⟨⟨cls, dd, data, sl⟩, ho, hc, n, hd⟩, hs⟩ := I.tuple hT
  simp only at hc hd
  subst hc hd
  have hle : its.length = xs.length := r.length.symm
  have hn : its ≠ [] := fun e => hne (by
    rw [e] at hle
    exact List.eq_nil_of_length_eq_zero hle.symm)
  have hi : its.toArray.isEmpty = false := by
    cases its with
    | nil => exact absurd rfl hn
    | cons a b => rfl
  rcases q with ⟨rfl, q⟩ | ⟨rfl, q⟩
  · refine wpAny_binaryOp_repeat_ref (T := "tuple") (U := "int") (by decide) ⟨_, ho, rfl⟩ (fun s' => typeIs_int s' 1 t) noFill_tuple_mul F.fills_int_mul F.slot_int_rmul repeat_tuple F.slot_int_index.lookup
      (call_meets F.slot_int_rmul (typeIs_int s 1 t) F.entry_int_rmul (F.args_int_rmul_2 _ _) (int_rmul_tuple 1 t l its.toArray n dd sl)
        ⟨ho, rfl, ⟨_, ho, rfl⟩, call_meets F.slot_tuple_mul ⟨_, ho, rfl⟩ F.entry_tuple_mul (F.args_tuple_mul_2 _ _) (tuple_mul1 l its.toArray n dd sl t) ⟨ho, ?_⟩⟩)
    exact ⟨.ref l, _, I, rfl, q⟩
  · refine wpAny_binaryOp_repeat_ref (T := "tuple") (U := "int") (by decide) ⟨_, ho, rfl⟩ (fun s' => typeIs_int s' 0 t) noFill_tuple_mul F.fills_int_mul F.slot_int_rmul repeat_tuple F.slot_int_index.lookup
      (call_meets F.slot_int_rmul (typeIs_int s 0 t) F.entry_int_rmul (F.args_int_rmul_2 _ _) (int_rmul_tuple 0 t l its.toArray n dd sl)
        ⟨ho, rfl, ⟨_, ho, rfl⟩, call_meets F.slot_tuple_mul ⟨_, ho, rfl⟩ F.entry_tuple_mul (F.args_tuple_mul_2 _ _) (tuple_mul0 l its.toArray n dd sl t hi) ⟨ho, ?_⟩⟩)
    exact I.layT (us := []) .nil (Nat.zero_le _) q
def rRepZ (K : PySem.W.Frag) : R2 := fun x y H Q => ∃ l k as, x = .ref l ∧ y = .int k ∧ SqT K H l as ∧ as ≠ [] ∧ 2 ≤ k ∧ k ≤ 1000 ∧ as.length ≤ 1000 ∧ NewT H (List.replicate k.toNat as).flatten Q
theorem op_repZ : OpR X (binaryOp .Mult) (rRepZ X.K) := by
  intro pins s σ H x y v u Q I rx ry h
  obtain ⟨l, k, as, rfl, rfl, hT, hne, h1, h2, hz, q⟩ := h
  cases rx
  obtain ⟨t, rfl⟩ := ry
  obtain ⟨us, r, ⟨⟨cls, dd, data, sl⟩, ho, hc, n, hd⟩, hs⟩ := I.tuple hT
  simp only at hc hd
  subst hc hd
  have hle : us.length = as.length := r.length.symm
  have hi : us.toArray.isEmpty = false := by
    cases us with
    | nil => exact absurd (List.eq_nil_of_length_eq_zero hle.symm) hne
    | cons a b => rfl
  have e1 : us.toArray.size = as.length := by rw [List.size_toArray, hle]
  have e2 : ((us.toArray.size : Nat) : Int) * k ≤ 1000000 := by
    rw [e1]
    have a1 : ((as.length : Nat) : Int) * k ≤ 1000 * k := Int.mul_le_mul_of_nonneg_right (by omega) (by omega)
    omega
  have e3 : k.toNat * as.length ≤ 1000 * 1000 := Nat.mul_le_mul (by omega) hz
  have e4 : (List.replicate k.toNat us).flatten.length ≤ sizeLine := by rw [PyProof.Rows.lm_len_rep_flat, hle, sizeLine_eq]; omega
  have c0 : (decide (k < -(2 ^ 63)) || decide (k ≥ 2 ^ 63)) = false := by rw [decide_eq_false (by omega), decide_eq_false (by omega)] <;> rfl
  have c1 : (us.toArray.isEmpty || k == 1) = false := by rw [hi, Bool.false_or]; exact beq_eq_false_iff_ne.mpr (by omega)
  have c2 : (decide (k ≤ 0) || us.toArray.isEmpty) = false := by rw [hi, Bool.or_false]; exact decide_eq_false (by omega)
  have c4 : Builtin.Tuple.tupleTooMany (((us.toArray.size : Nat) : Int) * k) = false := by unfold Builtin.Tuple.tupleTooMany; rw [sizeLine_eq]; exact decide_eq_false (by omega)
  refine wpAny_binaryOp_repeat_ref (T := "tuple") (U := "int") (by decide) ⟨_, ho, rfl⟩ (fun s' => typeIs_int s' k t) noFill_tuple_mul F.fills_int_mul F.slot_int_rmul repeat_tuple F.slot_int_index.lookup
    (call_meets F.slot_int_rmul (typeIs_int s k t) F.entry_int_rmul (F.args_int_rmul_2 _ _) (int_rmul_tuple k t l us.toArray n dd sl)
      ⟨ho, rfl, ⟨_, ho, rfl⟩, call_meets F.slot_tuple_mul ⟨_, ho, rfl⟩ F.entry_tuple_mul (F.args_tuple_mul_2 _ _) (tuple_mulW l us.toArray n dd sl k t c0 c1 c2 (by omega) c4 (by rw [size_rep, List.size_toArray]; exact e4)) ⟨ho, ?_⟩⟩)
  rw [size_rep]
  exact I.layT (r.rep k.toNat) (by rw [PyProof.Rows.lm_len_rep_flat, sizeLine_eq]; omega) q
end
end L2

namespace Nb
open PySem L2 PySem.Spec

section
variable (K : PySem.W.Frag) (ff : Fx) (H : Hp) (μ : Vw)
/-- what is wanted behind a value, a truth, a list, an option, a new list -/
def pK (Q : VK) : Va → Sto → Prop := fun v S' => ∀ w H' μ', Ex H μ H' μ' → RS K ff H' μ' S' → RV K ff.f H' μ' v w → Q w H'
def pB (Q : Bool → Hp → Prop) : Bool → Sto → Prop := fun b S' => ∀ H' μ', Ex H μ H' μ' → RS K ff H' μ' S' → Q b H'
def pL (Q : List V → Hp → Prop) : List Va → Sto → Prop := fun l S' => ∀ ws H' μ', Ex H μ H' μ' → RS K ff H' μ' S' → RVL K ff.f H' μ' l ws → Q ws H'
def pO (Q : Option Int → Hp → Prop) : Option Int → Sto → Prop := fun o S' => ∀ H' μ', Ex H μ H' μ' → RS K ff H' μ' S' → Q o H'
def pF (Q : VK) : List Va → Sto → Prop := fun l S' => ∀ ws H' μ', Ex H μ H' μ' → RS K ff H' μ' S' → RVL K ff.f H' μ' l ws → l.length ≤ sizeLine → ∀ p, H' p = none → Q (.ref p) (upd H' p (.lst ws))
end
section
variable (K : PySem.W.Frag) (ff : Fx)
/-- readings made of the interpreter's functions -/
def tE (f : En → Sto → R Va) : TE := fun σ H Q => ∃ μ S η, RS K ff H μ S ∧ RE K ff.f H μ η σ ∧ (f η S).se ff.E (pK K ff H μ Q)
def tT (f : En → Sto → R Bool) : TT := fun σ H Q => ∃ μ S η, RS K ff H μ S ∧ RE K ff.f H μ η σ ∧ (f η S).se ff.E (pB K ff H μ Q)
def tL (f : En → Sto → R (List Va)) : L2.TA := fun σ H Q => ∃ μ S η, RS K ff H μ S ∧ RE K ff.f H μ η σ ∧ (f η S).se ff.E (pL K ff H μ Q)
def tO (f : En → Sto → R (Option Int)) : TO := fun σ H Q => ∃ μ S η, RS K ff H μ S ∧ RE K ff.f H μ η σ ∧ (f η S).se ff.E (pO K ff H μ Q)
def tF (f : En → Sto → R (List Va)) : TE := fun σ H Q => ∃ μ S η, RS K ff H μ S ∧ RE K ff.f H μ η σ ∧ (f η S).se ff.E (pF K ff H μ Q)
/-- by values -/
def rD2 (g : Va → Va → Sto → R Va) : R2 := fun vx vy H Q => ∃ μ S x y, RS K ff H μ S ∧ RV K ff.f H μ x vx ∧ RV K ff.f H μ y vy ∧ (g x y S).se ff.E (pK K ff H μ Q)
def rD1 (g : Va → Sto → R Va) : V → Hp → VK → Prop := fun vx H Q => ∃ μ S x, RS K ff H μ S ∧ RV K ff.f H μ x vx ∧ (g x S).se ff.E (pK K ff H μ Q)
def rDL (g : List Va → Sto → R Va) : List V → Hp → VK → Prop := fun vs H Q => ∃ μ S l, RS K ff H μ S ∧ RVL K ff.f H μ l vs ∧ (g l S).se ff.E (pK K ff H μ Q)
end
theorem PE.weak {X : Cx} {e : Expr} {t t' : TE} (h : PE X e t) (k : ∀ σ H Q, t' σ H Q → t σ H Q) : PE X e t' := ⟨fun pins s σ H Q I q => h.run pins s σ H Q I (k σ H Q q)⟩
theorem PT.weak {X : Cx} {e : Expr} {t t' : TT} (h : PT X e t) (k : ∀ σ H Q, t' σ H Q → t σ H Q) : PT X e t' := ⟨fun pins s σ H Q I q => h.run pins s σ H Q I (k σ H Q q)⟩
theorem PA.weak {X : Cx} {e : List Expr} {t t' : L2.TA} (h : PA X e t) (k : ∀ σ H Q, t' σ H Q → t σ H Q) : PA X e t' := ⟨fun pos pins s σ H Q I q => h.run pos pins s σ H Q I (k σ H Q q)⟩
theorem PS.weak {X : Cx} {e : Stmt} {t t' : TS} (h : PS X e t) (k : ∀ D σ H, t' D σ H → t D σ H) : PS X e t' := ⟨fun pins s σ H D I q => h.run pins s σ H D I (k D σ H q)⟩
theorem PSs.weak {X : Cx} {e : List Stmt} {t t' : TS} (h : PSs X e t) (k : ∀ D σ H, t' D σ H → t D σ H) : PSs X e t' := ⟨fun pins s σ H D I q => h.run pins s σ H D I (k D σ H q)⟩

section
variable {X : Cx} {ff : Fx}
theorem Rp.int_inv {K : PySem.W.Frag} {H : Hp} {μ : Vw} {i : Int} {v : V} (r : RV K ff.f H μ (.d (.int i)) v) : v = .int i := by
  cases r with | d r => cases r; rfl
theorem Rp.str_inv {K : PySem.W.Frag} {H : Hp} {μ : Vw} {i : Str} {v : V} (r : RV K ff.f H μ (.d (.str i)) v) : v = .str i := by
  cases r with | d r => cases r; rfl
theorem Rp.bl_inv {K : PySem.W.Frag} {H : Hp} {μ : Vw} {i : Bool} {v : V} (r : RV K ff.f H μ (.d (.bool i)) v) : v = .bl i := by
  cases r with | d r => cases r; rfl
theorem Rp.non_inv {K : PySem.W.Frag} {H : Hp} {μ : Vw} {v : V} (r : RV K ff.f H μ (.d .none) v) : v = .non := by
  cases r with | d r => cases r; rfl
theorem Rp.tup_inv {K : PySem.W.Frag} {H : Hp} {μ : Vw} {l : List PyData} {v : V} (r : RV K ff.f H μ (.d (.tuple l)) v) : ∃ a xs, v = .ref a ∧ TZ K H μ a xs ∧ RpL K H μ l xs ∧ l.length ≤ sizeLine := by
  cases r with | d r => cases r with | tup h t z => exact ⟨_, _, rfl, h, t, z⟩
theorem Rp.lst_inv {K : PySem.W.Frag} {H : Hp} {μ : Vw} {l : List PyData} {v : V} (r : RV K ff.f H μ (.d (.list l)) v) : ∃ a xs, v = .ref a ∧ LA K H μ a xs ∧ RpL K H μ l xs ∧ l.length ≤ sizeLine := by
  cases r with | d r => cases r with | lst h t z => exact ⟨_, _, rfl, h, t, z⟩
theorem RV.ref_inv {K : PySem.W.Frag} {H : Hp} {μ : Vw} {n : Nat} {v : V} (r : RV K ff.f H μ (.ref n) v) : ∃ a, v = .ref a ∧ μ.ad[n]? = some a := by
  cases r with | ref h => exact ⟨_, rfl, h⟩
theorem RV.tup_inv {K : PySem.W.Frag} {H : Hp} {μ : Vw} {l : List Va} {v : V} (r : RV K ff.f H μ (.tup l) v) : ∃ a xs, v = .ref a ∧ TA K H μ a xs ∧ RVL K ff.f H μ l xs ∧ l.length ≤ sizeLine := by
  cases r with | tup h t z => exact ⟨_, _, rfl, h, t, z⟩

/-! ### new tuples and lists -/
theorem pK.here {K : PySem.W.Frag} {H : Hp} {μ : Vw} {S : Sto} {Q : VK} {v : Va} {w : V} (rs : RS K ff H μ S) (h : pK K ff H μ Q v S) (r : RV K ff.f H μ v w) : Q w H := h w H μ (Ex.refl _ _) rs r
theorem pK.newTup {K : PySem.W.Frag} {H : Hp} {μ : Vw} {S : Sto} {Q : VK} {ds : List PyData} {xs : List V} (rs : RS K ff H μ S) (h : pK K ff H μ Q (.d (.tuple ds)) S) (r : RpL K H μ ds xs) (hz : ds.length ≤ sizeLine) :
    NewT H xs Q := fun p o hp hd =>
  h _ _ (μ.add p) (Ex.new1 hp) (rs.new1 hp) (.d (.tup (.inl ⟨o, upd_same, hd, rs.fresh hp, .inr rfl⟩) (r.mono (Ex.new1 hp)) hz))
theorem pK.newLst {K : PySem.W.Frag} {H : Hp} {μ : Vw} {S : Sto} {Q : VK} {ds : List PyData} {xs : List V} (rs : RS K ff H μ S) (h : pK K ff H μ Q (.d (.list ds)) S) (r : RpL K H μ ds xs) (hz : ds.length ≤ sizeLine) :
    ∀ p, H p = none → Q (.ref p) (upd H p (.lst xs)) := fun p hp =>
  h _ _ (μ.add p) (Ex.new1 hp) (rs.new1 hp) (.d (.lst (.inl ⟨.inl upd_same, rs.fresh hp, .inr rfl⟩) (r.mono (Ex.new1 hp)) hz))

/-! ### list + list, wherever they stand -/
/-- a list as its very object -/
def Ls (K : PySem.W.Frag) (H : Hp) (a : Addr) (xs : List V) : Prop := Rd H a (.lst xs) ∨ KL K a xs
theorem Ls.ob {pins : List (Addr × Obj)} {σ : L2.St} {H : Hp} {s : Shared} {a : Addr} {xs : List V} (I : L2.Inv X pins σ H s) (h : Ls X.K H a xs) : xs.length ≤ sizeLine ∧ ∃ (its : List Value) (n : Nat), Vals xs its ∧ s.heap.get? a = some { cls := .type "list", data := .seq its.toArray n } := by
  rcases h with h | ⟨its, n, h1, h2, h3⟩
  · exact h.ok I.hok
  · exact ⟨by rw [h3.length]; exact h2, its, n, h3, I.kIn _ _ h1⟩
theorem Ls.sq {K : PySem.W.Frag} {H : Hp} {a : Addr} {xs : List V} (h : Ls K H a xs) : SqL K H a xs := by
  rcases h with h | ⟨its, n, h1, h2, h3⟩
  · exact .inl h
  · exact .inr ⟨_, its.toArray, n, h1, rfl, rfl, rfl, by simpa using h2, by simpa using h3⟩
def rCatL (K : PySem.W.Frag) : R2 := fun x y H Q => ∃ l b xs zs, x = .ref l ∧ y = .ref b ∧ Ls K H l xs ∧ Ls K H b zs ∧ xs.length + zs.length ≤ sizeLine ∧ ∀ p, H p = none → Q (.ref p) (upd H p (.lst (xs ++ zs)))
theorem op_catL : OpR X (binaryOp .Add) (rCatL X.K) := by
  intro pins s σ H x y v u Q I rx ry h
  obtain ⟨l, b, xs, zs, rfl, rfl, hH, hB, hz, q⟩ := h
  cases rx
  cases ry
  obtain ⟨z, its, n, r, e⟩ := hH.ob I
  obtain ⟨z2, its2, n2, r2, e2⟩ := hB.ob I
  have hl := r.length
  have hl2 := r2.length
  refine PySem.P.add_list e e2 ?_ (by rw [List.size_toArray, List.size_toArray]; omega)
  have ea : its.toArray ++ its2.toArray = (its ++ its2).toArray := by simp
  rw [ea]
  exact ⟨.ref _, _, I.lnew (t' := s.toks) (r.append r2) (by rw [List.length_append]; omega), rfl, q _ I.fresh⟩
theorem LA.rd {K : PySem.W.Frag} {H : Hp} {μ : Vw} {a : Addr} {xs : List V} (h : LA K H μ a xs) : Ls K H a xs := h.imp (fun q => q.1) id

/-! ### the binary operators -/
theorem opd_add : OpR X (binaryOp .Add) (rD2 X.K ff (binV .add)) := by
  intro pins s σ H vx vy v u Q I rx ry h
  obtain ⟨μ, S, x, y, rs, r1, r2, q⟩ := h
  unfold binV at q
  split at q <;> first | (exact q.elim) | skip
  all_goals (rename_i e; first | cases e | skip)
  · obtain rfl := Rp.int_inv r1
    obtain rfl := Rp.int_inv r2
    exact op_add pins s σ H _ _ v u Q I rx ry ⟨_, _, rfl, rfl, q.here rs (.d (.int _))⟩
  · split at q
    · obtain rfl := Rp.str_inv r1
      obtain rfl := Rp.str_inv r2
      exact op_add_str pins s σ H _ _ v u Q I rx ry ⟨_, _, rfl, rfl, by assumption, q.here rs (.d (.str _))⟩
    · exact q.elim
  · split at q
    · rename_i hz
      obtain ⟨a, xs', rfl, ta, ra, za⟩ := Rp.tup_inv r1
      obtain ⟨b, ys', rfl, tb, rb, zb⟩ := Rp.tup_inv r2
      have l1 := ra.length
      have l2 := rb.length
      refine op_catZ pins s σ H _ _ v u Q I rx ry ⟨a, b, xs', ys', rfl, rfl, ta.sq, tb.sq, by omega, fun z => ?_, fun _ z => ?_, fun _ _ => q.newTup rs (ra.append rb) (by rw [List.length_append]; exact hz)⟩
      · subst z
        have : (_ : List PyData) = [] := List.length_eq_zero_iff.mp (by rw [l1]; rfl)
        subst this
        exact q.here rs (.d (.tup tb rb zb))
      · subst z
        have : (_ : List PyData) = [] := List.length_eq_zero_iff.mp (by rw [l2]; rfl)
        subst this
        rw [List.append_nil] at q
        exact q.here rs (.d (.tup ta ra za))
    · exact q.elim
  · split at q
    · rename_i hz
      obtain ⟨a, xs', rfl, ta, ra, za⟩ := Rp.lst_inv r1
      obtain ⟨b, ys', rfl, tb, rb, zb⟩ := Rp.lst_inv r2
      have l1 := ra.length
      have l2 := rb.length
      exact op_catL pins s σ H _ _ v u Q I rx ry ⟨a, b, xs', ys', rfl, rfl, ta.rd, tb.rd, by omega, q.newLst rs (ra.append rb) (by rw [List.length_append]; exact hz)⟩
    · exact q.elim
theorem opd_sub : OpR X (binaryOp .Sub) (rD2 X.K ff (binV .sub)) := by
  intro pins s σ H vx vy v u Q I rx ry h
  obtain ⟨μ, S, x, y, rs, r1, r2, q⟩ := h
  unfold binV at q
  split at q <;> first | (exact q.elim) | skip
  all_goals (rename_i e; first | cases e | skip)
  obtain rfl := Rp.int_inv r1
  obtain rfl := Rp.int_inv r2
  exact op_sub pins s σ H _ _ v u Q I rx ry ⟨_, _, rfl, rfl, q.here rs (.d (.int _))⟩
theorem small64_of {i : Int} (h : small64 i = true) : -(2 ^ 64) < i ∧ i < 2 ^ 64 := by
  unfold small64 at h
  simpa using h
theorem long_no {n : Nat} (h : n ≤ 100 * 100000) : Builtin.Str.tooLong n = false := decide_eq_false (by have e : sizeLine = 16777216 := rfl; omega)
theorem rpl_rep {K : PySem.W.Frag} {H : Hp} {μ : Vw} {l : List PyData} {ws : List V} (t : RpL K H μ l ws) : ∀ k : Nat, RpL K H μ (List.replicate k l).flatten (List.replicate k ws).flatten
  | 0 => by rw [List.replicate_zero, List.replicate_zero]; exact .nil
  | k + 1 => by
    rw [List.replicate_succ, List.replicate_succ, List.flatten_cons, List.flatten_cons]
    exact t.append (rpl_rep t k)
theorem opd_mul : OpR X (binaryOp .Mult) (rD2 X.K ff (binV .mul)) := by
  intro pins s σ H vx vy v u Q I rx ry h
  obtain ⟨μ, S, x, y, rs, r1, r2, q⟩ := h
  unfold binV at q
  split at q <;> first | (exact q.elim) | skip
  all_goals (rename_i e; first | cases e | skip)
  · split at q
    · rename_i hz
      obtain rfl := Rp.int_inv r1
      obtain rfl := Rp.int_inv r2
      refine op_mul pins s σ H _ _ v u Q I rx ry ⟨_, _, rfl, rfl, ?_, q.here rs (.d (.int _))⟩
      rcases Bool.or_eq_true_iff.mp hz with z | z
      · exact .inl (small64_of z)
      · exact .inr (small64_of z)
    · exact q.elim
  · split at q
    · rename_i x n hz
      simp only [Bool.and_eq_true, decide_eq_true_eq] at hz
      obtain ⟨⟨⟨h1, h2⟩, h3⟩, h4⟩ := hz
      obtain rfl := Rp.str_inv r1
      obtain rfl := Rp.int_inv r2
      obtain ⟨t, rfl⟩ := rx
      obtain ⟨t2, rfl⟩ := ry
      have n1 : (n == 1 || x.length == 0) = false := by
        rw [Bool.or_eq_false_iff]
        exact ⟨beq_eq_false_iff_ne.mpr (by omega), beq_eq_false_iff_ne.mpr (by omega)⟩
      have hlen : x.length * n.toNat ≤ 100 * 100000 := Nat.mul_le_mul h4 (by omega)
      refine PySem.P.mul_str (by rw [Bool.or_eq_false_iff]; exact ⟨decide_eq_false (by omega), decide_eq_false (by omega)⟩) (fun _ _ => ?_) (fun _ _ => ?_) ?_
      · have : (100 : Int) ≤ (2 ^ 63 - 1) / n := (Int.le_ediv_iff_mul_le (by omega)).mpr (by omega)
        omega
      · exact long_no hlen
      · rw [if_neg (by omega), if_neg (by rw [n1]; exact Bool.false_ne_true)]
        exact ⟨PySem.fits_reps (long_no hlen), ⟨.str _, H, I.tok _, ⟨_, rfl⟩, q.here rs (.d (.str _))⟩⟩
    · exact q.elim
  · split at q
    · rename_i l n hz
      simp only [Bool.and_eq_true, decide_eq_true_eq] at hz
      obtain ⟨⟨⟨h1, h2⟩, h3⟩, h4⟩ := hz
      obtain ⟨a, xs', rfl, ta, ra, za⟩ := Rp.tup_inv r1
      obtain rfl := Rp.int_inv r2
      have l1 := ra.length
      have hne : xs' ≠ [] := fun e => by rw [e] at l1; rw [l1] at h3; exact absurd h3 (by decide)
      by_cases k2 : 2 ≤ n
      · refine op_repZ pins s σ H _ _ v u Q I rx ry ⟨a, n, xs', rfl, rfl, ta.sq, hne, k2, h2, by omega, q.newTup rs (rpl_rep ra n.toNat) ?_⟩
        rw [PyProof.Rows.lm_len_rep_flat]
        have a1 : n.toNat * l.length ≤ 1000 * 1000 := Nat.mul_le_mul (by omega) h4
        have : sizeLine = 16777216 := rfl
        omega
      · rcases (show n = 1 ∨ n = 0 by omega) with rfl | rfl
        · refine op_repS pins s σ H _ _ v u Q I rx ry ⟨a, _, xs', rfl, rfl, ta.sq, hne, .inl ⟨rfl, ?_⟩⟩
          have e : (List.replicate (1 : Int).toNat l).flatten = l := by simp
          rw [e] at q
          exact q.here rs (.d (.tup ta ra za))
        · refine op_repS pins s σ H _ _ v u Q I rx ry ⟨a, _, xs', rfl, rfl, ta.sq, hne, .inr ⟨rfl, ?_⟩⟩
          exact q.newTup rs .nil (Nat.zero_le _)
    · exact q.elim
/-- // by anything but 0 -/
theorem op_fdivZ {X : Cx} : OpR X (binaryOp .FloorDiv) (rI (fun _ j => j ≠ 0 ∧ j.natAbs.log2 < 9000) fun i j => .int (i.fdiv j)) := opI fun _ _ _ _ _ _ _ hc q => PyProof.Rows.floordiv_int hc.1 q (.inl (PyProof.noPylong_of_log2 hc.2))
theorem opd_fdiv : OpR X (binaryOp .FloorDiv) (rD2 X.K ff (binV .fdiv)) := by
  intro pins s σ H vx vy v u Q I rx ry h
  obtain ⟨μ, S, x, y, rs, r1, r2, q⟩ := h
  unfold binV at q
  split at q <;> first | (exact q.elim) | skip
  all_goals (rename_i e; first | cases e | skip)
  split at q
  · rename_i hz
    obtain rfl := Rp.int_inv r1
    obtain rfl := Rp.int_inv r2
    refine op_fdiv pins s σ H _ _ v u Q I rx ry ⟨_, _, rfl, rfl, ?_, q.here rs (.d (.int _))⟩
    simpa [CDiv] using hz
  · split at q
    · rename_i hz
      obtain rfl := Rp.int_inv r1
      obtain rfl := Rp.int_inv r2
      simp only [Bool.and_eq_true, decide_eq_true_eq] at hz
      exact op_fdivZ pins s σ H _ _ v u Q I rx ry ⟨_, _, rfl, rfl, hz, q.here rs (.d (.int _))⟩
    · exact q.elim
theorem opd_mod : OpR X (binaryOp .Mod) (rD2 X.K ff (binV .mod)) := by
  intro pins s σ H vx vy v u Q I rx ry h
  obtain ⟨μ, S, x, y, rs, r1, r2, q⟩ := h
  unfold binV at q
  split at q <;> first | (exact q.elim) | skip
  all_goals (rename_i e; first | cases e | skip)
  split at q
  · rename_i hz
    obtain rfl := Rp.int_inv r1
    obtain rfl := Rp.int_inv r2
    refine op_mod pins s σ H _ _ v u Q I rx ry ⟨_, _, rfl, rfl, ?_, q.here rs (.d (.int _))⟩
    simpa using hz
  · exact q.elim
theorem opd_pow : OpR X (binaryOp .Pow) (rD2 X.K ff (binV .pow)) := by
  intro pins s σ H vx vy v u Q I rx ry h
  obtain ⟨μ, S, x, y, rs, r1, r2, q⟩ := h
  unfold binV at q
  split at q <;> first | (exact q.elim) | skip
  all_goals (rename_i e; first | cases e | skip)
  split at q
  · rename_i hz
    obtain rfl := Rp.int_inv r1
    obtain rfl := Rp.int_inv r2
    refine op_pow pins s σ H _ _ v u Q I rx ry ⟨_, _, rfl, rfl, ?_, q.here rs (.d (.int _))⟩
    simp only [Bool.and_eq_true, decide_eq_true_eq] at hz
    exact ⟨hz.1.1, hz.1.2, hz.2⟩
  · exact q.elim
end
end Nb

namespace Nb
open PySem L2 PySem.Spec PyProof.Rows
/-- what the module's dicts hold -/
structure GdOk (K : PySem.W.Frag) (w : World) (f : Gx → V → Prop) : Prop where
  dct : ∀ l v, f (.dct l) v → ∃ a es n, v = .ref a ∧ KDict K w a es n ∧ (∀ z, lookG l z = none → PySem.W.nsIn K a z = some none) ∧ ∀ z g, lookG l z = some g → ∃ u v0, PySem.W.nsIn K a z = some (some u) ∧ RelV v0 u ∧ ∀ H μ, RV K f H μ (vaG g) v0
section
variable {X : Cx} {ff : Fx}
section
variable {X : Cx} {d e : PyData} {pins : List (Addr × Obj)} {s : Shared} {σ : L2.St} {H : Hp} {x y : V} {v u : Value} {Q : VK}
theorem op_eqP (hu : X.A.units + 64 < cLine) (I : Inv X pins σ H s) (rx : RelV x v) (ry : RelV y u) (hd : Dp X.K H x d) (he : Dp X.K H y e) (sd : eqOk d = true) (se : eqOk e = true) (q : Q (.bl (PyData.eqv d e)) H) :
    wpAny (model X.prog X.w) X.A (compareOp .Eq v u) (EP X pins σ Q) X.xe s := by
  obtain ⟨as, r1⟩ := Dp.reads I d x v hd rx
  obtain ⟨bs, r2⟩ := Dp.reads I e y u he ry
  have sd := Bool.and_eq_true_iff.mp sd
  have d1 := of_decide_eq_true sd.2
  exact PySem.SeqAt.eq_plain r1 r2 sd.1 (Bool.and_eq_true_iff.mp se).1 (by omega) ⟨.bl _, H, I, rfl, q⟩
theorem op_neP (hu : X.A.units + 64 < cLine) (I : Inv X pins σ H s) (rx : RelV x v) (ry : RelV y u) (hd : Dp X.K H x d) (he : Dp X.K H y e) (sd : eqOk d = true) (se : eqOk e = true) (q : Q (.bl (!PyData.eqv d e)) H) :
    wpAny (model X.prog X.w) X.A (compareOp .NotEq v u) (EP X pins σ Q) X.xe s := by
  obtain ⟨as, r1⟩ := Dp.reads I d x v hd rx
  obtain ⟨bs, r2⟩ := Dp.reads I e y u he ry
  have sd := Bool.and_eq_true_iff.mp sd
  have d1 := of_decide_eq_true sd.2
  exact PySem.SeqAt.ne_plain r1 r2 sd.1 (Bool.and_eq_true_iff.mp se).1 (by omega) ⟨.bl _, H, I, rfl, q⟩
end
def cmpVa (op : Co) (x y : Va) (S : Sto) : R Va := (cmpV op x y S).bind fun r S => .ok (.d (.bool r)) S
theorem RS.lst {K : PySem.W.Frag} {H : Hp} {μ : Vw} {S : Sto} (r : RS K ff H μ S) {n : Nat} {a : Addr} {l : List Va} (h : μ.ad[n]? = some a) (e : S[n]? = some (.lst l)) : ∃ vs, H a = some (.lst vs) ∧ RVL K ff.f H μ l vs := r.at_ n a _ h e
theorem isE_vals {xs : List V} {its : List Value} (h : Vals xs its) : its.isEmpty = xs.isEmpty := by cases h <;> rfl
theorem isE_rp {K : PySem.W.Frag} {H : Hp} {μ : Vw} {ds : List PyData} {xs : List V} (h : RpL K H μ ds xs) : xs.isEmpty = ds.isEmpty := by cases h <;> rfl
section
variable {pins : List (Addr × Obj)} {s : Shared} {σ : L2.St} {H : Hp} {a b : Addr} {xs : List V} {Q : VK}
theorem eqE_tup (hu : X.A.units < cLine) (I : Inv X pins σ H s) (h1 : SqT X.K H a xs) (h2 : SqT X.K H b []) (q : Q (.bl xs.isEmpty) H) : wpAny (model X.prog X.w) X.A (compareOp .Eq (.ref a) (.ref b)) (EP X pins σ Q) X.xe s := by
  obtain ⟨its, r1, p1, _⟩ := I.tuple h1
  obtain ⟨its2, r2, p2, _⟩ := I.tuple h2
  cases r2
  have := PySem.SeqAt.eq_tupleAt (prog := X.prog) (w := X.w) (E := X.xe) (Q := EP X pins σ Q) (e := fun _ => true) p1 p2 hu (fun j _ h => absurd h (by simp)) ?_
  · exact this
  · refine ⟨.bl xs.isEmpty, H, I, ?_, q⟩
    rw [← isE_vals r1]
    cases its <;> rfl
theorem neE_tup (hu : X.A.units < cLine) (I : Inv X pins σ H s) (h1 : SqT X.K H a xs) (h2 : SqT X.K H b []) (q : Q (.bl (!xs.isEmpty)) H) : wpAny (model X.prog X.w) X.A (compareOp .NotEq (.ref a) (.ref b)) (EP X pins σ Q) X.xe s := by
  obtain ⟨its, r1, p1, _⟩ := I.tuple h1
  obtain ⟨its2, r2, p2, _⟩ := I.tuple h2
  cases r2
  have := PySem.SeqAt.RcNeAt.tuples (A := X.A) (s := s) (e := fun _ => true) p1 p2 hu (fun j _ h => absurd h (by simp)) X.prog X.w X.xe (EP X pins σ Q) ?_
  · exact this
  · refine ⟨.bl (!xs.isEmpty), H, I, ?_, q⟩
    rw [← isE_vals r1]
    cases its <;> rfl
theorem eqE_lst (hu : X.A.units < cLine) (I : Inv X pins σ H s) (h1 : SqL X.K H a xs) (h2 : SqL X.K H b []) (q : Q (.bl xs.isEmpty) H) : wpAny (model X.prog X.w) X.A (compareOp .Eq (.ref a) (.ref b)) (EP X pins σ Q) X.xe s := by
  obtain ⟨its, r1, p1, _⟩ := I.list h1
  obtain ⟨its2, r2, p2, _⟩ := I.list h2
  cases r2
  cases its with
  | nil =>
    have e := isE_vals r1
    refine PySem.SeqAt.eq_listAt (e := fun _ => true) p1.isList p2.isList rfl hu (fun j _ h => absurd h (by simp)) ⟨.bl xs.isEmpty, H, I, ?_, q⟩
    rw [← e]; rfl
  | cons y r =>
    have e := isE_vals r1
    refine PySem.SeqAt.eq_list_lengthsAt p1.isList p2.isList (by simp) hu ⟨.bl xs.isEmpty, H, I, ?_, q⟩
    rw [← e]; rfl
theorem neE_lst (hu : X.A.units < cLine) (I : Inv X pins σ H s) (h1 : SqL X.K H a xs) (h2 : SqL X.K H b []) (q : Q (.bl (!xs.isEmpty)) H) : wpAny (model X.prog X.w) X.A (compareOp .NotEq (.ref a) (.ref b)) (EP X pins σ Q) X.xe s := by
  obtain ⟨its, r1, p1, _⟩ := I.list h1
  obtain ⟨its2, r2, p2, _⟩ := I.list h2
  cases r2
  cases its with
  | nil =>
    have e := isE_vals r1
    refine PySem.SeqAt.RcNeAt.lists (A := X.A) (s := s) (e := fun _ => true) p1.isList p2.isList rfl hu (fun j _ h => absurd h (by simp)) X.prog X.w X.xe (EP X pins σ Q) ⟨.bl (!xs.isEmpty), H, I, ?_, q⟩
    rw [← e]; rfl
  | cons y r =>
    have e := isE_vals r1
    refine PySem.SeqAt.RcNeAt.lists_lengths (A := X.A) (s := s) p1.isList p2.isList (by simp) hu X.prog X.w X.xe (EP X pins σ Q) ⟨.bl (!xs.isEmpty), H, I, ?_, q⟩
    rw [← e]; rfl
end
/-! ### comparisons -/
theorem opd_eq (hu : X.A.units + 64 < cLine) : OpR X (compareOp .Eq) (rD2 X.K ff (cmpVa .eq)) := by
  intro pins s σ H vx vy v u Q I rx ry h
  obtain ⟨μ, S, x, y, rs, r1, r2, q⟩ := h
  unfold cmpVa cmpV at q
  split at q <;> first | (exact q.elim) | skip
  all_goals (rename_i e; first | cases e | skip)
  · split at q
    · rename_i hz
      cases r1 with
      | d r1 =>
        cases r2 with
        | d r2 =>
          have hz := Bool.and_eq_true_iff.mp hz
          exact op_eqP hu I rx ry (r1.dp (Bool.and_eq_true_iff.mp hz.1).1) (r2.dp (Bool.and_eq_true_iff.mp hz.2).1) hz.1 hz.2 (pK.here rs q (.d (.bl _)))
    · unfold eqE' at q
      split at q
      · rename_i b hb
        unfold eqE at hb
        split at hb
        · cases hb
          obtain ⟨a, xs, rfl, ta, t, _⟩ := Rp.tup_inv r1
          obtain ⟨b, ys, rfl, tb, t', _⟩ := Rp.tup_inv r2
          cases t'
          cases rx
          cases ry
          have q2 := isE_rp t
          exact eqE_tup (by omega) I ta.sq tb.sq (by rw [q2]; exact pK.here rs q (.d (.bl _)))
        · cases hb
          obtain ⟨a, xs, rfl, ta, t, _⟩ := Rp.lst_inv r1
          obtain ⟨b, ys, rfl, tb, t', _⟩ := Rp.lst_inv r2
          cases t'
          cases rx
          cases ry
          have q2 := isE_rp t
          exact eqE_lst (by omega) I ta.sq tb.sq (by rw [q2]; exact pK.here rs q (.d (.bl _)))
        · cases hb
      · exact q.elim
  · split at q
    · rename_i l hS
      obtain ⟨a, rfl, ha⟩ := RV.ref_inv r1
      obtain ⟨xs, h1, t1⟩ := rs.lst ha hS
      obtain ⟨b, ys, rfl, tb, t', _⟩ := Rp.lst_inv r2
      cases t'
      cases rx
      cases ry
      have q2 : xs.isEmpty = l.isEmpty := by cases t1 <;> rfl
      exact eqE_lst (by omega) I (SqL.of h1) tb.sq (by rw [q2]; exact pK.here rs q (.d (.bl _)))
    · exact q.elim
theorem opd_ne (hu : X.A.units + 64 < cLine) : OpR X (compareOp .NotEq) (rD2 X.K ff (cmpVa .ne)) := by
  intro pins s σ H vx vy v u Q I rx ry h
  obtain ⟨μ, S, x, y, rs, r1, r2, q⟩ := h
  unfold cmpVa cmpV at q
  split at q <;> first | (exact q.elim) | skip
  all_goals (rename_i e; first | cases e | skip)
  · split at q
    · rename_i hz
      cases r1 with
      | d r1 =>
        cases r2 with
        | d r2 =>
          have hz := Bool.and_eq_true_iff.mp hz
          exact op_neP hu I rx ry (r1.dp (Bool.and_eq_true_iff.mp hz.1).1) (r2.dp (Bool.and_eq_true_iff.mp hz.2).1) hz.1 hz.2 (pK.here rs q (.d (.bl _)))
    · unfold neE' at q
      split at q
      · rename_i b hb
        unfold eqE at hb
        split at hb
        · cases hb
          obtain ⟨a, xs, rfl, ta, t, _⟩ := Rp.tup_inv r1
          obtain ⟨b, ys, rfl, tb, t', _⟩ := Rp.tup_inv r2
          cases t'
          cases rx
          cases ry
          have q2 := isE_rp t
          exact neE_tup (by omega) I ta.sq tb.sq (by rw [q2]; exact pK.here rs q (.d (.bl _)))
        · cases hb
          obtain ⟨a, xs, rfl, ta, t, _⟩ := Rp.lst_inv r1
          obtain ⟨b, ys, rfl, tb, t', _⟩ := Rp.lst_inv r2
          cases t'
          cases rx
          cases ry
          have q2 := isE_rp t
          exact neE_lst (by omega) I ta.sq tb.sq (by rw [q2]; exact pK.here rs q (.d (.bl _)))
        · cases hb
      · exact q.elim
  · split at q
    · rename_i l hS
      obtain ⟨a, rfl, ha⟩ := RV.ref_inv r1
      obtain ⟨xs, h1, t1⟩ := rs.lst ha hS
      obtain ⟨b, ys, rfl, tb, t', _⟩ := Rp.lst_inv r2
      cases t'
      cases rx
      cases ry
      have q2 : xs.isEmpty = l.isEmpty := by cases t1 <;> rfl
      exact neE_lst (by omega) I (SqL.of h1) tb.sq (by rw [q2]; exact pK.here rs q (.d (.bl _)))
    · exact q.elim
theorem opd_lt : OpR X (compareOp .Lt) (rD2 X.K ff (cmpVa .lt)) := by
  intro pins s σ H vx vy v u Q I rx ry h
  obtain ⟨μ, S, x, y, rs, r1, r2, q⟩ := h
  unfold cmpVa cmpV at q
  split at q <;> first | (exact q.elim) | skip
  all_goals (rename_i e; first | cases e | skip)
  · obtain rfl := Rp.int_inv r1
    obtain rfl := Rp.int_inv r2
    exact op_lt pins s σ H _ _ v u Q I rx ry ⟨_, _, rfl, rfl, pK.here rs q (.d (.bl _))⟩
  · obtain rfl := Rp.str_inv r1
    obtain rfl := Rp.str_inv r2
    exact op_lt_str pins s σ H _ _ v u Q I rx ry ⟨_, _, rfl, rfl, pK.here rs q (.d (.bl _))⟩
theorem opd_le : OpR X (compareOp .LtE) (rD2 X.K ff (cmpVa .le)) := by
  intro pins s σ H vx vy v u Q I rx ry h
  obtain ⟨μ, S, x, y, rs, r1, r2, q⟩ := h
  unfold cmpVa cmpV at q
  split at q <;> first | (exact q.elim) | skip
  all_goals (rename_i e; first | cases e | skip)
  · obtain rfl := Rp.int_inv r1
    obtain rfl := Rp.int_inv r2
    exact op_le pins s σ H _ _ v u Q I rx ry ⟨_, _, rfl, rfl, pK.here rs q (.d (.bl _))⟩
  · obtain rfl := Rp.str_inv r1
    obtain rfl := Rp.str_inv r2
    exact op_le_str pins s σ H _ _ v u Q I rx ry ⟨_, _, rfl, rfl, pK.here rs q (.d (.bl _))⟩
theorem opd_gt : OpR X (compareOp .Gt) (rD2 X.K ff (cmpVa .gt)) := by
  intro pins s σ H vx vy v u Q I rx ry h
  obtain ⟨μ, S, x, y, rs, r1, r2, q⟩ := h
  unfold cmpVa cmpV at q
  split at q <;> first | (exact q.elim) | skip
  all_goals (rename_i e; first | cases e | skip)
  · obtain rfl := Rp.int_inv r1
    obtain rfl := Rp.int_inv r2
    exact op_gt pins s σ H _ _ v u Q I rx ry ⟨_, _, rfl, rfl, pK.here rs q (.d (.bl _))⟩
  · obtain rfl := Rp.str_inv r1
    obtain rfl := Rp.str_inv r2
    exact op_gt_str pins s σ H _ _ v u Q I rx ry ⟨_, _, rfl, rfl, pK.here rs q (.d (.bl _))⟩
def rGeT (K : PySem.W.Frag) : R2 := fun x y H Q => ∃ (a b : Addr) (ns ms : List Int), x = .ref a ∧ y = .ref b ∧ SqT K H a (ns.map V.int) ∧ SqT K H b (ms.map V.int) ∧
  Q (.bl (Ob.lexAt (fun j => decide (ns.getD j 0 = ms.getD j 0)) (fun j => decide (ms.getD j 0 ≤ ns.getD j 0)) (decide (ns.length ≥ ms.length)) 0 (min ns.length ms.length))) H
theorem op_geT {X : Cx} (hu : X.A.units < cLine) : OpR X (compareOp .GtE) (rGeT X.K) := by
  intro pins s σ H x y v u Q I rx ry h
  obtain ⟨a, b, ns, ms, rfl, rfl, ha, hb, q⟩ := h
  cases rx
  cases ry
  obtain ⟨its, r1, p1, _⟩ := I.tuple ha
  obtain ⟨its2, r2, p2, _⟩ := I.tuple hb
  have i1 : IntsAre its ns := Vals.ints r1
  have i2 : IntsAre its2 ms := Vals.ints r2
  have e1 : its.toArray.size = ns.length := by rw [List.size_toArray]; exact i1.length
  have e2 : its2.toArray.size = ms.length := by rw [List.size_toArray]; exact i2.length
  have at1 : ∀ j (h1 : j < its.toArray.size), ∃ t, its.toArray[j] = .int (ns.getD j 0) t := fun j h1 => PyProof.Rows.IntsAre.int_at i1 _ _ (by simp at h1; simp [h1])
  have at2 : ∀ j (h1 : j < its2.toArray.size), ∃ t, its2.toArray[j] = .int (ms.getD j 0) t := fun j h1 => PyProof.Rows.IntsAre.int_at i2 _ _ (by simp at h1; simp [h1])
  have R := Ob.RcOp.tuples_ge (A := X.A) (s := s) (e := fun j => decide (ns.getD j 0 = ms.getD j 0)) (r := fun j => decide (ms.getD j 0 ≤ ns.getD j 0)) p1 p2 hu (fun j h1 h2 => by
    obtain ⟨t, et⟩ := at1 j h1
    obtain ⟨t', et'⟩ := at2 j h2
    rw [et, et']
    have z : (ns.getD j 0 == ms.getD j 0) = decide (ns.getD j 0 = ms.getD j 0) := by
      by_cases q : ns.getD j 0 = ms.getD j 0
      · rw [decide_eq_true q]; exact beq_iff_eq.mpr q
      · rw [decide_eq_false q]; exact beq_eq_false_iff_ne.mpr q
    rw [← z]
    exact SeqAt.EqAt.int_int _ _ _ _) (fun j h1 h2 _ => by
    obtain ⟨t, et⟩ := at1 j h1
    obtain ⟨t', et'⟩ := at2 j h2
    rw [et, et']
    exact Ob.RcOp.ge_int _ _ _ _)
  rw [e1, e2] at R
  have z : wpAny (model X.prog X.w) X.A (compareOp .GtE (.ref a) (.ref b)) (EP X pins σ Q) X.xe s := R X.prog X.w X.xe (EP X pins σ Q) ⟨.bl _, H, I, rfl, q⟩
  exact z
theorem lexAt_ge (ns ms : List Int) : ∀ (k i : Nat), min ns.length ms.length = i + k → Ob.lexAt (fun j => decide (ns.getD j 0 = ms.getD j 0)) (fun j => decide (ms.getD j 0 ≤ ns.getD j 0)) (decide (ns.length ≥ ms.length)) i k = lexGe (ns.drop i) (ms.drop i)
  | 0, i, h => by
    rw [Ob.lexAt_zero]
    by_cases z : ms.length ≤ ns.length
    · have : ms.drop i = [] := List.drop_eq_nil_of_le (by omega)
      rw [this, decide_eq_true z]
      cases ns.drop i <;> rfl
    · have h1 : ns.drop i = [] := List.drop_eq_nil_of_le (by omega)
      rw [h1, decide_eq_false z, List.drop_eq_getElem_cons (show i < ms.length by omega)]
      rfl
  | k + 1, i, h => by
    rw [Ob.lexAt_succ, lexAt_ge ns ms k (i + 1) (by omega)]
    have h1 : i < ns.length := by omega
    have h2 : i < ms.length := by omega
    rw [List.drop_eq_getElem_cons h1, List.drop_eq_getElem_cons h2, lexGe]
    have g1 : ns.getD i 0 = ns[i] := by simp [h1]
    have g2 : ms.getD i 0 = ms[i] := by simp [h2]
    rw [g1, g2]
    by_cases z : ns[i] = ms[i]
    · rw [if_pos (decide_eq_true z), if_pos z]
    · rw [if_neg (by rw [decide_eq_false z]; exact Bool.false_ne_true), if_neg z]
theorem ints_rp {K : PySem.W.Frag} {H : Hp} {μ : Vw} : ∀ {l : List PyData} {xs : List V} {ns : List Int}, RpL K H μ l xs → intsD l = some ns → xs = ns.map V.int
  | [], _, ns, .nil, h => by cases h; rfl
  | .int i :: r, _, ns, .cons h1 h2, h => by
    rw [intsD] at h
    cases e : intsD r with
    | none => rw [e] at h; cases h
    | some m =>
      rw [e] at h
      cases h
      cases h1
      rw [ints_rp h2 e]
      rfl
  | .none :: _, _, _, _, h => by cases h
  | .bool _ :: _, _, _, _, h => by cases h
  | .str _ :: _, _, _, _, h => by cases h
  | .list _ :: _, _, _, _, h => by cases h
  | .tuple _ :: _, _, _, _, h => by cases h
  | .dict _ :: _, _, _, _, h => by cases h
theorem opd_ge (hu : X.A.units < cLine) : OpR X (compareOp .GtE) (rD2 X.K ff (cmpVa .ge)) := by
  intro pins s σ H vx vy v u Q I rx ry h
  obtain ⟨μ, S, x, y, rs, r1, r2, q⟩ := h
  unfold cmpVa cmpV at q
  split at q <;> first | (exact q.elim) | skip
  all_goals (rename_i e; first | cases e | skip)
  · obtain rfl := Rp.int_inv r1
    obtain rfl := Rp.int_inv r2
    exact op_ge pins s σ H _ _ v u Q I rx ry ⟨_, _, rfl, rfl, pK.here rs q (.d (.bl _))⟩
  · obtain rfl := Rp.str_inv r1
    obtain rfl := Rp.str_inv r2
    exact op_ge_str pins s σ H _ _ v u Q I rx ry ⟨_, _, rfl, rfl, pK.here rs q (.d (.bl _))⟩
  · obtain ⟨a, xs, rfl, ta, t, _⟩ := Rp.tup_inv r1
    obtain ⟨b, ys, rfl, tb, t', _⟩ := Rp.tup_inv r2
    unfold geT at q
    split at q
    · rename_i ns ms e1 e2
      have a1 := ta.sq
      have b1 := tb.sq
      rw [ints_rp t e1] at a1
      rw [ints_rp t' e2] at b1
      refine op_geT hu pins s σ H _ _ v u Q I rx ry ⟨a, b, ns, ms, rfl, rfl, a1, b1, ?_⟩
      rw [lexAt_ge ns ms _ 0 (Nat.zero_add _).symm]
      exact pK.here rs q (.d (.bl _))
    · exact q.elim
theorem non_of {K : PySem.W.Frag} {H : Hp} {μ : Vw} {x : PyData} {v : V} (r : Rp K H μ x v) : decide (v = .non) = isNone x := by
  cases r <;> rfl
theorem opd_is : OpR X (compareOp .Is) (rD2 X.K ff (cmpVa .is)) := by
  intro pins s σ H vx vy v u Q I rx ry h
  obtain ⟨μ, S, x, y, rs, r1, r2, q⟩ := h
  cases x <;> first | (exact q.elim) | skip
  cases y <;> first | (exact q.elim) | skip
  rename_i x y
  cases r1 with
  | d r1 =>
    cases y with
    | none =>
      obtain rfl := Rp.non_inv r2
      refine op_isN pins s σ H _ _ v u Q I rx ry ⟨rfl, ?_⟩
      rw [non_of r1]
      exact pK.here rs q (.d (.bl _))
    | bool b =>
      cases x <;> first | (exact q.elim) | skip
      rename_i a
      obtain rfl := Rp.bl_inv r2
      obtain rfl := Rp.bl_inv (ff := ff) (.d r1)
      exact op_isBl pins s σ H _ _ v u Q I rx ry ⟨_, _, rfl, rfl, pK.here rs q (.d (.bl _))⟩
    | _ => exact q.elim
theorem opd_isnot : OpR X (compareOp .IsNot) (rD2 X.K ff (cmpVa .isnot)) := by
  intro pins s σ H vx vy v u Q I rx ry h
  obtain ⟨μ, S, x, y, rs, r1, r2, q⟩ := h
  cases x <;> first | (exact q.elim) | skip
  cases y <;> first | (exact q.elim) | skip
  rename_i x y
  cases r1 with
  | d r1 =>
    cases y with
    | none =>
      obtain rfl := Rp.non_inv r2
      refine op_notN pins s σ H _ _ v u Q I rx ry ⟨rfl, ?_⟩
      rw [non_of r1]
      exact pK.here rs q (.d (.bl _))
    | bool b =>
      cases x <;> first | (exact q.elim) | skip
      rename_i a
      obtain rfl := Rp.bl_inv r2
      obtain rfl := Rp.bl_inv (ff := ff) (.d r1)
      exact op_notBl pins s σ H _ _ v u Q I rx ry ⟨_, _, rfl, rfl, pK.here rs q (.d (.bl _))⟩
    | _ => exact q.elim
/-! ### truth -/
theorem RpL.empty {K : PySem.W.Frag} {H : Hp} {μ : Vw} {ds : List PyData} {vs : List V} (r : RpL K H μ ds vs) : ds.isEmpty = vs.isEmpty := by
  cases r <;> rfl
/-- a value's truth, a locked dict's too -/
def TrV (K : PySem.W.Frag) (x : V) (H : Hp) (k : Bool) : Prop := TruV K x H k ∨ ∃ p kvs, x = .ref p ∧ Rd H p (.dK kvs) ∧ k = !kvs.isEmpty
theorem tru_okZ {X : Cx} : TruR X (fun x H Q => ∃ k, TrV X.K x H k ∧ Q k H) := by
  intro pins s σ H x v Q I rx h
  obtain ⟨k, t | ⟨p, kvs, rfl, e, rfl⟩, q⟩ := h
  · exact tru_ok pins s σ H x v Q I rx ⟨k, t, q⟩
  · cases rx
    obtain ⟨hz, hS, vs, r, m⟩ := dk_rd I.hok e
    have hl := line63
    have hs : sizeLine = 16777216 := sizeLine_eq
    have hlen : kvs.length = vs.length := Paired.length r
    refine wpAny_truthy_dict hS m (by omega) ⟨H, I.tok _, ?_⟩
    rw [isEmpty_kv r]
    exact q
section
variable {X : Cx} {a b : Expr} {ta tb : TE} {rest : List Expr} {pos : Pos}
def tOrZ (K : PySem.W.Frag) (ta tb : TE) : TE := fun σ H Q => ta σ H fun x H1 => ∃ k, TrV K x H1 k ∧ if k = true then Q x H1 else tb σ H1 Q
def tAndZ (K : PySem.W.Frag) (ta tb : TE) : TE := fun σ H Q => ta σ H fun x H1 => ∃ k, TrV K x H1 k ∧ if k = true then tb σ H1 Q else Q x H1
def tNotZ (K : PySem.W.Frag) (ta : TE) : TE := fun σ H Q => ta σ H fun x H1 => ∃ k, TrV K x H1 k ∧ Q (.bl (!k)) H1
theorem tru_at {pins : List (Addr × Obj)} {σ : L2.St} {H : Hp} {s : Shared} {x : V} {v : Value} {k : Bool} {Q : Bool → Shared → Prop} (I : L2.Inv X pins σ H s) (r : RelV x v) (t : TrV X.K x H k) (h : ∀ s', L2.Inv X pins σ H s' → Q k s') : wpAny (model X.prog X.w) X.A (truthy v) Q X.xe s :=
  thn (tru_okZ pins s σ H x v (fun c H2 => c = k ∧ H2 = H) I r ⟨k, t, rfl, rfl⟩) fun c s2 ⟨H2, I2, e1, e2⟩ => by subst e1 e2; exact h s2 I2
theorem pe_orZ (ha : PE X a ta) (hb : PE X (.BoolOp .Or (b :: rest) pos) tb) : PE X (.BoolOp .Or (a :: b :: rest) pos) (tOrZ X.K ta tb) :=
  ⟨fun pins s σ H Q I h => BoolOp_or (thn (ha.run pins s σ H _ I h) fun v s1 ⟨x, H1, I1, r1, k, t, q1⟩ => tru_at I1 r1 t fun s2 I2 => by
    cases k with
    | true => exact ⟨x, H1, I2, r1, q1⟩
    | false => exact hb.run pins s2 σ H1 Q I2 q1)⟩
theorem pe_andZ (ha : PE X a ta) (hb : PE X (.BoolOp .And (b :: rest) pos) tb) : PE X (.BoolOp .And (a :: b :: rest) pos) (tAndZ X.K ta tb) :=
  ⟨fun pins s σ H Q I h => BoolOp_and (thn (ha.run pins s σ H _ I h) fun v s1 ⟨x, H1, I1, r1, k, t, q1⟩ => tru_at I1 r1 t fun s2 I2 => by
    cases k with
    | true => exact hb.run pins s2 σ H1 Q I2 q1
    | false => exact ⟨x, H1, I2, r1, q1⟩)⟩
theorem pe_notZ (ha : PE X a ta) : PE X (.UnaryOp .Not a pos) (tNotZ X.K ta) :=
  ⟨fun pins s σ H Q I h => UnaryOp_ (thn (ha.run pins s σ H _ I h) fun v s1 ⟨x, H1, I1, r1, k, t, q1⟩ => not_of (tru_at I1 r1 t fun s2 I2 => ⟨.bl (!k), H1, I2, rfl, q1⟩))⟩
theorem pt_truZ (ha : PE X a ta) (he : ∀ whole, isTrue a X.env whole = (do let v ← whole; standAt a.pos; holding [v] (truthy v))) : PT X a (fun σ H Q => ta σ H fun x H' => ∃ k, TrV X.K x H' k ∧ Q k H') :=
  ⟨fun pins s σ H Q I h => isTrue_plain (thn (ha.run pins s σ H _ I h) fun v s1 ⟨x, H1, I1, r1, q1⟩ => tru_okZ pins s1 σ H1 x v Q I1 r1 q1) (he _)⟩
end
theorem RpK.empty {K : PySem.W.Frag} {H : Hp} {μ : Vw} {ds : List (PyData × PyData)} {vs : List (Key × V)} (r : RpK K H μ ds vs) : ds.isEmpty = vs.isEmpty := by
  cases r <;> rfl
theorem truth_of {K : PySem.W.Frag} {H : Hp} {μ : Vw} {S : Sto} {x : Va} {v : V} {Q : Bool → Sto → Prop} (rs : RS K ff H μ S) (r : RV K ff.f H μ x v) (q : (truth x S).se ff.E Q) : ∃ k, TrV K v H k ∧ Q k S := by
  unfold truth at q
  split at q <;> first | (exact q.elim) | skip
  · obtain rfl := Rp.non_inv r
    exact ⟨_, .inl rfl, q⟩
  · obtain rfl := Rp.bl_inv r
    exact ⟨_, .inl rfl, q⟩
  · obtain rfl := Rp.int_inv r
    exact ⟨_, .inl rfl, q⟩
  · split at q
    · obtain rfl := Rp.str_inv r
      exact ⟨_, .inl ⟨by assumption, rfl⟩, q⟩
    · exact q.elim
  · obtain ⟨a, xs, rfl, h, t, z⟩ := Rp.lst_inv r
    refine ⟨_, .inl (.inl ⟨xs, h.sq, rfl⟩), ?_⟩
    rw [← t.empty]
    exact q
  · obtain ⟨a, xs, rfl, h, t, z⟩ := Rp.tup_inv r
    refine ⟨_, .inl (.inr (.inl ⟨xs, h.sq, rfl⟩)), ?_⟩
    rw [← t.empty]
    exact q
  · cases r with
    | d r =>
      cases r with
      | @dct a ks kvs h t l =>
        obtain ⟨o, h1, _⟩ := h
        refine ⟨_, .inr ⟨a, ks, rfl, .inr ⟨o, h1⟩, rfl⟩, ?_⟩
        rw [← t.empty]
        exact q
  · obtain ⟨p, rfl, hp⟩ := RV.ref_inv r
    split at q
    · rename_i l hS
      obtain ⟨vs, h1, h2⟩ := rs.lst hp hS
      refine ⟨_, .inl (.inl ⟨vs, SqL.of h1, rfl⟩), ?_⟩
      have e : vs.isEmpty = l.isEmpty := by cases h2 <;> rfl
      rw [e]
      exact q
    · rename_i l hS
      obtain ⟨ks, h1, h2⟩ := rs.at_ _ p _ hp hS
      refine ⟨_, .inr ⟨p, ks, rfl, .inl h1, rfl⟩, ?_⟩
      have e : ks.isEmpty = l.isEmpty := by cases h2 <;> rfl
      rw [e]
      exact q
    · exact q.elim

/-! ### subscripts -/
theorem ix_dict (hu : X.A.units + 1 < cLine) : IxR X (fun x y H Q => ∃ a v, x = .ref a ∧ DGet H a y (some v) ∧ Q v H) := by
  intro value slice pins s σ H x y v u Q I rx ry h hs
  obtain ⟨a, w, rfl, g, q⟩ := h
  cases rx
  unfold subscriptTail
  have hT := dict_typeIs I g
  refine wpAny_bind ?_
  rw [getitemInPython_of_ne hT.not_modules]
  refine wpAny_bind (wpAny_specialOf hT PySem.F.slot_dict_getitem.lookup ?_)
  have fin : wpAny (model X.prog X.w) X.A (subscripted slice false (.ref a) u) (fun r s₃ => wpAny (model X.prog X.w) X.A (letTemporaryGo value (.ref a) r >>= fun _ => pure r) (EP X pins σ Q) X.xe s₃) X.xe s := by
    rw [hs]
    exact wpAny_operating (d_getItem hu I g ry fun w' s3 I3 rw' => wpAny_bind (wpAny_letTemporaryGo (wpAny_pure ⟨w, H, I3, rw', q⟩)))
  first
    | exact wpAny_pure (wpAny_bind fin)
    | exact wpAny_bind (wpAny_pure (wpAny_bind fin))
    | exact wpAny_bind fin
theorem RKV.val {K : PySem.W.Frag} {H : Hp} {μ : Vw} : ∀ {kvs : List (Key × Va)} {ks : List (Key × V)} {k : Key} {x : Va}, RKV K ff.f H μ kvs ks → valA kvs k = some x → ∃ v, valV ks k = some v ∧ RV K ff.f H μ x v
  | _, _, _, _, .nil, e => by simp [valA] at e
  | _, _, k, x, .cons (a := p) (b := q) (l₁ := r₁) h t, e => by
    by_cases hk : p.1 = k
    · have e' : p.2 = x := by simpa [valA, List.find?_cons, hk] using e
      subst e'
      exact ⟨q.2, valV_pos (h.1.symm.trans hk), h.2⟩
    · have e' : valA r₁ k = some x := by simpa [valA, List.find?_cons, hk] using e
      obtain ⟨v, h1, h2⟩ := RKV.val t e'
      exact ⟨v, by rw [valV_neg (by rw [← h.1]; exact hk)]; exact h1, h2⟩
theorem RKV.valN {K : PySem.W.Frag} {H : Hp} {μ : Vw} : ∀ {kvs : List (Key × Va)} {ks : List (Key × V)} {k : Key}, RKV K ff.f H μ kvs ks → (valA kvs k).isSome = (valV ks k).isSome
  | _, _, _, .nil => rfl
  | _, _, k, .cons (a := p) (b := q) h t => by
    by_cases hk : p.1 = k
    · rw [valV_pos (h.1.symm.trans hk)]
      simp [valA, List.find?_cons, hk]
    · rw [valV_neg (by rw [← h.1]; exact hk), ← RKV.valN t]
      simp [valA, List.find?_cons, hk]
theorem Rp.dct_inv {K : PySem.W.Frag} {H : Hp} {μ : Vw} {l : List (PyData × PyData)} {v : V} (r : RV K ff.f H μ (.d (.dict l)) v) : ∃ a ks, v = .ref a ∧ Fz H μ a (.dK ks) ∧ RpK K H μ l ks ∧ l.length ≤ sizeLine := by
  cases r with | d r => cases r with | dct h t z => exact ⟨_, _, rfl, h.fz, t, z⟩
theorem Rp.dct_invZ {K : PySem.W.Frag} {H : Hp} {μ : Vw} {l : List (PyData × PyData)} {v : V} (r : RV K ff.f H μ (.d (.dict l)) v) : ∃ a ks, v = .ref a ∧ DZ H μ a ks ∧ RpK K H μ l ks ∧ l.length ≤ sizeLine := by
  cases r with | d r => cases r with | dct h t z => exact ⟨_, _, rfl, h, t, z⟩
theorem keyD_inv {K : PySem.W.Frag} {H : Hp} {μ : Vw} {x : PyData} {v : V} {k : Key} (r : RV K ff.f H μ (.d x) v) (h : keyD x = some k) : v = kV k := by
  unfold keyD at h
  split at h
  · cases h
    exact Rp.int_inv r
  · cases h
    exact Rp.str_inv r
  · cases h
theorem keyD_kD (k : Key) : keyD (kD k) = some k := by cases k <;> rfl
theorem RpK.val {K : PySem.W.Frag} {H : Hp} {μ : Vw} : ∀ {kvs : List (PyData × PyData)} {ks : List (Key × V)} {k : Key} {x : PyData}, RpK K H μ kvs ks → valD kvs k = some x → ∃ v, valV ks k = some v ∧ Rp K H μ x v
  | _, _, _, _, .nil, e => by simp [valD] at e
  | _, _, k, x, .cons (k := k') (v := v) (kvs := r₁) h t, e => by
    by_cases hk : k' = k
    · rename_i d0 _
      have e' : d0 = x := by simpa [valD, List.find?_cons, keyD_kD, hk] using e
      subst e'
      exact ⟨v, valV_pos hk, h⟩
    · have e' : valD r₁ k = some x := by simpa [valD, List.find?_cons, keyD_kD, hk] using e
      obtain ⟨v, h1, h2⟩ := RpK.val t e'
      exact ⟨v, by rw [valV_neg hk]; exact h1, h2⟩
theorem RpK.valN {K : PySem.W.Frag} {H : Hp} {μ : Vw} : ∀ {kvs : List (PyData × PyData)} {ks : List (Key × V)} {k : Key}, RpK K H μ kvs ks → (valD kvs k).isSome = (valV ks k).isSome
  | _, _, _, .nil => rfl
  | _, _, k, .cons (k := k') h t => by
    by_cases hk : k' = k
    · rw [valV_pos hk]
      simp [valD, List.find?_cons, keyD_kD, hk]
    · rw [valV_neg hk, ← RpK.valN t]
      simp [valD, List.find?_cons, keyD_kD, hk]
theorem RS.dct {K : PySem.W.Frag} {H : Hp} {μ : Vw} {S : Sto} (r : RS K ff H μ S) {n : Nat} {a : Addr} {l : List (Key × Va)} (h : μ.ad[n]? = some a) (e : S[n]? = some (.dct l)) : ∃ vs, H a = some (.dK vs) ∧ RKV K ff.f H μ l vs := r.at_ n a _ h e
theorem ixd_get (hu : X.A.units + 1 < cLine) (hg : GdOk X.K X.w ff.f) : IxR X (rD2 X.K ff getV) := by
  intro value slice pins s σ H vx vy v u Q I rx ry h hs
  obtain ⟨μ, S, x, y, rs, r1, r2, q⟩ := h
  unfold getV at q
  split at q <;> first | (exact q.elim) | skip
  · unfold getG at q
    split at q
    · split at q
      · rename_i hv
        cases r1 with
        | fn r1 =>
          obtain rfl := Rp.str_inv r2
          obtain ⟨a, es, n, rfl, kd, _, gt⟩ := hg.dct _ _ r1
          obtain ⟨u0, v0, e1, e2, e3⟩ := gt _ _ hv
          exact ix_kdict value slice pins s σ H _ _ v u Q I rx ry ⟨a, _, v0, rfl, rfl, ⟨es, n, u0, kd.at_, kd.lit, e1, e2⟩, pK.here rs q (e3 H μ)⟩ hs
      · exact q.elim
    · exact q.elim
  · split at q
    · rename_i hv
      obtain ⟨a, xs, rfl, h, t, z⟩ := Rp.lst_inv r1
      obtain rfl := Rp.int_inv r2
      obtain ⟨w, e1, e2⟩ := atI_rp t hv
      exact ix_list value slice pins s σ H _ _ v u Q I rx ry ⟨a, xs, _, w, rfl, rfl, h.sq, e1, pK.here rs q (.d e2)⟩ hs
    · exact q.elim
  · split at q
    · rename_i hv
      obtain ⟨a, xs, rfl, h, t, z⟩ := Rp.tup_inv r1
      obtain rfl := Rp.int_inv r2
      obtain ⟨w, e1, e2⟩ := atI_rp t hv
      exact ix_tup value slice pins s σ H _ _ v u Q I rx ry ⟨a, xs, _, w, rfl, rfl, h.sq, e1, pK.here rs q (.d e2)⟩ hs
    · exact q.elim
  · split at q
    · rename_i hv
      obtain ⟨a, xs, rfl, h, t, z⟩ := RV.tup_inv r1
      obtain rfl := Rp.int_inv r2
      obtain ⟨w, e1, e2⟩ := atI_rv t hv
      exact ix_tup value slice pins s σ H _ _ v u Q I rx ry ⟨a, xs, _, w, rfl, rfl, h.sq, e1, pK.here rs q e2⟩ hs
    · exact q.elim
  · split at q
    · rename_i hz
      split at q
      · rename_i hv
        obtain rfl := Rp.str_inv r1
        obtain rfl := Rp.int_inv r2
        exact ix_str value slice pins s σ H _ _ v u Q I rx ry ⟨_, _, _, rfl, rfl, hz, hv, pK.here rs q (.d (.str _))⟩ hs
      · exact q.elim
    · exact q.elim
  · split at q
    · rename_i hk
      split at q
      · rename_i hv
        obtain ⟨a, ks, rfl, h, t, z⟩ := Rp.dct_inv r1
        obtain rfl := keyD_inv r2 hk
        obtain ⟨w, e1, e2⟩ := RpK.val t hv
        refine ix_dict hu value slice pins s σ H _ _ v u Q I rx ry ⟨a, w, rfl, ?_, pK.here rs q (.d e2)⟩ hs
        exact .inl ⟨ks, _, h.1, rfl, e1.symm⟩
      · exact q.elim
    · exact q.elim
  · split at q
    · rename_i hS
      split at q
      · rename_i hv
        obtain ⟨a, rfl, ha⟩ := RV.ref_inv r1
        obtain rfl := Rp.int_inv r2
        obtain ⟨xs, h, t⟩ := rs.lst ha hS
        obtain ⟨w, e1, e2⟩ := atI_rv t hv
        exact ix_list value slice pins s σ H _ _ v u Q I rx ry ⟨a, xs, _, w, rfl, rfl, SqL.of h, e1, pK.here rs q e2⟩ hs
      · exact q.elim
    · rename_i hS
      split at q
      · rename_i hv
        obtain ⟨a, rfl, ha⟩ := RV.ref_inv r1
        obtain rfl := Rp.int_inv r2
        obtain ⟨xs, h, t⟩ := rs.dct ha hS
        obtain ⟨w, e1, e2⟩ := t.val hv
        refine ix_dict hu value slice pins s σ H _ _ v u Q I rx ry ⟨a, w, rfl, ?_, pK.here rs q e2⟩ hs
        rw [← e1]
        exact DGet.k (k := Sum.inl _) h
      · exact q.elim
    · exact q.elim
  · split at q
    · rename_i hS
      split at q
      · rename_i hv
        obtain ⟨a, rfl, ha⟩ := RV.ref_inv r1
        obtain rfl := Rp.str_inv r2
        obtain ⟨xs, h, t⟩ := rs.dct ha hS
        obtain ⟨w, e1, e2⟩ := t.val hv
        refine ix_dict hu value slice pins s σ H _ _ v u Q I rx ry ⟨a, w, rfl, ?_, pK.here rs q e2⟩ hs
        rw [← e1]
        exact DGet.k (k := Sum.inr _) h
      · exact q.elim
    · exact q.elim

/-! ### slices -/
def rSlD (K : PySem.W.Frag) (ff : Fx) : V → Option Int → Option Int → Hp → VK → Prop := fun vx lo hi H Q => ∃ μ S x, RS K ff H μ S ∧ RV K ff.f H μ x vx ∧ (slV x lo hi S).se ff.E (pK K ff H μ Q)
theorem cutD_length {α : Type} (xs : List α) (lo hi : Option Int) : (cutD xs lo hi).length ≤ xs.length := by
  unfold cutD
  rw [List.length_take, List.length_drop]
  omega
theorem cutD_whole {α : Type} {xs : List α} {lo hi : Option Int} (h : HT.sIx xs.length 0 lo = 0 ∧ HT.sIx xs.length xs.length hi = xs.length) : cutD xs lo hi = xs := by
  unfold cutD
  rw [h.1, h.2, List.drop_zero, Nat.sub_zero, List.take_length]
theorem sld : SlR X (rSlD X.K ff) := by
  intro pins s σ H vx v vl vu lo hi sl Q I rx hs pl pu h
  obtain ⟨μ, S, x, rs, r1, q⟩ := h
  unfold slV at q
  split at q <;> first | (exact q.elim) | skip
  · obtain ⟨a, xs, rfl, h, t, z⟩ := Rp.tup_inv r1
    have hl := t.length
    refine sl_tupZ pins s σ H _ v vl vu lo hi sl Q I rx hs pl pu ⟨a, xs, rfl, h.sq, fun hw => ?_, fun hw => ?_⟩
    · rw [← hl] at hw
      have e : cutD _ lo hi = _ := cutD_whole hw
      rw [e] at q
      exact pK.here rs q (.d (.tup h t z))
    · refine pK.newTup rs q ?_ (Nat.le_trans (cutD_length _ _ _) z)
      unfold cutD cutV
      rw [← hl]
      exact (t.drop _).take _
  · obtain ⟨a, xs, rfl, h, t, z⟩ := Rp.lst_inv r1
    have hl := t.length
    refine sl_list pins s σ H _ v vl vu lo hi sl Q I rx hs pl pu ⟨a, xs, rfl, h.sq, ?_⟩
    refine pK.newLst rs q ?_ (Nat.le_trans (cutD_length _ _ _) z)
    unfold cutD cutV
    rw [← hl]
    exact (t.drop _).take _
  · split at q
    · rename_i hz
      obtain rfl := Rp.str_inv r1
      exact sl_str pins s σ H _ v vl vu lo hi sl Q I rx hs pl pu ⟨_, rfl, hz, pK.here rs q (.d (.str _))⟩
    · exact q.elim
  · split at q
    · rename_i l hS
      split at q
      · rename_i ds hd
        split at q
        · rename_i hz
          obtain ⟨a, rfl, ha⟩ := RV.ref_inv r1
          obtain ⟨xs, h, t0⟩ := rs.lst ha hS
          have t := t0.pure hd
          have hl := t.length
          refine sl_list pins s σ H _ v vl vu lo hi sl Q I rx hs pl pu ⟨a, xs, rfl, SqL.of h, ?_⟩
          refine pK.newLst rs q ?_ (Nat.le_trans (cutD_length _ _ _) hz)
          unfold cutD cutV
          rw [← hl]
          exact (t.drop _).take _
        · exact q.elim
      · exact q.elim
    · exact q.elim

/-! ### built-in functions -/
theorem cr_len : CallR X (.builtin "len") (rDL X.K ff (bltV .len)) := by
  intro pins s σ H vs us Q I r h
  obtain ⟨μ, S, l, rs, rl, q⟩ := h
  match l, rl, q with
  | [x], .cons rx .nil, q =>
    have q : (lenV x S).se ff.E (pK X.K ff H μ Q) := q
    unfold lenV at q
    split at q <;> first | (exact q.elim) | skip
    · obtain ⟨a, xs, rfl, h, t, z⟩ := Rp.lst_inv rx
      refine call_len_seq pins s σ H _ us Q I r ⟨a, xs, rfl, .inl h.sq, ?_⟩
      rw [← t.length]
      exact pK.here rs q (.d (.int _))
    · obtain ⟨a, xs, rfl, h, t, z⟩ := Rp.tup_inv rx
      refine call_len_seq pins s σ H _ us Q I r ⟨a, xs, rfl, .inr h.sq, ?_⟩
      rw [← t.length]
      exact pK.here rs q (.d (.int _))
    · obtain ⟨a, xs, rfl, h, t, z⟩ := RV.tup_inv rx
      refine call_len_seq pins s σ H _ us Q I r ⟨a, xs, rfl, .inr h.sq, ?_⟩
      rw [← t.length]
      exact pK.here rs q (.d (.int _))
    · split at q
      · obtain rfl := Rp.str_inv rx
        exact call_len_str pins s σ H _ us Q I r ⟨_, rfl, by assumption, pK.here rs q (.d (.int _))⟩
      · exact q.elim
    · split at q
      · rename_i hS
        obtain ⟨a, rfl, ha⟩ := RV.ref_inv rx
        obtain ⟨xs, h, t⟩ := rs.lst ha hS
        refine call_len_seq pins s σ H _ us Q I r ⟨a, xs, rfl, .inl (SqL.of h), ?_⟩
        rw [← t.length]
        exact pK.here rs q (.d (.int _))
      · rename_i hS
        obtain ⟨a, rfl, ha⟩ := RV.ref_inv rx
        obtain ⟨ks, h, t⟩ := rs.dct ha hS
        obtain ⟨u, rfl, rx'⟩ := vals1 r
        cases rx'
        refine d_len I (.inl h) fun t' s' I' => ⟨.int ks.length, H, I', ⟨_, rfl⟩, ?_⟩
        rw [← Paired.length t]
        exact pK.here rs q (.d (.int _))
      · exact q.elim
  | [], _, q => exact q.elim
  | _ :: _ :: _, _, q => exact q.elim
theorem cr_abs : CallR X (.builtin "abs") (rDL X.K ff (bltV .abs)) := by
  intro pins s σ H vs us Q I r h
  obtain ⟨μ, S, l, rs, rl, q⟩ := h
  unfold bltV at q
  split at q <;> first | (exact q.elim) | skip
  all_goals (rename_i e; first | cases e | skip)
  cases rl with
  | cons rx rl =>
    cases rl
    obtain rfl := Rp.int_inv rx
    exact call_abs pins s σ H _ us Q I r ⟨_, rfl, pK.here rs q (.d (.int _))⟩
theorem cr_int : CallR X (.type "int") (rDL X.K ff (bltV .int)) := by
  intro pins s σ H vs us Q I r h
  obtain ⟨μ, S, l, rs, rl, q⟩ := h
  unfold bltV at q
  split at q <;> first | (exact q.elim) | skip
  all_goals (rename_i e; first | cases e | skip)
  · cases rl with
    | cons rx rl =>
      cases rl
      obtain rfl := Rp.int_inv rx
      exact call_int1 pins s σ H _ us Q I r (.inl ⟨_, rfl, pK.here rs q (.d (.int _))⟩)
  · cases rl with
    | cons rx rl =>
      cases rl
      obtain rfl := Rp.bl_inv rx
      exact call_int1 pins s σ H _ us Q I r (.inr ⟨_, rfl, pK.here rs q (.d (.int _))⟩)
/-- the items of a sequence, wherever it stands -/
theorem seq_of {K : PySem.W.Frag} {H : Hp} {μ : Vw} {S : Sto} {x : Va} {v : V} {Q : List Va → Sto → Prop} (rs : RS K ff H μ S) (r : RV K ff.f H μ x v) (q : (seqOf x S).se ff.E Q) :
    ∃ a xs l, v = .ref a ∧ (SqL K H a xs ∨ SqT K H a xs) ∧ RVL K ff.f H μ l xs ∧ Q l S ∧ ((SqT K H a xs ∧ (isTp x = false → TZ K H μ a xs)) ∨ SqL K H a xs) := by
  unfold seqOf at q
  split at q <;> first | (exact q.elim) | skip
  · obtain ⟨a, xs, rfl, h, t, z⟩ := Rp.lst_inv r
    exact ⟨a, xs, _, rfl, .inl h.sq, RVL.of t, q, .inr h.sq⟩
  · obtain ⟨a, xs, rfl, h, t, z⟩ := Rp.tup_inv r
    exact ⟨a, xs, _, rfl, .inr h.sq, RVL.of t, q, .inl ⟨h.sq, fun _ => h⟩⟩
  · obtain ⟨a, xs, rfl, h, t, z⟩ := RV.tup_inv r
    exact ⟨a, xs, _, rfl, .inr h.sq, t, q, .inl ⟨h.sq, fun z => nomatch z⟩⟩
  · split at q
    · rename_i hS
      obtain ⟨a, rfl, ha⟩ := RV.ref_inv r
      obtain ⟨xs, h, t⟩ := rs.lst ha hS
      exact ⟨a, xs, _, rfl, .inl (SqL.of h), t, q, .inr (SqL.of h)⟩
    · exact q.elim
theorem Inv.lenL {pins : List (Addr × Obj)} {σ : L2.St} {H : Hp} {s : Shared} {a : Addr} {xs : List V} (I : Inv X pins σ H s) (h : SqL X.K H a xs) : xs.length ≤ sizeLine := by
  obtain ⟨_, _, _, z⟩ := I.list h
  exact z
theorem Inv.lenT {pins : List (Addr × Obj)} {σ : L2.St} {H : Hp} {s : Shared} {a : Addr} {xs : List V} (I : Inv X pins σ H s) (h : SqT X.K H a xs) : xs.length ≤ sizeLine := by
  obtain ⟨_, _, _, z⟩ := I.tuple h
  exact z
theorem cr_tuple : CallR X (.type "tuple") (rDL X.K ff (bltV .tuple)) := by
  intro pins s σ H vs us Q I r h
  obtain ⟨μ, S, l, rs, rl, q⟩ := h
  match l, rl, q with
  | [x], .cons rx .nil, q =>
    have q : (if isTp x then R.bad else (seqOf x S).bind fun l S => match pureL l with
      | some ds => R.ok (Va.d (.tuple ds)) S
      | none => .bad).se ff.E (pK X.K ff H μ Q) := q
    by_cases hx : isTp x = true
    · rw [if_pos hx] at q
      exact q.elim
    rw [if_neg hx] at q
    obtain ⟨a, xs, l, rfl, _, t, q, k⟩ := seq_of rs rx (R.se_bind q)
    split at q
    · rename_i ds hp
      have t' := t.pure hp
      rcases k with ⟨k, kt⟩ | k
      · exact call_tupZ pins s σ H _ us Q I r ⟨a, xs, rfl, .inr ⟨k, pK.here rs q (.d (.tup (kt (by simpa using hx)) t' (by rw [t'.length]; exact Inv.lenT I k)))⟩⟩
      · exact call_tupZ pins s σ H _ us Q I r ⟨a, xs, rfl, .inl ⟨k, pK.newTup rs q t' (by rw [t'.length]; exact Inv.lenL I k)⟩⟩
    · exact q.elim
  | [], _, q => exact q.elim
  | _ :: _ :: _, _, q => exact q.elim
mutual
theorem plain_of : ∀ {d : PyData}, d.hasDict = false → d.plain = true
  | .none, _ => rfl
  | .bool _, _ => rfl
  | .int _, _ => rfl
  | .str _, _ => rfl
  | .list xs, h => plainAll_of' (by rw [PyData.hasDict] at h; exact h)
  | .tuple xs, h => plainAll_of' (by rw [PyData.hasDict] at h; exact h)
  | .dict _, h => by rw [PyData.hasDict] at h; cases h
theorem plainAll_of' : ∀ {ds : List PyData}, PyData.hasDictAll ds = false → PyData.plainAll ds = true
  | [], _ => rfl
  | x :: xs, h => by
    rw [PyData.hasDictAll] at h
    have h := Bool.or_eq_false_iff.mp h
    rw [PyData.plainAll, plain_of h.1, plainAll_of' h.2]
    rfl
end
theorem data_of {K : PySem.W.Frag} {H : Hp} {μ : Vw} {S : Sto} {x : Va} {v : V} {d : PyData} (rs : RS K ff H μ S) (r : RV K ff.f H μ x v) (e : dataOf x S = some d) (p : d.plain = true) : Dp K H v d := by
  unfold dataOf at e
  split at e
  · cases e
    cases r with | d r => exact r.dp p
  · split at e
    · rename_i hS
      obtain ⟨a, rfl, ha⟩ := RV.ref_inv r
      obtain ⟨xs, h, t⟩ := rs.lst ha hS
      obtain ⟨ds, e1, e2⟩ := Option.map_eq_some_iff.mp e
      subst e2
      exact .lst (SqL.of h) ((t.pure e1).dp p)
    · cases e
  · cases e
/-! what is read, with empty dicts in it -/
mutual
inductive RdE (h : Heap) : Value → PyData → Prop
  | none : RdE h .none .none
  | bool (b) : RdE h (.bool b) (.bool b)
  | int (i t) : RdE h (.int i t) (.int i)
  | str (x t) : RdE h (.str x t) (.str x)
  | list {a o vs n xs} : h.get? a = some o → o.cls = .type "list" → o.data = .seq vs n → RdEs h vs.toList xs → RdE h (.ref a) (.list xs)
  | tuple {a o vs n xs} : h.get? a = some o → o.cls = .type "tuple" → o.data = .seq vs n → RdEs h vs.toList xs → RdE h (.ref a) (.tuple xs)
  | dict {a o es n} : h.get? a = some o → o.cls = .type "dict" → o.data = .dict es n → es.toList = [] → (a == sysModules) = false → RdE h (.ref a) (.dict [])
inductive RdEs (h : Heap) : List Value → List PyData → Prop
  | nil : RdEs h [] []
  | cons {v vs d ds} : RdE h v d → RdEs h vs ds → RdEs h (v :: vs) (d :: ds)
end
mutual
theorem RdE.reads {h : Heap} : ∀ {v : Value} {d : PyData}, RdE h v d → ∃ as, Reads h v d as
  | _, _, .none => ⟨_, .none⟩
  | _, _, .bool b => ⟨_, .bool b⟩
  | _, _, .int i t => ⟨_, .int i t⟩
  | _, _, .str x t => ⟨_, .str x t⟩
  | _, _, .list a b c e => let ⟨_, q⟩ := RdEs.reads e; ⟨_, .list a b c q⟩
  | _, _, .tuple a b c e => let ⟨_, q⟩ := RdEs.reads e; ⟨_, .tuple a b c q⟩
  | _, _, .dict a b c e _ => ⟨_, .dict a b c (by rw [e]; exact .nil) (by rw [e]; exact .nil)⟩
theorem RdEs.reads {h : Heap} : ∀ {vs : List Value} {ds : List PyData}, RdEs h vs ds → ∃ as, ReadsAll h vs ds as
  | _, _, .nil => ⟨_, .nil⟩
  | _, _, .cons r t => let ⟨_, q⟩ := RdE.reads r; let ⟨_, q2⟩ := RdEs.reads t; ⟨_, .cons q q2⟩
end
section
variable {prog : Program} {w : World} {h₀ : Heap}
mutual
theorem RdE.repr : ∀ {v : Value} {d : PyData}, RdE h₀ v d → d.showable = true → d.shown.length ≤ sizeLine → ∃ bs, ReadAtMost h₀ d.depth bs ∧ ReprK prog w bs h₀ d.depth v d.shown
  | _, _, .none, _, _ => ⟨[], (fun _ h => nomatch h), by simp only [PyData.shown]; exact .of_is ReprIs.none _ _ _⟩
  | _, _, .bool b, _, _ => ⟨[], (fun _ h => nomatch h), by simp only [PyData.shown]; exact .of_is (ReprIs.bool b) _ _ _⟩
  | _, _, .int i t, hs, _ => ⟨[], (fun _ h => nomatch h), by simp only [PyData.shown]; exact .of_is (ReprIs.int t (by simpa [PyData.showable] using hs)) _ _ _⟩
  | _, _, .str x t, _, hz => ⟨[], (fun _ h => nomatch h), by simp only [PyData.shown]; exact .of_is (ReprIs.str x t (by simpa only [PyData.shown] using hz)) _ _ _⟩
  | _, _, .list (a := a) (vs := vs) (xs := xs) h1 h2 h3 h4, hs, hz => by
    have hz' : (listText (PyData.shownAll xs)).length ≤ sizeLine := by simpa only [PyData.shown] using hz
    obtain ⟨bs, hb, hk⟩ := RdEs.repr h4 (by simpa [PyData.showable] using hs) (fun t ht => Nat.le_trans (listText_mem_le ht) hz')
    obtain ⟨_, q⟩ := RdEs.reads h4
    have r : Reads h₀ (.ref a) (.list xs) _ := .list h1 h2 h3 q
    have hna : a ∉ bs := not_mem_of_deeper r (by simp only [PyData.depth]; omega) hb
    refine ⟨a :: bs, ReadAtMost.cons r (by simp only [PyData.depth]; omega) hb, ?_⟩
    simp only [PyData.depth, PyData.shown]
    obtain ⟨l⟩ := vs
    cases l with
    | nil =>
      have h4' : RdEs h₀ [] xs := h4
      cases h4'
      simp only [PyData.shownAll, listText_nil]
      exact ReprK.listEmpty h1 h2 h3
    | cons x l => exact ReprK.list h1 h2 h3 hna (by simpa using hk.length_eq) (fun i y e => hk.item i y (by simpa using e))
  | _, _, .tuple (a := a) (xs := xs) h1 h2 h3 h4, hs, hz => by
    have hz' : (tupleText (PyData.shownAll xs)).length ≤ sizeLine := by simpa only [PyData.shown] using hz
    obtain ⟨bs, hb, hk⟩ := RdEs.repr h4 (by simpa [PyData.showable] using hs) (fun t ht => Nat.le_trans (tupleText_mem_le ht) hz')
    obtain ⟨_, q⟩ := RdEs.reads h4
    have r : Reads h₀ (.ref a) (.tuple xs) _ := .tuple h1 h2 h3 q
    have hna : a ∉ bs := not_mem_of_deeper r (by simp only [PyData.depth]; omega) hb
    refine ⟨a :: bs, ReadAtMost.cons r (by simp only [PyData.depth]; omega) hb, ?_⟩
    simp only [PyData.depth, PyData.shown]
    exact ReprK.tuple h1 h2 h3 hna hk
  | _, _, .dict (a := a) (es := es) h1 h2 h3 h4 h5, hs, hz => by
    obtain ⟨_, r⟩ := RdE.reads (.dict h1 h2 h3 h4 h5)
    have hb : ReadAtMost h₀ (PyData.depthKv []) ([] : List Addr) := fun _ h => nomatch h
    refine ⟨[a], ReadAtMost.cons r (by simp only [PyData.depth]; omega) hb, ?_⟩
    simp only [PyData.depth, PyData.shown, PyData.shownKv]
    exact ReprK.dict h1 h2 h3 h5 (fun z => nomatch z) (by rw [h4]; exact .nil)
theorem RdEs.repr : ∀ {vs : List Value} {ds : List PyData}, RdEs h₀ vs ds → PyData.showableAll ds = true → (∀ t ∈ PyData.shownAll ds, t.length ≤ sizeLine) →
    ∃ bs, ReadAtMost h₀ (PyData.depthAll ds) bs ∧ ReprAllK prog w bs h₀ (PyData.depthAll ds) vs (PyData.shownAll ds)
  | _, _, .nil, _, _ => ⟨[], (fun _ h => nomatch h), by simp only [PyData.shownAll]; exact .nil⟩
  | _, _, .cons (d := d) (ds := ds) r rs, hs, hz => by
    have hs' : d.showable = true ∧ PyData.showableAll ds = true := by simpa [PyData.showableAll] using hs
    obtain ⟨b1, hb1, k1⟩ := RdE.repr r hs'.1 (hz _ (by simp only [PyData.shownAll]; exact List.mem_cons_self ..))
    obtain ⟨b2, hb2, k2⟩ := RdEs.repr rs hs'.2 (fun t ht => hz t (by simp only [PyData.shownAll]; exact List.mem_cons_of_mem _ ht))
    refine ⟨b1 ++ b2, ?_, ?_⟩
    · intro b hm
      simp only [PyData.depthAll]
      rcases List.mem_append.mp hm with hm | hm
      · obtain ⟨d', as', r', hd'⟩ := hb1 b hm
        exact ⟨d', as', r', Nat.le_trans hd' (Nat.le_max_left _ _)⟩
      · obtain ⟨d', as', r', hd'⟩ := hb2 b hm
        exact ⟨d', as', r', Nat.le_trans hd' (Nat.le_max_right _ _)⟩
    · simp only [PyData.depthAll, PyData.shownAll]
      exact .cons ((k1.more fun b hb => List.mem_append_left _ hb).level_le (Nat.le_max_left _ _)) (k2.more_le (fun b hb => List.mem_append_right _ hb) (Nat.le_max_right _ _))
end
/-- repr of a list or tuple -/
theorem repr_rdE {a : Addr} {d : PyData} {A : Around} {E : Value → Shared → Prop} {s : Shared} {Q : Value → Shared → Prop} (r : RdE s.heap (.ref a) d) (hs : d.showable = true) (hsz : d.shown.length ≤ sizeLine) (hg : A.guards = some []) (hu : A.units + (d.depth + 1) < cLine)
    (hQ : ∀ h' u tk, (∀ b o, s.heap.get? b = some o → h'.get? b = some o) → Q (.str d.shown u) { s with heap := h', toks := tk }) : wpAny (model prog w) A (call (.builtin "repr") [.ref a]) Q E s := by
  cases r with
  | @list _ o vs n xs h1 h2 h3 h4 =>
    have hz' : (listText (PyData.shownAll xs)).length ≤ sizeLine := by simpa only [PyData.shown] using hsz
    obtain ⟨bs, hb, hk⟩ := RdEs.repr (prog := prog) (w := w) h4 (by simpa [PyData.showable] using hs) (fun t ht => Nat.le_trans (listText_mem_le ht) hz')
    obtain ⟨_, q⟩ := RdEs.reads h4
    have hna : a ∉ bs := not_mem_of_deeper (.list h1 h2 h3 q) (by simp only [PyData.depth]; omega) hb
    simp only [PyData.depth] at hu
    simp only [PyData.shown] at hQ
    refine call_repr_slot (by omega) ⟨o, h1, h2⟩ F.slot_list_repr.toG ?_
    obtain ⟨l⟩ := vs
    cases l with
    | nil =>
      have h4' : RdEs s.heap [] xs := h4
      cases h4'
      simp only [PyData.shownAll, listText_nil] at hQ
      exact call_list_repr_empty ⟨o, h1, h2⟩ h1 h3 ⟨_, _, rfl, hQ s.heap _ _ fun _ _ e => e⟩
    | cons x l =>
      exact call_list_reprK h1 h2 h3 hna (by simpa using hk.length_eq) (fun i y e => hk.item i y (by simpa using e)) hg (fun b _ => Clear.nil b) (by show A.units + 1 + _ < cLine; omega) (fun _ _ e => e) (fun h' u tk k => ⟨_, _, rfl, hQ h' u tk k⟩) hz'
  | @tuple _ o vs n xs h1 h2 h3 h4 =>
    have hz' : (tupleText (PyData.shownAll xs)).length ≤ sizeLine := by simpa only [PyData.shown] using hsz
    obtain ⟨bs, hb, hk⟩ := RdEs.repr (prog := prog) (w := w) h4 (by simpa [PyData.showable] using hs) (fun t ht => Nat.le_trans (tupleText_mem_le ht) hz')
    obtain ⟨_, q⟩ := RdEs.reads h4
    have hna : a ∉ bs := not_mem_of_deeper (.tuple h1 h2 h3 q) (by simp only [PyData.depth]; omega) hb
    simp only [PyData.depth] at hu
    simp only [PyData.shown] at hQ
    exact call_repr_slot (by omega) ⟨o, h1, h2⟩ F.slot_tuple_repr (call_tuple_reprK h1 h2 h3 hna hk hg (fun b _ => Clear.nil b) (by show A.units + 1 + _ < cLine; omega) (fun _ _ e => e) (fun h' u tk k => ⟨_, _, rfl, hQ h' u tk k⟩) hz')
  | dict h1 h2 h3 h4 h5 =>
    obtain ⟨as, rd⟩ := RdE.reads (.dict h1 h2 h3 h4 h5)
    refine repr_of_reads' (as := [a]) (.dict (as := []) (bs := []) h1 h2 h3 (by rw [h4]; exact .nil) (by rw [h4]; exact .nil)) hs (fun _ z => ?_) hg hu (fun _ _ e => e) hQ hsz
    have z : sysModules = a := by simpa using z
    rw [z] at h5
    exact absurd h5 (by simp)
end
section
variable {X : Cx} {pins : List (Addr × Obj)} {σ : L2.St} {H : Hp} {s : Shared} {μ : Vw}
mutual
theorem Rp.rdE (I : Inv X pins σ H s) : ∀ {d : PyData} {v : V} {u : Value}, Rp X.K H μ d v → d0 d = true → RelV v u → RdE s.heap u d
  | _, _, _, .non, _, r => by cases r; exact .none
  | _, _, _, .bl b, _, r => by cases r; exact .bool b
  | _, _, _, .int i, _, r => by obtain ⟨t, rfl⟩ := r; exact .int i t
  | _, _, _, .str x, _, r => by obtain ⟨t, rfl⟩ := r; exact .str x t
  | _, _, _, .lst (ds := ds) h t z, hd, r => by
    cases r
    obtain ⟨its, rv, ⟨o, n, ho, hc, _, hdt⟩, _⟩ := I.list h.sq
    exact .list ho hc hdt (Rp.rdEs I t (by rw [d0] at hd; exact hd) rv)
  | _, _, _, .tup (ds := ds) h t z, hd, r => by
    cases r
    obtain ⟨its, rv, ⟨o, ho, hc, n, hdt⟩, _⟩ := I.tuple h.sq
    exact .tuple ho hc hdt (Rp.rdEs I t (by rw [d0] at hd; exact hd) rv)
  | _, _, _, .dct (kvs := kvs) h t z, hd, r => by
    cases r
    rw [d0] at hd
    cases t with
    | cons _ _ => cases hd
    | nil =>
      obtain ⟨_, hm, vs, kv, ⟨o, es, ep, ho, hc, hdd, _, hp, _⟩⟩ := dk_rd I.hok h.fz.1
      cases kv
      exact .dict ho hc.1 hdd (List.length_eq_zero_iff.mp hp.length) hm
theorem Rp.rdEs (I : Inv X pins σ H s) : ∀ {ds : List PyData} {vs : List V} {us : List Value}, RpL X.K H μ ds vs → d0All ds = true → Vals vs us → RdEs s.heap us ds
  | _, _, _, .nil, _, r => by cases r; exact .nil
  | _, _, _, .cons h t, hd, r => by
    rw [d0All] at hd
    have hd := Bool.and_eq_true_iff.mp hd
    cases r with
    | cons r1 r2 => exact .cons (Rp.rdE I h hd.1 r1) (Rp.rdEs I t hd.2 r2)
end
end
theorem cr_repr (hg : X.A.guards = some []) (hu : X.A.units + 66 < cLine) : CallR X (.builtin "repr") (rDL X.K ff (bltV .repr)) := by
  intro pins s σ H vs us Q I r h
  obtain ⟨μ, S, l, rs, rl, q⟩ := h
  match l, rl, q with
  | [x], .cons rx .nil, q =>
    have q : (match dataOf x S with
      | some d => if showOk d || isD0 d then R.ok (Va.d (.str d.shown)) S else .bad
      | none => .bad).se ff.E (pK X.K ff H μ Q) := q
    split at q
    · rename_i d hd
      split at q
      · rename_i hz
        rcases Bool.or_eq_true_iff.mp hz with hz | hz
        rotate_left
        · unfold isD0 at hz
          simp only [Bool.and_eq_true, decide_eq_true_eq] at hz
          obtain ⟨⟨⟨h1, h2⟩, h3⟩, h4⟩ := hz
          obtain ⟨u, rfl, ru⟩ := vals1 r
          have rd : RdE s.heap u d := by
            unfold dataOf at hd
            split at hd
            · cases hd
              cases rx with | d r => exact r.rdE I h2 ru
            · split at hd
              · rename_i hS
                obtain ⟨a, rfl, ha⟩ := RV.ref_inv rx
                obtain ⟨xs, h, t⟩ := rs.lst ha hS
                obtain ⟨ds, e1, e2⟩ := Option.map_eq_some_iff.mp hd
                subst e2
                cases ru
                obtain ⟨its, rv, ⟨o, n, ho, hc, _, hdt⟩, _⟩ := I.list (SqL.of h)
                exact .list ho hc hdt (Rp.rdEs I (t.pure e1) (by rw [d0] at h2; exact h2) rv)
              · cases hd
            · cases hd
          have fin : ∀ h' t tk, (∀ b o, s.heap.get? b = some o → h'.get? b = some o) → EP X pins σ Q (.str d.shown t) { s with heap := h', toks := tk } := fun h' t tk hk => ⟨.str d.shown, H, I.kept hk, ⟨t, rfl⟩, pK.here rs q (.d (.str _))⟩
          cases rd with
          | none => exact PySem.P.repr_of_none (fin s.heap _ _ fun _ _ e => e)
          | bool b => exact PySem.P.repr_of_bool (fin s.heap _ _ fun _ _ e => e)
          | int i t => exact PySem.P.repr_of_int (by simpa [PyData.showable] using h1) (fin s.heap _ _ fun _ _ e => e)
          | str y t => exact PySem.P.repr_of_str (fin s.heap _ _ fun _ _ e => e) h4
          | list a b c e => exact repr_rdE (.list a b c e) h1 h4 hg (by omega) fin
          | tuple a b c e => exact repr_rdE (.tuple a b c e) h1 h4 hg (by omega) fin
          | dict a b c e f => exact repr_rdE (.dict a b c e f) h1 h4 hg (by omega) fin
        unfold showOk at hz
        simp only [Bool.and_eq_true, Bool.not_eq_true', decide_eq_true_eq] at hz
        obtain ⟨⟨⟨h1, h2⟩, h3⟩, h4⟩ := hz
        obtain ⟨u, rfl, ru⟩ := vals1 r
        have dp := data_of rs rx hd (plain_of h2)
        obtain ⟨as, rd⟩ := Dp.reads I d _ u dp ru
        have fin : ∀ t, EP X pins σ Q (.str d.shown t) s := fun t => ⟨.str d.shown, H, I, ⟨t, rfl⟩, pK.here rs q (.d (.str _))⟩
        have finT : ∀ t tk, EP X pins σ Q (.str d.shown t) { s with toks := tk } := fun t tk => ⟨.str d.shown, H, I.tok tk, ⟨t, rfl⟩, pK.here rs q (.d (.str _))⟩
        cases rd with
        | none => exact PySem.P.repr_of_none (finT _ _)
        | bool b => exact PySem.P.repr_of_bool (finT _ _)
        | int i t => exact PySem.P.repr_of_int (by simpa [PyData.showable] using h1) (finT _ _)
        | str y t => exact PySem.P.repr_of_str (finT _ _) h4
        | list a b c e => exact repr_of_reads' (Reads.list a b c e) h1 (fun z => by rw [h2] at z; cases z) hg (by omega) (fun b o e => e) (fun h' u tk hk => ⟨.str _, H, I.kept hk, ⟨u, rfl⟩, pK.here rs q (.d (.str _))⟩) h4
        | tuple a b c e => exact repr_of_reads' (Reads.tuple a b c e) h1 (fun z => by rw [h2] at z; cases z) hg (by omega) (fun b o e => e) (fun h' u tk hk => ⟨.str _, H, I.kept hk, ⟨u, rfl⟩, pK.here rs q (.d (.str _))⟩) h4
        | dict a b c e f => cases h2
      · exact q.elim
    · exact q.elim
  | [], _, q => exact q.elim
  | _ :: _ :: _, _, q => exact q.elim
end
end Nb

namespace Nb
open PySem L2 PySem.Spec PyProof.Rows
section
variable {X : Cx} {K : PySem.W.Frag} {ff : Fx}
/-! ### later heaps -/
theorem pK.later {H H1 : Hp} {μ μ1 : Vw} {Q : VK} {v : Va} {S : Sto} (e : Ex H μ H1 μ1) (h : pK K ff H μ Q v S) : pK K ff H1 μ1 Q v S := fun w H' μ' e' => h w H' μ' (e.trans e')
theorem pB.later {H H1 : Hp} {μ μ1 : Vw} {Q : Bool → Hp → Prop} {v : Bool} {S : Sto} (e : Ex H μ H1 μ1) (h : pB K ff H μ Q v S) : pB K ff H1 μ1 Q v S := fun H' μ' e' => h H' μ' (e.trans e')
theorem pL.later {H H1 : Hp} {μ μ1 : Vw} {Q : List V → Hp → Prop} {v : List Va} {S : Sto} (e : Ex H μ H1 μ1) (h : pL K ff H μ Q v S) : pL K ff H1 μ1 Q v S := fun w H' μ' e' => h w H' μ' (e.trans e')
theorem pF.later {H H1 : Hp} {μ μ1 : Vw} {Q : VK} {v : List Va} {S : Sto} (e : Ex H μ H1 μ1) (h : pF K ff H μ Q v S) : pF K ff H1 μ1 Q v S := fun w H' μ' e' => h w H' μ' (e.trans e')
theorem pO.later {H H1 : Hp} {μ μ1 : Vw} {Q : Option Int → Hp → Prop} {v : Option Int} {S : Sto} (e : Ex H μ H1 μ1) (h : pO K ff H μ Q v S) : pO K ff H1 μ1 Q v S := fun H' μ' e' => h H' μ' (e.trans e')

/-- one value, then what goes on with it -/
theorem tE.then {β : Type} {f : En → Sto → R Va} {g : Va → Sto → R β} {P : β → Sto → Prop} {σ : L2.St} {H : Hp} {μ : Vw} {S : Sto} {η : En} {Q : VK} (rs : RS K ff H μ S) (re : RE K ff.f H μ η σ) (q : ((f η S).bind g).se ff.E P)
    (k : ∀ x S1 w H1 μ1, Ex H μ H1 μ1 → RS K ff H1 μ1 S1 → RE K ff.f H1 μ1 η σ → RV K ff.f H1 μ1 x w → (g x S1).se ff.E P → Q w H1) : tE K ff f σ H Q :=
  ⟨μ, S, η, rs, re, R.se_mono (R.se_bind q) fun x S1 q1 w H1 μ1 e rs1 rv => k x S1 w H1 μ1 e rs1 (re.mono e) rv q1⟩
theorem tT.then {β : Type} {f : En → Sto → R Bool} {g : Bool → Sto → R β} {P : β → Sto → Prop} {σ : L2.St} {H : Hp} {μ : Vw} {S : Sto} {η : En} {Q : Bool → Hp → Prop} (rs : RS K ff H μ S) (re : RE K ff.f H μ η σ) (q : ((f η S).bind g).se ff.E P)
    (k : ∀ x S1 H1 μ1, Ex H μ H1 μ1 → RS K ff H1 μ1 S1 → RE K ff.f H1 μ1 η σ → (g x S1).se ff.E P → Q x H1) : tT K ff f σ H Q :=
  ⟨μ, S, η, rs, re, R.se_mono (R.se_bind q) fun x S1 q1 H1 μ1 e rs1 => k x S1 H1 μ1 e rs1 (re.mono e) q1⟩
theorem tL.then {β : Type} {f : En → Sto → R (List Va)} {g : List Va → Sto → R β} {P : β → Sto → Prop} {σ : L2.St} {H : Hp} {μ : Vw} {S : Sto} {η : En} {Q : List V → Hp → Prop} (rs : RS K ff H μ S) (re : RE K ff.f H μ η σ) (q : ((f η S).bind g).se ff.E P)
    (k : ∀ x S1 w H1 μ1, Ex H μ H1 μ1 → RS K ff H1 μ1 S1 → RE K ff.f H1 μ1 η σ → RVL K ff.f H1 μ1 x w → (g x S1).se ff.E P → Q w H1) : tL K ff f σ H Q :=
  ⟨μ, S, η, rs, re, R.se_mono (R.se_bind q) fun x S1 q1 w H1 μ1 e rs1 rv => k x S1 w H1 μ1 e rs1 (re.mono e) rv q1⟩
theorem tO.then {β : Type} {f : En → Sto → R (Option Int)} {g : Option Int → Sto → R β} {P : β → Sto → Prop} {σ : L2.St} {H : Hp} {μ : Vw} {S : Sto} {η : En} {Q : Option Int → Hp → Prop} (rs : RS K ff H μ S) (re : RE K ff.f H μ η σ) (q : ((f η S).bind g).se ff.E P)
    (k : ∀ x S1 H1 μ1, Ex H μ H1 μ1 → RS K ff H1 μ1 S1 → RE K ff.f H1 μ1 η σ → (g x S1).se ff.E P → Q x H1) : tO K ff f σ H Q :=
  ⟨μ, S, η, rs, re, R.se_mono (R.se_bind q) fun x S1 q1 H1 μ1 e rs1 => k x S1 H1 μ1 e rs1 (re.mono e) q1⟩
end

section
variable {X : Cx} {ff : Fx} {a b c : Expr} {fa fb fc : En → Sto → R Va} {pos : Pos}
/-! ### names, constants -/
theorem de_loc {i : Nat} {x : Str} (hN : X.N[i]? = some x) (hv : Vis X.env.scope x) (hd : (x == ("__debug__" : Str)) = false) (hcd : (x == ("__classdict__" : Str)) = false) :
    PE X (.Name x pos) (tE X.K ff fun η S => match η[i]? with
      | some (some v) => .ok v S
      | _ => .bad) := by
  refine PE.weak (pe_var hN hv hd hcd) fun σ H Q h => ?_
  obtain ⟨μ, S, η, rs, re, q⟩ := h
  dsimp only at q
  split at q
  · rename_i v hv
    obtain ⟨w, h1, h2⟩ := re.at_ i v hv
    exact ⟨w, h1, pK.here rs q h2⟩
  · exact q.elim
theorem de_con {v : V} {d : PyData} {e : Expr} (h : PE X e (tC v)) (r : ∀ H μ, Rp X.K H μ d v) : PE X e (tE X.K ff fun _ S => .ok (.d d) S) :=
  PE.weak h fun σ H Q h => by
    obtain ⟨μ, S, η, rs, re, q⟩ := h
    exact pK.here rs q (.d (r _ _))

/-! ### operators -/
theorem de_bin {op : Operator} {g : Va → Va → Sto → R Va} (ho : OpR X (binaryOp op) (rD2 X.K ff g)) (ha : PE X a (tE X.K ff fa)) (hb : PE X b (tE X.K ff fb)) :
    PE X (.BinOp a op b pos) (tE X.K ff fun η S => (fa η S).bind fun x S1 => (fb η S1).bind fun y S2 => g x y S2) :=
  PE.weak (pe_op ho ha hb) fun σ H Q h => by
    obtain ⟨μ, S, η, rs, re, q⟩ := h
    refine tE.then rs re q fun x S1 w H1 μ1 e1 rs1 re1 rv1 q1 => ?_
    refine tE.then rs1 re1 q1 fun y S2 w2 H2 μ2 e2 rs2 re2 rv2 q2 => ?_
    exact ⟨μ2, S2, x, y, rs2, rv1.mono e2, rv2, R.se_mono q2 fun v S' p => pK.later (e1.trans e2) p⟩
theorem de_neg (ha : PE X a (tE X.K ff fa)) : PE X (.UnaryOp .USub a pos) (tE X.K ff fun η S => (fa η S).bind fun x S1 => match x with
    | .d (.int i) => .ok (.d (.int (-i))) S1
    | _ => .bad) :=
  PE.weak (pe_un un_neg ha) fun σ H Q h => by
    obtain ⟨μ, S, η, rs, re, q⟩ := h
    refine tE.then rs re q fun x S1 w H1 μ1 e1 rs1 re1 rv1 q1 => ?_
    split at q1
    · obtain rfl := Rp.int_inv rv1
      exact ⟨_, rfl, pK.here rs1 (pK.later e1 q1) (.d (.int _))⟩
    · exact q1.elim
theorem de_not (ha : PE X a (tE X.K ff fa)) : PE X (.UnaryOp .Not a pos) (tE X.K ff fun η S => (fa η S).bind fun x S1 => (truth x S1).bind fun b S2 => .ok (.d (.bool (!b))) S2) :=
  PE.weak (pe_notZ ha) fun σ H Q h => by
    obtain ⟨μ, S, η, rs, re, q⟩ := h
    refine tE.then rs re q fun x S1 w H1 μ1 e1 rs1 re1 rv1 q1 => ?_
    obtain ⟨k, t, q2⟩ := truth_of rs1 rv1 (R.se_bind q1)
    exact ⟨k, t, pK.here rs1 (pK.later e1 q2) (.d (.bl _))⟩
theorem dt_not {f : En → Sto → R Bool} (ha : PT X a (tT X.K ff f)) : PT X (.UnaryOp .Not a pos) (tT X.K ff fun η S => (f η S).bind fun b S1 => .ok (!b) S1) :=
  PT.weak (pt_not ha) fun σ H Q h => by
    obtain ⟨μ, S, η, rs, re, q⟩ := h
    refine tT.then rs re q fun x S1 H1 μ1 e1 rs1 re1 q1 => ?_
    exact q1 H1 μ1 e1 rs1
theorem de_and {rest : List Expr} (ha : PE X a (tE X.K ff fa)) (hb : PE X (.BoolOp .And (b :: rest) pos) (tE X.K ff fb)) :
    PE X (.BoolOp .And (a :: b :: rest) pos) (tE X.K ff fun η S => (fa η S).bind fun x S1 => (truth x S1).bind fun t S2 => if t then fb η S2 else .ok x S2) :=
  PE.weak (pe_andZ ha hb) fun σ H Q h => by
    obtain ⟨μ, S, η, rs, re, q⟩ := h
    refine tE.then rs re q fun x S1 w H1 μ1 e1 rs1 re1 rv1 q1 => ?_
    obtain ⟨k, t, q2⟩ := truth_of rs1 rv1 (R.se_bind q1)
    refine ⟨k, t, ?_⟩
    split at q2
    · rename_i hk
      rw [if_pos hk]
      exact ⟨μ1, S1, η, rs1, re1, R.se_mono q2 fun v S' p => pK.later e1 p⟩
    · rename_i hk
      rw [if_neg hk]
      exact pK.here rs1 (pK.later e1 q2) rv1
theorem de_or {rest : List Expr} (ha : PE X a (tE X.K ff fa)) (hb : PE X (.BoolOp .Or (b :: rest) pos) (tE X.K ff fb)) :
    PE X (.BoolOp .Or (a :: b :: rest) pos) (tE X.K ff fun η S => (fa η S).bind fun x S1 => (truth x S1).bind fun t S2 => if t then .ok x S2 else fb η S2) :=
  PE.weak (pe_orZ ha hb) fun σ H Q h => by
    obtain ⟨μ, S, η, rs, re, q⟩ := h
    refine tE.then rs re q fun x S1 w H1 μ1 e1 rs1 re1 rv1 q1 => ?_
    obtain ⟨k, t, q2⟩ := truth_of rs1 rv1 (R.se_bind q1)
    refine ⟨k, t, ?_⟩
    split at q2
    · rename_i hk
      rw [if_pos hk]
      exact pK.here rs1 (pK.later e1 q2) rv1
    · rename_i hk
      rw [if_neg hk]
      exact ⟨μ1, S1, η, rs1, re1, R.se_mono q2 fun v S' p => pK.later e1 p⟩
/-- the truth of a value, as a test -/
def tru (f : En → Sto → R Va) : En → Sto → R Bool := fun η S => (f η S).bind fun x S1 => truth x S1
theorem dt_plain (ha : PE X a (tE X.K ff fa)) (he : ∀ whole, isTrue a X.env whole = (do let v ← whole; standAt a.pos; holding [v] (truthy v))) : PT X a (tT X.K ff (tru fa)) :=
  PT.weak (pt_truZ ha he) fun σ H Q h => by
    obtain ⟨μ, S, η, rs, re, q⟩ := h
    refine tE.then rs re q fun x S1 w H1 μ1 e1 rs1 re1 rv1 q1 => ?_
    obtain ⟨k, t, q2⟩ := truth_of rs1 rv1 q1
    exact ⟨k, t, q2 H1 μ1 e1 rs1⟩
theorem PW.weak {e : Expr} {t t' : TT} (h : PW X e t) (k : ∀ σ H Q, t' σ H Q → t σ H Q) : PW X e t' := ⟨fun wh pins s σ H Q I q => h.run wh pins s σ H Q I (k σ H Q q)⟩
theorem dw_and {rest : List Expr} (ha : PT X a (tT X.K ff (tru fa))) (hb : PW X (.BoolOp .And (b :: rest) pos) (tT X.K ff (tru fb))) :
    PW X (.BoolOp .And (a :: b :: rest) pos) (tT X.K ff (tru fun η S => (fa η S).bind fun x S1 => (truth x S1).bind fun t S2 => if t then fb η S2 else .ok x S2)) :=
  PW.weak (pw_and ha hb) fun σ H Q h => by
    obtain ⟨μ, S, η, rs, re, q⟩ := h
    have q : (((fa η S).bind fun x S1 => truth x S1).bind fun t S2 => if t then tru fb η S2 else .ok false S2).se ff.E (pB X.K ff H μ Q) := by
      cases h1 : fa η S with
      | bad => unfold tru at q; dsimp only at q; rw [h1] at q; exact q
      | ex _ _ => unfold tru at q; dsimp only at q; rw [h1] at q; exact q
      | ok x S1 =>
        unfold tru at q
        dsimp only at q
        rw [h1] at q
        simp only [R.bind_ok] at q ⊢
        cases h2 : truth x S1 with
        | bad => rw [h2] at q; exact q
        | ex _ _ => rw [h2] at q; exact q
        | ok t S2 =>
          rw [h2] at q
          simp only [R.bind_ok] at q ⊢
          cases t with
          | true => exact q
          | false =>
            have q : (truth x S2).se ff.E (pB X.K ff H μ Q) := q
            have e : S2 = S1 := truth_sto h2
            subst e
            rw [h2] at q
            exact q
    refine tT.then rs re q fun t S1 H1 μ1 e1 rs1 re1 q1 => ?_
    cases t with
    | true => exact ⟨μ1, S1, η, rs1, re1, R.se_mono q1 fun v S' p => pB.later e1 p⟩
    | false => exact q1 H1 μ1 e1 rs1
where
  truth_sto {x : Va} {S S' : Sto} {t : Bool} (h : truth x S = .ok t S') : S' = S := by
    unfold truth at h
    split at h <;> first | (cases h; done) | (split at h <;> first | (cases h; done) | (cases h; rfl)) | (cases h; rfl)
theorem dw_or {rest : List Expr} (ha : PT X a (tT X.K ff (tru fa))) (hb : PW X (.BoolOp .Or (b :: rest) pos) (tT X.K ff (tru fb))) :
    PW X (.BoolOp .Or (a :: b :: rest) pos) (tT X.K ff (tru fun η S => (fa η S).bind fun x S1 => (truth x S1).bind fun t S2 => if t then .ok x S2 else fb η S2)) :=
  PW.weak (pw_or ha hb) fun σ H Q h => by
    obtain ⟨μ, S, η, rs, re, q⟩ := h
    have q : (((fa η S).bind fun x S1 => truth x S1).bind fun t S2 => if t then .ok true S2 else tru fb η S2).se ff.E (pB X.K ff H μ Q) := by
      cases h1 : fa η S with
      | bad => unfold tru at q; dsimp only at q; rw [h1] at q; exact q
      | ex _ _ => unfold tru at q; dsimp only at q; rw [h1] at q; exact q
      | ok x S1 =>
        unfold tru at q
        dsimp only at q
        rw [h1] at q
        simp only [R.bind_ok] at q ⊢
        cases h2 : truth x S1 with
        | bad => rw [h2] at q; exact q
        | ex _ _ => rw [h2] at q; exact q
        | ok t S2 =>
          rw [h2] at q
          simp only [R.bind_ok] at q ⊢
          cases t with
          | false => exact q
          | true =>
            have q : (truth x S2).se ff.E (pB X.K ff H μ Q) := q
            have e : S2 = S1 := dw_and.truth_sto h2
            subst e
            rw [h2] at q
            exact q
    refine tT.then rs re q fun t S1 H1 μ1 e1 rs1 re1 q1 => ?_
    cases t with
    | false => exact ⟨μ1, S1, η, rs1, re1, R.se_mono q1 fun v S' p => pB.later e1 p⟩
    | true => exact q1 H1 μ1 e1 rs1
theorem de_ife {f : En → Sto → R Bool} (hc : PT X c (tT X.K ff f)) (ha : PE X a (tE X.K ff fa)) (hb : PE X b (tE X.K ff fb)) :
    PE X (.IfExp c a b pos) (tE X.K ff fun η S => (f η S).bind fun t S2 => if t then fa η S2 else fb η S2) :=
  PE.weak (pe_ifExp hc ha hb) fun σ H Q h => by
    obtain ⟨μ, S, η, rs, re, q⟩ := h
    refine tT.then rs re q fun t S1 H1 μ1 e1 rs1 re1 q1 => ?_
    cases t with
    | true => exact ⟨μ1, S1, η, rs1, re1, R.se_mono q1 fun v S' p => pK.later e1 p⟩
    | false => exact ⟨μ1, S1, η, rs1, re1, R.se_mono q1 fun v S' p => pK.later e1 p⟩
theorem R.bind_assoc {α β γ : Type} (r : R α) (f : α → Sto → R β) (g : β → Sto → R γ) : (r.bind f).bind g = r.bind fun a S => (f a S).bind g := by
  cases r <;> rfl
/-! ### comparisons -/
theorem de_cmp {op : CmpOp} {g : Va → Va → Sto → R Va} (ho : OpR X (compareOp op) (rD2 X.K ff g)) (ha : PE X a (tE X.K ff fa)) (hb : PE X b (tE X.K ff fb)) (hm : behindInMarks op b = false) :
    PE X (.Compare a [op] [b] pos) (tE X.K ff fun η S => (fa η S).bind fun x S1 => (fb η S1).bind fun y S2 => g x y S2) :=
  PE.weak (pe_cmpR ho ha hb hm) fun σ H Q h => by
    obtain ⟨μ, S, η, rs, re, q⟩ := h
    refine tE.then rs re q fun x S1 w H1 μ1 e1 rs1 re1 rv1 q1 => ?_
    refine tE.then rs1 re1 q1 fun y S2 w2 H2 μ2 e2 rs2 re2 rv2 q2 => ?_
    exact ⟨μ2, S2, x, y, rs2, rv1.mono e2, rv2, R.se_mono q2 fun v S' p => pK.later (e1.trans e2) p⟩
theorem dt_cmp {op : CmpOp} {o : Co} (ho : OpR X (compareOp op) (rD2 X.K ff (cmpVa o))) (ha : PE X a (tE X.K ff fa)) (hb : PE X b (tE X.K ff fb)) (hm : behindInMarks op b = false) :
    PT X (.Compare a [op] [b] pos) (tT X.K ff (tru fun η S => (fa η S).bind fun x S1 => (fb η S1).bind fun y S2 => cmpVa o x y S2)) :=
  PT.weak (pt_cmpR ho ha hb hm) fun σ H Q h => by
    obtain ⟨μ, S, η, rs, re, q⟩ := h
    unfold tru at q
    dsimp only at q
    rw [R.bind_assoc] at q
    refine tE.then rs re q fun x S1 w H1 μ1 e1 rs1 re1 rv1 q1 => ?_
    rw [R.bind_assoc] at q1
    refine tE.then rs1 re1 q1 fun y S2 w2 H2 μ2 e2 rs2 re2 rv2 q2 => ?_
    refine ⟨μ2, S2, x, y, rs2, rv1.mono e2, rv2, ?_⟩
    unfold cmpVa at q2 ⊢
    rw [R.bind_assoc] at q2
    cases h3 : cmpV o x y S2 with
    | bad => rw [h3] at q2; exact q2
    | ex _ _ => rw [h3] at q2; exact q2
    | ok r S3 =>
      rw [h3] at q2
      intro w3 H3 μ3 e3 rs3 rv3
      obtain rfl := Rp.bl_inv rv3
      exact ⟨r, rfl, q2 H3 μ3 ((e1.trans e2).trans e3) rs3⟩
theorem de_cmp2 {op op' : CmpOp} {o o' : Co} (ho : OpR X (compareOp op) (rD2 X.K ff (cmpVa o))) (ho' : OpR X (compareOp op') (rD2 X.K ff (cmpVa o'))) (ha : PE X a (tE X.K ff fa)) (hb : PE X b (tE X.K ff fb)) (hc : PE X c (tE X.K ff fc))
    (hm' : behindInMarks op' c = false) :
    PE X (.Compare a [op, op'] [b, c] pos) (tE X.K ff fun η S => (fa η S).bind fun x S1 => (fb η S1).bind fun y S2 => (cmpV o x y S2).bind fun r S3 =>
      if r then (fc η S3).bind fun z S4 => (cmpV o' y z S4).bind fun r' S5 => .ok (.d (.bool r')) S5 else .ok (.d (.bool false)) S3) :=
  PE.weak (pe_chain ho ho' ha hb hc hm') fun σ H Q h => by
    obtain ⟨μ, S, η, rs, re, q⟩ := h
    refine tE.then rs re q fun x S1 w H1 μ1 e1 rs1 re1 rv1 q1 => ?_
    refine tE.then rs1 re1 q1 fun y S2 w2 H2 μ2 e2 rs2 re2 rv2 q2 => ?_
    refine ⟨μ2, S2, x, y, rs2, rv1.mono e2, rv2, ?_⟩
    unfold cmpVa
    cases h3 : cmpV o x y S2 with
    | bad => rw [h3] at q2; exact q2
    | ex _ _ => rw [h3] at q2; exact q2
    | ok r S3 =>
      rw [h3] at q2
      intro w3 H3 μ3 e3 rs3 rv3
      obtain rfl := Rp.bl_inv rv3
      refine ⟨r, rfl, ?_⟩
      have q2 : (if r then (fc η S3).bind fun z S4 => (cmpV o' y z S4).bind fun r' S5 => .ok (.d (.bool r')) S5 else R.ok (.d (.bool false)) S3).se ff.E (pK X.K ff H μ Q) := q2
      cases r with
      | true =>
        refine tE.then rs3 (re2.mono e3) q2 fun z S4 w4 H4 μ4 e4 rs4 re4 rv4 q4 => ?_
        exact ⟨μ4, S4, y, z, rs4, rv2.mono (e3.trans e4), rv4, R.se_mono q4 fun v S' p => pK.later (((e1.trans e2).trans e3).trans e4) p⟩
      | false => exact pK.here rs3 (pK.later ((e1.trans e2).trans e3) q2) (.d (.bl _))
theorem dt_cmp2 {op op' : CmpOp} {o o' : Co} (ho : OpR X (compareOp op) (rD2 X.K ff (cmpVa o))) (ho' : OpR X (compareOp op') (rD2 X.K ff (cmpVa o'))) (ha : PE X a (tE X.K ff fa)) (hb : PE X b (tE X.K ff fb)) (hc : PE X c (tE X.K ff fc))
    (hm' : behindInMarks op' c = false) :
    PT X (.Compare a [op, op'] [b, c] pos) (tT X.K ff (tru fun η S => (fa η S).bind fun x S1 => (fb η S1).bind fun y S2 => (cmpV o x y S2).bind fun r S3 =>
      if r then (fc η S3).bind fun z S4 => (cmpV o' y z S4).bind fun r' S5 => .ok (.d (.bool r')) S5 else .ok (.d (.bool false)) S3)) :=
  PT.weak (pt_chain ho ho' ha hb hc hm') fun σ H Q h => by
    obtain ⟨μ, S, η, rs, re, q⟩ := h
    unfold tru at q
    dsimp only at q
    rw [R.bind_assoc] at q
    refine tE.then rs re q fun x S1 w H1 μ1 e1 rs1 re1 rv1 q1 => ?_
    rw [R.bind_assoc] at q1
    refine tE.then rs1 re1 q1 fun y S2 w2 H2 μ2 e2 rs2 re2 rv2 q2 => ?_
    refine ⟨μ2, S2, x, y, rs2, rv1.mono e2, rv2, ?_⟩
    unfold cmpVa
    rw [R.bind_assoc] at q2
    cases h3 : cmpV o x y S2 with
    | bad => rw [h3] at q2; exact q2
    | ex _ _ => rw [h3] at q2; exact q2
    | ok r S3 =>
      rw [h3] at q2
      intro w3 H3 μ3 e3 rs3 rv3
      obtain rfl := Rp.bl_inv rv3
      refine ⟨r, rfl, ?_⟩
      cases r with
      | true =>
        have q2 : (((fc η S3).bind fun z S4 => (cmpV o' y z S4).bind fun r' S5 => .ok (.d (.bool r')) S5).bind fun x S1 => truth x S1).se ff.E (pB X.K ff H μ Q) := q2
        rw [R.bind_assoc] at q2
        refine tE.then rs3 (re2.mono e3) q2 fun z S4 w4 H4 μ4 e4 rs4 re4 rv4 q4 => ?_
        refine ⟨μ4, S4, y, z, rs4, rv2.mono (e3.trans e4), rv4, ?_⟩
        rw [R.bind_assoc] at q4
        show (((cmpV o' y z S4).bind fun r S => R.ok (Va.d (PyData.bool r)) S) : R Va).se ff.E _
        cases h5 : cmpV o' y z S4 with
        | bad => rw [h5] at q4; exact q4
        | ex _ _ => rw [h5] at q4; exact q4
        | ok r5 S5 =>
          rw [h5] at q4
          intro w6 H6 μ6 e6 rs6 rv6
          obtain rfl := Rp.bl_inv rv6
          exact ⟨r5, rfl, q4 H6 μ6 ((((e1.trans e2).trans e3).trans e4).trans e6) rs6⟩
      | false => exact ⟨false, rfl, q2 H3 μ3 ((e1.trans e2).trans e3) rs3⟩
end
end Nb

namespace Nb
open PySem L2 PySem.Spec PyProof.Rows
section
variable {X : Cx} {ff : Fx} {a b c : Expr} {fa fb fc : En → Sto → R Va} {pos : Pos}
/-! ### subscripts, slices -/
theorem de_ix (hu : X.A.units + 1 < cLine) (hg : GdOk X.K X.w ff.f) (ha : PE X a (tE X.K ff fa)) (hb : PE X b (tE X.K ff fb)) (hs : PlainIx b) :
    PE X (.Subscript a b pos) (tE X.K ff fun η S => (fa η S).bind fun x S1 => (fb η S1).bind fun y S2 => getV x y S2) :=
  PE.weak (pe_ix (ixd_get (ff := ff) hu hg) ha hb hs) fun σ H Q h => by
    obtain ⟨μ, S, η, rs, re, q⟩ := h
    refine tE.then rs re q fun x S1 w H1 μ1 e1 rs1 re1 rv1 q1 => ?_
    refine tE.then rs1 re1 q1 fun y S2 w2 H2 μ2 e2 rs2 re2 rv2 q2 => ?_
    exact ⟨μ2, S2, x, y, rs2, rv1.mono e2, rv2, R.se_mono q2 fun v S' p => pK.later (e1.trans e2) p⟩
theorem PO.weak {e : Option Expr} {t t' : TO} (h : PO X e t) (k : ∀ σ H Q, t' σ H Q → t σ H Q) : PO X e t' := ⟨fun pins s σ H Q I q => h.run pins s σ H Q I (k σ H Q q)⟩
theorem do_no : PO X none (tO X.K ff fun _ S => .ok none S) := PO.weak po_none fun σ H Q h => by
  obtain ⟨μ, S, η, rs, re, q⟩ := h
  exact q H μ (Ex.refl _ _) rs
theorem do_so (ha : PE X a (tE X.K ff fa)) : PO X (some a) (tO X.K ff fun η S => (fa η S).bind fun x S1 => match x with
    | .d (.int i) => .ok (some i) S1
    | _ => .bad) := PO.weak (po_some ha) fun σ H Q h => by
  obtain ⟨μ, S, η, rs, re, q⟩ := h
  refine tE.then rs re q fun x S1 w H1 μ1 e1 rs1 re1 rv1 q1 => ?_
  split at q1
  · obtain rfl := Rp.int_inv rv1
    exact ⟨_, rfl, q1 H1 μ1 e1 rs1⟩
  · exact q1.elim
theorem de_sl {lo hi : Option Expr} {p2 : Pos} {fl fh : En → Sto → R (Option Int)} (ha : PE X a (tE X.K ff fa)) (hl : PO X lo (tO X.K ff fl)) (hh : PO X hi (tO X.K ff fh)) :
    PE X (.Subscript a (.Slice lo hi none p2) pos) (tE X.K ff fun η S => (fa η S).bind fun x S1 => (fl η S1).bind fun l S2 => (fh η S2).bind fun h S3 => slV x l h S3) :=
  PE.weak (pe_slice (sld (ff := ff)) ha hl hh) fun σ H Q h => by
    obtain ⟨μ, S, η, rs, re, q⟩ := h
    refine tE.then rs re q fun x S1 w H1 μ1 e1 rs1 re1 rv1 q1 => ?_
    refine tO.then rs1 re1 q1 fun y S2 H2 μ2 e2 rs2 re2 q2 => ?_
    refine tO.then rs2 re2 q2 fun z S3 H3 μ3 e3 rs3 re3 q3 => ?_
    exact ⟨μ3, S3, x, rs3, rv1.mono (e2.trans e3), R.se_mono q3 fun v S' p => pK.later ((e1.trans e2).trans e3) p⟩

/-! ### argument lists, tuples -/
theorem star_cons (e : Expr) (es : List Expr) (env : Env) (h : ∀ x p, e ≠ .Starred x p) : starEach (e :: es) env = (false, eval e env) :: starEach es env := by
  cases e <;> first | rfl | exact absurd rfl (h _ _)
theorem dl_nil : PA X [] (tL X.K ff fun _ S => .ok [] S) := PA.weak pa_nil fun σ H Q h => by
  obtain ⟨μ, S, η, rs, re, q⟩ := h
  exact q [] H μ (Ex.refl _ _) rs .nil
theorem dl_cons {es : List Expr} {f : En → Sto → R (List Va)} (ha : PE X a (tE X.K ff fa)) (hr : PA X es (tL X.K ff f)) (hs : ∀ x p, a ≠ .Starred x p) :
    PA X (a :: es) (tL X.K ff fun η S => (fa η S).bind fun x S1 => (f η S1).bind fun l S2 => .ok (x :: l) S2) :=
  PA.weak (pa_cons ha hr (star_cons _ _ _ hs)) fun σ H Q h => by
    obtain ⟨μ, S, η, rs, re, q⟩ := h
    refine tE.then rs re q fun x S1 w H1 μ1 e1 rs1 re1 rv1 q1 => ?_
    refine tL.then rs1 re1 q1 fun l S2 ws H2 μ2 e2 rs2 re2 rv2 q2 => ?_
    exact q2 _ H2 μ2 (e1.trans e2) rs2 (.cons (rv1.mono e2) rv2)
theorem de_tup {es : List Expr} {k : Nat} {f : En → Sto → R (List Va)} (h : PA X es (tL X.K ff f)) (hf : ∀ η S, (f η S).se (fun _ _ => True) (fun l _ => l.length ≤ 1000) ∨ f η S = .bad) :
    PE X (.Tuple es k pos) (tE X.K ff fun η S => (f η S).bind fun l S1 => .ok (mkTup l) S1) :=
  PE.weak (pe_tupZ h) fun σ H Q h => by
    obtain ⟨μ, S, η, rs, re, q⟩ := h
    dsimp only at q
    have hl : ((f η S).se ff.E fun l S1 => l.length ≤ 1000 ∧ pK X.K ff H μ Q (mkTup l) S1) := by
      cases h1 : f η S with
      | bad => rw [h1] at q; exact q
      | ex _ _ => rw [h1] at q; exact q
      | ok l S1 =>
        rw [h1] at q
        rcases hf η S with z | z
        · rw [h1] at z; exact ⟨z, q⟩
        · rw [h1] at z; cases z
    refine ⟨μ, S, η, rs, re, R.se_mono hl fun l S1 ⟨hl, q1⟩ ws H1 μ1 e1 rs1 rv1 => ⟨?_, fun p o hp hd => ?_⟩⟩
    · rw [← rv1.length]
      exact Nat.le_trans hl (by decide)
    · have hz : l.length ≤ sizeLine := Nat.le_trans hl (by decide)
      have e2 : Ex H1 μ1 (upd H1 p (.frz o (.tup ws))) (μ1.add p) := Ex.new1 hp
      have ta : TZ X.K (upd H1 p (.frz o (.tup ws))) (μ1.add p) p ws := .inl ⟨o, upd_same, hd, rs1.fresh hp, .inr rfl⟩
      refine q1 _ _ (μ1.add p) (e1.trans e2) (rs1.new1 hp) ?_
      unfold mkTup
      split
      · rename_i ds hd
        have t := rv1.pure hd
        exact .d (.tup ta (t.mono e2) (by rw [t.length, ← rv1.length]; exact hz))
      · exact .tup ta.ta (rv1.mono e2) hz

/-! ### new lists -/
theorem df_disp {es : List Expr} {f : En → Sto → R (List Va)} (h : PA X es (tL X.K ff f)) (hf : ∀ η S, (f η S).se (fun _ _ => True) (fun l _ => l.length ≤ 1000) ∨ f η S = .bad) : PE X (.List es pos) (tF X.K ff f) :=
  PE.weak (pe_lst h) fun σ H Q h => by
    obtain ⟨μ, S, η, rs, re, q⟩ := h
    have hl : ((f η S).se ff.E fun l S1 => l.length ≤ 1000 ∧ pF X.K ff H μ Q l S1) := by
      cases h1 : f η S with
      | bad => rw [h1] at q; exact q
      | ex _ _ => rw [h1] at q; exact q
      | ok l S1 =>
        rw [h1] at q
        rcases hf η S with z | z
        · rw [h1] at z; exact ⟨z, q⟩
        · rw [h1] at z; cases z
    refine ⟨μ, S, η, rs, re, R.se_mono hl fun l S1 ⟨hl, q1⟩ ws H1 μ1 e1 rs1 rv1 => ?_⟩
    have hz : l.length ≤ sizeLine := Nat.le_trans hl (by decide)
    exact ⟨by rw [← rv1.length]; exact hz, q1 ws H1 μ1 e1 rs1 rv1 hz⟩
theorem items_of {K : PySem.W.Frag} {H : Hp} {μ : Vw} {S : Sto} {x : Va} {v : V} {Q : List Va → Sto → Prop} (rs : RS K ff H μ S) (r : RV K ff.f H μ x v) (q : (items x S).se ff.E Q) :
    ∃ a xs l, v = .ref a ∧ Ls K H a xs ∧ RVL K ff.f H μ l xs ∧ Q l S := by
  unfold items at q
  split at q <;> first | (exact q.elim) | skip
  · obtain ⟨a, xs, rfl, h, t, z⟩ := Rp.lst_inv r
    exact ⟨a, xs, _, rfl, h.rd, RVL.of t, q⟩
  · split at q
    · rename_i hS
      obtain ⟨a, rfl, ha⟩ := RV.ref_inv r
      obtain ⟨xs, h, t⟩ := rs.lst ha hS
      exact ⟨a, xs, _, rfl, .inl (.inl h), t, q⟩
    · exact q.elim
theorem df_cat (ha : PE X a (tE X.K ff fa)) (hb : PE X b (tE X.K ff fb)) :
    PE X (.BinOp a .Add b pos) (tF X.K ff fun η S => (fa η S).bind fun x S1 => (fb η S1).bind fun y S2 => (items x S2).bind fun l S3 => (items y S3).bind fun m S4 => if l.length + m.length ≤ sizeLine then .ok (l ++ m) S4 else .bad) :=
  PE.weak (pe_op op_catL ha hb) fun σ H Q h => by
    obtain ⟨μ, S, η, rs, re, q⟩ := h
    refine tE.then rs re q fun x S1 w H1 μ1 e1 rs1 re1 rv1 q1 => ?_
    refine tE.then rs1 re1 q1 fun y S2 w2 H2 μ2 e2 rs2 re2 rv2 q2 => ?_
    obtain ⟨p, xs, l, rfl, h1, t1, q3⟩ := items_of rs2 (rv1.mono e2) (R.se_bind q2)
    obtain ⟨p', ys, m, rfl, h2, t2, q4⟩ := items_of rs2 rv2 (R.se_bind q3)
    split at q4
    · rename_i hz
      have l1 := t1.length
      have l2 := t2.length
      exact ⟨p, p', xs, ys, rfl, rfl, h1, h2, by omega, q4 _ H2 μ2 (e1.trans e2) rs2 (t1.append t2) (by rw [List.length_append]; exact hz)⟩
    · exact q4.elim
/-- what is wanted may lean on the lengths that the heap itself bears -/
theorem PE.lens {e : Expr} {t : TE} (h : PE X e t) : PE X e (fun σ H Q => t σ H fun v H1 => (∀ a xs, SqL X.K H1 a xs → xs.length ≤ sizeLine) → (∀ a xs, SqT X.K H1 a xs → xs.length ≤ sizeLine) → Q v H1) :=
  ⟨fun pins s σ H Q I q => thn (h.run pins s σ H _ I q) fun u s1 ⟨v, H1, I1, r1, q1⟩ => ⟨v, H1, I1, r1, q1 (fun _ _ z => Inv.lenL I1 z) (fun _ _ z => Inv.lenT I1 z)⟩⟩
theorem df_rev {k : Nat} {p1 p2 p3 : Pos} (ha : PE X a (tE X.K ff fa)) :
    PE X (.Subscript a (.Slice none none (some (.UnaryOp .USub (.Constant (.int 1) k p1) p2)) p3) pos) (tF X.K ff fun η S => (fa η S).bind fun x S1 => (items x S1).bind fun l S2 => .ok l.reverse S2) :=
  PE.weak (pe_revL (PE.lens ha)) fun σ H Q h => by
    obtain ⟨μ, S, η, rs, re, q⟩ := h
    refine tE.then rs re q fun x S1 w H1 μ1 e1 rs1 re1 rv1 q1 lL lT => ?_
    obtain ⟨p, xs, l, rfl, h1, t1, q3⟩ := items_of rs1 rv1 (R.se_bind q1)
    refine ⟨p, xs, rfl, h1.sq, q3 _ H1 μ1 e1 rs1 t1.reverse ?_⟩
    rw [List.length_reverse, t1.length]
    exact lL p xs h1.sq
/-- T(e), T a type whose call is told by values -/
theorem df_list {p : Pos} {x : Str} (hx : x = "list") (ha : PA X [a] (tL X.K ff fun η S => (fa η S).bind fun x S1 => .ok [x] S1)) (hs : ∀ x p, a ≠ .Starred x p) (hg : Gl X x) (hm : X.mg x = none) :
    PE X (.Call (.Name x p) [a] [] pos) (tF X.K ff fun η S => (fa η S).bind fun x S1 => seqOf x S1) := by
  subst hx
  have hc : CallR X (.type "list") (fun xs H Q => ∃ p ys, xs = [.ref p] ∧ (SqL X.K H p ys ∨ SqT X.K H p ys) ∧ (ys.length ≤ sizeLine → ∀ l, H l = none → Q (.ref l) (upd H l (.lst ys)))) := by
    intro pins s σ H xs us Q I r h
    obtain ⟨p, ys, rfl, h1, q⟩ := h
    refine call_list_of pins s σ H _ us Q I r ⟨p, ys, rfl, h1, q ?_⟩
    rcases h1 with h1 | h1
    · exact Inv.lenL I h1
    · exact Inv.lenT I h1
  refine PE.weak (pe_callTy hc hg hm (by decide +kernel) ha (by decide) (by decide) (star_cons _ _ _ hs) rfl) fun σ H Q h => ?_
  obtain ⟨μ, S, η, rs, re, q⟩ := h
  have q : (((fa η S).bind fun x S1 => R.ok [x] S1).bind fun l S1 => match l with | [x] => seqOf x S1 | _ => R.bad).se ff.E (pF X.K ff H μ Q) := by
    rw [R.bind_assoc]
    exact q
  refine tL.then rs re q fun l S1 ws H1 μ1 e1 rs1 re1 rv1 q1 => ?_
  match l, rv1, q1 with
  | [x], .cons rx .nil, q1 =>
    obtain ⟨p, xs, l, rfl, h1, t1, q3, _⟩ := seq_of rs1 rx q1
    exact ⟨p, xs, rfl, h1, fun hz => q3 _ H1 μ1 e1 rs1 t1 (by rw [t1.length]; exact hz)⟩
  | [], _, q1 => exact q1.elim
  | _ :: _ :: _, _, q1 => exact q1.elim
/-- a new list that nobody changes; a new list as a cell -/
theorem de_fz {f : En → Sto → R (List Va)} (h : PE X a (tF X.K ff f)) : PE X a (tE X.K ff fun η S => (f η S).bind fun l S1 => freeze l S1) :=
  PE.weak h fun σ H Q h => by
    obtain ⟨μ, S, η, rs, re, q⟩ := h
    refine ⟨μ, S, η, rs, re, R.se_mono (R.se_bind q) fun l S1 q1 ws H1 μ1 e1 rs1 rv1 hz p hp => ?_⟩
    unfold freeze at q1
    split at q1
    · rename_i ds hd
      have t := rv1.pure hd
      exact pK.newLst rs1 (pK.later e1 q1) t (by rw [pureL_length hd]; exact hz) p hp
    · exact q1.elim
theorem de_mk {f : En → Sto → R (List Va)} (h : PE X a (tF X.K ff f)) : PE X a (tE X.K ff fun η S => (f η S).bind fun l S1 => alloc (.lst l) S1) :=
  PE.weak h fun σ H Q h => by
    obtain ⟨μ, S, η, rs, re, q⟩ := h
    refine ⟨μ, S, η, rs, re, R.se_mono (R.se_bind q) fun l S1 q1 ws H1 μ1 e1 rs1 rv1 hz p hp => ?_⟩
    have e2 : Ex H1 μ1 (upd H1 p (.lst ws)) (μ1.cell p) := Ex.cellNew hp
    exact q1 _ _ _ (e1.trans e2) (rs1.cellNew hp ⟨ws, upd_same, rv1.mono e2⟩) (.ref (by rw [← rs1.len]; simp [Vw.cell]))

/-! ### built-in functions -/
theorem de_blt {es : List Expr} {x : Str} {p : Pos} {id : String} {f : En → Sto → R (List Va)} {g : List Va → Sto → R Va} (hc : CallR X (.builtin id) (rDL X.K ff g)) (hg : Gl X x) (hm : X.mg x = none) (hv : bootBuiltins x = some (.builtin id))
    (ha : PA X (a :: es) (tL X.K ff f)) (hn : x ≠ "__name__") (hdb : (x == ("__debug__" : Str)) = false) (hs : ∀ x p, a ≠ .Starred x p) (hpl : (backTo pos (starEach es X.env)).any (·.1) = false) :
    PE X (.Call (.Name x p) (a :: es) [] pos) (tE X.K ff fun η S => (f η S).bind fun l S1 => g l S1) :=
  PE.weak (pe_callB hc hg hm hv ha hn hdb (star_cons _ _ _ hs) hpl) fun σ H Q h => by
    obtain ⟨μ, S, η, rs, re, q⟩ := h
    refine tL.then rs re q fun l S1 ws H1 μ1 e1 rs1 re1 rv1 q1 => ?_
    exact ⟨μ1, S1, l, rs1, rv1, R.se_mono q1 fun v S' p => pK.later e1 p⟩
theorem de_bltT {es : List Expr} {x : Str} {p : Pos} {id : String} {f : En → Sto → R (List Va)} {g : List Va → Sto → R Va} (hc : CallR X (.type id) (rDL X.K ff g)) (hg : Gl X x) (hm : X.mg x = none) (hv : bootBuiltins x = some (.type id))
    (ha : PA X (a :: es) (tL X.K ff f)) (hn : x ≠ "__name__") (hdb : (x == ("__debug__" : Str)) = false) (hs : ∀ x p, a ≠ .Starred x p) (hpl : (backTo pos (starEach es X.env)).any (·.1) = false) :
    PE X (.Call (.Name x p) (a :: es) [] pos) (tE X.K ff fun η S => (f η S).bind fun l S1 => g l S1) :=
  PE.weak (pe_callTy hc hg hm hv ha hn hdb (star_cons _ _ _ hs) hpl) fun σ H Q h => by
    obtain ⟨μ, S, η, rs, re, q⟩ := h
    refine tL.then rs re q fun l S1 ws H1 μ1 e1 rs1 re1 rv1 q1 => ?_
    exact ⟨μ1, S1, l, rs1, rv1, R.se_mono q1 fun v S' p => pK.later e1 p⟩

/-! ### methods -/
theorem mtd_append : MtR X "list.append" (fun x xs H Q => ∃ μ S o l, RS X.K ff H μ S ∧ RV X.K ff.f H μ o x ∧ RVL X.K ff.f H μ l xs ∧ (appV o l S).se ff.E (pK X.K ff H μ Q)) := by
  intro pins s σ H x xs v us Q I rx rxs h
  obtain ⟨μ, S, o, l, rs, ro, rl, q⟩ := h
  unfold appV at q
  split at q
  · rename_i n y _ e
    split at q
    · rename_i l' hS
      split at q
      · rename_i hz
        obtain ⟨a, rfl, ha⟩ := RV.ref_inv ro
        obtain ⟨ws, h1, t1⟩ := rs.lst ha hS
        obtain ⟨wv, rfl, ry⟩ : ∃ wv, xs = [wv] ∧ RV X.K ff.f H μ _ wv := by
          cases rl with
          | cons ry rl =>
            cases rl
            exact ⟨_, rfl, ry⟩
        have e2 : Ex H μ (upd H a (.lst (ws ++ [wv]))) μ := Ex.write (List.mem_of_getElem? ha)
        refine mt_append pins s σ H _ _ v us Q I rx rxs ⟨a, ws, wv, rfl, rfl, h1, by rw [← t1.length]; exact hz, ?_⟩
        exact q _ _ μ e2 (rs.write ha ⟨_, upd_same, (t1.append (.cons ry .nil)).mono e2⟩) (.d .non)
      · exact q.elim
    · exact q.elim
  · exact q.elim
theorem base_ok {o : Expr} {name : Str} {env : Env} {whole : Sem Value} (h : ∀ f p pos, o ≠ .Call (.Name f p) [] [] pos) : attributeBase o name env whole = whole := by
  unfold attributeBase
  split
  · rename_i id p pos
    exact absurd rfl (h id p pos)
  · rfl
theorem recv_of {K : PySem.W.Frag} {H : Hp} {μ : Vw} {S : Sto} {x : Va} {v : V} {Q : Unit → Sto → Prop} (rs : RS K ff H μ S) (r : RV K ff.f H μ x v) (q : (isLs x S).se ff.E Q) : tyV K "list" v H ∧ Q () S := by
  unfold isLs at q
  split at q
  · split at q
    · rename_i hS
      obtain ⟨a, rfl, ha⟩ := RV.ref_inv r
      obtain ⟨ws, h1, t1⟩ := rs.lst ha hS
      exact ⟨.inl ⟨rfl, _, SqL.of h1⟩, q⟩
    · exact q.elim
  · exact q.elim
theorem de_append {e : Expr} {name : Str} {apos : Pos} {f : En → Sto → R (List Va)} (hn : name = "append") (ha : PE X a (tE X.K ff fa)) (hA : PA X [e] (tL X.K ff f)) (hs : ∀ x p, e ≠ .Starred x p) (ho : ∀ f p pos, a ≠ .Call (.Name f p) [] [] pos) (hline : (apos.endLine == pos.line) = true) :
    PE X (.Call (.Attribute a name apos) [e] [] pos) (tE X.K ff fun η S => (fa η S).bind fun x S1 => (recv .append x S1).bind fun _ S1 => (f η S1).bind fun l S2 => metV .append x l S2) := by
  subst hn
  refine PE.weak (pe_bm PySem.F.plainAttrs_list PySem.F.slot_list_append PySem.F.type_list_append (mtd_append (ff := ff)) ha hA (base_ok ho) ?_ hline (star_cons _ _ _ hs) rfl) fun σ H Q h => ?_
  · rw [star_cons _ _ _ hs]
    rfl
  · obtain ⟨μ, S, η, rs, re, q⟩ := h
    refine tE.then rs re q fun x S1 w H1 μ1 e1 rs1 re1 rv1 q1 => ?_
    obtain ⟨ty, q1⟩ := recv_of rs1 rv1 (R.se_bind q1)
    refine ⟨ty, tL.then rs1 re1 q1 fun l S2 ws H2 μ2 e2 rs2 re2 rv2 q2 => ?_⟩
    exact ⟨μ2, S2, x, l, rs2, rv1.mono e2, rv2, R.se_mono q2 fun v S' p => pK.later (e1.trans e2) p⟩
end
end Nb

namespace Nb
open PySem L2 PySem.Spec PyProof.Rows
/-! ### exceptions, as they lie -/
/-- its own fields stand in the dict d -/
def XRep (K : PySem.W.Frag) (mg : Str → Option Value) (H : Hp) (μ : Vw) (x : Xn) (cls : Value) (d : Option Addr) : Prop :=
  ∃ c : Addr, mg x.cn = some (.ref c) ∧ cls = .ref c ∧ ((d = none ∧ x.fs = []) ∨ ∃ dx vs, d = some dx ∧ dx ∉ μ.ad ∧ H dx = some (.xd ((x.fs.map (·.1)).zip vs)) ∧ RpL K H μ (x.fs.map (·.2)) vs)
theorem XRep.mono {K : PySem.W.Frag} {mg : Str → Option Value} {H H' : Hp} {μ μ' : Vw} {x : Xn} {cls : Value} {d : Option Addr} (h : XRep K mg H μ x cls d) (e : Ex H μ H' μ') : XRep K mg H' μ' x cls d := by
  obtain ⟨c, h1, h2, h3⟩ := h
  refine ⟨c, h1, h2, ?_⟩
  rcases h3 with h3 | ⟨dx, vs, h4, h5, h6, h7⟩
  · exact .inl h3
  · exact .inr ⟨dx, vs, h4, e.out h6 h5, e.keep _ _ h6 h5, h7.mono e⟩
/-- what is wanted of an exception, on the heap -/
def WX (K : PySem.W.Frag) (mg : Str → Option Value) (ff : Fx) : XK := fun cls d H => ∃ x S μ, ff.E x S ∧ RS K ff H μ S ∧ XRep K mg H μ x cls d
/-- nothing is wanted of them: none may come -/
abbrev Fx.calm (ff : Fx) : Fx := ⟨ff.f, ff.H0, ff.μ0, fun _ _ => False⟩
theorem RS.toCalm {K : PySem.W.Frag} {ff : Fx} {H : Hp} {μ : Vw} {S : Sto} (r : RS K ff H μ S) : RS K ff.calm H μ S := r.re rfl r.his
theorem RS.ofCalm {K : PySem.W.Frag} {ff : Fx} {H : Hp} {μ : Vw} {S : Sto} (r : RS K ff.calm H μ S) : RS K ff H μ S := r.re rfl r.his
theorem R.se_nx {α : Type} {E E' : Xn → Sto → Prop} {r : R α} {Q : α → Sto → Prop} (h : r.nx.se E Q) : r.se E' Q := by
  cases r with
  | ok a S => exact h
  | bad => exact h
  | ex x S => exact h.elim
theorem tE_calm {K : PySem.W.Frag} {ff : Fx} {f : En → Sto → R Va} {σ : L2.St} {H : Hp} {Q : VK} (h : tE K ff (fun η S => (f η S).nx) σ H Q) : tE K ff.calm f σ H Q := by
  obtain ⟨μ, S, η, rs, re, q⟩ := h
  exact ⟨μ, S, η, rs.toCalm, re, R.se_mono (R.se_nx q) fun x S' p w H' μ' e rs' rv => p w H' μ' e rs'.ofCalm rv⟩
theorem tF_calm {K : PySem.W.Frag} {ff : Fx} {f : En → Sto → R (List Va)} {σ : L2.St} {H : Hp} {Q : VK} (h : tF K ff (fun η S => (f η S).nx) σ H Q) : tF K ff.calm f σ H Q := by
  obtain ⟨μ, S, η, rs, re, q⟩ := h
  exact ⟨μ, S, η, rs.toCalm, re, R.se_mono (R.se_nx q) fun x S' p w H' μ' e rs' rv => p w H' μ' e rs'.ofCalm rv⟩
/-! ### own functions: called where no repr runs -/
structure FnG (P : Program) (w : World) (K : PySem.W.Frag) (mg : Str → Option Value) (base : Heap) (f0 : Gx → V → Prop) (k : Nat) (f : Addr) (fd : FuncData) (ps : List Str) (g : List Va → Sto → R Va) : Prop where
  run : ∀ (ff : Fx), ff.f = f0 → ∀ (A : Around) (outer : List Env) (s : Shared) (H : Hp) (args : Args) (us : List Value) (vs : List V) (Q : VK), Room k A → A.guards = some [] → Env0 P w K mg base A outer s H → BindsTo s fd args (ps.zip us) → Vals vs us → vs.length = ps.length → rDL K ff g vs H Q →
    codeAny (model P w) A (.call (.ref f) args) (CR (CX P w) outer P w H s Q (WX K mg ff)) s
theorem FnG.mono {P : Program} {w : World} {K : PySem.W.Frag} {mg : Str → Option Value} {base : Heap} {f0 : Gx → V → Prop} {j k : Nat} {f : Addr} {fd : FuncData} {ps : List Str} {g : List Va → Sto → R Va} (F : FnG P w K mg base f0 j f fd ps g) (h : j ≤ k) : FnG P w K mg base f0 k f fd ps g :=
  ⟨fun ff e A outer s H args us vs Q hr => F.run ff e A outer s H args us vs Q (hr.mono h)⟩
/-- what a call by a name of the module leads to -/
structure Cal (X : Cx) (ff : Fx) (x : Str) (n : Nat) (g : List Va → Sto → R Va) : Prop where
  ex : ∃ k f fd ps, FnG X.prog X.w X.K X.mg X.base ff.f k f fd ps g ∧ Room k X.A ∧ ps.length = n ∧ X.mg x = some (.ref f) ∧ PySem.W.keepIn X.K (.ref f) = true ∧ Binds X.K fd ps []
  px : Passes (CX X.prog X.w) X (WX X.K X.mg ff)
section
variable {X : Cx} {ff : Fx} {a b c : Expr} {fa fb fc : En → Sto → R Va} {pos : Pos}
theorem run_fnG {k : Nat} {f : Addr} {fd : FuncData} {ps : List Str} {g : List Va → Sto → R Va} {pins : List (Addr × Obj)} {σ : L2.St} {H : Hp} {s : Shared} {Q : VK} {us : List Value} {vs : List V} (F : FnG X.prog X.w X.K X.mg X.base ff.f k f fd ps g) (px : Passes (CX X.prog X.w) X (WX X.K X.mg ff)) (hr : Room k X.A) (hgd : X.A.guards = some []) (hb : Binds X.K fd ps [])
    (I : L2.Inv X pins σ H s) (r : Vals vs us) (hl : vs.length = ps.length) (h : rDL X.K ff g vs H Q) : wpAny (model X.prog X.w) X.A (call (.ref f) us) (EP X pins σ Q) X.xe s := by
  have hlu : (us ++ []).length = ps.length := by rw [List.append_nil, ← r.length]; exact hl
  have hb' := hb s us I.kIn hlu
  rw [List.append_nil] at hb'
  refine wpAny_call (codeAny_mono (F.run ff rfl X.A X.stack s H ⟨us, []⟩ us vs Q hr hgd I.env0 hb' r hl h) fun r s' hq => ?_)
  cases r with
  | error e => exact px pins σ H s e s' I hq
  | ok fl =>
    cases fl with
    | ret u => exact I.after hq
    | next => exact False.elim hq
    | brk => exact False.elim hq
    | cont => exact False.elim hq
theorem de_call {es : List Expr} {x : Str} {p : Pos} {n : Nat} {f : En → Sto → R (List Va)} {g : List Va → Sto → R Va} (C : Cal X ff x n g) (hgd : X.A.guards = some []) (hg : Gl X x) (ha : PA X (a :: es) (tL X.K ff f))
    (hn : ∀ η S, (f η S).se (fun _ _ => True) (fun l _ => l.length = n) ∨ f η S = .bad) (hdb : (x == ("__debug__" : Str)) = false) (hs : ∀ x p, a ≠ .Starred x p) (hpl : (backTo pos (starEach es X.env)).any (·.1) = false) :
    PE X (.Call (.Name x p) (a :: es) [] pos) (tE X.K ff fun η S => (f η S).bind fun l S1 => g l S1) := by
  obtain ⟨k, fa, fd, ps, F, hr, hps, hm, hk, hb⟩ := C.ex
  refine ⟨fun pins s σ H Q I h => ?_⟩
  obtain ⟨μ, S, η, rs, re, q⟩ := h
  dsimp only at q
  refine wpAny_Call_Name_kw (ld_glob I hg hm ?_ hdb)
  have hl : ((f η S).se ff.E fun l S1 => l.length = n ∧ (g l S1).se ff.E (pK X.K ff H μ Q)) := by
    cases h1 : f η S with
    | bad => rw [h1] at q; exact q
    | ex _ _ => rw [h1] at q; exact q
    | ok l S1 =>
      rw [h1] at q
      rcases hn η S with z | z
      · rw [h1] at z; exact ⟨z, q⟩
      · rw [h1] at z; cases z
  refine PySem.W.callWith_K (h₀ := X.base) I.ok.mod.kin hk (thn (ha.run pos pins s σ H (fun vs H1 => vs.length = ps.length ∧ rDL X.K ff g vs H1 Q) I ?_) fun us s1 ⟨vs, H1, I1, r, hl, q⟩ => ⟨I1.kIn, ?_⟩) (star_cons _ _ _ hs) hpl
  · refine ⟨μ, S, η, rs, re, R.se_mono hl fun l S1 ⟨hl, q1⟩ ws H1 μ1 e1 rs1 rv1 => ⟨?_, ?_⟩⟩
    · rw [← rv1.length, hl, hps]
    · exact ⟨μ1, S1, l, rs1, rv1, R.se_mono q1 fun v S' p => pK.later e1 p⟩
  · exact run_fnG F C.px hr hgd hb I1 r hl q
theorem de_call0 {x : Str} {p : Pos} {g : List Va → Sto → R Va} (C : Cal X ff x 0 g) (hgd : X.A.guards = some []) (hg : Gl X x) (hdb : (x == ("__debug__" : Str)) = false) :
    PE X (.Call (.Name x p) [] [] pos) (tE X.K ff fun η S => g [] S) := by
  obtain ⟨k, fa, fd, ps, F, hr, hps, hm, hk, hb⟩ := C.ex
  refine ⟨fun pins s σ H Q I h => ?_⟩
  obtain ⟨μ, S, η, rs, re, q⟩ := h
  dsimp only at q
  refine wpAny_Call_Name_kw (ld_glob I hg hm ?_ hdb)
  exact PySem.W.callWith_K0 I.kIn hk (run_fnG (us := []) F C.px hr hgd hb I .nil (by rw [hps]; rfl) ⟨μ, S, [], rs, .nil, q⟩)

/-! ### dict displays: the new dict stands while its pairs are made -/
theorem putA_rel {K : PySem.W.Frag} {H : Hp} {μ : Vw} {kvs : List (Key × Va)} {ks : List (Key × V)} {k : Key} {x : Va} {v : V} (r : RKV K ff.f H μ kvs ks) (q : RV K ff.f H μ x v) : RKV K ff.f H μ (putA kvs k x) (putK ks k v) := by
  have hany : ∀ {kvs : List (Key × Va)} {ks : List (Key × V)}, RKV K ff.f H μ kvs ks → (kvs.any fun kv => decide (kv.1 = k)) = ks.any fun kv => decide (kv.1 = k) := by
    intro kvs ks r
    induction r with
    | nil => rfl
    | cons h t ih => rw [List.any_cons, List.any_cons, ih, h.1]
  have hmap : ∀ {kvs : List (Key × Va)} {ks : List (Key × V)}, RKV K ff.f H μ kvs ks → RKV K ff.f H μ (kvs.map fun kv => if kv.1 = k then (kv.1, x) else kv) (ks.map fun kv => if kv.1 = k then (kv.1, v) else kv) := by
    intro kvs ks r
    induction r with
    | nil => exact .nil
    | cons h t ih =>
      refine .cons ?_ ih
      dsimp only
      rw [h.1]
      split
      · exact ⟨rfl, q⟩
      · exact ⟨h.1, h.2⟩
  have happ : ∀ {kvs : List (Key × Va)} {ks : List (Key × V)}, RKV K ff.f H μ kvs ks → RKV K ff.f H μ (kvs ++ [(k, x)]) (ks ++ [(k, v)]) := by
    intro kvs ks r
    induction r with
    | nil => exact .cons ⟨rfl, q⟩ .nil
    | cons h t ih => exact .cons h ih
  unfold putA putK
  rw [hany r]
  split
  · exact hmap r
  · exact happ r
theorem merge_rel {K : PySem.W.Frag} {H : Hp} {μ : Vw} : ∀ {l : List (Key × Va)} {m : List (Key × V)} {kvs : List (Key × Va)} {ks : List (Key × V)}, RKV K ff.f H μ l m → RKV K ff.f H μ kvs ks →
    RKV K ff.f H μ (l.foldl (fun acc kv => putA acc kv.1 kv.2) kvs) (mergeK ks m)
  | _, _, _, _, .nil, r => r
  | _, _, _, _, .cons (a := p) (b := q) h t, r => by
    unfold mergeK
    rw [List.foldl_cons, List.foldl_cons, ← h.1]
    exact merge_rel t (putA_rel r h.2)
def pPs (K : PySem.W.Frag) (ff : Fx) (H : Hp) (μ : Vw) (Q : List (V × V) → Hp → Prop) : List (Key × Va) → Sto → Prop := fun l S' => ∀ (m : List (Key × V)) H' μ', Ex H μ H' μ' → RS K ff H' μ' S' → RKV K ff.f H' μ' l m → Q (m.map fun kv => (kV kv.1, kv.2)) H'
/-- the pairs of a display -/
structure DPs (X : Cx) (ff : Fx) (pos : Pos) (keys : List (Option Expr)) (values : List Expr) (f : En → Sto → R (List (Key × Va))) : Prop where
  ex : ∃ trs, PPs X pos keys values trs ∧ ∀ (σ : L2.St) (H : Hp) (Q : List (V × V) → Hp → Prop) μ S η, RS X.K ff H μ S → RE X.K ff.f H μ η σ → (f η S).se ff.E (pPs X.K ff H μ Q) → tPairs trs σ H Q
theorem dps_nil : DPs X ff pos [] [] (fun _ S => .ok [] S) := ⟨[], pps_nil, fun σ H Q μ S η rs re q => q [] H μ (Ex.refl _ _) rs .nil⟩
theorem kOf_inv {K : PySem.W.Frag} {H : Hp} {μ : Vw} {x : Va} {v : V} {k : Key} (r : RV K ff.f H μ x v) (h : kOf x = some k) : v = kV k := by
  unfold kOf at h
  split at h
  · cases h
    exact Rp.int_inv r
  · cases h
    exact Rp.str_inv r
  · cases h
theorem dps_cons {k v : Expr} {ks : List (Option Expr)} {vs : List Expr} {fk fv : En → Sto → R Va} {f : En → Sto → R (List (Key × Va))} (hk : PE X k (tE X.K ff fk)) (hv : PE X v (tE X.K ff fv)) (hr : DPs X ff pos ks vs f) :
    DPs X ff pos (some k :: ks) (v :: vs) (fun η S => (fk η S).bind fun x S1 => (fv η S1).bind fun y S2 => (f η S2).bind fun l S3 => match kOf x with
      | some k => .ok ((k, y) :: l) S3
      | none => .bad) := by
  obtain ⟨trs, hp, ht⟩ := hr.ex
  refine ⟨_, pps_cons hk hv hp, fun σ H Q μ S η rs re q => ?_⟩
  refine tE.then rs re q fun x S1 w H1 μ1 e1 rs1 re1 rv1 q1 => ?_
  refine tE.then rs1 re1 q1 fun y S2 w2 H2 μ2 e2 rs2 re2 rv2 q2 => ?_
  refine ht σ H2 _ μ2 S2 η rs2 re2 (R.se_mono (R.se_bind q2) fun l S3 q3 m H3 μ3 e3 rs3 rk3 => ?_)
  split at q3
  · rename_i kk hk
    obtain rfl := kOf_inv rv1 hk
    exact q3 ((kk, w2) :: m) H3 μ3 ((e1.trans e2).trans e3) rs3 (.cons ⟨rfl, rv2.mono e3⟩ rk3)
  · exact q3.elim
theorem de_dct {keys : List (Option Expr)} {values : List Expr} {f : En → Sto → R (List (Key × Va))} (h : DPs X ff pos keys values f) (hall : keys.all (·.isSome) = true) (hl : keys.length = values.length) (h0 : keys ≠ []) (h15 : keys.length ≤ 15)
    (hf : ∀ η S, (f η S).se (fun _ _ => True) (fun l _ => l.length ≤ 15) ∨ f η S = .bad) :
    PE X (.Dict keys values pos) (tE X.K ff fun η S => (f η (S ++ [.dct []])).bind fun l S1 => match S1[S.length]? with
      | some (.dct []) => .ok (.ref S.length) (S1.set S.length (.dct (l.foldl (fun acc kv => putA acc kv.1 kv.2) [])))
      | _ => .bad) := by
  obtain ⟨trs, hp, ht⟩ := h.ex
  refine PE.weak (pe_disp hp hall hl h0 h15) fun σ H Q h => ?_
  obtain ⟨μ, S, η, rs, re, q⟩ := h
  dsimp only at q
  intro p hp
  have e1 : Ex H μ (upd H p (.dK [])) (μ.cell p) := Ex.cellNew hp
  have rs1 : RS X.K ff (upd H p (.dK [])) (μ.cell p) (S ++ [.dct []]) := rs.cellNew hp ⟨[], upd_same, .nil⟩
  have hl : ((f η (S ++ [.dct []])).se ff.E fun l S1 => l.length ≤ 15 ∧ ((match S1[S.length]? with
      | some (.dct []) => R.ok (.ref S.length) (S1.set S.length (.dct (l.foldl (fun acc kv => putA acc kv.1 kv.2) [])))
      | _ => .bad) : R Va).se ff.E (pK X.K ff H μ Q)) := by
    cases h1 : f η (S ++ [.dct []]) with
    | bad => rw [h1] at q; exact q
    | ex _ _ => rw [h1] at q; exact q
    | ok l S1 =>
      rw [h1] at q
      rcases hf η (S ++ [.dct []]) with z | z
      · rw [h1] at z; exact ⟨z, q⟩
      · rw [h1] at z; cases z
  refine ht σ _ _ _ _ η rs1 (re.mono e1) (R.se_mono hl fun l S1 ⟨hl, q1⟩ m H2 μ2 e2 rs2 rk2 => ?_)
  split at q1
  · rename_i hS
    have hc : μ2.ad[S.length]? = some p := e2.cell (by rw [← rs.len]; simp [Vw.cell])
    obtain ⟨ks, h1, h2⟩ := rs2.dct hc hS
    cases h2
    have e3 : Ex H2 μ2 (upd H2 p (.dK (mergeK [] m))) μ2 := Ex.write (List.mem_of_getElem? hc)
    refine ⟨h1, m, rfl, by rw [← Paired.length rk2]; exact hl, ?_⟩
    exact q1 _ _ μ2 ((e1.trans e2).trans e3) (rs2.write hc ⟨_, upd_same, (merge_rel rk2 .nil).mono e3⟩) (.ref hc)
  · exact q1.elim
theorem de_dct0 : PE X (.Dict [] [] pos) (tE X.K ff fun _ S => alloc (.dct []) S) :=
  PE.weak pe_dnewK fun σ H Q h => by
    obtain ⟨μ, S, η, rs, re, q⟩ := h
    intro p hp
    have e1 : Ex H μ (upd H p (.dK [])) (μ.cell p) := Ex.cellNew hp
    exact q _ _ _ e1 (rs.cellNew hp ⟨[], upd_same, .nil⟩) (.ref (by rw [← rs.len]; simp [Vw.cell]))
end
end Nb

namespace Nb
open PySem L2 PySem.Spec PyProof.Rows
section
variable (K : PySem.W.Frag) (ff : Fx)
/-- behind a target: the slots but those of vs are as they were -/
def pG (vs : List Nat) (σ : L2.St) (H : Hp) (μ : Vw) (Q : L2.St → Hp → Prop) : En → Sto → Prop := fun η S' => ∀ σ' H' μ', wipe σ' vs = wipe σ vs → Ex H μ H' μ' → RS K ff H' μ' S' → RE K ff.f H' μ' η σ' → Q σ' H'
def tG (vs : List Nat) (f : Va → En → Sto → R En) : TG := fun w σ H Q => ∃ μ S η v, RS K ff H μ S ∧ RE K ff.f H μ η σ ∧ RV K ff.f H μ v w ∧ (f v η S).se ff.E (pG K ff vs σ H μ Q)
def tGs (vs : List Nat) (f : List Va → En → Sto → R En) : TGs := fun ws σ H Q => ∃ μ S η l, RS K ff H μ S ∧ RE K ff.f H μ η σ ∧ RVL K ff.f H μ l ws ∧ (f l η S).se ff.E (pG K ff vs σ H μ Q)
end
section
variable {X : Cx} {ff : Fx} {a b c : Expr} {fa fb fc : En → Sto → R Va} {pos : Pos} {vs : List Nat}
theorem PG.weak {e : Expr} {t t' : TG} (h : PG X e t) (k : ∀ w σ H Q, t' w σ H Q → t w σ H Q) : PG X e t' := ⟨fun pins s σ H v u Q I r q => h.run pins s σ H v u Q I r (k v σ H Q q)⟩
theorem PGs.weak {e : List Expr} {t t' : TGs} (h : PGs X e t) (k : ∀ w σ H Q, t' w σ H Q → t w σ H Q) : PGs X e t' := ⟨fun pins s σ H v u Q I r q => h.run pins s σ H v u Q I r (k v σ H Q q)⟩
/-! ### targets -/
theorem wipe_set (σ : L2.St) (i : Nat) (w : Option V) : ∀ vs : List Nat, i ∈ vs → wipe (σ.set i w) vs = wipe σ vs
  | v :: vs, h => by
    unfold wipe
    by_cases e : i = v
    · subst e
      by_cases h2 : i ∈ vs
      · rw [wipe_set σ i w vs h2]
      · have : ∀ vs : List Nat, i ∉ vs → wipe (σ.set i w) vs = (wipe σ vs).set i w := by
          intro vs
          induction vs with
          | nil => intro _; rfl
          | cons a r ih =>
            intro n
            rw [List.mem_cons, not_or] at n
            unfold wipe
            rw [ih n.2, List.set_comm _ _ n.1]
        rw [this vs h2, List.set_set]
    · rw [wipe_set σ i w vs ((List.mem_cons.mp h).resolve_left e)]
theorem dg_nm {i : Nat} {x : Str} (hv : i ∈ vs) (hN : X.N.Nodup) (hi : X.N[i]? = some x) (hx : Loc X.env.scope x) (hf : X.fn x = true ∨ X.env.scope.names.lookup x = some .local) : PG X (.Name x pos) (tG X.K ff vs fun v η S => .ok (η.set i (some v)) S) :=
  PG.weak (pg_name hN hi hx hf) fun w σ H Q h => by
    obtain ⟨μ, S, η, v, rs, re, rv, q⟩ := h
    exact q _ H μ (wipe_set _ _ _ _ hv) (Ex.refl _ _) rs (re.set i rv)
theorem asg_cons (e : Expr) (es : List Expr) (env : Env) (h : ∀ x p, e ≠ .Starred x p) : assignEach (e :: es) env = (false, assign e env) :: assignEach es env := by
  cases e <;> first | rfl | exact absurd rfl (h _ _)
theorem asg_len : ∀ (es : List Expr) (env : Env), (assignEach es env).length = es.length
  | [], _ => rfl
  | e :: es, env => by
    cases e <;> (show (_ :: assignEach es env).length = _; rw [List.length_cons, asg_len es env, List.length_cons])
def noStar : List Expr → Bool
  | [] => true
  | .Starred _ _ :: _ => false
  | _ :: r => noStar r
theorem noStar_cons {e : Expr} {es : List Expr} (h : noStar (e :: es) = true) : (∀ x p, e ≠ .Starred x p) ∧ noStar es = true := by
  cases e <;> first | exact ⟨(fun x p z => (nomatch z)), h⟩ | exact absurd h Bool.false_ne_true
theorem asg_nostar : ∀ (es : List Expr) (env : Env), noStar es = true → (assignEach es env).findIdx? (·.1) = none
  | [], _, _ => rfl
  | e :: es, env, h => by
    obtain ⟨h1, h2⟩ := noStar_cons h
    rw [asg_cons e es env h1, List.findIdx?_cons, asg_nostar es env h2]
    rfl
theorem dgs_nil : PGs X [] (tGs X.K ff vs fun l η S => match l with | [] => .ok η S | _ => .bad) := PGs.weak pgs_nil fun w σ H Q h => by
  obtain ⟨μ, S, η, l, rs, re, rv, q⟩ := h
  cases rv with
  | nil => exact ⟨rfl, q σ H μ rfl (Ex.refl _ _) rs re⟩
  | cons _ _ => exact q.elim
theorem dgs_cons {es : List Expr} {f : Va → En → Sto → R En} {g : List Va → En → Sto → R En} (h1 : PG X a (tG X.K ff vs f)) (h2 : PGs X es (tGs X.K ff vs g)) (hs : ∀ x p, a ≠ .Starred x p) :
    PGs X (a :: es) (tGs X.K ff vs fun l η S => match l with | v :: vs => (f v η S).bind fun η1 S1 => g vs η1 S1 | [] => .bad) :=
  PGs.weak (pgs_cons h1 h2 (by rw [asg_cons _ _ _ hs]; rfl)) fun w σ H Q h => by
    obtain ⟨μ, S, η, l, rs, re, rv, q⟩ := h
    cases rv with
    | nil => exact q.elim
    | cons r t =>
      refine ⟨_, _, rfl, μ, S, η, _, rs, re, r, R.se_mono (R.se_bind q) fun η1 S1 q1 σ1 H1 μ1 w1 e1 rs1 re1 => ?_⟩
      exact ⟨μ1, S1, η1, _, rs1, re1, t.mono e1, R.se_mono q1 fun η2 S2 q2 σ2 H2 μ2 w2 e2 => q2 σ2 H2 μ2 (w2.trans w1) (e1.trans e2)⟩
def tupG (g : List Va → En → Sto → R En) : Va → En → Sto → R En := fun v η S => match v with
  | .d (.tuple l) => g (l.map .d) η S
  | .d (.list l) => g (l.map .d) η S
  | .tup l => g l η S
  | _ => .bad
theorem PG.or {X : Cx} {e : Expr} {t1 t2 : TG} (h1 : PG X e t1) (h2 : PG X e t2) : PG X e fun v σ H Q => t1 v σ H Q ∨ t2 v σ H Q :=
  ⟨fun pins s σ H v u Q I r hw => hw.elim (fun q => h1.run pins s σ H v u Q I r q) fun q => h2.run pins s σ H v u Q I r q⟩
theorem dg_tup {es : List Expr} {k : Nat} {g : List Va → En → Sto → R En} (hc : X.calm = true) (h : PGs X es (tGs X.K ff vs g)) (hs : noStar es = true) (hg : ∀ l η S, l.length ≠ es.length → g l η S = .bad) : PG X (.Tuple es k pos) (tG X.K ff vs (tupG g)) :=
  PG.weak (PG.or (pg_tup hc h (asg_len _ _) (asg_nostar _ _ hs)) (pg_lst hc h (asg_len _ _) (asg_nostar _ _ hs))) fun w σ H Q h => by
    obtain ⟨μ, S, η, v, rs, re, rv, q⟩ := h
    have len : ∀ (l : List Va) (xs : List V), RVL X.K ff.f H μ l xs → (g l η S).se ff.E (pG X.K ff vs σ H μ Q) → xs.length = es.length := fun l xs t q => by
      by_cases hl : l.length = es.length
      · rw [← t.length]; exact hl
      · rw [hg l η S hl] at q; exact q.elim
    have fin : ∀ (l : List Va) a xs, Nb.TA X.K H μ a xs → RVL X.K ff.f H μ l xs → (g l η S).se ff.E (pG X.K ff vs σ H μ Q) → ∃ a' xs', V.ref a = .ref a' ∧ SqT X.K H a' xs' ∧ xs'.length = es.length ∧ tGs X.K ff vs g xs' σ H Q :=
      fun l a xs ta t q => ⟨a, xs, rfl, ta.sq, len l xs t q, μ, S, η, l, rs, re, t, q⟩
    unfold tupG at q
    split at q
    · obtain ⟨a, xs, rfl, ta, t, z⟩ := Rp.tup_inv rv
      exact .inl (fin _ a xs ta.ta (RVL.of t) q)
    · obtain ⟨a, xs, rfl, ta, t, z⟩ := Rp.lst_inv rv
      exact .inr ⟨a, xs, rfl, ta.sq, len _ xs (RVL.of t) q, μ, S, η, _, rs, re, RVL.of t, q⟩
    · obtain ⟨a, xs, rfl, ta, t, z⟩ := RV.tup_inv rv
      exact .inl (fin _ a xs ta t q)
    · exact q.elim
/-- a, b, *rest = a tuple: what is drawn -/
theorem star_tup {A : Around} {E : Value → Shared → Prop} {st : Shared} {t : Addr} {its : Array Value} {k : Nat} {Q : List Value → Shared → Prop} (ht : IsTup st.heap t its) (hh : A.handled = none) (hk : k ≤ its.size) (hz : its.size ≤ sizeLine)
    (h : ∀ h' tk, (∀ b o, b ≠ st.heap.objs.size → st.heap.get? b = some o → h'.get? b = some o) →
      wpAny (model X.prog X.w) A (newList (its.toList.drop k)) (fun d s2 => Q (its.toList.take k ++ [d]) s2) E { st with heap := h', toks := tk }) :
    wpAny (model X.prog X.w) A (unpackItems (.ref t) (k + 1) (some k)) Q E st := by
  have ne : t ≠ st.heap.objs.size := by obtain ⟨o, ho, _⟩ := ht; exact Nat.ne_of_lt (Heap.lt_size ho)
  unfold unpackItems
  refine wpAny_bind ?_
  unfold notIterableAtAll
  refine wpAny_bind (wpAny_specialOf ht.typeIs slot_tuple_iter.lookup (wpAny_pure ?_))
  simp only [Bool.false_eq_true, if_false]
  refine wpAny_bind (wpAny_holding (iter_tuple ht (wpAny_bind (wpAny_holding (draw_tuple ne k 0 _ _ ⟨_, Heap.get?_push_size _ rfl, rfl, rfl⟩ (ht.push _) (by omega) fun g1 it1 sb1 => ?_)))))
  have t1 : IsTup g1 t its := (ht.push _).extBut sb1.extBut ne
  rw [Nat.zero_add] at it1
  obtain ⟨oi, hoi, _⟩ := id it1
  obtain ⟨ot, hot, _⟩ := id t1
  rw [List.drop_zero]
  have len1 : (its.toList.take k).length = k := by rw [List.length_take, Array.length_toList]; omega
  rw [if_neg (by rw [len1]; omega)]
  refine wpAny_bind (wpAny_holding (PySem.W.kun_collect (s := { st with heap := g1 }) (T := "tuple_iterator") (.inr (.inr (.inr rfl))) (Walks.tuple (A := A.in1) hh st.heap.objs.size t ne its) (fun j u q => q.1.typeIs) (k := k) hk ⟨it1, t1⟩ (Heap.lt_size hoi) (Heap.lt_size hot) (fun g2 tk kp => ?_) hz))
  have len2 : (its.toList.drop k).length = its.size - k := by rw [List.length_drop, Array.length_toList]
  have z : k + 1 - 1 - k = 0 := by omega
  show wpAny _ _ (if (its.toList.drop k).length < k + 1 - 1 - k then _ else _) _ _ _
  rw [if_neg (by omega)]
  show wpAny _ _ (newList ((its.toList.drop k).take ((its.toList.drop k).length - (k + 1 - 1 - k))) >>= fun d => pure (its.toList.take k ++ [d] ++ (its.toList.drop k).drop ((its.toList.drop k).length - (k + 1 - 1 - k)))) _ _ _
  rw [z, Nat.sub_zero, List.take_of_length_le (Nat.le_refl _), List.drop_of_length_le (Nat.le_refl _)]
  refine wpAny_bind (thn (h g2 tk fun b o hb e => kp b o hb (sb1.extBut b o hb (Heap.get?_push_of_some _ e))) fun d s2 q => wpAny_pure ?_)
  rw [List.append_nil]
  exact q
def gStar (K : PySem.W.Frag) (n : Nat) (t : TGs) : TG := fun v σ H Q => ∃ a xs, v = .ref a ∧ SqT K H a xs ∧ n ≤ xs.length ∧ ∀ p, H p = none → t (xs.take n ++ [.ref p]) σ (upd H p (.lst (xs.drop n))) Q
theorem pg_star {es : List Expr} {k : Nat} {t : TGs} {n : Nat} (hc : X.calm = true) (h : PGs X es t) (hn : es.length = n + 1) (hst : (assignEach es X.env).findIdx? (·.1) = some n) : PG X (.Tuple es k pos) (gStar X.K n t) := by
  refine ⟨fun pins st σ H v u Q I r hw => ?_⟩
  obtain ⟨a, xs, rfl, hq, hl, hw⟩ := hw
  cases r
  obtain ⟨its, rv, ht, hz⟩ := I.tuple hq
  have hlen := rv.length
  rw [assign_Tuple]
  refine wpAny_bind (wpAny_standAt ?_)
  unfold unpack
  rw [asg_len, hn, hst]
  refine wpAny_bind (wpAny_holding (star_tup ht (I.ok.hd hc) (by simp only [List.size_toArray]; omega) (by simp only [List.size_toArray]; omega) fun h' tk kp => ?_))
  have I1 : L2.Inv X pins σ H { st with heap := h', toks := tk } := I.kept fun b o e => kp b o (Nat.ne_of_lt (Heap.lt_size e)) e
  have vd : Vals (xs.drop n) (its.drop n) := rv.drop n
  refine wpAny_newList ?_ (by rw [List.length_drop]; simp only [Array.length_toList, List.size_toArray]; omega)
  have I2 := I1.lnew (t' := tk) vd (by rw [List.length_drop]; omega)
  exact h.run pins _ σ _ _ _ Q I2 ((rv.take n).append (.cons (show RelV (V.ref h'.objs.size) (Value.ref h'.objs.size) from rfl) .nil)) (hw _ I1.fresh)
/-- the last target is starred -/
def lastStar : List Expr → Bool
  | [] => false
  | [.Starred _ _] => true
  | .Starred _ _ :: _ :: _ => false
  | _ :: r => lastStar r
theorem lastStar_cons {e : Expr} {es : List Expr} (h : lastStar (e :: es) = true) : (∃ x p, e = .Starred x p ∧ es = []) ∨ ((∀ x p, e ≠ .Starred x p) ∧ lastStar es = true) := by
  cases es with
  | nil => cases e <;> first | exact .inl ⟨_, _, rfl, rfl⟩ | exact absurd h Bool.false_ne_true
  | cons f r => cases e <;> first | exact .inr ⟨(fun x p z => (nomatch z)), h⟩ | exact absurd h Bool.false_ne_true
theorem asg_laststar : ∀ (es : List Expr) (env : Env), lastStar es = true → (assignEach es env).findIdx? (·.1) = some (es.length - 1)
  | [], _, h => absurd h Bool.false_ne_true
  | e :: es, env, h => by
    rcases lastStar_cons h with ⟨x, p, rfl, rfl⟩ | ⟨h1, h2⟩
    · rfl
    · rw [asg_cons e es env h1, List.findIdx?_cons, asg_laststar es env h2]
      cases es with
      | nil => exact absurd h2 Bool.false_ne_true
      | cons _ _ => simp
end
end Nb

namespace Nb
open PySem L2 PySem.Spec PyProof.Rows
section
variable {X : Cx} {ff : Fx} {a b c : Expr} {fa fb fc : En → Sto → R Va} {pos : Pos} {vs : List Nat}
/-! ### starred targets -/
theorem dgs_star {x : Expr} {p : Pos} {f : Va → En → Sto → R En} (h : PG X x (tG X.K ff vs f)) : PGs X [.Starred x p] (tGs X.K ff vs fun l η S => match l with | [v] => f v η S | _ => .bad) := by
  refine ⟨fun pins st σ H vs us Q I r hw => ?_⟩
  obtain ⟨μ, S, η, l, rs, re, rv, q⟩ := hw
  cases rv with
  | nil => exact q.elim
  | cons rv t =>
    cases t with
    | cons _ _ => exact q.elim
    | nil =>
      cases r with
      | cons r rr =>
        cases rr
        show wpAny _ _ (assignInOrder [assign x X.env] _) _ _ _
        refine assignInOrder_cons (thn (h.run pins st σ H _ _ Q I r ⟨μ, S, η, _, rs, re, rv, q⟩) fun _ s1 q1 => assignInOrder_nil q1)
theorem dg_star {es : List Expr} {k n : Nat} {g : List Va → En → Sto → R En} {f : List PyData → En → Sto → R En} (hc : X.calm = true) (h : PGs X es (tGs X.K ff vs g)) (hn : es.length = n + 1) (hs : lastStar es = true)
    (hf : ∀ l η S, n ≤ l.length → f l η S = g ((l.take n).map .d ++ [.d (.list (l.drop n))]) η S) (hb : ∀ l η S, l.length < n → f l η S = .bad) :
    PG X (.Tuple es k pos) (tG X.K ff vs fun v η S => match v with | .d (.tuple l) => f l η S | _ => .bad) :=
  PG.weak (pg_star (n := n) hc h hn (by rw [asg_laststar _ _ hs, hn]; rfl)) fun w σ H Q h => by
    obtain ⟨μ, S, η, v, rs, re, rv, q⟩ := h
    dsimp only at q
    split at q
    · rename_i l
      obtain ⟨t, xs, rfl, ta, tl, z⟩ := Rp.tup_inv rv
      by_cases hl : n ≤ l.length
      · rw [hf l η S hl] at q
        have hx := tl.length
        refine ⟨t, xs, rfl, ta.sq, by omega, fun p hp => ?_⟩
        have e1 : Ex H μ (upd H p (.lst (xs.drop n))) (μ.add p) := Ex.new1 hp
        have td := (tl.drop n).mono e1
        refine ⟨μ.add p, S, η, _, rs.new1 hp, re.mono e1, (RVL.of ((tl.take n).mono e1)).append (.cons (.d (.lst (.inl ⟨.inl upd_same, rs.fresh hp, .inr rfl⟩) td (by rw [List.length_drop]; omega))) .nil), R.se_mono q fun η2 S2 q2 σ2 H2 μ2 w2 e2 => q2 σ2 H2 μ2 w2 (e1.trans e2)⟩
      · rw [hb l η S (by omega)] at q
        exact q.elim
    · exact q.elim

/-! ### d[k] = v -/
theorem RVL.set_ {K : PySem.W.Frag} {H : Hp} {μ : Vw} : ∀ {l : List Va} {xs : List V} {x : Va} {v : V}, RVL K ff.f H μ l xs → RV K ff.f H μ x v → ∀ j : Nat, RVL K ff.f H μ (l.set j x) (xs.set j v)
  | _, _, _, _, .nil, _, _ => .nil
  | _, _, _, _, .cons _ t, r, 0 => .cons r t
  | _, _, _, _, .cons h t, r, j + 1 => .cons h (RVL.set_ t r j)
theorem psd_set (hu : X.A.units + 1 < cLine) : PSet X (fun o i v H Q => ∃ μ S xo xi xv, RS X.K ff H μ S ∧ RV X.K ff.f H μ xo o ∧ RV X.K ff.f H μ xi i ∧ RV X.K ff.f H μ xv v ∧ (setV xo xi xv S).se ff.E fun _ S' => ∀ H', Ex H μ H' μ → RS X.K ff H' μ S' → Q H') := by
  intro pins st σ H o i v ov iv u Q I ro ri rv h
  obtain ⟨μ, S, xo, xi, xv, rs, r1, r2, r3, q⟩ := h
  unfold setV at q
  split at q
  · split at q
    · rename_i k kvs hk hS
      split at q
      · rename_i hz
        obtain ⟨p, rfl, hp⟩ := RV.ref_inv r1
        cases ro
        obtain rfl := kOf_inv r2 hk
        obtain ⟨ks, h1, h2⟩ := rs.dct hp hS
        have e1 : Ex H μ (upd H p (.dK (putK ks k v))) μ := Ex.write (List.mem_of_getElem? hp)
        refine d_setItem hu I (DPut.k h1 (by rw [← Paired.length h2]; exact hz)) ri rv fun s2 I2 => ⟨_, I2, q _ e1 (rs.write hp ⟨_, upd_same, (putA_rel h2 r3).mono e1⟩)⟩
      · exact q.elim
    · rename_i j l hk hS
      split at q
      · rename_i hz
        obtain ⟨p, rfl, hp⟩ := RV.ref_inv r1
        obtain rfl := kOf_inv r2 hk
        obtain ⟨xs, h1, h2⟩ := rs.lst hp hS
        have e1 : Ex H μ (upd H p (.lst (xs.set j.toNat v))) μ := Ex.write (List.mem_of_getElem? hp)
        exact set_list pins st σ H _ _ v ov iv u Q I ro ri rv ⟨p, xs, j, j.toNat, rfl, rfl, h1, by unfold ixN; rw [if_pos hz.1, if_pos (by have := RVL.length h2; omega)], q _ e1 (rs.write hp ⟨_, upd_same, (RVL.set_ h2 r3 j.toNat).mono e1⟩)⟩
      · exact q.elim
    · exact q.elim
  · exact q.elim
theorem sub_assign {o i : Expr} {env : Env} (hi : ∀ lo hi st p, i ≠ .Slice lo hi st p) : ∀ v, assign (.Subscript o i pos) env v = (do
      let ov ← holding [v] (eval o env)
      let iv ← holding [v, ov] (eval i env)
      standAt pos
      holding [v, ov, iv] (setItem ov iv v)
      release [v, ov, iv] []) := by
  intro v
  cases i <;> first | rfl | exact absurd rfl (hi _ _ _ _)
theorem dg_sub {o i : Expr} {fo fi : En → Sto → R Va} (hu : X.A.units + 1 < cLine) (ho : PE X o (tE X.K ff fo)) (hi : PE X i (tE X.K ff fi)) (hs : ∀ lo hi st p, i ≠ .Slice lo hi st p) :
    PG X (.Subscript o i pos) (tG X.K ff vs fun v η S => (fo η S).bind fun x S1 => (fi η S1).bind fun y S2 => (setV x y v S2).bind fun _ S3 => .ok η S3) :=
  PG.weak (pg_sub ho hi (psd_set (ff := ff) hu) (sub_assign hs)) fun w σ H Q h => by
    obtain ⟨μ, S, η, v, rs, re, rv, q⟩ := h
    refine tE.then rs re q fun x S1 w1 H1 μ1 e1 rs1 re1 rv1 q1 => ?_
    refine tE.then rs1 re1 q1 fun y S2 w2 H2 μ2 e2 rs2 re2 rv2 q2 => ?_
    refine ⟨μ2, S2, x, y, v, rs2, rv1.mono e2, rv2, rv.mono (e1.trans e2), R.se_mono (R.se_bind q2) fun _ S3 q3 H3 e3 rs3 => ?_⟩
    exact q3 σ H3 μ2 rfl ((e1.trans e2).trans e3) rs3 (re2.mono e3)

/-! ### what is walked -/
structure ItOk (K : PySem.W.Frag) (ff : Fx) (J : It) (H1 : Hp) (μ1 : Vw) (xs : List Va) : Prop where
  go : ∀ i H' μ' S', Ex H1 μ1 H' μ' → RS K ff H' μ' S' → i < xs.length → J.go i H' ∧ ∀ x H'', J.yld i H' x H'' → ∃ v μ'', xs[i]? = some v ∧ Ex H' μ' H'' μ'' ∧ RS K ff H'' μ'' S' ∧ RV K ff.f H'' μ'' v x
  stop : ∀ i H' μ', Ex H1 μ1 H' μ' → i = xs.length → J.stop i H'
def pI (K : PySem.W.Frag) (ff : Fx) (H : Hp) (μ : Vw) (R : It → Hp → Prop) : List Va → Sto → Prop := fun l S' => ∀ J H' μ', Ex H μ H' μ' → RS K ff H' μ' S' → ItOk K ff J H' μ' l → l.length ≤ sizeLine → R J H'
def tI (K : PySem.W.Frag) (ff : Fx) (f : En → Sto → R (List Va)) : TI := fun σ H Q => ∃ μ S η, RS K ff H μ S ∧ RE K ff.f H μ η σ ∧ (f η S).se ff.E (pI K ff H μ Q)
theorem PI.weak {tg e : Expr} {t t' : TI} (h : PI X tg e t) (k : ∀ σ H Q, t' σ H Q → t σ H Q) : PI X tg e t' := ⟨fun pins s σ H Q I q => h.run pins s σ H Q I (k σ H Q q)⟩
theorem it_list {K : PySem.W.Frag} {H1 : Hp} {μ1 : Vw} {p : Addr} {ws : List V} {xs : List Va} (h : LA K H1 μ1 p ws) (t : RVL K ff.f H1 μ1 xs ws) : ItOk K ff (Itl K p) H1 μ1 xs where
  go := fun i H' μ' S' e rs hi => by
    have h' := h.mono e
    obtain ⟨w, h1, h2⟩ := t.get (List.getElem?_eq_getElem hi)
    refine ⟨⟨ws, w, h'.sq, h1⟩, fun x H'' y => ?_⟩
    obtain ⟨rfl, y⟩ := y
    have := y ws h'.sq
    rw [h1] at this; cases this
    exact ⟨_, μ', List.getElem?_eq_getElem hi, Ex.refl _ _, rs, h2.mono e⟩
  stop := fun i H' μ' e hi0 => have hi := Nat.le_of_eq hi0.symm; ⟨ws, (h.mono e).sq, by rw [← t.length]; exact hi⟩
theorem it_tup {K : PySem.W.Frag} {H1 : Hp} {μ1 : Vw} {p : Addr} {ws : List V} {xs : List Va} (h : Nb.TA K H1 μ1 p ws) (t : RVL K ff.f H1 μ1 xs ws) : ItOk K ff (Itt K p) H1 μ1 xs where
  go := fun i H' μ' S' e rs hi => by
    have h' := h.mono e
    obtain ⟨w, h1, h2⟩ := t.get (List.getElem?_eq_getElem hi)
    refine ⟨⟨ws, w, h'.sq, h1⟩, fun x H'' y => ?_⟩
    obtain ⟨rfl, y⟩ := y
    have := y ws h'.sq
    rw [h1] at this; cases this
    exact ⟨_, μ', List.getElem?_eq_getElem hi, Ex.refl _ _, rs, h2.mono e⟩
  stop := fun i H' μ' e hi0 => have hi := Nat.le_of_eq hi0.symm; ⟨ws, (h.mono e).sq, by rw [← t.length]; exact hi⟩
/-- lists and tuples: one rule for both -/
theorem PI.or {tg e : Expr} {t t' : TE} {f : TI} (h : PE X e t) (k : ∀ σ H Q, f σ H Q → t σ H fun x H1 => (∃ p, x = .ref p ∧ (∃ xs, SqL X.K H1 p xs) ∧ Q (Itl X.K p) H1) ∨ (∃ p, x = .ref p ∧ (∃ xs, SqT X.K H1 p xs) ∧ Q (Itt X.K p) H1) ∨ (∃ z, x = .str z ∧ Q (Its z) H1) ∨ ∃ d o kvs, x = .ref d ∧ H1 d = some (.frz o (.dK kvs)) ∧ Q (Itk d o kvs) H1) : PI X tg e f := by
  refine ⟨fun pins st σ H Q I q => ?_⟩
  refine thn (h.run pins st σ H _ I (k σ H Q q)) fun v s1 ⟨x, H1, I1, r1, q1⟩ => ?_
  have fin : PE X e (fun σ' H' Q' => σ' = σ ∧ H' = H ∧ t σ H Q') := PE.weak h fun σ' H' Q' ⟨e1, e2, e3⟩ => by rw [e1, e2]; exact e3
  have nx : ∀ (b : Addr), b = s1.heap.objs.size → FpOk X pins H1 b := fun b e => by rw [e]; exact I1.fpOk (Nat.le_refl _) (I1.hok.fresh (Nat.le_refl _))
  rcases q1 with ⟨p, rfl, ⟨xs, hx⟩, q⟩ | ⟨p, rfl, ⟨xs, hx⟩, q⟩ | ⟨z, rfl, q⟩ | ⟨d, o, kvs, rfl, hd, q⟩
  · cases r1
    obtain ⟨its, rv, pl, hz⟩ := I1.list hx
    refine wpAny_pyIter_list pl.isList ⟨s1.heap.objs.size, [s1.heap.objs.size], _, _, H1, rfl, I1.kept (t' := s1.toks) (fun b o e => Heap.get?_push_of_some _ e), turn_list p _, ⟨_, Heap.get?_push_size _ rfl, rfl, rfl⟩, (fun b hb => nx b (by simpa using hb)), q⟩
  · cases r1
    obtain ⟨its, rv, pl, hz⟩ := I1.tuple hx
    refine wpAny_pyIter_tuple (show s1.heap.IsTuple p its.toArray from pl) ⟨s1.heap.objs.size, [s1.heap.objs.size], _, _, H1, rfl, I1.kept (t' := s1.toks) (fun b o e => Heap.get?_push_of_some _ e), turn_tuple p _, ⟨_, Heap.get?_push_size _ rfl, rfl, rfl⟩, (fun b hb => nx b (by simpa using hb)), q⟩
  · obtain ⟨t, rfl⟩ := r1
    cases ha : z.cps.all (· < 128)
    · exact wpAny_pyIter_wide ha (pi_one (tk := s1.toks) I1 _ (turn_str _ z t "str_iterator" (.inr rfl)) ⟨_, Heap.get?_push_size _ rfl, rfl, rfl⟩ q)
    · exact wpAny_pyIter_ascii ha (pi_one (tk := s1.toks) I1 _ (turn_str _ z t "str_ascii_iterator" (.inl rfl)) ⟨_, Heap.get?_push_size _ rfl, rfl, rfl⟩ q)
  · cases r1
    obtain ⟨hs, hgd, hx, es, ep, vs, hdt, hsz, kv, hm⟩ := I1.frzK hd
    refine iter_keys hs hgd hx hdt (pi_one (tk := s1.toks) I1 _ (turn_keys _ hdt) ⟨_, Heap.get?_push_size _ rfl, rfl, ?_⟩ q)
    rw [hsz] <;> rfl
theorem rpk_get {K : PySem.W.Frag} {H : Hp} {μ : Vw} : ∀ {kvs : List (PyData × PyData)} {ks : List (Key × V)}, RpK K H μ kvs ks → kvs.length = ks.length ∧ ∀ {i : Nat} {k : Key} {v : V}, ks[i]? = some (k, v) → ∃ d, kvs[i]? = some (kD k, d)
  | _, _, .nil => ⟨rfl, fun e => by simp at e⟩
  | _, _, .cons (k := k0) (d := d0) r t => by
    obtain ⟨h1, h2⟩ := rpk_get t
    refine ⟨by rw [List.length_cons, List.length_cons, h1], fun {i k v} e => ?_⟩
    cases i with
    | zero =>
      simp only [List.getElem?_cons_zero, Option.some.injEq] at e
      cases e
      exact ⟨d0, rfl⟩
    | succ i =>
      rw [List.getElem?_cons_succ] at e ⊢
      exact h2 e
theorem it_keys {K : PySem.W.Frag} {H1 : Hp} {μ1 : Vw} {d : Addr} {o : Obj} {ks : List (Key × V)} {kvs : List (PyData × PyData)} (hd : H1 d = some (.frz o (.dK ks))) (hn : d ∉ μ1.ad) (t : RpK K H1 μ1 kvs ks) : ItOk K ff (Itk d o ks) H1 μ1 (kvs.map fun kv => Va.d kv.1) where
  go := fun i H' μ' S' e rs hi => by
    obtain ⟨hl, hg⟩ := rpk_get t
    rw [List.length_map, hl] at hi
    refine ⟨⟨e.keep _ _ hd hn, hi⟩, fun x H'' y => ?_⟩
    obtain ⟨rfl, k, v, e1, rfl⟩ := y
    obtain ⟨dd, e2⟩ := hg e1
    refine ⟨.d (kD k), μ', by rw [List.getElem?_map, e2]; rfl, Ex.refl _ _, rs, ?_⟩
    cases k with
    | inl i => exact .d (.int i)
    | inr s => exact .d (.str s)
  stop := fun i H' μ' e hi0 => by
    rw [List.length_map, (rpk_get t).1] at hi0
    exact ⟨e.keep _ _ hd hn, by omega⟩
theorem it_str {K : PySem.W.Frag} {H1 : Hp} {μ1 : Vw} (z : Str) : ItOk K ff (Its z) H1 μ1 (z.cps.toList.map fun c => Va.d (.str ⟨#[c]⟩)) where
  go := fun i H' μ' S' e rs hi => by
    rw [List.length_map, Array.length_toList] at hi
    refine ⟨hi, fun x H'' y => ?_⟩
    obtain ⟨rfl, c, hc, rfl⟩ := y
    refine ⟨_, μ', ?_, Ex.refl _ _, rs, .d (.str _)⟩
    rw [List.getElem?_map, Array.getElem?_toList, hc]
    rfl
  stop := fun i H' μ' e hi0 => have hi := Nat.le_of_eq hi0.symm; by
    rw [List.length_map, Array.length_toList] at hi
    exact hi
def valI (f : En → Sto → R Va) : En → Sto → R (List Va) := fun η S => (f η S).bind fun x S1 => match x with
    | .d (.list l) => .ok (l.map .d) S1
    | .d (.tuple l) => .ok (l.map .d) S1
    | .d (.str s) => if s.length ≤ sizeLine then .ok (s.cps.toList.map fun c => .d (.str ⟨#[c]⟩)) S1 else .bad
    | .tup l => .ok l S1
    | .d (.dict kvs) => .ok (kvs.map fun kv => .d kv.1) S1
    | _ => .bad
theorem di_val {tg : Expr} (ha : PE X a (tE X.K ff fa)) : PI X tg a (tI X.K ff (valI fa)) :=
  PI.or (t' := tE X.K ff fa) ha fun σ H Q h => by
    obtain ⟨μ, S, η, rs, re, q⟩ := h
    refine tE.then rs re q fun x S1 w H1 μ1 e1 rs1 re1 rv1 q1 => ?_
    split at q1
    · obtain ⟨p, xs, rfl, ta, t, z⟩ := Rp.lst_inv rv1
      exact .inl ⟨p, rfl, ⟨xs, ta.sq⟩, q1 _ H1 μ1 e1 rs1 (it_list ta (RVL.of t)) (by rw [List.length_map]; exact z)⟩
    · obtain ⟨p, xs, rfl, ta, t, z⟩ := Rp.tup_inv rv1
      exact .inr (.inl ⟨p, rfl, ⟨xs, ta.sq⟩, q1 _ H1 μ1 e1 rs1 (it_tup ta.ta (RVL.of t)) (by rw [List.length_map]; exact z)⟩)
    · split at q1
      · rename_i hz
        obtain rfl := Rp.str_inv rv1
        exact .inr (.inr (.inl ⟨_, rfl, q1 _ H1 μ1 e1 rs1 (it_str _) (by rw [List.length_map, Array.length_toList]; exact hz)⟩))
      · exact q1.elim
    · obtain ⟨p, xs, rfl, ta, t, z⟩ := RV.tup_inv rv1
      exact .inr (.inl ⟨p, rfl, ⟨xs, ta.sq⟩, q1 _ H1 μ1 e1 rs1 (it_tup ta t) z⟩)
    · obtain ⟨d, ks, rfl, ⟨o, hd, hn, _⟩, t, z⟩ := Rp.dct_invZ rv1
      exact .inr (.inr (.inr ⟨d, o, ks, rfl, hd, q1 _ H1 μ1 e1 rs1 (it_keys hd hn t) (by rw [List.length_map]; exact z)⟩))
    · exact q1.elim
/-! ### ranges -/
theorem it_range {K : PySem.W.Frag} {H1 : Hp} {μ1 : Vw} (lo : Int) (n : Nat) : ItOk K ff (Itr lo n) H1 μ1 ((List.range n).map fun k => Va.d (.int (lo + (k : Nat)))) where
  go := fun i H' μ' S' e rs hi => by
    rw [List.length_map, List.length_range] at hi
    refine ⟨hi, fun x H'' y => ?_⟩
    obtain ⟨rfl, rfl⟩ := y
    exact ⟨_, μ', by rw [List.getElem?_map, List.getElem?_range hi]; rfl, Ex.refl _ _, rs, .d (.int _)⟩
  stop := fun i H' μ' e hi0 => have hi := Nat.le_of_eq hi0.symm; by
    rw [List.length_map, List.length_range] at hi
    exact hi
theorem it_rangeD {K : PySem.W.Frag} {H1 : Hp} {μ1 : Vw} (lo : Int) (n : Nat) : ItOk K ff (Itc lo (-1) n) H1 μ1 ((List.range n).map fun k => Va.d (.int (lo - (k : Nat)))) where
  go := fun i H' μ' S' e rs hi => by
    rw [List.length_map, List.length_range] at hi
    refine ⟨hi, fun x H'' y => ?_⟩
    obtain ⟨rfl, rfl⟩ := y
    refine ⟨_, μ', by rw [List.getElem?_map, List.getElem?_range hi]; rfl, Ex.refl _ _, rs, ?_⟩
    have e : lo + (i : Int) * (-1) = lo - (i : Int) := by omega
    rw [e]
    exact .d (.int _)
  stop := fun i H' μ' e hi0 => have hi := Nat.le_of_eq hi0.symm; by
    rw [List.length_map, List.length_range] at hi
    exact hi
theorem iR62_of {i : Int} (h : iR62 i = true) : -(2 ^ 62) ≤ i ∧ i < 2 ^ 62 := by
  unfold iR62 at h
  simpa using h
theorem di_rng1 {tg : Expr} {p : Pos} {x : Str} {f : En → Sto → R (List Va)} (hx : x = "range") (hg : Gl X x) (hm : X.mg x = none) (ha : PA X [a] (tL X.K ff f)) (hs : ∀ x p, a ≠ .Starred x p) :
    PI X tg (.Call (.Name x p) [a] [] pos) (tI X.K ff fun η S => (f η S).bind fun l S1 => match l with | [x] => rng1 x S1 | _ => .bad) := by
  subst hx
  refine PI.weak (pi_range1 hg hm ha (star_cons _ _ _ hs)) fun σ H Q h => ?_
  obtain ⟨μ, S, η, rs, re, q⟩ := h
  refine tL.then rs re q fun l S1 ws H1 μ1 e1 rs1 re1 rv1 q1 => ?_
  match l, rv1, q1 with
  | [x], .cons rx .nil, q1 =>
    have q1 : (rng1 x S1).se ff.E (pI X.K ff H μ Q) := q1
    unfold rng1 at q1
    split at q1
    · rename_i j _
      split at q1
      · rename_i hz
        obtain rfl := Rp.int_inv rx
        have hz := Bool.and_eq_true_iff.mp hz
        obtain ⟨h1, h2⟩ := iR62_of hz.1
        refine ⟨_, rfl, h1, h2, q1 _ H1 μ1 e1 rs1 ?_ ?_⟩
        · have := it_range (K := X.K) (ff := ff) (H1 := H1) (μ1 := μ1) 0 j.toNat
          simp only [Int.zero_add] at this
          exact this
        · rw [List.length_map, List.length_range]
          exact of_decide_eq_true hz.2
      · exact q1.elim
    · exact q1.elim
  | [], _, q1 => exact q1.elim
  | _ :: _ :: _, _, q1 => exact q1.elim
theorem di_rng2 {tg : Expr} {p : Pos} {x : Str} {f : En → Sto → R (List Va)} (hx : x = "range") (hg : Gl X x) (hm : X.mg x = none) (ha : PA X [a, b] (tL X.K ff f)) (hs : ∀ x p, a ≠ .Starred x p) (hs2 : ∀ x p, b ≠ .Starred x p) :
    PI X tg (.Call (.Name x p) [a, b] [] pos) (tI X.K ff fun η S => (f η S).bind fun l S1 => match l with | [x, y] => rng2 x y S1 | _ => .bad) := by
  subst hx
  refine PI.weak (pi_range2 hg hm ha (by rw [star_cons _ _ _ hs, star_cons _ _ _ hs2]; rfl) (star_cons _ _ _ hs2)) fun σ H Q h => ?_
  obtain ⟨μ, S, η, rs, re, q⟩ := h
  refine tL.then rs re q fun l S1 ws H1 μ1 e1 rs1 re1 rv1 q1 => ?_
  match l, rv1, q1 with
  | [x, y], .cons rx (.cons ry .nil), q1 =>
    have q1 : (rng2 x y S1).se ff.E (pI X.K ff H μ Q) := q1
    unfold rng2 at q1
    split at q1
    · rename_i i j _
      split at q1
      · rename_i hz
        obtain rfl := Rp.int_inv rx
        obtain rfl := Rp.int_inv ry
        simp only [Bool.and_eq_true, decide_eq_true_eq] at hz
        obtain ⟨h1, h2⟩ := iR62_of hz.1.1
        obtain ⟨h3, h4⟩ := iR62_of hz.1.2
        refine ⟨_, _, rfl, ⟨h1, h2, h3, h4⟩, q1 _ H1 μ1 e1 rs1 (it_range _ _) ?_⟩
        rw [List.length_map, List.length_range]
        exact hz.2
      · exact q1.elim
    · exact q1.elim
  | [], _, q1 => exact q1.elim
  | [_], _, q1 => exact q1.elim
  | _ :: _ :: _ :: _, _, q1 => exact q1.elim
theorem di_rng3 {tg : Expr} {p : Pos} {x : Str} {f : En → Sto → R (List Va)} (hx : x = "range") (hg : Gl X x) (hm : X.mg x = none) (ha : PA X [a, b, c] (tL X.K ff f)) (hs : ∀ x p, a ≠ .Starred x p) (hs2 : ∀ x p, b ≠ .Starred x p) (hs3 : ∀ x p, c ≠ .Starred x p) :
    PI X tg (.Call (.Name x p) [a, b, c] [] pos) (tI X.K ff fun η S => (f η S).bind fun l S1 => match l with | [x, y, z] => rng3 x y z S1 | _ => .bad) := by
  subst hx
  refine PI.weak (pi_range3 hg hm ha (star_cons _ _ _ hs) (by rw [star_cons _ _ _ hs2, star_cons _ _ _ hs3]; rfl)) fun σ H Q h => ?_
  obtain ⟨μ, S, η, rs, re, q⟩ := h
  refine tL.then rs re q fun l S1 ws H1 μ1 e1 rs1 re1 rv1 q1 => ?_
  match l, rv1, q1 with
  | [x, y, z], .cons rx (.cons ry (.cons rz .nil)), q1 =>
    have q2 : (rng3 x y z S1).se ff.E (pI X.K ff H μ Q) := q1
    clear q1
    unfold rng3 at q2
    split at q2
    · rename_i i j c _
      split at q2
      · rename_i hz
        obtain rfl := Rp.int_inv rx
        obtain rfl := Rp.int_inv ry
        obtain rfl := Rp.int_inv rz
        simp only [Bool.and_eq_true, decide_eq_true_eq] at hz
        obtain ⟨h1, h2⟩ := iR62_of hz.1.1.1
        obtain ⟨h3, h4⟩ := iR62_of hz.1.1.2
        obtain rfl := hz.1.2
        refine ⟨_, _, _, _, rfl, RgC.neg h1 h2 h3 h4, q2 _ H1 μ1 e1 rs1 (it_rangeD _ _) ?_⟩
        rw [List.length_map, List.length_range]
        exact hz.2
      · exact q2.elim
    · exact q2.elim
  | [], _, q1 => exact q1.elim
  | [_], _, q1 => exact q1.elim
  | [_, _], _, q1 => exact q1.elim
  | _ :: _ :: _ :: _ :: _, _, q1 => exact q1.elim
end
end Nb

namespace Nb
open PySem L2 PySem.Spec PyProof.Rows
theorem Ex.hidden {H H' : Hp} {μ μ' : Vw} {D : Addr} {o : HO} (e : Ex H μ H' μ') (h : H D = some o) (n : ¬ μ.fz D) (m : D ∉ μ.ad) : H' D = some o ∧ ¬ μ'.fz D ∧ D ∉ μ'.ad := by
  refine ⟨e.keep D o h m, fun z => ?_, e.out h m⟩
  have q := e.fnew D z n
  rw [h] at q
  cases q
section
variable {X : Cx} {ff : Fx} {a b c : Expr} {fa fb fc : En → Sto → R Va} {pos : Pos} {vs : List Nat}
/-! ### list comprehensions -/
/-- a turn: the target, the test, the element -/
def turnF (g : Va → En → Sto → R En) (t : En → Sto → R Bool) (e : En → Sto → R Va) (η : En) : Va → Sto → R (Option Va) := fun x S2 => (g x η S2).bind fun η2 S3 => (t η2 S3).bind fun b S4 => if b then (e η2 S4).bind fun y S5 => .ok (some y) S5 else .ok none S4
/-- a thing that stands hidden, as a new list -/
theorem pF.end_ {K : PySem.W.Frag} {H0 H : Hp} {μ0 μ : Vw} {Q : VK} {l : List Va} {S : Sto} {ws : List V} {D : Addr} (q : pF K ff H0 μ0 Q l S) (e : Ex H0 μ0 H μ) (rs : RS K ff H μ S) (h0 : H0 D = none) (h : H D = some (.lst ws)) (n : ¬ μ.fz D) (m : D ∉ μ.ad) (r : RVL K ff.f H μ l ws) (hz : l.length ≤ sizeLine) (hf : ff.H0 D = none) : Q (.ref D) H := by
  have q1 := q ws (ers H D) μ (e.hid (fun b nb => Off.ers b nb) h0) (rs.hid Off.ers n m hf) (RVL.hid Off.ers n r) hz D ers_none
  rw [upd_ers h] at q1
  exact q1
theorem tLc_of {K : PySem.W.Frag} {fi : En → Sto → R (List Va)} {g : Va → En → Sto → R En} {t : En → Sto → R Bool} {e : En → Sto → R Va} {σ : L2.St} {H : Hp} {Q : VK}
    (h : tF K ff (fun η S => (fi η S).bind fun xs S1 => compF (turnF g t e (wipeE η vs)) xs [] S1) σ H Q) : tLc (tI K ff fi) (tG K ff vs g) (tT K ff t) (tE K ff e) vs σ H Q := by
  obtain ⟨μ, S, η, rs, re, q⟩ := h
  refine ⟨μ, S, η, rs, re, R.se_mono (R.se_bind q) fun xs S1 q1 J H1 μ1 e1 rs1 jt hxs D hD => ?_⟩
  have hD0 : H D = none := e1.free hD
  have hf : ff.H0 D = none := rs.his.free hD0
  refine ⟨fun i m H' => m = xs.length - i ∧ i ≤ xs.length ∧ ∃ (μ' : Vw) (S' : Sto) (acc : List Va) (ws : List V), Ex H1 μ1 H' μ' ∧ RS K ff H' μ' S' ∧ H' D = some (.lst ws) ∧ RVL K ff.f H' μ' acc ws ∧ ¬ μ'.fz D ∧ D ∉ μ'.ad ∧ acc.length ≤ i ∧
      (compF (turnF g t e (wipeE η vs)) (xs.drop i) acc S').se ff.E (pF K ff H μ Q), ⟨xs.length, by simp, Nat.zero_le _, ?_⟩, ?_⟩
  · have n1 := rs1.unk hD
    have m1 := rs1.fresh hD
    exact ⟨μ1, S1, [], [], (Ex.refl _ _).hid (fun b nb => Off.upd b nb) hD, rs1.hid Off.upd n1 m1 hf, upd_same, .nil, n1, m1, Nat.le_refl _, q1⟩
  · rintro i m H' ⟨rfl, hi, μ', S', acc, ws, e2, rs2, h2, rl2, n2, m2, hacc, q2⟩
    by_cases hlt : i < xs.length
    · right
      obtain ⟨go, yl⟩ := jt.go i H' μ' S' e2 rs2 hlt
      refine ⟨go, fun H'' => ∃ (μ' : Vw) (S' : Sto) (acc : List Va) (ws : List V), Ex H1 μ1 H'' μ' ∧ RS K ff H'' μ' S' ∧ H'' D = some (.lst ws) ∧ RVL K ff.f H'' μ' acc ws ∧ ¬ μ'.fz D ∧ D ∉ μ'.ad ∧ acc.length ≤ i + 1 ∧ (compF (turnF g t e (wipeE η vs)) (xs.drop (i + 1)) acc S').se ff.E (pF K ff H μ Q),
        fun H'' z => ⟨xs.length - (i + 1), by omega, rfl, hlt, z⟩, fun x H3 y => ?_⟩
      obtain ⟨v, μ3, hv, e3, rs3, rv3⟩ := yl x H3 y
      obtain ⟨h3, n3, m3⟩ := e3.hidden h2 n2 m2
      have rl3 := rl2.mono e3
      have hd : xs.drop i = v :: xs.drop (i + 1) := by
        have hv' := (List.getElem?_eq_some_iff.mp hv)
        rw [List.drop_eq_getElem_cons hlt]
        rw [hv'.2]
      rw [hd] at q2
      have q3 := R.se_bind q2
      unfold turnF at q3
      have q3 := R.se_bind q3
      have re3 : RE K ff.f H3 μ3 (wipeE η vs) (wipe σ vs) := ((re.wipe vs).mono e1).mono (e2.trans e3)
      refine ⟨μ3, S', wipeE η vs, v, rs3, re3, rv3, R.se_mono q3 fun η4 S4 q4 σ4 H4 μ4 w4 e4 rs4 re4 => ⟨?_, ?_⟩⟩
      · rw [w4, wipe_wipe]
      · obtain ⟨h4, n4, m4⟩ := e4.hidden h3 n3 m3
        refine ⟨μ4, S4, η4, rs4, re4, R.se_mono (R.se_bind q4) fun b5 S5 q5 H5 μ5 e5 rs5 => ?_⟩
        obtain ⟨h5, n5, m5⟩ := e5.hidden h4 n4 m4
        have e15 : Ex H1 μ1 H5 μ5 := ((e2.trans e3).trans e4).trans e5
        cases b5 with
        | false =>
          rw [if_neg Bool.false_ne_true]
          exact ⟨μ5, S5, acc, ws, e15, rs5, h5, rl3.mono (e4.trans e5), n5, m5, by omega, q5⟩
        | true =>
          rw [if_pos rfl]
          refine ⟨μ5, S5, η4, rs5, re4.mono e5, R.se_mono (R.se_bind q5) fun y6 S6 q6 w6 H6 μ6 e6 rs6 rv6 => ?_⟩
          obtain ⟨h6, n6, m6⟩ := e6.hidden h5 n5 m5
          have rl6 := rl3.mono ((e4.trans e5).trans e6)
          refine ⟨ws, h6, by rw [← rl6.length]; omega, μ6, S6, acc ++ [y6], ws ++ [w6], ?_, rs6.hid Off.upd n6 m6 hf, upd_same, RVL.hid Off.upd n6 (rl6.append (.cons rv6 .nil)), n6, m6, by rw [List.length_append, List.length_singleton]; omega, q6⟩
          exact (e15.trans e6).hid (fun b nb => Off.upd b nb) hD
    · left
      have e0 : i = xs.length := by omega
      subst e0
      refine ⟨jt.stop _ H' μ' e2 rfl, ?_⟩
      rw [List.drop_length] at q2
      exact pF.end_ q2 (e1.trans e2) rs2 hD0 h2 n2 m2 rl2 (Nat.le_trans hacc hxs) hf
where
  wipe_wipe (σ : L2.St) (vs : List Nat) : wipe (wipe σ vs) vs = wipe σ vs := by
    have h : ∀ (vs ws : List Nat), (∀ v ∈ vs, v ∈ ws) → wipe (wipe σ vs) ws = wipe σ ws := by
      intro vs
      induction vs with
      | nil => intro ws _; rfl
      | cons v r ih =>
        intro ws hs
        show wipe ((wipe σ r).set v none) ws = _
        rw [wipe_set _ _ _ ws (hs v List.mem_cons_self), ih ws fun u hu => hs u (List.mem_cons_of_mem _ hu)]
    exact h vs vs fun _ z => z
end
end Nb

namespace Nb
open PySem L2 PySem.Spec PyProof.Rows
section
variable {X : Cx} {ff : Fx} {a b c : Expr} {fa fb fc : En → Sto → R Va} {pos : Pos} {vs : List Nat}
theorem dt_ife {f g h : En → Sto → R Bool} (hc : PT X c (tT X.K ff f)) (ha : PT X a (tT X.K ff g)) (hb : PT X b (tT X.K ff h)) :
    PT X (.IfExp c a b pos) (tT X.K ff fun η S => (f η S).bind fun t S2 => if t then g η S2 else h η S2) := by
  refine ⟨fun pins st σ H Q I q => ?_⟩
  obtain ⟨μ, S, η, rs, re, q⟩ := q
  refine isTrue_IfExp (thn (hc.run pins st σ H (fun t H1 => if t = true then tT X.K ff g σ H1 Q else tT X.K ff h σ H1 Q) I ?_) fun d s1 ⟨H1, I1, q1⟩ => ?_)
  · refine tT.then rs re q fun t S1 H1 μ1 e1 rs1 re1 q1 => ?_
    cases t with
    | true => exact ⟨μ1, S1, η, rs1, re1, R.se_mono q1 fun v S' p => pB.later e1 p⟩
    | false => exact ⟨μ1, S1, η, rs1, re1, R.se_mono q1 fun v S' p => pB.later e1 p⟩
  · cases d with
    | true => exact ha.run pins s1 σ H1 Q I1 q1
    | false => exact hb.run pins s1 σ H1 Q I1 q1
/-! ### a comprehension as a value -/
abbrev blkOf (X : Cx) (scope : Scope) (st : Shared) (H : Hp) (C : Addr) (cl : List (Str × Addr)) (fp : List Addr) : Cx := X.blk st H scope (compEnvC scope cl C X.env) fp
theorem PTs.weak {e : List Expr} {t t' : TT} (h : PTs X e t) (k : ∀ σ H Q, t' σ H Q → t σ H Q) : PTs X e t' := ⟨fun pins s σ H Q I q => h.run pins s σ H Q I (k σ H Q q)⟩
theorem dts_nil : PTs X [] (tT X.K ff fun _ S => .ok true S) := PTs.weak pts_nil fun σ H Q h => by
  obtain ⟨μ, S, η, rs, re, q⟩ := h
  exact q H μ (Ex.refl _ _) rs
theorem df_comp {elt tg iter : Expr} {ifs : List Expr} {scope : Scope} {own : List (Str × Nat)} {fi : En → Sto → R (List Va)} {g : Va → En → Sto → R En} {t : En → Sto → R Bool} {e : En → Sto → R Va} (hc : X.calm = true) (hN : X.N.Nodup) (hi : PI X tg iter (tI X.K ff fi)) (ok : BlkOk X.N X.env.scope scope own)
    (hg : ∀ st H C cl fp, PG (blkOf X scope st H C cl fp) tg (tG X.K ff (own.map (·.2)) g)) (ht : ∀ st H C cl fp, PTs (blkOf X scope st H C cl fp) ifs (tT X.K ff t)) (he : ∀ st H C cl fp, PE (blkOf X scope st H C cl fp) elt (tE X.K ff e)) (hs : ∀ x, foldedSetIterable iter X.env x = pure x) :
    PE X (.ListComp elt [⟨tg, iter, ifs, 0⟩] scope pos) (tF X.K ff fun η S => (fi η S).bind fun xs S1 => compF (turnF g t e (wipeE η (own.map (·.2)))) xs [] S1) :=
  PE.weak (pe_lc hc hN hi ok hg ht he hs) fun σ H Q h => tLc_of h

/-! ### statements -/
def pS (K : PySem.W.Frag) (ff : Fx) (H : Hp) (μ : Vw) (D : Ends) : Fl → Sto → Prop := fun fl S' => ∀ H' μ', Ex H μ H' μ' → RS K ff H' μ' S' → match fl with
  | .nx η => ∀ σ, RE K ff.f H' μ' η σ → D.nx σ H'
  | .rt v => ∀ w, RV K ff.f H' μ' v w → D.rt w H'
def tS (K : PySem.W.Frag) (ff : Fx) (f : En → Sto → R Fl) : TS := fun D σ H => ∃ μ S η, RS K ff H μ S ∧ RE K ff.f H μ η σ ∧ (f η S).se ff.E (pS K ff H μ D)
theorem pS.later {K : PySem.W.Frag} {H H1 : Hp} {μ μ1 : Vw} {D : Ends} {fl : Fl} {S : Sto} (e : Ex H μ H1 μ1) (h : pS K ff H μ D fl S) : pS K ff H1 μ1 D fl S := fun H' μ' e' => h H' μ' (e.trans e')
theorem ds_nil : PSs X [] (tS X.K ff fun η S => .ok (.nx η) S) := PSs.weak pss_nil fun D σ H h => by
  obtain ⟨μ, S, η, rs, re, q⟩ := h
  exact q H μ (Ex.refl _ _) rs σ re
theorem ds_cons {st : Stmt} {rest : List Stmt} {f g : En → Sto → R Fl} (h1 : PS X st (tS X.K ff f)) (h2 : PSs X rest (tS X.K ff g)) :
    PSs X (st :: rest) (tS X.K ff fun η S => (f η S).bind fun fl S1 => match fl with
      | .nx η1 => g η1 S1
      | .rt v => .ok (.rt v) S1) := PSs.weak (pss_cons h1 h2) fun D σ H h => by
  obtain ⟨μ, S, η, rs, re, q⟩ := h
  refine ⟨μ, S, η, rs, re, R.se_mono (R.se_bind q) fun fl S1 q1 H1 μ1 e1 rs1 => ?_⟩
  cases fl with
  | nx η1 => exact fun σ1 re1 => ⟨μ1, S1, η1, rs1, re1, R.se_mono q1 fun v S' p => pS.later e1 p⟩
  | rt v => exact q1 H1 μ1 e1 rs1
theorem ds_ret (ha : PE X a (tE X.K ff fa)) : PS X (.Return (some a) pos) (tS X.K ff fun η S => (fa η S).bind fun v S1 => .ok (.rt v) S1) := PS.weak (ps_ret ha) fun D σ H h => by
  obtain ⟨μ, S, η, rs, re, q⟩ := h
  refine tE.then rs re q fun x S1 w H1 μ1 e1 rs1 re1 rv1 q1 => ?_
  exact q1 H1 μ1 e1 rs1 w rv1
theorem ds_ex (ha : PE X a (tE X.K ff fa)) (hs : swapsWith a none pos.line X.env = pure false) : PS X (.Expr a pos) (tS X.K ff fun η S => (fa η S).bind fun _ S1 => .ok (.nx η) S1) := PS.weak (ps_expr ha hs) fun D σ H h => by
  obtain ⟨μ, S, η, rs, re, q⟩ := h
  refine tE.then rs re q fun x S1 w H1 μ1 e1 rs1 re1 rv1 q1 => ?_
  exact q1 H1 μ1 e1 rs1 σ re1
theorem ds_if {p q : List Stmt} {f : En → Sto → R Bool} {g h : En → Sto → R Fl} (hc : PT X c (tT X.K ff f)) (ha : PSs X p (tS X.K ff g)) (hb : PSs X q (tS X.K ff h)) :
    PS X (.If c p q pos) (tS X.K ff fun η S => (f η S).bind fun t S2 => if t then g η S2 else h η S2) := PS.weak (ps_if hc ha hb) fun D σ H h => by
  obtain ⟨μ, S, η, rs, re, q⟩ := h
  refine tT.then rs re q fun t S1 H1 μ1 e1 rs1 re1 q1 => ?_
  cases t with
  | true => exact ⟨μ1, S1, η, rs1, re1, R.se_mono q1 fun v S' p => pS.later e1 p⟩
  | false => exact ⟨μ1, S1, η, rs1, re1, R.se_mono q1 fun v S' p => pS.later e1 p⟩
theorem ds_asg {tg : Expr} {g : Va → En → Sto → R En} (ha : PE X a (tE X.K ff fa)) (hg : PG X tg (tG X.K ff vs g)) (hs : swapsWithSole [tg] a pos.line X.env = pure false) (hw : swappedStores [tg] a X.env = pure none) (ht : ∀ x p, tg ≠ .Starred x p) :
    PS X (.Assign [tg] a pos) (tS X.K ff fun η S => (fa η S).bind fun v S1 => (g v η S1).bind fun η1 S2 => .ok (.nx η1) S2) := PS.weak (ps_asg ha hg hs hw (by rw [asg_cons _ _ _ ht]; rfl)) fun D σ H h => by
  obtain ⟨μ, S, η, rs, re, q⟩ := h
  refine tE.then rs re q fun x S1 w H1 μ1 e1 rs1 re1 rv1 q1 => ?_
  refine ⟨μ1, S1, η, x, rs1, re1, rv1, R.se_mono (R.se_bind q1) fun η2 S2 q2 σ2 H2 μ2 _ e2 rs2 re2 => ?_⟩
  exact q2 H2 μ2 (e1.trans e2) rs2 σ2 re2
/-- x, y = a, b of the def's own names -/
theorem ds_par {i j : Nat} {x y : Str} {p q : Expr} {px py pt : Pos} {kt k2 pt2} {f1 f2 : En → Sto → R Va} (hc : X.calm = true) (hN : X.N.Nodup) (hi : X.N[i]? = some x) (hj : X.N[j]? = some y) (hij : i ≠ j)
    (hx : X.env.scope.names.lookup x = some .local) (hy : X.env.scope.names.lookup y = some .local) (h1 : PE X p (tE X.K ff f1)) (h2 : PE X q (tE X.K ff f2)) (s1 : ∀ x z, p ≠ .Starred x z) (s2 : ∀ x z, q ≠ .Starred x z)
    (hw : swappedStores [.Tuple [.Name x px, .Name y py] kt pt] (.Tuple [p, q] k2 pt2) X.env = pure (some [x, y])) :
    PS X (.Assign [.Tuple [.Name x px, .Name y py] kt pt] (.Tuple [p, q] k2 pt2) pos) (tS X.K ff fun η S => (f1 η S).bind fun v S1 => (f2 η S1).bind fun w S2 => .ok (.nx ((η.set i (some v)).set j (some w))) S2) :=
  PS.weak (ps_par hc hN hi hj hij hx hy (pa_cons h1 (pa_cons h2 pa_nil (star_cons _ _ _ s2)) (star_cons _ _ _ s1)) hw) fun D σ H h => by
  obtain ⟨μ, S, η, rs, re, q⟩ := h
  refine tE.then rs re q fun v S1 w1 H1 μ1 e1 rs1 re1 rv1 q1 => ?_
  refine tE.then rs1 re1 q1 fun w S2 w2 H2 μ2 e2 rs2 re2 rv2 q2 => ?_
  exact ⟨w1, w2, rfl, q2 H2 μ2 (e1.trans e2) rs2 _ ((re2.set i (rv1.mono e2)).set j rv2)⟩
/-- name = [..] on one line -/
theorem ds_setF {i : Nat} {y : Str} {py : Pos} {elt tg iter : Expr} {ifs : List Expr} {scope : Scope} {own : List (Str × Nat)} {spos : Pos} {fi : En → Sto → R (List Va)} {g : Va → En → Sto → R En} {t : En → Sto → R Bool} {e : En → Sto → R Va} (hc : X.calm = true) (hN : X.N.Nodup) (hy : X.N[i]? = some y) (hyl : X.env.scope.names.lookup y = some .local)
    (hsw : swapsWith (.ListComp elt [⟨tg, iter, ifs, 0⟩] scope pos) (some (.Name y py)) spos.line X.env = pure true) (hi : PI X tg iter (tI X.K ff fi)) (ok : BlkOk X.N X.env.scope scope own)
    (hg : ∀ st H C cl fp, PG (blkOf X scope st H C cl fp) tg (tG X.K ff (own.map (·.2)) g)) (ht : ∀ st H C cl fp, PTs (blkOf X scope st H C cl fp) ifs (tT X.K ff t)) (he : ∀ st H C cl fp, PE (blkOf X scope st H C cl fp) elt (tE X.K ff e)) (hs : ∀ x, foldedSetIterable iter X.env x = pure x) :
    PS X (.Assign [.Name y py] (.ListComp elt [⟨tg, iter, ifs, 0⟩] scope pos) spos) (fun D σ H => tF X.K ff (fun η S => (fi η S).bind fun xs S1 => compF (turnF g t e (wipeE η (own.map (·.2)))) xs [] S1) σ H fun w H1 => D.nx (σ.set i (some w)) H1) :=
  PS.weak (ps_setLc hc hN hy hyl hsw hi ok hg ht he hs) fun D σ H h => tLc_of h
/-- the two ways to take a new list, for such an assignment -/
theorem ds_setFz {st : Stmt} {i : Nat} {f : En → Sto → R (List Va)} (h : PS X st (fun D σ H => tF X.K ff f σ H fun w H1 => D.nx (σ.set i (some w)) H1)) :
    PS X st (tS X.K ff fun η S => ((f η S).bind fun l S1 => freeze l S1).bind fun v S1 => .ok (.nx (η.set i (some v))) S1) := PS.weak h fun D σ H h => by
  obtain ⟨μ, S, η, rs, re, q⟩ := h
  dsimp only at q
  rw [R.bind_assoc] at q
  refine ⟨μ, S, η, rs, re, R.se_mono (R.se_bind q) fun l S1 q1 ws H1 μ1 e1 rs1 rv1 hz p hp => ?_⟩
  unfold freeze at q1
  split at q1
  · rename_i ds hd
    have t := rv1.pure hd
    have e2 : Ex H1 μ1 (upd H1 p (.lst ws)) (μ1.add p) := Ex.new1 hp
    exact q1 _ _ (e1.trans e2) (rs1.new1 hp) _ ((re.mono (e1.trans e2)).set i (.d (.lst (.inl ⟨.inl upd_same, rs1.fresh hp, .inr rfl⟩) (t.mono e2) (by rw [pureL_length hd]; exact hz))))
  · exact q1.elim
theorem ds_setMk {st : Stmt} {i : Nat} {f : En → Sto → R (List Va)} (h : PS X st (fun D σ H => tF X.K ff f σ H fun w H1 => D.nx (σ.set i (some w)) H1)) :
    PS X st (tS X.K ff fun η S => ((f η S).bind fun l S1 => alloc (.lst l) S1).bind fun v S1 => .ok (.nx (η.set i (some v))) S1) := PS.weak h fun D σ H h => by
  obtain ⟨μ, S, η, rs, re, q⟩ := h
  dsimp only at q
  rw [R.bind_assoc] at q
  refine ⟨μ, S, η, rs, re, R.se_mono (R.se_bind q) fun l S1 q1 ws H1 μ1 e1 rs1 rv1 hz p hp => ?_⟩
  have e2 : Ex H1 μ1 (upd H1 p (.lst ws)) (μ1.cell p) := Ex.cellNew hp
  exact q1 _ _ (e1.trans e2) (rs1.cellNew hp ⟨ws, upd_same, rv1.mono e2⟩) _ ((re.mono (e1.trans e2)).set i (.ref (by rw [← rs1.len]; simp [Vw.cell])))
/-- name op= e, of what is no list -/
theorem ds_aug {i : Nat} {x : Str} {op : Operator} {py : Pos} {g : Va → Va → Sto → R Va} (hN : X.N.Nodup) (hi : X.N[i]? = some x) (hx : Loc X.env.scope x) (ha : PE X a (tE X.K ff fa)) (ho : OpR X (inplaceOp op) (rD2 X.K ff g)) (hf : X.fn x = true ∨ X.env.scope.names.lookup x = some .local) :
    PS X (.AugAssign (.Name x py) op a pos) (tS X.K ff fun η S => match η[i]? with
      | some (some x) => (fa η S).bind fun y S1 => (g x y S1).bind fun z S2 => .ok (.nx (η.set i (some z))) S2
      | _ => .bad) := PS.weak (ps_aug hN hi hx ha (fun pins s σ H x y v u Q I r1 r2 h => ho pins s σ H x y v u Q I r1 r2 h) hf) fun D σ H h => by
  obtain ⟨μ, S, η, rs, re, q⟩ := h
  dsimp only at q
  split at q
  · rename_i x hv
    obtain ⟨w, h1, h2⟩ := re.at_ i x hv
    refine ⟨w, h1, tE.then rs re q fun y S1 w1 H1 μ1 e1 rs1 re1 rv1 q1 => ?_⟩
    refine ⟨μ1, S1, x, y, rs1, h2.mono e1, rv1, R.se_mono (R.se_bind q1) fun z S2 q2 w2 H2 μ2 e2 rs2 rv2 => ?_⟩
    exact q2 H2 μ2 (e1.trans e2) rs2 _ ((re1.mono e2).set i rv2)
  · exact q.elim
theorem ds_for {tg iter : Expr} {body : List Stmt} {fi : En → Sto → R (List Va)} {g : Va → En → Sto → R En} {f : En → Sto → R Fl} (hp : PassesOwn (model X.prog X.w) X.A X.env X.xe) (hc : X.calm = true) (hi : PI X tg iter (tI X.K ff fi)) (hg : PG X tg (tG X.K ff vs g)) (hb : PSs X body (tS X.K ff f)) (hs : ∀ x, foldedSetIterable iter X.env x = pure x) :
    PS X (.For tg iter body [] pos) (tS X.K ff fun η S => (fi η S).bind fun xs S1 => forF (fun x η1 S2 => (g x η1 S2).bind fun η2 S3 => f η2 S3) xs η S1) := PS.weak (ps_for hp hc hi hg hb hs) fun D σ H h => by
  obtain ⟨μ, S, η, rs, re, q⟩ := h
  refine ⟨μ, S, η, rs, re, R.se_mono (R.se_bind q) fun xs S1 q1 J H1 μ1 e1 rs1 jt hxs => ?_⟩
  refine ⟨fun i m σ' H' => m = xs.length - i ∧ i ≤ xs.length ∧ ∃ (μ' : Vw) (S' : Sto) (η' : En), Ex H1 μ1 H' μ' ∧ RS X.K ff H' μ' S' ∧ RE X.K ff.f H' μ' η' σ' ∧ (forF (fun x η1 S2 => (g x η1 S2).bind fun η2 S3 => f η2 S3) (xs.drop i) η' S').se ff.E (pS X.K ff H μ D),
    ⟨xs.length, by simp, Nat.zero_le _, μ1, S1, η, Ex.refl _ _, rs1, re.mono e1, q1⟩, ?_⟩
  rintro i m σ' H' ⟨rfl, hi, μ', S', η', e2, rs2, re2, q2⟩
  by_cases hlt : i < xs.length
  · right
    obtain ⟨go, yl⟩ := jt.go i H' μ' S' e2 rs2 hlt
    refine ⟨go, fun σ'' H'' => ∃ (μ' : Vw) (S' : Sto) (η' : En), Ex H1 μ1 H'' μ' ∧ RS X.K ff H'' μ' S' ∧ RE X.K ff.f H'' μ' η' σ'' ∧ (forF (fun x η1 S2 => (g x η1 S2).bind fun η2 S3 => f η2 S3) (xs.drop (i + 1)) η' S').se ff.E (pS X.K ff H μ D),
      fun σ'' H'' z => ⟨xs.length - (i + 1), by omega, rfl, hlt, z⟩, fun x H3 y => ?_⟩
    obtain ⟨v, μ3, hv, e3, rs3, rv3⟩ := yl x H3 y
    have hd : xs.drop i = v :: xs.drop (i + 1) := by
      have hv' := (List.getElem?_eq_some_iff.mp hv)
      rw [List.drop_eq_getElem_cons hlt, hv'.2]
    rw [hd] at q2
    have q3 := R.se_bind (R.se_bind q2)
    refine ⟨μ3, S', η', v, rs3, re2.mono e3, rv3, R.se_mono q3 fun η4 S4 q4 σ4 H4 μ4 _ e4 rs4 re4 => ?_⟩
    refine ⟨μ4, S4, η4, rs4, re4, R.se_mono q4 fun fl S5 q5 H5 μ5 e5 rs5 => ?_⟩
    have e15 : Ex H1 μ1 H5 μ5 := ((e2.trans e3).trans e4).trans e5
    cases fl with
    | nx η5 => exact fun σ5 re5 => ⟨μ5, S5, η5, e15, rs5, re5, q5⟩
    | rt w => exact q5 H5 μ5 (e1.trans e15) rs5
  · left
    have e0 : i = xs.length := by omega
    subst e0
    refine ⟨jt.stop _ H' μ' e2 rfl, ?_⟩
    rw [List.drop_length] at q2
    exact q2 H' μ' (e1.trans e2) rs2 σ' re2
theorem ds_forC {tg iter : Expr} {body : List Stmt} {k : Nat} {g : Va → En → Sto → R En} {f : En → Sto → R Fl} (hp : PassesOwn (model X.prog X.w) X.A X.env X.xe) (hc : X.calm = true)
    (he : PE X iter (tE X.K ff fun η S => match η[k]? with | some (some v) => .ok v S | _ => .bad)) (hg : PG X tg (tG X.K ff vs g)) (hb : PSs X body (tS X.K ff f)) (hs : ∀ x, foldedSetIterable iter X.env x = pure x) :
    PS X (.For tg iter body [] pos) (tS X.K ff fun η S => match η[k]? with
      | some (some (.ref n)) => (match S[n]? with
        | some (.lst l) => forCF (fun x η1 S2 => (g x η1 S2).bind fun η2 S3 => f η2 S3) n (l.length + 1) 0 η S
        | _ => .bad)
      | _ => .bad) := PS.weak (ps_for hp hc (pi_list he) hg hb hs) fun D σ H h => by
  obtain ⟨μ, S, η, rs, re, q⟩ := h
  dsimp only at q
  split at q
  · rename_i n hk
    split at q
    · rename_i l hS
      refine ⟨μ, S, η, rs, re, ?_⟩
      dsimp only
      rw [hk]
      intro w H1 μ1 e1 rs1 rw1
      obtain ⟨a, rfl, ha⟩ := RV.ref_inv rw1
      obtain ⟨xs0, h0, t0⟩ := rs1.lst ha hS
      refine ⟨a, rfl, ⟨xs0, SqL.of h0⟩, ?_⟩
      refine ⟨fun i m σ' H' => ∃ (μ' : Vw) (S' : Sto) (η' : En), Ex H1 μ1 H' μ' ∧ RS X.K ff H' μ' S' ∧ RE X.K ff.f H' μ' η' σ' ∧ (forCF (fun x η1 S2 => (g x η1 S2).bind fun η2 S3 => f η2 S3) n m i η' S').se ff.E (pS X.K ff H μ D),
        ⟨l.length + 1, μ1, S, η, Ex.refl _ _, rs1, re.mono e1, q⟩, ?_⟩
      rintro i m σ' H' ⟨μ', S', η', e2, rs2, re2, q2⟩
      cases m with
      | zero => exact q2.elim
      | succ m =>
      unfold forCF at q2
      split at q2
      · rename_i l' hS'
        obtain ⟨a', ea, ha'⟩ := RV.ref_inv (rw1.mono e2)
        cases ea
        obtain ⟨xs, h, t⟩ := rs2.lst ha' hS'
        split at q2
        · rename_i x hx
          right
          obtain ⟨w, h1, h2⟩ := t.get hx
          refine ⟨⟨xs, w, SqL.of h, h1⟩, fun σ'' H'' => ∃ (μ' : Vw) (S' : Sto) (η' : En), Ex H1 μ1 H'' μ' ∧ RS X.K ff H'' μ' S' ∧ RE X.K ff.f H'' μ' η' σ'' ∧ (forCF (fun x η1 S2 => (g x η1 S2).bind fun η2 S3 => f η2 S3) n m (i + 1) η' S').se ff.E (pS X.K ff H μ D),
            fun σ'' H'' z => ⟨m, Nat.lt_succ_self _, z⟩, fun y H3 yl => ?_⟩
          obtain ⟨rfl, yl⟩ := yl
          have ey := yl xs (SqL.of h)
          rw [h1] at ey
          cases ey
          have q3 := R.se_bind (R.se_bind q2)
          refine ⟨μ', S', η', x, rs2, re2, h2, R.se_mono q3 fun η4 S4 q4 σ4 H4 μ4 _ e4 rs4 re4 => ?_⟩
          refine ⟨μ4, S4, η4, rs4, re4, R.se_mono q4 fun fl S5 q5 H5 μ5 e5 rs5 => ?_⟩
          have e15 : Ex H1 μ1 H5 μ5 := (e2.trans e4).trans e5
          cases fl with
          | nx η5 => exact fun σ5 re5 => ⟨μ5, S5, η5, e15, rs5, re5, q5⟩
          | rt w => exact q5 H5 μ5 (e1.trans e15) rs5
        · rename_i hx
          left
          refine ⟨⟨xs, SqL.of h, ?_⟩, q2 H' μ' (e1.trans e2) rs2 σ' re2⟩
          rw [← t.length]
          exact List.getElem?_eq_none_iff.mp hx
      · exact q2.elim
    · exact q.elim
  · exact q.elim
theorem ds_while {body : List Stmt} {fc : En → Sto → R Bool} {f : En → Sto → R Fl} {n : Nat} (hp : PassesOwn (model X.prog X.w) X.A X.env X.xe) (hc : PT X c (tT X.K ff fc)) (hb : PSs X body (tS X.K ff f)) :
    PS X (.While c body [] pos) (tS X.K ff fun η S => whF fc f n η S) := PS.weak (ps_while hp hc hb) fun D σ H h => by
  obtain ⟨μ, S, η, rs, re, q⟩ := h
  refine ⟨fun m σ' H' => ∃ (μ' : Vw) (S' : Sto) (η' : En), Ex H μ H' μ' ∧ RS X.K ff H' μ' S' ∧ RE X.K ff.f H' μ' η' σ' ∧ (whF fc f m η' S').se ff.E (pS X.K ff H μ D), ⟨n, μ, S, η, Ex.refl _ _, rs, re, q⟩, ?_⟩
  rintro m σ' H' ⟨μ', S', η', e2, rs2, re2, q2⟩
  cases m with
  | zero => exact q2.elim
  | succ m =>
    refine tT.then rs2 re2 q2 fun t S3 H3 μ3 e3 rs3 re3 q3 => ?_
    cases t with
    | false =>
      rw [if_neg Bool.false_ne_true]
      exact q3 H3 μ3 (e2.trans e3) rs3 σ' re3
    | true =>
      rw [if_pos rfl]
      refine ⟨fun σ'' H'' => ∃ (μ' : Vw) (S' : Sto) (η' : En), Ex H μ H'' μ' ∧ RS X.K ff H'' μ' S' ∧ RE X.K ff.f H'' μ' η' σ'' ∧ (whF fc f m η' S').se ff.E (pS X.K ff H μ D), fun σ'' H'' z => ⟨m, Nat.lt_succ_self _, z⟩, ?_⟩
      refine ⟨μ3, S3, η', rs3, re3, R.se_mono (R.se_bind q3) fun fl S4 q4 H4 μ4 e4 rs4 => ?_⟩
      have e14 : Ex H μ H4 μ4 := (e2.trans e3).trans e4
      cases fl with
      | nx η4 => exact fun σ4 re4 => ⟨μ4, S4, η4, e14, rs4, re4, q4⟩
      | rt w => exact q4 H4 μ4 e14 rs4
end
end Nb

namespace Nb
open PySem L2 PySem.Spec PyProof.Rows
section
variable {X : Cx} {ff : Fx} {a b c : Expr} {fa fb fc : En → Sto → R Va} {pos : Pos}
/-! ### in, not in -/
theorem scal_flat {K : PySem.W.Frag} {H : Hp} {μ : Vw} {x : PyData} {v : V} (r : Rp K H μ x v) (h : isScal x = true) : flatV v = true := by
  cases r <;> first | rfl | (exact absurd h Bool.false_ne_true)
theorem scal_eq {K : PySem.W.Frag} {H : Hp} {μ : Vw} {x y : PyData} {v w : V} (r : Rp K H μ x v) (r2 : Rp K H μ y w) (h : isScal x = true) (h2 : isScal y = true) : eqV v w = PyData.eqv x y := by
  cases r <;> first | (exact absurd h Bool.false_ne_true) | skip
  all_goals (cases r2 <;> first | (exact absurd h2 Bool.false_ne_true) | (rw [PyData.eqv]; rfl))
theorem scal_all {K : PySem.W.Frag} {H : Hp} {μ : Vw} : ∀ {l : List PyData} {vs : List V}, RpL K H μ l vs → l.all isScal = true → vs.all flatV = true
  | _, _, .nil, _ => rfl
  | _, _, .cons r t, h => by
    rw [List.all_cons, Bool.and_eq_true] at h
    rw [List.all_cons, scal_flat r h.1, scal_all t h.2]
    rfl
theorem scal_any {K : PySem.W.Frag} {H : Hp} {μ : Vw} {x : PyData} {v : V} (r : Rp K H μ x v) (h : isScal x = true) : ∀ {l : List PyData} {vs : List V}, RpL K H μ l vs → l.all isScal = true → L2.inV v vs = anyEq x l
  | _, _, .nil, _ => rfl
  | _, _, .cons (v := w) (vs := ws) (d := y) (ds := ys) r2 t, hl => by
    rw [List.all_cons, Bool.and_eq_true] at hl
    show (eqV w v || L2.inV v ws) = (PyData.eqv y x || anyEq x ys)
    rw [scal_eq r2 r hl.1 h, scal_any r h t hl.2]
theorem str1 {x : Str} {c : Nat} (h : x.cps.toList = [c]) : x = ⟨#[c]⟩ := by
  cases x with
  | mk a =>
    have := congrArg List.toArray h
    simp at this
    rw [this]
theorem eqOks_plain : ∀ {l : List PyData}, l.all eqOk = true → PyData.plainAll l = true
  | [], _ => rfl
  | x :: r, h => by
    rw [List.all_cons, Bool.and_eq_true] at h
    show (x.plain && PyData.plainAll r) = true
    rw [(Bool.and_eq_true_iff.mp h.1).1, eqOks_plain h.2]
    rfl
/-- what in asks, of either sign -/
theorem in_of {μ : Vw} {S : Sto} {H : Hp} {x y : Va} {vx vy : V} {Q : Bool → Sto → Prop} {K : PySem.W.Frag} (rs : RS K ff H μ S) (r1 : RV K ff.f H μ x vx) (r2 : RV K ff.f H μ y vy) (q : (Nb.inV x y S).se ff.E Q) :
    (∃ (c : Nat) (z : Str), vx = .str ⟨#[c]⟩ ∧ vy = .str z ∧ Q (decide (c ∈ z.cps.toList)) S) ∨ (∃ p o, vy = .ref p ∧ DGet H p vx o ∧ Q o.isSome S) ∨
    (∃ p xs, vy = .ref p ∧ (SqL K H p xs ∨ SqT K H p xs) ∧ flatV vx = true ∧ xs.all flatV = true ∧ Q (L2.inV vx xs) S) ∨
    (∃ l z, vx = .str z ∧ ff.f (.dct l) vy ∧ Q (lookG l z).isSome S) ∨
    (∃ d ds, Dp K H vx d ∧ Dp K H vy (.list ds) ∧ eqOk d = true ∧ ds.all eqOk = true ∧ Q (anyEq d ds) S) := by
  unfold Nb.inV at q
  split at q
  · unfold inG at q
    split at q
    · cases r2 with
      | fn r2 =>
        obtain rfl := Rp.str_inv r1
        exact .inr (.inr (.inr (.inl ⟨_, _, rfl, r2, q⟩)))
    · exact q.elim
  · split at q
    · rename_i c hc
      obtain rfl := Rp.str_inv r1
      obtain rfl := Rp.str_inv r2
      exact .inl ⟨c, _, congrArg V.str (str1 hc), rfl, q⟩
    · exact q.elim
  · split at q
    · rename_i k hk
      obtain ⟨p, ks, rfl, h, t, z⟩ := Rp.dct_inv r2
      obtain rfl := keyD_inv r1 hk
      refine .inr (.inl ⟨p, _, rfl, .inl ⟨ks, k, h.1, rfl, rfl⟩, ?_⟩)
      rw [← RpK.valN t]
      exact q
    · exact q.elim
  · split at q
    · rename_i hz
      have hz := Bool.and_eq_true_iff.mp hz
      obtain ⟨p, xs, rfl, h, t, z⟩ := Rp.lst_inv r2
      cases r1 with
      | d r1 =>
        refine .inr (.inr (.inl ⟨p, xs, rfl, .inl h.sq, scal_flat r1 hz.1, scal_all t hz.2, ?_⟩))
        rw [scal_any r1 hz.1 t hz.2]
        exact q
    · unfold inL at q
      split at q
      · rename_i hz
        have hz := Bool.and_eq_true_iff.mp hz
        cases r1 with
        | d r1 =>
          cases r2 with
          | d r2 => exact .inr (.inr (.inr (.inr ⟨_, _, r1.dp (Bool.and_eq_true_iff.mp hz.1).1, r2.dp (eqOks_plain hz.2), hz.1, hz.2, q⟩)))
      · exact q.elim
  · split at q
    · rename_i hz
      have hz := Bool.and_eq_true_iff.mp hz
      obtain ⟨p, xs, rfl, h, t, z⟩ := Rp.tup_inv r2
      cases r1 with
      | d r1 =>
        refine .inr (.inr (.inl ⟨p, xs, rfl, .inr h.sq, scal_flat r1 hz.1, scal_all t hz.2, ?_⟩))
        rw [scal_any r1 hz.1 t hz.2]
        exact q
    · exact q.elim
  · split at q
    · rename_i k kvs hk hS
      obtain ⟨p, rfl, ha⟩ := RV.ref_inv r2
      obtain ⟨ks, h, t⟩ := rs.dct ha hS
      obtain rfl := kOf_inv r1 hk
      refine .inr (.inl ⟨p, _, rfl, DGet.k h, ?_⟩)
      rw [← RKV.valN t]
      exact q
    · exact q.elim
  · exact q.elim
theorem opd_in (hu : X.A.units + 66 < cLine) (hg : GdOk X.K X.w ff.f) : OpR X (compareOp .In) (rD2 X.K ff (cmpVa .isin)) := by
  intro pins s σ H vx vy v u Q I rx ry h
  obtain ⟨μ, S, x, y, rs, r1, r2, q⟩ := h
  have q : ((Nb.inV x y S).bind fun r S => R.ok (Va.d (.bool r)) S).se ff.E (pK X.K ff H μ Q) := q
  rcases in_of rs r1 r2 (R.se_bind q) with ⟨c, z, rfl, rfl, q⟩ | ⟨p, o, rfl, g, q⟩ | ⟨p, xs, rfl, h1, h2, h3, q⟩ | ⟨l, z, rfl, h1, q⟩ | ⟨d, ds, h1, h2, h3, h4, q⟩
  · exact op_in_sign pins s σ H _ _ v u Q I rx ry ⟨c, z, rfl, rfl, pK.here rs q (.d (.bl _))⟩
  · cases ry
    exact d_in (by omega) I g rx fun s3 I3 => ⟨.bl o.isSome, H, I3, rfl, pK.here rs q (.d (.bl _))⟩
  · exact op_in_seq pins s σ H _ _ v u Q I rx ry ⟨p, xs, rfl, h1, h2, h3, pK.here rs q (.d (.bl _))⟩
  · obtain ⟨a, es, n, rfl, kd, g0, g1⟩ := hg.dct _ _ h1
    cases hz : lookG l z with
    | none =>
      rw [hz] at q
      exact op_in_kd kd pins s σ H _ _ v u Q I rx ry ⟨z, _, rfl, rfl, g0 z hz, pK.here rs q (.d (.bl _))⟩
    | some g =>
      rw [hz] at q
      obtain ⟨u0, v0, e1, _, _⟩ := g1 z g hz
      exact op_in_kd kd pins s σ H _ _ v u Q I rx ry ⟨z, _, rfl, rfl, e1, pK.here rs q (.d (.bl _))⟩
  · obtain ⟨as, r1⟩ := Dp.reads I d _ v h1 rx
    obtain ⟨bs, r2⟩ := Dp.reads I _ _ u h2 ry
    have hd := Bool.and_eq_true_iff.mp h3
    have d1 := of_decide_eq_true hd.2
    exact PySem.SeqAt.in_list_data r2 r1 (eqOks_plain h4) hd.1 (by have := Nat.min_le_right (PyData.depthAll ds) d.depth; omega) ⟨.bl _, H, I, rfl, pK.here rs q (.d (.bl _))⟩
theorem opd_notin (hu : X.A.units + 66 < cLine) (hg : GdOk X.K X.w ff.f) : OpR X (compareOp .NotIn) (rD2 X.K ff (cmpVa .notin)) := by
  intro pins s σ H vx vy v u Q I rx ry h
  obtain ⟨μ, S, x, y, rs, r1, r2, q⟩ := h
  have q : (((Nb.inV x y S).bind fun b S => R.ok (!b) S).bind fun r S => R.ok (Va.d (.bool r)) S).se ff.E (pK X.K ff H μ Q) := q
  rw [R.bind_assoc] at q
  rcases in_of rs r1 r2 (R.se_bind q) with ⟨c, z, rfl, rfl, q⟩ | ⟨p, o, rfl, g, q⟩ | ⟨p, xs, rfl, h1, h2, h3, q⟩ | ⟨l, z, rfl, h1, q⟩ | ⟨d, ds, h1, h2, h3, h4, q⟩
  · exact op_notIn_sign pins s σ H _ _ v u Q I rx ry ⟨c, z, rfl, rfl, pK.here rs q (.d (.bl _))⟩
  · cases ry
    exact d_notIn (by omega) I g rx fun s3 I3 => ⟨.bl (!o.isSome), H, I3, rfl, pK.here rs q (.d (.bl _))⟩
  · exact op_notIn_seq pins s σ H _ _ v u Q I rx ry ⟨p, xs, rfl, h1, h2, h3, pK.here rs q (.d (.bl _))⟩
  · obtain ⟨a, es, n, rfl, kd, g0, g1⟩ := hg.dct _ _ h1
    cases hz : lookG l z with
    | none =>
      rw [hz] at q
      exact op_notIn_kd kd pins s σ H _ _ v u Q I rx ry ⟨z, _, rfl, rfl, g0 z hz, pK.here rs q (.d (.bl _))⟩
    | some g =>
      rw [hz] at q
      obtain ⟨u0, v0, e1, _, _⟩ := g1 z g hz
      exact op_notIn_kd kd pins s σ H _ _ v u Q I rx ry ⟨z, _, rfl, rfl, e1, pK.here rs q (.d (.bl _))⟩
  · obtain ⟨as, r1⟩ := Dp.reads I d _ v h1 rx
    obtain ⟨bs, r2⟩ := Dp.reads I _ _ u h2 ry
    have hd := Bool.and_eq_true_iff.mp h3
    have d1 := of_decide_eq_true hd.2
    exact PySem.SeqAt.notIn_list_data r2 r1 (eqOks_plain h4) hd.1 (by have := Nat.min_le_right (PyData.depthAll ds) d.depth; omega) ⟨.bl _, H, I, rfl, pK.here rs q (.d (.bl _))⟩
/-! ### isinstance -/
def tkS : Tk → String
  | .int => "int" | .str => "str" | .tuple => "tuple" | .list => "list" | .bool => "bool" | .dict => "dict"
def tyS : PyData → String
  | .none => "NoneType" | .bool _ => "bool" | .int _ => "int" | .str _ => "str" | .list _ => "list" | .tuple _ => "tuple" | .dict _ => "dict"
theorem kit_tk (K : PySem.W.Frag) (k : Tk) (x : PyData) : PySem.W.kitOne K (.type (tyS x)) (.type (tkS k)) = some (isD k x) := by
  cases x <;> cases k <;> first | rfl | (unfold PySem.W.kitOne; decide +kernel) | kernel_rfl
theorem ty_of {K : PySem.W.Frag} {H : Hp} {μ : Vw} {S : Sto} {x : Va} {v : V} {k : Tk} {Q : Bool → Sto → Prop} (rs : RS K ff H μ S) (r : RV K ff.f H μ x v) (q : (isiV k x S).se ff.E Q) : ∃ d, TyX K H v (.type (tyS d)) ∧ Q (isD k d) S := by
  unfold isiV at q
  split at q
  · refine ⟨_, ?_, q⟩
    cases r with
    | d r =>
      cases r with
      | non => exact .base .non
      | bl b => exact .base (.bl b)
      | int i => exact .base (.int i)
      | str s => exact .base (.str s)
      | lst h _ _ =>
        rcases h with h | ⟨its, n, h1, _, _⟩
        · rcases h.1 with h | ⟨o, h⟩
          · exact .base (.lst h)
          · exact .base (.frz h)
        · exact .kList h1 rfl
      | tup h _ _ =>
        rcases h with ⟨o, h, _⟩ | ⟨o, its, n, h1, _, h2, _⟩
        · exact .fTuple h
        · exact .kTuple h1 h2
      | dct h _ _ =>
        obtain ⟨o, h, _⟩ := h
        exact .fDict h
  · split at q
    · rename_i hS
      obtain ⟨a, rfl, ha⟩ := RV.ref_inv r
      obtain ⟨xs, h, t⟩ := rs.lst ha hS
      exact ⟨.list [], .base (.lst h), q⟩
    · rename_i hS
      obtain ⟨a, rfl, ha⟩ := RV.ref_inv r
      obtain ⟨xs, h, t⟩ := rs.dct ha hS
      exact ⟨.dict [], .base (.dK h), q⟩
    · exact q.elim
  · exact q.elim
theorem boot_tk (k : Tk) : bootBuiltins (Str.ofString (tkS k)) = some (.type (tkS k)) := by cases k <;> decide +kernel
theorem de_isi {k : Tk} {x y : Str} {p p2 : Pos} (hx : x = "isinstance") (hy : y = Str.ofString (tkS k)) (hg : Gl X x) (hm : X.mg x = none) (hg2 : Gl X y) (hm2 : X.mg y = none) (ha : PE X a (tE X.K ff fa)) (hs : ∀ x p, a ≠ .Starred x p) :
    PE X (.Call (.Name x p) [a, .Name y p2] [] pos) (tE X.K ff fun η S => (fa η S).bind fun x S1 => (isiV k x S1).bind fun b S2 => .ok (.d (.bool b)) S2) := by
  subst hx hy
  have hn : PE X (.Name (Str.ofString (tkS k)) p2) (tC (.ty (tkS k))) := pe_bltn hg2 hm2 (boot_tk k) rfl (by cases k <;> decide) (by cases k <;> decide)
  refine PE.weak (pe_callB call_isi hg hm (by decide +kernel) (pa_cons ha (pa_cons hn pa_nil) (star_cons _ _ _ hs)) (by decide) (by decide) (star_cons _ _ _ hs) rfl) fun σ H Q h => ?_
  obtain ⟨μ, S, η, rs, re, q⟩ := h
  refine tE.then rs re q fun x S1 w H1 μ1 e1 rs1 re1 rv1 q1 => ?_
  obtain ⟨d, ty, q2⟩ := ty_of rs1 rv1 (R.se_bind q1)
  exact ⟨w, .ty (tkS k), _, _, _, rfl, .ty _, ty, kit_tk _ _ _, pK.here rs1 (pK.later e1 q2) (.d (.bl _))⟩
/-! ### all, str -/
theorem bools_of {K : PySem.W.Frag} {H : Hp} {μ : Vw} : ∀ {l : List PyData} {vs : List V} {bs : List Bool}, RpL K H μ l vs → boolsOf l = some bs → vs = bs.map V.bl
  | _, _, _, .nil, h => by cases h; rfl
  | _, _, _, .cons r t, h => by
    cases r with
    | bl b =>
      rw [boolsOf] at h
      obtain ⟨l, e1, e2⟩ := Option.map_eq_some_iff.mp h
      subst e2
      rw [bools_of t e1]
      rfl
    | _ => cases h
theorem strs_of {K : PySem.W.Frag} {H : Hp} {μ : Vw} : ∀ {l : List PyData} {vs : List V} {bs : List Str}, RpL K H μ l vs → strsOf l = some bs → vs = bs.map V.str
  | _, _, _, .nil, h => by cases h; rfl
  | _, _, _, .cons r t, h => by
    cases r with
    | str b =>
      rw [strsOf] at h
      obtain ⟨l, e1, e2⟩ := Option.map_eq_some_iff.mp h
      subst e2
      rw [strs_of t e1]
      rfl
    | _ => cases h
theorem crd_all (hc : X.calm = true) : CallR X (.builtin "all") (rDL X.K ff (bltV .all)) := by
  intro pins s σ H vs us Q I r h
  obtain ⟨μ, S, l, rs, rl, q⟩ := h
  unfold bltV at q
  split at q <;> first | (exact q.elim) | skip
  all_goals (rename_i e; first | cases e | skip)
  cases rl with
  | cons rx rl =>
    cases rl
    split at q
    · rename_i bs hb
      obtain ⟨a, xs, rfl, h, t, z⟩ := Rp.lst_inv rx
      have := bools_of t hb
      subst this
      exact cr_all hc pins s σ H _ us Q I r ⟨a, bs, rfl, h.sq, pK.here rs q (.d (.bl _))⟩
    · exact q.elim
theorem crd_any (hc : X.calm = true) : CallR X (.builtin "any") (rDL X.K ff (bltV .any)) := by
  intro pins s σ H vs us Q I r h
  obtain ⟨μ, S, l, rs, rl, q⟩ := h
  unfold bltV at q
  split at q <;> first | (exact q.elim) | skip
  all_goals (rename_i e; first | cases e | skip)
  cases rl with
  | cons rx rl =>
    cases rl
    split at q
    · rename_i bs hb
      obtain ⟨a, xs, rfl, h, t, z⟩ := Rp.lst_inv rx
      have := bools_of t hb
      subst this
      exact cr_any hc pins s σ H _ us Q I r ⟨a, bs, rfl, h.sq, pK.here rs q (.d (.bl _))⟩
    · exact q.elim
theorem crd_str : CallR X (.type "str") (rDL X.K ff (bltV .str)) := by
  intro pins s σ H vs us Q I r h
  obtain ⟨μ, S, l, rs, rl, q⟩ := h
  unfold bltV at q
  split at q <;> first | (exact q.elim) | skip
  all_goals (rename_i e; first | cases e | skip)
  cases rl with
  | cons rx rl =>
    cases rl
    split at q
    · rename_i hz
      obtain rfl := Rp.int_inv rx
      exact call_str_int pins s σ H _ us Q I r ⟨_, rfl, hz, pK.here rs q (.d (.str _))⟩
    · exact q.elim
/-! ### methods -/
theorem st_of {K : PySem.W.Frag} {H : Hp} {μ : Vw} {S : Sto} {x : Va} {v : V} {Q : Unit → Sto → Prop} (r : RV K ff.f H μ x v) (q : (isSt x S).se ff.E Q) : tyV K "str" v H ∧ Q () S := by
  unfold isSt at q
  split at q
  · obtain rfl := Rp.str_inv r
    exact ⟨rfl, q⟩
  · exact q.elim
theorem mtd_upper : MtR X "str.upper" (fun x xs H Q => ∃ μ S o l, RS X.K ff H μ S ∧ RV X.K ff.f H μ o x ∧ RVL X.K ff.f H μ l xs ∧ (uppV o l S).se ff.E (pK X.K ff H μ Q)) := by
  intro pins s σ H x xs v us Q I rx rxs h
  obtain ⟨μ, S, o, l, rs, ro, rl, q⟩ := h
  unfold uppV at q
  split at q
  · split at q
    · rename_i hz
      obtain rfl := Rp.str_inv ro
      cases rl
      exact mt_upper pins s σ H _ _ v us Q I rx rxs ⟨_, rfl, rfl, hz, pK.here rs q (.d (.str _))⟩
    · exact q.elim
  · exact q.elim
theorem mtd_join : MtR X "str.join" (fun x xs H Q => ∃ μ S o l, RS X.K ff H μ S ∧ RV X.K ff.f H μ o x ∧ RVL X.K ff.f H μ l xs ∧ (joiV o l S).se ff.E (pK X.K ff H μ Q)) := by
  intro pins s σ H x xs v us Q I rx rxs h
  obtain ⟨μ, S, o, l, rs, ro, rl, q⟩ := h
  unfold joiV at q
  split at q
  · split at q
    · rename_i ys hy
      split at q
      · rename_i hz
        obtain rfl := Rp.str_inv ro
        cases rl with
        | cons ry rl =>
          cases rl
          obtain ⟨p, zs, rfl, h, t, z⟩ := Rp.lst_inv ry
          have := strs_of t hy
          subst this
          exact mt_join pins s σ H _ _ v us Q I rx rxs ⟨_, p, ys, rfl, rfl, .inl h.sq, hz, pK.here rs q (.d (.str _))⟩
      · exact q.elim
    · exact q.elim
  · exact q.elim
theorem mtd_extend : MtR X "list.extend" (fun x xs H Q => ∃ μ S o l, RS X.K ff H μ S ∧ RV X.K ff.f H μ o x ∧ RVL X.K ff.f H μ l xs ∧ (extV o l S).se ff.E (pK X.K ff H μ Q)) := by
  intro pins s σ H x xs v us Q I rx rxs h
  obtain ⟨μ, S, o, l, rs, ro, rl, q⟩ := h
  unfold extV at q
  split at q
  · split at q
    · rename_i l' hS
      split at q
      · rename_i hz
        obtain ⟨a, rfl, ha⟩ := RV.ref_inv ro
        obtain ⟨ws, h1, t1⟩ := rs.lst ha hS
        cases rl with
        | cons ry rl =>
          cases rl
          obtain ⟨b, zs, rfl, h2, t2, z2⟩ := Rp.lst_inv ry
          cases rx
          obtain ⟨u, rfl, ru⟩ := rxs.one
          cases ru
          have l1 := t1.length
          have l2 := t2.length
          obtain ⟨z, its, n, r, hl, e⟩ := I.lstM h1
          obtain ⟨z3, its2, n2, r2, e2⟩ := h2.rd.ob I
          have hl2 := r2.length
          have hsz : its.toArray.size + its2.toArray.size ≤ sizeLine := by rw [List.size_toArray, List.size_toArray]; omega
          have hlong : ¬ (!its.toArray.isEmpty && Builtin.List.listTooLong (its.toArray.size + its2.toArray.size)) = true := by
            rw [notLongL hsz, Bool.and_false]
            exact Bool.false_ne_true
          refine call_meets F.slot_list_extend ⟨_, e, rfl⟩ F.entry_list_extend (F.args_list_extend_2 _ _)
            (AutoSeq1.list_extend_list_list_0 a its.toArray n b its2.toArray n2 hlong (by rw [List.size_toArray]; omega) (by first | omega | (rw [List.size_toArray]; omega) | (rw [List.size_toArray, List.size_toArray]; omega))) ⟨e, e2, ?_⟩
          have e3 : Ex H μ (upd H a (.lst (ws ++ zs))) μ := Ex.write (List.mem_of_getElem? ha)
          refine ⟨.non, _, I.lset (its' := its ++ its2) h1 e (by simp) (r.append r2) ?_, rfl, q _ _ μ e3 (rs.write ha ⟨_, upd_same, (t1.append (RVL.of t2)).mono e3⟩) (.d .non)⟩
          rw [List.length_append]
          omega
      · exact q.elim
    · exact q.elim
  · exact q.elim
theorem de_meth1 {m : Mt} {T id : String} {e : Expr} {name : Str} {apos : Pos} {f : En → Sto → R (List Va)} (pa : PlainAttrs T) (slot : Slot T name id) (hty : typeOf (.builtin id) = pure (.type "method_descriptor"))
    (hm : MtR X id (fun x xs H Q => ∃ μ S o l, RS X.K ff H μ S ∧ RV X.K ff.f H μ o x ∧ RVL X.K ff.f H μ l xs ∧ (metV m o l S).se ff.E (pK X.K ff H μ Q)))
    (hr : ∀ {H : Hp} {μ : Vw} {S : Sto} {x : Va} {v : V} {Q : Unit → Sto → Prop}, RS X.K ff H μ S → RV X.K ff.f H μ x v → (recv m x S).se ff.E Q → tyV X.K T v H ∧ Q () S)
    (ha : PE X a (tE X.K ff fa)) (hA : PA X [e] (tL X.K ff f)) (hs : ∀ x p, e ≠ .Starred x p) (ho : ∀ f p pos, a ≠ .Call (.Name f p) [] [] pos) (hline : (apos.endLine == pos.line) = true) :
    PE X (.Call (.Attribute a name apos) [e] [] pos) (tE X.K ff fun η S => (fa η S).bind fun x S1 => (recv m x S1).bind fun _ S1 => (f η S1).bind fun l S2 => metV m x l S2) := by
  refine PE.weak (pe_bm pa slot hty hm ha hA (base_ok ho) ?_ hline (star_cons _ _ _ hs) rfl) fun σ H Q h => ?_
  · rw [star_cons _ _ _ hs]
    rfl
  · obtain ⟨μ, S, η, rs, re, q⟩ := h
    refine tE.then rs re q fun x S1 w H1 μ1 e1 rs1 re1 rv1 q1 => ?_
    obtain ⟨ty, q1⟩ := hr rs1 rv1 (R.se_bind q1)
    refine ⟨ty, tL.then rs1 re1 q1 fun l S2 ws H2 μ2 e2 rs2 re2 rv2 q2 => ?_⟩
    exact ⟨μ2, S2, x, l, rs2, rv1.mono e2, rv2, R.se_mono q2 fun v S' p => pK.later (e1.trans e2) p⟩
/-- the value is of that builtin type; a dict may be locked -/
def tyD (K : PySem.W.Frag) (T : String) (x : V) (H : Hp) : Prop := tyV K T x H ∨ (T = "dict" ∧ ∃ p, x = .ref p ∧ IsD H p)
theorem tyD_is {pn : List (Addr × Obj)} {σ : L2.St} {H : Hp} {s : Shared} {T : String} {x : V} {v : Value} (I : Inv X pn σ H s) (rl : RelV x v) (t : tyD X.K T x H) :
    s.TypeIs v T ∧ ∀ b, v = .ref b → ∃ u, s.heap.get? b = some u ∧ u.dict = none := by
  rcases t with t | ⟨rfl, p, rfl, d⟩
  · exact tyV_is I rl t
  · cases rl
    obtain ⟨h1, h2, _⟩ := isD_at I d
    exact ⟨h1, h2⟩
def tBMd (K : PySem.W.Frag) (T : String) (rr : V → List V → Hp → VK → Prop) (t0 : TE) (t1 : L2.TA) : TE := fun σ H Q => t0 σ H fun x Ha => tyD K T x Ha ∧ t1 σ Ha fun l Hb => rr x l Hb Q
theorem pe_bmd {T id : String} {e : Expr} {es : List Expr} {t1 : L2.TA} {t0 : TE} {rr : V → List V → Hp → VK → Prop} {name : Str} {ap cp : Pos} (hP : PlainAttrs T) (hS : Slot T name id) (hT : typeOf (.builtin id) = pure (.type "method_descriptor")) (hM : MtR X id rr) (hO : PE X a t0) (hA : PA X (e :: es) t1)
    (hB : attributeBase a name X.env (eval a X.env) = eval a X.env)
    (hF : ((backTo cp (starEach (e :: es) X.env)).all (fun x => !x.1) && (backToKw cp (keywordEach [] X.env)).all (fun x => x.1.isSome) && decide ((e :: es).length + ([] : List Keyword).length + (if ([] : List Keyword).isEmpty then 0 else 1) < 30)) = true)
    (hL : (ap.endLine == cp.line) = true) (hE : starEach (e :: es) X.env = (false, eval e X.env) :: starEach es X.env) (hN : (backTo cp (starEach es X.env)).any (·.1) = false) :
    PE X (.Call (.Attribute a name ap) (e :: es) [] cp) (tBMd X.K T rr t0 t1) := ⟨fun pn s0 σ H Q I h => by
  refine wpAny_Call_method_late hB hF hL rfl (thn (hO.run pn s0 σ H _ I h) fun v sa ⟨x, Ha, Ia, ra, ty, qa⟩ => ?_)
  obtain ⟨u1, u2⟩ := tyD_is Ia ra ty
  refine ⟨T, id, hP, hS, hT, u1, u2, ?_⟩
  have w := hA.run cp pn sa σ Ha _ Ia qa
  rw [hE] at w ⊢
  refine Calls.callWith_builtin ?_ (Calls.evalArgs_plain (thn w fun us sb ⟨l, Hb, Ib, rb, qb⟩ => hM pn sb σ Hb x l v us Q Ib ra rb qb))
  show (false || (backTo cp (starEach es X.env)).any (·.1)) = false
  rw [hN]
  rfl⟩
theorem de_meth2 {m : Mt} {T id : String} {e e' : Expr} {name : Str} {apos : Pos} {f : En → Sto → R (List Va)} (pa : PlainAttrs T) (slot : Slot T name id) (hty : typeOf (.builtin id) = pure (.type "method_descriptor"))
    (hm : MtR X id (fun x xs H Q => ∃ μ S o l, RS X.K ff H μ S ∧ RV X.K ff.f H μ o x ∧ RVL X.K ff.f H μ l xs ∧ (metV m o l S).se ff.E (pK X.K ff H μ Q)))
    (hr : ∀ {H : Hp} {μ : Vw} {S : Sto} {x : Va} {v : V} {Q : Unit → Sto → Prop}, RS X.K ff H μ S → RV X.K ff.f H μ x v → (recv m x S).se ff.E Q → tyD X.K T v H ∧ Q () S)
    (ha : PE X a (tE X.K ff fa)) (hA : PA X [e, e'] (tL X.K ff f)) (hs : ∀ x p, e ≠ .Starred x p) (hs' : ∀ x p, e' ≠ .Starred x p) (ho : ∀ f p pos, a ≠ .Call (.Name f p) [] [] pos) (hline : (apos.endLine == pos.line) = true) :
    PE X (.Call (.Attribute a name apos) [e, e'] [] pos) (tE X.K ff fun η S => (fa η S).bind fun x S1 => (recv m x S1).bind fun _ S1 => (f η S1).bind fun l S2 => metV m x l S2) := by
  refine PE.weak (pe_bmd pa slot hty hm ha hA (base_ok ho) ?_ hline (star_cons _ _ _ hs) (by rw [star_cons _ _ _ hs']; rfl)) fun σ H Q h => ?_
  · rw [star_cons _ _ _ hs, star_cons _ _ _ hs']
    rfl
  · obtain ⟨μ, S, η, rs, re, q⟩ := h
    refine tE.then rs re q fun x S1 w H1 μ1 e1 rs1 re1 rv1 q1 => ?_
    obtain ⟨ty, q1⟩ := hr rs1 rv1 (R.se_bind q1)
    refine ⟨ty, tL.then rs1 re1 q1 fun l S2 ws H2 μ2 e2 rs2 re2 rv2 q2 => ?_⟩
    exact ⟨μ2, S2, x, l, rs2, rv1.mono e2, rv2, R.se_mono q2 fun v S' p => pK.later (e1.trans e2) p⟩
theorem de_meth0 {m : Mt} {T id : String} {name : Str} {apos : Pos} (pa : PlainAttrs T) (slot : Slot T name id) (hty : typeOf (.builtin id) = pure (.type "method_descriptor"))
    (hm : MtR X id (fun x xs H Q => ∃ μ S o l, RS X.K ff H μ S ∧ RV X.K ff.f H μ o x ∧ RVL X.K ff.f H μ l xs ∧ (metV m o l S).se ff.E (pK X.K ff H μ Q)))
    (hr : ∀ {H : Hp} {μ : Vw} {S : Sto} {x : Va} {v : V} {Q : Unit → Sto → Prop}, RS X.K ff H μ S → RV X.K ff.f H μ x v → (recv m x S).se ff.E Q → tyV X.K T v H ∧ Q () S)
    (ha : PE X a (tE X.K ff fa)) (ho : ∀ f p pos, a ≠ .Call (.Name f p) [] [] pos) (hline : (apos.endLine == pos.line) = true) :
    PE X (.Call (.Attribute a name apos) [] [] pos) (tE X.K ff fun η S => (fa η S).bind fun x S1 => (recv m x S1).bind fun _ S1 => (R.ok ([] : List Va) S1).bind fun l S2 => metV m x l S2) := by
  refine PE.weak (pe_bm0 pa slot hty hm ha (base_ok ho) hline) fun σ H Q h => ?_
  obtain ⟨μ, S, η, rs, re, q⟩ := h
  refine tE.then rs re q fun x S1 w H1 μ1 e1 rs1 re1 rv1 q1 => ?_
  obtain ⟨ty, q1⟩ := hr rs1 rv1 (R.se_bind q1)
  exact ⟨ty, μ1, S1, x, [], rs1, rv1, .nil, R.se_mono q1 fun v S' p => pK.later e1 p⟩
/-! ### dicts as data -/
theorem pureK_of {K : PySem.W.Frag} {H : Hp} {μ : Vw} : ∀ {l : List (Key × Va)} {ks : List (Key × V)} {kvs : List (PyData × PyData)}, RKV K ff.f H μ l ks → pureK l = some kvs → RpK K H μ kvs ks ∧ kvs.length = l.length
  | _, _, _, .nil, h => by cases h; exact ⟨.nil, rfl⟩
  | (k, .d x) :: r, _, _, .cons (b := q) h t, e => by
    rw [pureK] at e
    obtain ⟨l, e1, e2⟩ := Option.map_eq_some_iff.mp e
    subst e2
    obtain ⟨h1, h2⟩ := pureK_of t e1
    obtain ⟨k', v⟩ := q
    obtain ⟨h3, h4⟩ := h
    have h3 : k = k' := h3
    subst h3
    cases h4 with
    | d h4 => exact ⟨.cons h4 h1, by rw [List.length_cons, List.length_cons, h2]⟩
  | (_, .ref _) :: _, _, _, _, e => by cases e
  | (_, .z _) :: _, _, _, _, e => by cases e
  | (_, .fn _) :: _, _, _, _, e => by cases e
  | (_, .tup _) :: _, _, _, _, e => by cases e
theorem PE.lk {e : Expr} {t : TE} (h : PE X e t) : PE X e (fun σ H Q => t σ H fun v H1 => ∃ p m, v = .ref p ∧ H1 p = some (.dK m) ∧ ∀ od, Q v (upd H1 p (.frz od (.dK m)))) :=
  ⟨fun pins s σ H Q I q => thn (h.run pins s σ H _ I q) fun u s1 ⟨v, H1, I1, r, p, m, ev, hp, k⟩ => by
    obtain ⟨od, I2⟩ := I1.lock hp trivial
    exact ⟨v, _, I2, r, k od⟩⟩
theorem de_dct0Z : PE X (.Dict [] [] pos) (tE X.K ff fun _ S => .ok (.d (.dict [])) S) :=
  PE.weak (PE.lk pe_dnewK) fun σ H Q h => by
    obtain ⟨μ, S, η, rs, re, q⟩ := h
    intro p hp
    refine ⟨p, [], rfl, upd_same, fun od => ?_⟩
    rw [upd_upd]
    have e1 : Ex H μ (upd H p (.frz od (.dK []))) (μ.add p) := Ex.new1 hp
    exact q _ _ _ e1 (rs.new1 hp) (.d (.dct ⟨od, upd_same, rs.fresh hp, .inr rfl⟩ .nil (Nat.zero_le _)))
theorem de_dctZ {keys : List (Option Expr)} {values : List Expr} {f : En → Sto → R (List (Key × Va))} (h : DPs X ff pos keys values f) (hall : keys.all (·.isSome) = true) (hl : keys.length = values.length) (h0 : keys ≠ []) (h15 : keys.length ≤ 15)
    (hf : ∀ η S, (f η S).se (fun _ _ => True) (fun l _ => l.length ≤ 15) ∨ f η S = .bad) :
    PE X (.Dict keys values pos) (tE X.K ff fun η S => (f η S).bind fun l S1 => freezeD l S1) := by
  obtain ⟨trs, hp, ht⟩ := h.ex
  refine PE.weak (PE.lk (pe_disp hp hall hl h0 h15)) fun σ H Q h => ?_
  obtain ⟨μ, S, η, rs, re, q⟩ := h
  dsimp only at q
  intro p hp
  have nf := rs.unk hp
  have nm := rs.fresh hp
  have rs1 : RS X.K ff (upd H p (.dK [])) μ S := rs.hid Off.upd nf nm (rs.his.free hp)
  have re1 : RE X.K ff.f (upd H p (.dK [])) μ η σ := re.hid Off.upd nf
  have hl : ((f η S).se ff.E fun l S1 => l.length ≤ 15 ∧ (freezeD l S1).se ff.E (pK X.K ff H μ Q)) := by
    cases h1 : f η S with
    | bad => rw [h1] at q; exact q
    | ex _ _ => rw [h1] at q; exact q
    | ok l S1 =>
      rw [h1] at q
      rcases hf η S with z | z
      · rw [h1] at z; exact ⟨z, q⟩
      · rw [h1] at z; cases z
  refine ht σ _ _ _ _ η rs1 re1 (R.se_mono hl fun l S1 ⟨hl, q1⟩ m H2 μ2 e2 rs2 rk2 => ?_)
  obtain ⟨h2, n2, m2⟩ := e2.hidden upd_same nf nm
  unfold freezeD at q1
  split at q1
  · rename_i kvs hk
    refine ⟨h2, m, rfl, by rw [← Paired.length rk2]; exact hl, ⟨p, mergeK [] m, rfl, upd_same, fun od => ?_⟩⟩
    rw [upd_upd]
    have mr := merge_rel rk2 (.nil : RKV X.K ff.f H2 μ2 [] [])
    obtain ⟨k1, k2⟩ := pureK_of mr hk
    have hlen : kvs.length ≤ sizeLine := by
      rw [k2]
      have : ∀ (l acc : List (Key × Va)), (l.foldl (fun acc kv => putA acc kv.1 kv.2) acc).length ≤ acc.length + l.length := by
        intro l
        induction l with
        | nil => intro acc; exact Nat.le_refl _
        | cons x l ih =>
          intro acc
          rw [List.foldl_cons]
          refine Nat.le_trans (ih _) ?_
          have : (putA acc x.1 x.2).length ≤ acc.length + 1 := by
            unfold putA
            split
            · rw [List.length_map]; omega
            · rw [List.length_append]; exact Nat.le_refl _
          rw [List.length_cons]; omega
      refine Nat.le_trans (this l []) ?_
      show 0 + l.length ≤ sizeLine
      have : (15 : Nat) ≤ sizeLine := by decide
      omega
    have e3 : Ex H μ (upd H2 p (.frz od (.dK (mergeK [] m)))) (μ2.add p) := by
      refine Ex.known ?_ hp
      have e4 : Ex H μ H2 μ2 := by
        refine ⟨fun b o h n => e2.keep b o (by rw [upd_ne (ne_of_none h hp)]; exact h) n, fun b o h => e2.live b o (by rw [upd_ne (ne_of_none h hp)]; exact h), e2.pre, fun b h n => ?_, e2.fzs, fun b h n => ?_⟩
        · have := e2.new b h n
          by_cases z : b = p
          · subst z; exact hp
          · rw [upd_ne z] at this; exact this
        · have := e2.fnew b h n
          by_cases z : b = p
          · subst z; exact hp
          · rw [upd_ne z] at this; exact this
      exact e4.hid (fun b nb => Off.upd b nb) hp
    have off : Off p H2 (upd H2 p (.frz od (.dK (mergeK [] m)))) := Off.upd
    exact q1 _ _ _ e3 ((rs2.hid off n2 m2 (rs.his.free hp)).grow upd_same (rs.his.free hp)) (.d (.dct ⟨od, upd_same, m2, .inr rfl⟩ (RpK.grow (RpK.hid off n2 k1)) hlen))
  · exact q1.elim
end
end Nb

namespace Nb
open PySem L2 PySem.Spec PyProof.Rows
/-! ### texts in order: there is but one way -/
def leS' (a b : Str) : Prop := a.cps.toList ≤ b.cps.toList
theorem leS'_of {a b : Str} (h : ltCps b.cps.toList a.cps.toList = false) : leS' a b := by
  rw [ltCps_eq] at h
  exact of_decide_eq_false h
theorem rising_pw : ∀ (l : List Str) (p : Str), risingS p l = true → (p :: l).Pairwise leS'
  | [], p, _ => List.pairwise_singleton ..
  | x :: r, p, h => by
    have h : (!ltCps x.cps.toList p.cps.toList && risingS x r) = true := h
    rw [Bool.and_eq_true, Bool.not_eq_true'] at h
    have ih := rising_pw r x h.2
    refine .cons (fun y hy => ?_) ih
    rcases List.mem_cons.mp hy with rfl | hy
    · exact leS'_of h.1
    · exact List.le_trans (leS'_of h.1) (List.rel_of_pairwise_cons ih hy)
theorem sorted_pw {l : List Str} (h : sortedS l = true) : l.Pairwise leS' := by
  cases l with
  | nil => exact .nil
  | cons x r => exact rising_pw r x h
theorem insS_perm (x : Str) : ∀ l : List Str, (insS x l).Perm (x :: l)
  | [] => .refl _
  | y :: r => by
    rw [insS]
    split
    · exact ((insS_perm x r).cons y).trans (.swap x y r)
    · exact .refl _
theorem sortS_perm : ∀ l : List Str, (sortS l).Perm l
  | [] => .refl _
  | x :: r => (insS_perm x (sortS r)).trans ((sortS_perm r).cons x)
theorem insS_pw (x : Str) : ∀ {l : List Str}, l.Pairwise leS' → (insS x l).Pairwise leS'
  | [], _ => List.pairwise_singleton ..
  | y :: r, h => by
    rw [insS]
    have h0 := List.pairwise_cons.mp h
    split
    · rename_i hl
      have hl := of_decide_eq_true hl
      refine .cons (fun z hz => ?_) (insS_pw x h0.2)
      rcases List.mem_cons.mp ((insS_perm x r).mem_iff.mp hz) with rfl | hz
      · exact List.le_of_lt hl
      · exact h0.1 z hz
    · rename_i hl
      have hl : leS' x y := fun q => hl (decide_eq_true q)
      refine .cons (fun z hz => ?_) h
      rcases List.mem_cons.mp hz with rfl | hz
      · exact hl
      · exact List.le_trans hl (h0.1 z hz)
theorem sortS_pw : ∀ l : List Str, (sortS l).Pairwise leS'
  | [] => .nil
  | x :: r => insS_pw x (sortS_pw r)
theorem leS'_anti {a b : Str} (h : leS' a b) (k : leS' b a) : a = b := by
  have := List.le_antisymm h k
  obtain ⟨⟨a⟩⟩ := a
  obtain ⟨⟨b⟩⟩ := b
  cases this
  rfl
theorem sort_one {ys ks : List Str} (p : ys.Perm ks) (h : sortedS ys = true) : ys = sortS ks :=
  List.Perm.eq_of_pairwise (le := leS') (fun a b _ _ => leS'_anti) (sorted_pw h) (sortS_pw ks) (p.trans (sortS_perm ks).symm)
theorem insI_perm (x : Int) : ∀ l : List Int, (insI x l).Perm (x :: l)
  | [] => .refl _
  | y :: r => by
    rw [insI]
    split
    · exact ((insI_perm x r).cons y).trans (.swap x y r)
    · exact .refl _
theorem sortI_perm : ∀ l : List Int, (sortI l).Perm l
  | [] => .refl _
  | x :: r => (insI_perm x (sortI r)).trans ((sortI_perm r).cons x)
theorem insI_pw (x : Int) : ∀ {l : List Int}, l.Pairwise (· ≤ ·) → (insI x l).Pairwise (· ≤ ·)
  | [], _ => List.pairwise_singleton ..
  | y :: r, h => by
    rw [insI]
    have h0 := List.pairwise_cons.mp h
    split
    · rename_i hl
      have hl := of_decide_eq_true hl
      refine .cons (fun z hz => ?_) (insI_pw x h0.2)
      rcases List.mem_cons.mp ((insI_perm x r).mem_iff.mp hz) with rfl | hz
      · omega
      · exact h0.1 z hz
    · rename_i hl
      have hl : ¬ y < x := fun q => hl (decide_eq_true q)
      refine .cons (fun z hz => ?_) h
      rcases List.mem_cons.mp hz with rfl | hz
      · omega
      · have := h0.1 z hz
        omega
theorem sortI_pw : ∀ l : List Int, (sortI l).Pairwise (· ≤ ·)
  | [] => .nil
  | x :: r => insI_pw x (sortI_pw r)
theorem sortI_one {ys ks : List Int} (p : ys.Perm ks) (h : ys.Pairwise (· ≤ ·)) : ys = sortI ks :=
  List.Perm.eq_of_pairwise (le := (· ≤ ·)) (fun a b _ _ h1 h2 => by omega) h (sortI_pw ks) (p.trans (sortI_perm ks).symm)
theorem intKs_map {α : Type} : ∀ {l : List (Key × α)} {ks : List Int}, intKs l = some ks → l.map (·.1) = ks.map Sum.inl
  | [], ks, h => by cases h; rfl
  | (.inl x, a) :: r, ks, h => by
    rw [intKs] at h
    obtain ⟨m, e, rfl⟩ := Option.map_eq_some_iff.mp h
    rw [List.map_cons, List.map_cons, intKs_map e]
  | (.inr _, _) :: _, _, h => by cases h
theorem ints_rpN {K : PySem.W.Frag} {H : Hp} {μ : Vw} : ∀ l : List Int, RpL K H μ (l.map PyData.int) (l.map V.int)
  | [] => .nil
  | x :: r => .cons (.int x) (ints_rpN r)
section
variable {X : Cx} {ff : Fx}
theorem prs_rel {K : PySem.W.Frag} {H : Hp} {μ : Vw} : ∀ {ds : List PyData} {xs : List V} {m : List (Key × Va)}, RpL K H μ ds xs → prsV ds = some m → ∃ (ps : List Addr) (kvs : List (Key × V)), xs = ps.map V.ref ∧ Paired (fun p kv => SqT K H p [kV kv.1, kv.2]) ps kvs ∧ RKV K ff.f H μ m kvs
  | _, _, _, .nil, h => by cases h; exact ⟨[], [], rfl, .nil, .nil⟩
  | d :: ds, v :: vs, m, .cons r t, h => by
    rw [prsV.eq_def] at h
    split at h
    · rename_i heq
      cases heq
    · rename_i k y r' heq
      cases heq
      split at h
      · rename_i k' l' e1 e2
        cases h
        obtain ⟨ps, kvs, ex, hp, hk⟩ := prs_rel t e2
        cases r with
        | tup ta rl z =>
          cases rl with
          | cons r1 rl =>
            cases rl with
            | cons r2 rl =>
              cases rl
              rename_i a v1 v2
              have ek : v1 = kV k' := by
                cases r1 with
                | int i => cases e1; rfl
                | str x => cases e1; rfl
                | _ => cases e1
              subst ek
              exact ⟨a :: ps, (k', v2) :: kvs, by rw [ex]; rfl, .cons ta.sq hp, .cons ⟨rfl, .d r2⟩ hk⟩
      · cases h
    · cases h
theorem keys_rel {K : PySem.W.Frag} {H : Hp} {μ : Vw} : ∀ {l : List (Key × Va)} {ks : List (Key × V)}, RKV K ff.f H μ l ks → ks.map (·.1) = l.map (·.1)
  | _, _, .nil => rfl
  | _, _, .cons h t => by rw [List.map_cons, List.map_cons, keys_rel t, h.1]
theorem strKs_map {α : Type} : ∀ {l : List (Key × α)} {ks : List Str}, strKs l = some ks → l.map (·.1) = ks.map Sum.inr
  | [], ks, h => by cases h; rfl
  | (.inr x, a) :: r, ks, h => by
    rw [strKs] at h
    obtain ⟨m, e, rfl⟩ := Option.map_eq_some_iff.mp h
    rw [List.map_cons, List.map_cons, strKs_map e]
  | (.inl _, _) :: _, _, h => by cases h
theorem dKs_rel {K : PySem.W.Frag} {H : Hp} {μ : Vw} : ∀ {kvs : List (PyData × PyData)} {ks : List (Key × V)} {l : List (Key × Va)}, RpK K H μ kvs ks → dKs kvs = some l → RKV K ff.f H μ l ks
  | _, _, _, .nil, h => by cases h; exact .nil
  | _, _, _, .cons (k := k) r t, h => by
    rw [dKs, keyD_kD] at h
    split at h
    · rename_i k' l' e1 e2
      cases e1
      cases h
      exact .cons ⟨rfl, .d r⟩ (dKs_rel t e2)
    · cases h
theorem strs_rp {K : PySem.W.Frag} {H : Hp} {μ : Vw} : ∀ l : List Str, RpL K H μ (l.map PyData.str) (l.map V.str)
  | [] => .nil
  | x :: r => .cons (.str x) (strs_rp r)
theorem srt_of {pins : List (Addr × Obj)} {s : Shared} {σ : L2.St} {H : Hp} {μ : Vw} {S : Sto} {a : Addr} {ks : List (Key × V)} {l : List (Key × Va)} {vs : List V} {us : List Value} {Q : VK} (hc : X.calm = true) (I : Inv X pins σ H s) (rs : RS X.K ff H μ S) (ev : vs = [.ref a]) (r : Vals vs us) (hd : Rd H a (.dK ks)) (rk : RKV X.K ff.f H μ l ks) (q : (srtK l S).se ff.E (pK X.K ff H μ Q)) :
    wpAny (model X.prog X.w) X.A (call (.builtin "sorted") us) (EP X pins σ Q) X.xe s := by
  unfold srtK at q
  split at q
  · rename_i ss hs
    split at q
    · rename_i h64
      refine call_sortedD hc pins s σ H _ us Q I r ⟨a, ks, ss, ev, hd, (keys_rel rk).trans (strKs_map hs), h64, fun ys p pm st hp => ?_⟩
      have := sort_one pm st
      subst this
      exact pK.newLst rs q (strs_rp _) (by rw [List.length_map, (sortS_perm ss).length_eq]; exact Nat.le_trans (Nat.le_of_lt h64) (by decide)) p hp
    · exact q.elim
  · split at q
    · rename_i ns hn
      refine call_sortedDN hc pins s σ H _ us Q I r ⟨a, ks, ns, ev, hd, (keys_rel rk).trans (intKs_map hn), fun ys p pm st hp => ?_⟩
      have := sortI_one pm st
      subst this
      refine pK.newLst rs q (ints_rpN _) ?_ p hp
      have h1 : ks.length = ns.length := by
        have := congrArg List.length ((keys_rel rk).trans (intKs_map hn))
        simpa using this
      rw [List.length_map, (sortI_perm ns).length_eq, ← h1]
      exact (hd.ok I.hok).1
    · exact q.elim
theorem crd_sortedL {pins : List (Addr × Obj)} {s : Shared} {σ : L2.St} {H : Hp} {μ : Vw} {S : Sto} {l : List PyData} {x : V} {us : List Value} {Q : VK} (I : Inv X pins σ H s) (rs : RS X.K ff H μ S) (rx : RV X.K ff.f H μ (.d (.list l)) x) (r : Vals [x] us)
    (q : R.se ff.E (match intsD l with | some ns => .ok (Va.d (.list ((sortI ns).map PyData.int))) S | none => .bad) (pK X.K ff H μ Q)) : wpAny (model X.prog X.w) X.A (call (.builtin "sorted") us) (EP X pins σ Q) X.xe s := by
  split at q
  · rename_i ns hn
    obtain ⟨a, xs, rfl, h, t, z⟩ := Rp.lst_inv rx
    have e := ints_rp t hn
    subst e
    refine cr_sortedI pins s σ H _ us Q I r ⟨a, ns, rfl, h.sq, fun ys p pm st hp => ?_⟩
    have := sortI_one pm st
    subst this
    refine pK.newLst rs q (ints_rpN _) ?_ p hp
    rw [List.length_map, (sortI_perm ns).length_eq, ← List.length_map (f := V.int), ← t.length]
    exact z
  · exact q.elim
theorem crd_sorted (hc : X.calm = true) : CallR X (.builtin "sorted") (rDL X.K ff (bltV .sorted)) := by
  intro pins s σ H vs us Q I r h
  obtain ⟨μ, S, l, rs, rl, q⟩ := h
  unfold bltV at q
  split at q <;> first | (exact q.elim) | skip
  all_goals (rename_i e; first | cases e | skip)
  · cases rl with
    | cons rx rl =>
      cases rl
      split at q
      · rename_i l hS
        obtain ⟨a, rfl, ha⟩ := RV.ref_inv rx
        obtain ⟨ks, h1, h2⟩ := rs.dct ha hS
        exact srt_of hc I rs rfl r (.inl h1) h2 q
      · exact q.elim
  · cases rl with
    | cons rx rl =>
      cases rl
      split at q
      · rename_i l hl
        obtain ⟨a, ks, rfl, h, t, z⟩ := Rp.dct_inv rx
        exact srt_of hc I rs rfl r h.1 (dKs_rel t hl) q
      · exact q.elim
  · cases rl with
    | cons rx rl =>
      cases rl
      exact crd_sortedL I rs rx r q
theorem putA_len' (acc : List (Key × Va)) (x : Key × Va) : (putA acc x.1 x.2).length ≤ acc.length + 1 := by
  unfold putA
  split
  · rw [List.length_map]; omega
  · rw [List.length_append]; exact Nat.le_refl _
theorem fold_len : ∀ (l acc : List (Key × Va)), (l.foldl (fun acc kv => putA acc kv.1 kv.2) acc).length ≤ acc.length + l.length
  | [], acc => Nat.le_refl _
  | x :: l, acc => by
    rw [List.foldl_cons]
    refine Nat.le_trans (fold_len l _) ?_
    have := putA_len' acc x
    rw [List.length_cons]; omega
theorem prsV_len : ∀ {l : List PyData} {m : List (Key × Va)}, prsV l = some m → m.length = l.length
  | [], m, h => by cases h; rfl
  | d :: l, m, h => by
    rw [prsV.eq_def] at h
    split at h
    · rename_i heq; cases heq
    · rename_i k y r' heq
      cases heq
      split at h
      · rename_i k' l' e1 e2
        cases h
        rw [List.length_cons, List.length_cons, prsV_len e2]
      · cases h
    · cases h
theorem EP.lk {pins : List (Addr × Obj)} {σ : L2.St} {Q : VK} {u : Value} {s' : Shared} (h : EP X pins σ (fun v H1 => ∃ p m, v = .ref p ∧ H1 p = some (.dK m) ∧ ∀ od, Q v (upd H1 p (.frz od (.dK m)))) u s') : EP X pins σ Q u s' := by
  obtain ⟨v, H1, I1, r, p, m, ev, hp, k⟩ := h
  obtain ⟨od, I2⟩ := I1.lock hp trivial
  exact ⟨v, _, I2, r, k od⟩
theorem frz_new {H : Hp} {μ : Vw} {S : Sto} {m : List (Key × Va)} {kvs : List (Key × V)} {Q : VK} (rs : RS X.K ff H μ S) (rk : RKV X.K ff.f H μ m kvs) (hm : m.length ≤ sizeLine) (q : (freezeD m S).se ff.E (pK X.K ff H μ Q)) : ∀ p, H p = none → ∃ p' m, V.ref p = .ref p' ∧ (upd H p (.dK (mergeK [] kvs))) p' = some (.dK m) ∧ ∀ od, Q (.ref p) (upd (upd H p (.dK (mergeK [] kvs))) p' (.frz od (.dK m))) := by
  intro p hp
  refine ⟨p, mergeK [] kvs, rfl, upd_same, fun od => ?_⟩
  rw [upd_upd]
  unfold freezeD at q
  split at q
  · rename_i ks hk
    obtain ⟨k1, k2⟩ := pureK_of (merge_rel rk (.nil : RKV X.K ff.f H μ [] [])) hk
    have e1 : Ex H μ (upd H p (.frz od (.dK (mergeK [] kvs)))) (μ.add p) := Ex.new1 hp
    have hl : ks.length ≤ sizeLine := by
      rw [k2]
      have := fold_len m []
      rw [List.length_nil, Nat.zero_add] at this
      omega
    exact q _ _ _ e1 (rs.new1 hp) (.d (.dct ⟨od, upd_same, rs.fresh hp, .inr rfl⟩ (k1.mono e1) hl))
  · exact q.elim
theorem crd_dict (hc : X.calm = true) : CallR X (.type "dict") (rDL X.K ff (bltV .dict)) := by
  intro pins s σ H vs us Q I r h
  obtain ⟨μ, S, l, rs, rl, q⟩ := h
  unfold bltV at q
  split at q <;> first | (exact q.elim) | skip
  all_goals (rename_i e; first | cases e | skip)
  · cases rl with
    | cons rx rl =>
      cases rl
      split at q
      · rename_i l hS
        obtain ⟨a, rfl, ha⟩ := RV.ref_inv rx
        obtain ⟨ks, h1, h2⟩ := rs.dct ha hS
        refine call_dictD pins s σ H _ us Q I r ⟨a, ks, rfl, .inl h1, fun p hp => ?_⟩
        have e1 : Ex H μ (upd H p (.dK ks)) (μ.cell p) := Ex.cellNew hp
        exact q _ _ _ e1 (rs.cellNew hp ⟨ks, upd_same, h2.mono e1⟩) (.ref (by rw [← rs.len]; simp [Vw.cell]))
      · exact q.elim
  · cases rl with
    | cons rx rl =>
      cases rl
      cases rx with
      | d rx =>
        cases rx with
        | @dct a ks kvs hd t z =>
          obtain ⟨o, h1, _⟩ := hd
          refine thn (call_dictD pins s σ H _ us _ I r ⟨a, ks, rfl, .inr ⟨o, h1⟩, fun p hp => ⟨p, ks, rfl, upd_same, fun od => ?_⟩⟩) fun u s' h => EP.lk h
          rw [upd_upd]
          have e1 : Ex H μ (upd H p (.frz od (.dK ks))) (μ.add p) := Ex.new1 hp
          exact q _ _ _ e1 (rs.new1 hp) (.d (.dct ⟨od, upd_same, rs.fresh hp, .inr rfl⟩ (t.mono e1) z))
  · cases rl with
    | cons rx rl =>
      cases rl
      unfold prsF at q
      split at q
      · rename_i m hm
        obtain ⟨a, xs, rfl, ta, t, z⟩ := Rp.tup_inv rx
        obtain ⟨ps, kvs, rfl, hp, hk⟩ := prs_rel (ff := ff) t hm
        refine thn (call_dictT hc pins s σ H _ us _ I r ⟨a, ps, kvs, rfl, ?_, hp, frz_new rs hk (by rw [prsV_len hm]; exact z) q⟩) fun u s' h => EP.lk h
        rcases ta with ⟨o, h1, h2, _⟩ | h
        · exact .inl ⟨o, h1, h2⟩
        · exact .inr h
      · exact q.elim
  · cases rl with
    | cons rx rl =>
      cases rl
      unfold prsF at q
      split at q
      · rename_i m hm
        obtain ⟨a, xs, rfl, ta, t, z⟩ := Rp.lst_inv rx
        obtain ⟨ps, kvs, rfl, hp, hk⟩ := prs_rel (ff := ff) t hm
        exact thn (call_dictP hc pins s σ H _ us _ I r ⟨a, ps, kvs, rfl, ta.sq, hp, frz_new rs hk (by rw [prsV_len hm]; exact z) q⟩) fun u s' h => EP.lk h
      · exact q.elim
theorem cel_new {H : Hp} {μ : Vw} {S : Sto} {m : List (Key × Va)} {kvs : List (Key × V)} {Q : VK} (rs : RS X.K ff H μ S) (rk : RKV X.K ff.f H μ m kvs) (q : (alloc (.dct (m.foldl (fun acc kv => putA acc kv.1 kv.2) [])) S).se ff.E (pK X.K ff H μ Q)) : ∀ p, H p = none → Q (.ref p) (upd H p (.dK (mergeK [] kvs))) := by
  intro p hp
  have e1 : Ex H μ (upd H p (.dK (mergeK [] kvs))) (μ.cell p) := Ex.cellNew hp
  exact q _ _ _ e1 (rs.cellNew hp ⟨_, upd_same, (merge_rel rk (.nil : RKV X.K ff.f H μ [] [])).mono e1⟩) (.ref (by rw [← rs.len]; simp [Vw.cell]))
theorem crd_dictC (hc : X.calm = true) : CallR X (.type "dict") (rDL X.K ff (bltV .dictC)) := by
  intro pins s σ H vs us Q I r h
  obtain ⟨μ, S, l, rs, rl, q⟩ := h
  unfold bltV at q
  split at q <;> first | (exact q.elim) | skip
  all_goals (rename_i e; first | cases e | skip)
  · cases rl with
    | cons rx rl =>
      cases rl
      split at q
      · rename_i l hS
        obtain ⟨a, rfl, ha⟩ := RV.ref_inv rx
        obtain ⟨ks, h1, h2⟩ := rs.dct ha hS
        refine call_dictD pins s σ H _ us Q I r ⟨a, ks, rfl, .inl h1, fun p hp => ?_⟩
        have e1 : Ex H μ (upd H p (.dK ks)) (μ.cell p) := Ex.cellNew hp
        exact q _ _ _ e1 (rs.cellNew hp ⟨ks, upd_same, h2.mono e1⟩) (.ref (by rw [← rs.len]; simp [Vw.cell]))
      · exact q.elim
  · cases rl with
    | cons rx rl =>
      cases rl
      split at q
      · rename_i m hm
        cases rx with
        | d rx =>
          cases rx with
          | @dct a ks kvs hd t z =>
            obtain ⟨o, h1, _⟩ := hd
            refine call_dictD pins s σ H _ us Q I r ⟨a, ks, rfl, .inr ⟨o, h1⟩, fun p hp => ?_⟩
            have e1 : Ex H μ (upd H p (.dK ks)) (μ.cell p) := Ex.cellNew hp
            exact q _ _ _ e1 (rs.cellNew hp ⟨ks, upd_same, (dKs_rel t hm).mono e1⟩) (.ref (by rw [← rs.len]; simp [Vw.cell]))
      · exact q.elim
  · cases rl with
    | cons rx rl =>
      cases rl
      unfold prsC at q
      split at q
      · rename_i m hm
        obtain ⟨a, xs, rfl, ta, t, z⟩ := Rp.tup_inv rx
        obtain ⟨ps, kvs, rfl, hp, hk⟩ := prs_rel (ff := ff) t hm
        refine call_dictT hc pins s σ H _ us _ I r ⟨a, ps, kvs, rfl, ?_, hp, cel_new rs hk q⟩
        rcases ta with ⟨o, h1, h2, _⟩ | h
        · exact .inl ⟨o, h1, h2⟩
        · exact .inr h
      · exact q.elim
  · cases rl with
    | cons rx rl =>
      cases rl
      unfold prsC at q
      split at q
      · rename_i m hm
        obtain ⟨a, xs, rfl, ta, t, z⟩ := Rp.lst_inv rx
        obtain ⟨ps, kvs, rfl, hp, hk⟩ := prs_rel (ff := ff) t hm
        exact call_dictP hc pins s σ H _ us _ I r ⟨a, ps, kvs, rfl, ta.sq, hp, cel_new rs hk q⟩
      · exact q.elim
theorem crd_min (hc : X.calm = true) : CallR X (.builtin "min") (rDL X.K ff (bltV .min)) := by
  intro pins s σ H vs us Q I r h
  obtain ⟨μ, S, l, rs, rl, q⟩ := h
  unfold bltV at q
  split at q <;> first | (exact q.elim) | skip
  all_goals (rename_i e; first | cases e | skip)
  cases rl with
  | cons rx rl =>
    cases rl with
    | cons ry rl =>
      cases rl
      obtain rfl := Rp.int_inv rx
      obtain rfl := Rp.int_inv ry
      exact call_min2 hc pins s σ H _ us Q I r ⟨_, _, rfl, pK.here rs q (.d (.int _))⟩
theorem crd_sum (hc : X.calm = true) : CallR X (.builtin "sum") (rDL X.K ff (bltV .sum)) := by
  intro pins s σ H vs us Q I r h
  obtain ⟨μ, S, l, rs, rl, q⟩ := h
  unfold bltV at q
  split at q <;> first | (exact q.elim) | skip
  all_goals (rename_i e; first | cases e | skip)
  cases rl with
  | cons rx rl =>
    cases rl
    unfold sumV at q
    split at q
    · rename_i ns hn
      obtain ⟨a, xs, rfl, h, t, z⟩ := Rp.lst_inv rx
      have := ints_rp t hn
      subst this
      exact cr_sum hc pins s σ H _ us Q I r ⟨a, ns, rfl, h.sq, pK.here rs q (.d (.int _))⟩
    · exact q.elim
theorem maxL_ok : ∀ {l : List Int} {m : Int}, maxL l = some m → m ∈ l ∧ ∀ y ∈ l, y ≤ m
  | i :: r, m, h => by
    rw [maxL] at h
    split at h
    · rename_i e
      cases h
      cases r with
      | nil => exact ⟨List.mem_cons_self .., fun y hy => by rw [List.mem_singleton.mp hy]; exact Int.le_refl _⟩
      | cons j r =>
        rw [maxL] at e
        split at e <;> cases e
    · rename_i j e
      cases h
      obtain ⟨h1, h2⟩ := maxL_ok e
      split
      · exact ⟨List.mem_cons_self .., fun y hy => by
          rcases List.mem_cons.mp hy with rfl | hy
          · exact Int.le_refl _
          · have := h2 y hy; omega⟩
      · exact ⟨List.mem_cons_of_mem _ h1, fun y hy => by
          rcases List.mem_cons.mp hy with rfl | hy
          · omega
          · exact h2 y hy⟩
theorem crd_max (hc : X.calm = true) : CallR X (.builtin "max") (rDL X.K ff (bltV .max)) := by
  intro pins s σ H vs us Q I r h
  obtain ⟨μ, S, l, rs, rl, q⟩ := h
  unfold bltV at q
  split at q <;> first | (exact q.elim) | skip
  all_goals (rename_i e; first | cases e | skip)
  cases rl with
  | cons rx rl =>
    cases rl
    unfold maxV at q
    split at q
    · rename_i ns hn
      split at q
      · rename_i m hm
        obtain ⟨a, xs, rfl, h, t, z⟩ := Rp.lst_inv rx
        have := ints_rp t hn
        subst this
        obtain ⟨m1, m2⟩ := maxL_ok hm
        refine cr_max hc pins s σ H _ us Q I r ⟨a, ns, rfl, h.sq, List.length_pos_of_mem m1, fun m' h1 h2 => ?_⟩
        have : m' = m := Int.le_antisymm (m2 m' h1) (h2 m m1)
        subst this
        exact pK.here rs q (.d (.int _))
      · exact q.elim
    · exact q.elim
/-! ### methods -/
theorem RVL.dropLast {K : PySem.W.Frag} {H : Hp} {μ : Vw} : ∀ {l : List Va} {ws : List V}, RVL K ff.f H μ l ws → RVL K ff.f H μ l.dropLast ws.dropLast
  | _, _, .nil => .nil
  | _, _, .cons _ .nil => .nil
  | _, _, .cons h (.cons h' t) => .cons h (RVL.dropLast (.cons h' t))
theorem mergeK_len (ks : List (Key × V)) : ∀ m : List (Key × V), (mergeK ks m).length ≤ ks.length + m.length := by
  intro m
  induction m generalizing ks with
  | nil => exact Nat.le_refl _
  | cons x m ih =>
    have h := ih (putK ks x.1 x.2)
    have h2 := length_putK ks x.1 x.2
    show (mergeK (putK ks x.1 x.2) m).length ≤ _
    rw [List.length_cons]
    omega
theorem mtd_pop : MtR X "list.pop" (fun x xs H Q => ∃ μ S o l, RS X.K ff H μ S ∧ RV X.K ff.f H μ o x ∧ RVL X.K ff.f H μ l xs ∧ (popV o l S).se ff.E (pK X.K ff H μ Q)) := by
  intro pins s σ H x xs v us Q I rx rxs h
  obtain ⟨μ, S, o, l, rs, ro, rl, q⟩ := h
  unfold popV at q
  split at q
  · split at q
    · rename_i l' hS
      split at q
      · rename_i y hy
        obtain ⟨a, rfl, ha⟩ := RV.ref_inv ro
        obtain ⟨ws, h1, t1⟩ := rs.lst ha hS
        cases rl
        rw [List.getLast?_eq_getElem?] at hy
        obtain ⟨w, g1, g2⟩ := t1.get hy
        have e2 : Ex H μ (upd H a (.lst ws.dropLast)) μ := Ex.write (List.mem_of_getElem? ha)
        refine mt_pop pins s σ H _ _ v us Q I rx rxs ⟨a, ws, w, rfl, rfl, h1, by rw [← t1.length]; exact g1, ?_⟩
        exact q _ _ μ e2 (rs.write ha ⟨_, upd_same, (t1.dropLast).mono e2⟩) (g2.mono e2)
      · exact q.elim
    · exact q.elim
  · exact q.elim
theorem mtd_update : MtR X "dict.update" (fun x xs H Q => ∃ μ S o l, RS X.K ff H μ S ∧ RV X.K ff.f H μ o x ∧ RVL X.K ff.f H μ l xs ∧ (updV o l S).se ff.E (pK X.K ff H μ Q)) := by
  intro pins s σ H x xs v us Q I rx rxs h
  obtain ⟨μ, S, o, l, rs, ro, rl, q⟩ := h
  unfold updV at q
  split at q
  · split at q
    · rename_i l' m hS hm
      split at q
      · rename_i hz
        obtain ⟨a, rfl, ha⟩ := RV.ref_inv ro
        obtain ⟨ks, h1, t1⟩ := rs.dct ha hS
        cases rl with
        | cons ry rl =>
          cases rl
          obtain ⟨b, ks2, rfl, h2, t2, z2⟩ := Rp.dct_inv ry
          have rk := dKs_rel (ff := ff) t2 hm
          cases rx
          obtain ⟨u, rfl, ru⟩ := rxs.one
          cases ru
          obtain ⟨z, lo, vs, rel, dd⟩ := dk_of I.hok h1
          obtain ⟨z', lo', vs', rel', dd'⟩ := dk_rd I.hok h2.1
          have hab : a ≠ b := fun e => h2.2.1 (e ▸ List.mem_of_getElem? ha)
          have l1 := Paired.length t1
          have l2 := Paired.length rk
          have l3 := rel.length
          have l4 := rel'.length
          have e3 : Ex H μ (upd H a (.dK (mergeK ks ks2))) μ := Ex.write (List.mem_of_getElem? ha)
          refine call_meetsIn F.slot_dict_update dd.typeIs F.entry_dict_update (F.args_dict_update_2 _ _) (meets_dict_update (mixKind X.prog X.w) a b hab lo') ⟨vs, vs', dd, dd', by omega, fun h' d1 d2 hs => ?_⟩
          have he : ∃ q, h'.get? a = some q := let ⟨q, _, _, hq, _⟩ := d1; ⟨q, hq⟩
          have hl : (mergeK ks ks2).length ≤ sizeLine := by
            have := mergeK_len ks ks2
            omega
          exact ⟨.non, _, d_write I (by rw [h1]; exact True.intro) hs he (dk_new hl lo (KV.merge rel' rel) d1), rfl, q _ _ μ e3 (rs.write ha ⟨_, upd_same, (merge_rel rk t1).mono e3⟩) (.d .non)⟩
      · exact q.elim
    · exact q.elim
  · exact q.elim
theorem dt_of' {K : PySem.W.Frag} {H : Hp} {μ : Vw} {S : Sto} {x : Va} {v : V} {Q : Unit → Sto → Prop} (rs : RS K ff H μ S) (r : RV K ff.f H μ x v) (q : (isDt x S).se ff.E Q) : tyV K "dict" v H ∧ Q () S := by
  unfold isDt at q
  split at q
  · split at q
    · rename_i hS
      obtain ⟨a, rfl, ha⟩ := RV.ref_inv r
      obtain ⟨ws, h1, t1⟩ := rs.dct ha hS
      exact ⟨.inr (.inr (.inl ⟨rfl, .inl ⟨_, h1⟩⟩)), q⟩
    · exact q.elim
  · exact q.elim
theorem dd_of' {K : PySem.W.Frag} {H : Hp} {μ : Vw} {S : Sto} {x : Va} {v : V} {Q : Unit → Sto → Prop} (rs : RS K ff H μ S) (r : RV K ff.f H μ x v) (q : (isDd x S).se ff.E Q) : tyD K "dict" v H ∧ Q () S := by
  unfold isDd at q
  split at q
  · split at q
    · rename_i hS
      obtain ⟨a, rfl, ha⟩ := RV.ref_inv r
      obtain ⟨ws, h1, t1⟩ := rs.dct ha hS
      exact ⟨.inl (.inr (.inr (.inl ⟨rfl, .inl ⟨_, h1⟩⟩))), q⟩
    · exact q.elim
  · obtain ⟨a, ks, rfl, h1, t1, z⟩ := Rp.dct_inv r
    exact ⟨.inr ⟨rfl, a, rfl, .inl ⟨_, h1.1⟩⟩, q⟩
  · exact q.elim
end
end Nb

namespace Nb
open PySem L2 PySem.Spec PyProof.Rows
/-! ### t[::-1] of a tuple -/
section
variable {prog : Program} {w : World} {A : Around} {E : Value → Shared → Prop} {s : Shared}
theorem rev_places (n : Nat) : Builtin.Slice.slicePlaces ((n : Int) - 1) (-1) (-1) = n := by
  unfold Builtin.Slice.slicePlaces
  have h1 : ¬ ((-1 : Int) > 0) := by decide
  simp only [h1, if_false]
  by_cases h : (n : Int) - 1 > -1
  · rw [if_pos h, show (- -1 : Int) = 1 by decide, Int.ediv_one]
    omega
  · rw [if_neg h]
    omega
theorem rev_pick (xs : Array Value) : ((List.range xs.size).filterMap fun (m : Nat) => xs[((xs.size : Int) - 1 + (m : Int) * (-1)).toNat]?).toArray = xs.toList.reverse.toArray := by
  have e := PySem.W.krv_pick xs
  unfold slicePick at e
  rw [← e]
  have eb : sliceBounds none none (some (-1)) xs.size = ((xs.size : Int) - 1, -1, -1) := rfl
  rw [eb]
  show _ = ((sliceRange ((xs.size : Int) - 1) (-1) (-1)).filterMap (xs[·]?)).toArray
  rw [PySem.W.krv_sliceRange, List.filterMap_map]
  have : ∀ (l : List Nat) (f g : Nat → Option Value), (∀ k ∈ l, f k = g k) → l.filterMap f = l.filterMap g := by
    intro l f g h
    induction l with
    | nil => rfl
    | cons a r ih => rw [List.filterMap_cons, List.filterMap_cons, h a (List.mem_cons_self ..), ih fun k hk => h k (List.mem_cons_of_mem _ hk)]
  rw [this _ _ _ fun k hk => ?_]
  have := List.mem_range.mp hk
  show xs[((xs.size : Int) - 1 + (k : Int) * (-1)).toNat]? = xs[xs.size - 1 - k]?
  rw [show ((xs.size : Int) - 1 + (k : Int) * (-1)).toNat = xs.size - 1 - k by omega]
theorem sliceApplied_rev {sl : Addr} {vl vu vs : Value} {n : Nat} {Q : Int × Int × Nat → Shared → Prop} (hs : s.heap.IsSliceOf sl vl vu vs) (pl : IsPart vl none) (pu : IsPart vu none) (ps : IsPart vs (some (-1)))
    (h : Q ((n : Int) - 1, -1, n) s) : wpAny (model prog w) A (Builtin.Slice.sliceApplied (.ref sl) (pure (n : Int))) Q E s := by
  obtain ⟨os, hos, hcs, hds⟩ := id hs
  unfold Builtin.Slice.sliceApplied Builtin.Slice.sliceFields
  refine wpAny_bind (wpAny_bind (wpAny_field hos hds (x := vl) rfl (wpAny_bind (wpAny_field hos hds (x := vu) rfl (wpAny_bind (wpAny_field hos hds (x := vs) rfl (wpAny_pure ?_)))))))
  refine wpAny_bind (HT.slicePart_ ps ?_)
  show wpAny _ _ (if ((-1 : Int) == 0) = true then _ else _) _ _ s
  rw [if_neg (by decide)]
  refine wpAny_bind (HT.slicePart_ pl (wpAny_bind (HT.slicePart_ pu (wpAny_bind (wpAny_pure ?_)))))
  show wpAny _ _ (pure ((n : Int) - 1, (-1 : Int), Builtin.Slice.slicePlaces ((n : Int) - 1) (-1) (-1))) _ _ s
  rw [rev_places]
  exact wpAny_pure h
theorem getItem_tuple_rev {t sl : Addr} {items : Array Value} {vl vu vs : Value} {Q : Value → Shared → Prop} (ht : IsTup s.heap t items) (hs : s.heap.IsSliceOf sl vl vu vs) (pl : IsPart vl none) (pu : IsPart vu none) (ps : IsPart vs (some (-1)))
    (h : Q (.ref s.heap.objs.size) { s with heap := s.heap.push { cls := .type "tuple", data := .seq items.toList.reverse.toArray } })
    (hsz : items.size ≤ sizeLine) : wpAny (model prog w) A (getItem (.ref t) (.ref sl)) Q E s := by
  have htake : sizeOk (.seq items.toList.reverse.toArray) := by
    show items.toList.reverse.toArray.size ≤ sizeLine
    rw [List.size_toArray, List.length_reverse, Array.length_toList]
    exact hsz
  obtain ⟨os, hos, hcs, hds⟩ := id hs
  have hTs : s.TypeIs (.ref sl) "slice" := ⟨os, hos, hcs⟩
  unfold getItem
  try with_reducible refine wpAny_holding ?_
  first | refine wpAny_bind (wpAny_pure ?_) | skip
  refine wpAny_bind (wpAny_sequenceKey ht.typeIs (by decide) ?_)
  refine wpAny_bind (wpAny_callSpecial?_slot (name := Str.ofString "__getitem__") ht.typeIs PyProof.Rows.slot_tuple_getitem
    (wpAny_call_entry PyProof.Rows.slot_tuple_getitem ht.typeIs entry_tuple_getitem ?_ (args_tuple_getitem _ _)))
  show wpAny _ _ (Builtin.Tuple.tupleItemsOf (.ref t) >>= _) _ _ s
  refine wpAny_bind (tupleItemsOf_ ht ?_)
  refine wpAny_bind (wpAny_typeOf hTs ?_)
  rw [if_pos (by decide)]
  refine wpAny_bind (sliceApplied_rev hs pl pu ps ?_)
  have hno : ¬ ((((items.size : Int) - 1) == 0 && (-1 : Int) == 1 && items.size == items.size) = true) := by
    intro q
    rw [Bool.and_eq_true, Bool.and_eq_true] at q
    exact absurd q.1.2 (by decide)
  show wpAny _ _ (if (((items.size : Int) - 1) == 0 && (-1 : Int) == 1 && items.size == items.size) = true then _ else _) _ _ s
  rw [if_neg hno, rev_pick]
  first
    | exact wpAny_bind (m := Builtin.Tuple.tupleExact _) (wpAny_newObj_type (wpAny_pure ⟨_, rfl, wpAny_pure h⟩) htake)
    | exact wpAny_bind (m := Builtin.Tuple.tupleExact _) (wpAny_newObj_type (wpAny_bind (wpAny_pure (wpAny_pure ⟨_, rfl, wpAny_pure h⟩))) htake)
    | exact wpAny_bind (wpAny_bind (m := Builtin.Tuple.tupleExact _) (wpAny_newObj_type (wpAny_pure (wpAny_pure ⟨_, rfl, wpAny_pure h⟩)) htake))
    | exact wpAny_bind (wpAny_bind (m := Builtin.Tuple.tupleExact _) (wpAny_newObj_type (wpAny_pure ⟨_, rfl, wpAny_pure h⟩) htake))
end
section
variable {X : Cx} {ff : Fx} {a : Expr} {fa : En → Sto → R Va} {pos : Pos}
def tRevT (K : PySem.W.Frag) (te : TE) : TE := fun σ H Q => te σ H fun x H1 => ∃ a xs, x = .ref a ∧ SqT K H1 a xs ∧ NewT H1 xs.reverse Q
theorem pe_revT {e : Expr} {te : TE} {k : Nat} {p1 p2 p3 pos : Pos} (he : PE X e te) : PE X (.Subscript e (.Slice none none (some (.UnaryOp .USub (.Constant (.int 1) k p1) p2)) p3) pos) (tRevT X.K te) := by
  refine ⟨fun pins s σ H Q I h => ?_⟩
  refine Subscript_ (thn (he.run pins s σ H _ I h) fun v s1 ⟨x, H1, I1, r1, q1⟩ => ?_)
  obtain ⟨a, xs, ex, hx, q⟩ := q1
  subst ex
  cases r1
  have hst : PO X (some (.UnaryOp .USub (.Constant (.int 1) k p1) p2)) (tPart (tUn (rU fun i => .int (-i)) (tC (.int 1)))) := po_some (pe_un un_neg pe_int)
  refine wpAny_Slice (thn (po_none.run pins s1 σ H1 (fun o H2 => o = none ∧ H2 = H1) I1 ⟨rfl, rfl⟩) fun vl s2 ⟨l, H2, I2, pl, el, e2⟩ => ?_)
  subst el e2
  refine thn (po_none.run pins s2 σ H2 (fun o H3 => o = none ∧ H3 = H2) I2 ⟨rfl, rfl⟩) fun vu s3 ⟨u, H3, I3, pu, eu, e3⟩ => ?_
  subst eu e3
  refine thn (hst.run pins s3 σ H3 (fun o H4 => o = some (-1) ∧ H4 = H3) I3 ⟨1, rfl, -1, rfl, rfl, rfl⟩) fun vs s4 ⟨o, H4, I4, ps, eo, e4⟩ => ?_
  subst eo e4
  have I5 : Inv X pins σ H4 { s4 with heap := s4.heap.push { cls := .type "slice", data := .fields #[vl, vu, vs] } } := I4.kept (t' := s4.toks) fun b ob q => Heap.get?_push_of_some _ q
  obtain ⟨its, r, ht, hz⟩ := I5.tuple hx
  have hlen : its.toArray.size = xs.length := by rw [List.size_toArray]; exact r.length.symm
  show wpAny (model X.prog X.w) X.A (subscriptTail e (.Slice none none (some (.UnaryOp .USub (.Constant (.int 1) k p1) p2)) p3) (.ref a) (.ref s4.heap.objs.size)) (EP X pins σ Q) X.xe { s4 with heap := s4.heap.push { cls := .type "slice", data := .fields #[vl, vu, vs] } }
  refine tail_any (ops := [.ref a, .ref s4.heap.objs.size]) ht.typeIs (PyProof.Rows.slot_tuple_getitem.lookup) ?_ (by with_unfolding_all rfl)
  refine getItem_tuple_rev ht (Heap.IsSliceOf.new _ vl vu vs) pl pu ps ?_ (by rw [hlen]; exact hz)
  have fin := I5.layT r.reverse (by rw [List.length_reverse]; exact hz) q
  first | exact fin | simpa using fin
theorem de_rv {k : Nat} {p1 p2 p3 : Pos} (ha : PE X a (tE X.K ff fa)) :
    PE X (.Subscript a (.Slice none none (some (.UnaryOp .USub (.Constant (.int 1) k p1) p2)) p3) pos) (tE X.K ff fun η S => (fa η S).bind fun x S1 => rvV x S1) :=
  PE.weak (pe_revT ha) fun σ H Q h => by
    obtain ⟨μ, S, η, rs, re, q⟩ := h
    refine tE.then rs re q fun x S1 w H1 μ1 e1 rs1 re1 rv1 q1 => ?_
    unfold rvV at q1
    split at q1
    · obtain ⟨a, xs, rfl, h, t, z⟩ := Rp.tup_inv rv1
      exact ⟨a, xs, rfl, h.sq, pK.newTup rs1 (pK.later e1 q1) t.reverse (by rw [List.length_reverse]; exact z)⟩
    · exact q1.elim
/-! ### d.get(k, x) -/
theorem mtd_get (hu : X.A.units + 1 < cLine) : MtR X "dict.get" (fun x xs H Q => ∃ μ S o l, RS X.K ff H μ S ∧ RV X.K ff.f H μ o x ∧ RVL X.K ff.f H μ l xs ∧ (dgtV o l S).se ff.E (pK X.K ff H μ Q)) := by
  intro pins s σ H x xs v us Q I rx rxs h
  obtain ⟨μ, S, o, l, rs, ro, rl, q⟩ := h
  unfold dgtV at q
  split at q
  · split at q
    · rename_i k kvs hk hS
      obtain ⟨a, rfl, ha⟩ := RV.ref_inv ro
      obtain ⟨ks, h1, t1⟩ := rs.dct ha hS
      cases rl with
      | cons ry rl =>
        cases rl with
        | cons rz rl =>
          cases rl
          obtain rfl := kOf_inv ry hk
          cases rxs with
          | cons r1 rxs =>
            cases rxs with
            | cons r2 rxs =>
              cases rxs
              cases rx
              refine d_get2 hu I (DGet.k h1) r1 r2 fun w' s' I' rw' => ⟨_, H, I', rw', ?_⟩
              cases hv : valA kvs k with
              | none =>
                have e := RKV.valN (k := k) t1
                rw [hv] at e q
                cases hw : valV ks k with
                | some _ => rw [hw] at e; cases e
                | none => exact pK.here rs q rz
              | some y =>
                obtain ⟨w, e1, e2⟩ := t1.val hv
                rw [e1]
                rw [hv] at q
                exact pK.here rs q e2
    · exact q.elim
  · rename_i kvs k0 y0
    split at q
    · rename_i k hk
      obtain ⟨a, ks, rfl, h1, t1, z⟩ := Rp.dct_inv ro
      cases rl with
      | cons ry rl =>
        cases rl with
        | cons rz rl =>
          cases rl
          obtain rfl := kOf_inv ry hk
          cases rxs with
          | cons r1 rxs =>
            cases rxs with
            | cons r2 rxs =>
              cases rxs
              cases rx
              refine d_get2 hu I (.inl ⟨ks, k, h1.1, rfl, rfl⟩) r1 r2 fun w' s' I' rw' => ⟨_, H, I', rw', ?_⟩
              cases hv : valD kvs k with
              | none =>
                have e := RpK.valN (k := k) t1
                rw [hv] at e q
                cases hw : valV ks k with
                | some _ => rw [hw] at e; cases e
                | none => exact pK.here rs q rz
              | some y =>
                obtain ⟨w, e1, e2⟩ := RpK.val t1 hv
                rw [e1]
                rw [hv] at q
                exact pK.here rs q (.d e2)
    · exact q.elim
  · exact q.elim
end
end Nb

namespace Nb
open PySem L2 PySem.Spec PyProof.Rows
/-! ### whether an IR stands for a text -/
structure Tab where
  N : List Str
  fn : List (Str × Nat)
  gl : List Str
  xs : List (Str × Xi)
  os : Ox
  own : Bool
def Tab.in_ (T : Tab) : Tab := ⟨T.N, T.fn, T.gl, T.xs, T.os, false⟩
def visB (sc : Scope) (x : Str) : Bool := match sc.names.lookup x with
  | some .local => true
  | some .cell => true
  | some .free => true
  | _ => false
def locB (sc : Scope) (x : Str) : Bool := match sc.names.lookup x with
  | some .local => true
  | some .cell => true
  | _ => false
/-- a name that is none of the def's own alone -/
def celNm (sc : Scope) : Expr → Bool
  | .Name x _ => match sc.names.lookup x with
    | some .local => false
    | _ => true
  | _ => false
def justLocB (sc : Scope) (x : Str) : Bool := match sc.names.lookup x with
  | some .local => true
  | _ => false
def glB (sc : Scope) (x : Str) : Bool := match sc.names.lookup x with
  | some .globalImplicit => true
  | _ => false
def okNm (x : Str) : Bool := !(x == ("__debug__" : Str)) && !(x == ("__classdict__" : Str)) && !(x == ("__name__" : Str))
def bxS : Bx → String
  | .ve => "ValueError" | .le => "LookupError" | .ex => "Exception"
/-- the caught one, by its name -/
def chkV (T : Tab) (sc : Scope) (o : Option Nat) (v : Str) : Bool := match o with
  | some i => decide (T.N[i]? = some v) && visB sc v && okNm v
  | none => false
def chkYs (sc : Scope) : List Str → List Expr → Bool
  | [], [] => true
  | y :: ys, .Name z _ :: es => decide (y = z) && glB sc z && okNm z && chkYs sc ys es
  | _, _ => false
def chkHT (T : Tab) (sc : Scope) (o : Option Nat) : HT → Expr → Bool
  | .own y, .Call (.Name f _) [.Name v _, .Name z _] [] _ => decide (f = "isinstance") && glB sc f && chkV T sc o v && decide (y = z) && glB sc z && okNm z
  | .blt k, .Call (.Name f _) [.Name v _, .Name z _] [] _ => decide (f = "isinstance") && glB sc f && chkV T sc o v && decide (z = Str.ofString (bxS k)) && glB sc z
  | .any ys, .Call (.Name f _) [.Name v _, .Tuple es _ _] [] _ => decide (f = "isinstance") && glB sc f && chkV T sc o v && chkYs sc ys es && decide (ys.length ≤ 100)
  | .no t, .UnaryOp .Not e _ => chkHT T sc o t e
  | .an a b, .BoolOp .And [e, f] _ => chkHT T sc o a e && chkHT T sc o b f
  | _, _ => false
mutual
def chkH (T : Tab) (sc : Scope) (o : Option Nat) : HE → Expr → Bool
  | .dat (.str s), .Constant (.str s') _ _ => decide (s = s')
  | .dat .none, .Constant .none _ _ => true
  | .att f, .Attribute (.Name y _) f' _ => decide (f = f') && chkV T sc o y
  | .tup es, .Tuple es' _ _ => chkHs T sc o es es'
  | .ife t a b, .IfExp t' a' b' _ => chkHT T sc o t t' && chkH T sc o a a' && chkH T sc o b b'
  | _, _ => false
def chkHs (T : Tab) (sc : Scope) (o : Option Nat) : HEs → List Expr → Bool
  | .nil, [] => true
  | .cons e r, e' :: r' => chkH T sc o e e' && chkHs T sc o r r'
  | _, _ => false
end
def boB : Bo → Operator → Bool
  | .add, .Add | .sub, .Sub | .mul, .Mult | .fdiv, .FloorDiv | .mod, .Mod | .pow, .Pow => true
  | _, _ => false
def augB : Bo → Operator → Bool
  | .add, .Add | .sub, .Sub => true
  | _, _ => false
def coB : Co → CmpOp → Bool
  | .eq, .Eq | .ne, .NotEq | .lt, .Lt | .le, .LtE | .gt, .Gt | .ge, .GtE | .is, .Is | .isnot, .IsNot | .isin, .In | .notin, .NotIn => true
  | _, _ => false
def bfNm : Bf → Str
  | .len => "len" | .repr => "repr" | .abs => "abs" | .int => "int" | .tuple => "tuple" | .all => "all" | .str => "str" | .dict => "dict" | .sorted => "sorted" | .min => "min" | .sum => "sum" | .max => "max" | .any => "any" | .dictC => "dict"
def mtNm : Mt → Str
  | .append => "append" | .extend => "extend" | .upper => "upper" | .join => "join" | .pop => "pop" | .update => "update" | .get => "get"
def mtN : Mt → Nat
  | .upper | .pop => 0
  | .get => 2
  | _ => 1
def isSlB : Expr → Bool
  | .Slice .. => true
  | _ => false
def unOne : Expr → Expr
  | .BoolOp _ [x] _ => x
  | e => e
def isTpB : Expr → Bool
  | .Tuple _ _ _ => true
  | _ => false
def isTupB : Expr → Bool
  | .Tuple .. | .List .. => true
  | _ => false
def isStarB : Expr → Bool
  | .Starred .. => true
  | _ => false
def isSubB : Expr → Bool
  | .Subscript .. => true
  | _ => false
def foldB : Expr → Bool
  | .Tuple vs _ _ => vs.all (foldedForSure 8)
  | _ => false
def isCompB : Expr → Bool
  | .ListComp .. | .SetComp .. | .DictComp .. => true
  | _ => false
def isSetB : Expr → Bool
  | .Set .. => true
  | _ => false
def call0B : Expr → Bool
  | .Call (.Name _ _) [] [] _ => true
  | _ => false
def locE (T : Tab) (sc : Scope) (i : Nat) : Expr → Bool
  | .Name x _ => decide (T.N[i]? = some x) && visB sc x && okNm x
  | _ => false
/-- enumerate(name) -/
def enuE (T : Tab) (sc : Scope) (i : Nat) : Expr → Bool
  | .Call (.Name x _) [e] [] _ => decide (x = "enumerate") && glB sc x && locE T sc i e
  | _ => false
def mkoB (cs : List (Str × Ci)) (cn : Str) (n : Nat) : Bool := match lookC cs cn with
  | some ci => (match ci.ini with
    | some (_, a) => decide (n + 1 = a)
    | none => false)
  | none => false
def kwB (kw : List Kw) (j : Nat) (x : Str) (n : Nat) (ks : List (Option Str)) : Bool := match kw[j]? with
  | some q => decide (q.nm = x) && decide (q.n = n) && decide (q.ks.map some = ks)
  | none => false
mutual
def chkE (T : Tab) (sc : Scope) : IE → Expr → Bool
  | .loc i, .Name x _ => decide (T.N[i]? = some x) && visB sc x && okNm x
  | .glo k, .Name x _ => decide (T.gl[k]? = some x) && glB sc x && okNm x
  | .non, .Constant .none _ _ => true
  | .bl b, .Constant (.bool b') _ _ => b == b'
  | .int i, .Constant (.int j) _ _ => decide (i = j)
  | .str x, .Constant (.str y) _ _ => decide (x = y)
  | .bin op a b, .BinOp a' op' b' _ => boB op op' && chkE T sc a a' && chkE T sc b b'
  | .neg a, .UnaryOp .USub a' _ => chkE T sc a a'
  | .not a, .UnaryOp .Not a' _ => chkE T sc a a'
  | .cmp op a b, .Compare a' [op'] [b'] _ => coB op op' && chkE T sc a a' && chkE T sc b b' && !behindInMarks op' b'
  | .cmp2 op1 op2 a b c, .Compare a' [op1', op2'] [b', c'] _ => coB op1 op1' && coB op2 op2' && chkE T sc a a' && chkE T sc b b' && chkE T sc c c' && !behindInMarks op2' c'
  | .and a b, .BoolOp .And (a' :: b' :: r) pos => chkE T sc a a' && chkE T sc b (unOne (.BoolOp .And (b' :: r) pos))
  | .or a b, .BoolOp .Or (a' :: b' :: r) pos => chkE T sc a a' && chkE T sc b (unOne (.BoolOp .Or (b' :: r) pos))
  | .ife c a b, .IfExp c' a' b' _ => chkE T sc c c' && chkE T sc a a' && chkE T sc b b'
  | .ix a i, .Subscript a' i' _ => chkE T sc a a' && chkE T sc i i' && !isSlB i'
  | .sl a lo hi, .Subscript a' (.Slice lo' hi' none _) _ => chkE T sc a a' && chkO T sc lo lo' && chkO T sc hi hi'
  | .tup es, .Tuple es' _ _ => chkL T sc es es' && decide (es'.length ≤ 1000)
  | .fz f, e => chkF T sc f e
  | .mk f, e => chkF T sc f e
  | .dct0, .Dict [] [] _ => true
  | .dct kvs, .Dict ks vs _ => chkK T sc kvs ks vs && decide (ks.length ≤ 15) && decide (ks.length = vs.length) && !ks.isEmpty
  | .call f es, .Call (.Name x _) es' [] _ => decide (T.fn[f]? = some (x, es'.length)) && glB sc x && okNm x && chkL T sc es es'
  | .blt b es, .Call (.Name x _) es' [] _ => decide (x = bfNm b) && glB sc x && chkL T sc es es' && !es'.isEmpty
  | .met m o es, .Call (.Attribute o' name apos) as [] pos => decide (name = mtNm m) && chkE T sc o o' && chkL T sc es as && decide (as.length = mtN m) && !call0B o' && (apos.endLine == pos.line)
  | .isi a k, .Call (.Name x _) [a', .Name y _] [] _ => decide (x = "isinstance") && decide (y = Str.ofString (tkS k)) && glB sc x && glB sc y && chkE T sc a a'
  | .dctZ kvs, .Dict ks vs _ => chkK T sc kvs ks vs && decide (ks.length ≤ 15) && decide (ks.length = vs.length)
  | .rv a, .Subscript a' (.Slice none none (some (.UnaryOp .USub (.Constant (.int i) _ _) _)) _) _ => decide (i = 1) && chkE T sc a a'
  | .dyn i fn es, .Call (.Name x _) es' [] _ => decide (T.N[i]? = some x) && visB sc x && okNm x && decide (fn = T.fn) && chkL T sc es es' && !es'.isEmpty
  | .zz a, e => chkE T sc a e
  | .fld a f, .Attribute a' f' _ => decide (f = f') && chkE T sc a a' && !call0B a'
  | .mko cn es, .Call (.Name x _) es' [] _ => decide (x = cn) && mkoB T.os.cs cn es'.length && glB sc x && okNm x && chkL T sc es es'
  | .mth m a es, .Call (.Attribute a' m' apos) es' [] pos => decide (m = m') && chkE T sc a a' && chkL T sc es es' && decide (es'.length < 29) && !call0B a' && (apos.endLine == pos.line)
  | .callK j es ks, .Call (.Name x _) es' ks' _ => kwB T.os.kw j x es'.length (ks'.map (·.arg)) && glB sc x && okNm x && !es'.isEmpty && chkL T sc es es' && chkKw T sc ks ks'
  | _, _ => false
def chkF (T : Tab) (sc : Scope) : IF → Expr → Bool
  | .disp es, .List es' _ => chkL T sc es es' && decide (es'.length ≤ 1000)
  | .cat a b, .BinOp a' .Add b' _ => chkE T sc a a' && chkE T sc b b'
  | .comp elt tg it cd own, .ListComp elt' [⟨tg', iter', ifs', as⟩] scope _ => decide (as = 0) && (chkI T sc it tg' iter' && !isSetB iter' && blkC T.N sc scope (own.map fun i => (T.N.getD i "", i)) && chkT T.in_ (relS scope sc) (fun x => scope.names.lookup x == some .cell) own tg tg' && chkC T.in_ (relS scope sc) cd ifs' && chkE T.in_ (relS scope sc) elt elt' && (own.all fun i => decide (i < T.N.length)))
  | .rev a, .Subscript a' (.Slice none none (some (.UnaryOp .USub (.Constant (.int i) _ _) _)) _) _ => decide (i = 1) && chkE T sc a a'
  | .cmpC elt tg i cd own, .ListComp elt' [⟨tg', iter', ifs', as⟩] scope _ => decide (as = 0) && (locE T sc i iter' && !isSetB iter' && blkC T.N sc scope (own.map fun i => (T.N.getD i "", i)) && chkT T.in_ (relS scope sc) (fun x => scope.names.lookup x == some .cell) own tg tg' && chkC T.in_ (relS scope sc) cd ifs' && chkE T.in_ (relS scope sc) elt elt' && (own.all fun i => decide (i < T.N.length)))
  | .cmpE elt tg i cd own, .ListComp elt' [⟨tg', iter', ifs', as⟩] scope _ => decide (as = 0) && (enuE T sc i iter' && isTpB tg' && blkC T.N sc scope (own.map fun i => (T.N.getD i "", i)) && chkT T.in_ (relS scope sc) (fun x => scope.names.lookup x == some .cell) own tg tg' && chkC T.in_ (relS scope sc) cd ifs' && chkE T.in_ (relS scope sc) elt elt' && (own.all fun i => decide (i < T.N.length)))
  | .rpt a n, .BinOp a' .Mult n' _ => chkF T sc a a' && chkE T sc n n'
  | .compX elt tg it cd own, .ListComp elt' [⟨tg', iter', ifs', as⟩] scope _ => T.own && (decide (as = 0) && (chkI T sc it tg' iter' && !isSetB iter' && blkC T.N sc scope (own.map fun i => (T.N.getD i "", i)) && chkT T.in_ (relS scope sc) (fun x => scope.names.lookup x == some .cell) own tg tg' && chkC T.in_ (relS scope sc) cd ifs' && chkE T.in_ (relS scope sc) elt elt' && (own.all fun i => decide (i < T.N.length))))
  | .lst a, .Call (.Name x _) [a'] [] _ => decide (x = "list") && glB sc x && chkE T sc a a'
  | .srs a, .Call (.Name x _) [.Call (.Name y _) [a'] [] _] [] _ => decide (x = "sorted") && glB sc x && decide (y = "set") && glB sc y && chkE T sc a a'
  | _, _ => false
def chkO (T : Tab) (sc : Scope) : IO → Option Expr → Bool
  | .no, none => true
  | .so e, some e' => chkE T sc e e'
  | _, _ => false
/-- the test of a clause -/
def chkC (T : Tab) (sc : Scope) : IO → List Expr → Bool
  | .no, [] => true
  | .so e, [e'] => chkE T sc e e'
  | _, _ => false
def chkL (T : Tab) (sc : Scope) : IEs → List Expr → Bool
  | .nil, [] => true
  | .cons e es, e' :: es' => chkE T sc e e' && chkL T sc es es'
  | _, _ => false
def chkKw (T : Tab) (sc : Scope) : IEs → List Keyword → Bool
  | .nil, [] => true
  | .cons e es, ⟨_, e', _⟩ :: ks => chkE T sc e e' && chkKw T sc es ks
  | _, _ => false
def chkK (T : Tab) (sc : Scope) : IKs → List (Option Expr) → List Expr → Bool
  | .nil, [], [] => true
  | .cons k v r, some k' :: ks, v' :: vs => chkE T sc k k' && chkE T sc v v' && chkK T sc r ks vs
  | _, _, _ => false
def chkI (T : Tab) (sc : Scope) : II → Expr → Expr → Bool
  | .val e, _, e' => chkE T sc e e'
  | .enu es, tg, .Call (.Name x _) es' [] _ => decide (x = "enumerate") && glB sc x && chkL T sc es es' && decide (es'.length = 1) && isTpB tg
  | .zip es, tg, .Call (.Name x _) es' [] _ => decide (x = "zip") && glB sc x && chkL T sc es es' && decide (es'.length = 2) && isTpB tg
  | .rng es, _, .Call (.Name x _) es' [] _ => decide (x = "range") && glB sc x && chkL T sc es es' && decide (1 ≤ es'.length) && decide (es'.length ≤ 3)
  | _, _, _ => false
/-- a target; its slots are among own -/
def chkT (T : Tab) (sc : Scope) (fB : Str → Bool) (own : List Nat) : IT → Expr → Bool
  | .nm i, .Name x _ => decide (T.N[i]? = some x) && locB sc x && decide (i ∈ own) && (fB x || justLocB sc x)
  | .tp ts, .Tuple es _ _ => chkTs T sc fB own ts es && noStar es
  | .st ts i, .Tuple es _ _ => chkSt T sc fB own ts i es && lastStar es
  | .sub o i, .Subscript o' i' _ => chkE T sc o o' && chkE T sc i i' && !isSlB i'
  | _, _ => false
def chkTs (T : Tab) (sc : Scope) (fB : Str → Bool) (own : List Nat) : ITs → List Expr → Bool
  | .nil, [] => true
  | .cons t ts, e :: es => chkT T sc fB own t e && chkTs T sc fB own ts es
  | _, _ => false
def chkSt (T : Tab) (sc : Scope) (fB : Str → Bool) (own : List Nat) : ITs → Nat → List Expr → Bool
  | .nil, i, [.Starred (.Name x _) _] => decide (T.N[i]? = some x) && locB sc x && decide (i ∈ own) && (fB x || justLocB sc x)
  | .cons t ts, i, e :: es => chkT T sc fB own t e && chkSt T sc fB own ts i es
  | _, _, _ => false
end
mutual
def slotsT : IT → List Nat
  | .nm i => [i]
  | .tp ts => slotsTs ts
  | .st ts i => i :: slotsTs ts
  | .sub _ _ => []
def slotsTs : ITs → List Nat
  | .nil => []
  | .cons t ts => slotsT t ++ slotsTs ts
end
def isCmpF : IF → Bool
  | .comp .. => true
  | _ => false
def chkHS (T : Tab) (sc : Scope) (o : Option Nat) : HS → Stmt → Bool
  | .ret e, .Return (some e') _ => chkH T sc o e e'
  | .asg j e, .Assign [.Name y _] e' _ => chkH T sc o e e' && decide (T.N[j]? = some y) && locB sc y && !isCompB e'
  | _, _ => false
def chkCl (T : Tab) (sc : Scope) : List (Str × Option Nat × HS) → List ExceptHandler → Bool
  | [], [] => true
  | (cn, o, h) :: r, .ExceptHandler (some (.Name x _)) on [s0] _ :: hs => decide (x = cn) && glB sc x && okNm x && (lookX T.xs cn).isSome &&
    (match o, on with | none, none => true | some i, some n => decide (T.N[i]? = some n) && justLocB sc n | _, _ => false) && chkHS T sc o h s0 && chkCl T sc r hs
  | _, _ => false
def rsB (xs : List (Str × Xi)) (cn : Str) (n : Nat) : Bool := match lookX xs cn with
  | some xi => decide (n = xi.fl.length) && decide (n ≤ 1000)
  | none => false
mutual
def chkS (T : Tab) (sc : Scope) : IS → Stmt → Bool
  | .asg t e, .Assign [t'] e' _ => chkE T sc e e' && chkT T sc (fun _ => true) (slotsT t) t t' && (!isCompB e' || isSubB t' || celNm sc t') && (!(isTupB t' && isTupB e') || foldB e')
  | .setZ i f, .Assign [.Name x px] (.ListComp l g scp p) _ => (isCmpF f && chkF T sc f (.ListComp l g scp p)) && decide (T.N[i]? = some x) && justLocB sc x && (px.line == p.line) && !(scp.names.any fun (n, k) => n == x && (k == .local || k == .cell))
  | .setM i f, .Assign [.Name x px] (.ListComp l g scp p) _ => (isCmpF f && chkF T sc f (.ListComp l g scp p)) && decide (T.N[i]? = some x) && justLocB sc x && (px.line == p.line) && !(scp.names.any fun (n, k) => n == x && (k == .local || k == .cell))
  | .aug i op e, .AugAssign (.Name x _) op' e' _ => augB op op' && decide (T.N[i]? = some x) && locB sc x && chkE T sc e e'
  | .ife c a b, .If c' a' b' _ => chkE T sc c c' && chkSs T sc a a' && chkSs T sc b b'
  | .for_ t it b, .For t' it' b' [] _ => chkI T sc it t' it' && !isSetB it' && chkT T sc (fun _ => true) (slotsT t) t t' && chkSs T sc b b'
  | .forC t k b, .For t' (.Name x _) b' [] _ => decide (T.N[k]? = some x) && visB sc x && okNm x && chkT T sc (fun _ => true) (slotsT t) t t' && chkSs T sc b b'
  | .wh c b, .While c' b' [] _ => chkE T sc c c' && chkSs T sc b b'
  | .ret e, .Return (some e') _ => chkE T sc e e'
  | .ex e, .Expr e' _ => chkE T sc e e' && !isCompB e'
  | .tag _ s, s' => chkS T sc s s'
  | .raise cn es, .Raise (some (.Call (.Name x _) es' [] _)) none _ => decide (x = cn) && glB sc x && rsB T.xs cn es'.length && chkL T sc es es'
  | .setF a f e, .Assign [.Attribute a' f' _] e' _ => decide (f = f') && chkE T sc e e' && chkE T sc a a' && !isCompB e'
  | .pass, .Pass _ => true
  | .try_ b cs, .Try b' hs [] [] _ => !cs.isEmpty && chkCl T sc cs hs && chkSs T sc b b'
  | .par i j a b, .Assign [.Tuple [.Name x px, .Name y py] _ _] (.Tuple [a', b'] _ _) _ => chkE T sc a a' && chkE T sc b b' && decide (T.N[i]? = some x) && decide (T.N[j]? = some y) && decide (i ≠ j) && decide (x ≠ y) && justLocB sc x && justLocB sc y && (py.line == px.line) && !(([a', b'] : List Expr).all (foldedForSure 8)) && !(([a', b'] : List Expr).all (constantsAlone 8)) && !isStarB a' && !isStarB b'
  | _, _ => false
def chkSs (T : Tab) (sc : Scope) : ISs → List Stmt → Bool
  | .nil, [] => true
  | .cons s r, s' :: r' => chkS T sc s s' && chkSs T sc r r'
  | _, _ => false
end
end Nb

namespace Nb
open PySem L2 PySem.Spec PyProof.Rows
open AutoSeq1 (wpAny_loadPart')
/-! ### enumerate(tuple) -/
theorem meets_enumerate_newT (l : Addr) (items : Array Value) (n : Nat) (dct : Option Addr) (sl : Array (Option Value)) :
    Meets (Builtin.«enumerate.__new__» ⟨[.type "enumerate", .ref l], []⟩) (fun _ R s => s.heap.get? l = some { cls := .type "tuple", dict := dct, data := .seq items n, slots := sl } ∧
      R (.ok (.ret (.ref (s.heap.push { cls := .type "tuple_iterator", data := .fields #[.ref l, .int 0 0] }).objs.size)))
        { s with heap := (s.heap.push { cls := .type "tuple_iterator", data := .fields #[.ref l, .int 0 0] }).push { cls := .type "enumerate", data := .fields #[.none, .bool false, .ref s.heap.objs.size, rawInt 0, .none, .none] } }) :=
  .of_wp fun prog w A R s h => by
    obtain ⟨hp, g, d, tk, os⟩ := s; obtain ⟨hl, h⟩ := h
    have hsub := sub_enumerate
    have hL : Heap.IsTuple (Shared.heap ⟨hp, g, d, tk, os⟩) l items := ⟨_, hl, rfl, n, rfl⟩
    wp_walk using wpAny_loadPart' hl
    refine wpAny_stack_any fun st => wpAny_pure ?_
    split
    · rename_i c _ _ _ _ _
      cases (c == Value.type "enumerate")
      · wp_walk using wpAny_loadPart' hl, wpAny_pyIter_tuple hL
        exact ⟨_, rfl, h⟩
      · wp_walk using wpAny_loadPart' hl, wpAny_pyIter_tuple hL
        exact ⟨_, rfl, h⟩
    · wp_walk using wpAny_loadPart' hl, wpAny_pyIter_tuple hL
      exact ⟨_, rfl, h⟩
section
variable {prog : Program} {w : World} {A : Around} {E : Value → Shared → Prop} {s : Shared}
theorem call_enumerate_tuple {l : Addr} {items : Array Value} {Q : Value → Shared → Prop} (hL : s.heap.IsTuple l items)
    (h : ∀ h', IsEnum h' (s.heap.objs.size + 1) s.heap.objs.size 0 .none → h'.IsTupleIter s.heap.objs.size l 0 → h'.objs.size = s.heap.objs.size + 2 →
      (∀ b o, s.heap.get? b = some o → h'.get? b = some o) → Q (.ref (s.heap.objs.size + 1)) { s with heap := h' }) :
    wpAny (model prog w) A (call (.type "enumerate") [.ref l]) Q E s := by
  obtain ⟨⟨c, dct, dt, sl⟩, hl, hc, n, hd⟩ := hL
  replace hc : c = .type "tuple" := hc
  replace hd : dt = .seq items n := hd
  subst hc hd
  refine callType_new F.called_enumerate (by decide) (F.typeCall_enumerate_1 _) (F.newCall_enumerate_1 _) (fun obj => F.args_object_init_2 obj _) F.entry_enumerate_new
    (meets_enumerate_newT l items n dct sl) ⟨hl, ?_⟩
  have hz : (s.heap.push { cls := .type "tuple_iterator", data := .fields #[.ref l, .int 0 0] }).objs.size = s.heap.objs.size + 1 := Heap.size_push ..
  show _ ∧ _
  rw [hz]
  have he : IsEnum ((s.heap.push { cls := .type "tuple_iterator", data := .fields #[.ref l, .int 0 0] }).push
      { cls := .type "enumerate", data := .fields #[.none, .bool false, .ref s.heap.objs.size, rawInt 0, .none, .none] }) (s.heap.objs.size + 1) s.heap.objs.size 0 .none := by
    have := Heap.get?_push_size (s.heap.push { cls := .type "tuple_iterator", data := .fields #[.ref l, .int 0 0] })
      (o := { cls := .type "enumerate", data := .fields #[.none, .bool false, .ref s.heap.objs.size, rawInt 0, .none, .none] }) rfl
    rw [hz] at this; exact this
  refine ⟨⟨_, he, rfl⟩, h _ he ⟨_, Heap.get?_push_of_some _ (Heap.get?_push_size _ rfl), rfl, rfl⟩ (by rw [Heap.size_push, hz]) fun b o x => Heap.get?_push_of_some _ (Heap.get?_push_of_some _ x)⟩
end

def IteT (K : PySem.W.Frag) (a : Addr) : It :=
  ⟨fun i H => ∃ (xs : List V) (x : V), SqT K H a xs ∧ xs[i]? = some x, fun i H v H' => ∃ T x, v = .ref T ∧ H T = none ∧ H' = upd H T (.tup [.int (i : Nat), x]) ∧ ∀ xs, SqT K H a xs → xs[i]? = some x, fun i H => ∃ xs : List V, SqT K H a xs ∧ xs.length ≤ i⟩
theorem turn_enumT {P : Program} {w : World} {K : PySem.W.Frag} {elts : List Expr} {kk : Nat} {tpos : Pos} (a e it : Addr) :
    Turn P w K (.Tuple elts kk tpos) (IteT K a) [e, it] e (fun i h => (∃ old, IsEnum h e it ((i : Nat) : Int) old) ∧ h.IsTupleIter it a i ∧ e ≠ it) where
  mem := by simp
  obj := fun i h st b hb => by
    obtain ⟨⟨old, he⟩, ⟨o, ho, hc, hd⟩, _⟩ := st
    have e' : b = e ∨ b = it := by simpa using hb
    rcases e' with z | z
    · rw [z]; exact ⟨_, he, fun v q => nomatch q⟩
    · rw [z]; exact ⟨o, ho, fun v q => by rw [hd] at q; cases q⟩
  keep := fun i h h' st k => let ⟨⟨old, he⟩, hi, hne⟩ := st; ⟨⟨old, k e (by simp) _ he⟩, hi.at fun o q => k it (by simp) o q, hne⟩
  item := by
    intro X hP hw hK hc i pins s σ H E I hf st hg
    subst hP hw hK
    obtain ⟨⟨old, he⟩, hit, hne⟩ := st
    obtain ⟨xs, x, hq, hx⟩ := hg
    obtain ⟨its, rv, p, hz⟩ := I.tuple hq
    obtain ⟨u, hu, ru⟩ := rv.get hx
    have hel : e < s.heap.objs.size := Heap.lt_size he
    have hil : it < s.heap.objs.size := by obtain ⟨_, q, _⟩ := hit; exact Heap.lt_size q
    have nai : a ≠ it := fun z => by
      obtain ⟨o, ho, h1, _⟩ := p
      obtain ⟨o', ho', h1', _⟩ := hit
      rw [z, ho'] at ho
      cases ho
      rw [h1] at h1'
      exact absurd h1' (by decide)
    have nae : a ≠ e := fun z => by
      obtain ⟨o, ho, h1, _⟩ := p
      have he' : s.heap.get? e = some _ := he
      rw [z, he'] at ho
      cases ho
      have h1 : Value.type "enumerate" = Value.type "tuple" := h1
      exact absurd h1 (by decide)
    have hil2 : i < its.toArray.size := by
      have := (List.getElem?_eq_some_iff.mp hu).1
      simpa using this
    refine wpAny_pyNext_enum_itemD (Draws.tuple (A := X.A.in1) (I.ok.hd hc) it a nai its.toArray) he ⟨hit, p⟩ hil2 hne (by
      intro z
      rcases List.mem_cons.mp z with z | z
      · exact hne z
      · exact nae (List.mem_singleton.mp z).symm) fun v h' tk hv ho hst hT hsz hk => ?_
    have hv : its.toArray[i]? = some v := hv
    have hv : u = v := by
      have h3 : its[i]? = some v := by simpa using hv
      rw [hu] at h3
      exact Option.some.inj h3
    subst hv
    refine ⟨_, rfl, wpAny_letOwnedTupleGo_enum (s := { s with heap := h', toks := tk + 1 }) ho fun h'' he' sb => ?_⟩
    have hT2 : h''.get? s.heap.objs.size = some { cls := .type "tuple", data := .seq #[.int i tk, u] } := (sb.2 _ (Nat.ne_of_gt hel)).trans hT
    have new : ObjOk X.prog X.w (upd H s.heap.objs.size (.tup [.int (i : Nat), x])) h'' s.heap.objs.size (.tup [.int (i : Nat), x]) :=
      ⟨by show 2 ≤ sizeLine; decide, [.int i tk, u], .cons ⟨_, rfl⟩ (.cons ru .nil), ⟨_, hT2, rfl, _, rfl⟩⟩
    have I1 : Inv X pins σ (upd H s.heap.objs.size (.tup [.int (i : Nat), x])) { s with heap := h'', toks := tk + 1 } :=
      I.turnedNew (ch := [e, it]) (fun b ob hb q => (sb.2 b (fun z => hb (by simp [z]))).trans (hk b ob (fun z => hb (by simp [z])) (fun z => hb (by simp [z])) q)) hf (Nat.le_refl _) new
    refine ⟨.ref s.heap.objs.size, _, I1, rfl, ⟨_, x, rfl, I.hok.fresh (Nat.le_refl _), rfl, fun ys hy => by rw [I.tuple_inj hy hq]; exact hx⟩, ⟨⟨u, ?_⟩, hst.1.at fun o q => (sb.2 it (Ne.symm hne)).trans q, hne⟩, fun b hb => ?_⟩
    · have e1 : ((i + 1 : Nat) : Int) = (i : Int) + 1 := by omega
      rw [e1]; exact he'
    · have hb' : b < s.heap.objs.size := by
        have e' : b = e ∨ b = it := by simpa using hb
        rcases e' with z | z
        · rw [z]; exact hel
        · rw [z]; exact hil
      rw [upd_ne (Nat.ne_of_lt hb')]
      exact (hf b hb).1
  done := by
    intro X hP hw hK hc i pins s σ H E I hf st hg
    subst hP hw hK
    obtain ⟨⟨old, he⟩, hit, hne⟩ := st
    obtain ⟨xs, hq, hx⟩ := hg
    obtain ⟨its, rv, p, hz⟩ := I.tuple hq
    obtain ⟨f0, f1, f2, f3, f4, f5⟩ := hf it (by simp)
    have hl := rv.length
    have hT : s.TypeIs (.ref e) "enumerate" := ⟨_, he, rfl⟩
    unfold pyNext
    refine wpAny_bind (wpAny_attempt (wpAny_callSpecial?_slot (name := Str.ofString "__next__") hT F.slot_enumerate_next
      (wpAny_call_entry F.slot_enumerate_next hT F.entry_enumerate_next ?_ (F.args_enumerate_next_1 _))))
    show wpAny _ _ (field (.ref e) 2 >>= _) _ _ _
    refine wpAny_bind (wpAny_field he rfl (x := .ref it) rfl ?_)
    refine wpAny_bind (wpAny_nextOf_tuple_end (I.ok.hd hc) hit p (by simp; omega) fun h' x he' hx' => ?_)
    obtain ⟨o, ho, hc'⟩ := hx'
    refine wpAny_bind (wpAny_isInstance (T := "StopIteration") (b := true) ⟨o, ho, hc'⟩ isSubtype_stop ?_)
    exact wpAny_pure ⟨rfl, I.turned (t' := s.toks) (fun b o hb q => he' b o hb q) f0 f1 f3 f4 f5⟩
  self := fun A i s Q E st h => let ⟨⟨_, he⟩, _⟩ := st; wpAny_pyIter_enum he h
def iEnumT (K : PySem.W.Frag) (ta : L2.TA) : TI := fun σ H R => ta σ H fun vs H1 => ∃ a xs, vs = [.ref a] ∧ ((SqL K H1 a xs ∧ R (Ite K a) H1) ∨ (SqT K H1 a xs ∧ R (IteT K a) H1))
theorem pi_enumT {X : Cx} {e : Expr} {ta : L2.TA} {p pos tpos : Pos} {elts : List Expr} {kk : Nat} (hg : Gl X "enumerate") (hm : X.mg "enumerate" = none) (ha : PA X [e] ta) (hs : starEach [e] X.env = [(false, eval e X.env)] := by rfl) :
    PI X (.Tuple elts kk tpos) (.Call (.Name "enumerate" p) [e] [] pos) (iEnumT X.K ta) := by
  refine ⟨fun pins s σ H R I h => ?_⟩
  refine Call_ (ld_blt I hg hm boot_enumerate (PyProof.Rows.callWith_type1 (thn (ha.run pos pins s σ H _ I h) fun us s1 ⟨vs, H1, I1, r1, q1⟩ => ?_) hs rfl))
  obtain ⟨a, xs, ex, q⟩ := q1
  subst ex
  cases r1 with
  | cons r rr =>
    cases rr
    cases r
    rcases q with ⟨hq, q⟩ | ⟨hq, q⟩
    · obtain ⟨its, rv, p', hz⟩ := I1.list hq
      refine call_enumerate_list p'.isList fun h' he hit hsz hk => wpAny_pyIter_enum he ?_
      have I2 : Inv X pins σ H1 { s1 with heap := h' } := I1.kept (t' := s1.toks) hk
      refine ⟨s1.heap.objs.size + 1, [s1.heap.objs.size + 1, s1.heap.objs.size], _, _, H1, rfl, I2, turn_enum a (s1.heap.objs.size + 1) s1.heap.objs.size, ⟨⟨.none, he⟩, hit, Nat.succ_ne_self _⟩, fun b hb => ?_, q⟩
      have e' : b = s1.heap.objs.size + 1 ∨ b = s1.heap.objs.size := by simpa using hb
      have hle : s1.heap.objs.size ≤ b := by
        rcases e' with z | z
        · rw [z]; exact Nat.le_add_right _ _
        · rw [z]; exact Nat.le_refl _
      exact I1.fpOk hle (I1.hok.fresh hle)
    · obtain ⟨its, rv, p', hz⟩ := I1.tuple hq
      refine call_enumerate_tuple p' fun h' he hit hsz hk => wpAny_pyIter_enum he ?_
      have I2 : Inv X pins σ H1 { s1 with heap := h' } := I1.kept (t' := s1.toks) hk
      refine ⟨s1.heap.objs.size + 1, [s1.heap.objs.size + 1, s1.heap.objs.size], _, _, H1, rfl, I2, turn_enumT a (s1.heap.objs.size + 1) s1.heap.objs.size, ⟨⟨.none, he⟩, hit, Nat.succ_ne_self _⟩, fun b hb => ?_, q⟩
      have e' : b = s1.heap.objs.size + 1 ∨ b = s1.heap.objs.size := by simpa using hb
      have hle : s1.heap.objs.size ≤ b := by
        rcases e' with z | z
        · rw [z]; exact Nat.le_add_right _ _
        · rw [z]; exact Nat.le_refl _
      exact I1.fpOk hle (I1.hok.fresh hle)

section
variable {X : Cx} {ff : Fx} {a : Expr} {pos : Pos}
theorem enumD_len : ∀ (i : Nat) (l : List PyData), (enumD i l).length = l.length
  | _, [] => rfl
  | i, x :: r => by rw [enumD, List.length_cons, List.length_cons, enumD_len]
theorem enumD_get : ∀ (i j : Nat) (l : List PyData) (x : PyData), l[j]? = some x → (enumD i l)[j]? = some (.tup [.d (.int ((i + j : Nat) : Int)), .d x])
  | _, _, [], _, h => by simp at h
  | i, 0, y :: r, x, h => by
    simp at h
    subst h
    rfl
  | i, j + 1, y :: r, x, h => by
    rw [enumD, List.getElem?_cons_succ, enumD_get (i + 1) j r x (by simpa using h)]
    rw [show i + 1 + j = i + (j + 1) by omega]
theorem it_enum {K : PySem.W.Frag} {H1 : Hp} {μ1 : Vw} {p : Addr} {ws : List V} {xs : List PyData} (h : LA K H1 μ1 p ws) (t : RpL K H1 μ1 xs ws) : ItOk K ff (Ite K p) H1 μ1 (enumD 0 xs) where
  go := fun i H' μ' S' e rs hi => by
    have h' := h.mono e
    rw [enumD_len] at hi
    obtain ⟨w, h1, h2⟩ := t.get (List.getElem?_eq_getElem hi)
    refine ⟨⟨ws, w, h'.sq, h1⟩, fun x H'' y => ?_⟩
    obtain ⟨T, z, rfl, hT, rfl, y⟩ := y
    have := y ws h'.sq
    rw [h1] at this; cases this
    have e2 : Ex H' μ' (upd H' T (.tup [.int (i : Nat), w])) (μ'.add T) := Ex.new1 hT
    have ta : Nb.TA K (upd H' T (.tup [.int (i : Nat), w])) (μ'.add T) T [.int (i : Nat), w] := .inl ⟨.inl upd_same, rs.fresh hT, .inr rfl⟩
    refine ⟨.tup [.d (.int (i : Nat)), .d xs[i]], μ'.add T, ?_, e2, rs.new1 hT, .tup ta (.cons (.d (.int _)) (.cons (.d (h2.mono (e.trans e2))) .nil)) (by show 2 ≤ sizeLine; decide)⟩
    rw [enumD_get 0 i xs _ (List.getElem?_eq_getElem hi), Nat.zero_add]
  stop := fun i H' μ' e hi0 => have hi := Nat.le_of_eq hi0.symm; ⟨ws, (h.mono e).sq, by rw [enumD_len] at hi; rw [← t.length]; exact hi⟩
theorem it_enumT {K : PySem.W.Frag} {H1 : Hp} {μ1 : Vw} {p : Addr} {ws : List V} {xs : List PyData} (h : Nb.TA K H1 μ1 p ws) (t : RpL K H1 μ1 xs ws) : ItOk K ff (IteT K p) H1 μ1 (enumD 0 xs) where
  go := fun i H' μ' S' e rs hi => by
    have h' := h.mono e
    rw [enumD_len] at hi
    obtain ⟨w, h1, h2⟩ := t.get (List.getElem?_eq_getElem hi)
    refine ⟨⟨ws, w, h'.sq, h1⟩, fun x H'' y => ?_⟩
    obtain ⟨T, z, rfl, hT, rfl, y⟩ := y
    have := y ws h'.sq
    rw [h1] at this; cases this
    have e2 : Ex H' μ' (upd H' T (.tup [.int (i : Nat), w])) (μ'.add T) := Ex.new1 hT
    have ta : Nb.TA K (upd H' T (.tup [.int (i : Nat), w])) (μ'.add T) T [.int (i : Nat), w] := .inl ⟨.inl upd_same, rs.fresh hT, .inr rfl⟩
    refine ⟨.tup [.d (.int (i : Nat)), .d xs[i]], μ'.add T, ?_, e2, rs.new1 hT, .tup ta (.cons (.d (.int _)) (.cons (.d (h2.mono (e.trans e2))) .nil)) (by show 2 ≤ sizeLine; decide)⟩
    rw [enumD_get 0 i xs _ (List.getElem?_eq_getElem hi), Nat.zero_add]
  stop := fun i H' μ' e hi0 => have hi := Nat.le_of_eq hi0.symm; ⟨ws, (h.mono e).sq, by rw [enumD_len] at hi; rw [← t.length]; exact hi⟩
theorem di_enum {tg : Expr} {p : Pos} {x : Str} {f : En → Sto → R (List Va)} (hx : x = "enumerate") (ht : isTpB tg = true) (hg : Gl X x) (hm : X.mg x = none) (ha : PA X [a] (tL X.K ff f)) (hs : ∀ x p, a ≠ .Starred x p) :
    PI X tg (.Call (.Name x p) [a] [] pos) (tI X.K ff fun η S => (f η S).bind fun l S1 => enuV l S1) := by
  subst hx
  cases tg <;> first | (exact absurd ht Bool.false_ne_true) | skip
  refine PI.weak (pi_enumT hg hm ha (star_cons _ _ _ hs)) fun σ H Q h => ?_
  obtain ⟨μ, S, η, rs, re, q⟩ := h
  refine tL.then rs re q fun l S1 ws H1 μ1 e1 rs1 re1 rv1 q1 => ?_
  have q1 : (enuV l S1).se ff.E (pI X.K ff H μ Q) := q1
  unfold enuV at q1
  split at q1
  · cases rv1 with
    | cons rx rr =>
      cases rr
      obtain ⟨p, xs, rfl, ta, t, z⟩ := Rp.lst_inv rx
      exact ⟨p, xs, rfl, .inl ⟨ta.sq, q1 _ H1 μ1 e1 rs1 (it_enum ta t) (by rw [enumD_len]; exact z)⟩⟩
  · cases rv1 with
    | cons rx rr =>
      cases rr
      obtain ⟨p, xs, rfl, ta, t, z⟩ := Rp.tup_inv rx
      exact ⟨p, xs, rfl, .inr ⟨ta.sq, q1 _ H1 μ1 e1 rs1 (it_enumT ta.ta t) (by rw [enumD_len]; exact z)⟩⟩
  · exact q1.elim
end
end Nb

namespace Nb
open PySem L2 PySem.Spec PyProof.Rows
/-! ### zip of two, each a list, a tuple or a text -/
inductive Sc where | lst (a : Addr) | tup (a : Addr) | txt (x : Str)
def SqB (c : Sc) (K : PySem.W.Frag) (H : Hp) (xs : List V) : Prop := match c with
  | .tup a => SqT K H a xs
  | .lst a => SqL K H a xs
  | .txt x => xs = x.cps.toList.map fun c => .str ⟨#[c]⟩
def ItIs (c : Sc) (h : Heap) (it : Addr) (i : Nat) : Prop := match c with
  | .tup a => h.IsTupleIter it a i
  | .lst a => h.IsListIter it a i
  | .txt x => ∃ t, h.IsStrIter it (strIterType x) x t i
def SqIs (c : Sc) (h : Heap) (its : Array Value) : Prop := match c with
  | .tup a => h.IsTuple a its
  | .lst a => h.IsList a its
  | .txt _ => True
def fpC (c : Sc) (it : Addr) : List Addr := match c with
  | .tup a => [it, a]
  | .lst a => [it, a]
  | .txt _ => [it]
/-- the value that is handed in, and its iterator -/
def vOb (c : Sc) (v : Value) (o : Obj) : Prop := match c with
  | .tup a => v = .ref a ∧ o = { cls := .type "tuple_iterator", data := .fields #[.ref a, .int 0 0] }
  | .lst a => v = .ref a ∧ o = { cls := .type "list_iterator", data := .fields #[.ref a, .int 0 0] }
  | .txt x => ∃ t, v = .str x t ∧ o = { cls := .type (strIterType x), data := .fields #[.str x t, .int 0 0] }
def vV (c : Sc) : V := match c with
  | .tup a => .ref a
  | .lst a => .ref a
  | .txt x => .str x
theorem vOb_ex {c : Sc} {v : Value} (r : RelV (vV c) v) : ∃ o, vOb c v o := by
  cases c with
  | tup a => cases r; exact ⟨_, rfl, rfl⟩
  | lst a => cases r; exact ⟨_, rfl, rfl⟩
  | txt x =>
    obtain ⟨t, rfl⟩ := r
    exact ⟨_, t, rfl, rfl⟩
theorem beginsB {c : Sc} {v : Value} {o : Obj} (h : vOb c v o) (its : Array Value) : Begins v o fun h => SqIs c h its := by
  cases c with
  | tup a => obtain ⟨rfl, rfl⟩ := h; exact begins_tuple a its
  | lst a => obtain ⟨rfl, rfl⟩ := h; exact begins_list a its
  | txt x => obtain ⟨t, rfl, rfl⟩ := h; exact begins_text x t
theorem itB0 {c : Sc} {h : Heap} {it : Addr} {v : Value} {o : Obj} (q : vOb c v o) (e : h.get? it = some o) : ItIs c h it 0 := by
  cases c with
  | tup a => obtain ⟨rfl, rfl⟩ := q; exact ⟨_, e, rfl, rfl⟩
  | lst a => obtain ⟨rfl, rfl⟩ := q; exact ⟨_, e, rfl, rfl⟩
  | txt x => obtain ⟨t, rfl, rfl⟩ := q; exact ⟨t, _, e, rfl, rfl⟩
theorem ItIs.ob {c : Sc} {h : Heap} {it : Addr} {i : Nat} (q : ItIs c h it i) : ∃ o, h.get? it = some o ∧ ∀ v, o.data ≠ .cell v := by
  cases c with
  | tup a =>
    obtain ⟨o, e, _, d⟩ := q
    exact ⟨o, e, fun v z => by rw [d] at z; cases z⟩
  | lst a =>
    obtain ⟨o, e, _, d⟩ := q
    exact ⟨o, e, fun v z => by rw [d] at z; cases z⟩
  | txt x =>
    obtain ⟨t, o, e, _, d⟩ := q
    exact ⟨o, e, fun v z => by rw [d] at z; cases z⟩
theorem ItIs.up {c : Sc} {h h' : Heap} {it : Addr} {i : Nat} (q : ItIs c h it i) (k : ∀ o, h.get? it = some o → h'.get? it = some o) : ItIs c h' it i := by
  cases c with
  | tup a => exact Heap.IsTupleIter.at q k
  | lst a => exact Heap.IsListIter.at q k
  | txt x =>
    obtain ⟨t, o, e, r⟩ := q
    exact ⟨t, o, k o e, r⟩
section
variable {X : Cx} {pins : List (Addr × Obj)} {σ : L2.St} {H : Hp} {s : Shared} {xs ys : List V} {c : Sc}
theorem sqB_is (I : L2.Inv X pins σ H s) (h : SqB c X.K H xs) : ∃ its : List Value, SqIs c s.heap its.toArray ∧ ((∃ x, c = .txt x) ∨ Vals xs its) := by
  cases c with
  | tup a =>
    obtain ⟨its, r, p, _⟩ := I.tuple h
    exact ⟨its, p, .inr r⟩
  | lst a =>
    obtain ⟨its, r, p, _⟩ := I.list h
    exact ⟨its, p.isList, .inr r⟩
  | txt x => exact ⟨[], trivial, .inl ⟨x, rfl⟩⟩
theorem sqB_inj (I : L2.Inv X pins σ H s) (h : SqB c X.K H xs) (k : SqB c X.K H ys) : xs = ys := by
  cases c with
  | tup a => exact I.tuple_inj h k
  | lst a => exact I.list_inj h k
  | txt x => exact Eq.trans h (Eq.symm k)
theorem SqIs.lt {h : Heap} {its : Array Value} {it x : Addr} (q : SqIs c h its) (hx : x ∈ fpC c it) : x = it ∨ x < h.objs.size := by
  cases c with
  | tup a =>
    rcases List.mem_cons.mp hx with z | z
    · exact .inl z
    · obtain ⟨o, e, _⟩ := q
      rw [List.mem_singleton.mp z]
      exact .inr (Heap.lt_size e)
  | lst a =>
    rcases List.mem_cons.mp hx with z | z
    · exact .inl z
    · obtain ⟨o, e, _⟩ := q
      rw [List.mem_singleton.mp z]
      exact .inr (Heap.lt_size e)
  | txt y => exact .inl (List.mem_singleton.mp hx)
/-- what the iterator draws -/
theorem srcD {it : Addr} {i : Nat} (hc : X.calm = true) (I : L2.Inv X pins σ H s) (h : SqB c X.K H xs) (q : ItIs c s.heap it i) : ∃ (n : Nat) (P : Nat → Value → Prop) (St : Nat → Heap → Prop), Draws X.prog X.w X.A.in1 it (fpC c it) n P St ∧ n = xs.length ∧ St i s.heap ∧ (∀ i v x, P i v → xs[i]? = some x → RelV x v) ∧ ∀ j h', St j h' → ItIs c h' it j := by
  have hh : X.A.in1.handled = none := I.ok.hd hc
  cases c with
  | tup a =>
    obtain ⟨its, r, p, _⟩ := I.tuple h
    have ne : a ≠ it := fun z => by
      subst z
      obtain ⟨o1, e1, c1, _⟩ := p
      obtain ⟨o2, e2, c2, _⟩ := q
      rw [e1] at e2
      cases e2
      rw [c1] at c2
      exact absurd c2 (by decide)
    refine ⟨_, _, _, Draws.tuple hh it a ne its.toArray, ?_, ⟨q, p⟩, fun i v x hv hx => ?_, fun j h' st => st.1⟩
    · rw [List.size_toArray, r.length]
    · obtain ⟨u, hu, ru⟩ := r.get hx
      have h3 : its[i]? = some v := by simpa using hv
      rw [hu] at h3
      cases h3
      exact ru
  | lst a =>
    obtain ⟨its, r, p, _⟩ := I.list h
    have ne : a ≠ it := fun z => by
      subst z
      obtain ⟨o1, e1, c1, _⟩ := p.isList
      obtain ⟨o2, e2, c2, _⟩ := q
      rw [e1] at e2
      cases e2
      rw [c1] at c2
      exact absurd c2 (by decide)
    refine ⟨_, _, _, Draws.list hh it a ne its.toArray, ?_, ⟨q, p.isList⟩, fun i v x hv hx => ?_, fun j h' st => st.1⟩
    · rw [List.size_toArray, r.length]
    · obtain ⟨u, hu, ru⟩ := r.get hx
      have h3 : its[i]? = some v := by simpa using hv
      rw [hu] at h3
      cases h3
      exact ru
  | txt y =>
    obtain ⟨t, q⟩ := q
    have h : xs = y.cps.toList.map fun c => V.str ⟨#[c]⟩ := h
    subst h
    refine ⟨_, _, _, Draws.text hh it y t, by rw [List.length_map, Array.length_toList], q, fun i v x hv hx => ?_, fun j h' st => ⟨t, st⟩⟩
    obtain ⟨ch, u, h1, rfl⟩ := hv
    rw [List.getElem?_map] at hx
    have h2 : y.cps.toList[i]? = some ch := by simpa using h1
    rw [h2] at hx
    cases hx
    exact ⟨u, rfl⟩
end
def ItzB (K : PySem.W.Frag) (c1 c2 : Sc) : It where
  go := fun i H => ∃ (xs ys : List V) (x y : V), SqB c1 K H xs ∧ SqB c2 K H ys ∧ xs[i]? = some x ∧ ys[i]? = some y
  yld := fun i H v H' => ∃ T x y, v = .ref T ∧ H T = none ∧ H' = upd H T (.tup [x, y]) ∧ (∀ xs, SqB c1 K H xs → xs[i]? = some x) ∧ ∀ ys, SqB c2 K H ys → ys[i]? = some y
  stop := fun i H => ∃ xs ys : List V, SqB c1 K H xs ∧ SqB c2 K H ys ∧ i ≤ xs.length ∧ i ≤ ys.length ∧ (i = xs.length ∨ i = ys.length)
structure Zs (h : Heap) (c1 c2 : Sc) (z TI TO i1 i2 : Addr) (i : Nat) : Prop where
  z : IsZip h z TI TO .none
  ti : IsTupOf2 h TI (.ref i1) (.ref i2)
  to : ∃ x y, IsTupOf2 h TO x y
  j1 : ItIs c1 h i1 i
  j2 : ItIs c2 h i2 i
theorem mem5 {c z TI TO i1 i2 : Addr} (h : c ∈ [z, TI, TO, i1, i2]) : c = z ∨ c = TI ∨ c = TO ∨ c = i1 ∨ c = i2 := by simpa using h
theorem turn_zipB {P : Program} {w : World} {K : PySem.W.Frag} {elts : List Expr} {kk : Nat} {tpos : Pos} {c1 c2 : Sc} {z TI TO i1 i2 : Addr} (D : ZipSep2 z TI TO i1 i2 (fpC c1 i1) (fpC c2 i2)) :
    Turn P w K (.Tuple elts kk tpos) (ItzB K c1 c2) [z, TI, TO, i1, i2] z (fun i h => Zs h c1 c2 z TI TO i1 i2 i) where
  mem := by simp
  obj := fun i h st c hc => by
    obtain ⟨hz, hTI, ⟨x, y, hTO⟩, h1, h2⟩ := st
    rcases mem5 hc with q | q | q | q | q
    · subst q; exact ⟨_, hz, fun v q => nomatch q⟩
    · subst q; exact ⟨_, hTI, fun v q => nomatch q⟩
    · subst q; exact ⟨_, hTO, fun v q => nomatch q⟩
    · subst q; exact h1.ob
    · subst q; exact h2.ob
  keep := fun i h h' st k => by
    obtain ⟨hz, hTI, ⟨x, y, hTO⟩, h1, h2⟩ := st
    exact ⟨k z (by simp) _ hz, k TI (by simp) _ hTI, ⟨x, y, k TO (by simp) _ hTO⟩, h1.up fun o q => k i1 (by simp) o q, h2.up fun o q => k i2 (by simp) o q⟩
  item := by
    intro X hP hw hK hc i pins s σ H E I hf st hg
    subst hP hw hK
    obtain ⟨hz, hTI, ⟨x0, y0, hTO⟩, h1, h2⟩ := st
    obtain ⟨xs, ys, x, y, hqx, hqy, hx, hy⟩ := hg
    obtain ⟨n1, P1, St1, D1, e1, t1, v1, k1⟩ := srcD hc I hqx h1
    obtain ⟨n2, P2, St2, D2, e2, t2, v2, k2⟩ := srcD hc I hqy h2
    have zl : z < s.heap.objs.size := Heap.lt_size hz
    have hl1 : i < n1 := by rw [e1]; exact (List.getElem?_eq_some_iff.mp hx).1
    have hl2 : i < n2 := by rw [e2]; exact (List.getElem?_eq_some_iff.mp hy).1
    refine wpAny_pyNext_zipD2_item D D1 D2 hz hTI hTO t1 t2 hl1 hl2 fun u u2 h' tk w1 w2 z' TO' s1 s2 hT hsz hk => ?_
    have ru := v1 i u x w1 hx
    have ru2 := v2 i u2 y w2 hy
    refine ⟨_, rfl, wpAny_letOwnedTupleGo_zip (s := { s with heap := h', toks := tk }) z' fun h'' z'' sb => ?_⟩
    have hT2 : h''.get? s.heap.objs.size = some { cls := .type "tuple", data := .seq #[u, u2] } := (sb.2 _ (Nat.ne_of_gt zl)).trans hT
    have new : ObjOk X.prog X.w (upd H s.heap.objs.size (.tup [x, y])) h'' s.heap.objs.size (.tup [x, y]) := ⟨by show 2 ≤ sizeLine; decide, [u, u2], .cons ru (.cons ru2 .nil), ⟨_, hT2, rfl, _, rfl⟩⟩
    have I1 : L2.Inv X pins σ (upd H s.heap.objs.size (.tup [x, y])) { s with heap := h'', toks := tk } := by
      refine I.turnedNew (ch := [z, TI, TO, i1, i2]) (fun c o hb q => ?_) hf (Nat.le_refl _) new
      have nc : ∀ d, d ∈ [z, TI, TO, i1, i2] → c ≠ d := fun d hd e => hb (e ▸ hd)
      rw [sb.2 c (nc z (by simp))]
      exact hk c o (nc z (by simp)) (nc TO (by simp)) (nc i1 (by simp)) (nc i2 (by simp)) q
    refine ⟨.ref s.heap.objs.size, _, I1, rfl, ⟨_, x, y, rfl, I.hok.fresh (Nat.le_refl _), rfl, fun l hl => by rw [sqB_inj I hl hqx]; exact hx, fun l hl => by rw [sqB_inj I hl hqy]; exact hy⟩, ⟨z'', ?_, ⟨u, u2, ?_⟩, ?_, ?_⟩, fun c hcm => ?_⟩
    · show h''.get? TI = _
      rw [sb.2 _ D.TIz]
      exact hk _ _ D.TIz D.TITO D.TIi1 D.TIi2 hTI
    · show h''.get? TO = _
      rw [sb.2 _ D.TOz]
      exact TO'
    · exact (k1 _ _ s1).up fun o q => by rw [sb.2 _ D.zi1.symm]; exact q
    · exact (k2 _ _ s2).up fun o q => by rw [sb.2 _ D.zi2.symm]; exact q
    · have hlt : c < s.heap.objs.size := by
        rcases mem5 hcm with q | q | q | q | q
        · subst q; exact zl
        · subst q; exact Heap.lt_size hTI
        · subst q; exact Heap.lt_size hTO
        · subst q
          obtain ⟨o, e, _⟩ := h1.ob
          exact Heap.lt_size e
        · subst q
          obtain ⟨o, e, _⟩ := h2.ob
          exact Heap.lt_size e
      rw [upd_ne (Nat.ne_of_lt hlt)]
      exact (hf c hcm).1
  done := by
    intro X hP hw hK hc i pins s σ H E I hf st hg
    subst hP hw hK
    obtain ⟨hz, hTI, ⟨x0, y0, hTO⟩, h1, h2⟩ := st
    obtain ⟨xs, ys, hqx, hqy, g1, g2, g3⟩ := hg
    obtain ⟨n1, P1, St1, D1, e1, t1, v1, k1⟩ := srcD hc I hqx h1
    obtain ⟨n2, P2, St2, D2, e2, t2, v2, k2⟩ := srcD hc I hqy h2
    refine wpAny_pyNext_zipD2_end (i := i) D D1 D2 hz hTI hTO t1 t2 (by omega) (by omega) (by omega) fun h' tk hk => ⟨rfl, ?_⟩
    refine I.turnedL (ch := [z, TI, TO, i1, i2]) (fun c o hb q => ?_) hf
    have nc : ∀ d, d ∈ [z, TI, TO, i1, i2] → c ≠ d := fun d hd e => hb (e ▸ hd)
    exact hk c o (nc z (by simp)) (nc TO (by simp)) (nc i1 (by simp)) (nc i2 (by simp)) q
  self := fun A i s Q E st h => wpAny_pyIter_zip st.z h
theorem no2 {n c i : Nat} {l : List Nat} (h : ∀ x ∈ l, x = i ∨ x < n) (h1 : c ≠ i) (h2 : n ≤ c) : c ∉ l := fun z => by
  rcases h c z with q | q
  · exact h1 q
  · omega
theorem sep5 {n : Nat} {c1 c2 : Sc} (h1 : ∀ x ∈ fpC c1 n, x = n ∨ x < n) (h2 : ∀ x ∈ fpC c2 (n + 1), x = n + 1 ∨ x < n) : ZipSep2 (n + 4) (n + 2) (n + 3) n (n + 1) (fpC c1 n) (fpC c2 (n + 1)) where
  TIz := show n + 2 ≠ n + 4 by omega
  TOz := show n + 3 ≠ n + 4 by omega
  TITO := show n + 2 ≠ n + 3 by omega
  TIi1 := show n + 2 ≠ n by omega
  mem1 := by cases c1 <;> exact List.mem_cons_self ..
  zf1 := no2 h1 (show n + 4 ≠ n by omega) (show n ≤ n + 4 by omega)
  Tf1 := no2 h1 (show n + 3 ≠ n by omega) (show n ≤ n + 3 by omega)
  TIi2 := show n + 2 ≠ n + 1 by omega
  mem2 := by cases c2 <;> exact List.mem_cons_self ..
  zf2 := no2 h2 (show n + 4 ≠ n + 1 by omega) (show n ≤ n + 4 by omega)
  Tf2 := no2 h2 (show n + 3 ≠ n + 1 by omega) (show n ≤ n + 3 by omega)
  sep1_2 := no2 h2 (show n ≠ n + 1 by omega) (Nat.le_refl n)
  sep2_1 := no2 h1 (show n + 1 ≠ n by omega) (show n ≤ n + 1 by omega)
def iZipB (K : PySem.W.Frag) (ta : L2.TA) : TI := fun σ H R => ta σ H fun vs H1 => ∃ c1 c2 xs ys, vs = [vV c1, vV c2] ∧ SqB c1 K H1 xs ∧ SqB c2 K H1 ys ∧ R (ItzB K c1 c2) H1
theorem pi_zipB {X : Cx} {e e2 : Expr} {ta : L2.TA} {p pos tpos : Pos} {elts : List Expr} {kk : Nat} (hg : Gl X "zip") (hm : X.mg "zip" = none) (ha : PA X [e, e2] ta) (hs : starEach [e, e2] X.env = (false, eval e X.env) :: starEach [e2] X.env) (hp : (backTo pos (starEach [e2] X.env)).any (·.1) = false) :
    PI X (.Tuple elts kk tpos) (.Call (.Name "zip" p) [e, e2] [] pos) (iZipB X.K ta) := by
  refine ⟨fun pins s σ H R I h => ?_⟩
  refine Call_ (ld_blt I hg hm PyProof.Rows.boot_zip (PyProof.Rows.callWith_type1 (thn (ha.run pos pins s σ H _ I h) fun us s1 got => ?_) hs hp))
  obtain ⟨vs, H1, I1, r1, c1, c2, xs, ys, ex, q1, q2, q⟩ := got
  subst ex
  obtain ⟨its, p1, _⟩ := sqB_is I1 q1
  obtain ⟨its2, p2, _⟩ := sqB_is I1 q2
  cases r1 with
  | cons r rr =>
    cases rr with
    | cons r' rr =>
      cases rr
      obtain ⟨o1, ho1⟩ := vOb_ex r
      obtain ⟨o2, ho2⟩ := vOb_ex r'
      refine zip_begins2 (beginsB ho1 its.toArray) (beginsB ho2 its2.toArray) p1 p2 fun h' hz hTI hTO g1 g2 hsz hk => wpAny_pyIter_zip hz ?_
      have I2 : L2.Inv X pins σ H1 { s1 with heap := h' } := I1.kept (t' := s1.toks) hk
      have D : ZipSep2 (s1.heap.objs.size + 4) (s1.heap.objs.size + 2) (s1.heap.objs.size + 3) s1.heap.objs.size (s1.heap.objs.size + 1) (fpC c1 s1.heap.objs.size) (fpC c2 (s1.heap.objs.size + 1)) := sep5 (fun x hx => p1.lt hx) (fun x hx => p2.lt hx)
      refine ⟨s1.heap.objs.size + 4, [s1.heap.objs.size + 4, s1.heap.objs.size + 2, s1.heap.objs.size + 3, s1.heap.objs.size, s1.heap.objs.size + 1], _, _, H1, rfl, I2, turn_zipB D, ⟨hz, hTI, ⟨_, _, hTO⟩, itB0 ho1 g1, itB0 ho2 g2⟩, fun c hc => ?_, q⟩
      have hle : s1.heap.objs.size ≤ c := by
        rcases mem5 hc with z | z | z | z | z
        · rw [z]; exact Nat.le_add_right _ _
        · rw [z]; exact Nat.le_add_right _ _
        · rw [z]; exact Nat.le_add_right _ _
        · rw [z]; exact Nat.le_refl _
        · rw [z]; exact Nat.le_add_right _ _
      exact I1.fpOk hle (I1.hok.fresh hle)
section
variable {X : Cx} {ff : Fx} {a b : Expr} {pos : Pos}
theorem zip2_get : ∀ {xs ys : List Va} {i : Nat} {x y : Va}, xs[i]? = some x → ys[i]? = some y → (zip2 xs ys)[i]? = some (.tup [x, y])
  | [], _, _, _, _, h, _ => by simp at h
  | _ :: _, [], _, _, _, _, h => by simp at h
  | a :: xs, b :: ys, 0, x, y, h, k => by
    have h := Option.some.inj h
    have k := Option.some.inj k
    subst h k
    rfl
  | a :: xs, b :: ys, i + 1, x, y, h, k => by
    rw [zip2, List.getElem?_cons_succ]
    exact zip2_get (by simpa using h) (by simpa using k)
theorem zip2_len : ∀ (xs ys : List Va), (zip2 xs ys).length = min xs.length ys.length
  | [], ys => by rw [zip2]; simp; all_goals simp
  | _ :: _, [] => by rw [zip2]; simp; all_goals simp
  | a :: xs, b :: ys => by rw [zip2, List.length_cons, zip2_len xs ys, List.length_cons, List.length_cons]; omega
def Sb (c : Sc) (K : PySem.W.Frag) (H : Hp) (μ : Vw) (ws : List V) : Prop := match c with
  | .tup p => Nb.TA K H μ p ws
  | .lst p => LA K H μ p ws
  | .txt x => ws = x.cps.toList.map fun c => .str ⟨#[c]⟩
theorem Sb.mono {c : Sc} {K : PySem.W.Frag} {H H' : Hp} {μ μ' : Vw} {ws : List V} (h : Sb c K H μ ws) (e : Ex H μ H' μ') : Sb c K H' μ' ws := by
  cases c with
  | tup p => exact TA.mono e h
  | lst p => exact LA.mono e h
  | txt x => exact h
theorem Sb.sq {c : Sc} {K : PySem.W.Frag} {H : Hp} {μ : Vw} {ws : List V} (h : Sb c K H μ ws) : SqB c K H ws := by
  cases c with
  | tup p => exact TA.sq h
  | lst p => exact LA.sq h
  | txt x => exact h
theorem rvl_d {K : PySem.W.Frag} {H : Hp} {μ : Vw} : ∀ {ds : List PyData} {vs : List V}, RpL K H μ ds vs → RVL K ff.f H μ (ds.map .d) vs
  | _, _, .nil => .nil
  | _, _, .cons r t => .cons (.d r) (rvl_d t)
theorem rvl_s {K : PySem.W.Frag} {H : Hp} {μ : Vw} : ∀ l : List Nat, RVL K ff.f H μ (l.map fun c => .d (.str ⟨#[c]⟩)) (l.map fun c => .str ⟨#[c]⟩)
  | [] => .nil
  | c :: l => .cons (.d (.str _)) (rvl_s l)
theorem sqV_ok {K : PySem.W.Frag} {H : Hp} {μ : Vw} {x : Va} {v : V} {q : List Va} (h : sqV x = some q) (r : RV K ff.f H μ x v) : ∃ c ws, v = vV c ∧ Sb c K H μ ws ∧ RVL K ff.f H μ q ws ∧ q.length ≤ sizeLine := by
  unfold sqV at h
  split at h
  · cases h
    obtain ⟨p, xs, rfl, ta, t, z⟩ := Rp.lst_inv r
    exact ⟨.lst p, xs, rfl, ta, rvl_d t, by rw [List.length_map]; exact z⟩
  · cases h
    obtain ⟨p, xs, rfl, ta, t, z⟩ := Rp.tup_inv r
    exact ⟨.tup p, xs, rfl, ta.ta, rvl_d t, by rw [List.length_map]; exact z⟩
  · split at h
    · rename_i hz
      cases h
      obtain rfl := Rp.str_inv r
      exact ⟨.txt _, _, rfl, rfl, rvl_s _, by rw [List.length_map, Array.length_toList]; exact hz⟩
    · cases h
  · cases h
    obtain ⟨p, xs, rfl, ta, t, z⟩ := RV.tup_inv r
    exact ⟨.tup p, xs, rfl, ta, t, z⟩
  · cases h
theorem it_zipB {K : PySem.W.Frag} {H1 : Hp} {μ1 : Vw} {c1 c2 : Sc} {ws us : List V} {xs ys : List Va} (h : Sb c1 K H1 μ1 ws) (k : Sb c2 K H1 μ1 us) (t : RVL K ff.f H1 μ1 xs ws) (u : RVL K ff.f H1 μ1 ys us) : ItOk K ff (ItzB K c1 c2) H1 μ1 (zip2 xs ys) where
  go := fun i H' μ' S' e rs hi => by
    have h' := h.mono e
    have k' := k.mono e
    rw [zip2_len] at hi
    have i1 : i < xs.length := by omega
    have i2 : i < ys.length := by omega
    obtain ⟨w, a1, r1⟩ := t.get (List.getElem?_eq_getElem i1)
    obtain ⟨v, a2, r2⟩ := u.get (List.getElem?_eq_getElem i2)
    refine ⟨⟨ws, us, w, v, h'.sq, k'.sq, a1, a2⟩, fun x H'' y => ?_⟩
    obtain ⟨T, w', v', rfl, hT, rfl, y1, y2⟩ := y
    have y1 := y1 ws h'.sq
    rw [a1] at y1
    have y2 := y2 us k'.sq
    rw [a2] at y2
    cases y1
    cases y2
    have e2 : Ex H' μ' (upd H' T (.tup [w, v])) (μ'.add T) := Ex.new1 hT
    have ta : Nb.TA K (upd H' T (.tup [w, v])) (μ'.add T) T [w, v] := .inl ⟨.inl upd_same, rs.fresh hT, .inr rfl⟩
    have rl : RVL K ff.f (upd H' T (.tup [w, v])) (μ'.add T) [xs[i], ys[i]] [w, v] := .cons (r1.mono (e.trans e2)) (.cons (r2.mono (e.trans e2)) .nil)
    exact ⟨.tup [xs[i], ys[i]], μ'.add T, zip2_get (List.getElem?_eq_getElem i1) (List.getElem?_eq_getElem i2), e2, rs.new1 hT, .tup ta rl (by show 2 ≤ sizeLine; decide)⟩
  stop := fun i H' μ' e hi => by
    have e1 := t.length
    have e2 := u.length
    rw [zip2_len] at hi
    exact ⟨ws, us, (h.mono e).sq, (k.mono e).sq, by omega, by omega, by omega⟩
theorem di_zip {tg : Expr} {p : Pos} {x : Str} {f : En → Sto → R (List Va)} (hx : x = "zip") (ht : isTpB tg = true) (hg : Gl X x) (hm : X.mg x = none) (ha : PA X [a, b] (tL X.K ff f)) (hs : ∀ x p, a ≠ .Starred x p) (hs2 : ∀ x p, b ≠ .Starred x p) :
    PI X tg (.Call (.Name x p) [a, b] [] pos) (tI X.K ff fun η S => (f η S).bind fun l S1 => zipV l S1) := by
  subst hx
  cases tg <;> first | (exact absurd ht Bool.false_ne_true) | skip
  have hp : (backTo pos (starEach [b] X.env)).any (·.1) = false := by
    cases b <;> first | rfl | (rename_i y q; exact absurd rfl (hs2 y q))
  refine PI.weak (pi_zipB hg hm ha (star_cons _ _ _ hs) hp) fun σ H Q h => ?_
  obtain ⟨μ, S, η, rs, re, q⟩ := h
  refine tL.then rs re q fun l S1 ws H1 μ1 e1 rs1 re1 rv1 q1 => ?_
  have q1 : (zipV l S1).se ff.E (pI X.K ff H μ Q) := q1
  unfold zipV at q1
  split at q1
  · rename_i v1 v2 _
    split at q1
    · rename_i s1 s2 h1 h2
      cases rv1 with
      | cons rx rr =>
        cases rr with
        | cons ry rr =>
          cases rr
          obtain ⟨c1, w1, rfl, k1, t1, z1⟩ := sqV_ok h1 rx
          obtain ⟨c2, w2, rfl, k2, t2, z2⟩ := sqV_ok h2 ry
          exact ⟨c1, c2, w1, w2, rfl, k1.sq, k2.sq, q1 _ H1 μ1 e1 rs1 (it_zipB k1 k2 t1 t2) (by rw [zip2_len]; omega)⟩
    · exact q1.elim
  · exact q1.elim
/-! ### a new list so often -/
theorem rvl_rep {K : PySem.W.Frag} {H : Hp} {μ : Vw} {l : List Va} {ws : List V} (t : RVL K ff.f H μ l ws) : ∀ k : Nat, RVL K ff.f H μ (List.replicate k l).flatten (List.replicate k ws).flatten
  | 0 => by rw [List.replicate_zero, List.replicate_zero]; exact .nil
  | k + 1 => by
    rw [List.replicate_succ, List.replicate_succ, List.flatten_cons, List.flatten_cons]
    exact t.append (rvl_rep t k)
theorem rep_len {α : Type} (l : List α) : ∀ k : Nat, (List.replicate k l).flatten.length = l.length * k
  | 0 => by simp
  | k + 1 => by rw [List.replicate_succ, List.flatten_cons, List.length_append, rep_len l k, Nat.mul_succ]; omega
theorem df_rpt {fl : En → Sto → R (List Va)} {fn : En → Sto → R Va} (ha : PE X a (tF X.K ff fl)) (hb : PE X b (tE X.K ff fn)) :
    PE X (.BinOp a .Mult b pos) (tF X.K ff fun η S => (fl η S).bind fun l S1 => (fn η S1).bind fun y S2 => rptV l y S2) :=
  PE.weak (pe_op op_rep ha hb) fun σ H Q h => by
    obtain ⟨μ, S, η, rs, re, q⟩ := h
    refine ⟨μ, S, η, rs, re, R.se_mono (R.se_bind q) fun l S1 q1 ws H1 μ1 e1 rs1 rv1 hz p hp => ?_⟩
    have e2 : Ex H1 μ1 (upd H1 p (.lst ws)) (μ1.add p) := Ex.new1 hp
    have rs2 : RS X.K ff (upd H1 p (.lst ws)) (μ1.add p) S1 := rs1.new1 hp
    refine tE.then rs2 (re.mono (e1.trans e2)) q1 fun y S2 w2 H2 μ2 e3 rs3 re3 rv3 q2 => ?_
    have q2 : (rptV l y S2).se ff.E (pF X.K ff H μ Q) := q2
    unfold rptV at q2
    split at q2
    · rename_i k _
      split at q2
      · rename_i hk
        simp only [Bool.and_eq_true, decide_eq_true_eq] at hk
        obtain ⟨⟨k1, k2⟩, k3⟩ := hk
        obtain rfl := Rp.int_inv rv3
        have hl := rv1.length
        have hH : H2 p = some (.lst ws) := e3.keep p _ upd_same (by
          show p ∉ (μ1.add p).ad
          exact rs1.fresh hp)
        refine ⟨p, k, ws, rfl, rfl, hH, by omega, by omega, by rw [← hl]; exact k3, fun p' hp' => ?_⟩
        exact q2 _ H2 μ2 ((e1.trans e2).trans e3) rs3 (rvl_rep (rv1.mono (e2.trans e3)) k.toNat) (by rw [rep_len]; exact k3) p' hp'
      · exact q2.elim
    · exact q2.elim
/-! ### a def that a local name holds -/
theorem dynV_inv {Φ : Nat → List Va → Sto → R Va} {fn : List (Str × Nat)} {v : Va} {l : List Va} {S : Sto} {Q : Va → Sto → Prop} (h : (dynV Φ fn v l S).se ff.E Q) : ∃ y k, v = .fn (.fun_ y k) ∧ fn[k]? = some (y, l.length) ∧ (Φ k l S).se ff.E Q := by
  cases v with
  | fn g =>
    cases g with
    | fun_ y k =>
      have h : (if fn[k]? = some (y, l.length) then Φ k l S else R.bad).se ff.E Q := h
      by_cases hk : fn[k]? = some (y, l.length)
      · rw [if_pos hk] at h
        exact ⟨y, k, rfl, hk, h⟩
      · rw [if_neg hk] at h
        exact h.elim
    | _ => exact h.elim
  | _ => exact h.elim
theorem de_dyn {es : List Expr} {x : Str} {p : Pos} {i : Nat} {fn : List (Str × Nat)} {f : En → Sto → R (List Va)} {Φ : Nat → List Va → Sto → R Va} (hN : X.N[i]? = some x) (hv : Vis X.env.scope x) (hc : ∀ k y m, fn[k]? = some (y, m) → Cal X ff y m (Φ k))
    (hgf : ∀ y k v, ff.f (.fun_ y k) v → ∃ f, v = .ref f ∧ X.mg y = some (.ref f)) (hgd : X.A.guards = some []) (ha : PA X (a :: es) (tL X.K ff f)) (hdb : (x == ("__debug__" : Str)) = false) (hcd : (x == ("__classdict__" : Str)) = false) (hs : ∀ x p, a ≠ .Starred x p) (hpl : (backTo pos (starEach es X.env)).any (·.1) = false) :
    PE X (.Call (.Name x p) (a :: es) [] pos) (tE X.K ff fun η S => match η[i]? with | some (some v) => (f η S).nx.bind fun l S1 => dynV Φ fn v l S1 | _ => .bad) := by
  refine ⟨fun pins s σ H Q I h => ?_⟩
  obtain ⟨μ, S, η, rs, re, q⟩ := h
  dsimp only at q
  split at q
  · rename_i v hi
    obtain ⟨w, hw, rw1⟩ := re.at_ i v hi
    cases h1 : f η S with
    | bad => rw [h1] at q; exact q.elim
    | ex _ _ => rw [h1] at q; exact q.elim
    | ok l S1 =>
      rw [h1, R.nx_ok, R.bind_ok] at q
      obtain ⟨y, k, rfl, hk, q⟩ := dynV_inv q
      obtain ⟨k', fa, fd, ps, F, hr, hps, hm, hkp, hb⟩ := (hc k y _ hk).ex
      cases rw1 with
      | fn hff =>
        obtain ⟨fb, rfl, hm2⟩ := hgf _ _ _ hff
        rw [hm] at hm2
        have e0 := Option.some.inj hm2
        have e0 : fa = fb := by injection e0
        subst e0
        have hvar := (pe_var (pos := p) hN hv hdb hcd).run pins s σ H (fun v H1 => v = .ref fa ∧ H1 = H) I ⟨.ref fa, hw, rfl, rfl⟩
        refine wpAny_Call_Name_kw (thn hvar fun u s1 got => ?_)
        obtain ⟨v, H1, I1, r1, rfl, rfl⟩ := got
        cases r1
        have hrun := ha.run pos pins s1 σ _ (fun vs H2 => vs.length = ps.length ∧ rDL X.K ff (Φ k) vs H2 Q) I1 ⟨μ, S, η, rs, re, by
          rw [h1]
          intro ws H2 μ2 e2 rs2 rv2
          exact ⟨by rw [← rv2.length, hps], ⟨μ2, _, _, rs2, rv2, R.se_mono q fun v S' p => pK.later e2 p⟩⟩⟩
        refine PySem.W.callWith_K (h₀ := X.base) I.ok.mod.kin hkp (thn hrun fun us s2 got => ?_) (star_cons _ _ _ hs) hpl
        obtain ⟨vs, H2, I2, r, hl, q2⟩ := got
        exact ⟨I2.kIn, run_fnG F (hc k y _ hk).px hr hgd hb I2 r hl q2⟩
  · exact q.elim
end
end Nb

namespace Nb
open PySem L2 PySem.Spec PyProof.Rows
mutual
theorem beqD_ok : ∀ {a b : PyData}, beqD a b = true → a = b
  | .none, b, h => by cases b <;> first | rfl | (exact absurd h Bool.false_ne_true)
  | .bool x, b, h => by
    cases b <;> first | (exact absurd h Bool.false_ne_true) | skip
    rw [beqD] at h
    rw [eq_of_beq h]
  | .int x, b, h => by
    cases b <;> first | (exact absurd h Bool.false_ne_true) | skip
    rw [beqD] at h
    rw [of_decide_eq_true h]
  | .str x, b, h => by
    cases b <;> first | (exact absurd h Bool.false_ne_true) | skip
    rw [beqD] at h
    rw [of_decide_eq_true h]
  | .list x, b, h => by
    cases b <;> first | (exact absurd h Bool.false_ne_true) | skip
    rw [beqD] at h
    rw [beqDs_ok h]
  | .tuple x, b, h => by
    cases b <;> first | (exact absurd h Bool.false_ne_true) | skip
    rw [beqD] at h
    rw [beqDs_ok h]
  | .dict [], b, h => by
    cases b with
    | dict l =>
      cases l with
      | nil => rfl
      | cons _ _ => exact absurd h Bool.false_ne_true
    | _ => exact absurd h Bool.false_ne_true
  | .dict (_ :: _), b, h => by
    cases b with
    | dict l => cases l <;> exact absurd h Bool.false_ne_true
    | _ => exact absurd h Bool.false_ne_true
theorem beqDs_ok : ∀ {a b : List PyData}, beqDs a b = true → a = b
  | [], [], _ => rfl
  | [], _ :: _, h => by simp [beqDs] at h
  | _ :: _, [], h => by simp [beqDs] at h
  | a :: r, b :: s, h => by
    rw [beqDs, Bool.and_eq_true] at h
    rw [beqD_ok h.1, beqDs_ok h.2]
end
theorem sameL_ok : ∀ {a b : List Va}, sameL a b = true → a = b
  | [], [], _ => rfl
  | [], _ :: _, h => by cases h
  | v :: _, [], h => by cases v <;> cases h
  | .d x :: r, .d y :: s, h => by
    rw [sameL, Bool.and_eq_true] at h
    rw [beqD_ok h.1, sameL_ok h.2]
  | .d _ :: _, .ref _ :: _, h => by cases h
  | .d _ :: _, .fn _ :: _, h => by cases h
  | .d _ :: _, .tup _ :: _, h => by cases h
  | .d _ :: _, .z _ :: _, h => by cases h
  | .ref _ :: _, v :: _, h => by cases v <;> cases h
  | .fn _ :: _, v :: _, h => by cases v <;> cases h
  | .tup _ :: _, v :: _, h => by cases v <;> cases h
  | .z _ :: _, v :: _, h => by cases v <;> cases h
theorem sameC_ok {n : Nat} {l : List Va} {S : Sto} (h : sameC n l S = true) : S[n]? = some (.lst l) := by
  unfold sameC at h
  split at h
  · rename_i m hm
    rw [hm, sameL_ok h]
  · cases h
theorem sameL_ints : ∀ l : List Int, sameL (l.map fun i => .d (.int i)) (l.map fun i => .d (.int i)) = true
  | [] => rfl
  | i :: l => by
    rw [List.map_cons, sameL, sameL_ints l, beqD, decide_eq_true rfl]
    rfl
section
variable {X : Cx} {ff : Fx} {a : Expr} {pos : Pos} {vs : List Nat}
/-- the cell in a slot is walked -/
def tIC (K : PySem.W.Frag) (ff : Fx) (i : Nat) : TI := fun σ H R => ∃ μ S η n p l, RS K ff H μ S ∧ RE K ff.f H μ η σ ∧ η[i]? = some (some (.ref n)) ∧ S[n]? = some (.lst l) ∧ μ.ad[n]? = some p ∧ ∀ H1 μ1, Ex H μ H1 μ1 → RS K ff H1 μ1 S → R (Itl K p) H1
theorem di_cel {tg : Expr} {i : Nat} (ha : PE X a (tE X.K ff fun η S => match η[i]? with | some (some v) => .ok v S | _ => .bad)) : PI X tg a (tIC X.K ff i) :=
  PI.or (t' := tE X.K ff fun η S => .bad) ha fun σ H Q h => by
    obtain ⟨μ, S, η, n, p, l, rs, re, hi, hS, hp, q⟩ := h
    refine ⟨μ, S, η, rs, re, ?_⟩
    dsimp only
    rw [hi]
    intro w H1 μ1 e1 rs1 rv1
    obtain ⟨b, rfl, hb⟩ := RV.ref_inv rv1
    have hp1 := e1.cell hp
    rw [hp1] at hb
    have eb := Option.some.inj hb
    subst eb
    obtain ⟨xs, h1, t1⟩ := rs1.lst hp1 hS
    exact .inl ⟨p, rfl, ⟨xs, SqL.of h1⟩, q H1 μ1 e1 rs1⟩
def cmpCV (g : Va → En → Sto → R En) (t : En → Sto → R Bool) (e : En → Sto → R Va) (i : Nat) (vs : List Nat) (η : En) (S : Sto) : R (List Va) := match η[i]? with
  | some (some (.ref n)) => (match S[n]? with
    | some (.lst l) => if l.length ≤ sizeLine then (compF (fun x S2 => if sameC n l S2 then turnF g t e (wipeE η vs) x S2 else .bad) l [] S).bind fun acc S3 => if sameC n l S3 then .ok acc S3 else .bad else .bad
    | _ => .bad)
  | _ => .bad
theorem cmpCV_inv {g : Va → En → Sto → R En} {t : En → Sto → R Bool} {e : En → Sto → R Va} {i : Nat} {η : En} {S : Sto} {Q : List Va → Sto → Prop} (h : (cmpCV g t e i vs η S).se ff.E Q) : ∃ n l, η[i]? = some (some (.ref n)) ∧ S[n]? = some (.lst l) ∧ l.length ≤ sizeLine ∧ ((compF (fun x S2 => if sameC n l S2 then turnF g t e (wipeE η vs) x S2 else .bad) l [] S).bind fun acc S3 => if sameC n l S3 then .ok acc S3 else .bad).se ff.E Q := by
  unfold cmpCV at h
  split at h
  · rename_i n hn
    split at h
    · rename_i l hl
      split at h
      · rename_i hz
        exact ⟨n, l, hn, hl, hz, h⟩
      · exact h.elim
    · exact h.elim
  · exact h.elim
theorem tLc_ofC {K : PySem.W.Frag} {i0 : Nat} {g : Va → En → Sto → R En} {t : En → Sto → R Bool} {e : En → Sto → R Va} {σ : L2.St} {H : Hp} {Q : VK}
    (h : tF K ff (cmpCV g t e i0 vs) σ H Q) : tLc (tIC K ff i0) (tG K ff vs g) (tT K ff t) (tE K ff e) vs σ H Q := by
  obtain ⟨μ, S, η, rs, re, q⟩ := h
  obtain ⟨n, xs, hη, hS, hzz, q⟩ := cmpCV_inv q
  have hn : n < μ.ad.length := by
    rw [rs.len]
    exact (List.getElem?_eq_some_iff.mp hS).1
  refine ⟨μ, S, η, n, μ.ad[n], xs, rs, re, hη, hS, List.getElem?_eq_getElem hn, fun H1 μ1 e1 rs1 D hD => ?_⟩
  have hp : μ.ad[n]? = some μ.ad[n] := List.getElem?_eq_getElem hn
  generalize μ.ad[n] = p at hp
  have hD0 : H D = none := e1.free hD
  have hf : ff.H0 D = none := rs.his.free hD0
  refine ⟨fun i m H' => m = xs.length - i ∧ i ≤ xs.length ∧ ∃ (μ' : Vw) (S' : Sto) (acc : List Va) (ws : List V), Ex H1 μ1 H' μ' ∧ RS K ff H' μ' S' ∧ H' D = some (.lst ws) ∧ RVL K ff.f H' μ' acc ws ∧ ¬ μ'.fz D ∧ D ∉ μ'.ad ∧ acc.length ≤ i ∧
      ((compF (fun x S2 => if sameC n xs S2 then turnF g t e (wipeE η vs) x S2 else .bad) (xs.drop i) acc S').bind fun acc S3 => if sameC n xs S3 then .ok acc S3 else .bad).se ff.E (pF K ff H μ Q), ⟨xs.length, by simp, Nat.zero_le _, ?_⟩, ?_⟩
  · have n1 := rs1.unk hD
    have m1 := rs1.fresh hD
    exact ⟨μ1, S, [], [], (Ex.refl _ _).hid (fun b nb => Off.upd b nb) hD, rs1.hid Off.upd n1 m1 hf, upd_same, .nil, n1, m1, Nat.le_refl _, q⟩
  · rintro i m H' ⟨rfl, hi, μ', S', acc, ws, e2, rs2, h2, rl2, n2, m2, hacc, q2⟩
    have hp2 : μ'.ad[n]? = some p := e2.cell (e1.cell hp)
    by_cases hlt : i < xs.length
    · right
      have hd : xs.drop i = xs[i] :: xs.drop (i + 1) := List.drop_eq_getElem_cons hlt
      rw [hd, compF, R.bind_assoc] at q2
      have q3 := R.se_bind q2
      by_cases hs : sameC n xs S' = true
      · rw [if_pos hs] at q3
        obtain ⟨us, h4, t4⟩ := rs2.lst hp2 (sameC_ok hs)
        obtain ⟨w, hw, rw4⟩ := t4.get (List.getElem?_eq_getElem hlt)
        refine ⟨⟨us, w, SqL.of h4, hw⟩, fun H'' => ∃ (μ' : Vw) (S' : Sto) (acc : List Va) (ws : List V), Ex H1 μ1 H'' μ' ∧ RS K ff H'' μ' S' ∧ H'' D = some (.lst ws) ∧ RVL K ff.f H'' μ' acc ws ∧ ¬ μ'.fz D ∧ D ∉ μ'.ad ∧ acc.length ≤ i + 1 ∧ ((compF (fun x S2 => if sameC n xs S2 then turnF g t e (wipeE η vs) x S2 else .bad) (xs.drop (i + 1)) acc S').bind fun acc S3 => if sameC n xs S3 then .ok acc S3 else .bad).se ff.E (pF K ff H μ Q),
          fun H'' z => ⟨xs.length - (i + 1), by omega, rfl, hlt, z⟩, fun x H3 y => ?_⟩
        obtain ⟨rfl, y⟩ := y
        have y := y us (SqL.of h4)
        rw [hw] at y
        cases y
        unfold turnF at q3
        have q3 := R.se_bind q3
        have re3 : RE K ff.f H3 μ' (wipeE η vs) (wipe σ vs) := ((re.wipe vs).mono e1).mono e2
        refine ⟨μ', S', wipeE η vs, xs[i], rs2, re3, rw4, R.se_mono q3 fun η4 S4 q4 σ4 H4 μ4 w4 e4 rs4 re4 => ⟨?_, ?_⟩⟩
        · rw [w4, tLc_of.wipe_wipe]
        · obtain ⟨h4', n4, m4⟩ := e4.hidden h2 n2 m2
          refine ⟨μ4, S4, η4, rs4, re4, R.se_mono (R.se_bind q4) fun b5 S5 q5 H5 μ5 e5 rs5 => ?_⟩
          obtain ⟨h5, n5, m5⟩ := e5.hidden h4' n4 m4
          have e15 : Ex H1 μ1 H5 μ5 := (e2.trans e4).trans e5
          cases b5 with
          | false =>
            rw [if_neg Bool.false_ne_true]
            exact ⟨μ5, S5, acc, ws, e15, rs5, h5, rl2.mono (e4.trans e5), n5, m5, by omega, q5⟩
          | true =>
            rw [if_pos rfl]
            refine ⟨μ5, S5, η4, rs5, re4.mono e5, R.se_mono (R.se_bind q5) fun y6 S6 q6 w6 H6 μ6 e6 rs6 rv6 => ?_⟩
            obtain ⟨h6, n6, m6⟩ := e6.hidden h5 n5 m5
            have rl6 := rl2.mono ((e4.trans e5).trans e6)
            have hz : i < sizeLine := by omega
            refine ⟨ws, h6, by rw [← rl6.length]; omega, μ6, S6, acc ++ [y6], ws ++ [w6], ?_, rs6.hid Off.upd n6 m6 hf, upd_same, RVL.hid Off.upd n6 (rl6.append (.cons rv6 .nil)), n6, m6, by rw [List.length_append, List.length_singleton]; omega, q6⟩
            exact (e15.trans e6).hid (fun b nb => Off.upd b nb) hD
      · rw [if_neg hs] at q3
        exact q3.elim
    · left
      have e0 : i = xs.length := by omega
      subst e0
      rw [List.drop_length, compF, R.bind_ok] at q2
      by_cases hs : sameC n xs S' = true
      · rw [if_pos hs] at q2
        obtain ⟨us, h4, t4⟩ := rs2.lst hp2 (sameC_ok hs)
        exact ⟨⟨us, SqL.of h4, by rw [← t4.length]; exact Nat.le_refl _⟩, pF.end_ q2 (e1.trans e2) rs2 hD0 h2 n2 m2 rl2 (Nat.le_trans hacc hzz) hf⟩
      · rw [if_neg hs] at q2
        exact q2.elim
theorem df_compC {elt tg iter : Expr} {ifs : List Expr} {scope : Scope} {own : List (Str × Nat)} {i : Nat} {g : Va → En → Sto → R En} {t : En → Sto → R Bool} {e : En → Sto → R Va} (hc : X.calm = true) (hN : X.N.Nodup) (hi : PI X tg iter (tIC X.K ff i)) (ok : BlkOk X.N X.env.scope scope own)
    (hg : ∀ st H C cl fp, PG (blkOf X scope st H C cl fp) tg (tG X.K ff (own.map (·.2)) g)) (ht : ∀ st H C cl fp, PTs (blkOf X scope st H C cl fp) ifs (tT X.K ff t)) (he : ∀ st H C cl fp, PE (blkOf X scope st H C cl fp) elt (tE X.K ff e)) (hs : ∀ x, foldedSetIterable iter X.env x = pure x) :
    PE X (.ListComp elt [⟨tg, iter, ifs, 0⟩] scope pos) (tF X.K ff (cmpCV g t e i (own.map (·.2)))) :=
  PE.weak (pe_lc hc hN hi ok hg ht he hs) fun σ H Q h => tLc_ofC h
/-! the same with the places of the items -/
theorem enumV_len : ∀ (i : Nat) (l : List Va), (enumV i l).length = l.length
  | _, [] => rfl
  | i, x :: r => by rw [enumV, List.length_cons, List.length_cons, enumV_len]
theorem enumV_get : ∀ (i j : Nat) (l : List Va) (x : Va), l[j]? = some x → (enumV i l)[j]? = some (.tup [.d (.int ((i + j : Nat) : Int)), x])
  | _, _, [], _, h => by simp at h
  | i, 0, y :: r, x, h => by
    simp at h
    subst h
    rfl
  | i, j + 1, y :: r, x, h => by
    rw [enumV, List.getElem?_cons_succ, enumV_get (i + 1) j r x (by simpa using h)]
    rw [show i + 1 + j = i + (j + 1) by omega]
def tIE (K : PySem.W.Frag) (ff : Fx) (i : Nat) : TI := fun σ H R => ∃ μ S η n p l, RS K ff H μ S ∧ RE K ff.f H μ η σ ∧ η[i]? = some (some (.ref n)) ∧ S[n]? = some (.lst l) ∧ μ.ad[n]? = some p ∧ ∀ H1 μ1, Ex H μ H1 μ1 → RS K ff H1 μ1 S → R (Ite K p) H1
theorem di_celE {tg : Expr} {i : Nat} {p : Pos} {x : Str} (hx : x = "enumerate") (ht : isTpB tg = true) (hg : Gl X x) (hm : X.mg x = none) (ha : PE X a (tE X.K ff fun η S => match η[i]? with | some (some v) => .ok v S | _ => .bad)) (hs : ∀ x p, a ≠ .Starred x p) : PI X tg (.Call (.Name x p) [a] [] pos) (tIE X.K ff i) := by
  subst hx
  cases tg <;> first | (exact absurd ht Bool.false_ne_true) | skip
  refine PI.weak (pi_enumT hg hm (dl_cons ha dl_nil hs) (star_cons _ _ _ hs)) fun σ H Q h => ?_
  obtain ⟨μ, S, η, n, p, l, rs, re, hi, hS, hp, q⟩ := h
  refine ⟨μ, S, η, rs, re, ?_⟩
  dsimp only
  rw [hi]
  intro ws H1 μ1 e1 rs1 rv1
  cases rv1 with
  | cons rx rr =>
    cases rr
    obtain ⟨b, rfl, hb⟩ := RV.ref_inv rx
    have hp1 := e1.cell hp
    rw [hp1] at hb
    have eb := Option.some.inj hb
    subst eb
    obtain ⟨xs, h1, t1⟩ := rs1.lst hp1 hS
    exact ⟨p, xs, rfl, .inl ⟨SqL.of h1, q H1 μ1 e1 rs1⟩⟩
def cmpEV (g : Va → En → Sto → R En) (t : En → Sto → R Bool) (e : En → Sto → R Va) (i : Nat) (vs : List Nat) (η : En) (S : Sto) : R (List Va) := match η[i]? with
  | some (some (.ref n)) => (match S[n]? with
    | some (.lst l) => if l.length ≤ sizeLine then (compF (fun x S2 => if sameC n l S2 then turnF g t e (wipeE η vs) x S2 else .bad) (enumV 0 l) [] S).bind fun acc S3 => if sameC n l S3 then .ok acc S3 else .bad else .bad
    | _ => .bad)
  | _ => .bad
theorem cmpEV_inv {g : Va → En → Sto → R En} {t : En → Sto → R Bool} {e : En → Sto → R Va} {i : Nat} {η : En} {S : Sto} {Q : List Va → Sto → Prop} (h : (cmpEV g t e i vs η S).se ff.E Q) : ∃ n l, η[i]? = some (some (.ref n)) ∧ S[n]? = some (.lst l) ∧ l.length ≤ sizeLine ∧ ((compF (fun x S2 => if sameC n l S2 then turnF g t e (wipeE η vs) x S2 else .bad) (enumV 0 l) [] S).bind fun acc S3 => if sameC n l S3 then .ok acc S3 else .bad).se ff.E Q := by
  unfold cmpEV at h
  split at h
  · rename_i n hn
    split at h
    · rename_i l hl
      split at h
      · rename_i hz
        exact ⟨n, l, hn, hl, hz, h⟩
      · exact h.elim
    · exact h.elim
  · exact h.elim
theorem tLc_ofE {K : PySem.W.Frag} {i0 : Nat} {g : Va → En → Sto → R En} {t : En → Sto → R Bool} {e : En → Sto → R Va} {σ : L2.St} {H : Hp} {Q : VK}
    (h : tF K ff (cmpEV g t e i0 vs) σ H Q) : tLc (tIE K ff i0) (tG K ff vs g) (tT K ff t) (tE K ff e) vs σ H Q := by
  obtain ⟨μ, S, η, rs, re, q⟩ := h
  obtain ⟨n, xs, hη, hS, hzz, q⟩ := cmpEV_inv q
  have hn : n < μ.ad.length := by
    rw [rs.len]
    exact (List.getElem?_eq_some_iff.mp hS).1
  refine ⟨μ, S, η, n, μ.ad[n], xs, rs, re, hη, hS, List.getElem?_eq_getElem hn, fun H1 μ1 e1 rs1 D hD => ?_⟩
  have hp : μ.ad[n]? = some μ.ad[n] := List.getElem?_eq_getElem hn
  generalize μ.ad[n] = p at hp
  have hD0 : H D = none := e1.free hD
  have hf : ff.H0 D = none := rs.his.free hD0
  have hxl := enumV_len 0 xs
  refine ⟨fun i m H' => m = xs.length - i ∧ i ≤ xs.length ∧ ∃ (μ' : Vw) (S' : Sto) (acc : List Va) (ws : List V), Ex H1 μ1 H' μ' ∧ RS K ff H' μ' S' ∧ H' D = some (.lst ws) ∧ RVL K ff.f H' μ' acc ws ∧ ¬ μ'.fz D ∧ D ∉ μ'.ad ∧ acc.length ≤ i ∧
      ((compF (fun x S2 => if sameC n xs S2 then turnF g t e (wipeE η vs) x S2 else .bad) ((enumV 0 xs).drop i) acc S').bind fun acc S3 => if sameC n xs S3 then .ok acc S3 else .bad).se ff.E (pF K ff H μ Q), ⟨xs.length, by simp, Nat.zero_le _, ?_⟩, ?_⟩
  · have n1 := rs1.unk hD
    have m1 := rs1.fresh hD
    exact ⟨μ1, S, [], [], (Ex.refl _ _).hid (fun b nb => Off.upd b nb) hD, rs1.hid Off.upd n1 m1 hf, upd_same, .nil, n1, m1, Nat.le_refl _, q⟩
  · rintro i m H' ⟨rfl, hi, μ', S', acc, ws, e2, rs2, h2, rl2, n2, m2, hacc, q2⟩
    have hp2 : μ'.ad[n]? = some p := e2.cell (e1.cell hp)
    by_cases hlt : i < xs.length
    · right
      have hlt' : i < (enumV 0 xs).length := by rw [hxl]; exact hlt
      have hd : (enumV 0 xs).drop i = .tup [.d (.int (i : Nat)), xs[i]] :: (enumV 0 xs).drop (i + 1) := by
        have g := enumV_get 0 i xs xs[i] (List.getElem?_eq_getElem hlt)
        rw [Nat.zero_add] at g
        rw [List.drop_eq_getElem_cons hlt', (List.getElem?_eq_some_iff.mp g).2]
      rw [hd, compF, R.bind_assoc] at q2
      have q3 := R.se_bind q2
      by_cases hs : sameC n xs S' = true
      · rw [if_pos hs] at q3
        obtain ⟨us, h4, t4⟩ := rs2.lst hp2 (sameC_ok hs)
        obtain ⟨w, hw, rw4⟩ := t4.get (List.getElem?_eq_getElem hlt)
        refine ⟨⟨us, w, SqL.of h4, hw⟩, fun H'' => ∃ (μ' : Vw) (S' : Sto) (acc : List Va) (ws : List V), Ex H1 μ1 H'' μ' ∧ RS K ff H'' μ' S' ∧ H'' D = some (.lst ws) ∧ RVL K ff.f H'' μ' acc ws ∧ ¬ μ'.fz D ∧ D ∉ μ'.ad ∧ acc.length ≤ i + 1 ∧ ((compF (fun x S2 => if sameC n xs S2 then turnF g t e (wipeE η vs) x S2 else .bad) ((enumV 0 xs).drop (i + 1)) acc S').bind fun acc S3 => if sameC n xs S3 then .ok acc S3 else .bad).se ff.E (pF K ff H μ Q),
          fun H'' z => ⟨xs.length - (i + 1), by omega, rfl, hlt, z⟩, fun x H3 y => ?_⟩
        obtain ⟨TT, z, rfl, hT, rfl, y⟩ := y
        have y := y us (SqL.of h4)
        rw [hw] at y
        cases y
        have e3 : Ex H' μ' (upd H' TT (.tup [.int (i : Nat), w])) (μ'.add TT) := Ex.new1 hT
        have ta : Nb.TA K (upd H' TT (.tup [.int (i : Nat), w])) (μ'.add TT) TT [.int (i : Nat), w] := .inl ⟨.inl upd_same, rs2.fresh hT, .inr rfl⟩
        have rv3 : RV K ff.f (upd H' TT (.tup [.int (i : Nat), w])) (μ'.add TT) (.tup [.d (.int (i : Nat)), xs[i]]) (.ref TT) := .tup ta (.cons (.d (.int _)) (.cons (rw4.mono e3) .nil)) (by show 2 ≤ sizeLine; decide)
        obtain ⟨h3, n3, m3⟩ := e3.hidden h2 n2 m2
        unfold turnF at q3
        have q3 := R.se_bind q3
        have re3 : RE K ff.f (upd H' TT (.tup [.int (i : Nat), w])) (μ'.add TT) (wipeE η vs) (wipe σ vs) := ((re.wipe vs).mono e1).mono (e2.trans e3)
        refine ⟨μ'.add TT, S', wipeE η vs, _, rs2.new1 hT, re3, rv3, R.se_mono q3 fun η4 S4 q4 σ4 H4 μ4 w4 e4 rs4 re4 => ⟨?_, ?_⟩⟩
        · rw [w4, tLc_of.wipe_wipe]
        · obtain ⟨h4', n4, m4⟩ := e4.hidden h3 n3 m3
          refine ⟨μ4, S4, η4, rs4, re4, R.se_mono (R.se_bind q4) fun b5 S5 q5 H5 μ5 e5 rs5 => ?_⟩
          obtain ⟨h5, n5, m5⟩ := e5.hidden h4' n4 m4
          have e15 : Ex H1 μ1 H5 μ5 := ((e2.trans e3).trans e4).trans e5
          cases b5 with
          | false =>
            rw [if_neg Bool.false_ne_true]
            exact ⟨μ5, S5, acc, ws, e15, rs5, h5, rl2.mono ((e3.trans e4).trans e5), n5, m5, by omega, q5⟩
          | true =>
            rw [if_pos rfl]
            refine ⟨μ5, S5, η4, rs5, re4.mono e5, R.se_mono (R.se_bind q5) fun y6 S6 q6 w6 H6 μ6 e6 rs6 rv6 => ?_⟩
            obtain ⟨h6, n6, m6⟩ := e6.hidden h5 n5 m5
            have rl6 := rl2.mono (((e3.trans e4).trans e5).trans e6)
            have hz : i < sizeLine := by omega
            refine ⟨ws, h6, by rw [← rl6.length]; omega, μ6, S6, acc ++ [y6], ws ++ [w6], ?_, rs6.hid Off.upd n6 m6 hf, upd_same, RVL.hid Off.upd n6 (rl6.append (.cons rv6 .nil)), n6, m6, by rw [List.length_append, List.length_singleton]; omega, q6⟩
            exact (e15.trans e6).hid (fun b nb => Off.upd b nb) hD
      · rw [if_neg hs] at q3
        exact q3.elim
    · left
      have e0 : i = xs.length := by omega
      subst e0
      rw [← hxl, List.drop_length, compF, R.bind_ok] at q2
      by_cases hs : sameC n xs S' = true
      · rw [if_pos hs] at q2
        obtain ⟨us, h4, t4⟩ := rs2.lst hp2 (sameC_ok hs)
        exact ⟨⟨us, SqL.of h4, by rw [← t4.length]; exact Nat.le_refl _⟩, pF.end_ q2 (e1.trans e2) rs2 hD0 h2 n2 m2 rl2 (Nat.le_trans hacc hzz) hf⟩
      · rw [if_neg hs] at q2
        exact q2.elim
theorem df_compE {elt tg iter : Expr} {ifs : List Expr} {scope : Scope} {own : List (Str × Nat)} {i : Nat} {g : Va → En → Sto → R En} {t : En → Sto → R Bool} {e : En → Sto → R Va} (hc : X.calm = true) (hN : X.N.Nodup) (hi : PI X tg iter (tIE X.K ff i)) (ok : BlkOk X.N X.env.scope scope own)
    (hg : ∀ st H C cl fp, PG (blkOf X scope st H C cl fp) tg (tG X.K ff (own.map (·.2)) g)) (ht : ∀ st H C cl fp, PTs (blkOf X scope st H C cl fp) ifs (tT X.K ff t)) (he : ∀ st H C cl fp, PE (blkOf X scope st H C cl fp) elt (tE X.K ff e)) (hs : ∀ x, foldedSetIterable iter X.env x = pure x) :
    PE X (.ListComp elt [⟨tg, iter, ifs, 0⟩] scope pos) (tF X.K ff (cmpEV g t e i (own.map (·.2)))) :=
  PE.weak (pe_lc hc hN hi ok hg ht he hs) fun σ H Q h => tLc_ofE h
end
end Nb

namespace Nb
open PySem L2 PySem.Spec PyProof.Rows
/-! ### sorted(set(list of whole numbers)) -/
section
variable {P : Program} {w : World} {A : Around} {E : Value → Shared → Prop} {s : Shared}
set_option maxRecDepth 100000 in
set_option maxHeartbeats 3200000 in
theorem set_lst {l : Addr} {its : Array Value} (ks : List Int) {Q : Value → Shared → Prop} (hN : A.handled = none) (hL : s.heap.IsList l its) (hI : IntsAre its.toList ks) (hB : ks.length + 1 < scanBound)
    (k : ∀ (h' : Heap) (tk c : Nat), SetR w h' s.heap.objs.size (fun j => decide (j ∈ ks)) c → c ≤ ks.length → (∀ b o, s.heap.get? b = some o → h'.get? b = some o) → Q (.ref s.heap.objs.size) { s with heap := h', toks := tk }) :
    wpAny (model P w) A (call (.type "set") [.ref l]) Q E s := by
  have hz : its.size = ks.length := by have q := IntsAre.length hI; rw [Array.length_toList] at q; exact q
  obtain ⟨mc, mt, hm⟩ := F.called_set.mro
  have hmk := F.called_set.made; have hsb := F.called_set.sub
  refine wpAny_call (codeAny_of_tree ?_); show wpAny _ _ (callAny (.type "set") _) _ _ _
  refine wpAny_pure ⟨Code.quiet_builtin _ (by decide +kernel), codeAny_builtin F.entry_type_call ?_⟩; rw [Around.under_plain (weight_type_call_type "set" [.ref l] []) rfl]
  have n1 := F.called_set.notType; have n2 := F.called_set.canCreate; have n3 := F.typeCall_set_1 (.ref l)
  repeat (any_goals (first | assumption | wp_step)); skip
  refine codeAny_mono (code_set_led1 (.ref l) (E := E) (Q₁ := fun ob u => ob = .ref s.heap.objs.size ∧ u = { s with heap := s.heap.push { cls := .type "set", dict := none, data := .set #[] 0 (.fresh 0 0 (!w.params.followText "set-order")) } }) ⟨rfl, rfl⟩) fun r u hr => ?_
  cases r with
  | error e => exact hr
  | ok fl =>
    cases fl with
    | ret ob =>
      obtain ⟨rfl, rfl⟩ := hr
      have kS : (s.heap.push { cls := .type "set", dict := none, data := .set #[] 0 (.fresh 0 0 (!w.params.followText "set-order")) }).get? s.heap.objs.size = some { cls := .type "set", dict := none, data := .set #[] 0 (.fresh 0 0 (!w.params.followText "set-order")) } := Heap.get?_push_size _ rfl
      have kT : Shared.TypeIs { s with heap := s.heap.push { cls := .type "set", dict := none, data := .set #[] 0 (.fresh 0 0 (!w.params.followText "set-order")) } } (.ref s.heap.objs.size) "set" := ⟨_, kS, rfl⟩
      have m1 := F.called_set.init.lookup; have m2 := F.called_set.init.bind (.ref s.heap.objs.size)
      repeat (any_goals (first | assumption | wp_step)); skip
      refine codeAny_mono (codeAny_call_builtin (R := wants (fun r v => r = .none ∧ ∃ h' tk c, v = { s with heap := h', toks := tk } ∧ SetR w h' s.heap.objs.size (fun j => decide (j ∈ ks)) c ∧ c ≤ ks.length ∧
          (∀ b o, s.heap.get? b = some o → h'.get? b = some o)) E) F.called_set.init.plain F.entry_set_init (check_set_init_1 kT ?_)) fun r2 v hv => ?_
      · obtain ⟨ob, h0, hc, nl, hd⟩ := hL
        obtain ⟨oc, od, oa, os⟩ := ob
        simp only at hc hd
        subst hc hd
        have h0' : (s.heap.push { cls := .type "set", dict := none, data := .set #[] 0 (.fresh 0 0 (!w.params.followText "set-order")) }).get? l = some { cls := .type "list", dict := od, data := .seq its nl, slots := os } := Heap.get?_push_of_some _ h0
        have w1 := F.sub_list_set; have w2 := F.sub_list_frozenset
        have w3 : (Value.type "list" == Value.type "dict") = false := by decide
        have k1 : (s.heap.push { cls := .type "set", dict := none, data := .set #[] 0 (.fresh 0 0 (!w.params.followText "set-order")) }).IsList l its := ⟨_, h0', rfl, nl, rfl⟩
        unfold Builtin.«set.__init__» noKeywords Builtin.Frozenset.updateFrom; generalize hPI : pyIter = PI
        wp_walk
        subst hPI
        refine wpAny_pyIter_list k1 ?_; refine wpAny_bind (wpAny_runValue ?_)
        have hlt : l < s.heap.objs.size := Heap.lt_size h0
        have hN3 : A.in1.in1.in1.handled = none := by simp [hN]
        have d1 : l ≠ (s.heap.push { cls := .type "set", dict := none, data := .set #[] 0 (.fresh 0 0 (!w.params.followText "set-order")) }).objs.size := by rw [Heap.size_push]; exact Nat.ne_of_lt (Nat.lt_succ_of_lt hlt)
        have d2 : s.heap.objs.size ∉ [(s.heap.push { cls := .type "set", dict := none, data := .set #[] 0 (.fresh 0 0 (!w.params.followText "set-order")) }).objs.size, l] := by
          rw [Heap.size_push]; simp only [List.mem_cons, List.not_mem_nil, or_false, not_or]; exact ⟨Nat.ne_of_lt (Nat.lt_succ_self _), Nat.ne_of_gt hlt⟩
        have vl : ∀ (i : Nat) (v : Value), its[i]? = some v → ∃ k t, ks[i]? = some k ∧ v = .int k t := fun i v hv => by
          have hi : i < ks.length := by rw [← hz]; exact (Array.getElem?_eq_some_iff.mp hv).1
          obtain ⟨t, e⟩ := PyProof.Rows.IntsAre.int_at hI i v (by rw [Array.getElem?_toList]; exact hv)
          exact ⟨ks[i], t, List.getElem?_eq_getElem hi, by rw [e, List.getD_eq_getElem?_getD, List.getElem?_eq_getElem hi] <;> rfl⟩
        refine set_update_ints ((Walks.list hN3 _ l d1 its).toS) s.heap.objs.size d2 ks hz hB vl (its.size - 0) 0 _ (by omega) (Nat.zero_le _) ⟨⟨_, Heap.get?_push_size _ rfl, rfl, rfl⟩, (k1.push _)⟩ ?c0 ?cR
        case c0 => exact ⟨0, Nat.le_refl 0, setR_new_at (Heap.get?_push_of_some _ kS)⟩
        case cR =>
          intro u' c' hm' hc' hS'
          obtain ⟨h', g2, d', tk', os'⟩ := u'
          have eg : g2 = s.gens := hm'.gens
          have ed : d' = s.drawn := hm'.drawn
          have eo : os' = s.os := hm'.os
          subst eg ed eo
          show wpAny _ _ _ _ _ _; refine wpAny_pure ?_
          show wpAny _ _ (ret Value.none) _ _ _; rw [hz] at hc'
          refine wpAny_pure ⟨rfl, h', tk', c', rfl, hS', hc', fun b o e => ?_⟩; have b0 : b < s.heap.objs.size := Heap.lt_size e
          exact hm'.heap b o (by
            rw [Heap.size_push]; simp only [List.mem_cons, List.not_mem_nil, or_false, not_or]; exact ⟨Nat.ne_of_lt b0, Nat.ne_of_lt (Nat.lt_succ_of_lt b0)⟩) (Heap.get?_push_of_some _ (Heap.get?_push_of_some _ e))
      · cases r2 with
        | error e => exact hv
        | ok f2 =>
          cases f2 with
          | ret r =>
            obtain ⟨rfl, h', tk, c', rfl, hS', hc', hk'⟩ := hv
            repeat (any_goals (first | assumption | wp_step))
            exact k _ _ _ hS' hc' hk'
          | _ => exact hv.elim
    | _ => exact hr.elim
end
end Nb

namespace Nb
open PySem L2 PySem.Spec PyProof.Rows
theorem insU_mem {x k : Int} : ∀ {l : List Int}, k ∈ insU x l ↔ k = x ∨ k ∈ l
  | [] => by simp [insU]
  | y :: r => by
    rw [insU]
    split
    · simp
    · split
      · rename_i h
        subst h
        simp
      · rw [List.mem_cons, insU_mem, List.mem_cons]
        constructor
        · rintro (h | h | h)
          · exact .inr (.inl h)
          · exact .inl h
          · exact .inr (.inr h)
        · rintro (h | h | h)
          · exact .inr (.inl h)
          · exact .inl h
          · exact .inr (.inr h)
theorem insU_lt {x : Int} : ∀ {l : List Int}, l.Pairwise (· < ·) → (insU x l).Pairwise (· < ·)
  | [], _ => by simp [insU]
  | y :: r, h => by
    obtain ⟨h1, h2⟩ := List.pairwise_cons.mp h
    rw [insU]
    split
    · rename_i z
      refine List.pairwise_cons.mpr ⟨fun k hk => ?_, h⟩
      rcases List.mem_cons.mp hk with rfl | hk
      · exact z
      · have := h1 k hk; omega
    · split
      · exact h
      · rename_i z1 z2
        refine List.pairwise_cons.mpr ⟨fun k hk => ?_, insU_lt h2⟩
        rcases insU_mem.mp hk with rfl | hk
        · omega
        · exact h1 k hk
theorem setI_mem {k : Int} : ∀ {l : List Int}, k ∈ setI l ↔ k ∈ l
  | [] => Iff.rfl
  | x :: r => by
    show k ∈ insU x (setI r) ↔ _
    rw [insU_mem, setI_mem, List.mem_cons]
theorem setI_lt : ∀ l : List Int, (setI l).Pairwise (· < ·)
  | [] => List.Pairwise.nil
  | x :: r => insU_lt (setI_lt r)
theorem lt_eq : ∀ {a b : List Int}, a.Pairwise (· < ·) → b.Pairwise (· < ·) → (∀ k, k ∈ a ↔ k ∈ b) → a = b
  | [], [], _, _, _ => rfl
  | [], y :: b, _, _, h => absurd ((h y).mpr (List.mem_cons_self ..)) List.not_mem_nil
  | x :: a, [], _, _, h => absurd ((h x).mp (List.mem_cons_self ..)) List.not_mem_nil
  | x :: a, y :: b, ha, hb, h => by
    obtain ⟨a1, a2⟩ := List.pairwise_cons.mp ha
    obtain ⟨b1, b2⟩ := List.pairwise_cons.mp hb
    have e : x = y := by
      rcases List.mem_cons.mp ((h x).mp (List.mem_cons_self ..)) with e | e
      · exact e
      · rcases List.mem_cons.mp ((h y).mpr (List.mem_cons_self ..)) with z | z
        · exact z.symm
        · have := b1 x e
          have := a1 y z
          omega
    subst e
    rw [lt_eq a2 b2 fun k => ?_]
    constructor
    · intro hk
      rcases List.mem_cons.mp ((h k).mp (List.mem_cons_of_mem _ hk)) with e | e
      · have := a1 k hk; omega
      · exact e
    · intro hk
      rcases List.mem_cons.mp ((h k).mpr (List.mem_cons_of_mem _ hk)) with e | e
      · have := b1 k hk; omega
      · exact e
section
variable {X : Cx} {ff : Fx} {a : Expr} {fa : En → Sto → R Va} {pos : Pos}
theorem cr_setL (hc : X.calm = true) : CallR X (.type "set") (fun xs H Q => ∃ (b : Addr) (ns : List Int), xs = [.ref b] ∧ SqL X.K H b (ns.map V.int) ∧ ns.length < 64 ∧ ∀ p n, H p = none → n ≤ ns.length → Q (.ref p) (upd H p (SetO X.w p (fun j => decide (j ∈ ns)) n))) := by
  intro pins s σ H xs us Q I r h
  obtain ⟨b, ns, rfl, hs, h64, q⟩ := h
  rw [Vals.ref1 r]
  obtain ⟨its, rv, pl, hl⟩ := I.list hs
  refine set_lst ns (I.ok.hd hc) pl.isList (by simpa using ints_of_vals rv) (by unfold scanBound; omega) fun h' tk c R hcn k => ?_
  exact ⟨.ref _, _, I.laid (t' := tk) k (Nat.le_refl _) (setO_new R), rfl, q _ c (I.hok.fresh (Nat.le_refl _)) hcn⟩
theorem ints_rvl {K : PySem.W.Frag} {H : Hp} {μ : Vw} : ∀ ns : List Int, RVL K ff.f H μ (ns.map fun i => Va.d (.int i)) (ns.map V.int)
  | [] => .nil
  | i :: r => .cons (.d (.int i)) (ints_rvl r)
theorem df_srs {p p2 : Pos} {pos2 : Pos} {x y : Str} (hc : X.calm = true) (hx : x = "sorted") (hy : y = "set") (ha : PA X [a] (tL X.K ff fun η S => (fa η S).bind fun x S1 => .ok [x] S1)) (hs : ∀ x p, a ≠ .Starred x p) (hg : Gl X x) (hm : X.mg x = none) (hg2 : Gl X y) (hm2 : X.mg y = none) :
    PE X (.Call (.Name x p) [.Call (.Name y p2) [a] [] pos2] [] pos) (tF X.K ff fun η S => (fa η S).bind fun x S1 => srsV x S1) := by
  subst hx hy
  have h1 := pe_callTy (pos := pos2) (p := p2) (cr_setL hc) hg2 hm2 (by decide +kernel) ha (by decide) (by decide) (star_cons _ _ _ hs) rfl
  refine PE.weak (pe_callB (cr_sortedSet hc) hg hm (by decide +kernel) (pa_cons h1 pa_nil (star_cons _ _ _ fun _ _ => by intro z; cases z)) (by decide) (by decide) (star_cons _ _ _ fun _ _ => by intro z; cases z) rfl) fun σ H Q h => ?_
  obtain ⟨μ, S, η, rs, re, q⟩ := h
  have q : (((fa η S).bind fun x S1 => R.ok [x] S1).bind fun l S1 => match l with | [x] => srsV x S1 | _ => R.bad).se ff.E (pF X.K ff H μ Q) := by
    rw [R.bind_assoc]
    exact q
  refine tL.then rs re q fun l S1 ws H1 μ1 e1 rs1 re1 rv1 q1 => ?_
  match l, rv1, q1 with
  | [x], .cons rx .nil, q1 =>
    dsimp only at q1
    unfold srsV at q1
    split at q1
    · split at q1
      · rename_i ns hi
        split at q1
        · rename_i h64
          obtain ⟨b, xs, rfl, h, t, z⟩ := Rp.lst_inv rx
          obtain rfl := ints_rp t hi
          refine ⟨b, ns, rfl, h.rd.sq, h64, fun p n hp hn => ?_⟩
          refine ⟨p, fun j => decide (j ∈ ns), n, rfl, upd_same, by omega, fun ms p' hlt hmem hlen hp' => ?_⟩
          obtain rfl : ms = setI ns := lt_eq hlt (setI_lt ns) fun k => by rw [hmem, decide_eq_true_eq, setI_mem]
          have e2 : Ex H1 μ1 (upd H1 p (SetO X.w p (fun j => decide (j ∈ ns)) n)) (μ1.add p) := Ex.new1 hp
          refine q1 _ _ _ (e1.trans e2) (rs1.new1 hp) ?_ ?_ p' hp'
          · exact ints_rvl _
          · rw [List.length_map, hlen]
            have : sizeLine = 16777216 := rfl
            omega
        · exact q1.elim
      · exact q1.elim
    · exact q1.elim
  | [], _, q1 => exact q1.elim
  | _ :: _ :: _, _, q1 => exact q1.elim
end
end Nb

namespace Nb
open PySem L2 PySem.Spec PyProof.Rows
/-! ### a comprehension whose element may let out what a call in it lets out -/
section
variable {X : Cx} {pins : List (Addr × Obj)} {σ : L2.St} {H : Hp} {s : Shared}
/-- an untracked thing on which nothing leans is left out of the heap -/
theorem inv_drop {G : Heap} {C : Addr} (I : Inv X pins σ H s) (keep : ∀ c o, c ≠ C → s.heap.get? c = some o → G.get? c = some o) (na : H C = none) (nL : X.env.locals ≠ C) (nC : ∀ x c, X.env.cells.lookup x = some c → c ≠ C)
    (h0 : ∀ c o, X.s_0.heap.get? c = some o → c ≠ C) (hp : ∀ p ∈ X.pn ++ pins, p.1 ≠ C) : Inv X pins σ H { s with heap := G } := by
  have tr : ∀ c u, H c = some u → c ≠ C := fun c u e z => by rw [z, na] at e; cases e
  have cl : ∀ c (v : Option Value), c ≠ C → s.heap.IsCell c v → G.IsCell c v := fun c v n ⟨o, e, d⟩ => ⟨o, keep c o n e, d⟩
  refine ⟨I.ok, I.os, I.bare, ⟨fun c o e n h1 h2 => keep c o (h0 c o e) (I.base.keep c o e n h1 h2), fun c o e n h1 h2 => (I.base.slot c o e n h1 h2).imp fun sl q => keep c _ (h0 c o e) q, I.base.free,
    fun c o e h2 => (I.base.there c o e h2).imp fun o' q => keep c _ (h0 c o e) q, I.base.tups, I.base.frzs, I.base.tbls⟩, ?_, fun x c e => (I.cell x c e).imp fun v z => cl c v (nC x c e) z, I.free, I.freeC, fun p hq => ?_, fun c u e => ?_, I.len⟩
  · obtain ⟨m, ⟨o, es, ep, e, d, r⟩, hl⟩ := I.loc
    refine ⟨m, ⟨o, es, ep, keep _ o nL e, d, r⟩, fun i x v e1 e2 e3 => ?_⟩
    obtain ⟨u, r, l⟩ := hl i x v e1 e2 e3
    exact ⟨u, r, l.imp id fun ⟨k, c, ec, z⟩ => ⟨k, c, ec, cl c _ (nC x c ec) z⟩⟩
  · obtain ⟨e, z⟩ := I.pin p hq
    exact ⟨keep _ _ (hp p hq) e, z⟩
  · refine (I.hok c u e).stay (fun d o hd q => keep d o ?_ q) (fun _ q => q) fun _ _ q => q
    rcases hd with z | z
    · rw [z]; exact tr c u e
    · exact tr d _ z
/-- noted by this frame, whatever it was -/
theorem sky_note {M : Model} {A : Around} {E₁ : Value → Shared → Prop} {env cenv : Env} {outer : List Env} {B : Heap} {L a : Addr} {Z : Obj → Prop} {t : Shared} {Q : Unit → Shared → Prop} (hZ : HandSPX.Steady Z) (hfr : A.frames = some (env :: outer)) (hf : env.frame = some L) (hc : cenv.frame = env.frame)
    (x : Sky B (env :: outer) a Z L t.heap) (hQ : ∀ h', HandSPX.HeldZ B (env :: outer) a Z L h' → t.heap.UpToSlots h' → Q () { t with heap := h' }) : wpAny M A (noteFrame (.ref a) cenv) Q E₁ t := by
  have e : noteFrame (.ref a) cenv = noteFrame (.ref a) env := by unfold noteFrame PySem.frameOf; rw [hc]
  rw [e]
  rcases x with ⟨hB, hn, hl, oe, vs, he, hz, hd, h1⟩ | fl | hh
  · exact HandSPX.look_newZ hZ hfr hl hf he hB hn hd h1 hz hQ
  · exact HandSPX.looks_onZ hZ hfr hf fl hQ
  · exact HandSPX.againZ hf hh.2.2.2 (hQ t.heap hh (Heap.UpToSlots.refl _))
/-- what leaves a block: what a call in it let out -/
def XCl (X : Cx) (s3 : Shared) (H3 : Hp) (scope : Scope) (ce : Env) (fp : List Addr) (E : XK) : Value → Shared → Prop := fun u s' =>
  ∃ pins σ H s0, Inv (X.blk s3 H3 scope ce fp) pins σ H s0 ∧ CX X.prog X.w X.stack H s0 E u s'
abbrev blkX (X : Cx) (E : XK) (s3 : Shared) (H3 : Hp) (scope : Scope) (ce : Env) (fp : List Addr) : Cx := (X.blk s3 H3 scope ce fp).wish (XCl X s3 H3 scope ce fp E)
theorem blk_passes {X : Cx} {E : XK} {s3 : Shared} {H3 : Hp} {scope : Scope} {ce : Env} {fp : List Addr} : Passes (CX X.prog X.w) (blkX X E s3 H3 scope ce fp) E := fun pins σ H s0 e s' I c => ⟨pins, σ, H, s0, I.unwish, c⟩
theorem ns_slots {h h' : Heap} {C : Addr} {m : Str → Option Value} (hn : h.Ns C m) (hk : h.UpToSlots h') : h'.Ns C m := by
  obtain ⟨o, es, ep, e, d, r⟩ := hn
  obtain ⟨sl, q⟩ := hk C o e fun vs z => by rw [d] at z; cases z
  exact ⟨_, es, ep, q, d, r⟩
theorem blk_out {E : XK} {W : L2.WX} {s3 s0 s' : Shared} {H3 H0 : Hp} {scope : Scope} {ce : Env} {fp : List Addr} {σ0 : L2.St} {pins0 : List (Addr × Obj)} {u : Value} (hs : X.stack = X.env :: X.outer) (hf : X.env.frame = some X.env.locals) (hcf : ce.frame = X.env.frame) (tk : Takes X W) (hW : ∀ cls d σ H, E cls d H → W cls d σ H)
    (I3 : Inv X pins σ H3 s3) (hC : s3.heap.objs.size ≤ ce.locals) (f3 : ∀ b ∈ fp, FpOk X pins H3 b) (I : Inv (X.blk s3 H3 scope ce fp) pins0 σ0 H0 s0) (c : CX X.prog X.w X.stack H0 s0 E u s') :
    notedBy (model X.prog X.w) X.A ce (CompFails (model X.prog X.w) X.A X.xe ce) u s' := by
  have I7 : Inv X pins σ H0 s0 := I3.call' (ch := fp) I.os I.base I.hok I.bare fun b hb => ⟨(f3 b hb).2.2.2.1, (f3 b hb).2.1, (f3 b hb).2.2.2.2.1, (f3 b hb).2.2.2.2.2⟩
  have nC : H0 ce.locals = none := I.free
  have fC : FpOk X pins H0 ce.locals := I3.fpOk hC nC
  have hfr : X.A.frames = some (X.env :: X.outer) := by rw [I7.ok.frames, hs]
  have nst : ce.locals ∉ frs X.stack := fun hm => by
    obtain ⟨_, o, ho, _⟩ := I3.stack.mem hm
    exact absurd (Nat.lt_of_lt_of_le (Heap.lt_size ho) hC) (Nat.lt_irrefl _)
  -- the block's names stand
  have hN : ∃ m, s'.heap.Ns ce.locals m := by
    obtain ⟨m, ⟨o, es, ep, e, d, r⟩, _⟩ := I.loc
    obtain ⟨a, B, H', cls, dd, _, fl, _, ub, _⟩ := c
    exact ⟨m, o, es, ep, fl.1 _ _ (ub.keep _ o e nC nst), d, r⟩
  obtain ⟨m, hn⟩ := hN
  have c2 : CX X.prog X.w X.stack H0 s0 (fun cls d H => E cls d H ∧ H ce.locals = none) u s' := by
    obtain ⟨m, ⟨o, es, ep, e, _⟩, _⟩ := I.loc
    obtain ⟨a, B, H', cls, dd, z, fl, hok, ub, na, os, ag, w⟩ := c
    exact ⟨a, B, H', cls, dd, z, fl, hok, ub, na, os, ag, w, ub.free _ o e nC⟩
  obtain ⟨a, B, sI, pI, σI, HI, cls, d, rfl, II, nb, up, sky, na, os, ag, w, nI⟩ := XE.of_call (W := fun cls d σ H => W cls d σ H ∧ H ce.locals = none) I7 (fun cls d H' h => ⟨hW cls d _ H' h.1, h.2⟩) c2
  rw [hs] at sky
  unfold notedBy
  refine sky_note Zc.steady hfr hf hcf sky fun h1 hh u1 => ⟨m, ns_slots hn u1, fun h2 m2 hn2 sb => ?_⟩
  -- the ground without the block
  obtain ⟨B2, k1, k2⟩ := restrict B fun b => decide (b ≠ ce.locals)
  have bB : ∀ b o, B2.get? b = some o → b ≠ ce.locals ∧ B.get? b = some o := fun b o e => by
    by_cases z : b = ce.locals
    · rw [k2 b (by simp [z])] at e; cases e
    · exact ⟨z, by rw [← k1 b (by simp [z])]; exact e⟩
  have Bb : ∀ b, b ≠ ce.locals → B2.get? b = B.get? b := fun b z => k1 b (by simp [z])
  obtain ⟨hB, hnB, hFF, tr⟩ := hh
  have st2 : B2.StaysIn h2 := fun b o e => (sb.2 b (bB b o e).1).trans (hB b o (bB b o e).2)
  have ff2 : h2.FunFrames B2 (X.env :: X.outer) := by
    have q := Heap.FunFrames.sameBut sb hn2 hFF
    refine funFrames_none q fun L hL => ?_
    rw [Bb L fun z => nst (by rw [hs, ← z]; exact hL)]
    exact (q.mem hL).1
  have tr2 : HandSPX.TracedZ h2 B2 a (Zc cls d) (rawInt X.env.locals) := by
    obtain ⟨oe, vs, T, oT, ts, he, hz, hd, h1', hnT, hTe, hT, hdT, h3⟩ := tr
    have hns1 := ns_slots hn u1
    obtain ⟨oC, es, ep, eC, dC, _⟩ := hns1
    have ne : ∀ {b o vs}, h1.get? b = some o → o.data = .fields vs → b ≠ ce.locals := fun {b o vs} e1 e2 z => by
      subst z
      have := e1.symm.trans eC
      cases this
      rw [dC] at e2
      cases e2
    exact ⟨oe, vs, T, oT, ts, (sb.2 a (ne he hd)).trans he, hz, hd, h1', by rw [Bb T (ne hT hdT)]; exact hnT, hTe, (sb.2 T (ne hT hdT)).trans hT, hdT, h3⟩
  unfold PySem.passOn
  obtain ⟨oe, vs, T, oT, ts, he, hz, hd, h1', hnT, hTe, hT, hdT, h3⟩ := id tr2
  refine wpAny_bind (wpAny_field he hd h1' ?_)
  rw [if_neg (show ¬ ((Value.ref T == Value.none) = true) from by simp), hcf, hf]
  refine wpAny_bind (HandSPX.setFlight_anyZ (fr := some X.env.locals) st2 ff2 tr2 fun h4 j1 j2 j3 j4 => wpAny_throw ?_)
  -- the state without it, without the block
  obtain ⟨G, g1, g2⟩ := restrict sI.heap fun b => decide (b ≠ ce.locals)
  have Gb : ∀ b, b ≠ ce.locals → G.get? b = sI.heap.get? b := fun b z => g1 b (by simp [z])
  have bG : ∀ b o, G.get? b = some o → b ≠ ce.locals ∧ sI.heap.get? b = some o := fun b o e => by
    by_cases z : b = ce.locals
    · rw [g2 b (by simp [z])] at e; cases e
    · exact ⟨z, by rw [← Gb b z]; exact e⟩
  have J : Inv X [] σI HI { sI with heap := G } := inv_drop (II.pins_of fun p hp => absurd hp List.not_mem_nil) (fun c o n e => by rw [Gb c n]; exact e) nI (Ne.symm fC.2.1) fC.2.2.2.2.1
    (fun c o e z => absurd (Nat.lt_of_lt_of_le (Heap.lt_size e) (Nat.le_trans I3.sz (by rw [z]; exact hC))) (Nat.lt_irrefl _)) fun p hp => fC.2.2.2.2.2 p (by
      rcases List.mem_append.mp hp with z | z
      · exact List.mem_append_left _ z
      · cases z)
  refine tk _ _ ⟨a, B2, { sI with heap := G }, [], σI, HI, cls, d, rfl, J, fun b o e hb => ?_, fun b o e hnf => ?_, .inr (.inr ?_), na, os, ag, w⟩
  · obtain ⟨z, e2⟩ := bG b o e
    rw [Bb b z]
    exact nb b o e2 hb
  · obtain ⟨z, e2⟩ := bG b o e
    obtain ⟨s1, q1⟩ := up b o e2 hnf
    obtain ⟨s2, q2⟩ := u1 b _ q1 hnf
    obtain ⟨s4, q4⟩ := j4 b _ ((sb.2 b z).trans q2) hnf
    exact ⟨s4, q4⟩
  · rw [hs]
    refine ⟨j1, ?_, j2, j3⟩
    by_cases z : a = ce.locals
    · exact k2 a (by simp [z])
    · rw [Bb a z]; exact hnB
/-- the comprehension, its element let out as a call lets it -/
theorem lc_letting {E : XK} {W : L2.WX} {Q : VK} {elt tg iter : Expr} {ifs : List Expr} {scope : Scope} {own : List (Str × Nat)} {pos pos' : Pos} {wi : TI} {g : TG} {tt : TT} {te : TE} (hc : X.calm = true) (hN : X.N.Nodup) (hs : X.stack = X.env :: X.outer) (hf : X.env.frame = some X.env.locals) (tk : Takes X W) (hW : ∀ cls d σ H, E cls d H → W cls d σ H)
    (I : Inv X pins σ H s) (hi : PI X tg iter wi) (ok : BlkOk X.N X.env.scope scope own) (hg : ∀ (s : Shared) (H : Hp) (C : Addr) (cl : List (Str × Addr)) (fp : List Addr), PG (blkX X E s H scope (compEnvC scope cl C X.env) fp) tg g)
    (ht : ∀ (s : Shared) (H : Hp) (C : Addr) (cl : List (Str × Addr)) (fp : List Addr), PTs (blkX X E s H scope (compEnvC scope cl C X.env) fp) ifs tt) (he : ∀ (s : Shared) (H : Hp) (C : Addr) (cl : List (Str × Addr)) (fp : List Addr), PE (blkX X E s H scope (compEnvC scope cl C X.env) fp) elt te)
    (hsf : ∀ x, foldedSetIterable iter X.env x = pure x) (h : tLc wi g tt te (own.map (·.2)) σ H Q) :
    wpAny (model X.prog X.w) X.A (comprehension (.ListComp elt [⟨tg, iter, ifs, 0⟩] scope pos) scope X.env pos' (newList []) false (eval iter X.env) none) (EP X pins σ Q) X.xe s := by
  have fr : ∀ y ∈ scope.names, y.2 = .free → ∃ c, X.env.cells.lookup y.1 = some c := fun y hy e => (ok.free y hy e).elim (fun k => I.ok.has _ (.inl k)) fun k => I.ok.has _ (.inr k)
  refine comprehension_at (use := none) rfl hsf (closure_ok fr) ok.kind (fun y hy e => by rw [ok.uniq y hy, e]) (thn (hi.run pins s σ H _ I h) fun xv s1 hx => thn hx fun itv s2 h2 => ?_)
  obtain ⟨it, fp, tn, J, H2, rfl, I2, T, st2, f2, q⟩ := h2
  refine wpAny_newObj_type (newEnv_comp ?_) (by show 0 ≤ sizeLine; decide)
  generalize hD : s2.heap.objs.size = D
  have nD : H2 D = none := I2.hok.fresh (Nat.le_of_eq hD)
  obtain ⟨V, ⟨m0, w0⟩, turn⟩ := q D nD
  generalize hs3 : ({ s2 with heap := s2.heap.push { cls := .type "list", data := .seq ([] : List Value).toArray } } : Shared) = s3
  have I3 : Inv X pins σ (upd H2 D (.lst [])) s3 := by
    subst hs3
    refine I2.laid (t' := s2.toks) (fun b o e => Heap.get?_push_of_some _ e) (Nat.le_of_eq hD) ⟨Nat.zero_le _, [], 0, .nil, ?_⟩
    rw [← hD]
    exact Heap.get?_push_size _ rfl
  have e3 : s3.heap = s2.heap.push { cls := .type "list", data := .seq ([] : List Value).toArray } := by subst hs3; rfl
  have f3 : ∀ b ∈ fp, FpOk X pins (upd H2 D (.lst [])) b ∧ b < s3.heap.objs.size := fun b hb => by
    obtain ⟨o, e, _⟩ := T.obj _ _ st2 b hb
    have lt := Heap.lt_size e
    refine ⟨⟨?_, (f2 b hb).2⟩, by rw [e3, Heap.size_push]; exact Nat.lt_succ_of_lt lt⟩
    rw [upd_ne (by rw [← hD]; exact Nat.ne_of_lt lt)]
    exact (f2 b hb).1
  have st3 : tn 0 s3.heap := T.keep _ _ _ st2 fun b _ o e => by rw [e3]; exact Heap.get?_push_of_some _ e
  have I4 := block_start I3 ok hN f3
  generalize hcl : cellsFrom (s3.heap.objs.size + 1) scope.names (cloFrom X.env.cells scope.names []) = cl at I4
  have pg := hg s3 (upd H2 D (.lst [])) s3.heap.objs.size cl fp
  have pt := ht s3 (upd H2 D (.lst [])) s3.heap.objs.size cl fp
  have pe := he s3 (upd H2 D (.lst [])) s3.heap.objs.size cl fp
  show codeAny _ _ (.compStart (.ListComp elt [⟨tg, iter, ifs, 0⟩] scope pos) 0 (.ref it) (.ref D) (compEnvC scope cl s3.heap.objs.size X.env)) (compEnds (model X.prog X.w) X.A X.xe none (EP X pins σ Q) (.ref D) (compEnvC scope cl s3.heap.objs.size X.env)) { s3 with heap := pushCells (s3.heap.push { cls := .type "dict", data := .dict #[] }) scope.names }
  have nfp : ∀ b ∈ fp, (upd H2 D (.lst [])) b = none := fun b hb => (f3 b hb).1.1
  generalize hce : compEnvC scope cl s3.heap.objs.size X.env = ce at I4 pg pt pe ⊢
  have cL : ce.locals = s3.heap.objs.size := by subst hce; rfl
  have cF : ce.frame = X.env.frame := by subst hce; rfl
  generalize hH3 : upd H2 D (.lst []) = H3 at I3 I4 pg pt pe w0 nfp f3
  generalize hs4 : ({ s3 with heap := pushCells (s3.heap.push { cls := .type "dict", data := .dict #[] }) scope.names } : Shared) = s4 at I4 ⊢
  have st4 : tn 0 s4.heap := T.keep _ _ _ st3 fun b _ o e => by rw [← hs4]; exact pushCells_keeps _ _ _ _ (Heap.get?_push_of_some _ e)
  -- what a part of a turn lets out
  have fail : ∀ (u : Value) (s' : Shared), XCl X s3 H3 scope ce fp E u s' → notedBy (model X.prog X.w) X.A ce (fun e s' => compEnds (model X.prog X.w) X.A X.xe none (EP X pins σ Q) (.ref D) ce (.error e) s') u s' := fun u s' ⟨p0, σ0, H0, s0, I0, c0⟩ =>
    blk_out hs hf cF tk hW I3 (by rw [cL]; exact Nat.le_refl _) (fun b hb => (f3 b hb).1) I0 c0
  have stat : ∀ {σ' : L2.St} {H' : Hp} {s' : Shared}, Inv (blkX X E s3 H3 scope ce fp) [] σ' H' s' → (∀ b ∈ fp, H' b = none) → ∀ b ∈ fp, FpOk (blkX X E s3 H3 scope ce fp) [] H' b := fun {σ' H' s'} I' hn b hb =>
    ⟨hn b hb, (I'.ok.exf b hb).1, I'.ok.exfs b hb, .inl hb, fun x c e => (I'.ok.exf b hb).2 x c e, fun p hp => nomatch (show p ∈ ([] : List (Addr × Obj)) ++ [] from hp)⟩
  have loop : codeAny (model X.prog X.w) X.A (.compLoop (.ListComp elt [⟨tg, iter, ifs, 0⟩] scope pos) 0 (.ref it) (.ref D) ce) (compEnds (model X.prog X.w) X.A X.xe none (EP X pins σ Q) (.ref D) ce) s4 := by
    refine compLoop_any (fun n t => ∃ i H', Inv (blkX X E s3 H3 scope ce fp) [] (wipe σ (own.map (·.2))) H' t ∧ tn i t.heap ∧ (∀ b ∈ fp, H' b = none) ∧ V i n H') ?_ m0 ⟨0, H3, I4.wish _, st4, nfp, w0⟩
    rintro n t5 ⟨i, H5, I5, st5, n5, w5⟩
    rcases turn i n H5 w5 with ⟨stop, qq⟩ | ⟨go, Nx, hNx, step⟩
    · refine thnF (T.done (blkX X E s3 H3 scope ce fp) rfl rfl rfl hc i [] t5 _ H5 (fun _ _ => False) I5 (stat I5 n5) st5 stop) fun r t6 ⟨hr, I6⟩ => ?_
      subst hr
      have I6 := I6.unwish
      have I7 : Inv X pins σ H5 t6 := I3.call' (ch := fp) I6.os I6.base I6.hok I6.bare fun b hb => ⟨(f3 b hb).1.2.2.2.1, (f3 b hb).1.2.1, (f3 b hb).1.2.2.2.2.1, (f3 b hb).1.2.2.2.2.2⟩
      have nC : H5 ce.locals = none := I6.free
      obtain ⟨m, hn, _⟩ := I6.loc
      obtain ⟨z0, z1, z2, z3, z4, z5⟩ := I3.fpOk (b := ce.locals) (by rw [cL]; exact Nat.le_refl _) nC
      exact ⟨m, hn, fun h'' sb => ⟨.ref D, H5, I7.turned (t' := t6.toks) (fun b o hb e => (sb.2 b hb).trans e) z0 z1 z3 z4 z5, rfl, qq⟩⟩
    · refine thnF (T.item (blkX X E s3 H3 scope ce fp) rfl rfl rfl hc i [] t5 _ H5 (fun _ _ => False) I5 (stat I5 n5) st5 go) fun r t6 ⟨u, hr, h6⟩ => ?_
      subst hr
      refine thnF h6 fun _ t7 ⟨x, H7, I7, r7, y7, st7, n7⟩ => ?_
      have I7' := I7.pinned (stat I7 n7) (T.obj _ _ st7)
      refine wpAny_mono (pg.run _ t7 _ H7 x u _ I7' r7 (step x H7 y7)) (fun _ t8 ⟨σ8, H8, I8, hw8, q8⟩ => ?_) fail
      refine wpAny_mono (pt.run _ t8 σ8 H8 _ I8 q8) (fun b t9 ⟨H9, I9, q9⟩ => ?_) fail
      have fin : ∀ {t : Shared} {H' : Hp}, Inv (blkX X E s3 H3 scope ce fp) ([] ++ pinsAt fp t7.heap) σ8 H' t → Nx H' → ∃ m, m < n ∧ ∃ i H', Inv (blkX X E s3 H3 scope ce fp) [] (wipe σ (own.map (·.2))) H' t ∧ tn i t.heap ∧ (∀ b ∈ fp, H' b = none) ∧ V i m H' := fun {t H'} I' nx => by
        obtain ⟨m', hm, w'⟩ := hNx H' nx
        have pin' : ∀ b ∈ fp, ∀ o, t7.heap.get? b = some o → t.heap.get? b = some o ∧ H' b = none := fun b hb o e =>
          let z := I'.pin (b, o) (List.mem_append_right _ (List.mem_append_right _ (mem_pinsAt hb e)))
          ⟨z.1, z.2.1⟩
        refine ⟨m', hm, i + 1, H', (I'.unpinned (pins := [])).weak (by rw [← hw8, wipe_length]) (fun j v e => (wipe_some (by rw [hw8]; exact e)).1), T.keep _ _ _ st7 fun b hb o e => (pin' b hb o e).1, fun b hb => ?_, w'⟩
        obtain ⟨o, e, _⟩ := T.obj _ _ st7 b hb
        exact (pin' b hb o e).2
      cases b with
      | false =>
        rw [if_neg Bool.false_ne_true] at q9 ⊢
        exact fin I9 q9
      | true =>
        rw [if_pos rfl] at q9 ⊢
        refine wpAny_mono (pe.run _ t9 σ8 H9 _ I9 q9) (fun z t10 ⟨yv, H10, I10, r10, acc, hD10, hz10, nx⟩ => ?_) fail
        exact app_ok (X := blkX X E s3 H3 scope ce fp) I10 hD10 hz10 r10 fun t11 I11 => fin I11 nx
  exact codeAny_compStart_list loop (T.self X.A 0 _ _ _ st4 loop)
theorem pe_lcX {E : XK} {W : L2.WX} {elt tg iter : Expr} {ifs : List Expr} {scope : Scope} {own : List (Str × Nat)} {pos : Pos} {wi : TI} {g : TG} {tt : TT} {te : TE} (hc : X.calm = true) (hN : X.N.Nodup) (hs : X.stack = X.env :: X.outer) (hf : X.env.frame = some X.env.locals) (tk : Takes X W) (hW : ∀ cls d σ H, E cls d H → W cls d σ H)
    (hi : PI X tg iter wi) (ok : BlkOk X.N X.env.scope scope own) (hg : ∀ (s : Shared) (H : Hp) (C : Addr) (cl : List (Str × Addr)) (fp : List Addr), PG (blkX X E s H scope (compEnvC scope cl C X.env) fp) tg g)
    (ht : ∀ (s : Shared) (H : Hp) (C : Addr) (cl : List (Str × Addr)) (fp : List Addr), PTs (blkX X E s H scope (compEnvC scope cl C X.env) fp) ifs tt) (he : ∀ (s : Shared) (H : Hp) (C : Addr) (cl : List (Str × Addr)) (fp : List Addr), PE (blkX X E s H scope (compEnvC scope cl C X.env) fp) elt te)
    (hsf : ∀ x, foldedSetIterable iter X.env x = pure x) : PE X (.ListComp elt [⟨tg, iter, ifs, 0⟩] scope pos) (tLc wi g tt te (own.map (·.2))) := by
  refine ⟨fun pins s σ H Q I h => ?_⟩
  rw [eval_ListComp]
  exact lc_letting hc hN hs hf tk hW I hi ok hg ht he hsf h
end
end Nb

namespace Nb
open PySem L2 PySem.Spec PyProof.Rows
/-! ### own classes: fields, methods, new instances -/
structure ClF (X : Cx) (ff : Fx) (Φ : Nat → List Va → Sto → R Va) (cn : Str) (ci : Ci) : Prop where
  ex : ∃ C : Addr, X.mg cn = some (.ref C) ∧ ff.f (.fun_ cn 0) (.ref C) ∧ Cls X.K C ∧ (∀ f ∈ ci.fl, NoAttr X.K C f) ∧
    (∀ m j n, msL ci.ms m = some (j, n) → ∃ k f fd ps, FnG X.prog X.w X.K X.mg X.base ff.f k f fd ps (Φ j) ∧ Room k X.A ∧ ps.length = n ∧ Meth X.K C m f ∧ Binds X.K fd ps []) ∧
    (∀ j n, ci.ini = some (j, n) → ∃ k f fd ps, FnG X.prog X.w X.K X.mg X.base ff.f k f fd ps (Φ j) ∧ Room (k + 1) X.A ∧ ps.length = n ∧ Mk X.K C f ∧ Binds X.K fd ps [])
/-- a value for each parameter -/
def arrU {α : Type} : List (Nat ⊕ PyData) → List α → List α → Option (List α)
  | [], _, _ => some []
  | .inl i :: r, _ :: ds, l => match l[i]?, arrU r ds l with
    | some v, some t => some (v :: t)
    | _, _ => none
  | .inr _ :: r, d :: ds, l => (arrU r ds l).map (d :: ·)
  | _ :: _, [], _ => none
/-- the defaults, as they stand -/
inductive DfR (K : PySem.W.Frag) : List (Nat ⊕ PyData) → List V → List Value → Prop
  | nil : DfR K [] [] []
  | inl {i : Nat} {r : List (Nat ⊕ PyData)} {d : V} {ds : List V} {u : Value} {us : List Value} : DfR K r ds us → DfR K (.inl i :: r) (d :: ds) (u :: us)
  | inr {x : PyData} {r : List (Nat ⊕ PyData)} {d : V} {ds : List V} {u : Value} {us : List Value} : RelV d u → (∀ H μ, Rp K H μ x d) → DfR K r ds us → DfR K (.inr x :: r) (d :: ds) (u :: us)
structure KwF (X : Cx) (ff : Fx) (Φ : Nat → List Va → Sto → R Va) (q : Kw) : Prop where
  ex : ∃ k f fd ps dv du, FnG X.prog X.w X.K X.mg X.base ff.f k f fd ps (Φ q.f) ∧ Room k X.A ∧ ps.length = q.ar.length ∧ X.mg q.nm = some (.ref f) ∧ PySem.W.keepIn X.K (.ref f) = true ∧ DfR X.K q.ar dv du ∧
    ∀ (s : Shared) (us ws l : List Value), X.K.In s.heap → us.length = q.n → ws.length = q.ks.length → arrU q.ar du (us ++ ws) = some l → BindsTo s fd ⟨us, q.ks.zip ws⟩ (ps.zip l)
section
variable {K : PySem.W.Frag} {ff : Gx → V → Prop} {H : Hp} {μ : Vw}
theorem ROV.fld {f : Str} {v : Va} : ∀ {fs : List (Str × Va)} {vs : List (Str × V)}, ROV K ff H μ fs vs → fldA fs f = some v → ∃ w, vs.lookup f = some w ∧ RV K ff H μ v w
  | _, _, .nil, h => by cases h
  | (g, x) :: fs, (g', y) :: vs, .cons r t, h => by
    have e : g = g' := r.1
    subst e
    unfold fldA at h
    rw [List.lookup_cons]
    by_cases hg : g = f
    · rw [if_pos hg] at h
      cases h
      rw [hg, beq_self_eq_true]
      exact ⟨y, rfl, r.2⟩
    · rw [if_neg hg] at h
      rw [show (f == g) = false from beq_eq_false_iff_ne.mpr (Ne.symm hg)]
      exact ROV.fld t h
theorem ROV.nofld {f : Str} : ∀ {fs : List (Str × Va)} {vs : List (Str × V)}, ROV K ff H μ fs vs → fldA fs f = none → vs.lookup f = none
  | _, _, .nil, h => rfl
  | (g, x) :: fs, (g', y) :: vs, .cons r t, h => by
    have e : g = g' := r.1
    subst e
    unfold fldA at h
    rw [List.lookup_cons]
    by_cases hg : g = f
    · rw [if_pos hg] at h
      cases h
    · rw [if_neg hg] at h
      rw [show (f == g) = false from beq_eq_false_iff_ne.mpr (Ne.symm hg)]
      exact ROV.nofld t h
theorem ROV.put {f : Str} {v : Va} {w : V} (q : RV K ff H μ v w) : ∀ {fs : List (Str × Va)} {vs : List (Str × V)}, ROV K ff H μ fs vs → ROV K ff H μ (putO f v fs) (putF f w vs)
  | _, _, .nil => .cons ⟨rfl, q⟩ .nil
  | (g, x) :: fs, (g', y) :: vs, .cons r t => by
    have e : g = g' := r.1
    subst e
    unfold putO putF
    by_cases hg : g = f
    · rw [if_pos hg, if_pos hg]
      exact .cons ⟨rfl, q⟩ t
    · rw [if_neg hg, if_neg hg]
      exact .cons ⟨rfl, r.2⟩ (ROV.put q t)
theorem ROV.length : ∀ {fs : List (Str × Va)} {vs : List (Str × V)}, ROV K ff H μ fs vs → fs.length = vs.length
  | _, _, .nil => rfl
  | _, _, .cons _ t => by rw [List.length_cons, List.length_cons, ROV.length t]
theorem arr_len {ar : List (Nat ⊕ PyData)} : ∀ {l l' : List Va}, arrV ar l = some l' → l'.length = ar.length := by
  induction ar with
  | nil => intro l l' h; cases h; rfl
  | cons a r ih =>
    intro l l' h
    cases a with
    | inl i =>
      rw [arrV] at h
      split at h
      · rename_i h2; cases h; rw [List.length_cons, List.length_cons, ih h2]
      · cases h
    | inr d =>
      rw [arrV] at h
      obtain ⟨t, h2, rfl⟩ := Option.map_eq_some_iff.mp h
      rw [List.length_cons, List.length_cons, ih h2]
theorem arr_relV {ar : List (Nat ⊕ PyData)} {dv : List V} {du : List Value} (D : DfR K ar dv du) : ∀ {l l' : List Va} {vs : List V}, arrV ar l = some l' → RVL K ff H μ l vs → ∃ vs', arrU ar dv vs = some vs' ∧ RVL K ff H μ l' vs' := by
  induction D with
  | nil => intro l l' vs h _; cases h; exact ⟨[], rfl, .nil⟩
  | @inl i r d ds u us0 D ih =>
    intro l l' vs h rl
    rw [arrV] at h
    split at h
    · rename_i v t h1 h2
      cases h
      obtain ⟨vs', e1, e3⟩ := ih h2 rl
      obtain ⟨w, k1, k2⟩ := rl.get h1
      exact ⟨w :: vs', by rw [arrU, k1, e1], .cons k2 e3⟩
    · cases h
  | @inr x r d ds u us0 h1 h2 D ih =>
    intro l l' vs h rl
    rw [arrV] at h
    obtain ⟨t, h3, rfl⟩ := Option.map_eq_some_iff.mp h
    obtain ⟨vs', e1, e3⟩ := ih h3 rl
    exact ⟨d :: vs', by rw [arrU, e1]; rfl, .cons (.d (h2 H μ)) e3⟩
theorem vals_get : ∀ {vs : List V} {us : List Value} {i : Nat} {v : V}, Vals vs us → vs[i]? = some v → ∃ u, us[i]? = some u ∧ RelV v u
  | _, _, _, _, .nil, e => by simp at e
  | _, _, 0, _, .cons r _, e => by simp at e; subst e; exact ⟨_, rfl, r⟩
  | _, _, i + 1, v, .cons _ t, e => by
    obtain ⟨u, h1, h2⟩ := vals_get (i := i) (v := v) t (by simpa using e)
    exact ⟨u, by simpa using h1, h2⟩
theorem arr_relU {ar : List (Nat ⊕ PyData)} {dv : List V} {du : List Value} (D : DfR K ar dv du) : ∀ {vs vs' : List V} {us : List Value}, arrU ar dv vs = some vs' → Vals vs us → ∃ us', arrU ar du us = some us' ∧ Vals vs' us' := by
  induction D with
  | nil => intro vs vs' us h _; cases h; exact ⟨[], rfl, .nil⟩
  | @inl i r d ds u us0 D ih =>
    intro vs vs' us h rv
    rw [arrU] at h
    split at h
    · rename_i v t h1 h2
      cases h
      obtain ⟨us', e2, e4⟩ := ih h2 rv
      obtain ⟨u2, k3, k4⟩ := vals_get rv h1
      exact ⟨u2 :: us', by rw [arrU, k3, e2], .cons k4 e4⟩
    · cases h
  | @inr x r d ds u us0 h1 h2 D ih =>
    intro vs vs' us h rv
    rw [arrU] at h
    obtain ⟨t, h3, rfl⟩ := Option.map_eq_some_iff.mp h
    obtain ⟨us', e2, e4⟩ := ih h3 rv
    exact ⟨u :: us', by rw [arrU, e2]; rfl, .cons h1 e4⟩
end
section
variable {X : Cx} {ff : Fx} {a : Expr} {fa : En → Sto → R Va} {pos : Pos} {Φ : Nat → List Va → Sto → R Va} {cs : List (Str × Ci)}
/-- an instance in a cell -/
theorem ins_at {H : Hp} {μ : Vw} {S : Sto} {n : Nat} {w : V} {cn : Str} {fs : List (Str × Va)} {ci : Ci} (hgf : ∀ y k v, ff.f (.fun_ y k) v → ∃ f, v = .ref f ∧ X.mg y = some (.ref f)) (cl : ∀ cn ci, lookC cs cn = some ci → ClF X ff Φ cn ci) (rs : RS X.K ff H μ S) (rv : RV X.K ff.f H μ (.ref n) w) (hS : S[n]? = some (.ins cn fs)) (hc : lookC cs cn = some ci) :
    ∃ p C dx vs, w = .ref p ∧ μ.ad[n]? = some p ∧ X.mg cn = some (.ref C) ∧ ff.f (.fun_ cn 0) (.ref C) ∧ H p = some (.ins C dx vs) ∧ ROV X.K ff.f H μ fs vs ∧ Cls X.K C ∧ (∀ f ∈ ci.fl, NoAttr X.K C f) ∧
    (∀ m j n, msL ci.ms m = some (j, n) → ∃ k f fd ps, FnG X.prog X.w X.K X.mg X.base ff.f k f fd ps (Φ j) ∧ Room k X.A ∧ ps.length = n ∧ Meth X.K C m f ∧ Binds X.K fd ps []) := by
  obtain ⟨p, rfl, hp⟩ := RV.ref_inv rv
  obtain ⟨C, dx, vs, hf, h1, h2⟩ := rs.at_ n p _ hp hS
  obtain ⟨f, e1, e2⟩ := hgf _ _ _ hf
  obtain ⟨C', m1, m2, m3, m4, m5, _⟩ := (cl cn ci hc).ex
  cases e1
  rw [m1] at e2
  have z := Option.some.inj e2
  injection z with z
  subst z
  exact ⟨p, C', dx, vs, rfl, hp, m1, m2, h1, h2, m3, m4, m5⟩
theorem de_fld {f : Str} (hgf : ∀ y k v, ff.f (.fun_ y k) v → ∃ f, v = .ref f ∧ X.mg y = some (.ref f)) (cl : ∀ cn ci, lookC cs cn = some ci → ClF X ff Φ cn ci) (ha : PE X a (tE X.K ff fa)) (ho : ∀ f p pos, a ≠ .Call (.Name f p) [] [] pos) :
    PE X (.Attribute a f pos) (tE X.K ff fun η S => (fa η S).bind fun x S1 => fldV cs f x S1) := by
  refine PE.weak (pe_fld ha (base_ok ho)) fun σ H Q h => ?_
  obtain ⟨μ, S, η, rs, re, q⟩ := h
  refine ⟨μ, S, η, rs, re, R.se_mono (R.se_bind q) fun x S1 q1 w H1 μ1 e1 rs1 rv1 => ?_⟩
  unfold fldV at q1
  split at q1
  · split at q1
    · rename_i cn fs hS
      split at q1
      · rename_i ci hc
        split at q1
        · rename_i hfl
          split at q1
          · rename_i v hv
            obtain ⟨p, C, dx, vs, rfl, hp, m1, m2, h1, h2, m3, m4, m5⟩ := ins_at hgf cl rs1 rv1 hS hc
            obtain ⟨y, l1, l2⟩ := h2.fld hv
            exact ⟨p, C, dx, vs, y, rfl, h1, m3, m4 f hfl, l1, q1 y H1 μ1 e1 rs1 l2⟩
          · exact q1.elim
        · exact q1.elim
      · exact q1.elim
    · exact q1.elim
  · exact q1.elim
theorem ds_ofld {o value : Expr} {f : Str} {pos' : Pos} {fo fe : En → Sto → R Va} (hgf : ∀ y k v, ff.f (.fun_ y k) v → ∃ f, v = .ref f ∧ X.mg y = some (.ref f)) (cl : ∀ cn ci, lookC cs cn = some ci → ClF X ff Φ cn ci) (ho : PE X o (tE X.K ff fo)) (he : PE X value (tE X.K ff fe))
    (hs : swapsWith value (some (.Attribute o f pos')) pos.line X.env = pure false) :
    PS X (.Assign [.Attribute o f pos'] value pos) (tS X.K ff fun η S => (fe η S).bind fun v S1 => (fo η S1).bind fun x S2 => (setFV cs f x v S2).bind fun _ S3 => .ok (.nx η) S3) := by
  refine PS.weak (ps_fld ho he hs) fun D σ H h => ?_
  obtain ⟨μ, S, η, rs, re, q⟩ := h
  refine ⟨μ, S, η, rs, re, R.se_mono (R.se_bind q) fun v S1 q1 y H1 μ1 e1 rs1 rv1 => ?_⟩
  refine ⟨μ1, S1, η, rs1, re.mono e1, R.se_mono (R.se_bind q1) fun x S2 q2 w H2 μ2 e2 rs2 rv2 => ?_⟩
  unfold setFV at q2
  split at q2
  · split at q2
    · rename_i cn fs hS
      split at q2
      · rename_i ci hc
        split at q2
        · rename_i hfl
          obtain ⟨p, C, dx, vs, rfl, hp, m1, m2, h1, h2, m3, m4, m5⟩ := ins_at hgf cl rs2 rv2 hS hc
          refine ⟨p, C, dx, vs, rfl, h1, m3, m4 f hfl.1, by rw [← h2.length]; exact hfl.2, ?_⟩
          have e3 : Ex H2 μ2 (upd H2 p (.ins C dx (putF f y vs))) μ2 := Ex.write (List.mem_of_getElem? hp)
          have rs3 := rs2.write (ob := .ins cn (putO f v fs)) hp ⟨C, dx, _, m2, upd_same, ROV.put ((rv1.mono e2).mono e3) (h2.mono e3)⟩
          exact q2 _ _ ((e1.trans e2).trans e3) rs3 σ (re.mono ((e1.trans e2).trans e3))
        · exact q2.elim
      · exact q2.elim
    · exact q2.elim
  · exact q2.elim
theorem meth_late {o : Expr} {m : Str} {apos : Pos} {args : List Expr} {env : Env} {prog : Program} {w : World} {A : Around} {E : Value → Shared → Prop} {s : Shared} {Q : Value → Shared → Prop} (hbase : attributeBase o m env (eval o env) = eval o env)
    (hfew : methodCallForm (args.length + ([] : List Keyword).length) (backTo pos (starEach args env)) (backToKw pos (keywordEach [] env)) = true) (hline : (apos.endLine == pos.line) = true)
    (h : wpAny (model prog w) A (eval o env) (fun ov s1 => ∀ pl, wpAny (model prog w) A (getMethod ov m pl) (fun fx s2 => wpAny (model prog w) A (callWith pos fx.1 fx.2 (backTo pos (starEach args env)) (backToKw pos (keywordEach [] env))) Q E s2) E s1) E s) :
    wpAny (model prog w) A (eval (.Call (.Attribute o m apos) args [] pos) env) Q E s := by
  rw [arm_eval_Call, hbase]
  refine wpAny_bind (wpAny_mono h (fun ov s1 h1 => ?_) fun _ _ e => e)
  refine wpAny_bind (wpAny_standAt ?_)
  have hpos : methodCallPos true o env apos pos = pure pos := by unfold methodCallPos; simp [hline]
  unfold methodCall
  rw [hfew]
  refine wpAny_bind (wpAny_holding (wpAny_mono (h1 _) (fun fx s2 h2 => ?_) fun _ _ e => e))
  exact wpAny_bind (wpAny_of_eq hpos h2)
theorem few_ok {pos : Pos} {env : Env} : ∀ {es : List Expr}, (∀ e ∈ es, ∀ x p, e ≠ .Starred x p) → (backTo pos (starEach es env)).all (fun x => !x.1) = true
  | [], _ => rfl
  | e :: es, h => by
    rw [star_cons e es env (h e List.mem_cons_self)]
    show ((!false) && (backTo pos (starEach es env)).all (fun x => !x.1)) = true
    rw [few_ok fun x hx => h x (List.mem_cons_of_mem _ hx)]
    rfl
theorem form_ok {pos : Pos} {env : Env} {es : List Expr} (h : ∀ e ∈ es, ∀ x p, e ≠ .Starred x p) (hn : es.length < 29) : methodCallForm (es.length + ([] : List Keyword).length) (backTo pos (starEach es env)) (backToKw pos (keywordEach [] env)) = true := by
  unfold methodCallForm
  rw [few_ok h]
  have e : (backToKw pos (keywordEach [] env)) = [] := rfl
  rw [e]
  simp
  omega
theorem evalArgs_none0 {M : Model} {A : Around} {E : Value → Shared → Prop} {s : Shared} {f : Value} {Q : Args → Shared → Prop} (h : wpAny M A (spliced []) (fun vs s' => Q ⟨vs, []⟩ s') E s) : wpAny M A (evalArgs f true [] []) Q E s := by
  unfold evalArgs
  show wpAny M A (spliced [] >>= _) Q E s
  refine wpAny_bind (wpAny_mono h (fun vs s' h' => ?_) fun _ _ x => x)
  exact wpAny_holding (wpAny_bind (wpAny_pure (wpAny_bind (wpAny_pure (wpAny_pure h')))))
theorem de_mth {m : Str} {es : List Expr} {apos : Pos} {f : En → Sto → R (List Va)} (hgf : ∀ y k v, ff.f (.fun_ y k) v → ∃ f, v = .ref f ∧ X.mg y = some (.ref f)) (cl : ∀ cn ci, lookC cs cn = some ci → ClF X ff Φ cn ci) (px : Passes (CX X.prog X.w) X (WX X.K X.mg ff)) (hgd : X.A.guards = some [])
    (ha : PE X a (tE X.K ff fa)) (hA : PA X es (tL X.K ff f)) (ho : ∀ f p pos, a ≠ .Call (.Name f p) [] [] pos) (hst : ∀ e ∈ es, ∀ x p, e ≠ .Starred x p) (hpl : (backTo pos (starEach es X.env)).any (·.1) = false) (hn : es.length < 29) (hline : (apos.endLine == pos.line) = true) :
    PE X (.Call (.Attribute a m apos) es [] pos) (tE X.K ff fun η S => (fa η S).bind fun x S1 => (methV cs m x S1).bind fun q S1 => (f η S1).bind fun l S2 => if l.length + 1 = q.2 then Φ q.1 (x :: l) S2 else .bad) := by
  refine ⟨fun pins s σ H Q I h => ?_⟩
  obtain ⟨μ, S, η, rs, re, q⟩ := h
  refine meth_late (base_ok ho) (form_ok hst hn) hline (thn (ha.run pins s σ H (fun x H1 => ∃ p C dx vs f' fd ps k j n μ1 S1 x0, x = .ref p ∧ H1 p = some (.ins C dx vs) ∧ Cls X.K C ∧ Meth X.K C m f' ∧ vs.lookup m = none ∧ FnG X.prog X.w X.K X.mg X.base ff.f k f' fd ps (Φ j) ∧ Room k X.A ∧ ps.length = n ∧ Binds X.K fd ps [] ∧ Ex H μ H1 μ1 ∧ RS X.K ff H1 μ1 S1 ∧ RV X.K ff.f H1 μ1 x0 x ∧
    ((f η S1).bind fun l S2 => if l.length + 1 = n then Φ j (x0 :: l) S2 else .bad).se ff.E (pK X.K ff H μ Q)) I ⟨μ, S, η, rs, re, R.se_mono (R.se_bind q) fun x S1 q1 w H1 μ1 e1 rs1 rv1 => ?_⟩) fun u s1 ⟨x, H1, I1, rx, p, C, dx, vs, f', fd, ps, k, j, n, μ1, S1, x0, ex, h1, c, M, lk, F, hr, hps, hb, e1, rs1, rv1, q1⟩ pl => ?_)
  · unfold methV at q1
    split at q1
    · split at q1
      · rename_i cn fs hS
        split at q1
        · rename_i ci hc
          split at q1
          · rename_i jn hj
            split at q1
            · rename_i hno
              obtain ⟨p, C, dx, vs, rfl, hp, m1, m2, h1, h2, m3, m4, m5⟩ := ins_at hgf cl rs1 rv1 hS hc
              obtain ⟨k, f', fd, ps, F, hr, hps, M, hb⟩ := m5 m jn.1 jn.2 hj
              exact ⟨p, C, dx, vs, f', fd, ps, k, jn.1, jn.2, μ1, S1, _, rfl, h1, m3, M, h2.nofld (by simpa using hno), F, hr, hps, hb, e1, rs1, rv1, q1⟩
            · exact q1.elim
          · exact q1.elim
        · exact q1.elim
      · exact q1.elim
    · exact q1.elim
  · subst ex
    have eu : u = Value.ref p := rx
    subst eu
    refine getmeth_ok I1 h1 c M lk ?_
    have fin : ∀ (us : List Value) (s2 : Shared) (vs : List V) (H2 : Hp), L2.Inv X pins σ H2 s2 → Vals vs us → vs.length + 1 = n → rDL X.K ff (Φ j) (.ref p :: vs) H2 Q → wpAny (model X.prog X.w) X.A (call (.ref f') (.ref p :: us)) (EP X pins σ Q) X.xe s2 := fun us s2 vs H2 I2 r hl q2 =>
      run_fnG (vs := .ref p :: vs) F px hr hgd hb I2 (.cons rfl r) (by rw [List.length_cons, hl, hps]) q2
    have ta : tL X.K ff f σ H1 fun vs H2 => vs.length + 1 = n ∧ rDL X.K ff (Φ j) (.ref p :: vs) H2 Q := by
      refine ⟨μ1, S1, η, rs1, re.mono e1, R.se_mono (R.se_bind q1) fun l S2 q2 vs H2 μ2 e2 rs2 rv2 => ?_⟩
      split at q2
      · rename_i hl
        exact ⟨by rw [← rv2.length]; exact hl, μ2, S2, x0 :: l, rs2, .cons (rv1.mono e2) rv2, R.se_mono q2 fun v S3 p => pK.later (e1.trans e2) p⟩
      · exact q2.elim
    cases es with
    | nil =>
      have w := thn (hA.run pos pins s1 σ H1 _ I1 ta) (Q' := fun us s2 => ∃ vs H2, L2.Inv X pins σ H2 s2 ∧ Vals vs us ∧ vs.length + 1 = n ∧ rDL X.K ff (Φ j) (.ref p :: vs) H2 Q) fun us s2 ⟨vs, H2, I2, r, hl, q2⟩ => ⟨vs, H2, I2, r, hl, q2⟩
      refine PySem.W.callWith_of (first := [.ref p]) rfl (PySem.W.keeps_K M.kp) (evalArgs_none0 (wpAny_mono w (fun us s2 ⟨vs, H2, I2, r, hl, q2⟩ => ⟨I2.kIn, fin us s2 vs H2 I2 r hl q2⟩) fun _ _ x => x))
    | cons e er =>
      have hpl2 : (backTo pos (starEach er X.env)).any (·.1) = false := by
        rw [star_cons e er X.env (hst e List.mem_cons_self)] at hpl
        have hpl : (false || (backTo pos (starEach er X.env)).any (·.1)) = false := hpl
        simpa using hpl
      exact PySem.W.callWith_K (first := [.ref p]) (h₀ := X.base) I.ok.mod.kin M.kp (thn (hA.run pos pins s1 σ H1 _ I1 ta) fun us s2 ⟨vs, H2, I2, r, hl, q2⟩ => ⟨I2.kIn, fin us s2 vs H2 I2 r hl q2⟩) (star_cons _ _ _ (hst e List.mem_cons_self)) hpl2
/-! ### new instances -/
theorem run_mkG {C f : Addr} {k : Nat} {fd : FuncData} {ps : List Str} {g : List Va → Sto → R Va} {pins : List (Addr × Obj)} {σ : L2.St} {H : Hp} {s : Shared} {Q : VK} {us : List Value} {vs : List V} (M : Mk X.K C f) (F : FnG X.prog X.w X.K X.mg X.base ff.f k f fd ps g) (px : Passes (CX X.prog X.w) X (WX X.K X.mg ff)) (hr : Room (k + 1) X.A) (hgd : X.A.guards = some []) (hb : Binds X.K fd ps [])
    (I : L2.Inv X pins σ H s) (r : Vals vs us) (hl : vs.length + 1 = ps.length) (h : ∀ x dx, H x = none → H dx = none → dx ≠ x → rDL X.K ff g (.ref x :: vs) (upd (upd H dx (.own x)) x (.ins C dx [])) fun v H2 => v = .non ∧ Q (.ref x) H2) :
    wpAny (model X.prog X.w) X.A (call (.ref C) us) (EP X pins σ Q) X.xe s := by
  have hq := h (s.heap.objs.size + 1) s.heap.objs.size (I.hok.fresh (Nat.le_succ _)) (I.hok.fresh (Nat.le_refl _)) (Nat.ne_of_lt (Nat.lt_succ_self _))
  have J := Inv.made (C := C) I
  have r2 : Vals (V.ref (s.heap.objs.size + 1) :: vs) (Value.ref (s.heap.objs.size + 1) :: us) := .cons rfl r
  have hlu : (Value.ref (s.heap.objs.size + 1) :: us ++ []).length = ps.length := by
    rw [List.append_nil, ← r2.length, List.length_cons, hl]
  have hb' := hb _ (Value.ref (s.heap.objs.size + 1) :: us) J.kIn hlu
  rw [List.append_nil] at hb'
  refine wpAny_call (make_map (f := f) I.kIn M.makes M.init (beq_iff_eq.mp M.fn) (codeAny_mono (F.run ff rfl _ X.stack _ _ ⟨Value.ref (s.heap.objs.size + 1) :: us, []⟩ (Value.ref (s.heap.objs.size + 1) :: us) _ _ (hr.make C us []) hgd (J.env0.make C us []) hb' r2 (by rw [List.length_cons, hl]) hq) fun q s' z => ?_))
  cases q with
  | error e => exact px pins σ _ _ e s' J z
  | ok fl =>
    cases fl with
    | ret u =>
      obtain ⟨v, H', I3, rv, rfl, q3⟩ := J.after z
      exact ⟨rv, ⟨V.ref (s.heap.objs.size + 1), H', I3, rfl, q3⟩⟩
    | next => exact False.elim z
    | brk => exact False.elim z
    | cont => exact False.elim z
theorem de_mko {cn : Str} {ci : Ci} {j n : Nat} {p : Pos} {es : List Expr} {f : En → Sto → R (List Va)} (cl : ClF X ff Φ cn ci) (hc : lookC cs cn = some ci) (hi : ci.ini = some (j, n)) (px : Passes (CX X.prog X.w) X (WX X.K X.mg ff)) (hgd : X.A.guards = some []) (hg : Gl X cn)
    (hA : PA X es (tL X.K ff f)) (hdb : (cn == ("__debug__" : Str)) = false) (hst : ∀ e ∈ es, ∀ x p, e ≠ .Starred x p) (hpl : (backTo pos (starEach es X.env)).any (·.1) = false) :
    PE X (.Call (.Name cn p) es [] pos) (tE X.K ff fun η S => (f η S).bind fun l S1 => mkoV Φ cs cn l S1) := by
  refine ⟨fun pins s σ H Q I h => ?_⟩
  obtain ⟨C, m1, m2, m3, m4, m5, m6⟩ := cl.ex
  obtain ⟨k, fI, fd, ps, F, hr, hps, M, hb⟩ := m6 j n hi
  obtain ⟨μ, S, η, rs, re, q⟩ := h
  refine wpAny_Call_Name_kw (ld_glob I hg m1 ?_ hdb)
  have ta : tL X.K ff f σ H fun vs H1 => vs.length + 1 = ps.length ∧ ∀ x dx, H1 x = none → H1 dx = none → dx ≠ x → rDL X.K ff (Φ j) (.ref x :: vs) (upd (upd H1 dx (.own x)) x (.ins C dx [])) fun v H2 => v = .non ∧ Q (.ref x) H2 := by
    refine ⟨μ, S, η, rs, re, R.se_mono (R.se_bind q) fun l S1 q1 vs H1 μ1 e1 rs1 rv1 => ?_⟩
    unfold mkoV at q1
    rw [hc] at q1
    dsimp only at q1
    rw [hi] at q1
    dsimp only at q1
    split at q1
    · rename_i hl
      refine ⟨by rw [← rv1.length, hl, hps], fun x dx nx ndx ne => ?_⟩
      have rs2 : RS X.K ff (upd H1 dx (.own x)) μ1 S1 := rs1.hid Off.upd (rs1.unk ndx) (rs1.fresh ndx) (rs1.his.free ndx)
      have nx2 : upd H1 dx (.own x) x = none := by rw [upd_ne (Ne.symm ne)]; exact nx
      have e2 : Ex H1 μ1 (upd H1 dx (.own x)) μ1 := (Ex.refl H1 μ1).hid Off.upd ndx
      have rs3 := rs2.cellNew (o := .ins C dx []) (ob := .ins cn []) nx2 ⟨C, dx, [], m2, upd_same, .nil⟩
      have e3 : Ex H1 μ1 (upd (upd H1 dx (.own x)) x (.ins C dx [])) (μ1.cell x) := e2.trans (Ex.cellNew nx2)
      have hx : (μ1.cell x).ad[S1.length]? = some x := by rw [← rs1.len]; simp [Vw.cell]
      refine ⟨μ1.cell x, _, _, rs3, .cons (.ref hx) (rv1.mono e3), R.se_mono (R.se_bind q1) fun v S2 q2 w H2 μ2 e4 rs4 rv4 => ?_⟩
      split at q2
      · obtain rfl := Rp.non_inv rv4
        exact ⟨rfl, q2 _ _ _ (e1.trans (e3.trans e4)) rs4 (.ref (e4.cell hx))⟩
      · exact q2.elim
    · exact q1.elim
  cases es with
  | nil =>
    refine PySem.W.callWith_of (first := []) rfl (PySem.W.keeps_K M.kp) (evalArgs_none0 (thn (hA.run pos pins s σ H _ I ta) fun us s2 ⟨vs, H2, I2, r, hl, q2⟩ => ⟨I2.kIn, ?_⟩))
    exact run_mkG M F px hr hgd hb I2 r hl q2
  | cons e er =>
    have hpl2 : (backTo pos (starEach er X.env)).any (·.1) = false := by
      rw [star_cons e er X.env (hst e List.mem_cons_self)] at hpl
      have hpl : (false || (backTo pos (starEach er X.env)).any (·.1)) = false := hpl
      simpa using hpl
    refine PySem.W.callWith_K (h₀ := X.base) I.ok.mod.kin M.kp (thn (hA.run pos pins s σ H _ I ta) fun us s2 ⟨vs, H2, I2, r, hl, q2⟩ => ⟨I2.kIn, ?_⟩) (star_cons _ _ _ (hst e List.mem_cons_self)) hpl2
    exact run_mkG M F px hr hgd hb I2 r hl q2
/-! ### calls with keywords -/
theorem dk_nil : PK X [] (tL X.K ff fun _ S => .ok [] S) := ⟨fun pos pins s σ H Q I ⟨μ, S, η, rs, re, q⟩ => pk_nil.run pos pins s σ H Q I (q [] H μ (Ex.refl _ _) rs .nil)⟩
theorem dk_cons {e : Expr} {kws : List Keyword} {nm : Option Str} {kpos : Pos} {fe : En → Sto → R Va} {f : En → Sto → R (List Va)} (he : PE X e (tE X.K ff fe)) (hr : PK X kws (tL X.K ff f)) :
    PK X (⟨nm, e, kpos⟩ :: kws) (tL X.K ff fun η S => (fe η S).bind fun x S1 => (f η S1).bind fun l S2 => .ok (x :: l) S2) :=
  ⟨fun pos pins s σ H Q I ⟨μ, S, η, rs, re, q⟩ => (pk_cons he hr).run pos pins s σ H Q I ⟨μ, S, η, rs, re, R.se_mono (R.se_bind q) fun x S1 q1 w H1 μ1 e1 rs1 rv1 =>
    ⟨μ1, S1, η, rs1, re.mono e1, R.se_mono (R.se_bind q1) fun l S2 q2 ws H2 μ2 e2 rs2 rv2 => q2 (w :: ws) H2 μ2 (e1.trans e2) rs2 (.cons (rv1.mono e2) rv2)⟩⟩⟩
theorem kw_names {pos : Pos} {env : Env} : ∀ {kws : List Keyword} {ks : List Str}, ks.map some = kws.map (·.arg) → (backToKw pos (keywordEach kws env)).all (·.1.isSome) = true ∧ (backToKw pos (keywordEach kws env)).any (·.1.isNone) = false ∧ (backToKw pos (keywordEach kws env)).filterMap (·.1) = ks
  | [], [], _ => ⟨rfl, rfl, rfl⟩
  | ⟨a, v, p⟩ :: kws, k :: ks, h => by
    have h1 : some k = a := (List.cons.inj h).1
    subst h1
    obtain ⟨a1, a2, a3⟩ := kw_names (pos := pos) (env := env) (kws := kws) (ks := ks) (List.cons.inj h).2
    refine ⟨?_, ?_, ?_⟩
    · show (true && (backToKw pos (keywordEach kws env)).all (·.1.isSome)) = true
      rw [a1]; rfl
    · show (false || (backToKw pos (keywordEach kws env)).any (·.1.isNone)) = false
      rw [a2]; rfl
    · show k :: (backToKw pos (keywordEach kws env)).filterMap (·.1) = k :: ks
      rw [a3]
  | [], _ :: _, h => by cases h
  | _ :: _, [], h => by cases h
theorem de_callK {kw : List Kw} {q : Kw} {jj : Nat} {p : Pos} {es : List Expr} {kws : List Keyword} {f fk : En → Sto → R (List Va)} (C : KwF X ff Φ q) (hq : kw[jj]? = some q) (hks : q.ks.map some = kws.map (·.arg)) (px : Passes (CX X.prog X.w) X (WX X.K X.mg ff)) (hgd : X.A.guards = some []) (hg : Gl X q.nm)
    (hA : PA X (a :: es) (tL X.K ff f)) (hK : PK X kws (tL X.K ff fk)) (hn : ∀ η S, (f η S).se (fun _ _ => True) (fun l _ => l.length = q.n) ∨ f η S = .bad) (hm : ∀ η S, (fk η S).se (fun _ _ => True) (fun l _ => l.length = q.ks.length) ∨ fk η S = .bad)
    (hdb : (q.nm == ("__debug__" : Str)) = false) (hst : ∀ x p, a ≠ .Starred x p) (hpl : (backTo pos (starEach es X.env)).any (·.1) = false) :
    PE X (.Call (.Name q.nm p) (a :: es) kws pos) (tE X.K ff fun η S => (f η S).bind fun l S1 => (fk η S1).bind fun m S2 => callKV Φ kw jj l m S2) := by
  obtain ⟨k, fa, fd, ps, dv, du, F, hr, hps, hmg, hkp, D, hb⟩ := C.ex
  refine ⟨fun pins s σ H Q I h => ?_⟩
  obtain ⟨μ, S, η, rs, re, z⟩ := h
  dsimp only at z
  obtain ⟨n1, n2, n3⟩ := kw_names (pos := pos) (env := X.env) hks
  have len2 : ∀ {f : En → Sto → R (List Va)} {n : Nat} {S : Sto} {E : Xn → Sto → Prop} {P : List Va → Sto → Prop}, ((f η S).se (fun _ _ => True) (fun l _ => l.length = n) ∨ f η S = .bad) → (f η S).se E P → (f η S).se E fun l S1 => l.length = n ∧ P l S1 := fun {f n S E P} h q => by
    cases h1 : f η S with
    | bad => rw [h1] at q; exact q.elim
    | ex _ _ => rw [h1] at q; exact q
    | ok l S1 =>
      rw [h1] at q
      rcases h with z | z
      · rw [h1] at z; exact ⟨z, q⟩
      · rw [h1] at z; cases z
  have ta : tL X.K ff f σ H fun vs H1 => vs.length = q.n ∧ tL X.K ff fk σ H1 fun zs H2 => zs.length = q.ks.length ∧ ∃ vs', arrU q.ar dv (vs ++ zs) = some vs' ∧ vs'.length = ps.length ∧ rDL X.K ff (Φ q.f) vs' H2 Q := by
    refine ⟨μ, S, η, rs, re, R.se_mono (len2 (hn η S) (R.se_bind z)) fun l S1 ⟨hl, z1⟩ vs H1 μ1 e1 rs1 rv1 => ⟨by rw [← rv1.length]; exact hl, ?_⟩⟩
    refine ⟨μ1, S1, η, rs1, re.mono e1, R.se_mono (len2 (hm η S1) (R.se_bind z1)) fun m S2 ⟨hl2, z2⟩ zs H2 μ2 e2 rs2 rv2 => ⟨by rw [← rv2.length]; exact hl2, ?_⟩⟩
    unfold callKV at z2
    rw [hq] at z2
    dsimp only at z2
    split at z2
    · rename_i l' ha
      obtain ⟨vs', u1, u2⟩ := arr_relV D ha ((rv1.mono e2).append rv2)
      exact ⟨vs', u1, by rw [← u2.length, arr_len ha, hps], μ2, S2, l', rs2, u2, R.se_mono z2 fun v S3 p => pK.later (e1.trans e2) p⟩
    · exact z2.elim
  refine wpAny_Call_Name_kw (ld_glob I hg hmg ?_ hdb)
  refine PySem.W.callWith_KW (h₀ := X.base) I.ok.mod.kin hkp n1 (thn (hA.run pos pins s σ H _ I ta) fun us s1 ⟨vs, H1, I1, r1, l1, t1⟩ => ?_) ?_ (star_cons _ _ _ hst)
  · refine thn (hK.run pos pins s1 σ H1 _ I1 t1) fun ws s2 ⟨zs, H2, I2, r2, l2, vs', u1, u2, d⟩ => ⟨I2.kIn, ?_⟩
    rw [n3]
    obtain ⟨us', w1, w2⟩ := arr_relU D u1 (r1.append r2)
    refine wpAny_call (codeAny_mono (F.run ff rfl X.A X.stack s2 H2 ⟨us, q.ks.zip ws⟩ us' vs' Q hr hgd I2.env0 (hb s2 us ws us' I2.kIn (by rw [← r1.length]; exact l1) (by rw [← r2.length]; exact l2) w1) w2 u2 d) fun r s' hz => ?_)
    cases r with
    | error e => exact px pins σ H2 s2 e s' I2 hz
    | ok fl =>
      cases fl with
      | ret u => exact I2.after hz
      | next => exact False.elim hz
      | brk => exact False.elim hz
      | cont => exact False.elim hz
  · rw [n2, star_cons _ _ _ hst]
    show ((false || (backTo pos (starEach es X.env)).any (·.1)) || false) = false
    rw [hpl]
    rfl
/-! ### a comprehension that may let exceptions out -/
theorem df_compX {elt tg iter : Expr} {ifs : List Expr} {scope : Scope} {own : List (Str × Nat)} {fi : En → Sto → R (List Va)} {g : Va → En → Sto → R En} {t : En → Sto → R Bool} {e : En → Sto → R Va} (hc : X.calm = true) (hN : X.N.Nodup) (hs : X.stack = X.env :: X.outer) (hf : X.env.frame = some X.env.locals) (tk : Takes X fun cls d _ H => WX X.K X.mg ff cls d H)
    (hi : PI X tg iter (tI X.K ff fi)) (ok : BlkOk X.N X.env.scope scope own) (hg : ∀ st H C cl fp, PG (blkX X (WX X.K X.mg ff) st H scope (compEnvC scope cl C X.env) fp) tg (tG X.K ff (own.map (·.2)) g)) (ht : ∀ st H C cl fp, PTs (blkX X (WX X.K X.mg ff) st H scope (compEnvC scope cl C X.env) fp) ifs (tT X.K ff t))
    (he : ∀ st H C cl fp, PE (blkX X (WX X.K X.mg ff) st H scope (compEnvC scope cl C X.env) fp) elt (tE X.K ff e)) (hsf : ∀ x, foldedSetIterable iter X.env x = pure x) :
    PE X (.ListComp elt [⟨tg, iter, ifs, 0⟩] scope pos) (tF X.K ff fun η S => (fi η S).bind fun xs S1 => compF (turnF g t e (wipeE η (own.map (·.2)))) xs [] S1) :=
  PE.weak (pe_lcX hc hN hs hf tk (fun _ _ _ _ h => h) hi ok hg ht he hsf) fun σ H Q h => tLc_of h
end
end Nb

namespace Nb
open PySem L2 PySem.Spec PyProof.Rows
structure Good (C : Cfg) (T : Tab) (ff : Fx) (X : Cx) : Prop where
  calm : X.calm = true
  nd : X.N.Nodup
  N : X.N = T.N
  xs : T.xs = C.xs
  kind : X.env.scope.kind = .function
  gd : X.A.guards = some []
  un : X.A.units + 70 < cLine
  fns : ∀ k x n, T.fn[k]? = some (x, n) → Cal X ff x n (C.Φ k)
  gls : ∀ k x v, T.gl[k]? = some x → C.gl k = some v → ∃ u w, X.mg x = some u ∧ RelV w u ∧ ∀ H μ, RV X.K ff.f H μ v w
  blt : ∀ x ∈ (["len", "repr", "abs", "int", "tuple", "list", "range", "isinstance", "all", "str", "bool", "dict", "any", "sorted", "min", "max", "sum", "enumerate", "zip", "set", "reversed", "ValueError", "LookupError", "Exception"] : List Str), X.mg x = none
  px : Passes (CX X.prog X.w) X (WX X.K X.mg ff)
  gx : GdOk X.K X.w ff.f
  gf : ∀ y k v, ff.f (.fun_ y k) v → ∃ f, v = .ref f ∧ X.mg y = some (.ref f)
  os : T.os = C.os
  cl : ∀ cn ci, lookC C.os.cs cn = some ci → ClF X ff C.Φ cn ci
  kw : ∀ (j : Nat) (q : Kw), C.os.kw[j]? = some q → KwF X ff C.Φ q
  tk : T.own = true → X.stack = X.env :: X.outer ∧ X.env.frame = some X.env.locals ∧ Takes X (fun cls d _ H => WX X.K X.mg ff cls d H)
theorem never_px {X : Cx} {ff : Fx} : Passes (CX X.prog X.w) X (WX X.K X.mg ff.calm) := by
  rintro pins σ H s e s' I ⟨_, _, _, _, _, _, _, _, _, _, _, _, x, S, μ, h, _⟩
  exact h.elim
theorem Good.calmer {C : Cfg} {T : Tab} {ff : Fx} {X : Cx} (g : Good C T ff X) : Good C T ff.calm X :=
  ⟨g.calm, g.nd, g.N, g.xs, g.kind, g.gd, g.un, fun k x n h => let ⟨q, _⟩ := g.fns k x n h; ⟨q, never_px⟩, g.gls, g.blt, never_px, g.gx, g.gf, g.os, fun cn ci h => ⟨(g.cl cn ci h).ex⟩, fun j q h => ⟨(g.kw j q h).ex⟩, fun h => let ⟨a, b, c⟩ := g.tk h; ⟨a, b, c.imp fun cls d σ H ⟨x, S, μ, z, _⟩ => z.elim⟩⟩
theorem Good.blk {C : Cfg} {T : Tab} {ff : Fx} {X : Cx} (g : Good C T ff X) (scope : Scope) (hk : scope.kind = .function) (st : Shared) (H : Hp) (D : Addr) (cl : List (Str × Addr)) (fp : List Addr) : Good C T.in_ ff.calm (blkOf X scope st H D cl fp) :=
  ⟨g.calm, g.nd, g.N, g.xs, hk, g.gd, g.un, fun k x n h => let ⟨q, _⟩ := g.fns k x n h; ⟨q, never_px⟩, g.gls, g.blt, never_px, g.gx, g.gf, g.os, fun cn ci h => ⟨(g.cl cn ci h).ex⟩, fun j q h => ⟨(g.kw j q h).ex⟩, fun h => nomatch h⟩
theorem Good.blkX {C : Cfg} {T : Tab} {ff : Fx} {X : Cx} (g : Good C T ff X) (scope : Scope) (hk : scope.kind = .function) (st : Shared) (H : Hp) (D : Addr) (cl : List (Str × Addr)) (fp : List Addr) : Good C T.in_ ff (blkX X (WX X.K X.mg ff) st H scope (compEnvC scope cl D X.env) fp) :=
  ⟨g.calm, g.nd, g.N, g.xs, hk, g.gd, g.un, fun k x n h => let ⟨q, _⟩ := g.fns k x n h; ⟨q, blk_passes⟩, g.gls, g.blt, blk_passes, g.gx, g.gf, g.os, fun cn ci h => ⟨(g.cl cn ci h).ex⟩, fun j q h => ⟨(g.kw j q h).ex⟩, fun h => nomatch h⟩
/-- an expression, as a value and as a test -/
structure Snd (C : Cfg) (ff : Fx) (X : Cx) (e : Expr) (ie : IE) : Prop where
  pe : PE X e (tE X.K ff (ev C ie))
  pt : PT X e (tT X.K ff (tru (ev C ie)))
  pw : ∀ op es pos, e = .BoolOp op es pos → PW X e (tT X.K ff (tru (ev C ie)))
section
variable {C : Cfg} {T : Tab} {ff : Fx}
theorem Snd.of {X : Cx} {e : Expr} {ie : IE} (h : PE X e (tE X.K ff (ev C ie))) (hb : ∀ op es pos, e ≠ .BoolOp op es pos) (he : ∀ whole, isTrue e X.env whole = (do let v ← whole; standAt e.pos; holding [v] (truthy v))) : Snd C ff X e ie :=
  ⟨h, dt_plain h he, fun op es pos z => absurd z (hb op es pos)⟩
theorem Snd.one {X : Cx} {op : BoolOp} {x : Expr} {pos : Pos} {ie : IE} (h : Snd C ff X x ie) : Snd C ff X (.BoolOp op [x] pos) ie := by
  have w : PW X (.BoolOp op [x] pos) (tT X.K ff (tru (ev C ie))) := by
    cases op with
    | And => exact pw_and1 h.pt
    | Or => exact pw_or1 h.pt
  exact ⟨pe_one h.pe, w.pt, fun _ _ _ _ => w⟩
theorem Snd.unOne {X : Cx} {op : BoolOp} {es : List Expr} {pos : Pos} {ie : IE} (h : Snd C ff X (unOne (.BoolOp op es pos)) ie) : Snd C ff X (.BoolOp op es pos) ie := by
  match es, h with
  | [x], h => exact h.one
  | [], h => exact h
  | _ :: _ :: _, h => exact h
theorem visB_of {sc : Scope} {x : Str} (h : visB sc x = true) : Vis sc x := by
  unfold visB at h
  split at h
  · exact .inl (by assumption)
  · exact .inr (.inl (by assumption))
  · exact .inr (.inr (by assumption))
  · cases h
theorem locB_of {sc : Scope} {x : Str} (h : locB sc x = true) : Loc sc x := by
  unfold locB at h
  split at h
  · exact .inl (by assumption)
  · exact .inr (by assumption)
  · cases h
theorem justLocB_of {sc : Scope} {x : Str} (h : justLocB sc x = true) : sc.names.lookup x = some .local := by
  unfold justLocB at h
  split at h
  · assumption
  · cases h
theorem glB_of {X : Cx} {x : Str} (h : glB X.env.scope x = true) : Gl X x := by
  unfold glB at h
  split at h
  · assumption
  · cases h
theorem okNm_of {x : Str} (h : okNm x = true) : (x == ("__debug__" : Str)) = false ∧ (x == ("__classdict__" : Str)) = false ∧ x ≠ "__name__" := by
  unfold okNm at h
  simp only [Bool.and_eq_true, Bool.not_eq_true', beq_eq_false_iff_ne] at h
  exact ⟨beq_eq_false_iff_ne.mpr h.1.1, beq_eq_false_iff_ne.mpr h.1.2, h.2⟩
theorem sl_plain {e : Expr} (h : isSlB e = false) : PlainIx e := by
  intro o i
  cases e <;> first | rfl | cases h
theorem sl_ne {e : Expr} (h : isSlB e = false) : ∀ lo hi st p, e ≠ .Slice lo hi st p := by
  intro lo hi st p z
  subst z
  cases h
theorem set_fold {e : Expr} {env : Env} (h : isSetB e = false) : ∀ x, foldedSetIterable e env x = pure x := by
  intro x
  cases e <;> first | rfl | cases h
theorem call0_ne {e : Expr} (h : call0B e = false) : ∀ f p pos, e ≠ .Call (.Name f p) [] [] pos := by
  intro f p pos z
  subst z
  cases h
theorem co_op {X : Cx} (hu : X.A.units + 66 < cLine) (hg : GdOk X.K X.w ff.f) : ∀ {o : Co} {op : CmpOp}, coB o op = true → OpR X (compareOp op) (rD2 X.K ff (cmpVa o)) := by
  intro o op h
  cases o <;> cases op <;> first | (exact absurd h Bool.false_ne_true) | exact opd_eq (by omega) | exact opd_ne (by omega) | exact opd_lt | exact opd_le | exact opd_gt | exact opd_ge (by omega) | exact opd_is | exact opd_isnot | exact opd_in hu hg | exact opd_notin hu hg
theorem bo_op {X : Cx} : ∀ {o : Bo} {op : Operator}, boB o op = true → OpR X (binaryOp op) (rD2 X.K ff (binV o)) := by
  intro o op h
  cases o <;> cases op <;> first | (exact absurd h Bool.false_ne_true) | exact opd_add | exact opd_sub | exact opd_mul | exact opd_fdiv | exact opd_mod | exact opd_pow
theorem chkE_star {sc : Scope} {x : Expr} {p : Pos} : ∀ {ie : IE}, chkE T sc ie (.Starred x p) = false
  | .fz f => by cases f <;> rfl
  | .mk f => by cases f <;> rfl
  | .met m o es => rfl
  | .isi _ _ => rfl
  | .dctZ _ => rfl
  | .rv _ => rfl
  | .dyn _ _ _ => rfl
  | .fld _ _ => rfl
  | .mko _ _ => rfl
  | .mth _ _ _ => rfl
  | .callK _ _ _ => rfl
  | .zz a => by
    show chkE T sc a _ = false
    exact chkE_star
  | .loc _ => rfl
  | .glo _ => rfl
  | .non => rfl
  | .bl _ => rfl
  | .int _ => rfl
  | .str _ => rfl
  | .bin _ _ _ => rfl
  | .neg _ => rfl
  | .not _ => rfl
  | .cmp _ _ _ => rfl
  | .cmp2 _ _ _ _ _ => rfl
  | .and _ _ => rfl
  | .or _ _ => rfl
  | .ife _ _ _ => rfl
  | .ix _ _ => rfl
  | .sl _ _ _ => rfl
  | .tup _ => rfl
  | .dct0 => rfl
  | .dct _ => rfl
  | .call _ _ => rfl
  | .blt _ _ => rfl
theorem nostarE {sc : Scope} {ie : IE} {e : Expr} (h : chkE T sc ie e = true) : ∀ x p, e ≠ .Starred x p := by
  intro x p z
  rw [z, chkE_star] at h
  cases h
theorem nostarL {sc : Scope} : ∀ {es : IEs} {es' : List Expr}, chkL T sc es es' = true → ∀ e ∈ es', ∀ x p, e ≠ .Starred x p
  | .nil, [], _, e, he => absurd he List.not_mem_nil
  | .cons i es, e' :: es', h, e, he => by
    rw [chkL, Bool.and_eq_true] at h
    rcases List.mem_cons.mp he with rfl | he
    · exact nostarE h.1
    · exact nostarL h.2 e he
  | .nil, _ :: _, h, _, _ => by cases h
  | .cons _ _, [], h, _, _ => by cases h
def lenEs : IEs → Nat
  | .nil => 0
  | .cons _ es => lenEs es + 1
theorem evL_len : ∀ (es : IEs) (η : En) (S : Sto), (evL C es η S).se (fun _ _ => True) (fun l _ => l.length = lenEs es) ∨ evL C es η S = .bad
  | .nil, η, S => .inl rfl
  | .cons e es, η, S => by
    rw [evL]
    cases h : ev C e η S with
    | bad => exact .inr rfl
    | ex _ _ => exact .inl trivial
    | ok x S1 =>
      rw [R.bind_ok]
      rcases evL_len es η S1 with z | z
      · cases h2 : evL C es η S1 with
        | bad => exact .inr rfl
        | ex _ _ => exact .inl trivial
        | ok l S2 =>
          rw [h2] at z
          left
          show (x :: l).length = lenEs es + 1
          rw [List.length_cons, show l.length = lenEs es from z]
      · rw [z]; exact .inr rfl
theorem chkL_len {sc : Scope} : ∀ {es : IEs} {es' : List Expr}, chkL T sc es es' = true → lenEs es = es'.length
  | .nil, [], _ => rfl
  | .cons e es, e' :: es', h => by
    rw [chkL, Bool.and_eq_true] at h
    rw [lenEs, chkL_len h.2, List.length_cons]
  | .nil, _ :: _, h => by cases h
  | .cons _ _, [], h => by cases h
theorem evL_le {sc : Scope} {es : IEs} {es' : List Expr} {n : Nat} (h : chkL T sc es es' = true) (hn : es'.length ≤ n) (η : En) (S : Sto) : (evL C es η S).se (fun _ _ => True) (fun l _ => l.length ≤ n) ∨ evL C es η S = .bad := by
  rcases evL_len es η S with z | z
  · exact .inl (R.se_mono z fun l _ q => by rw [q, chkL_len h]; exact hn)
  · exact .inr z
theorem evL_eq {sc : Scope} {es : IEs} {es' : List Expr} (h : chkL T sc es es' = true) (η : En) (S : Sto) : (evL C es η S).se (fun _ _ => True) (fun l _ => l.length = es'.length) ∨ evL C es η S = .bad := by
  rcases evL_len es η S with z | z
  · exact .inl (R.se_mono z fun l _ q => by rw [q, chkL_len h])
  · exact .inr z
def lenKs : IKs → Nat
  | .nil => 0
  | .cons _ _ r => lenKs r + 1
theorem evK_len : ∀ (es : IKs) (η : En) (S : Sto), (evK C es η S).se (fun _ _ => True) (fun l _ => l.length = lenKs es) ∨ evK C es η S = .bad
  | .nil, η, S => .inl rfl
  | .cons k v r, η, S => by
    rw [evK]
    cases h : ev C k η S with
    | bad => exact .inr rfl
    | ex _ _ => exact .inl trivial
    | ok x S1 =>
      rw [R.bind_ok]
      cases h1 : ev C v η S1 with
      | bad => exact .inr rfl
      | ex _ _ => exact .inl trivial
      | ok y S2 =>
        rw [R.bind_ok]
        rcases evK_len r η S2 with z | z
        · cases h2 : evK C r η S2 with
          | bad => exact .inr rfl
          | ex _ _ => exact .inl trivial
          | ok l S3 =>
            rw [h2] at z
            rw [R.bind_ok]
            cases kOf x with
            | none => exact .inr rfl
            | some kk =>
              left
              show ((kk, y) :: l).length = lenKs r + 1
              rw [List.length_cons, show l.length = lenKs r from z]
        · rw [z]; exact .inr rfl
theorem chkK_len {sc : Scope} : ∀ {es : IKs} {ks : List (Option Expr)} {vs : List Expr}, chkK T sc es ks vs = true → lenKs es = ks.length ∧ ks.all (·.isSome) = true
  | .nil, [], [], _ => ⟨rfl, rfl⟩
  | .cons k v r, some k' :: ks, v' :: vs, h => by
    rw [chkK, Bool.and_eq_true, Bool.and_eq_true] at h
    obtain ⟨h1, h2⟩ := chkK_len h.2
    exact ⟨by rw [lenKs, h1, List.length_cons], by rw [List.all_cons, h2]; rfl⟩
  | .nil, _ :: _, _, h => by cases h
  | .nil, [], _ :: _, h => by cases h
  | .cons _ _ _, [], _, h => by cases h
  | .cons _ _ _, none :: _, _, h => by cases h
  | .cons _ _ _, some _ :: _, [], h => by cases h
theorem plain_any {es : List Expr} {pos : Pos} {env : Env} {sc : Scope} : ∀ {ies : IEs}, chkL T sc ies es = true → (backTo pos (starEach es env)).any (·.1) = false := by
  induction es with
  | nil => intro _ _; rfl
  | cons e es ih =>
    intro ies h
    cases ies with
    | nil => cases h
    | cons i is =>
      rw [chkL, Bool.and_eq_true] at h
      rw [star_cons _ _ _ (nostarE h.1)]
      show (false || (backTo pos (starEach es env)).any (·.1)) = false
      rw [ih h.2]
      rfl
def lenTs : ITs → Nat
  | .nil => 0
  | .cons _ ts => lenTs ts + 1
theorem chkTs_len {sc : Scope} {fB : Str → Bool} {own : List Nat} : ∀ {ts : ITs} {es : List Expr}, chkTs T sc fB own ts es = true → lenTs ts = es.length
  | .nil, [], _ => rfl
  | .cons t ts, e :: es, h => by
    rw [chkTs, Bool.and_eq_true] at h
    rw [lenTs, chkTs_len h.2, List.length_cons]
  | .nil, _ :: _, h => by cases h
  | .cons _ _, [], h => by cases h
theorem asgns_len : ∀ (ts : ITs) (l : List Va) (η : En) (S : Sto), l.length ≠ lenTs ts → asgns C ts l η S = .bad
  | .nil, [], _, _, h => absurd rfl h
  | .nil, _ :: _, _, _, _ => rfl
  | .cons _ _, [], _, _, _ => rfl
  | .cons t ts, v :: vs, η, S, h => by
    rw [asgns]
    cases hq : asgn C t v η S with
    | bad => rfl
    | ex _ _ => rfl
    | ok η1 S1 =>
      rw [R.nx_ok, R.bind_ok]
      exact asgns_len ts vs η1 S1 fun z => h (by rw [List.length_cons, z, lenTs])
theorem chkSt_len {sc : Scope} {fB : Str → Bool} {own : List Nat} {i : Nat} : ∀ {ts : ITs} {es : List Expr}, chkSt T sc fB own ts i es = true → es.length = lenTs ts + 1
  | .nil, [e], _ => rfl
  | .cons t ts, e :: es, h => by
    rw [chkSt, Bool.and_eq_true] at h
    rw [lenTs, List.length_cons, chkSt_len h.2]
  | .nil, [], h => by cases h
  | .nil, e :: _ :: _, h => by
    cases e with
    | Starred v p => cases v <;> cases h
    | _ => cases h
  | .cons _ _, [], h => by cases h
/-- the starred targets, the list already made -/
def stG (C : Cfg) : ITs → Nat → List Va → En → Sto → R En
  | .nil, i, [v], η, S => .ok (η.set i (some v)) S
  | .cons t ts, i, v :: vs, η, S => (asgn C t v η S).nx.bind fun η1 S1 => stG C ts i vs η1 S1
  | _, _, _, _, _ => .bad
theorem asgnSt_eq : ∀ (ts : ITs) (i : Nat) (l : List PyData) (η : En) (S : Sto), lenTs ts ≤ l.length → asgnSt C ts i l η S = stG C ts i ((l.take (lenTs ts)).map .d ++ [.d (.list (l.drop (lenTs ts)))]) η S
  | .nil, i, l, η, S, _ => rfl
  | .cons t ts, i, x :: l, η, S, h => by
    rw [asgnSt]
    show _ = (asgn C t (.d x) η S).nx.bind fun η1 S1 => stG C ts i ((l.take (lenTs ts)).map .d ++ [.d (.list (l.drop (lenTs ts)))]) η1 S1
    cases asgn C t (.d x) η S with
    | bad => rfl
    | ex _ _ => rfl
    | ok η1 S1 => exact asgnSt_eq ts i l η1 S1 (by have : lenTs ts + 1 ≤ l.length + 1 := h; omega)
  | .cons _ _, _, [], _, _, h => absurd h (by show ¬ (_ + 1 ≤ 0); omega)
theorem asgnSt_bad : ∀ (ts : ITs) (i : Nat) (l : List PyData) (η : En) (S : Sto), l.length < lenTs ts → asgnSt C ts i l η S = .bad
  | .nil, _, _, _, _, h => absurd h (Nat.not_lt_zero _)
  | .cons t ts, i, x :: l, η, S, h => by
    rw [asgnSt]
    cases asgn C t (.d x) η S with
    | bad => rfl
    | ex _ _ => rfl
    | ok η1 S1 => exact asgnSt_bad ts i l η1 S1 (by have : l.length + 1 < lenTs ts + 1 := h; omega)
  | .cons _ _, _, [], _, _, _ => rfl
end
end Nb

namespace Nb
open PySem L2
section
variable {T : Tab} {sc : Scope}
theorem inv_cmp {op : Co} {a b : IE} {e : Expr} (h : chkE T sc (.cmp op a b) e = true) : ∃ a' op' b' pos, e = .Compare a' [op'] [b'] pos ∧ (coB op op' && chkE T sc a a' && chkE T sc b b' && !behindInMarks op' b') = true := by
  cases e <;> first | (exact absurd h Bool.false_ne_true) | skip
  rename_i l os cs pos
  cases os with
  | nil => exact absurd h Bool.false_ne_true
  | cons o os =>
    cases os with
    | nil =>
      cases cs with
      | nil => exact absurd h Bool.false_ne_true
      | cons c1 cs =>
        cases cs with
        | nil => exact ⟨_, _, _, _, rfl, h⟩
        | cons _ _ => exact absurd h Bool.false_ne_true
    | cons o2 os => exact absurd h Bool.false_ne_true
theorem inv_cmp2 {op op2 : Co} {a b c : IE} {e : Expr} (h : chkE T sc (.cmp2 op op2 a b c) e = true) :
    ∃ a' o1 o2 b' c' pos, e = .Compare a' [o1, o2] [b', c'] pos ∧ (coB op o1 && coB op2 o2 && chkE T sc a a' && chkE T sc b b' && chkE T sc c c' && !behindInMarks o2 c') = true := by
  cases e <;> first | (exact absurd h Bool.false_ne_true) | skip
  rename_i l os cs pos
  cases os <;> first | (exact absurd h Bool.false_ne_true) | skip
  rename_i o os
  cases os with
  | nil => cases cs <;> first | (exact absurd h Bool.false_ne_true) | (rename_i c cs; cases cs <;> exact absurd h Bool.false_ne_true)
  | cons o2 os =>
    cases os with
    | cons _ _ => cases cs <;> first | (exact absurd h Bool.false_ne_true) | (rename_i c cs; cases cs <;> first | (exact absurd h Bool.false_ne_true) | (rename_i c2 cs; cases cs <;> exact absurd h Bool.false_ne_true))
    | nil =>
      cases cs with
      | nil => exact absurd h Bool.false_ne_true
      | cons c1 cs =>
        cases cs with
        | nil => exact absurd h Bool.false_ne_true
        | cons c2 cs =>
          cases cs with
          | nil => exact ⟨_, _, _, _, _, _, rfl, h⟩
          | cons _ _ => exact absurd h Bool.false_ne_true
theorem inv_and {a b : IE} {e : Expr} (h : chkE T sc (.and a b) e = true) : ∃ a' b' r pos, e = .BoolOp .And (a' :: b' :: r) pos ∧ (chkE T sc a a' && chkE T sc b (unOne (.BoolOp .And (b' :: r) pos))) = true := by
  cases e <;> first | (exact absurd h Bool.false_ne_true) | skip
  rename_i op es pos
  cases es with
  | nil => cases op <;> exact absurd h Bool.false_ne_true
  | cons x es =>
    cases es with
    | nil => cases op <;> exact absurd h Bool.false_ne_true
    | cons y r =>
      cases op with
      | And => exact ⟨_, _, _, _, rfl, h⟩
      | Or => exact absurd h Bool.false_ne_true
theorem inv_or {a b : IE} {e : Expr} (h : chkE T sc (.or a b) e = true) : ∃ a' b' r pos, e = .BoolOp .Or (a' :: b' :: r) pos ∧ (chkE T sc a a' && chkE T sc b (unOne (.BoolOp .Or (b' :: r) pos))) = true := by
  cases e <;> first | (exact absurd h Bool.false_ne_true) | skip
  rename_i op es pos
  cases es with
  | nil => cases op <;> exact absurd h Bool.false_ne_true
  | cons x es =>
    cases es with
    | nil => cases op <;> exact absurd h Bool.false_ne_true
    | cons y r =>
      cases op with
      | Or => exact ⟨_, _, _, _, rfl, h⟩
      | And => exact absurd h Bool.false_ne_true
theorem inv_sl {a : IE} {lo hi : IO} {e : Expr} (h : chkE T sc (.sl a lo hi) e = true) : ∃ a' lo' hi' p2 pos, e = .Subscript a' (.Slice lo' hi' none p2) pos ∧ (chkE T sc a a' && chkO T sc lo lo' && chkO T sc hi hi') = true := by
  cases e <;> first | (exact absurd h Bool.false_ne_true) | skip
  rename_i x s pos
  cases s <;> first | (exact absurd h Bool.false_ne_true) | skip
  rename_i l u st p2
  cases st with
  | none => exact ⟨_, _, _, _, _, rfl, h⟩
  | some _ => exact absurd h Bool.false_ne_true
theorem inv_dct0 {e : Expr} (h : chkE T sc .dct0 e = true) : ∃ pos, e = .Dict [] [] pos := by
  cases e <;> first | (exact absurd h Bool.false_ne_true) | skip
  rename_i ks vs pos
  cases ks with
  | nil =>
    cases vs with
    | nil => exact ⟨_, rfl⟩
    | cons _ _ => exact absurd h Bool.false_ne_true
  | cons _ _ => exact absurd h Bool.false_ne_true
theorem inv_call {f : Nat} {es : IEs} {e : Expr} (h : chkE T sc (.call f es) e = true) : ∃ x p es' pos, e = .Call (.Name x p) es' [] pos ∧ (decide (T.fn[f]? = some (x, es'.length)) && glB sc x && okNm x && chkL T sc es es') = true := by
  cases e <;> first | (exact absurd h Bool.false_ne_true) | skip
  rename_i fn as ks pos
  cases fn <;> first | (exact absurd h Bool.false_ne_true) | skip
  cases ks with
  | nil => exact ⟨_, _, _, _, rfl, h⟩
  | cons _ _ => exact absurd h Bool.false_ne_true
theorem inv_fld {f : Str} {a : IE} {e : Expr} (h : chkE T sc (.fld a f) e = true) : ∃ a' pos, e = .Attribute a' f pos ∧ chkE T sc a a' = true ∧ call0B a' = false := by
  cases e <;> first | (exact absurd h Bool.false_ne_true) | skip
  rename_i o g pos
  have h : (decide (f = g) && chkE T sc a o && !call0B o) = true := h
  simp only [Bool.and_eq_true, decide_eq_true_eq, Bool.not_eq_true'] at h
  obtain ⟨⟨rfl, h1⟩, h2⟩ := h
  exact ⟨_, _, rfl, h1, h2⟩
theorem inv_mko {cn : Str} {es : IEs} {e : Expr} (h : chkE T sc (.mko cn es) e = true) : ∃ p es' pos, e = .Call (.Name cn p) es' [] pos ∧ (mkoB T.os.cs cn es'.length && glB sc cn && okNm cn && chkL T sc es es') = true := by
  cases e <;> first | (exact absurd h Bool.false_ne_true) | skip
  rename_i fn as ks pos
  cases fn <;> first | (exact absurd h Bool.false_ne_true) | skip
  rename_i x p
  cases ks with
  | nil =>
    have h : (decide (x = cn) && mkoB T.os.cs cn as.length && glB sc x && okNm x && chkL T sc es as) = true := h
    simp only [Bool.and_eq_true, decide_eq_true_eq] at h
    obtain ⟨⟨⟨⟨rfl, h1⟩, h2⟩, h3⟩, h4⟩ := h
    exact ⟨_, _, _, rfl, by rw [h1, h2, h3, h4]; rfl⟩
  | cons _ _ => exact absurd h Bool.false_ne_true
theorem inv_mth {m : Str} {o : IE} {es : IEs} {e : Expr} (h : chkE T sc (.mth m o es) e = true) :
    ∃ o' apos as pos, e = .Call (.Attribute o' m apos) as [] pos ∧ (chkE T sc o o' && chkL T sc es as && decide (as.length < 29) && !call0B o' && (apos.endLine == pos.line)) = true := by
  cases e <;> first | (exact absurd h Bool.false_ne_true) | skip
  rename_i fn as ks pos
  cases fn <;> first | (exact absurd h Bool.false_ne_true) | skip
  rename_i o' m' apos
  cases ks with
  | nil =>
    have h : (decide (m = m') && chkE T sc o o' && chkL T sc es as && decide (as.length < 29) && !call0B o' && (apos.endLine == pos.line)) = true := h
    rw [Bool.and_eq_true, Bool.and_eq_true, Bool.and_eq_true, Bool.and_eq_true, Bool.and_eq_true, decide_eq_true_eq] at h
    obtain ⟨⟨⟨⟨⟨rfl, h1⟩, h2⟩, h3⟩, h4⟩, h5⟩ := h
    exact ⟨_, _, _, _, rfl, by rw [h1, h2, h3, h4, h5]; rfl⟩
  | cons _ _ => exact absurd h Bool.false_ne_true
theorem inv_callK {j : Nat} {es ks : IEs} {e : Expr} (h : chkE T sc (.callK j es ks) e = true) :
    ∃ x p es' ks' pos, e = .Call (.Name x p) es' ks' pos ∧ (kwB T.os.kw j x es'.length (ks'.map (·.arg)) && glB sc x && okNm x && !es'.isEmpty && chkL T sc es es' && chkKw T sc ks ks') = true := by
  cases e <;> first | (exact absurd h Bool.false_ne_true) | skip
  rename_i fn as ks pos
  cases fn <;> first | (exact absurd h Bool.false_ne_true) | skip
  exact ⟨_, _, _, _, _, rfl, h⟩
theorem inv_dyn {i : Nat} {fl : List (Str × Nat)} {es : IEs} {e : Expr} (h : chkE T sc (.dyn i fl es) e = true) : ∃ x p es' pos, e = .Call (.Name x p) es' [] pos ∧ (decide (T.N[i]? = some x) && visB sc x && okNm x && decide (fl = T.fn) && chkL T sc es es' && !es'.isEmpty) = true := by
  cases e <;> first | (exact absurd h Bool.false_ne_true) | skip
  rename_i fn as ks pos
  cases fn <;> first | (exact absurd h Bool.false_ne_true) | skip
  cases ks with
  | nil => exact ⟨_, _, _, _, rfl, h⟩
  | cons _ _ => exact absurd h Bool.false_ne_true
theorem inv_blt {f : Bf} {es : IEs} {e : Expr} (h : chkE T sc (.blt f es) e = true) : ∃ x p es' pos, e = .Call (.Name x p) es' [] pos ∧ (decide (x = bfNm f) && glB sc x && chkL T sc es es' && !es'.isEmpty) = true := by
  cases e <;> first | (exact absurd h Bool.false_ne_true) | skip
  rename_i fn as ks pos
  cases fn <;> first | (exact absurd h Bool.false_ne_true) | skip
  cases ks with
  | nil => exact ⟨_, _, _, _, rfl, h⟩
  | cons _ _ => exact absurd h Bool.false_ne_true
theorem inv_met {m : Mt} {o : IE} {es : IEs} {e : Expr} (h : chkE T sc (.met m o es) e = true) :
    ∃ o' name apos as pos, e = .Call (.Attribute o' name apos) as [] pos ∧ (decide (name = mtNm m) && chkE T sc o o' && chkL T sc es as && decide (as.length = mtN m) && !call0B o' && (apos.endLine == pos.line)) = true := by
  cases e <;> first | (exact absurd h Bool.false_ne_true) | skip
  rename_i fn as ks pos
  cases fn <;> first | (exact absurd h Bool.false_ne_true) | skip
  cases ks with
  | nil => exact ⟨_, _, _, _, _, rfl, h⟩
  | cons _ _ => exact absurd h Bool.false_ne_true
theorem inv_isi {k : Tk} {a : IE} {e : Expr} (h : chkE T sc (.isi a k) e = true) : ∃ x p a' y p2 pos, e = .Call (.Name x p) [a', .Name y p2] [] pos ∧ (decide (x = "isinstance") && decide (y = Str.ofString (tkS k)) && glB sc x && glB sc y && chkE T sc a a') = true := by
  cases e <;> first | (exact absurd h Bool.false_ne_true) | skip
  rename_i fn as ks pos
  cases fn <;> first | (exact absurd h Bool.false_ne_true) | skip
  cases as with
  | nil => exact absurd h Bool.false_ne_true
  | cons a1 r =>
    cases r with
    | nil => exact absurd h Bool.false_ne_true
    | cons a2 r =>
      cases r with
      | cons _ _ => cases a2 <;> exact absurd h Bool.false_ne_true
      | nil =>
        cases a2 <;> first | (exact absurd h Bool.false_ne_true) | skip
        cases ks with
        | nil => exact ⟨_, _, _, _, _, _, rfl, h⟩
        | cons _ _ => exact absurd h Bool.false_ne_true
theorem inv_rpt {a : IF} {n : IE} {e : Expr} (h : chkF T sc (.rpt a n) e = true) : ∃ a' n' pos, e = .BinOp a' .Mult n' pos ∧ (chkF T sc a a' && chkE T sc n n') = true := by
  cases e <;> first | (exact absurd h Bool.false_ne_true) | skip
  rename_i l op r pos
  cases op <;> first | (exact absurd h Bool.false_ne_true) | skip
  exact ⟨_, _, _, rfl, h⟩
theorem inv_cat {a b : IE} {e : Expr} (h : chkF T sc (.cat a b) e = true) : ∃ a' b' pos, e = .BinOp a' .Add b' pos ∧ (chkE T sc a a' && chkE T sc b b') = true := by
  cases e <;> first | (exact absurd h Bool.false_ne_true) | skip
  rename_i l op r pos
  cases op <;> first | (exact absurd h Bool.false_ne_true) | exact ⟨_, _, _, rfl, h⟩
def cmpB (T : Tab) (sc : Scope) (elt : IE) (tg : IT) (it : II) (cd : IO) (own : List Nat) (elt' tg' iter' : Expr) (ifs' : List Expr) (scope : Scope) : Bool :=
  chkI T sc it tg' iter' && !isSetB iter' && blkC T.N sc scope (own.map fun i => (T.N.getD i "", i)) && chkT T.in_ (relS scope sc) (fun x => scope.names.lookup x == some .cell) own tg tg' && chkC T.in_ (relS scope sc) cd ifs' && chkE T.in_ (relS scope sc) elt elt' && (own.all fun i => decide (i < T.N.length))
theorem inv_comp {elt : IE} {tg : IT} {it : II} {cd : IO} {own : List Nat} {e : Expr} (h : chkF T sc (.comp elt tg it cd own) e = true) :
    ∃ elt' tg' iter' ifs' scope pos, e = .ListComp elt' [⟨tg', iter', ifs', 0⟩] scope pos ∧ cmpB T sc elt tg it cd own elt' tg' iter' ifs' scope = true := by
  cases e <;> first | (exact absurd h Bool.false_ne_true) | skip
  rename_i el gs scp pos
  cases gs with
  | nil => exact absurd h Bool.false_ne_true
  | cons g r =>
    obtain ⟨tg', it', ifs', as⟩ := g
    cases r with
    | cons _ _ => exact absurd h Bool.false_ne_true
    | nil =>
      have h : (decide (as = 0) && cmpB T sc elt tg it cd own el tg' it' ifs' scp) = true := h
      rw [Bool.and_eq_true, decide_eq_true_eq] at h
      obtain ⟨rfl, h⟩ := h
      exact ⟨_, _, _, _, _, _, rfl, h⟩
theorem inv_compX {elt : IE} {tg : IT} {it : II} {cd : IO} {own : List Nat} {e : Expr} (h : chkF T sc (.compX elt tg it cd own) e = true) :
    ∃ elt' tg' iter' ifs' scope pos, e = .ListComp elt' [⟨tg', iter', ifs', 0⟩] scope pos ∧ T.own = true ∧ cmpB T sc elt tg it cd own elt' tg' iter' ifs' scope = true := by
  cases e <;> first | (exact absurd h Bool.false_ne_true) | skip
  rename_i el gs scp pos
  cases gs with
  | nil => exact absurd h Bool.false_ne_true
  | cons g r =>
    obtain ⟨tg', it', ifs', as⟩ := g
    cases r with
    | cons _ _ => exact absurd h Bool.false_ne_true
    | nil =>
      have h : (T.own && (decide (as = 0) && cmpB T sc elt tg it cd own el tg' it' ifs' scp)) = true := h
      rw [Bool.and_eq_true, Bool.and_eq_true, decide_eq_true_eq] at h
      obtain ⟨h0, rfl, h9⟩ := h
      exact ⟨_, _, _, _, _, _, rfl, h0, h9⟩
def cmpBC (T : Tab) (sc : Scope) (elt : IE) (tg : IT) (i : Nat) (cd : IO) (own : List Nat) (elt' tg' iter' : Expr) (ifs' : List Expr) (scope : Scope) : Bool :=
  locE T sc i iter' && !isSetB iter' && blkC T.N sc scope (own.map fun i => (T.N.getD i "", i)) && chkT T.in_ (relS scope sc) (fun x => scope.names.lookup x == some .cell) own tg tg' && chkC T.in_ (relS scope sc) cd ifs' && chkE T.in_ (relS scope sc) elt elt' && (own.all fun i => decide (i < T.N.length))
theorem inv_compC {elt : IE} {tg : IT} {i : Nat} {cd : IO} {own : List Nat} {e : Expr} (h : chkF T sc (.cmpC elt tg i cd own) e = true) :
    ∃ elt' tg' iter' ifs' scope pos, e = .ListComp elt' [⟨tg', iter', ifs', 0⟩] scope pos ∧ cmpBC T sc elt tg i cd own elt' tg' iter' ifs' scope = true := by
  cases e <;> first | (exact absurd h Bool.false_ne_true) | skip
  rename_i el gs scp pos
  cases gs with
  | nil => exact absurd h Bool.false_ne_true
  | cons g r =>
    obtain ⟨tg', it', ifs', as⟩ := g
    cases r with
    | cons _ _ => exact absurd h Bool.false_ne_true
    | nil =>
      have h : (decide (as = 0) && cmpBC T sc elt tg i cd own el tg' it' ifs' scp) = true := h
      rw [Bool.and_eq_true, decide_eq_true_eq] at h
      obtain ⟨rfl, h⟩ := h
      exact ⟨_, _, _, _, _, _, rfl, h⟩
theorem locE_inv {i : Nat} {e : Expr} (h : locE T sc i e = true) : ∃ x p, e = .Name x p ∧ T.N[i]? = some x ∧ visB sc x = true ∧ okNm x = true := by
  cases e <;> first | (exact absurd h Bool.false_ne_true) | skip
  rename_i x p
  have h : (decide (T.N[i]? = some x) && visB sc x && okNm x) = true := h
  simp only [Bool.and_eq_true, decide_eq_true_eq] at h
  exact ⟨x, p, rfl, h.1.1, h.1.2, h.2⟩
def cmpBE (T : Tab) (sc : Scope) (elt : IE) (tg : IT) (i : Nat) (cd : IO) (own : List Nat) (elt' tg' iter' : Expr) (ifs' : List Expr) (scope : Scope) : Bool :=
  enuE T sc i iter' && isTpB tg' && blkC T.N sc scope (own.map fun i => (T.N.getD i "", i)) && chkT T.in_ (relS scope sc) (fun x => scope.names.lookup x == some .cell) own tg tg' && chkC T.in_ (relS scope sc) cd ifs' && chkE T.in_ (relS scope sc) elt elt' && (own.all fun i => decide (i < T.N.length))
theorem inv_compE {elt : IE} {tg : IT} {i : Nat} {cd : IO} {own : List Nat} {e : Expr} (h : chkF T sc (.cmpE elt tg i cd own) e = true) :
    ∃ elt' tg' iter' ifs' scope pos, e = .ListComp elt' [⟨tg', iter', ifs', 0⟩] scope pos ∧ cmpBE T sc elt tg i cd own elt' tg' iter' ifs' scope = true := by
  cases e <;> first | (exact absurd h Bool.false_ne_true) | skip
  rename_i el gs scp pos
  cases gs with
  | nil => exact absurd h Bool.false_ne_true
  | cons g r =>
    obtain ⟨tg', it', ifs', as⟩ := g
    cases r with
    | cons _ _ => exact absurd h Bool.false_ne_true
    | nil =>
      have h : (decide (as = 0) && cmpBE T sc elt tg i cd own el tg' it' ifs' scp) = true := h
      rw [Bool.and_eq_true, decide_eq_true_eq] at h
      obtain ⟨rfl, h⟩ := h
      exact ⟨_, _, _, _, _, _, rfl, h⟩
theorem enuE_inv {i : Nat} {e : Expr} (h : enuE T sc i e = true) : ∃ x p a pos, e = .Call (.Name x p) [a] [] pos ∧ x = "enumerate" ∧ glB sc x = true ∧ locE T sc i a = true := by
  cases e <;> first | (exact absurd h Bool.false_ne_true) | skip
  rename_i f as ks pos
  cases f <;> first | (exact absurd h Bool.false_ne_true) | skip
  rename_i x p
  cases as with
  | nil => exact absurd h Bool.false_ne_true
  | cons a r =>
    cases r with
    | cons _ _ => exact absurd h Bool.false_ne_true
    | nil =>
      cases ks with
      | cons _ _ => exact absurd h Bool.false_ne_true
      | nil =>
        have h : (decide (x = "enumerate") && glB sc x && locE T sc i a) = true := h
        simp only [Bool.and_eq_true, decide_eq_true_eq] at h
        exact ⟨x, p, a, pos, rfl, h.1.1, h.1.2, h.2⟩
theorem inv_rev {a : IE} {e : Expr} (h : chkF T sc (.rev a) e = true) : ∃ a' k p1 p2 p3 pos, e = .Subscript a' (.Slice none none (some (.UnaryOp .USub (.Constant (.int 1) k p1) p2)) p3) pos ∧ chkE T sc a a' = true := by
  cases e <;> first | (exact absurd h Bool.false_ne_true) | skip
  rename_i x s pos
  cases s <;> first | (exact absurd h Bool.false_ne_true) | skip
  rename_i l u st p2
  cases l <;> first | (exact absurd h Bool.false_ne_true) | skip
  cases u <;> first | (exact absurd h Bool.false_ne_true) | skip
  cases st <;> first | (exact absurd h Bool.false_ne_true) | skip
  rename_i st
  cases st <;> first | (exact absurd h Bool.false_ne_true) | skip
  rename_i op c _
  cases op <;> first | (exact absurd h Bool.false_ne_true) | skip
  cases c <;> first | (exact absurd h Bool.false_ne_true) | skip
  rename_i v _ _
  cases v <;> first | (exact absurd h Bool.false_ne_true) | skip
  rename_i i
  have h : (decide (i = 1) && chkE T sc a x) = true := h
  rw [Bool.and_eq_true, decide_eq_true_eq] at h
  obtain ⟨rfl, h⟩ := h
  exact ⟨_, _, _, _, _, _, rfl, h⟩
theorem inv_rv {a : IE} {e : Expr} (h : chkE T sc (.rv a) e = true) : ∃ a' k p1 p2 p3 pos, e = .Subscript a' (.Slice none none (some (.UnaryOp .USub (.Constant (.int 1) k p1) p2)) p3) pos ∧ chkE T sc a a' = true := by
  cases e <;> first | (exact absurd h Bool.false_ne_true) | skip
  rename_i x s pos
  cases s <;> first | (exact absurd h Bool.false_ne_true) | skip
  rename_i l u st p2
  cases l <;> first | (exact absurd h Bool.false_ne_true) | skip
  cases u <;> first | (exact absurd h Bool.false_ne_true) | skip
  cases st <;> first | (exact absurd h Bool.false_ne_true) | skip
  rename_i st
  cases st <;> first | (exact absurd h Bool.false_ne_true) | skip
  rename_i op c _
  cases op <;> first | (exact absurd h Bool.false_ne_true) | skip
  cases c <;> first | (exact absurd h Bool.false_ne_true) | skip
  rename_i v _ _
  cases v <;> first | (exact absurd h Bool.false_ne_true) | skip
  rename_i i
  have h : (decide (i = 1) && chkE T sc a x) = true := h
  rw [Bool.and_eq_true, decide_eq_true_eq] at h
  obtain ⟨rfl, h⟩ := h
  exact ⟨_, _, _, _, _, _, rfl, h⟩
theorem inv_lst {a : IE} {e : Expr} (h : chkF T sc (.lst a) e = true) : ∃ x p a' pos, e = .Call (.Name x p) [a'] [] pos ∧ (decide (x = "list") && glB sc x && chkE T sc a a') = true := by
  cases e <;> first | (exact absurd h Bool.false_ne_true) | skip
  rename_i fn as ks pos
  cases fn <;> first | (exact absurd h Bool.false_ne_true) | skip
  cases as with
  | nil => exact absurd h Bool.false_ne_true
  | cons a r =>
    cases r with
    | cons _ _ => exact absurd h Bool.false_ne_true
    | nil =>
      cases ks with
      | nil => exact ⟨_, _, _, _, rfl, h⟩
      | cons _ _ => exact absurd h Bool.false_ne_true
theorem inv_srs {a : IE} {e : Expr} (h : chkF T sc (.srs a) e = true) : ∃ x p y p2 a' pos2 pos, e = .Call (.Name x p) [.Call (.Name y p2) [a'] [] pos2] [] pos ∧ (decide (x = "sorted") && glB sc x && decide (y = "set") && glB sc y && chkE T sc a a') = true := by
  cases e <;> first | (exact absurd h Bool.false_ne_true) | skip
  rename_i fn as ks pos
  cases fn <;> first | (exact absurd h Bool.false_ne_true) | skip
  cases as with
  | nil => exact absurd h (by simp [chkF])
  | cons b r =>
    cases r with
    | cons _ _ => exact absurd h (by simp [chkF])
    | nil =>
      cases b <;> first | (exact absurd h Bool.false_ne_true) | skip
      rename_i fn as ks2 pos2
      cases fn <;> first | (exact absurd h Bool.false_ne_true) | skip
      cases as with
      | nil => exact absurd h (by simp [chkF])
      | cons a' r =>
        cases r with
        | cons _ _ => exact absurd h (by simp [chkF])
        | nil =>
          cases ks2 with
          | cons _ _ => exact absurd h (by simp [chkF])
          | nil =>
            cases ks with
            | cons _ _ => exact absurd h (by simp [chkF])
            | nil => exact ⟨_, _, _, _, _, _, _, rfl, h⟩
theorem inv_enu {es : IEs} {tg e : Expr} (h : chkI T sc (.enu es) tg e = true) : ∃ x p es' pos, e = .Call (.Name x p) es' [] pos ∧ (decide (x = "enumerate") && glB sc x && chkL T sc es es' && decide (es'.length = 1) && isTpB tg) = true := by
  cases e <;> first | (exact absurd h Bool.false_ne_true) | skip
  rename_i fn as ks pos
  cases fn <;> first | (exact absurd h Bool.false_ne_true) | skip
  cases ks with
  | nil => exact ⟨_, _, _, _, rfl, h⟩
  | cons _ _ => exact absurd h Bool.false_ne_true
theorem inv_zip {es : IEs} {tg e : Expr} (h : chkI T sc (.zip es) tg e = true) : ∃ x p es' pos, e = .Call (.Name x p) es' [] pos ∧ (decide (x = "zip") && glB sc x && chkL T sc es es' && decide (es'.length = 2) && isTpB tg) = true := by
  cases e <;> first | (exact absurd h Bool.false_ne_true) | skip
  rename_i fn as ks pos
  cases fn <;> first | (exact absurd h Bool.false_ne_true) | skip
  cases ks with
  | nil => exact ⟨_, _, _, _, rfl, h⟩
  | cons _ _ => exact absurd h Bool.false_ne_true
theorem inv_rng {es : IEs} {tg e : Expr} (h : chkI T sc (.rng es) tg e = true) : ∃ x p es' pos, e = .Call (.Name x p) es' [] pos ∧ (decide (x = "range") && glB sc x && chkL T sc es es' && decide (1 ≤ es'.length) && decide (es'.length ≤ 3)) = true := by
  cases e <;> first | (exact absurd h Bool.false_ne_true) | skip
  rename_i fn as ks pos
  cases fn <;> first | (exact absurd h Bool.false_ne_true) | skip
  cases ks with
  | nil => exact ⟨_, _, _, _, rfl, h⟩
  | cons _ _ => exact absurd h Bool.false_ne_true
theorem inv_st0 {fB : Str → Bool} {own : List Nat} {i : Nat} {es : List Expr} (h : chkSt T sc fB own .nil i es = true) : ∃ x p p2, es = [.Starred (.Name x p) p2] ∧ (decide (T.N[i]? = some x) && locB sc x && decide (i ∈ own) && (fB x || justLocB sc x)) = true := by
  cases es with
  | nil => exact absurd h Bool.false_ne_true
  | cons e r =>
    cases e <;> first | (exact absurd h Bool.false_ne_true) | skip
    rename_i v _
    cases v <;> first | (exact absurd h Bool.false_ne_true) | skip
    cases r with
    | nil => exact ⟨_, _, _, rfl, h⟩
    | cons _ _ => exact absurd h Bool.false_ne_true
/-! statements -/
theorem inv_asg {t : IT} {e : IE} {s : Stmt} (h : chkS T sc (.asg t e) s = true) : ∃ t' e' pos, s = .Assign [t'] e' pos ∧ (chkE T sc e e' && chkT T sc (fun _ => true) (slotsT t) t t' && (!isCompB e' || isSubB t' || celNm sc t') && (!(isTupB t' && isTupB e') || foldB e')) = true := by
  cases s <;> first | (exact absurd h Bool.false_ne_true) | skip
  rename_i ts v pos
  cases ts with
  | nil => exact absurd h Bool.false_ne_true
  | cons a r =>
    cases r with
    | nil => exact ⟨_, _, _, rfl, h⟩
    | cons _ _ => exact absurd h Bool.false_ne_true
def setB (T : Tab) (sc : Scope) (f : IF) (i : Nat) (x : Str) (px p : Pos) (l : Expr) (g : List Comprehension) (scp : Scope) : Bool :=
  (isCmpF f && chkF T sc f (.ListComp l g scp p)) && decide (T.N[i]? = some x) && justLocB sc x && (px.line == p.line) && !(scp.names.any fun (n, k) => n == x && (k == .local || k == .cell))
theorem inv_setZ {i : Nat} {f : IF} {s : Stmt} (h : chkS T sc (.setZ i f) s = true) : ∃ x px l g scp p pos, s = .Assign [.Name x px] (.ListComp l g scp p) pos ∧ setB T sc f i x px p l g scp = true := by
  cases s <;> first | (exact absurd h Bool.false_ne_true) | skip
  rename_i ts v pos
  cases ts with
  | nil => exact absurd h Bool.false_ne_true
  | cons a r =>
    cases a <;> first | (exact absurd h Bool.false_ne_true) | skip
    cases r with
    | cons _ _ => exact absurd h Bool.false_ne_true
    | nil => cases v <;> first | (exact absurd h Bool.false_ne_true) | exact ⟨_, _, _, _, _, _, _, rfl, h⟩
theorem inv_setM {i : Nat} {f : IF} {s : Stmt} (h : chkS T sc (.setM i f) s = true) : ∃ x px l g scp p pos, s = .Assign [.Name x px] (.ListComp l g scp p) pos ∧ setB T sc f i x px p l g scp = true := by
  cases s <;> first | (exact absurd h Bool.false_ne_true) | skip
  rename_i ts v pos
  cases ts with
  | nil => exact absurd h Bool.false_ne_true
  | cons a r =>
    cases a <;> first | (exact absurd h Bool.false_ne_true) | skip
    cases r with
    | cons _ _ => exact absurd h Bool.false_ne_true
    | nil => cases v <;> first | (exact absurd h Bool.false_ne_true) | exact ⟨_, _, _, _, _, _, _, rfl, h⟩
theorem inv_aug {i : Nat} {op : Bo} {e : IE} {s : Stmt} (h : chkS T sc (.aug i op e) s = true) : ∃ x px op' e' pos, s = .AugAssign (.Name x px) op' e' pos ∧ (augB op op' && decide (T.N[i]? = some x) && locB sc x && chkE T sc e e') = true := by
  cases s <;> first | (exact absurd h Bool.false_ne_true) | skip
  rename_i t _ _ _
  cases t <;> first | (exact absurd h Bool.false_ne_true) | exact ⟨_, _, _, _, _, rfl, h⟩
theorem inv_par {i j : Nat} {a b : IE} {s : Stmt} (h : chkS T sc (.par i j a b) s = true) : ∃ x px y py k1 p1 a' b' k2 p2 pos, s = .Assign [.Tuple [.Name x px, .Name y py] k1 p1] (.Tuple [a', b'] k2 p2) pos ∧
    (chkE T sc a a' && chkE T sc b b' && decide (T.N[i]? = some x) && decide (T.N[j]? = some y) && decide (i ≠ j) && decide (x ≠ y) && justLocB sc x && justLocB sc y && (py.line == px.line) && !(([a', b'] : List Expr).all (foldedForSure 8)) && !(([a', b'] : List Expr).all (constantsAlone 8)) && !isStarB a' && !isStarB b') = true := by
  cases s <;> first | (exact absurd h Bool.false_ne_true) | skip
  rename_i ts v pos
  cases ts with
  | nil => exact absurd h (by simp [chkS])
  | cons t r =>
    cases t <;> first | (exact absurd h Bool.false_ne_true) | skip
    rename_i l k1 p1
    cases r with
    | cons _ _ => exact absurd h (by simp [chkS])
    | nil =>
      cases l with
      | nil => exact absurd h (by simp [chkS])
      | cons x l =>
        cases x <;> first | (exact absurd h Bool.false_ne_true) | skip
        cases l with
        | nil => exact absurd h (by simp [chkS])
        | cons y l =>
          cases y <;> first | (exact absurd h Bool.false_ne_true) | skip
          cases l with
          | cons _ _ => exact absurd h (by simp [chkS])
          | nil =>
            cases v <;> first | (exact absurd h Bool.false_ne_true) | skip
            rename_i vs _ _
            cases vs with
            | nil => exact absurd h (by simp [chkS])
            | cons a' vs =>
              cases vs with
              | nil => exact absurd h (by simp [chkS])
              | cons b' vs =>
                cases vs with
                | cons _ _ => exact absurd h (by simp [chkS])
                | nil => exact ⟨_, _, _, _, _, _, _, _, _, _, _, rfl, h⟩
theorem inv_for {t : IT} {it : II} {b : ISs} {s : Stmt} (h : chkS T sc (.for_ t it b) s = true) : ∃ t' it' b' pos, s = .For t' it' b' [] pos ∧ (chkI T sc it t' it' && !isSetB it' && chkT T sc (fun _ => true) (slotsT t) t t' && chkSs T sc b b') = true := by
  cases s <;> first | (exact absurd h Bool.false_ne_true) | skip
  rename_i _ _ _ o _
  cases o with
  | nil => exact ⟨_, _, _, _, rfl, h⟩
  | cons _ _ => exact absurd h Bool.false_ne_true
theorem inv_wh {c : IE} {b : ISs} {s : Stmt} (h : chkS T sc (.wh c b) s = true) : ∃ c' b' pos, s = .While c' b' [] pos ∧ (chkE T sc c c' && chkSs T sc b b') = true := by
  cases s <;> first | (exact absurd h Bool.false_ne_true) | skip
  rename_i _ _ o _
  cases o with
  | nil => exact ⟨_, _, _, rfl, h⟩
  | cons _ _ => exact absurd h Bool.false_ne_true
theorem inv_ret {e : IE} {s : Stmt} (h : chkS T sc (.ret e) s = true) : ∃ e' pos, s = .Return (some e') pos ∧ chkE T sc e e' = true := by
  cases s <;> first | (exact absurd h Bool.false_ne_true) | skip
  rename_i o _
  cases o with
  | none => exact absurd h Bool.false_ne_true
  | some _ => exact ⟨_, _, rfl, h⟩
theorem inv_raise {cn : Str} {es : IEs} {s : Stmt} (h : chkS T sc (.raise cn es) s = true) : ∃ x p es' pos pos2, s = .Raise (some (.Call (.Name x p) es' [] pos)) none pos2 ∧ (decide (x = cn) && glB sc x && rsB T.xs cn es'.length && chkL T sc es es') = true := by
  cases s <;> first | (exact absurd h Bool.false_ne_true) | skip
  rename_i o c pos2
  cases o with
  | none => exact absurd h Bool.false_ne_true
  | some e =>
    cases e <;> first | (exact absurd h Bool.false_ne_true) | skip
    rename_i f as ks pos
    cases f <;> first | (exact absurd h Bool.false_ne_true) | skip
    cases ks with
    | cons _ _ => exact absurd h Bool.false_ne_true
    | nil =>
      cases c with
      | some _ => exact absurd h Bool.false_ne_true
      | none => exact ⟨_, _, _, _, _, rfl, h⟩
theorem inv_forC {tt : IT} {k : Nat} {b : ISs} {s : Stmt} (h : chkS T sc (.forC tt k b) s = true) : ∃ t' x p b' pos, s = .For t' (.Name x p) b' [] pos ∧
    (decide (T.N[k]? = some x) && visB sc x && okNm x && chkT T sc (fun _ => true) (slotsT tt) tt t' && chkSs T sc b b') = true := by
  cases s <;> first | (exact absurd h Bool.false_ne_true) | skip
  rename_i t' it b' oe pos
  cases it <;> first | (exact absurd h Bool.false_ne_true) | skip
  cases oe with
  | cons _ _ => exact absurd h Bool.false_ne_true
  | nil => exact ⟨_, _, _, _, _, rfl, h⟩
theorem inv_try {b : ISs} {cs : List (Str × Option Nat × HS)} {s : Stmt} (h : chkS T sc (.try_ b cs) s = true) : ∃ b' hs pos, s = .Try b' hs [] [] pos ∧
    (!cs.isEmpty && chkCl T sc cs hs && chkSs T sc b b') = true := by
  cases s <;> first | (exact absurd h Bool.false_ne_true) | skip
  rename_i b' hs oe fb pos
  cases oe with
  | cons _ _ => exact absurd h Bool.false_ne_true
  | nil =>
    cases fb with
    | cons _ _ => exact absurd h Bool.false_ne_true
    | nil => exact ⟨_, _, _, rfl, h⟩
end
end Nb

namespace Nb
open PySem L2 PySem.Spec PyProof.Rows
section
variable {C : Cfg} {T : Tab} {ff : Fx}
theorem ev_tru_not (a : IE) : tru (ev C (.not a)) = fun η S => (tru (ev C a) η S).bind fun b S1 => .ok (!b) S1 := by
  funext η S
  unfold tru
  rw [ev]
  cases h : ev C a η S with
  | bad => rfl
  | ex _ _ => rfl
  | ok x S1 =>
    simp only [R.bind_ok]
    cases h2 : truth x S1 with
    | bad => rfl
    | ex _ _ => rfl
    | ok t S2 => rfl
theorem ev_tru_ife (c a b : IE) : tru (ev C (.ife c a b)) = fun η S => (tru (ev C c) η S).bind fun t S2 => if t then tru (ev C a) η S2 else tru (ev C b) η S2 := by
  funext η S
  unfold tru
  rw [ev]
  cases h : ev C c η S with
  | bad => rfl
  | ex _ _ => rfl
  | ok x S1 =>
    simp only [R.bind_ok]
    cases h2 : truth x S1 with
    | bad => rfl
    | ex _ _ => rfl
    | ok t S2 =>
      simp only [R.bind_ok]
      cases t <;> rfl
theorem ev_ife (c a b : IE) : ev C (.ife c a b) = fun η S => (tru (ev C c) η S).bind fun t S2 => if t then ev C a η S2 else ev C b η S2 := by
  funext η S
  unfold tru
  rw [ev]
  cases h : ev C c η S with
  | bad => rfl
  | ex _ _ => rfl
  | ok x S1 => rfl
theorem blt_of {X : Cx} (g : Good C T ff X) {b : Bf} {a : Expr} {es : List Expr} {pos p : Pos} {x : Str} {f : En → Sto → R (List Va)} (hx : x = bfNm b) (hg : Gl X x) (ha : PA X (a :: es) (tL X.K ff f)) (hs : ∀ x p, a ≠ .Starred x p) (hpl : (backTo pos (starEach es X.env)).any (·.1) = false) :
    PE X (.Call (.Name x p) (a :: es) [] pos) (tE X.K ff fun η S => (f η S).bind fun l S1 => bltV b l S1) := by
  subst hx
  have hu := g.un
  cases b with
  | len => exact de_blt cr_len hg (g.blt _ (by decide)) PySem.boot_len ha (by decide) (by decide) hs hpl
  | repr => exact de_blt (cr_repr g.gd (by omega)) hg (g.blt _ (by decide)) (by decide +kernel) ha (by decide) (by decide) hs hpl
  | abs => exact de_blt cr_abs hg (g.blt _ (by decide)) (by decide +kernel) ha (by decide) (by decide) hs hpl
  | int => exact de_bltT cr_int hg (g.blt _ (by decide)) (by decide +kernel) ha (by decide) (by decide) hs hpl
  | tuple => exact de_bltT cr_tuple hg (g.blt _ (by decide)) (by decide +kernel) ha (by decide) (by decide) hs hpl
  | all => exact de_blt (crd_all g.calm) hg (g.blt _ (by decide)) (by decide +kernel) ha (by decide) (by decide) hs hpl
  | str => exact de_bltT crd_str hg (g.blt _ (by decide)) (by decide +kernel) ha (by decide) (by decide) hs hpl
  | dictC => exact de_bltT (crd_dictC g.calm) hg (g.blt _ (by decide)) (by decide +kernel) ha (by decide) (by decide) hs hpl
  | any => exact de_blt (crd_any g.calm) hg (g.blt _ (by decide)) (by decide +kernel) ha (by decide) (by decide) hs hpl
  | dict => exact de_bltT (crd_dict g.calm) hg (g.blt _ (by decide)) (by decide +kernel) ha (by decide) (by decide) hs hpl
  | sorted => exact de_blt (crd_sorted g.calm) hg (g.blt _ (by decide)) (by decide +kernel) ha (by decide) (by decide) hs hpl
  | min => exact de_blt (crd_min g.calm) hg (g.blt _ (by decide)) (by decide +kernel) ha (by decide) (by decide) hs hpl
  | sum => exact de_blt (crd_sum g.calm) hg (g.blt _ (by decide)) (by decide +kernel) ha (by decide) (by decide) hs hpl
  | max => exact de_blt (crd_max g.calm) hg (g.blt _ (by decide)) (by decide +kernel) ha (by decide) (by decide) hs hpl
theorem chkKw_len {sc : Scope} : ∀ {es : IEs} {es' : List Keyword}, chkKw T sc es es' = true → lenEs es = es'.length
  | .nil, [], _ => rfl
  | .cons e es, ⟨_, _, _⟩ :: es', h => by
    rw [chkKw, Bool.and_eq_true] at h
    rw [lenEs, chkKw_len h.2, List.length_cons]
  | .nil, _ :: _, h => by cases h
  | .cons _ _, [], h => by cases h
theorem evKw_eq {sc : Scope} {es : IEs} {es' : List Keyword} (h : chkKw T sc es es' = true) (η : En) (S : Sto) : (evL C es η S).se (fun _ _ => True) (fun l _ => l.length = es'.length) ∨ evL C es η S = .bad := by
  rcases evL_len es η S with z | z
  · exact .inl (R.se_mono z fun l _ q => by rw [q, chkKw_len h])
  · exact .inr z
theorem own_map {N : List Str} {own : List Nat} : (own.map fun i => ((N.getD i "", i) : Str × Nat)).map (·.2) = own := by
  rw [List.map_map]
  exact List.map_id own
theorem tru_zz {E : Xn → Sto → Prop} {Q Q' : Bool → Sto → Prop} (a : IE) (η : En) (S : Sto) (h : (tru (ev C (.zz a)) η S).se E Q) : (tru (ev C a) η S).se E Q' := by
  unfold tru at h ⊢
  rw [ev] at h
  cases h1 : ev C a η S with
  | bad => rw [h1] at h; exact h.elim
  | ex _ _ => rw [h1] at h; exact h
  | ok x S1 => rw [h1] at h; cases x <;> exact h.elim
theorem R.se_nxb {α β : Type} {E : Xn → Sto → Prop} {r : R α} {f : α → Sto → R β} {Q : β → Sto → Prop} (h : (r.nx.bind f).se E Q) : (r.bind f).se E Q := by
  cases r with
  | ok a S => exact h
  | bad => exact h
  | ex x S => exact h.elim
theorem Snd.zz {X : Cx} {e : Expr} {a : IE} (h : Snd C ff X e a) : Snd C ff X e (.zz a) := by
  have no : ∀ σ H Q, tT X.K ff (tru (ev C (.zz a))) σ H Q → tT X.K ff (tru (ev C a)) σ H Q := fun σ H Q q => by
    obtain ⟨μ, S, η, rs, re, q⟩ := q
    exact ⟨μ, S, η, rs, re, tru_zz a η S q⟩
  refine ⟨PE.weak h.pe fun σ H Q q => ?_, PT.weak h.pt no, fun op es pos z => PW.weak (h.pw op es pos z) no⟩
  obtain ⟨μ, S, η, rs, re, q⟩ := q
  rw [ev] at q
  refine ⟨μ, S, η, rs, re, R.se_mono (R.se_bind q) fun x S1 q1 w H1 μ1 e1 rs1 rv1 => ?_⟩
  cases x with
  | ref n =>
    cases rv1 with
    | ref ha => exact q1 _ H1 μ1 e1 rs1 (.z ha)
  | _ => exact q1.elim
mutual
theorem sE : ∀ (ie : IE) {T : Tab} {ff : Fx} (X : Cx) (e : Expr), Good C T ff X → chkE T X.env.scope ie e = true → Snd C ff X e ie
  | .loc i, T, ff, X, e, g, h => by
    cases e <;> first | (exact absurd h Bool.false_ne_true) | skip
    replace h : (decide (T.N[i]? = some _) && visB X.env.scope _ && okNm _) = true := h
    simp only [Bool.and_eq_true, decide_eq_true_eq] at h
    obtain ⟨h1, h2, _⟩ := okNm_of h.2
    exact Snd.of (de_loc (by rw [g.N]; exact h.1.1) (visB_of h.1.2) h1 h2) (fun _ _ _ z => (nomatch z)) (fun _ => rfl)
  | .glo k, T, ff, X, e, g, h => by
    cases e <;> first | (exact absurd h Bool.false_ne_true) | skip
    replace h : (decide (T.gl[k]? = some _) && glB X.env.scope _ && okNm _) = true := h
    simp only [Bool.and_eq_true, decide_eq_true_eq] at h
    obtain ⟨h1, h2, _⟩ := okNm_of h.2
    refine Snd.of ?_ (fun _ _ _ z => (nomatch z)) (fun _ => rfl)
    show PE X _ (tE X.K ff fun (_ : En) S => match C.gl k with | some v => .ok v S | none => .bad)
    cases hv : C.gl k with
    | none => exact ⟨fun pins s σ H Q I q => by
        obtain ⟨_, _, _, _, _, q⟩ := q
        exact q.elim⟩
    | some v =>
      obtain ⟨u, w, m1, m2, m3⟩ := g.gls k _ v h.1.1 hv
      refine PE.weak (pe_glob (glB_of h.1.2) m1 m2 h1) fun σ H Q q => ?_
      obtain ⟨μ, S, η, rs, re, q⟩ := q
      exact pK.here rs q (m3 H μ)
  | .non, T, ff, X, e, g, h => by
    cases e <;> first | (exact absurd h Bool.false_ne_true) | skip
    rename_i c _ _
    cases c <;> first | (exact absurd h Bool.false_ne_true) | skip
    exact Snd.of (de_con pe_non fun _ _ => .non) (fun _ _ _ z => (nomatch z)) (fun _ => rfl)
  | .bl b, T, ff, X, e, g, h => by
    cases e <;> first | (exact absurd h Bool.false_ne_true) | skip
    rename_i c _ _
    cases c <;> first | (exact absurd h Bool.false_ne_true) | skip
    replace h : (b == _) = true := h
    have h := eq_of_beq h
    subst h
    exact Snd.of (de_con pe_bl fun _ _ => .bl _) (fun _ _ _ z => (nomatch z)) (fun _ => rfl)
  | .int i, T, ff, X, e, g, h => by
    cases e <;> first | (exact absurd h Bool.false_ne_true) | skip
    rename_i c _ _
    cases c <;> first | (exact absurd h Bool.false_ne_true) | skip
    replace h : decide (i = _) = true := h
    have h := of_decide_eq_true h
    subst h
    exact Snd.of (de_con pe_int fun _ _ => .int _) (fun _ _ _ z => (nomatch z)) (fun _ => rfl)
  | .str x, T, ff, X, e, g, h => by
    cases e <;> first | (exact absurd h Bool.false_ne_true) | skip
    rename_i c _ _
    cases c <;> first | (exact absurd h Bool.false_ne_true) | skip
    replace h : decide (x = _) = true := h
    have h := of_decide_eq_true h
    subst h
    exact Snd.of (de_con pe_str fun _ _ => .str _) (fun _ _ _ z => (nomatch z)) (fun _ => rfl)
  | .bin op a b, T, ff, X, e, g, h => by
    cases e <;> first | (exact absurd h Bool.false_ne_true) | skip
    replace h : (boB op _ && chkE T X.env.scope a _ && chkE T X.env.scope b _) = true := h
    simp only [Bool.and_eq_true] at h
    exact Snd.of (de_bin (bo_op h.1.1) (sE a X _ g h.1.2).pe (sE b X _ g h.2).pe) (fun _ _ _ z => (nomatch z)) (fun _ => rfl)
  | .neg a, T, ff, X, e, g, h => by
    cases e <;> first | (exact absurd h Bool.false_ne_true) | skip
    rename_i op _ _
    cases op <;> first | (exact absurd h Bool.false_ne_true) | skip
    replace h : chkE T X.env.scope a _ = true := h
    exact Snd.of (de_neg (sE a X _ g h).pe) (fun _ _ _ z => (nomatch z)) (fun _ => rfl)
  | .not a, T, ff, X, e, g, h => by
    cases e <;> first | (exact absurd h Bool.false_ne_true) | skip
    rename_i op _ _
    cases op <;> first | (exact absurd h Bool.false_ne_true) | skip
    replace h : chkE T X.env.scope a _ = true := h
    have q := sE a X _ g h
    refine ⟨de_not q.pe, ?_, fun _ _ _ z => (nomatch z)⟩
    rw [ev_tru_not]
    exact dt_not q.pt
  | .cmp op a b, T, ff, X, e, g, h => by
    obtain ⟨a', op', b', pos, rfl, h0⟩ := inv_cmp h
    replace h := h0
    simp only [Bool.and_eq_true, Bool.not_eq_true'] at h
    have hu := g.un
    have ho := co_op (X := X) (ff := ff) (by omega) g.gx h.1.1.1
    exact ⟨de_cmp ho (sE a X _ g h.1.1.2).pe (sE b X _ g h.1.2).pe h.2, dt_cmp ho (sE a X _ g h.1.1.2).pe (sE b X _ g h.1.2).pe h.2, fun _ _ _ z => (nomatch z)⟩
  | .cmp2 op1 op2 a b c, T, ff, X, e, g, h => by
    obtain ⟨a', op1', op2', b', c', pos, rfl, h0⟩ := inv_cmp2 h
    replace h := h0
    simp only [Bool.and_eq_true, Bool.not_eq_true'] at h
    have hu := g.un
    have ho := co_op (X := X) (ff := ff) (by omega) g.gx h.1.1.1.1.1
    have ho2 := co_op (X := X) (ff := ff) (by omega) g.gx h.1.1.1.1.2
    exact ⟨de_cmp2 ho ho2 (sE a X _ g h.1.1.1.2).pe (sE b X _ g h.1.1.2).pe (sE c X _ g h.1.2).pe h.2, dt_cmp2 ho ho2 (sE a X _ g h.1.1.1.2).pe (sE b X _ g h.1.1.2).pe (sE c X _ g h.1.2).pe h.2, fun _ _ _ z => (nomatch z)⟩
  | .and a b, T, ff, X, e, g, h => by
    obtain ⟨a', b', r, pos, rfl, h0⟩ := inv_and h
    replace h := h0
    simp only [Bool.and_eq_true] at h
    have qa := sE a X _ g h.1
    have qb := (sE b X _ g h.2).unOne
    have w := dw_and qa.pt (qb.pw _ _ _ rfl)
    exact ⟨de_and qa.pe qb.pe, w.pt, fun _ _ _ _ => w⟩
  | .or a b, T, ff, X, e, g, h => by
    obtain ⟨a', b', r, pos, rfl, h0⟩ := inv_or h
    replace h := h0
    simp only [Bool.and_eq_true] at h
    have qa := sE a X _ g h.1
    have qb := (sE b X _ g h.2).unOne
    have w := dw_or qa.pt (qb.pw _ _ _ rfl)
    exact ⟨de_or qa.pe qb.pe, w.pt, fun _ _ _ _ => w⟩
  | .ife c a b, T, ff, X, e, g, h => by
    cases e <;> first | (exact absurd h Bool.false_ne_true) | skip
    replace h : (chkE T X.env.scope c _ && chkE T X.env.scope a _ && chkE T X.env.scope b _) = true := h
    simp only [Bool.and_eq_true] at h
    have qc := sE c X _ g h.1.1
    have qa := sE a X _ g h.1.2
    have qb := sE b X _ g h.2
    refine ⟨?_, ?_, fun _ _ _ z => (nomatch z)⟩
    · rw [ev_ife]
      exact de_ife qc.pt qa.pe qb.pe
    · rw [ev_tru_ife]
      exact dt_ife qc.pt qa.pt qb.pt
  | .ix a i, T, ff, X, e, g, h => by
    cases e <;> first | (exact absurd h Bool.false_ne_true) | skip
    replace h : (chkE T X.env.scope a _ && chkE T X.env.scope i _ && !isSlB _) = true := h
    simp only [Bool.and_eq_true, Bool.not_eq_true'] at h
    have hu := g.un
    exact Snd.of (de_ix (by omega) g.gx (sE a X _ g h.1.1).pe (sE i X _ g h.1.2).pe (sl_plain h.2)) (fun _ _ _ z => (nomatch z)) (fun _ => rfl)
  | .sl a lo hi, T, ff, X, e, g, h => by
    obtain ⟨a', lo', hi', p2, pos, rfl, h0⟩ := inv_sl h
    replace h := h0
    simp only [Bool.and_eq_true] at h
    exact Snd.of (de_sl (sE a X _ g h.1.1).pe (sO lo X _ g h.1.2) (sO hi X _ g h.2)) (fun _ _ _ z => (nomatch z)) (fun _ => rfl)
  | .tup es, T, ff, X, e, g, h => by
    cases e <;> first | (exact absurd h Bool.false_ne_true) | skip
    replace h : (chkL T X.env.scope es _ && decide (List.length _ ≤ 1000)) = true := h
    simp only [Bool.and_eq_true, decide_eq_true_eq] at h
    exact Snd.of (de_tup (sL es X _ g h.1) (evL_le h.1 h.2)) (fun _ _ _ z => (nomatch z)) (fun _ => rfl)
  | .fz f, T, ff, X, e, g, h => by
    replace h : chkF T X.env.scope f e = true := h
    obtain ⟨q, hb, he⟩ := sF f X e g h
    exact Snd.of (de_fz q) hb he
  | .mk f, T, ff, X, e, g, h => by
    replace h : chkF T X.env.scope f e = true := h
    obtain ⟨q, hb, he⟩ := sF f X e g h
    exact Snd.of (de_mk q) hb he
  | .dct0, T, ff, X, e, g, h => by
    obtain ⟨pos, rfl⟩ := inv_dct0 h
    exact Snd.of de_dct0 (fun _ _ _ z => (nomatch z)) (fun _ => rfl)
  | .dct kvs, T, ff, X, e, g, h => by
    cases e <;> first | (exact absurd h Bool.false_ne_true) | skip
    replace h : (chkK T X.env.scope kvs _ _ && decide (List.length _ ≤ 15) && decide (List.length _ = List.length _) && !List.isEmpty _) = true := h
    simp only [Bool.and_eq_true, decide_eq_true_eq, Bool.not_eq_true'] at h
    obtain ⟨l1, l2⟩ := chkK_len h.1.1.1
    refine Snd.of (de_dct (sK kvs X _ _ _ g h.1.1.1) l2 h.1.2 (fun z => by rw [z] at h; exact absurd h.2 (by decide)) h.1.1.2 fun η S => ?_) (fun _ _ _ z => (nomatch z)) (fun _ => rfl)
    rcases evK_len (C := C) kvs η S with z | z
    · exact .inl (R.se_mono z fun l _ q => by rw [q, l1]; exact h.1.1.2)
    · exact .inr z
  | .call f es, T, ff, X, e, g, h => by
    obtain ⟨x, p, es', pos, rfl, h0⟩ := inv_call h
    replace h := h0
    simp only [Bool.and_eq_true, decide_eq_true_eq] at h
    obtain ⟨h1, _, _⟩ := okNm_of h.1.2
    have hc := g.fns f x _ h.1.1.1
    refine Snd.of ?_ (fun _ _ _ z => (nomatch z)) (fun _ => rfl)
    cases es' with
    | nil =>
      cases es with
      | cons _ _ => exact absurd h.2 Bool.false_ne_true
      | nil => exact de_call0 hc g.gd (glB_of h.1.1.2) h1
    | cons a r =>
      cases es with
      | nil => exact absurd h.2 Bool.false_ne_true
      | cons ia ir =>
        have h2 := h.2
        rw [chkL, Bool.and_eq_true] at h2
        exact de_call hc g.gd (glB_of h.1.1.2) (sL (.cons ia ir) X _ g h.2) (evL_eq h.2) h1 (nostarE h2.1) (plain_any h2.2)
  | .blt b es, T, ff, X, e, g, h => by
    obtain ⟨x, p, es', pos, rfl, h0⟩ := inv_blt h
    replace h := h0
    simp only [Bool.and_eq_true, decide_eq_true_eq, Bool.not_eq_true'] at h
    refine Snd.of ?_ (fun _ _ _ z => (nomatch z)) (fun _ => rfl)
    cases es' with
    | nil => exact absurd h.2 (by decide)
    | cons a r =>
      cases es with
      | nil => exact absurd h.1.2 Bool.false_ne_true
      | cons ia ir =>
        have h2 := h.1.2
        rw [chkL, Bool.and_eq_true] at h2
        exact blt_of g h.1.1.1 (glB_of h.1.1.2) (sL (.cons ia ir) X _ g h.1.2) (nostarE h2.1) (plain_any h2.2)
  | .met m o es, T, ff, X, e, g, h => by
    obtain ⟨o', name, apos, as, pos, rfl, h0⟩ := inv_met h
    replace h := h0
    simp only [Bool.and_eq_true, decide_eq_true_eq, Bool.not_eq_true'] at h
    obtain ⟨⟨⟨⟨⟨hn, ho⟩, hl⟩, hN⟩, hc0⟩, hline⟩ := h
    clear h0
    subst hn
    have qo := (sE o X _ g ho).pe
    have l0 := chkL_len hl
    refine Snd.of ?_ (fun _ _ _ z => (nomatch z)) (fun _ => rfl)
    cases as with
    | nil =>
      cases es with
      | cons _ _ => exact absurd hl Bool.false_ne_true
      | nil =>
        cases m <;> first | (exact absurd hN (by decide)) | skip
        · exact de_meth0 (m := .upper) PySem.F.plainAttrs_str F.slot_str_upper F.type_str_upper mtd_upper (fun _ r q => st_of r q) qo (call0_ne hc0) hline
        · exact de_meth0 (m := .pop) PySem.F.plainAttrs_list PySem.F.slot_list_pop PySem.F.type_list_pop mtd_pop (fun rs r q => recv_of rs r q) qo (call0_ne hc0) hline
    | cons a r =>
      cases r with
      | cons b r =>
        cases r with
        | cons _ _ => exact absurd hN (by cases m <;> simp [mtN])
        | nil =>
          cases es with
          | nil => exact absurd hl Bool.false_ne_true
          | cons ia ir =>
            cases ir with
            | nil =>
              rw [chkL, Bool.and_eq_true] at hl
              exact absurd hl.2 Bool.false_ne_true
            | cons ib ir =>
              have h2 := hl
              rw [chkL, Bool.and_eq_true] at h2
              have h3 := h2.2
              rw [chkL, Bool.and_eq_true] at h3
              have qa := sL (.cons ia (.cons ib ir)) X _ g hl
              have hu := g.un
              cases m <;> first | (exfalso; simp [mtN] at hN; done) | skip
              exact de_meth2 (m := .get) PySem.F.plainAttrs_dict PySem.F.slot_dict_get PySem.F.type_dict_get (mtd_get (by omega)) (fun rs r q => dd_of' rs r q) qo qa (nostarE h2.1) (nostarE h3.1) (call0_ne hc0) hline
      | nil =>
        cases es with
        | nil => exact absurd hl Bool.false_ne_true
        | cons ia ir =>
          have h2 := hl
          rw [chkL, Bool.and_eq_true] at h2
          have qa := sL (.cons ia ir) X _ g hl
          cases m with
          | append => exact de_meth1 (m := .append) PySem.F.plainAttrs_list PySem.F.slot_list_append PySem.F.type_list_append mtd_append (fun rs r q => recv_of rs r q) qo qa (nostarE h2.1) (call0_ne hc0) hline
          | extend => exact de_meth1 (m := .extend) PySem.F.plainAttrs_list PySem.F.slot_list_extend PySem.F.type_list_extend mtd_extend (fun rs r q => recv_of rs r q) qo qa (nostarE h2.1) (call0_ne hc0) hline
          | update => exact de_meth1 (m := .update) PySem.F.plainAttrs_dict PySem.F.slot_dict_update PySem.F.type_dict_update mtd_update (fun rs r q => dt_of' rs r q) qo qa (nostarE h2.1) (call0_ne hc0) hline
          | join => exact de_meth1 (m := .join) PySem.F.plainAttrs_str F.slot_str_join F.type_str_join mtd_join (fun _ r q => st_of r q) qo qa (nostarE h2.1) (call0_ne hc0) hline
          | upper => exact absurd hN (by simp [mtN])
          | pop => exact absurd hN (by simp [mtN])
          | get => exact absurd hN (by simp [mtN])
  | .isi a k, T, ff, X, e, g, h => by
    obtain ⟨x, p, a', y, p2, pos, rfl, h0⟩ := inv_isi h
    replace h := h0
    simp only [Bool.and_eq_true, decide_eq_true_eq] at h
    obtain ⟨⟨⟨⟨hx, hy⟩, hg⟩, hg2⟩, ha⟩ := h
    exact Snd.of (de_isi hx hy (glB_of hg) (by rw [hx]; exact g.blt _ (by decide)) (glB_of hg2) (by rw [hy]; exact g.blt _ (by cases k <;> decide)) (sE a X _ g ha).pe (nostarE ha)) (fun _ _ _ z => (nomatch z)) (fun _ => rfl)
  | .dctZ kvs, T, ff, X, e, g, h => by
    cases e <;> first | (exact absurd h Bool.false_ne_true) | skip
    rename_i ks vs pos
    replace h : (chkK T X.env.scope kvs ks vs && decide (ks.length ≤ 15) && decide (ks.length = vs.length)) = true := h
    simp only [Bool.and_eq_true, decide_eq_true_eq] at h
    obtain ⟨l1, l2⟩ := chkK_len h.1.1
    refine Snd.of ?_ (fun _ _ _ z => (nomatch z)) (fun _ => rfl)
    cases ks with
    | nil =>
      cases vs with
      | cons _ _ => exact absurd h.2 (by simp)
      | nil =>
        cases kvs with
        | cons _ _ _ => exact absurd h.1.1 Bool.false_ne_true
        | nil => exact de_dct0Z
    | cons k0 kr =>
      refine de_dctZ (sK kvs X _ _ _ g h.1.1) l2 h.2 (fun z => nomatch z) h.1.2 fun η S => ?_
      rcases evK_len (C := C) kvs η S with z | z
      · exact .inl (R.se_mono z fun l _ q => by rw [q, l1]; exact h.1.2)
      · exact .inr z
  | .rv a, T, ff, X, e, g, h => by
    obtain ⟨a', k, p1, p2, p3, pos, rfl, h0⟩ := inv_rv h
    replace h := h0
    exact Snd.of (de_rv (sE a X _ g h).pe) (fun _ _ _ z => (nomatch z)) (fun _ => rfl)
  | .dyn i fl es, T, ff, X, e, g, h => by
    obtain ⟨x, p, es', pos, rfl, h0⟩ := inv_dyn h
    replace h := h0
    simp only [Bool.and_eq_true, decide_eq_true_eq, Bool.not_eq_true'] at h
    obtain ⟨⟨⟨⟨⟨hN, hv⟩, ho⟩, hfn⟩, hl⟩, hne⟩ := h
    subst hfn
    obtain ⟨h1, h2, _⟩ := okNm_of ho
    refine Snd.of ?_ (fun _ _ _ z => (nomatch z)) (fun _ => rfl)
    cases es' with
    | nil => exact absurd hne (by decide)
    | cons a r =>
      cases es with
      | nil => exact absurd hl Bool.false_ne_true
      | cons ia ir =>
        have h3 := hl
        rw [chkL, Bool.and_eq_true] at h3
        exact de_dyn (by rw [g.N]; exact hN) (visB_of hv) (fun k y m => g.fns k y m) g.gf g.gd (sL (.cons ia ir) X _ g hl) h1 h2 (nostarE h3.1) (plain_any h3.2)
  | .zz a, T, ff, X, e, g, h => (sE a X e g h).zz
  | .fld a f, T, ff, X, e, g, h => by
    obtain ⟨a', pos, rfl, h1, h2⟩ := inv_fld h
    exact Snd.of (de_fld g.gf g.cl (sE a X a' g h1).pe (call0_ne h2)) (fun _ _ _ z => (nomatch z)) (fun _ => rfl)
  | .mko cn es, T, ff, X, e, g, h => by
    obtain ⟨p, es', pos, rfl, h0⟩ := inv_mko h
    simp only [Bool.and_eq_true] at h0
    obtain ⟨⟨⟨h1, h2⟩, h3⟩, h4⟩ := h0
    unfold mkoB at h1
    rw [g.os] at h1
    cases hc : lookC C.os.cs cn with
    | none => rw [hc] at h1; cases h1
    | some ci =>
      rw [hc] at h1
      dsimp only at h1
      cases hi : ci.ini with
      | none => rw [hi] at h1; cases h1
      | some jn =>
        exact Snd.of (de_mko (g.cl cn ci hc) hc (n := jn.2) (j := jn.1) hi g.px g.gd (glB_of h2) (sL es X es' g h4) (okNm_of h3).1 (nostarL h4) (plain_any h4)) (fun _ _ _ z => (nomatch z)) (fun _ => rfl)
  | .mth m a es, T, ff, X, e, g, h => by
    obtain ⟨a', apos, es', pos, rfl, h0⟩ := inv_mth h
    rw [Bool.and_eq_true, Bool.and_eq_true, Bool.and_eq_true, Bool.and_eq_true, decide_eq_true_eq, Bool.not_eq_true'] at h0
    obtain ⟨⟨⟨⟨h1, h2⟩, h3⟩, h4⟩, h5⟩ := h0
    exact Snd.of (de_mth g.gf g.cl g.px g.gd (sE a X a' g h1).pe (sL es X es' g h2) (call0_ne h4) (nostarL h2) (plain_any h2) h3 h5) (fun _ _ _ z => (nomatch z)) (fun _ => rfl)
  | .callK j es ks, T, ff, X, e, g, h => by
    obtain ⟨x, p, es', ks', pos, rfl, h0⟩ := inv_callK h
    simp only [Bool.and_eq_true, Bool.not_eq_true'] at h0
    obtain ⟨⟨⟨⟨⟨h1, h2⟩, h3⟩, h4⟩, h5⟩, h6⟩ := h0
    unfold kwB at h1
    rw [g.os] at h1
    cases hq : C.os.kw[j]? with
    | none => rw [hq] at h1; cases h1
    | some q =>
      rw [hq] at h1
      simp only [Bool.and_eq_true, decide_eq_true_eq] at h1
      obtain ⟨⟨rfl, h8⟩, h9⟩ := h1
      cases es' with
      | nil => exact absurd h4 (by decide)
      | cons a r =>
        cases es with
        | nil => exact absurd h5 Bool.false_ne_true
        | cons ia ir =>
          have h7 := h5
          rw [chkL, Bool.and_eq_true] at h7
          exact Snd.of (de_callK (g.kw j q hq) hq h9 g.px g.gd (glB_of h2) (sL (.cons ia ir) X _ g h5) (sKw ks X ks' g h6) (fun η S => by rw [h8]; exact evL_eq h5 η S) (fun η S => by
            have e : q.ks.length = ks'.length := by have := congrArg List.length h9; simpa using this
            rw [e]
            exact evKw_eq h6 η S) (okNm_of h3).1 (nostarE h7.1) (plain_any h7.2)) (fun _ _ _ z => (nomatch z)) (fun _ => rfl)
theorem sF : ∀ (f : IF) {T : Tab} {ff : Fx} (X : Cx) (e : Expr), Good C T ff X → chkF T X.env.scope f e = true → PE X e (tF X.K ff (evF C f)) ∧ (∀ op es pos, e ≠ .BoolOp op es pos) ∧ (∀ whole, isTrue e X.env whole = (do let v ← whole; standAt e.pos; holding [v] (truthy v)))
  | .disp es, T, ff, X, e, g, h => by
    cases e <;> first | (exact absurd h Bool.false_ne_true) | skip
    replace h : (chkL T X.env.scope es _ && decide (List.length _ ≤ 1000)) = true := h
    simp only [Bool.and_eq_true, decide_eq_true_eq] at h
    exact ⟨df_disp (sL es X _ g h.1) (evL_le h.1 h.2), fun _ _ _ z => (nomatch z), fun _ => rfl⟩
  | .cmpC elt tg i cd own, T, ff, X, e, g, h => by
    obtain ⟨elt', tg', iter', ifs', scope, pos, rfl, h0⟩ := inv_compC h
    replace h := h0
    unfold cmpBC at h
    simp only [Bool.and_eq_true, Bool.not_eq_true'] at h
    obtain ⟨⟨⟨⟨⟨⟨h1, h2⟩, h3⟩, h4⟩, h5⟩, h6⟩, h7⟩ := h
    obtain ⟨x, p, rfl, hN, hv, ho⟩ := locE_inv h1
    obtain ⟨k1, k2, _⟩ := okNm_of ho
    have ok := blkOk_by h3
    rw [← g.N] at ok
    have gb := fun st H D cl fp => g.blk scope ok.kind st H D cl fp
    refine ⟨?_, fun _ _ _ z => (nomatch z), fun _ => rfl⟩
    have q := df_compC (ff := ff.calm) (pos := pos) (g := asgn C tg) (t := evT C cd) (e := ev C elt) g.calm g.nd (di_cel (tg := tg') (de_loc (pos := p) (by rw [g.N]; exact hN) (visB_of hv) k1 k2)) ok (fun st H D cl fp => ?_) (fun st H D cl fp => sC cd _ _ (gb st H D cl fp) h5) (fun st H D cl fp => (sE elt _ _ (gb st H D cl fp) h6).pe) (set_fold h2)
    · rw [own_map] at q
      have e1 : evF C (.cmpC elt tg i cd own) = fun η S => (cmpCV (asgn C tg) (evT C cd) (ev C elt) i own η S).nx := by
        funext η S
        rw [evF]
        rfl
      rw [e1]
      exact PE.weak q fun σ H Q z => tF_calm z
    · rw [own_map]
      exact sT tg _ tg' own _ (gb st H D cl fp) (fun x z => .inl z) h4
  | .cmpE elt tg i cd own, T, ff, X, e, g, h => by
    obtain ⟨elt', tg', iter', ifs', scope, pos, rfl, h0⟩ := inv_compE h
    replace h := h0
    unfold cmpBE at h
    simp only [Bool.and_eq_true] at h
    obtain ⟨⟨⟨⟨⟨⟨h1, h2⟩, h3⟩, h4⟩, h5⟩, h6⟩, h7⟩ := h
    obtain ⟨y, p2, a', pos2, rfl, hy, gy, h1⟩ := enuE_inv h1
    obtain ⟨x, p, rfl, hN, hv, ho⟩ := locE_inv h1
    obtain ⟨k1, k2, _⟩ := okNm_of ho
    have ok := blkOk_by h3
    rw [← g.N] at ok
    have gb := fun st H D cl fp => g.blk scope ok.kind st H D cl fp
    refine ⟨?_, fun _ _ _ z => (nomatch z), fun _ => rfl⟩
    have q := df_compE (ff := ff.calm) (pos := pos) (g := asgn C tg) (t := evT C cd) (e := ev C elt) g.calm g.nd (di_celE (tg := tg') (pos := pos2) (p := p2) hy h2 (glB_of gy) (by rw [hy]; exact g.blt _ (by decide)) (de_loc (pos := p) (by rw [g.N]; exact hN) (visB_of hv) k1 k2) (fun _ _ z => nomatch z)) ok (fun st H D cl fp => ?_) (fun st H D cl fp => sC cd _ _ (gb st H D cl fp) h5) (fun st H D cl fp => (sE elt _ _ (gb st H D cl fp) h6).pe) (fun _ => rfl)
    · rw [own_map] at q
      have e1 : evF C (.cmpE elt tg i cd own) = fun η S => (cmpEV (asgn C tg) (evT C cd) (ev C elt) i own η S).nx := by
        funext η S
        rw [evF]
        rfl
      rw [e1]
      exact PE.weak q fun σ H Q z => tF_calm z
    · rw [own_map]
      exact sT tg _ tg' own _ (gb st H D cl fp) (fun x z => .inl z) h4
  | .rpt a n, T, ff, X, e, g, h => by
    obtain ⟨a', n', pos, rfl, h0⟩ := inv_rpt h
    replace h := h0
    simp only [Bool.and_eq_true] at h
    exact ⟨df_rpt (sF a X _ g h.1).1 (sE n X _ g h.2).pe, fun _ _ _ z => (nomatch z), fun _ => rfl⟩
  | .cat a b, T, ff, X, e, g, h => by
    obtain ⟨a', b', pos, rfl, h0⟩ := inv_cat h
    replace h := h0
    simp only [Bool.and_eq_true] at h
    exact ⟨df_cat (sE a X _ g h.1).pe (sE b X _ g h.2).pe, fun _ _ _ z => (nomatch z), fun _ => rfl⟩
  | .comp elt tg it cd own, T, ff, X, e, g, h => by
    obtain ⟨elt', tg', iter', ifs', scope, pos, rfl, h0⟩ := inv_comp h
    replace h := h0
    unfold cmpB at h
    simp only [Bool.and_eq_true, Bool.not_eq_true'] at h
    obtain ⟨⟨⟨⟨⟨⟨h1, h2⟩, h3⟩, h4⟩, h5⟩, h6⟩, h7⟩ := h
    have ok := blkOk_by h3
    rw [← g.N] at ok
    have gb := fun st H D cl fp => g.blk scope ok.kind st H D cl fp
    refine ⟨?_, fun _ _ _ z => (nomatch z), fun _ => rfl⟩
    have q := df_comp (ff := ff.calm) (pos := pos) (fi := iter C it) (g := asgn C tg) (t := evT C cd) (e := ev C elt) g.calm g.nd (sI it X tg' iter' g.calmer h1) ok (fun st H D cl fp => ?_) (fun st H D cl fp => sC cd _ _ (gb st H D cl fp) h5) (fun st H D cl fp => (sE elt _ _ (gb st H D cl fp) h6).pe) (set_fold h2)
    · rw [own_map] at q
      refine PE.weak q fun σ H Q z => tF_calm (ff := ff) ?_
      obtain ⟨μ, S, η, rs, re, z⟩ := z
      refine ⟨μ, S, η, rs, re, ?_⟩
      rw [evF] at z
      exact z
    · rw [own_map]
      exact sT tg _ tg' own _ (gb st H D cl fp) (fun x z => .inl z) h4
  | .compX elt tg it cd own, T, ff, X, e, g, h => by
    obtain ⟨elt', tg', iter', ifs', scope, pos, rfl, hown, h⟩ := inv_compX h
    unfold cmpB at h
    simp only [Bool.and_eq_true, Bool.not_eq_true'] at h
    obtain ⟨⟨⟨⟨⟨⟨h1, h2⟩, h3⟩, h4⟩, h5⟩, h6⟩, h7⟩ := h
    have ok := blkOk_by h3
    rw [← g.N] at ok
    have gb := fun st H D cl fp => g.blkX scope ok.kind st H D cl fp
    obtain ⟨k1, k2, k3⟩ := g.tk hown
    refine ⟨?_, fun _ _ _ z => (nomatch z), fun _ => rfl⟩
    have q := df_compX (ff := ff) (pos := pos) (fi := iter C it) (g := asgn C tg) (t := evT C cd) (e := ev C elt) g.calm g.nd k1 k2 k3 (sI it X tg' iter' g h1) ok (fun st H D cl fp => ?_) (fun st H D cl fp => sC cd _ _ (gb st H D cl fp) h5) (fun st H D cl fp => (sE elt _ _ (gb st H D cl fp) h6).pe) (set_fold h2)
    · rw [own_map] at q
      refine PE.weak q fun σ H Q z => ?_
      obtain ⟨μ, S, η, rs, re, z⟩ := z
      refine ⟨μ, S, η, rs, re, ?_⟩
      rw [evF] at z
      exact z
    · rw [own_map]
      exact sT tg _ tg' own _ (gb st H D cl fp) (fun x z => .inl z) h4
  | .rev a, T, ff, X, e, g, h => by
    obtain ⟨a', k, p1, p2, p3, pos, rfl, h0⟩ := inv_rev h
    replace h := h0
    exact ⟨df_rev (sE a X _ g h).pe, fun _ _ _ z => (nomatch z), fun _ => rfl⟩
  | .lst a, T, ff, X, e, g, h => by
    obtain ⟨x, p, a', pos, rfl, h0⟩ := inv_lst h
    replace h := h0
    simp only [Bool.and_eq_true, decide_eq_true_eq] at h
    have q := (sE a X _ g h.2).pe
    refine ⟨df_list h.1.1 ?_ (nostarE h.2) (glB_of h.1.2) ?_, fun _ _ _ z => (nomatch z), fun _ => rfl⟩
    · exact PA.weak (dl_cons q dl_nil (nostarE h.2)) fun σ H Q z => z
    · rw [h.1.1]
      exact g.blt _ (by decide)
  | .srs a, T, ff, X, e, g, h => by
    obtain ⟨x, p, y, p2, a', pos2, pos, rfl, h0⟩ := inv_srs h
    replace h := h0
    simp only [Bool.and_eq_true, decide_eq_true_eq] at h
    obtain ⟨⟨⟨⟨hx, gx⟩, hy⟩, gy⟩, ha⟩ := h
    have q := (sE a X _ g ha).pe
    refine ⟨df_srs g.calm hx hy ?_ (nostarE ha) (glB_of gx) ?_ (glB_of gy) ?_, fun _ _ _ z => (nomatch z), fun _ => rfl⟩
    · exact PA.weak (dl_cons q dl_nil (nostarE ha)) fun σ H Q z => z
    · rw [hx]
      exact g.blt _ (by decide)
    · rw [hy]
      exact g.blt _ (by decide)
theorem sO : ∀ (o : IO) {T : Tab} {ff : Fx} (X : Cx) (e : Option Expr), Good C T ff X → chkO T X.env.scope o e = true → PO X e (tO X.K ff (evO C o))
  | .no, T, ff, X, none, g, h => do_no
  | .so i, T, ff, X, some e, g, h => do_so (sE i X e g h).pe
  | .no, T, ff, X, some _, g, h => by cases h
  | .so _, T, ff, X, none, g, h => by cases h
theorem sC : ∀ (o : IO) {T : Tab} {ff : Fx} (X : Cx) (e : List Expr), Good C T ff X → chkC T X.env.scope o e = true → PTs X e (tT X.K ff (evT C o))
  | .no, T, ff, X, [], g, h => dts_nil
  | .so i, T, ff, X, [e], g, h => pts_one (sE i X e g h).pt
  | .no, T, ff, X, _ :: _, g, h => by cases h
  | .so _, T, ff, X, [], g, h => by cases h
  | .so _, T, ff, X, _ :: _ :: _, g, h => by cases h
theorem sL : ∀ (es : IEs) {T : Tab} {ff : Fx} (X : Cx) (e : List Expr), Good C T ff X → chkL T X.env.scope es e = true → PA X e (tL X.K ff (evL C es))
  | .nil, T, ff, X, [], g, h => dl_nil
  | .cons i is, T, ff, X, e :: es, g, h => by
    rw [chkL, Bool.and_eq_true] at h
    exact dl_cons (sE i X e g h.1).pe (sL is X es g h.2) (nostarE h.1)
  | .nil, T, ff, X, _ :: _, g, h => by cases h
  | .cons _ _, T, ff, X, [], g, h => by cases h
theorem sKw : ∀ (es : IEs) {T : Tab} {ff : Fx} (X : Cx) (e : List Keyword), Good C T ff X → chkKw T X.env.scope es e = true → PK X e (tL X.K ff (evL C es))
  | .nil, T, ff, X, [], g, h => dk_nil
  | .cons i is, T, ff, X, ⟨_, e, _⟩ :: es, g, h => by
    rw [chkKw, Bool.and_eq_true] at h
    exact dk_cons (sE i X e g h.1).pe (sKw is X es g h.2)
  | .nil, T, ff, X, _ :: _, g, h => by cases h
  | .cons _ _, T, ff, X, [], g, h => by cases h
theorem sK : ∀ (es : IKs) {T : Tab} {ff : Fx} (X : Cx) (pos : Pos) (ks : List (Option Expr)) (vs : List Expr), Good C T ff X → chkK T X.env.scope es ks vs = true → DPs X ff pos ks vs (evK C es)
  | .nil, T, ff, X, pos, [], [], g, h => dps_nil
  | .cons k v r, T, ff, X, pos, some k' :: ks, v' :: vs, g, h => by
    rw [chkK, Bool.and_eq_true, Bool.and_eq_true] at h
    exact dps_cons (sE k X k' g h.1.1).pe (sE v X v' g h.1.2).pe (sK r X pos ks vs g h.2)
  | .nil, T, ff, X, pos, _ :: _, _, g, h => by cases h
  | .nil, T, ff, X, pos, [], _ :: _, g, h => by cases h
  | .cons _ _ _, T, ff, X, pos, [], _, g, h => by cases h
  | .cons _ _ _, T, ff, X, pos, none :: _, _, g, h => by cases h
  | .cons _ _ _, T, ff, X, pos, some _ :: _, [], g, h => by cases h
theorem sI : ∀ (it : II) {T : Tab} {ff : Fx} (X : Cx) (tg e : Expr), Good C T ff X → chkI T X.env.scope it tg e = true → PI X tg e (tI X.K ff (iter C it))
  | .val i, T, ff, X, tg, e, g, h => di_val (sE i X e g h).pe
  | .enu es, T, ff, X, tg, e, g, h => by
    obtain ⟨x, p, es', pos, rfl, h0⟩ := inv_enu h
    replace h := h0
    simp only [Bool.and_eq_true, decide_eq_true_eq] at h
    obtain ⟨⟨⟨⟨hx, hg⟩, hl⟩, h1⟩, h3⟩ := h
    have hm : X.mg x = none := by rw [hx]; exact g.blt _ (by decide)
    have l0 := chkL_len hl
    match es', hl, h1, l0 with
    | [a], hl, _, l0 =>
      match es, hl, l0 with
      | .cons ia .nil, hl, _ =>
        have h2 : (chkE T X.env.scope ia a && true) = true := hl
        rw [Bool.and_eq_true] at h2
        exact di_enum hx h3 (glB_of hg) hm (sL (.cons ia .nil) X _ g hl) (nostarE h2.1)
      | .cons ia (.cons ib r), hl, l0 => exact absurd l0 (by show ¬ (lenEs r + 1 + 1 = 1); omega)
  | .zip es, T, ff, X, tg, e, g, h => by
    obtain ⟨x, p, es', pos, rfl, h0⟩ := inv_zip h
    replace h := h0
    simp only [Bool.and_eq_true, decide_eq_true_eq] at h
    obtain ⟨⟨⟨⟨hx, hg⟩, hl⟩, h1⟩, h3⟩ := h
    have hm : X.mg x = none := by rw [hx]; exact g.blt _ (by decide)
    have l0 := chkL_len hl
    match es', hl, h1, l0 with
    | [a, b], hl, _, l0 =>
      match es, hl, l0 with
      | .cons ia (.cons ib .nil), hl, _ =>
        have h2 : (chkE T X.env.scope ia a && (chkE T X.env.scope ib b && true)) = true := hl
        simp only [Bool.and_eq_true] at h2
        exact di_zip hx h3 (glB_of hg) hm (sL (.cons ia (.cons ib .nil)) X _ g hl) (nostarE h2.1) (nostarE h2.2.1)
      | .cons ia .nil, hl, l0 => exact absurd l0 (by show ¬ (0 + 1 = 2); omega)
      | .cons ia (.cons ib (.cons ic r)), hl, l0 => exact absurd l0 (by show ¬ (lenEs r + 1 + 1 + 1 = 2); omega)
  | .rng es, T, ff, X, tg, e, g, h => by
    obtain ⟨x, p, es', pos, rfl, h0⟩ := inv_rng h
    replace h := h0
    simp only [Bool.and_eq_true, decide_eq_true_eq] at h
    obtain ⟨⟨⟨⟨hx, hg⟩, hl⟩, h1⟩, h3⟩ := h
    have hm : X.mg x = none := by rw [hx]; exact g.blt _ (by decide)
    have fin : ∀ (f : List Va → Sto → R (List Va)) (n : Nat), es'.length = n → (∀ l S, l.length = n → f l S = rngV l S) → PI X tg (.Call (.Name x p) es' [] pos) (tI X.K ff fun η S => (evL C es η S).bind f) → PI X tg (.Call (.Name x p) es' [] pos) (tI X.K ff (iter C (.rng es))) := by
      intro f n hn hf q
      refine PI.weak q fun σ H Q z => ?_
      obtain ⟨μ, S, η, rs, re, z⟩ := z
      refine ⟨μ, S, η, rs, re, ?_⟩
      show ((evL C es η S).bind f).se ff.E _
      have z : ((evL C es η S).bind fun l S1 => rngV l S1).se ff.E (pI X.K ff H μ Q) := z
      rcases evL_eq (C := C) hl η S with y | y
      · cases h2 : evL C es η S with
        | bad => rw [h2] at z; exact z
        | ex _ _ => rw [h2] at z; exact z
        | ok l S1 =>
          rw [h2] at y z
          rw [R.bind_ok] at z ⊢
          rw [hf l S1 (show l.length = n by rw [show l.length = es'.length from y, hn])]
          exact z
      · rw [y] at z ⊢
        exact z
    have l0 := chkL_len hl
    match es', hl, fin, h1, h3, l0 with
    | [a], hl, fin, _, _, l0 =>
      match es, hl, l0, fin with
      | .cons ia .nil, hl, _, fin =>
        have h2 : (chkE T X.env.scope ia a && true) = true := hl
        rw [Bool.and_eq_true] at h2
        refine fin (fun l S1 => match l with | [x] => rng1 x S1 | _ => .bad) 1 rfl (fun l S hl => ?_) (di_rng1 hx (glB_of hg) hm (sL (.cons ia .nil) X _ g hl) (nostarE h2.1))
        match l, hl with
        | [_], _ => rfl
      | .cons ia (.cons ib r), hl, l0, _ => exact absurd l0 (by show ¬ (lenEs r + 1 + 1 = 1); omega)
    | [a, b], hl, fin, _, _, l0 =>
      match es, hl, l0, fin with
      | .cons ia (.cons ib .nil), hl, _, fin =>
        have h2 : (chkE T X.env.scope ia a && (chkE T X.env.scope ib b && true)) = true := hl
        rw [Bool.and_eq_true, Bool.and_eq_true] at h2
        refine fin (fun l S1 => match l with | [x, y] => rng2 x y S1 | _ => .bad) 2 rfl (fun l S hl => ?_) (di_rng2 hx (glB_of hg) hm (sL (.cons ia (.cons ib .nil)) X _ g hl) (nostarE h2.1) (nostarE h2.2.1))
        match l, hl with
        | [_, _], _ => rfl
      | .cons ia .nil, hl, l0, _ => exact absurd l0 (by show ¬ (0 + 1 = 2); omega)
      | .cons ia (.cons ib (.cons ic r)), hl, l0, _ => exact absurd l0 (by show ¬ (lenEs r + 1 + 1 + 1 = 2); omega)
    | [a, b, c], hl, fin, _, _, l0 =>
      match es, hl, l0, fin with
      | .cons ia (.cons ib (.cons ic .nil)), hl, _, fin =>
        have h2 : (chkE T X.env.scope ia a && (chkE T X.env.scope ib b && (chkE T X.env.scope ic c && true))) = true := hl
        rw [Bool.and_eq_true, Bool.and_eq_true, Bool.and_eq_true] at h2
        refine fin (fun l S1 => match l with | [x, y, z] => rng3 x y z S1 | _ => .bad) 3 rfl (fun l S hl => ?_) (di_rng3 hx (glB_of hg) hm (sL (.cons ia (.cons ib (.cons ic .nil))) X _ g hl) (nostarE h2.1) (nostarE h2.2.1) (nostarE h2.2.2.1))
        match l, hl with
        | [_, _, _], _ => rfl
      | .cons ia .nil, hl, l0, _ => exact absurd l0 (by show ¬ (0 + 1 = 3); omega)
      | .cons ia (.cons ib .nil), hl, l0, _ => exact absurd l0 (by show ¬ (0 + 1 + 1 = 3); omega)
      | .cons ia (.cons ib (.cons ic (.cons i4 r))), hl, l0, _ => exact absurd l0 (by show ¬ (lenEs r + 1 + 1 + 1 + 1 = 3); omega)
theorem sT : ∀ (t : IT) {T : Tab} {ff : Fx} (X : Cx) (e : Expr) (own : List Nat) (fB : Str → Bool), Good C T ff X → (∀ x, fB x = true → X.fn x = true ∨ X.env.scope.names.lookup x = some .local) → chkT T X.env.scope fB own t e = true → PG X e (tG X.K ff own (asgn C t))
  | .nm i, T, ff, X, e, own, fB, g, hf, h => by
    cases e <;> first | (exact absurd h Bool.false_ne_true) | skip
    rw [chkT] at h
    simp only [Bool.and_eq_true, decide_eq_true_eq, Bool.or_eq_true] at h
    refine dg_nm h.1.2 g.nd (by rw [g.N]; exact h.1.1.1) (locB_of h.1.1.2) ?_
    rcases h.2 with z | z
    · exact hf _ z
    · exact .inr (justLocB_of z)
  | .tp ts, T, ff, X, e, own, fB, g, hf, h => by
    cases e <;> first | (exact absurd h Bool.false_ne_true) | skip
    rw [chkT, Bool.and_eq_true] at h
    exact dg_tup g.calm (sTs ts X _ own fB g hf h.1) h.2 fun l η S hl => asgns_len ts l η S (by rw [chkTs_len h.1]; exact hl)
  | .st ts i, T, ff, X, e, own, fB, g, hf, h => by
    cases e <;> first | (exact absurd h Bool.false_ne_true) | skip
    rw [chkT, Bool.and_eq_true] at h
    exact dg_star g.calm (sSt ts i X _ own fB g hf h.1) (chkSt_len h.1) h.2 (fun l η S hl => asgnSt_eq ts i l η S hl) fun l η S hl => asgnSt_bad ts i l η S hl
  | .sub o i, T, ff, X, e, own, fB, g, hf, h => by
    cases e <;> first | (exact absurd h Bool.false_ne_true) | skip
    rw [chkT] at h
    simp only [Bool.and_eq_true, Bool.not_eq_true'] at h
    have hu := g.un
    exact dg_sub (by omega) (sE o X _ g h.1.1).pe (sE i X _ g h.1.2).pe (sl_ne h.2)
theorem sTs : ∀ (ts : ITs) {T : Tab} {ff : Fx} (X : Cx) (es : List Expr) (own : List Nat) (fB : Str → Bool), Good C T ff X → (∀ x, fB x = true → X.fn x = true ∨ X.env.scope.names.lookup x = some .local) → chkTs T X.env.scope fB own ts es = true → PGs X es (tGs X.K ff own (asgns C ts))
  | .nil, T, ff, X, [], own, fB, g, hf, h => PGs.weak dgs_nil fun w σ H Q z => by
    obtain ⟨μ, S, η, l, rs, re, rv, z⟩ := z
    refine ⟨μ, S, η, l, rs, re, rv, ?_⟩
    cases l <;> exact z
  | .cons t ts, T, ff, X, e :: es, own, fB, g, hf, h => by
    rw [chkTs, Bool.and_eq_true] at h
    have ns : ∀ x p, e ≠ .Starred x p := fun x p z => by
      rw [z] at h
      exact absurd h.1 (by cases t <;> exact Bool.false_ne_true)
    refine PGs.weak (dgs_cons (sT t X e own fB g hf h.1) (sTs ts X es own fB g hf h.2) ns) fun w σ H Q z => ?_
    obtain ⟨μ, S, η, l, rs, re, rv, z⟩ := z
    refine ⟨μ, S, η, l, rs, re, rv, ?_⟩
    cases l with
    | nil => exact z
    | cons v vs => exact R.se_nxb z
  | .nil, T, ff, X, _ :: _, own, fB, g, hf, h => by cases h
  | .cons _ _, T, ff, X, [], own, fB, g, hf, h => by cases h
theorem sSt : ∀ (ts : ITs) (i : Nat) {T : Tab} {ff : Fx} (X : Cx) (es : List Expr) (own : List Nat) (fB : Str → Bool), Good C T ff X → (∀ x, fB x = true → X.fn x = true ∨ X.env.scope.names.lookup x = some .local) → chkSt T X.env.scope fB own ts i es = true → PGs X es (tGs X.K ff own (stG C ts i))
  | .nil, i, T, ff, X, es, own, fB, g, hf, h => by
    obtain ⟨x, p, p2, rfl, h0⟩ := inv_st0 h
    replace h := h0
    simp only [Bool.and_eq_true, decide_eq_true_eq, Bool.or_eq_true] at h
    refine PGs.weak (dgs_star (ff := ff) (dg_nm (ff := ff) (pos := p) h.1.2 g.nd (by rw [g.N]; exact h.1.1.1) (locB_of h.1.1.2) ?_)) fun w σ H Q z => ?_
    · rcases h.2 with z | z
      · exact hf _ z
      · exact .inr (justLocB_of z)
    · obtain ⟨μ, S, η, l, rs, re, rv, z⟩ := z
      refine ⟨μ, S, η, l, rs, re, rv, ?_⟩
      match l, z with
      | [_], z => exact z
      | [], z => exact z
      | _ :: _ :: _, z => exact z
  | .cons t ts, i, T, ff, X, [], own, fB, g, hf, h => by cases h
  | .cons t ts, i, T, ff, X, e :: es, own, fB, g, hf, h => by
    rw [chkSt, Bool.and_eq_true] at h
    have ns : ∀ x p, e ≠ .Starred x p := fun x p z => by
      rw [z] at h
      exact absurd h.1 (by cases t <;> exact Bool.false_ne_true)
    refine PGs.weak (dgs_cons (sT t X e own fB g hf h.1) (sSt ts i X es own fB g hf h.2) ns) fun w σ H Q z => ?_
    obtain ⟨μ, S, η, l, rs, re, rv, z⟩ := z
    refine ⟨μ, S, η, l, rs, re, rv, ?_⟩
    cases l with
    | nil => exact z
    | cons v vs => exact R.se_nxb z
end
end
end Nb

namespace Nb
open PySem L2 PySem.Spec PyProof.Rows
/-! ### classes of exceptions -/
/-- what the module says of one -/
structure XcF (K : PySem.W.Frag) (mg : Str → Option Value) (xs : List (Str × Xi)) (cn : Str) (xi : Xi) : Prop where
  ex : ∃ c : Addr, mg cn = some (.ref c) ∧ XfC K c ∧ (∀ f ∈ xi.fl, PySem.W.findIn K (.ref c) f = some none) ∧ PySem.W.AskC K c ∧ (∀ k : Bx, PySem.W.kitOne K (.ref c) (.type (bxS k)) = some (decide (k ∈ xi.bu))) ∧
    ∀ cn2 xi2, lookX xs cn2 = some xi2 → ∃ c2 : Addr, mg cn2 = some (.ref c2) ∧ PySem.W.exmOne K (.ref c) (.ref c2) = some (decide (cn2 ∈ xi.up)) ∧ PySem.W.kitOne K (.ref c) (.ref c2) = some (decide (cn2 ∈ xi.up))
/-- one is made -/
def tXm (mg : Str → Option Value) (cn : Str) (fl : List Str) (ta : L2.TA) : L2.St → Hp → XK → Prop := fun σ H Q => ta σ H fun vs H1 => vs.length = fl.length ∧ vs.length ≤ 1000 ∧ ∃ c : Addr, mg cn = some (.ref c) ∧
  ((fl = [] ∧ Q (.ref c) none H1) ∨ (fl ≠ [] ∧ ∀ d, H1 d = none → Q (.ref c) (some d) (upd H1 d (.xd (fl.zip vs).reverse))))
structure XcM (P : Program) (w : World) (K : PySem.W.Frag) (mg : Str → Option Value) (base : Heap) (k : Nat) (cn : Str) (fl : List Str) : Prop where
  run : ∀ (X : Cx), X.prog = P → X.w = w → X.K = K → X.mg = mg → X.base = base → Room k X.A → X.A.guards = some [] → Gl X cn → ∀ (es : List Expr) (ta : L2.TA) (p pos : Pos), PA X es ta → es.length = fl.length → (∀ e ∈ es, ∀ x p, e ≠ .Starred x p) →
    PMk X (.Call (.Name cn p) es [] pos) (tXm mg cn fl ta)
/-- a def's own frame -/
structure Top (ff : Fx) (xs : List (Str × Xi)) (X : Cx) : Prop where
  hs : X.stack = X.env :: X.outer
  hf : X.env.frame = some X.env.locals
  tk : Takes X (fun cls d _ H => WX X.K X.mg ff cls d H)
  xf : ∀ cn xi, lookX xs cn = some xi → XcF X.K X.mg xs cn xi
  isi : X.mg "isinstance" = none
  bx : ∀ k : Bx, X.mg (Str.ofString (bxS k)) = none
  xm : ∃ k, Room k X.A ∧ ∀ cn xi, lookX xs cn = some xi → XcM X.prog X.w X.K X.mg X.base k cn xi.fl
  po : PassesOwn (model X.prog X.w) X.A X.env X.xe
theorem zip_rev {α β : Type} : ∀ (a : List α) (b : List β), a.length = b.length → a.reverse.zip b.reverse = (a.zip b).reverse
  | [], [], _ => rfl
  | x :: a, y :: b, h => by
    have h : a.length = b.length := by simpa using h
    rw [List.reverse_cons, List.reverse_cons, List.zip_append (by rw [List.length_reverse, List.length_reverse, h]), zip_rev a b h]
    show _ = ((x, y) :: a.zip b).reverse
    rw [List.reverse_cons]
    rfl
  | [], _ :: _, h => by cases h
  | _ :: _, [], h => by cases h
section
variable {X : Cx} {ff : Fx} {xs : List (Str × Xi)}
theorem ds_raise {es : List Expr} {cn : Str} {xi : Xi} {p pos pos2 : Pos} {f : En → Sto → R (List Va)} (hc : X.calm = true) (tp : Top ff xs X) (hgd : X.A.guards = some []) (hl : lookX xs cn = some xi) (hg : Gl X cn) (ha : PA X es (tL X.K ff f)) (hn : es.length = xi.fl.length) (ht : xi.fl.length ≤ 1000) (hst : ∀ e ∈ es, ∀ x p, e ≠ .Starred x p) :
    PS X (.Raise (some (.Call (.Name cn p) es [] pos)) none pos2) (tS X.K ff fun η S => (f η S).bind fun l S1 => rsV xs cn l S1) := by
  obtain ⟨k, hr, hm⟩ := tp.xm
  refine PS.weak (ps_raise hc tp.tk ((hm cn xi hl).run X rfl rfl rfl rfl rfl hr hgd hg es _ p pos ha hn hst)) fun D σ H h => ?_
  obtain ⟨μ, S, η, rs, re, q⟩ := h
  refine ⟨μ, S, η, rs, re, R.se_mono (R.se_bind q) fun l S1 q1 ws H1 μ1 e1 rs1 rv1 => ?_⟩
  obtain ⟨c, hmg, xc, hfl, _, _, _⟩ := (tp.xf cn xi hl).ex
  unfold rsV at q1
  rw [hl] at q1
  cases hp : pureL l with
  | none => rw [hp] at q1; exact q1.elim
  | some ds =>
    rw [hp] at q1
    dsimp only at q1
    by_cases hd : ds.length = xi.fl.length
    · rw [if_pos hd] at q1
      have q1 : ff.E ⟨cn, (xi.fl.zip ds).reverse⟩ S1 := q1
      have rp := rv1.pure hp
      have hw : ws.length = xi.fl.length := by rw [← rp.length, hd]
      refine ⟨hw, by rw [hw]; exact ht, c, hmg, ?_⟩
      by_cases h0 : xi.fl = []
      · refine .inl ⟨h0, ⟨_, S1, μ1, q1, rs1, c, hmg, rfl, .inl ⟨rfl, ?_⟩⟩⟩
        rw [h0]
        rfl
      · refine .inr ⟨h0, fun d hd0 => ?_⟩
        have nf := rs1.unk hd0
        have nm := rs1.fresh hd0
        refine ⟨_, S1, μ1, q1, rs1.hid Off.upd nf nm (rs1.his.free hd0), c, hmg, rfl, .inr ⟨d, ws.reverse, rfl, nm, ?_, ?_⟩⟩
        · rw [upd_same]
          dsimp only
          rw [List.map_reverse, List.map_fst_zip (by omega), zip_rev _ _ (by rw [hw])]
        · dsimp only
          rw [List.map_reverse, List.map_snd_zip (by omega)]
          exact (RpL.hid Off.upd nf rp).reverse
    · rw [if_neg hd] at q1
      exact q1.elim
/-! ### what an except clause tells -/
theorem xd_look {K : PySem.W.Frag} {H : Hp} {μ : Vw} {f : Str} : ∀ {fs : List (Str × PyData)} {vs : List V} {d : PyData}, RpL K H μ (fs.map (·.2)) vs → (fs.find? fun p => decide (p.1 = f)).map (·.2) = some d → ∃ v, ((fs.map (·.1)).zip vs).lookup f = some v ∧ Rp K H μ d v
  | [], _, _, _, h => by cases h
  | (g, e) :: fs, _, d, .cons (v := v) (vs := vs) r t, h => by
    by_cases hg : g = f
    · rw [List.find?_cons_of_pos (by simpa using hg)] at h
      cases h
      refine ⟨v, ?_, r⟩
      show List.lookup f ((g, v) :: _) = _
      rw [List.lookup_cons, hg, beq_self_eq_true]
    · rw [List.find?_cons_of_neg (by simpa using hg)] at h
      obtain ⟨v2, h1, h2⟩ := xd_look t h
      refine ⟨v2, ?_, h2⟩
      show List.lookup f ((g, v) :: _) = _
      rw [List.lookup_cons, show (f == g) = false from beq_eq_false_iff_ne.mpr (Ne.symm hg)]
      exact h1
def tH0 (K : PySem.W.Frag) (mg : Str → Option Value) (ff : Fx) (xs : List (Str × Xi)) (o : Option Nat) (a : Addr) (cls : Value) (dd : Option Addr) (σ : L2.St) (H : Hp) (k : Xi → Xn → Sto → Vw → Prop) : Prop :=
  (∀ i, o = some i → σ[i]? = some (some (.ref a))) ∧ ∃ μ S x xi, RS K ff H μ S ∧ XRep K mg H μ x cls dd ∧ lookX xs x.cn = some xi ∧ k xi x S μ
def tHT (K : PySem.W.Frag) (mg : Str → Option Value) (ff : Fx) (xs : List (Str × Xi)) (o : Option Nat) (a : Addr) (cls : Value) (dd : Option Addr) (t : HT) : TT := fun σ H Q => tH0 K mg ff xs o a cls dd σ H fun xi x S μ => ∃ b, htV xs xi t = some b ∧
  ∀ H' μ', Ex H μ H' μ' → RS K ff H' μ' S → Q b H'
def tHE (K : PySem.W.Frag) (mg : Str → Option Value) (ff : Fx) (xs : List (Str × Xi)) (o : Option Nat) (a : Addr) (cls : Value) (dd : Option Addr) (he : HE) : TE := fun σ H Q => tH0 K mg ff xs o a cls dd σ H fun xi x S μ => ∃ d, heV xs xi x he = some d ∧
  ∀ v H' μ', Ex H μ H' μ' → RS K ff H' μ' S → Rp K H' μ' d v → Q v H'
def tHL (K : PySem.W.Frag) (mg : Str → Option Value) (ff : Fx) (xs : List (Str × Xi)) (o : Option Nat) (a : Addr) (cls : Value) (dd : Option Addr) (hl : HEs) : L2.TA := fun σ H Q => tH0 K mg ff xs o a cls dd σ H fun xi x S μ => ∃ ds, heL xs xi x hl = some ds ∧
  ∀ vs H' μ', Ex H μ H' μ' → RS K ff H' μ' S → RpL K H' μ' ds vs → Q vs H'
theorem chkH_star {T : Tab} {sc : Scope} {o : Option Nat} {he : HE} {e : Expr} (h : chkH T sc o he e = true) : ∀ x p, e ≠ .Starred x p := by
  intro x p z
  subst z
  cases he with
  | dat x => cases x <;> exact absurd h Bool.false_ne_true
  | att f => exact absurd h Bool.false_ne_true
  | tup es => exact absurd h Bool.false_ne_true
  | ife t a b => exact absurd h Bool.false_ne_true
theorem XRep.dict {K : PySem.W.Frag} {mg : Str → Option Value} {H : Hp} {μ : Vw} {x : Xn} {cls : Value} {d : Option Addr} (h : XRep K mg H μ x cls d) : ∀ dx, d = some dx → ∃ fs, H dx = some (.xd fs) := by
  obtain ⟨c, _, _, hd⟩ := h
  rintro dx rfl
  rcases hd with ⟨h, _⟩ | ⟨dx2, vs, h, _, e, _⟩
  · cases h
  · cases h
    exact ⟨_, e⟩
theorem chkV_of {T : Tab} {sc : Scope} {o : Option Nat} {v : Str} (h : chkV T sc o v = true) : ∃ i, o = some i ∧ T.N[i]? = some v ∧ visB sc v = true ∧ okNm v = true := by
  unfold chkV at h
  cases o with
  | none => cases h
  | some i =>
    simp only [Bool.and_eq_true, decide_eq_true_eq] at h
    exact ⟨i, rfl, h.1.1, h.1.2, h.2⟩
theorem bx_boot (k : Bx) : bootBuiltins (Str.ofString (bxS k)) = some (.type (bxS k)) := by cases k <;> decide +kernel
theorem kit_any {K : PySem.W.Frag} {c : Value} {f : Str → Bool} {g : Str → Value} : ∀ (ys : List Str), (∀ y ∈ ys, PySem.W.kitOne K c (g y) = some (f y)) → PySem.W.kitAny K c (ys.map g) = some (ys.any f)
  | [], _ => rfl
  | y :: ys, h => by
    show PySem.W.kitAny K c (g y :: ys.map g) = _
    unfold PySem.W.kitAny
    rw [h y List.mem_cons_self, List.any_cons]
    cases f y with
    | true => rfl
    | false => exact kit_any ys fun z hz => h z (List.mem_cons_of_mem _ hz)
/-- the classes named, as they stand in the heap -/
def adr (mg : Str → Option Value) (y : Str) : Addr := match mg y with
  | some (.ref c) => c
  | _ => 0
theorem pa_ys {Y : Cx} {xs : List (Str × Xi)} {cn : Str} {xi : Xi} (F : XcF Y.K Y.mg xs cn xi) : ∀ (ys : List Str) (es : List Expr), chkYs Y.env.scope ys es = true → (∀ y ∈ ys, (lookX xs y).isSome) → PA Y es (fun _ H Q => Q (ys.map fun y => V.ref (adr Y.mg y)) H)
  | [], [], _, _ => pa_nil
  | y :: ys, e :: es, h, k => by
    cases e <;> first | (exact absurd h Bool.false_ne_true) | skip
    rename_i z p
    have h : (decide (y = z) && glB Y.env.scope z && okNm z && chkYs Y.env.scope ys es) = true := h
    simp only [Bool.and_eq_true, decide_eq_true_eq] at h
    obtain ⟨⟨⟨rfl, hg⟩, ho⟩, hr⟩ := h
    obtain ⟨c, _, _, _, _, _, hsub⟩ := F.ex
    obtain ⟨xi2, hx⟩ := Option.isSome_iff_exists.mp (k y List.mem_cons_self)
    obtain ⟨c2, hm, _, _⟩ := hsub y xi2 hx
    have ha : adr Y.mg y = c2 := by unfold adr; rw [hm]
    exact pa_cons (pe_glob (v := .ref (adr Y.mg y)) (glB_of hg) hm (by rw [ha]; rfl) (okNm_of ho).1) (pa_ys F ys es hr fun w hw => k w (List.mem_cons_of_mem _ hw)) rfl
  | [], _ :: _, h, _ => absurd h Bool.false_ne_true
  | _ :: _, [], h, _ => absurd h Bool.false_ne_true
section
variable {T : Tab} {a : Addr} {oe : Obj} {cls : Value} {d : Option Addr} {pn : List (Addr × Obj)} {o : Option Nat}
theorem sHT (hN : X.N = T.N) (tp : Top ff xs X) (hz : Zc cls d oe) (hf : ∃ vs, oe.data = .fields vs) :
    ∀ (t : HT) (e : Expr), chkHT T X.env.scope o t e = true → PT (X.suite a ((a, oe) :: pn)) e (tHT X.K X.mg ff xs o a cls d t)
  | .no t, e, h => by
    cases e <;> first | (exact absurd h Bool.false_ne_true) | skip
    rename_i op e pos
    cases op <;> first | (exact absurd h Bool.false_ne_true) | skip
    refine PT.weak (pt_not (sHT hN tp hz hf t e h)) fun σ H Q q => ?_
    obtain ⟨hi, μ, S, x, xi, rs, xr, hl, b, hv, q⟩ := q
    unfold htV at hv
    cases h1 : htV xs xi t with
    | none => rw [h1] at hv; cases hv
    | some c =>
      rw [h1] at hv
      cases hv
      exact ⟨hi, μ, S, x, xi, rs, xr, hl, c, h1, fun H' μ' e rs' => q H' μ' e rs'⟩
  | .an t u, e, h => by
    cases e <;> first | (exact absurd h Bool.false_ne_true) | skip
    rename_i op es pos
    cases op <;> first | (exact absurd h Bool.false_ne_true) | skip
    match es, h with
    | [e1, e2], h =>
      have h : (chkHT T X.env.scope o t e1 && chkHT T X.env.scope o u e2) = true := h
      rw [Bool.and_eq_true] at h
      refine PT.weak (PW.pt (pw_and (sHT hN tp hz hf t e1 h.1) (pw_and1 (sHT hN tp hz hf u e2 h.2)))) fun σ H Q q => ?_
      obtain ⟨hi, μ, S, x, xi, rs, xr, hl, b, hv, q⟩ := q
      unfold htV at hv
      cases h1 : htV xs xi t with
      | none => rw [h1] at hv; cases hv
      | some c =>
        rw [h1] at hv
        refine ⟨hi, μ, S, x, xi, rs, xr, hl, c, h1, fun H1 μ1 e1 rs1 => ?_⟩
        cases c with
        | false =>
          cases hv
          exact q H1 μ1 e1 rs1
        | true => exact ⟨hi, μ1, S, x, xi, rs1, xr.mono e1, hl, b, hv, fun H2 μ2 e2 rs2 => q H2 μ2 (e1.trans e2) rs2⟩
    | [], h => exact absurd h Bool.false_ne_true
    | [_], h => exact absurd h Bool.false_ne_true
    | _ :: _ :: _ :: _, h => exact absurd h Bool.false_ne_true
  | .own y, e, h => by
    cases e <;> first | (exact absurd h Bool.false_ne_true) | skip
    rename_i f es ks pos
    cases f <;> first | (exact absurd h Bool.false_ne_true) | skip
    rename_i f p
    cases ks with
    | cons _ _ => exact absurd h (by unfold chkHT; split <;> simp_all)
    | nil =>
    match es, h with
    | [.Name v p1, .Name z p2], h =>
      have h : (decide (f = "isinstance") && glB X.env.scope f && chkV T X.env.scope o v && decide (y = z) && glB X.env.scope z && okNm z) = true := h
      simp only [Bool.and_eq_true, decide_eq_true_eq] at h
      obtain ⟨⟨⟨⟨⟨rfl, hg⟩, hv⟩, rfl⟩, hgz⟩, hoz⟩ := h
      obtain ⟨i, rfl, hy, vis, ok⟩ := chkV_of hv
      obtain ⟨o1, o2, _⟩ := okNm_of ok
      refine PT.weak (pt_val (t := fun σ H Q => tHT X.K X.mg ff xs (some i) a cls d (.own y) σ H fun b H' => Q (.bl b) H') ⟨fun pins s σ H Q I q => ?_⟩) fun σ H Q q => ?_
      · obtain ⟨hi, μ, S, x, xi, rs, xr, hl, b, hv, q⟩ := q
        obtain ⟨c, hm, hcls, hd⟩ := id xr
        obtain ⟨c', hm', xc, hfl, ask, _, hsub⟩ := (tp.xf _ _ hl).ex
        rw [hm] at hm'
        have ec : c = c' := by
          have := Option.some.inj hm'
          injection this
        subst ec
        subst hcls
        unfold htV at hv
        by_cases hk : (lookX xs y).isSome
        · rw [if_pos hk] at hv
          cases hv
          obtain ⟨xi2, hx⟩ := Option.isSome_iff_exists.mp hk
          obtain ⟨c2, hm2, _, kit⟩ := hsub y xi2 hx
          exact (pe_callB (call_isX ask hz hf) (glB_of hg) tp.isi (by decide +kernel) (pa_cons (pe_var (i := i) (by show X.N[i]? = _; rw [hN]; exact hy) (visB_of vis) o1 o2) (pa_cons (pe_glob (v := .ref c2) (glB_of hgz) hm2 rfl (okNm_of hoz).1) pa_nil rfl) rfl)).run pins s σ H Q I
            ⟨_, hi i rfl, _, _, _, rfl, .own _, kit, xr.dict, q H μ (Ex.refl _ _) rs⟩
        · rw [if_neg hk] at hv
          cases hv
      · obtain ⟨hi, μ, S, x, xi, rs, xr, hl, b, hv, q⟩ := q
        exact ⟨hi, μ, S, x, xi, rs, xr, hl, b, hv, fun H' μ' e rs' => ⟨b, rfl, q H' μ' e rs'⟩⟩
  | .blt k, e, h => by
    cases e <;> first | (exact absurd h Bool.false_ne_true) | skip
    rename_i f es ks pos
    cases f <;> first | (exact absurd h Bool.false_ne_true) | skip
    rename_i f p
    cases ks with
    | cons _ _ => exact absurd h (by unfold chkHT; split <;> simp_all)
    | nil =>
    match es, h with
    | [.Name v p1, .Name z p2], h =>
      have h : (decide (f = "isinstance") && glB X.env.scope f && chkV T X.env.scope o v && decide (z = Str.ofString (bxS k)) && glB X.env.scope z) = true := h
      simp only [Bool.and_eq_true, decide_eq_true_eq] at h
      obtain ⟨⟨⟨⟨rfl, hg⟩, hv⟩, rfl⟩, hgz⟩ := h
      obtain ⟨i, rfl, hy, vis, ok⟩ := chkV_of hv
      obtain ⟨o1, o2, _⟩ := okNm_of ok
      refine PT.weak (pt_val (t := fun σ H Q => tHT X.K X.mg ff xs (some i) a cls d (.blt k) σ H fun b H' => Q (.bl b) H') ⟨fun pins s σ H Q I q => ?_⟩) fun σ H Q q => ?_
      · obtain ⟨hi, μ, S, x, xi, rs, xr, hl, b, hv, q⟩ := q
        obtain ⟨c, hm, hcls, hd⟩ := id xr
        obtain ⟨c', hm', xc, hfl, ask, kit, hsub⟩ := (tp.xf _ _ hl).ex
        rw [hm] at hm'
        have ec : c = c' := by
          have := Option.some.inj hm'
          injection this
        subst ec
        subst hcls
        cases hv
        exact (pe_callB (call_isX ask hz hf) (glB_of hg) tp.isi (by decide +kernel) (pa_cons (pe_var (i := i) (by show X.N[i]? = _; rw [hN]; exact hy) (visB_of vis) o1 o2) (pa_cons (pe_bltn (v := .ty (bxS k)) (glB_of hgz) (tp.bx k) (bx_boot k) rfl (by cases k <;> decide) (by cases k <;> decide)) pa_nil rfl) rfl)).run pins s σ H Q I
          ⟨_, hi i rfl, _, _, _, rfl, .ty _, kit k, xr.dict, q H μ (Ex.refl _ _) rs⟩
      · obtain ⟨hi, μ, S, x, xi, rs, xr, hl, b, hv, q⟩ := q
        exact ⟨hi, μ, S, x, xi, rs, xr, hl, b, hv, fun H' μ' e rs' => ⟨b, rfl, q H' μ' e rs'⟩⟩
  | .any ys, e, h => by
    cases e <;> first | (exact absurd h Bool.false_ne_true) | skip
    rename_i f es ks pos
    cases f <;> first | (exact absurd h Bool.false_ne_true) | skip
    rename_i f p
    cases ks with
    | cons _ _ => exact absurd h (by unfold chkHT; split <;> simp_all)
    | nil =>
    match es, h with
    | [.Name v p1, .Tuple es' k2 p2], h =>
      have h : (decide (f = "isinstance") && glB X.env.scope f && chkV T X.env.scope o v && chkYs X.env.scope ys es' && decide (ys.length ≤ 100)) = true := h
      simp only [Bool.and_eq_true, decide_eq_true_eq] at h
      obtain ⟨⟨⟨⟨rfl, hg⟩, hv⟩, hys⟩, hlen⟩ := h
      obtain ⟨i, rfl, hy, vis, ok⟩ := chkV_of hv
      obtain ⟨o1, o2, _⟩ := okNm_of ok
      refine PT.weak (pt_val (t := fun σ H Q => tHT X.K X.mg ff xs (some i) a cls d (.any ys) σ H fun b H' => Q (.bl b) H') ⟨fun pins s σ H Q I q => ?_⟩) fun σ H Q q => ?_
      · obtain ⟨hi, μ, S, x, xi, rs, xr, hl, b, hv, q⟩ := q
        obtain ⟨c, hm, hcls, hd⟩ := id xr
        have F := tp.xf _ _ hl
        obtain ⟨c', hm', xc, hfl, ask, kit, hsub⟩ := F.ex
        rw [hm] at hm'
        have ec : c = c' := by
          have := Option.some.inj hm'
          injection this
        subst ec
        subst hcls
        unfold htV at hv
        by_cases hk : (ys.all fun y => (lookX xs y).isSome) = true
        · rw [if_pos hk] at hv
          cases hv
          have hk : ∀ y ∈ ys, (lookX xs y).isSome := fun y hy => List.all_eq_true.mp hk y hy
          have each : ∀ y ∈ ys, PySem.W.kitOne X.K (.ref c) ((fun y => Value.ref (adr X.mg y)) y) = some (decide (y ∈ xi.up)) := fun y hy => by
            obtain ⟨xi2, hx⟩ := Option.isSome_iff_exists.mp (hk y hy)
            obtain ⟨c2, hm2, _, kit⟩ := hsub y xi2 hx
            have ha : adr X.mg y = c2 := by unfold adr; rw [hm2]
            dsimp only
            rw [ha]
            exact kit
          have pr : ∀ l : List Str, Paired ClsV (l.map fun y => V.ref (adr X.mg y)) (l.map fun y => Value.ref (adr X.mg y)) := by
            intro l
            induction l with
            | nil => exact .nil
            | cons y l ih => exact .cons (.own _) ih
          refine (pe_callB (call_isXT ask hz hf) (glB_of hg) tp.isi (by decide +kernel) (pa_cons (pe_var (i := i) (by show X.N[i]? = _; rw [hN]; exact hy) (visB_of vis) o1 o2) (pa_cons (pe_tupZ (pa_ys (Y := X.suite a ((a, oe) :: pn)) F ys es' hys hk)) pa_nil rfl) rfl)).run pins s σ H Q I
            ⟨_, hi i rfl, by rw [List.length_map]; exact Nat.le_trans hlen (by decide), fun p ob hp ho => ⟨p, ob, _, _, _, rfl, upd_same, pr ys, kit_any ys each, ?_, ?_⟩⟩
          · intro dx hdx
            obtain ⟨fs, e⟩ := xr.dict dx hdx
            refine ⟨fs, ?_⟩
            rw [upd_ne (fun z => by rw [z, hp] at e; cases e)]
            exact e
          · exact q _ _ (Ex.new1 hp) (rs.new1 hp)
        · rw [if_neg hk] at hv
          cases hv
      · obtain ⟨hi, μ, S, x, xi, rs, xr, hl, b, hv, q⟩ := q
        exact ⟨hi, μ, S, x, xi, rs, xr, hl, b, hv, fun H' μ' e rs' => ⟨b, rfl, q H' μ' e rs'⟩⟩
mutual
theorem sH (hN : X.N = T.N) (tp : Top ff xs X) (hz : Zc cls d oe) (hf : ∃ vs, oe.data = .fields vs) :
    ∀ (he : HE) (e : Expr), chkH T X.env.scope o he e = true → PE (X.suite a ((a, oe) :: pn)) e (tHE X.K X.mg ff xs o a cls d he)
  | .dat x, e, h => by
    cases x <;> first | (exact absurd h Bool.false_ne_true) | skip
    · cases e <;> first | (exact absurd h Bool.false_ne_true) | skip
      rename_i c k pos
      cases c <;> first | (exact absurd h Bool.false_ne_true) | skip
      refine PE.weak pe_non fun σ H Q q => ?_
      obtain ⟨_, μ, S, x, xi, rs, xr, hl, d, hv, q⟩ := q
      unfold heV at hv
      cases hv
      exact q _ H μ (Ex.refl _ _) rs .non
    · cases e <;> first | (exact absurd h Bool.false_ne_true) | skip
      rename_i s c k pos
      cases c <;> first | (exact absurd h Bool.false_ne_true) | skip
      rename_i s'
      have h : s = s' := of_decide_eq_true h
      subst h
      refine PE.weak pe_str fun σ H Q q => ?_
      obtain ⟨_, μ, S, x, xi, rs, xr, hl, d, hv, q⟩ := q
      unfold heV at hv
      cases hv
      exact q _ H μ (Ex.refl _ _) rs (.str _)
  | .att f, e, h => by
    cases e <;> first | (exact absurd h Bool.false_ne_true) | skip
    rename_i ob f' pos
    cases ob <;> first | (exact absurd h Bool.false_ne_true) | skip
    rename_i y p
    have h : (decide (f = f') && chkV T X.env.scope o y) = true := h
    simp only [Bool.and_eq_true, decide_eq_true_eq] at h
    obtain ⟨rfl, hv⟩ := h
    obtain ⟨i, rfl, hy, vis, ok⟩ := chkV_of hv
    obtain ⟨o1, o2, _⟩ := okNm_of ok
    refine ⟨fun pins s σ H Q I q => ?_⟩
    obtain ⟨hi, μ, S, x, xi, rs, xr, hl, d0, hv0, q⟩ := q
    obtain ⟨c, hm, rfl, hd⟩ := xr
    obtain ⟨c', hm', xc, hfl, _⟩ := (tp.xf _ _ hl).ex
    rw [hm] at hm'
    have ec := Option.some.inj hm'
    have ec : c = c' := by injection ec
    subst ec
    unfold heV at hv0
    by_cases hin : f ∈ xi.fl
    · rw [if_pos hin] at hv0
      rcases hd with ⟨_, h0⟩ | ⟨dx, vs, e1, e2, e3, e4⟩
      · unfold attX at hv0
        rw [h0] at hv0
        cases hv0
      · obtain ⟨v, l1, l2⟩ := xd_look e4 hv0
        exact (pe_xf (te := tVar i) xc (hfl f hin) hz hf (pe_var (by show X.N[i]? = _; rw [hN]; exact hy) (visB_of vis) o1 o2)).run pins s σ H Q I ⟨_, hi i rfl, rfl, rfl, dx, _, v, e1, e3, l1, q v H μ (Ex.refl _ _) rs l2⟩
    · rw [if_neg hin] at hv0
      cases hv0
  | .ife t a1 a2, e, h => by
    cases e <;> first | (exact absurd h Bool.false_ne_true) | skip
    rename_i c b1 b2 pos
    have h : (chkHT T X.env.scope o t c && chkH T X.env.scope o a1 b1 && chkH T X.env.scope o a2 b2) = true := h
    simp only [Bool.and_eq_true] at h
    refine PE.weak (pe_ifExp (sHT hN tp hz hf t c h.1.1) (sH hN tp hz hf a1 b1 h.1.2) (sH hN tp hz hf a2 b2 h.2)) fun σ H Q q => ?_
    obtain ⟨hi, μ, S, x, xi, rs, xr, hl, d0, hv0, q⟩ := q
    unfold heV at hv0
    cases h1 : htV xs xi t with
    | none => rw [h1] at hv0; cases hv0
    | some b =>
      rw [h1] at hv0
      refine ⟨hi, μ, S, x, xi, rs, xr, hl, b, h1, fun H1 μ1 e1 rs1 => ?_⟩
      cases b with
      | true => exact ⟨hi, μ1, S, x, xi, rs1, xr.mono e1, hl, d0, hv0, fun v H2 μ2 e2 rs2 r => q v H2 μ2 (e1.trans e2) rs2 r⟩
      | false => exact ⟨hi, μ1, S, x, xi, rs1, xr.mono e1, hl, d0, hv0, fun v H2 μ2 e2 rs2 r => q v H2 μ2 (e1.trans e2) rs2 r⟩
  | .tup es, e, h => by
    cases e <;> first | (exact absurd h Bool.false_ne_true) | skip
    rename_i es' k pos
    refine PE.weak (pe_tupZ (sHs hN tp hz hf es es' h)) fun σ H Q q => ?_
    obtain ⟨hi, μ, S, x, xi, rs, xr, hl, d0, hv0, q⟩ := q
    unfold heV at hv0
    cases h1 : heL xs xi x es with
    | none => rw [h1] at hv0; cases hv0
    | some ds =>
      rw [h1] at hv0
      dsimp only at hv0
      by_cases hn : ds.length ≤ 1000
      · rw [if_pos hn] at hv0
        cases hv0
        refine ⟨hi, μ, S, x, xi, rs, xr, hl, ds, h1, fun vs H1 μ1 e1 rs1 r1 => ⟨by rw [← r1.length]; exact Nat.le_trans hn (by decide), fun p ob hp ho => ?_⟩⟩
        have e3 : Ex H1 μ1 (upd H1 p (.frz ob (.tup vs))) (μ1.add p) := Ex.new1 hp
        exact q _ _ _ (e1.trans e3) (rs1.new1 hp) (.tup (.inl ⟨ob, upd_same, ho, rs1.fresh hp, .inr rfl⟩) (r1.mono e3) (Nat.le_trans hn (by decide)))
      · rw [if_neg hn] at hv0
        cases hv0
theorem sHs (hN : X.N = T.N) (tp : Top ff xs X) (hz : Zc cls d oe) (hf : ∃ vs, oe.data = .fields vs) :
    ∀ (hl : HEs) (es : List Expr), chkHs T X.env.scope o hl es = true → PA (X.suite a ((a, oe) :: pn)) es (tHL X.K X.mg ff xs o a cls d hl)
  | .nil, [], _ => PA.weak pa_nil fun σ H Q q => by
    obtain ⟨hi, μ, S, x, xi, rs, xr, hl, ds, hv, q⟩ := q
    unfold heL at hv
    cases hv
    exact q [] H μ (Ex.refl _ _) rs .nil
  | .cons e r, e' :: r', h => by
    have h : (chkH T X.env.scope o e e' && chkHs T X.env.scope o r r') = true := h
    rw [Bool.and_eq_true] at h
    refine PA.weak (pa_cons (sH hN tp hz hf e e' h.1) (sHs hN tp hz hf r r' h.2) (star_cons _ _ _ (chkH_star h.1))) fun σ H Q q => ?_
    obtain ⟨hi, μ, S, x, xi, rs, xr, hl, ds, hv, q⟩ := q
    unfold heL at hv
    cases h1 : heV xs xi x e with
    | none => rw [h1] at hv; cases hv
    | some d0 =>
      rw [h1] at hv
      dsimp only at hv
      cases h2 : heL xs xi x r with
      | none => rw [h2] at hv; cases hv
      | some dr =>
        rw [h2] at hv
        cases hv
        exact ⟨hi, μ, S, x, xi, rs, xr, hl, d0, h1, fun v H1 μ1 e1 rs1 r1 => ⟨hi, μ1, S, x, xi, rs1, xr.mono e1, hl, dr, h2, fun vs H2 μ2 e2 rs2 r2 => q _ H2 μ2 (e1.trans e2) rs2 (.cons (r1.mono e2) r2)⟩⟩
  | .nil, _ :: _, h => absurd h Bool.false_ne_true
  | .cons _ _, [], h => absurd h Bool.false_ne_true
end
end
def tHS (K : PySem.W.Frag) (mg : Str → Option Value) (ff : Fx) (xs : List (Str × Xi)) (o : Option Nat) (h : HS) (a : Addr) (cls : Value) (dd : Option Addr) : TS := fun D σ H => match h with
  | .ret e => tHE K mg ff xs o a cls dd e σ H D.rt
  | .asg j e => tHE K mg ff xs o a cls dd e σ H fun v H1 => D.nx (σ.set j (some v)) H1
theorem no_swap {e : Expr} {t : Option Expr} {l : Nat} {env : Env} (h : isCompB e = false) : swapsWith e t l env = pure false := by
  cases e <;> first | rfl | cases h
theorem sHS {T : Tab} {a : Addr} {oe : Obj} {cls : Value} {d : Option Addr} {pn : List (Addr × Obj)} {o : Option Nat} (hN : X.N = T.N) (nd : X.N.Nodup) (hfn : ∀ x, X.fn x = true) (tp : Top ff xs X) (hz : Zc cls d oe) (hf : ∃ vs, oe.data = .fields vs)
    (h : HS) (s : Stmt) (hs : chkHS T X.env.scope o h s = true) : PSs (X.suite a ((a, oe) :: pn)) [s] (tHS X.K X.mg ff xs o h a cls d) := by
  cases h with
  | ret e =>
    cases s <;> first | (exact absurd hs Bool.false_ne_true) | skip
    rename_i ov pos
    cases ov with
    | none => exact absurd hs Bool.false_ne_true
    | some e' => exact pss_one (ps_ret (sH hN tp hz hf e e' hs))
  | asg j e =>
    cases s <;> first | (exact absurd hs Bool.false_ne_true) | skip
    rename_i ts e' pos
    match ts, hs with
    | [.Name y py], hs =>
      have hs : (chkH T X.env.scope o e e' && decide (T.N[j]? = some y) && locB X.env.scope y && !isCompB e') = true := hs
      simp only [Bool.and_eq_true, decide_eq_true_eq, Bool.not_eq_true'] at hs
      obtain ⟨⟨⟨h1, h2⟩, h3⟩, h4⟩ := hs
      exact pss_one (ps_set (X := X.suite a ((a, oe) :: pn)) nd (by rw [hN]; exact h2) (locB_of h3) (sH hN tp hz hf e e' h1) (no_swap h4) (.inl (hfn y)))
theorem takes_len {Y : Cx} {W : L2.WX} {W' : XK} (tk : Takes Y W) (hW : ∀ cls d σ H, σ.length = Y.N.length → W' cls d H → W cls d σ H) : Takes Y (fun cls d _ H => W' cls d H) :=
  fun u s' ⟨a, B, sI, pins, σ, H, cls, d, e, I, nb, up, sky, na, os, ag, w⟩ => tk u s' ⟨a, B, sI, pins, σ, H, cls, d, e, I, nb, up, sky, na, os, ag, hW _ _ _ _ I.len w⟩
/-- the clauses, as the rule wants them -/
def clz (K : PySem.W.Frag) (mg : Str → Option Value) (ff : Fx) (xs : List (Str × Xi)) (cs : List (Str × Option Nat × HS)) : Clz := cs.map fun c => (.ref (adr mg c.1), c.2.1, tHS K mg ff xs c.2.1 c.2.2)
theorem clz_ok {T : Tab} (hN : X.N = T.N) (hx : T.xs = xs) (nd : X.N.Nodup) (hfn : ∀ x, X.fn x = true) (tp : Top ff xs X) : ∀ (cs : List (Str × Option Nat × HS)) (hs : List ExceptHandler), chkCl T X.env.scope cs hs = true → ClOk X hs (clz X.K X.mg ff xs cs)
  | [], [], _ => .nil
  | (cn, o, h) :: r, hd :: hs, hk => by
    cases hd with
    | ExceptHandler oc on su p' =>
    cases oc with
    | none => exact absurd hk Bool.false_ne_true
    | some e =>
    cases e <;> first | (exact absurd hk Bool.false_ne_true) | skip
    rename_i x np
    match su, hk with
    | [s0], hk =>
      have hk : (decide (x = cn) && glB X.env.scope x && okNm x && (lookX T.xs cn).isSome &&
        (match (generalizing := false) o, on with | none, none => true | some i, some n => decide (T.N[i]? = some n) && justLocB X.env.scope n | _, _ => false) && chkHS T X.env.scope o h s0 && chkCl T X.env.scope r hs) = true := hk
      simp only [Bool.and_eq_true, decide_eq_true_eq] at hk
      obtain ⟨⟨⟨⟨⟨⟨rfl, hg⟩, hok⟩, hlk⟩, hn⟩, hS⟩, hr⟩ := hk
      rw [hx] at hlk
      obtain ⟨xi, hxi⟩ := Option.isSome_iff_exists.mp hlk
      obtain ⟨c, hmc, _⟩ := (tp.xf x xi hxi).ex
      have ha : adr X.mg x = c := by unfold adr; rw [hmc]
      refine .cons ⟨glB_of hg, (okNm_of hok).1, .inl (by rw [ha]; exact hmc)⟩ ?_ (fun a oe cls d pn hz hf => sHS hN nd hfn tp hz hf h s0 hS) (clz_ok hN hx nd hfn tp r hs hr)
      cases o with
      | none => cases on with
        | none => exact .inl ⟨rfl, rfl⟩
        | some n => cases hn
      | some i => cases on with
        | none => cases hn
        | some n =>
          have hn : (decide (T.N[i]? = some n) && justLocB X.env.scope n) = true := hn
          simp only [Bool.and_eq_true, decide_eq_true_eq] at hn
          exact .inr ⟨i, n, rfl, rfl, by rw [hN]; exact hn.1, justLocB_of hn.2⟩
    | [], hk => exact absurd hk Bool.false_ne_true
    | _ :: _ :: _, hk => exact absurd hk Bool.false_ne_true
  | [], _ :: _, hk => absurd hk Bool.false_ne_true
  | _ :: _, [], hk => absurd hk Bool.false_ne_true
theorem chkCl_slot {T : Tab} {sc : Scope} : ∀ {cs : List (Str × Option Nat × HS)} {hs : List ExceptHandler}, chkCl T sc cs hs = true → ∀ c ∈ cs, ∀ i, c.2.1 = some i → i < T.N.length
  | [], _, _, c, hc => by cases hc
  | (cn, o, h) :: r, hd :: hs, hk, c, hc => by
    cases hd with
    | ExceptHandler oc on su p' =>
    cases oc with
    | none => exact absurd hk Bool.false_ne_true
    | some e =>
    cases e <;> first | (exact absurd hk Bool.false_ne_true) | skip
    rename_i x np
    match su, hk with
    | [s0], hk =>
      have hk : (decide (x = cn) && glB sc x && okNm x && (lookX T.xs cn).isSome &&
        (match (generalizing := false) o, on with | none, none => true | some i, some n => decide (T.N[i]? = some n) && justLocB sc n | _, _ => false) && chkHS T sc o h s0 && chkCl T sc r hs) = true := hk
      simp only [Bool.and_eq_true, decide_eq_true_eq] at hk
      obtain ⟨⟨⟨_, hn⟩, _⟩, hr⟩ := hk
      rcases List.mem_cons.mp hc with rfl | hc
      · rintro i rfl
        cases on with
        | none => cases hn
        | some n =>
          have hn : (decide (T.N[i]? = some n) && justLocB sc n) = true := hn
          simp only [Bool.and_eq_true, decide_eq_true_eq] at hn
          exact (List.getElem?_eq_some_iff.mp hn.1).1
      · exact chkCl_slot hr c hc
    | [], hk => exact absurd hk Bool.false_ne_true
    | _ :: _ :: _, hk => exact absurd hk Bool.false_ne_true
  | _ :: _, [], hk, _, _ => absurd hk Bool.false_ne_true
theorem chkCl_look {T : Tab} {sc : Scope} {xs : List (Str × Xi)} (hx : T.xs = xs) : ∀ {cs : List (Str × Option Nat × HS)} {hs : List ExceptHandler}, chkCl T sc cs hs = true → ∀ c ∈ cs, (lookX xs c.1).isSome
  | [], _, _, c, hc => by cases hc
  | (cn, o, h) :: r, hd :: hs, hk, c, hc => by
    cases hd with
    | ExceptHandler oc on su p' =>
    cases oc with
    | none => exact absurd hk Bool.false_ne_true
    | some e =>
    cases e <;> first | (exact absurd hk Bool.false_ne_true) | skip
    rename_i x np
    match su, hk with
    | [s0], hk =>
      have hk : (decide (x = cn) && glB sc x && okNm x && (lookX T.xs cn).isSome &&
        (match (generalizing := false) o, on with | none, none => true | some i, some n => decide (T.N[i]? = some n) && justLocB sc n | _, _ => false) && chkHS T sc o h s0 && chkCl T sc r hs) = true := hk
      simp only [Bool.and_eq_true, decide_eq_true_eq] at hk
      obtain ⟨⟨⟨⟨⟨⟨_, _⟩, _⟩, hlk⟩, _⟩, _⟩, hr⟩ := hk
      rw [hx] at hlk
      rcases List.mem_cons.mp hc with rfl | hc
      · exact hlk
      · exact chkCl_look hx hr c hc
    | [], hk => exact absurd hk Bool.false_ne_true
    | _ :: _ :: _, hk => exact absurd hk Bool.false_ne_true
  | _ :: _, [], hk, _, _ => absurd hk Bool.false_ne_true
/-- what the clauses do with an exception -/
theorem clz_w {D : Ends} {H : Hp} {μ : Vw} {cls : Value} {d : Option Addr} {σ' : L2.St} {H' : Hp} {μ1 : Vw} {x : Xn} {S1 : Sto} {xi : Xi} {n : Nat} (tp : Top ff xs X) (hn : n = X.N.length) (hl : lookX xs x.cn = some xi) (hl' : σ'.length = X.N.length) (e : Ex H μ H' μ1) (rs : RS X.K ff H' μ1 S1)
    (xr : XRep X.K X.mg H' μ1 x cls d) : ∀ (cs : List (Str × Option Nat × HS)), (∀ c ∈ cs, (lookX xs c.1).isSome) → (∀ c ∈ cs, ∀ i, c.2.1 = some i → i < X.N.length) → (clzV xs xi x n S1 cs).se ff.E (pS X.K ff H μ D) →
      wCl X.K (fun cls d _ H => WX X.K X.mg ff cls d H) D (clz X.K X.mg ff xs cs) cls d σ' H'
  | [], _, _, q => ⟨x, S1, μ1, q, rs, xr⟩
  | (cn, o, h) :: r, hk, hs, q => by
    obtain ⟨xi2, hx2⟩ := Option.isSome_iff_exists.mp (hk _ List.mem_cons_self)
    obtain ⟨cx, hmx, _, _, _, _, hsub⟩ := (tp.xf _ _ hl).ex
    obtain ⟨c2, hm2, hex, _⟩ := hsub cn xi2 hx2
    have ha : adr X.mg cn = c2 := by unfold adr; rw [hm2]
    obtain ⟨cx', hmx', ecls, hd⟩ := id xr
    rw [hmx] at hmx'
    have e1 : cx = cx' := by
      have := Option.some.inj hmx'
      injection this
    subst e1
    unfold clzV at q
    dsimp only at q
    refine ⟨decide (cn ∈ xi.up), by rw [ecls, ha]; exact hex, fun hb a ha => ?_, fun hb => ?_⟩
    · rw [if_pos (of_decide_eq_true hb)] at q
      have hio : ∀ i, o = some i → (setC o a σ')[i]? = some (some (.ref a)) := by
        rintro i rfl
        show (σ'.set i (some (.ref a)))[i]? = _
        exact List.getElem?_set_self (by rw [hl']; exact hs _ List.mem_cons_self i rfl)
      have hle : (setC o a σ').length = X.N.length := by
        cases o with
        | none => exact hl'
        | some i => show (σ'.set i _).length = _; rw [List.length_set, hl']
      cases h with
      | ret he =>
        unfold hsV at q
        dsimp only at q
        cases hv : heV xs xi x he with
        | none => rw [hv] at q; exact q.elim
        | some d0 =>
          rw [hv] at q
          have go : ∀ v H2 μ2, Ex H' μ1 H2 μ2 → RS X.K ff H2 μ2 S1 → Rp X.K H2 μ2 d0 v → D.rt v H2 := fun v H2 μ2 e2 rs2 r => q H2 μ2 (e.trans e2) rs2 v (.d r)
          cases o with
          | none => exact ⟨hio, μ1, S1, x, xi, rs, xr, hl, d0, hv, go⟩
          | some i => exact ⟨hio, μ1, S1, x, xi, rs, xr, hl, d0, hv, go⟩
      | asg j he =>
        unfold hsV at q
        dsimp only at q
        by_cases hji : o = some j
        · rw [if_pos hji] at q; exact q.elim
        · rw [if_neg hji] at q
          cases hv : heV xs xi x he with
          | none => rw [hv] at q; exact q.elim
          | some d0 =>
            rw [hv] at q
            have lay : ∀ (τ : L2.St) (v : V) (H2 : Hp) (μ2 : Vw), τ.length = X.N.length → (j < X.N.length → τ[j]? = some (some v)) → Rp X.K H2 μ2 d0 v → RE X.K ff.f H2 μ2 ((List.replicate n none).set j (some (.d d0))) τ := fun τ v H2 μ2 ht hj r => by
              refine ⟨by rw [List.length_set, List.length_replicate, ht, hn], fun k u hku => ?_⟩
              by_cases hkj : j = k
              · subst hkj
                have hjl : j < (List.replicate n (none : Option Va)).length := by
                  have := (List.getElem?_eq_some_iff.mp hku).1
                  rwa [List.length_set] at this
                rw [List.getElem?_set_self hjl] at hku
                cases hku
                rw [List.length_replicate, hn] at hjl
                exact ⟨v, hj hjl, .d r⟩
              · rw [List.getElem?_set_ne hkj, List.getElem?_replicate] at hku
                split at hku <;> cases hku
            cases o with
            | none =>
              refine ⟨hio, μ1, S1, x, xi, rs, xr, hl, d0, hv, fun v H2 μ2 e2 rs2 r => q H2 μ2 (e.trans e2) rs2 _ (lay _ v H2 μ2 (by show (σ'.set j _).length = _; rw [List.length_set, hl']) (fun hj => ?_) r)⟩
              show (σ'.set j (some v))[j]? = _
              exact List.getElem?_set_self (by rw [hl']; exact hj)
            | some i =>
              refine ⟨hio, μ1, S1, x, xi, rs, xr, hl, d0, hv, fun v H2 μ2 e2 rs2 r => q H2 μ2 (e.trans e2) rs2 _ (lay _ v H2 μ2 (by show (((σ'.set i _).set j _).set i _).length = _; rw [List.length_set, List.length_set, List.length_set, hl']) (fun hj => ?_) r)⟩
              show (((σ'.set i (some (.ref a))).set j (some v)).set i none)[j]? = _
              rw [List.getElem?_set_ne (fun z => hji (by rw [z])), List.getElem?_set_self (by rw [List.length_set, hl']; exact hj)]
    · rw [if_neg (of_decide_eq_false hb)] at q
      exact clz_w tp hn hl hl' e rs xr r (fun c hc => hk c (List.mem_cons_of_mem _ hc)) (fun c hc => hs c (List.mem_cons_of_mem _ hc)) q
theorem ds_try {T : Tab} {C : Cfg} {b : ISs} {body : List Stmt} {cs : List (Str × Option Nat × HS)} {hs : List ExceptHandler} {pos : Pos} (hN : X.N = T.N) (hx : T.xs = xs) (nd : X.N.Nodup) (hfn : ∀ x, X.fn x = true) (tp : Top ff xs X) (hne : cs ≠ []) (hcl : chkCl T X.env.scope cs hs = true)
    (hbody : ∀ (ff' : Fx), ff'.f = ff.f → ∀ pn xe, Takes (X.tr pn xe) (fun cls d _ H => WX X.K X.mg ff' cls d H) → PassesOwn (model X.prog X.w) X.A X.env xe → PSs (X.tr pn xe) body (tS X.K ff' (execs C b))) :
    PS X (.Try body hs [] [] pos) (tS X.K ff fun η S => tryV xs cs η.length (execs C b η S)) := by
  cases hs with
  | nil =>
    cases cs with
    | nil => exact absurd rfl hne
    | cons _ _ => exact absurd hcl Bool.false_ne_true
  | cons h0 hs =>
  refine ⟨fun pins s σ H D I q => ?_⟩
  obtain ⟨μ, S, η, rs, re, q⟩ := q
  dsimp only at q
  have hlen : η.length = X.N.length := re.len.trans I.len
  generalize hF : (⟨ff.f, H, μ, fun x S1 => (tryV xs cs η.length (.ex x S1)).se ff.E (pS X.K ff H μ D)⟩ : Fx) = ff'
  have hff : ff'.f = ff.f := by rw [← hF]
  have toF : ∀ H1 μ1 S1, RS X.K ff' H1 μ1 S1 → Ex H μ H1 μ1 ∧ RS X.K ff H1 μ1 S1 := fun H1 μ1 S1 rs1 => by
    rw [← hF] at rs1
    exact ⟨rs1.his, rs1.re rfl (rs.his.trans rs1.his)⟩
  have hlk : ∀ c ∈ cs, (lookX xs c.1).isSome := chkCl_look hx hcl
  refine (ps_try_L tp.hs tp.hf nd tp.tk
    (tb := fun W D σ H => (∀ cls d σ' H', σ'.length = X.N.length → WX X.K X.mg ff' cls d H' → W cls d σ' H') ∧ tS X.K ff' (execs C b) D σ H)
    (fun W pn xe tk po => ⟨fun pins s σ H D I hh => (hbody ff' hff pn xe (takes_len tk hh.1) po).run pins s σ H D I hh.2⟩)
    (clz_ok hN hx nd hfn tp cs (h0 :: hs) hcl)).run pins s σ H D I ⟨?_, ?_⟩
  · rintro cls d σ' H' hl' ⟨x, S1, μ1, hE, rs1, xr⟩
    obtain ⟨e, rsF⟩ := toF _ _ _ rs1
    have hE : (tryV xs cs η.length (.ex x S1)).se ff.E (pS X.K ff H μ D) := by rw [← hF] at hE; exact hE
    unfold tryV at hE
    dsimp only at hE
    cases hl : lookX xs x.cn with
    | none => rw [hl] at hE; exact hE.elim
    | some xi =>
      rw [hl] at hE
      dsimp only at hE
      exact clz_w tp hlen hl hl' e rsF xr cs hlk (fun c hc i hi => by rw [hN]; exact chkCl_slot hcl c hc i hi) hE
  · refine ⟨μ, S, η, by rw [← hF]; exact rs.re rfl (Ex.refl _ _), by rw [hff]; exact re, ?_⟩
    cases hx : execs C b η S with
    | bad => rw [hx] at q; exact q
    | ex x S1 =>
      rw [hx] at q
      rw [← hF]
      exact q
    | ok fl S1 =>
      rw [hx] at q
      intro H1 μ1 e1 rs1
      have q := q H1 μ1 e1 (toF _ _ _ rs1).2
      cases fl with
      | nx η1 => exact fun σ1 re1 => q σ1 (by rw [← hff]; exact re1)
      | rt v => exact fun w rv => q w (by rw [← hff]; exact rv)
end
end Nb

namespace Nb
open PySem L2 PySem.Spec PyProof.Rows
section
variable {C : Cfg} {T : Tab} {ff : Fx}
theorem swap_false {e : Expr} {t : Option Expr} {l : Nat} {env : Env} (h : isCompB e = false) : swapsWith e t l env = pure false := by
  cases e <;> first | rfl | cases h
theorem stores_none {t e : Expr} {env : Env} (h : (isTupB t && isTupB e) = false) : swappedStores [t] e env = pure none := by
  cases e <;> first
    | (cases t <;> first | rfl | cases h)
    | (cases t <;> rfl)
theorem opd_aug {X : Cx} : ∀ {o : Bo} {op : Operator}, augB o op = true → OpR X (inplaceOp op) (rD2 X.K ff (augV o)) := by
  intro o op h
  have add : OpR X (inplaceOp .Add) (rD2 X.K ff (augV .add)) := by
    intro pins st σ H vx vy v u Q I rx ry h
    obtain ⟨μ, S, x, y, rs, r1, r2, q⟩ := h
    unfold augV at q
    split at q <;> first | (exact q.elim) | skip
    all_goals (rename_i e; first | cases e | skip)
    · obtain rfl := Rp.int_inv r1
      obtain rfl := Rp.int_inv r2
      exact iop_add pins st σ H _ _ v u Q I rx ry ⟨_, _, rfl, rfl, pK.here rs q (.d (.int _))⟩
    · split at q
      · obtain rfl := Rp.str_inv r1
        obtain rfl := Rp.str_inv r2
        exact iop_add_str pins st σ H _ _ v u Q I rx ry ⟨_, _, rfl, rfl, by assumption, pK.here rs q (.d (.str _))⟩
      · exact q.elim
  have sub : OpR X (inplaceOp .Sub) (rD2 X.K ff (augV .sub)) := by
    intro pins st σ H vx vy v u Q I rx ry h
    obtain ⟨μ, S, x, y, rs, r1, r2, q⟩ := h
    unfold augV at q
    split at q <;> first | (exact q.elim) | skip
    all_goals (rename_i e; first | cases e | skip)
    obtain rfl := Rp.int_inv r1
    obtain rfl := Rp.int_inv r2
    exact iop_sub pins st σ H _ _ v u Q I rx ry ⟨_, _, rfl, rfl, pK.here rs q (.d (.int _))⟩
  cases o <;> cases op <;> first | (exact absurd h Bool.false_ne_true) | exact add | exact sub
theorem swap_or {e t : Expr} {l : Nat} {env : Env} (h : (!isCompB e || isSubB t || celNm env.scope t) = true) : swapsWith e (some t) l env = pure false := by
  rcases Bool.or_eq_true_iff.mp h with h1 | h1
  · rcases Bool.or_eq_true_iff.mp h1 with h | h
    · exact swap_false (by simpa using h)
    · cases t <;> first | (exact absurd h Bool.false_ne_true) | skip
      cases e <;> rfl
  · clear h
    have h := h1
    clear h1
    cases t <;> first | (exact absurd h Bool.false_ne_true) | skip
    rename_i x p
    have hk : (env.kindOf x == some .local) = false := by
      show (env.scope.names.lookup x == some .local) = false
      unfold celNm at h
      dsimp only at h
      split at h
      · cases h
      · rename_i hn
        cases hl : env.scope.names.lookup x with
        | none => rfl
        | some k => cases k <;> first | rfl | exact absurd hl hn
    have key : ∀ (b c d : Bool), (b && (env.kindOf x == some .local) && c && d) = false := fun b c d => by rw [hk, Bool.and_false, Bool.false_and, Bool.false_and]
    cases e <;> first | rfl | (show (pure (_ && (env.kindOf x == some .local) && _ && _) : Sem Bool) = _; rw [key])
theorem stores_fold {t e : Expr} {env : Env} (h : foldB e = true) : swappedStores [t] e env = pure none := by
  cases e <;> first | (exact absurd h Bool.false_ne_true) | skip
  rename_i vs a b
  have h : vs.all (foldedForSure 8) = true := h
  cases t <;> first | rfl | skip
  all_goals
    unfold swappedStores
    dsimp only
    repeat (first | rfl | (show (if _ then _ else _) = _; split) | split)
    all_goals (rename_i hn; exact absurd h hn)
theorem stores_or {t e : Expr} {env : Env} (h : (!(isTupB t && isTupB e) || foldB e) = true) : swappedStores [t] e env = pure none := by
  rcases Bool.or_eq_true_iff.mp h with h | h
  · refine stores_none ?_
    cases hh : (isTupB t && isTupB e) with
    | false => rfl
    | true => rw [hh] at h; cases h
  · exact stores_fold h
/-- a def's own frame: its names are its own -/
theorem asg_plain {X : Cx} {t : IT} {e : IE} {t' e' : Expr} {pos : Pos} (g : Good C T ff X) (hf : ∀ x, X.fn x = true) (h : (chkE T X.env.scope e e' && chkT T X.env.scope (fun _ => true) (slotsT t) t t' && (!isCompB e' || isSubB t' || celNm X.env.scope t') && (!(isTupB t' && isTupB e') || foldB e')) = true) :
    PS X (.Assign [t'] e' pos) (tS X.K ff (exec C (.asg t e))) := by
  simp only [Bool.and_eq_true] at h
  have ns : ∀ x p, t' ≠ .Starred x p := fun x p z => by
    have h2 := h.1.1.2
    rw [z] at h2
    exact absurd h2 (by cases t <;> exact Bool.false_ne_true)
  exact ds_asg (sE e X e' g h.1.1.1).pe (sT t X t' _ _ g (fun x _ => .inl (hf x)) h.1.1.2) (swap_or h.1.2) (stores_or h.2) ns
theorem setF_of {X : Cx} {i : Nat} {f : IF} {x : Str} {px : Pos} {l : Expr} {gs : List Comprehension} {scp : Scope} {p pos : Pos} (g : Good C T ff X) (h : setB T X.env.scope f i x px p l gs scp = true) :
    PS X (.Assign [.Name x px] (.ListComp l gs scp p) pos) (fun D σ H => tF X.K ff (evF C f) σ H fun w H1 => D.nx (σ.set i (some w)) H1) := by
  unfold setB at h
  simp only [Bool.and_eq_true, decide_eq_true_eq, Bool.not_eq_true'] at h
  obtain ⟨⟨⟨⟨⟨hcm, hF⟩, hN⟩, hx⟩, hl⟩, hn⟩ := h
  cases f <;> first | (exact absurd hF Bool.false_ne_true) | (exact absurd hcm Bool.false_ne_true) | skip
  rename_i elt tg it cd own
  obtain ⟨elt', tg', iter', ifs', scope, pos', e0, hF⟩ := inv_comp hF
  cases e0
  unfold cmpB at hF
  simp only [Bool.and_eq_true, Bool.not_eq_true'] at hF
  obtain ⟨⟨⟨⟨⟨⟨h1, h2⟩, h3⟩, h4⟩, h5⟩, h6⟩, h7⟩ := hF
  have ok := blkOk_by h3
  rw [← g.N] at ok
  have gb := fun st H D cl fp => g.blk scp ok.kind st H D cl fp
  have hy := justLocB_of hx
  have q := ds_setF (ff := ff.calm) (pos := p) (spos := pos) (py := px) (fi := iter C it) (g := asgn C tg) (t := evT C cd) (e := ev C elt) g.calm g.nd (by rw [g.N]; exact hN) hy (sw_true g.kind hy hl hn) (sI it X tg' iter' g.calmer h1) ok (fun st H D cl fp => ?_) (fun st H D cl fp => sC cd _ _ (gb st H D cl fp) h5) (fun st H D cl fp => (sE elt _ _ (gb st H D cl fp) h6).pe) (set_fold h2)
  · rw [own_map] at q
    refine PS.weak q fun D σ H z => tF_calm (ff := ff) ?_
    obtain ⟨μ, S, η, rs, re, z⟩ := z
    refine ⟨μ, S, η, rs, re, ?_⟩
    rw [evF] at z
    exact z
  · rw [own_map]
    exact sT tg _ tg' own _ (gb st H D cl fp) (fun x z => .inl z) h4
theorem stores_two {x y : Str} {px py pt pt2 : Pos} {kt k2 : Nat} {a b : Expr} {env : Env} (hk : env.blockKind = .function) (hx : env.scope.names.lookup x = some .local) (hy : env.scope.names.lookup y = some .local) (hl : (py.line == px.line) = true) (hxy : x ≠ y)
    (h1 : ([a, b] : List Expr).all (foldedForSure 8) = false) (h2 : ([a, b] : List Expr).all (constantsAlone 8) = false) (sa : isStarB a = false) (sb : isStarB b = false) :
    swappedStores [.Tuple [.Name x px, .Name y py] kt pt] (.Tuple [a, b] k2 pt2) env = pure (some [x, y]) := by
  have e1 : env.kindOf x = some .local := hx
  have e2 : env.kindOf y = some .local := hy
  have e5 : ([x, y] : List Str).eraseDups.length = 2 := by
    have : (y == x) = false := by simpa using Ne.symm hxy
    simp [List.eraseDups, List.eraseDupsBy, List.eraseDupsBy.loop, this]
  unfold swappedStores
  dsimp only
  split
  · rename_i z
    exfalso
    simp [hk] at z
  · split
    · rename_i z
      exfalso
      rw [List.any_eq_true] at z
      obtain ⟨e, he, z⟩ := z
      have : isStarB e = false := by
        rcases List.mem_cons.mp he with rfl | he
        · exact sa
        · rcases List.mem_cons.mp he with rfl | he
          · exact sb
          · cases he
      cases e <;> first | (cases z; done) | cases this
    · generalize hn : List.filterMap _ ([.Name x px, .Name y py] : List Expr) = ns
      have e0 : ((([.Name x px, .Name y py] : List Expr).head?.map (·.pos.line)).getD 0) = px.line := rfl
      rw [e0] at hn
      simp only [List.filterMap, e1, e2, hl, beq_self_eq_true, Bool.and_self, if_true] at hn
      subst hn
      rw [h1, h2]
      split
      · rename_i z
        exfalso
        rw [e5] at z
        simp at z
      · rfl
theorem inv_setF {sc : Scope} {a e : IE} {f : Str} {s : Stmt} (h : chkS T sc (.setF a f e) s = true) : ∃ a' p' e' pos, s = .Assign [.Attribute a' f p'] e' pos ∧ chkE T sc e e' = true ∧ chkE T sc a a' = true ∧ isCompB e' = false := by
  cases s <;> first | (exact absurd h Bool.false_ne_true) | skip
  rename_i ts e' pos
  cases ts with
  | nil => exact absurd h Bool.false_ne_true
  | cons t1 r =>
    cases r with
    | cons _ _ => cases t1 <;> exact absurd h Bool.false_ne_true
    | nil =>
      cases t1 <;> first | (exact absurd h Bool.false_ne_true) | skip
      rename_i a' f' p'
      have h : (decide (f = f') && chkE T sc e e' && chkE T sc a a' && !isCompB e') = true := h
      simp only [Bool.and_eq_true, decide_eq_true_eq, Bool.not_eq_true'] at h
      obtain ⟨⟨⟨rfl, h1⟩, h2⟩, h3⟩ := h
      exact ⟨_, _, _, _, rfl, h1, h2, h3⟩
mutual
theorem sS : ∀ (i : IS) {ff : Fx} (X : Cx) (s : Stmt), Good C T ff X → Top ff C.xs X → (∀ x, X.fn x = true) → chkS T X.env.scope i s = true → PS X s (tS X.K ff (exec C i))
  | .asg t e, ff, X, s, g, tp, hf, h => by
    obtain ⟨t', e', pos, rfl, h0⟩ := inv_asg h
    replace h := h0
    exact asg_plain g hf h
  | .setZ i f, ff, X, s, g, tp, hf, h => by
    obtain ⟨x, px, l, gs, scp, p, pos, rfl, h0⟩ := inv_setZ h
    replace h := h0
    exact ds_setFz (setF_of g h)
  | .setM i f, ff, X, s, g, tp, hf, h => by
    obtain ⟨x, px, l, gs, scp, p, pos, rfl, h0⟩ := inv_setM h
    replace h := h0
    exact ds_setMk (setF_of g h)
  | .par i j a b, ff, X, s, g, tp, hf, h => by
    obtain ⟨x, px, y, py, k1, p1, a', b', k2, p2, pos, rfl, h0⟩ := inv_par h
    simp only [Bool.and_eq_true, decide_eq_true_eq, Bool.not_eq_true'] at h0
    obtain ⟨⟨⟨⟨⟨⟨⟨⟨⟨⟨⟨⟨ha, hb⟩, hi⟩, hj⟩, hij⟩, hxy⟩, hx⟩, hy⟩, hl⟩, c1⟩, c2⟩, sa⟩, sb⟩ := h0
    have hx := justLocB_of hx
    have hy := justLocB_of hy
    exact ds_par g.calm g.nd (by rw [g.N]; exact hi) (by rw [g.N]; exact hj) hij hx hy (sE a X a' g ha).pe (sE b X b' g hb).pe (nostarE ha) (nostarE hb) (stores_two (by unfold Env.blockKind; rw [g.kind]; rfl) hx hy hl hxy c1 c2 sa sb)
  | .aug i op e, ff, X, s, g, tp, hf, h => by
    obtain ⟨x, px, op', e', pos, rfl, h0⟩ := inv_aug h
    replace h := h0
    simp only [Bool.and_eq_true, decide_eq_true_eq] at h
    exact ds_aug g.nd (by rw [g.N]; exact h.1.1.2) (locB_of h.1.2) (sE e X e' g h.2).pe (opd_aug h.1.1.1) (.inl (hf x))
  | .ife c a b, ff, X, s, g, tp, hf, h => by
    cases s <;> first | (exact absurd h Bool.false_ne_true) | skip
    replace h : (chkE T X.env.scope c _ && chkSs T X.env.scope a _ && chkSs T X.env.scope b _) = true := h
    simp only [Bool.and_eq_true] at h
    refine PS.weak (ds_if (sE c X _ g h.1.1).pt (sSs a X _ g tp hf h.1.2) (sSs b X _ g tp hf h.2)) fun D σ H z => ?_
    obtain ⟨μ, S, η, rs, re, z⟩ := z
    refine ⟨μ, S, η, rs, re, ?_⟩
    show (((ev C c η S).bind fun x S1 => truth x S1).bind fun t S2 => if t then execs C a η S2 else execs C b η S2).se ff.E _
    rw [R.bind_assoc]
    exact z
  | .for_ t it b, ff, X, s, g, tp, hf, h => by
    obtain ⟨t', it', b', pos, rfl, h0⟩ := inv_for h
    replace h := h0
    simp only [Bool.and_eq_true, Bool.not_eq_true'] at h
    exact ds_for tp.po g.calm (sI it X t' it' g h.1.1.1) (sT t X t' _ _ g (fun x _ => .inl (hf x)) h.1.2) (sSs b X b' g tp hf h.2) (set_fold h.1.1.2)
  | .forC t k b, ff, X, s, g, tp, hf, h => by
    obtain ⟨t', x, p, b', pos, rfl, h0⟩ := inv_forC h
    simp only [Bool.and_eq_true] at h0
    obtain ⟨⟨⟨⟨h1, h2⟩, h3⟩, h4⟩, h5⟩ := h0
    have he := (sE (.loc k) X (.Name x p) g (show (decide (T.N[k]? = some x) && visB X.env.scope x && okNm x) = true by rw [h1, h2, h3]; rfl)).pe
    have e : ev C (.loc k) = fun η S => match η[k]? with | some (some v) => .ok v S | _ => .bad := by
      funext η S
      rw [ev] <;> rfl
    rw [e] at he
    exact ds_forC tp.po g.calm he (sT t X t' _ _ g (fun x _ => .inl (hf x)) h4) (sSs b X b' g tp hf h5) (fun _ => rfl)
  | .wh c b, ff, X, s, g, tp, hf, h => by
    obtain ⟨c', b', pos, rfl, h0⟩ := inv_wh h
    replace h := h0
    simp only [Bool.and_eq_true] at h
    exact ds_while tp.po (sE c X c' g h.1).pt (sSs b X b' g tp hf h.2)
  | .ret e, ff, X, s, g, tp, hf, h => by
    obtain ⟨e', pos, rfl, h0⟩ := inv_ret h
    replace h := h0
    exact ds_ret (sE e X e' g h).pe
  | .ex e, ff, X, s, g, tp, hf, h => by
    cases s <;> first | (exact absurd h Bool.false_ne_true) | skip
    replace h : (chkE T X.env.scope e _ && !isCompB _) = true := h
    simp only [Bool.and_eq_true, Bool.not_eq_true'] at h
    exact ds_ex (sE e X _ g h.1).pe (swap_false h.2)
  | .raise cn es, ff, X, s, g, tp, hf, h => by
    obtain ⟨x, p, es', pos, pos2, rfl, h0⟩ := inv_raise h
    simp only [Bool.and_eq_true, decide_eq_true_eq] at h0
    obtain ⟨⟨⟨rfl, hg⟩, hr⟩, hl⟩ := h0
    unfold rsB at hr
    rw [g.xs] at hr
    cases hx : lookX C.xs x with
    | none => rw [hx] at hr; cases hr
    | some xi =>
      rw [hx] at hr
      dsimp only at hr
      simp only [Bool.and_eq_true, decide_eq_true_eq] at hr
      exact ds_raise g.calm tp g.gd hx (glB_of hg) (sL es X es' g hl) hr.1 (by omega) (nostarL hl)
  | .try_ b cs, ff, X, s, g, tp, hf, h => by
    obtain ⟨b', hs, pos, rfl, h0⟩ := inv_try h
    simp only [Bool.and_eq_true, Bool.not_eq_true'] at h0
    obtain ⟨⟨hne, hcl⟩, hb⟩ := h0
    refine ds_try g.N g.xs g.nd hf tp (fun z => by rw [z] at hne; cases hne) hcl fun ff' e pn xe tk po => ?_
    have gt : Good C T ff' (X.tr pn xe) := ⟨g.calm, g.nd, g.N, g.xs, g.kind, g.gd, g.un, fun k x n h => let ⟨q, _⟩ := g.fns k x n h; ⟨by rw [e]; exact q, passes_call tk fun _ _ _ _ h => h⟩, (by rw [e]; exact g.gls), g.blt, passes_call tk fun _ _ _ _ h => h, (by rw [e]; exact g.gx), (by rw [e]; exact g.gf), g.os, (fun cn ci h => ⟨by have := (g.cl cn ci h).ex; rw [← e] at this; exact this⟩), (fun j q h => ⟨by have := (g.kw j q h).ex; rw [← e] at this; exact this⟩), fun _ => ⟨tp.hs, tp.hf, tk⟩⟩
    have tt : Top ff' C.xs (X.tr pn xe) := ⟨tp.hs, tp.hf, tk, tp.xf, tp.isi, tp.bx, tp.xm, po⟩
    exact sSs b (X.tr pn xe) b' gt tt hf hb
  | .setF a f e, ff, X, s, g, tp, hf, h => by
    obtain ⟨a', p', e', pos, rfl, h1, h2, h3⟩ := inv_setF h
    exact ds_ofld g.gf g.cl (sE a X a' g h2).pe (sE e X e' g h1).pe (swap_false h3)
  | .pass, ff, X, s, g, tp, hf, h => by
    cases s <;> first | (exact absurd h Bool.false_ne_true) | skip
    refine PS.weak ps_pass fun D σ H z => ?_
    obtain ⟨μ, S, η, rs, re, z⟩ := z
    exact z H μ (Ex.refl _ _) rs σ re
  | .tag k i, ff, X, s, g, tp, hf, h => by
    have h : chkS T X.env.scope i s = true := by rw [chkS] at h; exact h
    have q := sS i X s g tp hf h
    have e : exec C (.tag k i) = exec C i := by funext η S; rw [exec]
    rw [e]
    exact q
theorem sSs : ∀ (i : ISs) {ff : Fx} (X : Cx) (s : List Stmt), Good C T ff X → Top ff C.xs X → (∀ x, X.fn x = true) → chkSs T X.env.scope i s = true → PSs X s (tS X.K ff (execs C i))
  | .nil, ff, X, [], g, tp, hf, h => ds_nil
  | .cons i r, ff, X, s :: ss, g, tp, hf, h => by
    replace h : (chkS T X.env.scope i s && chkSs T X.env.scope r ss) = true := h
    rw [Bool.and_eq_true] at h
    exact ds_cons (sS i X s g tp hf h.1) (sSs r X ss g tp hf h.2)
  | .nil, ff, X, _ :: _, g, tp, hf, h => by cases h
  | .cons _ _, ff, X, [], g, tp, hf, h => by cases h
end
end
end Nb

namespace Nb
open PySem L2 PySem.Spec PyProof.Rows
section
variable {K : PySem.W.Frag} {ff : Fx} {H H' : Hp} {μ μ' : Vw}
/-! ### what is closed -/
mutual
theorem RV.cl : ∀ {x : Va} {v : V}, RV K ff.f H μ x v → clV μ.ad.length x = true
  | _, _, .d _ => rfl
  | _, _, .ref h => decide_eq_true (List.getElem?_eq_some_iff.mp h).1
  | _, _, .z h => decide_eq_true (List.getElem?_eq_some_iff.mp h).1
  | _, _, .fn _ => rfl
  | _, _, .tup _ t _ => RVL.cl t
theorem RVL.cl : ∀ {l : List Va} {vs : List V}, RVL K ff.f H μ l vs → clVs μ.ad.length l = true
  | _, _, .nil => rfl
  | _, _, .cons r t => by
    show (clV _ _ && clVs _ _) = true
    rw [RV.cl r, RVL.cl t]
    rfl
end
theorem RKV.cl : ∀ {kvs : List (Key × Va)} {ks : List (Key × V)}, RKV K ff.f H μ kvs ks → clVs μ.ad.length (kvs.map (·.2)) = true
  | _, _, .nil => rfl
  | _, _, .cons r t => by
    show (clV _ _ && clVs _ _) = true
    rw [RV.cl r.2, RKV.cl t]
    rfl
theorem ROV.cl : ∀ {kvs : List (Str × Va)} {ks : List (Str × V)}, ROV K ff.f H μ kvs ks → clVs μ.ad.length (kvs.map (·.2)) = true
  | _, _, .nil => rfl
  | _, _, .cons r t => by
    show (clV _ _ && clVs _ _) = true
    rw [RV.cl r.2, ROV.cl t]
    rfl
theorem RS.cl {S : Sto} (r : RS K ff H μ S) : clS S = true := by
  unfold clS
  rw [List.all_eq_true]
  intro o ho
  obtain ⟨n, hn, e⟩ := List.mem_iff_getElem.mp ho
  have hm : n < μ.ad.length := by rw [r.len]; exact hn
  have q := r.at_ n _ o (List.getElem?_eq_getElem hm) (by rw [List.getElem?_eq_getElem hn, e])
  rw [← r.len]
  cases o with
  | lst l => obtain ⟨vs, _, t⟩ := q; exact t.cl
  | dct l => obtain ⟨vs, _, t⟩ := q; exact t.cl
  | ins cn fs => obtain ⟨C, dx, vs, _, _, t⟩ := q; exact t.cl
/-- the view without the cells made since -/
theorem Fz.cut {a : Addr} {u : HO} {ad : List Addr} (hs : ∀ b, b ∈ ad → b ∈ μ.ad) (h : Fz H μ a u) : Fz H ⟨ad, μ.fz⟩ a u := ⟨h.1, fun z => h.2.1 (hs _ z), h.2.2⟩
theorem DZ.cut {a : Addr} {ks : List (Key × V)} {ad : List Addr} (hs : ∀ b, b ∈ ad → b ∈ μ.ad) (h : DZ H μ a ks) : DZ H ⟨ad, μ.fz⟩ a ks := let ⟨o, h, f, g⟩ := h; ⟨o, h, fun z => f (hs _ z), g⟩
theorem TZ.cut {K : PySem.W.Frag} {a : Addr} {xs : List V} {ad : List Addr} (hs : ∀ b, b ∈ ad → b ∈ μ.ad) (h : TZ K H μ a xs) : TZ K H ⟨ad, μ.fz⟩ a xs := by
  rcases h with ⟨o, h, d, f, g⟩ | h
  · exact .inl ⟨o, h, d, fun z => f (hs _ z), g⟩
  · exact .inr h
mutual
theorem Rp.cut {ad : List Addr} (hs : ∀ b, b ∈ ad → b ∈ μ.ad) : ∀ {d : PyData} {v : V}, Rp K H μ d v → Rp K H ⟨ad, μ.fz⟩ d v
  | _, _, .non => .non
  | _, _, .bl b => .bl b
  | _, _, .int i => .int i
  | _, _, .str x => .str x
  | _, _, .lst h t l => .lst (h.imp (Fz.cut hs) id) (RpL.cut hs t) l
  | _, _, .tup h t l => .tup (TZ.cut hs h) (RpL.cut hs t) l
  | _, _, .dct h t l => .dct (DZ.cut hs h) (RpK.cut hs t) l
theorem RpK.cut {ad : List Addr} (hs : ∀ b, b ∈ ad → b ∈ μ.ad) : ∀ {ds : List (PyData × PyData)} {vs : List (Key × V)}, RpK K H μ ds vs → RpK K H ⟨ad, μ.fz⟩ ds vs
  | _, _, .nil => .nil
  | _, _, .cons r t => .cons (Rp.cut hs r) (RpK.cut hs t)
theorem RpL.cut {ad : List Addr} (hs : ∀ b, b ∈ ad → b ∈ μ.ad) : ∀ {ds : List PyData} {vs : List V}, RpL K H μ ds vs → RpL K H ⟨ad, μ.fz⟩ ds vs
  | _, _, .nil => .nil
  | _, _, .cons r t => .cons (Rp.cut hs r) (RpL.cut hs t)
end
mutual
theorem RV.cut {ad t : List Addr} (e : μ.ad = ad ++ t) : ∀ {x : Va} {v : V}, RV K ff.f H μ x v → clV ad.length x = true → RV K ff.f H ⟨ad, μ.fz⟩ x v
  | _, _, .d r, _ => .d (Rp.cut (fun b hb => by rw [e]; exact List.mem_append_left _ hb) r)
  | _, _, .ref (n := k) h, c => .ref (by
      have hk : k < ad.length := of_decide_eq_true c
      rw [e, List.getElem?_append_left hk] at h
      exact h)
  | _, _, .z (n := k) h, c => .z (by
      have hk : k < ad.length := of_decide_eq_true c
      rw [e, List.getElem?_append_left hk] at h
      exact h)
  | _, _, .fn h, _ => .fn h
  | _, _, .tup h t' l, c => .tup (h.imp (Fz.cut (fun b hb => by rw [e]; exact List.mem_append_left _ hb)) id) (RVL.cut e t' c) l
theorem RVL.cut {ad t : List Addr} (e : μ.ad = ad ++ t) : ∀ {l : List Va} {vs : List V}, RVL K ff.f H μ l vs → clVs ad.length l = true → RVL K ff.f H ⟨ad, μ.fz⟩ l vs
  | _, _, .nil, _ => .nil
  | _, _, .cons r t', c => by
    have c := Bool.and_eq_true_iff.mp c
    exact .cons (RV.cut e r c.1) (RVL.cut e t' c.2)
end
theorem RKV.cut {ad t : List Addr} (e : μ.ad = ad ++ t) : ∀ {kvs : List (Key × Va)} {ks : List (Key × V)}, RKV K ff.f H μ kvs ks → clVs ad.length (kvs.map (·.2)) = true → RKV K ff.f H ⟨ad, μ.fz⟩ kvs ks
  | _, _, .nil, _ => .nil
  | _, _, .cons r t', c => by
    have c := Bool.and_eq_true_iff.mp c
    exact .cons ⟨r.1, RV.cut e r.2 c.1⟩ (RKV.cut e t' c.2)
theorem ROV.cut {ad t : List Addr} (e : μ.ad = ad ++ t) : ∀ {kvs : List (Str × Va)} {ks : List (Str × V)}, ROV K ff.f H μ kvs ks → clVs ad.length (kvs.map (·.2)) = true → ROV K ff.f H ⟨ad, μ.fz⟩ kvs ks
  | _, _, .nil, _ => .nil
  | _, _, .cons r t', c => by
    have c := Bool.and_eq_true_iff.mp c
    exact .cons ⟨r.1, RV.cut e r.2 c.1⟩ (ROV.cut e t' c.2)
theorem RS.cut {S : Sto} {ad t : List Addr} (r : RS K ff H μ S) (e : μ.ad = ad ++ t) (c : (S.take ad.length).all (clO ad.length) = true) (hx : Ex ff.H0 ff.μ0 H ⟨ad, μ.fz⟩) : RS K ff H ⟨ad, μ.fz⟩ (S.take ad.length) := by
  have hl : ad.length ≤ S.length := by rw [← r.len, e, List.length_append]; omega
  refine ⟨by rw [List.length_take]; show ad.length = _; omega, ?_, r.kn, fun n a o h1 h2 => ?_, hx⟩
  · have := r.nd
    rw [e, List.nodup_append] at this
    exact this.1
  · have hn : n < ad.length := (List.getElem?_eq_some_iff.mp h1).1
    have h1' : μ.ad[n]? = some a := by rw [e, List.getElem?_append_left hn]; exact h1
    have co := List.all_eq_true.mp c o (List.mem_of_getElem? h2)
    rw [List.getElem?_take, if_pos hn] at h2
    have q := r.at_ n a o h1' h2
    cases o with
    | lst l => obtain ⟨vs, q1, q2⟩ := q; exact ⟨vs, q1, RVL.cut e q2 co⟩
    | dct l => obtain ⟨vs, q1, q2⟩ := q; exact ⟨vs, q1, RKV.cut e q2 co⟩
    | ins cn fs => obtain ⟨C, dx, vs, qc, q1, q2⟩ := q; exact ⟨C, dx, vs, qc, q1, ROV.cut e q2 co⟩
theorem trim0_ok {S S1 : Sto} {v : Va} {w : V} {Q : VK} (rs : RS K ff H μ S) (q : (trim0 S.length v S1).se ff.E (pK K ff H μ Q)) (e : Ex H μ H' μ') (rs1 : RS K ff H' μ' S1) (rv : RV K ff.f H' μ' v w) : Q w H' := by
  unfold trim0 at q
  split at q
  · rename_i c
    have c := Bool.and_eq_true_iff.mp c
    obtain ⟨t, et⟩ := e.pre
    rw [← rs.len] at q c
    exact q w H' _ e.cut (rs1.cut et c.2 (rs.his.trans e.cut)) (RV.cut et rv c.1)
  · exact q w H' μ' e rs1 rv
theorem trimZ_ok {S S1 : Sto} {k : Nat} {w : V} {Q : VK} (rs : RS K ff H μ S) (q : (trimZ S.length k S1).se ff.E (pK K ff H μ Q)) (e : Ex H μ H' μ') (rs1 : RS K ff H' μ' S1) (rv : RV K ff.f H' μ' (.z k) w) : Q w H' := by
  unfold trimZ at q
  split at q
  · rename_i l hS
    split at q
    · rename_i ds hd
      split at q
      · rename_i c
        simp only [Bool.and_eq_true, decide_eq_true_eq] at c
        obtain ⟨⟨hk, c⟩, hz⟩ := c
        cases rv with
        | z ha =>
          rename_i a
          obtain ⟨vs, h1, h2⟩ := rs1.lst ha hS
          have rp := h2.pure hd
          obtain ⟨t, et⟩ := e.pre
          have am : a ∈ μ'.ad := List.mem_of_getElem? ha
          have an : a ∉ μ.ad := fun z => by
            obtain ⟨i, hi, ei⟩ := List.mem_iff_getElem.mp z
            have hi' : μ'.ad[i]? = some a := by rw [et, List.getElem?_append_left hi, List.getElem?_eq_getElem hi, ei]
            have := RS.write.nodup_ix' rs1.nd ha hi'
            rw [rs.len] at hi
            omega
          have hn : H a = none := e.new a am an
          rw [← rs.len] at q c
          have rs2 := rs1.cut et c (rs.his.trans e.cut)
          have e2 : Ex H μ H' (Vw.add ⟨μ.ad, μ'.fz⟩ a) := e.cut.known hn
          exact q (.ref a) H' _ e2 (rs2.grow h1 (rs.his.free hn)) (.d (.lst (.inl ⟨.inl h1, an, .inr rfl⟩) (RpL.grow (RpL.cut (fun b hb => by rw [et]; exact List.mem_append_left _ hb) rp)) hz))
      · exact q.elim
    · exact q.elim
  · exact q.elim
theorem trim_ok {S S1 : Sto} {v : Va} {w : V} {Q : VK} (rs : RS K ff H μ S) (q : (trim S.length v S1).se ff.E (pK K ff H μ Q)) (e : Ex H μ H' μ') (rs1 : RS K ff H' μ' S1) (rv : RV K ff.f H' μ' v w) : Q w H' := by
  cases v with
  | z k => exact trimZ_ok rs q e rs1 rv
  | d x => exact trim0_ok rs q e rs1 rv
  | ref k => exact trim0_ok rs q e rs1 rv
  | fn k => exact trim0_ok rs q e rs1 rv
  | tup l => exact trim0_ok rs q e rs1 rv
end
/-! ### a def of the text -/
/-- what the module's names stand for, by numbers -/
structure Env1 (P : Program) (w : World) (K : PySem.W.Frag) (mg : Str → Option Value) (base : Heap) (f0 : Gx → V → Prop) (C : Cfg) (T : Tab) (k : Nat) : Prop where
  fns : ∀ j y n, T.fn[j]? = some (y, n) → ∃ f fd ps, FnG P w K mg base f0 k f fd ps (C.Φ j) ∧ ps.length = n ∧ mg y = some (.ref f) ∧ PySem.W.keepIn K (.ref f) = true ∧ Binds K fd ps []
  gls : ∀ j y v, T.gl[j]? = some y → C.gl j = some v → ∃ u w, mg y = some u ∧ RelV w u ∧ ∀ H μ, RV K f0 H μ v w
  blt : ∀ x ∈ (["len", "repr", "abs", "int", "tuple", "list", "range", "isinstance", "all", "str", "bool", "dict", "any", "sorted", "min", "max", "sum", "enumerate", "zip", "set", "reversed", "ValueError", "LookupError", "Exception"] : List Str), mg x = none
  gx : GdOk K w f0
  gf : ∀ y k v, f0 (.fun_ y k) v → ∃ f, v = .ref f ∧ mg y = some (.ref f)
  xs : T.xs = C.xs
  xf : ∀ cn xi, lookX C.xs cn = some xi → XcF K mg C.xs cn xi
  xm : ∀ cn xi, lookX C.xs cn = some xi → XcM P w K mg base k cn xi.fl
  os : T.os = C.os
  cl : ∀ cn ci, lookC C.os.cs cn = some ci → ∃ Ca : Addr, mg cn = some (.ref Ca) ∧ f0 (.fun_ cn 0) (.ref Ca) ∧ Cls K Ca ∧ (∀ f ∈ ci.fl, NoAttr K Ca f) ∧
    (∀ m j n, msL ci.ms m = some (j, n) → ∃ f fd ps, FnG P w K mg base f0 k f fd ps (C.Φ j) ∧ ps.length = n ∧ Meth K Ca m f ∧ Binds K fd ps []) ∧
    (∀ j n, ci.ini = some (j, n) → ∃ f fd ps, FnG P w K mg base f0 k f fd ps (C.Φ j) ∧ ps.length = n ∧ Mk K Ca f ∧ Binds K fd ps [])
  kw : ∀ (j : Nat) (q : Kw), C.os.kw[j]? = some q → ∃ f fd ps dv du, FnG P w K mg base f0 k f fd ps (C.Φ q.f) ∧ ps.length = q.ar.length ∧ mg q.nm = some (.ref f) ∧ PySem.W.keepIn K (.ref f) = true ∧ DfR K q.ar dv du ∧
    ∀ (s : Shared) (us ws l : List Value), K.In s.heap → us.length = q.n → ws.length = q.ks.length → arrU q.ar du (us ++ ws) = some l → BindsTo s fd ⟨us, q.ks.zip ws⟩ (ps.zip l)
theorem XRep.cut {K : PySem.W.Frag} {mg : Str → Option Value} {H : Hp} {μ : Vw} {x : Xn} {cls : Value} {d : Option Addr} {ad t : List Addr} (h : XRep K mg H μ x cls d) (e : μ.ad = ad ++ t) : XRep K mg H ⟨ad, μ.fz⟩ x cls d := by
  obtain ⟨c, h1, h2, h3⟩ := h
  refine ⟨c, h1, h2, ?_⟩
  rcases h3 with h3 | ⟨dx, vs, h4, h5, h6, h7⟩
  · exact .inl h3
  · exact .inr ⟨dx, vs, h4, fun z => h5 (by rw [e]; exact List.mem_append_left _ z), h6, RpL.cut (fun b hb => by rw [e]; exact List.mem_append_left _ hb) h7⟩
/-- an exception leaves a def: the caller's wish -/
theorem WX.out {K : PySem.W.Frag} {mg : Str → Option Value} {ff : Fx} {H : Hp} {μ : Vw} {S : Sto} (rs : RS K ff H μ S) {cls : Value} {d : Option Addr} {H' : Hp}
    (h : WX K mg ⟨ff.f, H, μ, fun x S1 => (trimE S.length x S1).se ff.E fun _ _ => True⟩ cls d H') : WX K mg ff cls d H' := by
  obtain ⟨x, S1, μ1, hE, rs1, xr⟩ := h
  have e : Ex H μ H' μ1 := rs1.his
  have rs2 : RS K ff H' μ1 S1 := rs1.re rfl (rs.his.trans e)
  dsimp only at hE
  unfold trimE at hE
  split at hE
  · rename_i c
    obtain ⟨t, et⟩ := e.pre
    rw [← rs.len] at hE c
    exact ⟨x, _, _, hE, rs2.cut et c (rs.his.trans e.cut), xr.cut et⟩
  · exact ⟨x, S1, μ1, hE, rs2, xr⟩
theorem RE.start {K : PySem.W.Frag} {ff : Fx} {H : Hp} {μ : Vw} {N : List Str} {l : List Va} {vs : List V} (r : RVL K ff.f H μ l vs) : RE K ff.f H μ (l.map some ++ List.replicate (N.length - l.length) none) (L2.start N vs) := by
  have hl := r.length
  refine ⟨by unfold L2.start; simp [hl], fun i v h => ?_⟩
  by_cases hi : i < l.length
  · rw [List.getElem?_append_left (by rw [List.length_map]; exact hi), List.getElem?_map] at h
    cases e : l[i]? with
    | none => rw [e] at h; cases h
    | some u =>
      rw [e] at h
      cases h
      obtain ⟨w, h1, h2⟩ := r.get e
      refine ⟨w, ?_, h2⟩
      unfold L2.start
      rw [List.getElem?_append_left (by rw [List.length_map, ← hl]; exact hi), List.getElem?_map, h1]
      rfl
  · rw [List.getElem?_append_right (by rw [List.length_map]; omega), List.getElem?_replicate] at h
    split at h <;> cases h
theorem FnG.of {P : Program} {w : World} {K : PySem.W.Frag} {mg : Str → Option Value} {base : Heap} {f0 : Gx → V → Prop} {k : Nat} {x qual : Str} {st : Stmt} {f : Addr} {fd : FuncData} {ps : List Str} {g : List Va → Sto → R Va} {C : Cfg} {T : Tab} (ib : ISs)
    (F : Fun K x qual st f fd) (E : Env1 P w K mg base f0 C T k) (hsc : FnScope T.N ps (defScope st)) (hck : chkSs T (defScope st) ib (defBody st) = true)
    (hg : ∀ l S, l.length = ps.length → clS S = true → clVs S.length l = true → g l S = .bad ∨ runF C T.N.length ib l S = g l S) : FnG P w K mg base f0 (k + 2) f fd ps g := by
  obtain ⟨oc, od, kV, doc, pm, an, cdv, ct, osl, rfl, lk, hcd⟩ := F.ex
  refine ⟨fun ff hf A outer s0 H args us vs Q hr hgd e0 hb r hl sp => ?_⟩
  subst hf
  have KX : K.In s0.heap := e0.mod.kin.keeps fun b o e => (e0.bs b o e).1
  have nol : s0.heap.NoLimit := e0.mod.nolimit.keeps fun b o e => (e0.bs b o e).1
  have kinds : ∀ y ∈ ps.zip us, (defScope st).names.lookup y.1 = some .local ∨ ((defScope st).names.lookup y.1 = some .cell ∧ ((cellsFrom (s0.heap.objs.size + 1) (defScope st).names []).lookup y.1).isSome = true) := by
    rintro ⟨n, v⟩ hy
    rcases hsc.par n (List.of_mem_zip hy).1 with z | z
    · exact .inl z
    · exact .inr ⟨z, PySem.W.cellsFrom_some _ _ _ (.inl z)⟩
  refine codeAny_call_function hr.depth (KX _ _ lk) rfl hsc.co hsc.gen rfl (PySem.W.codeRec_of KX hcd) (hb _ _ _ _ (wpAny_newFunctionEnv_cells hsc.kind kinds fun env he s1 xx => ?_))
  subst he
  refine ⟨nol.keeps xx.toInCall.keep, codeAny_func ?_⟩
  have hr2 := hr.deeper (envOfC qual (defScope st) s0.heap.objs.size f cdv)
  have hr1 := hr2.mono (Nat.le_succ k)
  have I := inv_start (CX := CX P w) (E := WX K mg ff) (qual := qual) (f := f) (cd := cdv) hsc hr.hd e0 hl r xx
  obtain ⟨μ, S, l, rs, rl, q⟩ := sp
  have tk : Takes (cxOf (CX P w) P w K mg base T.N qual (defScope st) f cdv A outer s0 H (WX K mg ff)) (fun cls d _ H => WX K mg ff cls d H) := takes_of rfl rfl rfl rfl
  have px : Passes (CX P w) (cxOf (CX P w) P w K mg base T.N qual (defScope st) f cdv A outer s0 H (WX K mg ff)) (WX K mg ⟨ff.f, H, μ, fun x S1 => (trimE S.length x S1).se ff.E fun _ _ => True⟩) := passes_call tk fun cls d σ H' h => WX.out rs h
  have po : PassesOwn (model P w) (A.deeper (envOfC qual (defScope st) s0.heap.objs.size f cdv)) (envOfC qual (defScope st) s0.heap.objs.size f cdv) (cxOf (CX P w) P w K mg base T.N qual (defScope st) f cdv A outer s0 H (WX K mg ff)).xe := PassesOwn.leaving
  have tk' : Takes (cxOf (CX P w) P w K mg base T.N qual (defScope st) f cdv A outer s0 H (WX K mg ff)) (fun cls d _ H' => WX K mg ⟨ff.f, H, μ, fun x S1 => (trimE S.length x S1).se ff.E fun _ _ => True⟩ cls d H') := tk.imp fun cls d σ H' h => WX.out rs h
  generalize hF : (⟨ff.f, H, μ, fun x S1 => (trimE S.length x S1).se ff.E fun _ _ => True⟩ : Fx) = ff' at px tk'
  have hll : l.length = ps.length := by rw [rl.length]; exact hl
  have hun := hr1.un
  have good : Good C T ff' (cxOf (CX P w) P w K mg base T.N qual (defScope st) f cdv A outer s0 H (WX K mg ff)) := by
    refine ⟨rfl, hsc.nd, rfl, E.xs, hsc.kind, hgd, ?_, fun j y n h => ?_, (by rw [← hF]; exact E.gls), E.blt, px, (by rw [← hF]; exact E.gx), (by rw [← hF]; exact E.gf), E.os, fun cn ci h => ?_, fun j q h => ?_, fun _ => ⟨rfl, rfl, tk'⟩⟩
    · show (A.deeper (envOfC qual (defScope st) s0.heap.objs.size f cdv)).units + 70 < cLine
      omega
    · obtain ⟨f', fd', ps', F', h1, h2, h3, h4⟩ := E.fns j y n h
      exact ⟨⟨k, f', fd', ps', (by rw [← hF]; exact F'), hr1, h1, h2, h3, h4⟩, px⟩
    · obtain ⟨Ca, h1, h2, h3, h4, h5, h6⟩ := E.cl cn ci h
      refine ⟨Ca, h1, by rw [← hF]; exact h2, h3, h4, fun m j n hm => ?_, fun j n hi => ?_⟩
      · obtain ⟨f', fd', ps', F', q1, q2, q3⟩ := h5 m j n hm
        exact ⟨k, f', fd', ps', by rw [← hF]; exact F', hr1, q1, q2, q3⟩
      · obtain ⟨f', fd', ps', F', q1, q2, q3⟩ := h6 j n hi
        exact ⟨k, f', fd', ps', by rw [← hF]; exact F', hr2, q1, q2, q3⟩
    · obtain ⟨f', fd', ps', dv, du, F', q1, q2, q3, q4, q5⟩ := E.kw j q h
      exact ⟨k, f', fd', ps', dv, du, by rw [← hF]; exact F', hr1, q1, q2, q3, q4, q5⟩
  have top : Top ff' C.xs (cxOf (CX P w) P w K mg base T.N qual (defScope st) f cdv A outer s0 H (WX K mg ff)) := ⟨rfl, rfl, tk', E.xf, E.blt _ (by decide), (fun k => E.blt _ (by cases k <;> decide)), ⟨k, hr1, E.xm⟩, po⟩
  have ht := sSs ib _ (defBody st) good top (fun _ => rfl) hck
  have rs' : RS K ff' H μ S := by rw [← hF]; exact rs.re rfl (Ex.refl _ _)
  have sat : (execs C ib (l.map some ++ List.replicate (T.N.length - l.length) none) S).se ff'.E (pS K ff' H μ { nx := fun _ H' => Q .non H', rt := Q }) := by
    have q2 : (runF C T.N.length ib l S).se ff.E (pK K ff H μ Q) := by
      rcases hg l S hll rs.cl (by rw [← rs.len]; exact rl.cl) with z | z
      · rw [z] at q; exact q.elim
      · rw [z]; exact q
    have back : ∀ H1 μ1 S1, Ex H μ H1 μ1 → RS K ff' H1 μ1 S1 → RS K ff H1 μ1 S1 := fun H1 μ1 S1 e1 rs1 => by
      rw [← hF] at rs1
      exact rs1.re rfl (rs.his.trans e1)
    unfold runF at q2
    cases hr0 : execs C ib (l.map some ++ List.replicate (T.N.length - l.length) none) S with
    | bad => rw [hr0] at q2; exact q2
    | ex x S1 =>
      rw [hr0] at q2
      show ff'.E x S1
      rw [← hF]
      exact R.se_mono q2 fun _ _ _ => trivial
    | ok fl S1 =>
      rw [hr0] at q2
      intro H1 μ1 e1 rs1
      cases fl with
      | nx η => exact fun σ _ => trim_ok (v := .d .none) rs q2 e1 (back _ _ _ e1 rs1) (.d .non)
      | rt v => exact fun w rv => trim_ok (v := v) rs q2 e1 (back _ _ _ e1 rs1) (by rw [← hF] at rv; exact rv)
  refine wpAny_mono (ht.run [] s1 _ H _ I ⟨μ, S, _, rs', (by rw [← hF]; exact RE.start rl), sat⟩) (fun fl s2 hs => ?_) fun e s2 hs => hs
  cases fl with
  | ret u =>
    obtain ⟨v, σ1, H1, J, rv, z⟩ := hs
    exact ⟨v, H1, J.os, J.bare, J.base, J.hok, rv, z⟩
  | next =>
    obtain ⟨σ1, H1, J, z⟩ := hs
    exact ⟨.non, H1, J.os, J.bare, J.base, J.hok, rfl, z⟩
  | brk =>
    obtain ⟨_, _, _, z⟩ := hs
    exact z.elim
  | cont =>
    obtain ⟨_, _, _, z⟩ := hs
    exact z.elim
end Nb

namespace Nb
open PySem L2 PySem.Spec PyProof.Rows
theorem Rp.ints {K : PySem.W.Frag} {H : Hp} {μ : Vw} : ∀ ns : List Int, RpL K H μ (ns.map PyData.int) (ns.map V.int)
  | [] => .nil
  | n :: r => .cons (.int n) (Rp.ints r)
/-- the law's call, by what the interpreter tells of it -/
theorem lawG {P : Program} {w : World} {K : PySem.W.Frag} {mg mb : Str → Option Value} {k : Nat} {fa a : Addr} {fd : FuncData} {x : Str} {g : List Va → Sto → R Va} {s₁ : Shared} {us : List Value} {ns : List Int}
    (KX : K.In s₁.heap) (nG : s₁.heap.Ns mainGlobals mg) (nB : s₁.heap.Ns builtinsNs mb) (hB : ∀ x : Str, x ≠ "__name__" → mb x = bootBuiltins x) (lim : s₁.heap.NoLimit) (gens : s₁.gens = #[])
    (ha : s₁.heap.get? a = some { cls := .type "list", data := .seq us.toArray }) (hi : IntsAre us ns) (hl : ns.length ≤ sizeLine) (room : Room k callerA)
    (F : ∀ base : Heap, K.In base → base.Ns mainGlobals mg → ∃ ff, FnG P w K mg base ff k fa fd [x] g) (bnd : ∀ (s : Shared) (u : Value), BindsTo s fd ⟨[u], []⟩ [(x, u)])
    (hg : (g [.d (.list (ns.map PyData.int))] []).sat fun v _ => v = .d (.bool true)) :
    codeAny (model P w) callerA (.call (.ref fa) ⟨[.ref a], []⟩) (fun r s' => r = .ok (.ret (.bool true)) ∧ OldK s₁.heap s'.heap ∧ s'.os = s₁.os ∧ AllBare s'.gens) s₁ := by
  have vi : Vals (ns.map V.int) us := vals_ints hi
  have ul : us.length = ns.length := hi.length
  have go : ∀ (H : Hp) (fz : Addr → Prop), (∀ b, H b ≠ none → b = a ∧ K.lookup a = none ∧ H b = some (.frz { cls := .type "list", data := .seq us.toArray } (.lst (ns.map V.int)))) → LA K H ⟨[], fz⟩ a (ns.map V.int) → (∀ b, fz b → ∃ o, H b = some o) → HOk P w H s₁.heap →
      codeAny (model P w) callerA (.call (.ref fa) ⟨[.ref a], []⟩) (fun r s' => r = .ok (.ret (.bool true)) ∧ OldK s₁.heap s'.heap ∧ s'.os = s₁.os ∧ AllBare s'.gens) s₁ := by
    intro H fz hH hL hf ok
    have out : ∀ {b : Addr} {o : Obj} {es : Array DictEntry} {ep : Nat}, s₁.heap.get? b = some o → o.data = .dict es ep → H b = none := by
      intro b o es ep e d
      by_cases z : H b = none
      · exact z
      · obtain ⟨rfl, _⟩ := hH b z
        rw [ha] at e
        cases e
        exact absurd d (fun q => nomatch q)
    have ns' : ∀ {b : Addr} {m : Str → Option Value}, s₁.heap.Ns b m → (hidT s₁.heap H).Ns b m := by
      rintro b m ⟨o, es, ep, e, d, r⟩
      exact ⟨o, es, ep, hidT_get e (out e d), d, r⟩
    have Kb : K.In (hidT s₁.heap H) := by
      intro b o e
      refine hidT_get (KX b o e) ?_
      by_cases z : H b = none
      · exact z
      · obtain ⟨rfl, z2, _⟩ := hH b z
        rw [z2] at e
        cases e
    have M : Mod K mg (hidT s₁.heap H) := by
      obtain ⟨mc, l1, l2⟩ := lim
      exact ⟨Kb, ns' nG, ⟨mb, ns' nB, hB⟩, mc, ns' l1, l2⟩
    have e0 : Env0 P w K mg (hidT s₁.heap H) callerA [] s₁ H := ⟨rfl, M, (fun b o e => of_hidT e), Nat.le_of_eq (hidT_size _ _), trivial, (fun b hb => absurd (show b ∈ ([] : List Addr) from hb) (by simp)), ok, .of_eq gens⟩
    obtain ⟨f0, Fg⟩ := F _ Kb (ns' nG)
    have sp : rDL K ⟨f0, H, ⟨[], fz⟩, fun _ _ => False⟩ g [.ref a] H (fun v _ => v = .bl true) := by
      refine ⟨⟨[], fz⟩, [], [.d (.list (ns.map PyData.int))], ⟨rfl, List.nodup_nil, hf, (fun n b o h1 _ => by simp at h1), Ex.refl _ _⟩, .cons (.d (.lst hL (Rp.ints ns) (by rw [List.length_map]; exact hl))) .nil, R.se_mono (R.sat_se hg) fun v S q w' H' μ' _ _ rv => ?_⟩
      subst q
      exact Rp.bl_inv rv
    refine codeAny_mono (Fg.run _ rfl callerA [] s₁ H ⟨[.ref a], []⟩ [.ref a] [.ref a] _ room rfl e0 (bnd s₁ (.ref a)) (.cons rfl .nil) rfl sp) fun r s' hq => ?_
    cases r with
    | error e =>
      obtain ⟨_, _, _, _, _, _, _, _, _, _, _, _, x, S, μ, h, _⟩ := hq
      exact h.elim
    | ok fl =>
      cases fl with
      | next => exact False.elim hq
      | brk => exact False.elim hq
      | cont => exact False.elim hq
      | ret u =>
        obtain ⟨v, H', os, bare, un, ok', rv, q⟩ := hq
        obtain rfl : v = .bl true := q
        obtain rfl : u = Value.bool true := rv
        refine ⟨rfl, OldK.of_keep (fun b o e => ?_), os, bare⟩
        by_cases z : H b = none
        · exact un.keep b o e z (fun y => absurd (show b ∈ ([] : List Addr) from y) (by simp)) (by simp)
        · obtain ⟨rfl, _, z3⟩ := hH b z
          obtain ⟨e1, _⟩ := ok b _ z3
          obtain ⟨e2, _⟩ := ok' b _ (un.frzs b _ _ z3)
          rw [e] at e1
          cases e1
          exact e2
  cases hk : K.lookup a with
  | some o =>
    have e := KX a o hk
    rw [ha] at e
    cases e
    exact go (fun _ => none) (fun _ => False) (fun b z => absurd rfl z) (.inr ⟨us, _, hk, by rw [ul]; exact hl, vi⟩) (fun b z => z.elim) (fun b u z => by have z' : (none : Option HO) = some u := z; cases z')
  | none =>
    have hH : ∀ b, (upd (fun _ => none) a (.frz { cls := .type "list", data := .seq us.toArray } (.lst (ns.map V.int))) : Hp) b ≠ none → b = a := by
      intro b z
      by_cases q : b = a
      · exact q
      · rw [upd_ne q] at z
        exact absurd rfl z
    refine go (upd (fun _ => none) a (.frz { cls := .type "list", data := .seq us.toArray } (.lst (ns.map V.int)))) (fun b => b = a) (fun b z => ?_) (.inl ⟨.inr ⟨_, upd_same⟩, by simp, rfl⟩) (fun b z => by subst z; exact ⟨_, upd_same⟩) (fun b u z => ?_)
    · have q := hH b z
      subst q
      exact ⟨rfl, hk, upd_same⟩
    · have q := hH b (by rw [z]; exact fun y => nomatch y)
      subst q
      rw [upd_same] at z
      cases z
      exact ⟨ha, by rw [List.length_map]; exact hl, us, _, vi, ha⟩
theorem walkG {l : PySem.W.OpenLaw} {n k : Nat} {q : Program} {loose : List Str} {XP : (Str → Option Value) → Heap → Prop} {YP : World → Heap → Prop} {d : DefRec} {K : Params → PySem.W.Frag} {x : Str} {g : List Va → Sto → R Va}
    (hn : l.most = some n) (hn2 : n ≤ sizeLine) (hdf : d.params.defaults = []) (hr : Room k callerA) (hY : ∀ (w : World) (h : Heap), YP w h → (K w.params).In h)
    (F : ∀ (w : World) (mg : Str → Option Value) (fa : Addr) (h : Heap), (K w.params).In h → h.Ns mainGlobals mg → mg d.name = some (.ref fa) → ∃ fd : FuncData, (∀ (s : Shared) (u : Value), BindsTo s fd ⟨[u], []⟩ [(x, u)]) ∧
      ∀ base : Heap, (K w.params).In base → base.Ns mainGlobals mg → ∃ ff, FnG l.prog w (K w.params) mg base ff k fa fd [x] g)
    (hg : ∀ ns : List Int, ns.length ≤ n → (∀ z ∈ ns, Builtin.Int.intBits z ≤ 1048576) → (g [.d (.list (ns.map PyData.int))] []).sat fun v _ => v = .d (.bool true)) :
    PySem.W.WalkO q loose XP YP l.row.toRowW d [] (fun f vs => PySem.call f vs) := by
  refine Att.attach_callB hn hdf fun w s₀ s₁ mg mb fa o pm cd doc a vs ns G Y ho hd hcd hmg hobj hints hlen hbits hg1 => ?_
  have KX := hY w _ Y
  obtain ⟨fd, hb, hF⟩ := F w mg fa _ KX G.T.g hmg
  exact lawG KX G.T.g G.T.b G.T.builtins G.T.nolimit hg1 hobj hints (Nat.le_trans hlen hn2) hr hF hb (hg ns hlen hbits)
end Nb

namespace Nb
open PySem L2
/-! ### plain reckoning with the interpreter -/
structure R.Sat {α : Type} (r : R α) (Q : α → Sto → Prop) : Prop where
  h : r.sat Q
theorem R.bind_Sat {α β : Type} {r : R α} {f : α → Sto → R β} {Q : β → Sto → Prop} : (r.bind f).Sat Q = r.Sat fun a S => (f a S).Sat Q := by
  refine propext ⟨fun h => ?_, fun h => ?_⟩
  · cases r with
    | ok a S => exact ⟨⟨h.h⟩⟩
    | bad => exact h.h.elim
    | ex _ _ => exact h.h.elim
  · cases r with
    | ok a S => exact h.h
    | bad => exact h.h.elim
    | ex _ _ => exact h.h.elim
theorem R.Sat_ok {α : Type} {a : α} {S : Sto} {Q : α → Sto → Prop} : (R.ok a S).Sat Q = Q a S := propext ⟨fun h => h.h, fun h => ⟨h⟩⟩
theorem R.Sat_of {α : Type} {r : R α} {a : α} {S : Sto} {Q : α → Sto → Prop} (e : r = .ok a S) (q : Q a S) : r.Sat Q := by rw [e]; exact ⟨q⟩
theorem R.Sat_mono {α : Type} {r : R α} {Q Q' : α → Sto → Prop} (h : r.Sat Q) (k : ∀ a S, Q a S → Q' a S) : r.Sat Q' := ⟨R.sat_mono h.h k⟩
theorem forF_inv {f : Va → En → Sto → R Fl} {Q : Fl → Sto → Prop} (I : Nat → En → Sto → Prop) : ∀ (xs : List Va) (i : Nat) (η : En) (S : Sto), I i η S → (∀ j x η S, xs[j]? = some x → I (i + j) η S → (f x η S).Sat fun fl S1 => match fl with | .nx η1 => I (i + j + 1) η1 S1 | .rt v => Q (.rt v) S1) → (∀ η S, I (i + xs.length) η S → Q (.nx η) S) → (forF f xs η S).Sat Q
  | [], i, η, S, h0, _, he => ⟨he η S h0⟩
  | x :: xs, i, η, S, h0, hs, he => by
    rw [forF, R.bind_Sat]
    refine R.Sat_mono (hs 0 x η S rfl h0) fun fl S1 q => ?_
    cases fl with
    | rt v => exact ⟨q⟩
    | nx η1 =>
      refine forF_inv I xs (i + 1) η1 S1 q (fun j y η S hy h => ?_) fun η S h => ?_
      · have := hs (j + 1) y η S hy (by rw [show i + (j + 1) = i + 1 + j by omega]; exact h)
        rw [show i + (j + 1) + 1 = i + 1 + j + 1 by omega] at this
        exact this
      · exact he η S (by rw [List.length_cons, show i + (xs.length + 1) = i + 1 + xs.length by omega]; exact h)
theorem compF_inv {f : Va → Sto → R (Option Va)} {Q : List Va → Sto → Prop} (I : Nat → List Va → Sto → Prop) : ∀ (xs : List Va) (i : Nat) (acc : List Va) (S : Sto), I i acc S → (∀ j x acc S, xs[j]? = some x → I (i + j) acc S → (f x S).Sat fun y S1 => match y with | some y => I (i + j + 1) (acc ++ [y]) S1 | none => I (i + j + 1) acc S1) → (∀ acc S, I (i + xs.length) acc S → Q acc S) → (compF f xs acc S).Sat Q
  | [], i, η, S, h0, _, he => ⟨he η S h0⟩
  | x :: xs, i, η, S, h0, hs, he => by
    rw [compF, R.bind_Sat]
    refine R.Sat_mono (hs 0 x η S rfl h0) fun y S1 q => ?_
    have go : ∀ acc, I (i + 1) acc S1 → (compF f xs acc S1).Sat Q := fun acc q => by
      refine compF_inv I xs (i + 1) acc S1 q (fun j y η S hy h => ?_) fun η S h => ?_
      · have := hs (j + 1) y η S hy (by rw [show i + (j + 1) = i + 1 + j by omega]; exact h)
        rw [show i + (j + 1) + 1 = i + 1 + j + 1 by omega] at this
        exact this
      · exact he η S (by rw [List.length_cons, show i + (xs.length + 1) = i + 1 + xs.length by omega]; exact h)
    cases y with
    | none => exact go _ q
    | some y => exact go _ q
/-! the end of a call -/
theorem trim_same0 {n : Nat} {v : Va} {S : Sto} (h : S.length = n) : trim0 n v S = .ok v S := by
  unfold trim0
  rw [← h, List.take_length]
  split <;> rfl
theorem trim_same {n : Nat} {x : PyData} {S : Sto} (h : S.length = n) : trim n (.d x) S = .ok (.d x) S := trim_same0 h
theorem trim_new {n : Nat} {x : PyData} {S T : Sto} (h : S.length = n) (c : clS S = true) : trim n (.d x) (S ++ T) = .ok (.d x) S := by
  show trim0 n (.d x) (S ++ T) = _
  unfold trim0
  rw [← h, List.take_left, show clV S.length (.d x) = true from rfl, show S.all (clO S.length) = true from c]
  rfl

/-! ### the operations at what they take -/
theorem natAbs10 : Int.natAbs 10 = 10 := rfl
theorem st_cons {C : Cfg} {s : IS} {r : ISs} {η : En} {S : Sto} {Q : Fl → Sto → Prop} (h : (exec C s η S).Sat fun fl S1 => match fl with | .nx η1 => (execs C r η1 S1).Sat Q | .rt v => Q (.rt v) S1) : (execs C (.cons s r) η S).Sat Q := by
  rw [execs, R.bind_Sat]
  refine R.Sat_mono h fun fl S1 q => ?_
  cases fl with
  | nx η1 => exact q
  | rt v => exact ⟨q⟩
theorem st_nil {C : Cfg} {η : En} {S : Sto} {Q : Fl → Sto → Prop} (h : Q (.nx η) S) : (execs C .nil η S).Sat Q := by
  rw [execs]; exact ⟨h⟩
theorem st_run {C : Cfg} {m : Nat} {b : ISs} {vs : List Va} {S : Sto} {Q : Va → Sto → Prop} (h : (execs C b (vs.map some ++ List.replicate (m - vs.length) none) S).Sat fun fl S1 => match fl with | .nx _ => (trim S.length (.d .none) S1).Sat Q | .rt v => (trim S.length v S1).Sat Q) : (runF C m b vs S).Sat Q := by
  unfold runF
  cases hr : execs C b (vs.map some ++ List.replicate (m - vs.length) none) S with
  | bad => rw [hr] at h; exact h.h.elim
  | ex _ _ => rw [hr] at h; exact h.h.elim
  | ok fl S1 =>
    rw [hr] at h
    have h := h.h
    cases fl with
    | nx η1 => exact h
    | rt v => exact h
/-- what may not raise -/
theorem R.nx_Sat {α : Type} {r : R α} {Q : α → Sto → Prop} : r.nx.Sat Q = r.Sat Q := by
  refine propext ⟨fun h => ?_, fun h => ?_⟩
  · cases r with
    | ok a S => exact ⟨h.h⟩
    | bad => exact h.h.elim
    | ex _ _ => exact h.h.elim
  · cases r with
    | ok a S => exact ⟨h.h⟩
    | bad => exact h.h.elim
    | ex _ _ => exact h.h.elim
theorem R.nx_of {α : Type} {r : R α} {a : α} {S : Sto} (h : r = .ok a S) : r.nx = .ok a S := by rw [h]; rfl
theorem runF_rt {C : Cfg} {m : Nat} {b : ISs} {vs : List Va} {S S1 : Sto} {v : Va} (h : execs C b (vs.map some ++ List.replicate (m - vs.length) none) S = .ok (.rt v) S1) : runF C m b vs S = trim S.length v S1 := by
  unfold runF
  rw [h]
  rfl
theorem runF_nx {C : Cfg} {m : Nat} {b : ISs} {vs : List Va} {S S1 : Sto} {η : En} (h : execs C b (vs.map some ++ List.replicate (m - vs.length) none) S = .ok (.nx η) S1) : runF C m b vs S = trim S.length (.d .none) S1 := by
  unfold runF
  rw [h]
  rfl
section
variable {S : Sto} {i j : Int} {x y : PyData} {C : Cfg} {η : En}
theorem b_add : binV .add (.d (.int i)) (.d (.int j)) S = .ok (.d (.int (i + j))) S := rfl
theorem b_sub : binV .sub (.d (.int i)) (.d (.int j)) S = .ok (.d (.int (i - j))) S := rfl
theorem b_mul : binV .mul (.d (.int i)) (.d (.int j)) S = if small64 i || small64 j then .ok (.d (.int (i * j))) S else .bad := rfl
theorem b_fdiv : binV .fdiv (.d (.int i)) (.d (.int j)) S = if decide (0 < j) && decide (j < 1073741824) then .ok (.d (.int (i / j))) S else if decide (j ≠ 0) && decide (j.natAbs.log2 < 9000) then .ok (.d (.int (i.fdiv j))) S else .bad := rfl
theorem b_mod : binV .mod (.d (.int i)) (.d (.int j)) S = if decide (0 < j) then .ok (.d (.int (i % j))) S else .bad := rfl
theorem b_pow : binV .pow (.d (.int i)) (.d (.int j)) S = if decide (0 ≤ j) && decide (j ≤ 1000000) && decide (i.natAbs < 2 ^ 64) then .ok (.d (.int (i ^ j.toNat))) S else .bad := rfl
theorem b_str {a b : Str} : binV .add (.d (.str a)) (.d (.str b)) S = if a.length + b.length ≤ sizeLine then .ok (.d (.str (a ++ b))) S else .bad := rfl
theorem b_lst {a b : List PyData} : binV .add (.d (.list a)) (.d (.list b)) S = if a.length + b.length ≤ sizeLine then .ok (.d (.list (a ++ b))) S else .bad := rfl
theorem b_tup {a b : List PyData} : binV .add (.d (.tuple a)) (.d (.tuple b)) S = if a.length + b.length ≤ sizeLine then .ok (.d (.tuple (a ++ b))) S else .bad := rfl
theorem c_eq : cmpV .eq (.d x) (.d y) S = if eqOk x && eqOk y then .ok (PyData.eqv x y) S else eqE' x y S := rfl
theorem c_ne : cmpV .ne (.d x) (.d y) S = if eqOk x && eqOk y then .ok (!PyData.eqv x y) S else neE' x y S := rfl
theorem c_lt : cmpV .lt (.d (.int i)) (.d (.int j)) S = .ok (decide (i < j)) S := rfl
theorem c_le : cmpV .le (.d (.int i)) (.d (.int j)) S = .ok (decide (i ≤ j)) S := rfl
theorem c_gt : cmpV .gt (.d (.int i)) (.d (.int j)) S = .ok (decide (j < i)) S := rfl
theorem c_ge : cmpV .ge (.d (.int i)) (.d (.int j)) S = .ok (decide (j ≤ i)) S := rfl
theorem c_is : cmpV .is (.d x) (.d .none) S = .ok (isNone x) S := rfl
theorem c_isnot : cmpV .isnot (.d x) (.d .none) S = .ok (!isNone x) S := rfl
theorem t_none : truth (.d .none) S = .ok false S := rfl
theorem t_bool {b : Bool} : truth (.d (.bool b)) S = .ok b S := rfl
theorem t_int : truth (.d (.int i)) S = .ok (i != 0) S := rfl
theorem t_lst {l : List PyData} : truth (.d (.list l)) S = .ok (!l.isEmpty) S := rfl
theorem t_tup {l : List PyData} : truth (.d (.tuple l)) S = .ok (!l.isEmpty) S := rfl
theorem g_lst {l : List PyData} : getV (.d (.list l)) (.d (.int i)) S = match atI l i with | some v => .ok (.d v) S | none => .bad := rfl
theorem g_tup {l : List PyData} : getV (.d (.tuple l)) (.d (.int i)) S = match atI l i with | some v => .ok (.d v) S | none => .bad := rfl
theorem l_lst {l : List PyData} : lenV (.d (.list l)) S = .ok (.d (.int l.length)) S := rfl
theorem l_tup {l : List PyData} : lenV (.d (.tuple l)) S = .ok (.d (.int l.length)) S := rfl
theorem f_len {v : Va} : bltV .len [v] S = lenV v S := rfl
theorem f_abs : bltV .abs [.d (.int i)] S = .ok (.d (.int (if i < 0 then -i else i))) S := rfl
theorem f_int : bltV .int [.d (.int i)] S = .ok (.d (.int i)) S := rfl
theorem f_intb {b : Bool} : bltV .int [.d (.bool b)] S = .ok (.d (.int (if b then 1 else 0))) S := rfl
theorem f_repr : bltV .repr [.d x] S = if showOk x || isD0 x then .ok (.d (.str x.shown)) S else .bad := rfl
theorem fz_nil : freeze [] S = .ok (.d (.list [])) S := rfl
theorem fz_of {l : List PyData} : freeze (l.map .d) S = .ok (.d (.list l)) S := by
  unfold freeze
  rw [pureL_d]
end
theorem sm_2 : small64 2 = true := rfl
theorem sm_1861 : small64 1861 = true := rfl
theorem sm_69001 : small64 69001 = true := rfl
theorem sm_86011 : small64 86011 = true := rfl
theorem sm_of {i : Int} (h0 : 0 ≤ i) (h1 : i < 18446744073709551616) : small64 i = true := by
  unfold small64
  rw [decide_eq_true (by omega), decide_eq_true (by omega)]; rfl
local macro_rules | `(tactic| simp_arith [$xs,*]) => `(tactic| simp -implicitDefEqProofs only [exec, ev, evL, evF, evO, evT, iter, asgn, asgns, asgnSt, R.bind_ok, R.Sat_ok, R.bind_Sat, List.map_cons, List.map_nil, List.cons_append, List.nil_append, List.getElem?_cons_zero, List.getElem?_cons_succ, List.length_cons, List.length_nil, Nat.reduceAdd, Nat.reduceSub, List.replicate, List.set, b_add, b_sub, b_mul, b_fdiv, b_mod, b_pow, b_str, b_lst, b_tup, c_eq, c_ne, c_lt, c_le, c_gt, c_ge, c_is, c_isnot, t_none, t_bool, t_int, t_lst, t_tup, l_lst, l_tup, f_len, f_abs, f_int, f_intb, f_repr, fz_nil, fz_of, sm_2, sm_1861, sm_69001, sm_86011, Int.reducePow, Int.reduceNeg, Int.reduceLT, Int.reduceLE, Int.reduceAdd, Int.reduceSub, Int.reduceMul, Int.reduceToNat, Nat.reducePow, natAbs10, Nat.reduceLT, decide_true, decide_false, Bool.and_true, Bool.true_and, Bool.true_or, Bool.or_true, Bool.and_false, Bool.false_and, Bool.false_eq_true, if_true, if_false, $xs,*])
def ISs.drop : ISs → Nat → ISs
  | r, 0 => r
  | .nil, _ => .nil
  | .cons _ r, n + 1 => r.drop n
/-! ### the pen -/
structure Pn where
  cells : List Int
  pos : Nat
  left : Int
def penOb (p : Pn) : Ob := .dct [(.inr "cells", .d (.list (p.cells.map .int))), (.inr "at", .d (.int p.pos)), (.inr "left", .d (.int p.left))]
theorem clO_pen {n : Nat} (p : Pn) : clO n (penOb p) = true := rfl
theorem clS_set {S : Sto} {n : Nat} {o : Ob} (c : clS S = true) (h : clO S.length o = true) : clS (S.set n o) = true := by
  unfold clS at *
  rw [List.all_eq_true] at *
  intro x hx
  rw [List.length_set]
  rcases List.mem_or_eq_of_mem_set hx with z | z
  · exact c x z
  · rw [z]; exact h
theorem ne_ca : (Str.ofString "cells" = Str.ofString "at") = False := eq_false (by decide +kernel)
theorem ne_cl : (Str.ofString "cells" = Str.ofString "left") = False := eq_false (by decide +kernel)
theorem ne_al : (Str.ofString "at" = Str.ofString "left") = False := eq_false (by decide +kernel)
theorem ne_ac : (Str.ofString "at" = Str.ofString "cells") = False := eq_false (by decide +kernel)
theorem ne_lc : (Str.ofString "left" = Str.ofString "cells") = False := eq_false (by decide +kernel)
theorem ne_la : (Str.ofString "left" = Str.ofString "at") = False := eq_false (by decide +kernel)
theorem inr_eq (x y : Str) : ((Sum.inr x : Key) = .inr y) = (x = y) := by simp
def irPen : ISs :=
    (.cons (.ret (.dct (.cons (.str "cells") (.fz (.lst (.sl (.loc 0) .no (.so (.int 63))))) (.cons (.str "at") (.int 0) (.cons (.str "left") (.int 0) .nil)))))
    .nil)
def irDraw : ISs :=
    (.cons (.ife (.cmp .gt (.ix (.loc 0) (.str "left")) (.int 0)) (.cons (.asg (.nm 6) (.bin .mod (.ix (.loc 0) (.str "left")) (.loc 1)))
    (.cons (.asg (.sub (.loc 0) (.str "left")) (.bin .fdiv (.ix (.loc 0) (.str "left")) (.loc 1)))
    (.cons (.ret (.loc 6))
    .nil))) .nil)
    (.cons (.asg (.nm 2) (.ix (.loc 0) (.str "at")))
    (.cons (.asg (.sub (.loc 0) (.str "at")) (.bin .add (.loc 2) (.int 1)))
    (.cons (.asg (.nm 3) (.bin .add (.bin .mul (.int 1861) (.loc 2)) (.int 809)))
    (.cons (.ife (.cmp .ne (.ix (.loc 0) (.str "cells")) (.fz (.disp .nil))) (.cons (.asg (.nm 3) (.ix (.ix (.loc 0) (.str "cells")) (.bin .mod (.loc 2) (.blt .len (.cons (.ix (.loc 0) (.str "cells")) .nil)))))
    .nil) .nil)
    (.cons (.ife (.and (.cmp .lt (.loc 2) (.blt .len (.cons (.ix (.loc 0) (.str "cells")) .nil))) (.cmp .ge (.blt .abs (.cons (.loc 3) .nil)) (.bin .pow (.int 10) (.int 18)))) (.cons (.asg (.nm 7) (.bin .add (.bin .mul (.int 2) (.blt .abs (.cons (.loc 3) .nil))) (.blt .int (.cons (.cmp .lt (.loc 3) (.int 0)) .nil))))
    (.cons (.asg (.sub (.loc 0) (.str "left")) (.bin .fdiv (.loc 7) (.loc 1)))
    (.cons (.ret (.bin .mod (.loc 7) (.loc 1)))
    .nil))) .nil)
    (.cons (.asg (.nm 4) (.bin .mod (.bin .pow (.bin .add (.bin .add (.bin .mod (.loc 3) (.int 2147483543)) (.bin .mul (.int 69001) (.loc 2))) (.int 83)) (.int 5)) (.int 2147483647)))
    (.cons (.asg (.nm 5) (.bin .mod (.bin .pow (.bin .add (.bin .mul (.loc 4) (.bin .add (.loc 2) (.int 65551))) (.bin .mul (.bin .mul (.int 86011) (.loc 2)) (.loc 2))) (.int 3)) (.int 2147483353)))
    (.cons (.ret (.bin .mod (.bin .fdiv (.loc 5) (.int 32)) (.loc 1)))
    .nil)))))))))
theorem pen_run (C : Cfg) {ns : List Int} {S : Sto} (hl : ns.length ≤ 63) : runF C 1 irPen [.d (.list (ns.map PyData.int))] S = .ok (.ref S.length) (S ++ [penOb ⟨ns, 0, 0⟩]) := by
  have hc : cutD (ns.map PyData.int) none (some 63) = ns.map PyData.int := by
    unfold cutD
    have : HT.sIx (ns.map PyData.int).length (ns.map PyData.int).length (some 63) = ns.length := by
      simp [HT.sIx]
      omega
    rw [this]
    simp [HT.sIx]
    exact List.take_of_length_le (by simp)
  unfold runF irPen
  simp only [execs, exec, ev, evK, evF, evO, evL, R.bind_ok, List.map_cons, List.map_nil, List.cons_append, List.getElem?_cons_zero, slV, hc, seqOf, freeze, pureL_d, kOf, List.foldl]
  simp only [List.getElem?_append_right (Nat.le_refl _), Nat.sub_self, List.getElem?_cons_zero, R.bind_ok]
  show trim0 S.length (.ref S.length) _ = _
  unfold trim0
  simp [clV, penOb, putA, ne_ca, ne_cl, ne_al]
theorem get_cells {S : Sto} {n : Nat} {p : Pn} (h : S[n]? = some (penOb p)) : getV (.ref n) (.d (.str "cells")) S = .ok (.d (.list (p.cells.map .int))) S := by
  simp [getV, h, penOb, valA]
theorem get_at {S : Sto} {n : Nat} {p : Pn} (h : S[n]? = some (penOb p)) : getV (.ref n) (.d (.str "at")) S = .ok (.d (.int p.pos)) S := by
  simp [getV, h, penOb, valA, ne_ca]
theorem get_left {S : Sto} {n : Nat} {p : Pn} (h : S[n]? = some (penOb p)) : getV (.ref n) (.d (.str "left")) S = .ok (.d (.int p.left)) S := by
  simp [getV, h, penOb, valA, ne_al, ne_cl]
theorem set_at {S : Sto} {n : Nat} {p : Pn} {a : Int} {b : Nat} (h : S[n]? = some (penOb p)) (e : a = b) : setV (.ref n) (.d (.str "at")) (.d (.int a)) S = .ok () (S.set n (penOb ⟨p.cells, b, p.left⟩)) := by
  subst e
  simp [setV, h, penOb, putA, ne_ca, ne_la, kOf, sizeLine]
theorem set_left {S : Sto} {n : Nat} {p : Pn} {a : Int} (h : S[n]? = some (penOb p)) : setV (.ref n) (.d (.str "left")) (.d (.int a)) S = .ok () (S.set n (penOb ⟨p.cells, p.pos, a⟩)) := by
  simp [setV, h, penOb, putA, ne_cl, ne_al, kOf, sizeLine]
theorem pow_lt_64 {a : Int} (h : 0 ≤ a) (h2 : a < 2 ^ 64) : a.natAbs < 2 ^ 64 := by omega
theorem plainAll_ints : ∀ l : List Int, PyData.plainAll (l.map PyData.int) = true
  | [] => rfl
  | i :: l => by rw [List.map_cons, PyData.plainAll, plainAll_ints l]; rfl
theorem depthAll_ints : ∀ l : List Int, PyData.depthAll (l.map PyData.int) = 0
  | [] => by rw [List.map_nil, PyData.depthAll]
  | i :: l => by rw [List.map_cons, PyData.depthAll, depthAll_ints l]; rfl
theorem eqOk_ints (l : List Int) : eqOk (.list (l.map PyData.int)) = true := by
  unfold eqOk
  rw [PyData.plain, plainAll_ints, PyData.depth, depthAll_ints]
  rfl
theorem eqv_nil : ∀ l : List Int, PyData.eqv (.list (l.map PyData.int)) (.list []) = l.isEmpty
  | [] => by rw [List.map_nil, PyData.eqv, PyData.eqvAll]; rfl
  | i :: l => by rw [List.map_cons, PyData.eqv, PyData.eqvAll]; rfl
theorem atI_of {α : Type} {l : List α} {i : Int} (h0 : 0 ≤ i) (h1 : i < l.length) : atI l i = l[i.toNat]? := by
  unfold atI ixN
  rw [if_pos h0, if_pos h1]
  rfl
theorem atI_ints {l : List Int} {i : Int} (h0 : 0 ≤ i) (h1 : i < l.length) : ∃ c : Int, atI (l.map PyData.int) i = some (.int c) := by
  rw [atI_of h0 (by rw [List.length_map]; exact h1), List.getElem?_map, List.getElem?_eq_getElem (by omega)]
  exact ⟨_, rfl⟩
theorem absI (c : Int) : 0 ≤ (if c < 0 then -c else c) := by split <;> omega
/-- what a draw leaves -/
def Drawn (S : Sto) (n : Nat) (p : Pn) (m : Int) (v : Va) (S1 : Sto) : Prop := ∃ (d : Int) (p' : Pn), v = .d (.int d) ∧ S1 = S.set n (penOb p') ∧ 0 ≤ d ∧ d < m ∧ p'.pos ≤ p.pos + 1 ∧ 0 ≤ p'.left ∧ p'.cells = p.cells
def DrawnF (S : Sto) (n : Nat) (p : Pn) (m : Int) (fl : Fl) (S1 : Sto) : Prop := match fl with
  | .nx _ => (trim S.length (.d .none) S1).Sat (Drawn S n p m)
  | .rt v => (trim S.length v S1).Sat (Drawn S n p m)
section
variable (C : Cfg) {S S1 : Sto} {n : Nat} {p : Pn} {m : Int} (hm : 0 < m) (hm2 : m < 1073741824) (hp : p.pos < 4194304) (hl : 0 ≤ p.left) (hS1 : S1[n]? = some (penOb ⟨p.cells, p.pos + 1, p.left⟩)) (hS' : S.set n (penOb ⟨p.cells, p.pos + 1, p.left⟩) = S1) (hlen : S1.length = S.length)
include hm hp hl hS' hlen
theorem draw_tail (c q : Int) (hq : q = p.pos) : (execs C (irDraw.drop 6) [some (.ref n), some (.d (.int m)), some (.d (.int q)), some (.d (.int c)), none, none, none, none] S1).Sat (DrawnF S n p m) := by
  unfold irDraw
  simp only [ISs.drop]
  refine st_cons ?_
  have h0 : 0 ≤ c % 2147483543 := Int.emod_nonneg _ (by omega)
  have h1 : c % 2147483543 < 2147483543 := Int.emod_lt_of_pos _ (by omega)
  have hb : (c % 2147483543 + 69001 * q + 83).natAbs < 18446744073709551616 := by omega
  simp_arith [decide_eq_true hb]
  refine st_cons ?_
  have g0 : 0 ≤ (c % 2147483543 + 69001 * q + 83) ^ 5 % 2147483647 := Int.emod_nonneg _ (by omega)
  have g1 : (c % 2147483543 + 69001 * q + 83) ^ 5 % 2147483647 < 2147483647 := Int.emod_lt_of_pos _ (by omega)
  generalize (c % 2147483543 + 69001 * q + 83) ^ 5 % 2147483647 = one at g0 g1
  have k1 : 0 ≤ one * (q + 65551) := Int.mul_nonneg g0 (by omega)
  have k2 : one * (q + 65551) ≤ 2147483647 * 4259855 := Int.mul_le_mul (by omega) (by omega) (by omega) (by omega)
  have k3 : 0 ≤ 86011 * q * q := Int.mul_nonneg (by omega) (by omega)
  have k4 : 86011 * q * q ≤ (86011 * 4194304) * 4194304 := Int.mul_le_mul (by omega) (by omega) (by omega) (by omega)
  have hb2 : (one * (q + 65551) + 86011 * q * q).natAbs < 18446744073709551616 := by omega
  have s1 : small64 one = true := sm_of (by omega) (by omega)
  have s2 : small64 q = true := sm_of (by omega) (by omega)
  simp_arith [s1, s2, decide_eq_true hb2]
  refine st_cons ?_
  simp_arith [decide_eq_true hm]
  generalize (one * (q + 65551) + 86011 * q * q) ^ 3 % 2147483353 / 32 = u
  exact R.Sat_of (trim_same hlen) ⟨u % m, ⟨p.cells, p.pos + 1, p.left⟩, rfl, hS'.symm, Int.emod_nonneg _ (by omega), Int.emod_lt_of_pos _ hm, Nat.le_refl _, hl, rfl⟩
include hm2 hS1
theorem draw_mid (c : Int) : (execs C (irDraw.drop 5) [some (.ref n), some (.d (.int m)), some (.d (.int p.pos)), some (.d (.int c)), none, none, none, none] S1).Sat (DrawnF S n p m) := by
  have key2 := draw_tail C hm hp hl hS' hlen c _ rfl
  have hset : ∀ q : Pn, S1.set n (penOb q) = S.set n (penOb q) := fun q => by rw [← hS', List.set_set]
  unfold irDraw at key2 ⊢
  simp only [ISs.drop] at key2 ⊢
  refine st_cons ?_
  simp_arith [get_cells hS1]
  by_cases h1 : (p.pos : Int) < (p.cells.map PyData.int).length
  · simp_arith [decide_eq_true h1]
    by_cases h2 : 1000000000000000000 ≤ (if c < 0 then -c else c)
    · simp_arith [decide_eq_true h2]
      refine st_cons ?_
      simp_arith []
      refine st_cons ?_
      simp_arith [decide_eq_true hm, decide_eq_true hm2, set_left hS1]
      refine st_cons ?_
      simp_arith [decide_eq_true hm]
      have h3 := absI c
      have h4 : (0 : Int) ≤ 2 * (if c < 0 then -c else c) + (if decide (c < 0) = true then 1 else 0) := by split <;> split <;> omega
      generalize (2 * (if c < 0 then -c else c) + (if decide (c < 0) = true then 1 else 0) : Int) = u at h4
      exact R.Sat_of (trim_same (by rw [List.length_set]; exact hlen)) ⟨u % m, ⟨p.cells, p.pos + 1, u / m⟩, rfl, hset _, Int.emod_nonneg _ (by omega), Int.emod_lt_of_pos _ hm, Nat.le_refl _, Int.ediv_nonneg h4 (Int.le_of_lt hm), rfl⟩
    · simp_arith [decide_eq_false h2]
      exact st_nil key2
  · simp_arith [decide_eq_false h1]
    exact st_nil key2
end
/-- one draw -/
theorem draw_run (C : Cfg) {S : Sto} {n : Nat} {p : Pn} {m : Int} (hS : S[n]? = some (penOb p)) (hm : 0 < m) (hm2 : m < 1073741824) (hp : p.pos < 4194304) (hl : 0 ≤ p.left) :
    (runF C 8 irDraw [.ref n, .d (.int m)] S).Sat (Drawn S n p m) := by
  have hn : n < S.length := (List.getElem?_eq_some_iff.mp hS).1
  have e1 : setV (.ref n) (.d (.str "at")) (.d (.int ((p.pos : Int) + 1))) S = .ok () (S.set n (penOb ⟨p.cells, p.pos + 1, p.left⟩)) := set_at hS (by omega)
  have hS1 : (S.set n (penOb ⟨p.cells, p.pos + 1, p.left⟩))[n]? = some (penOb ⟨p.cells, p.pos + 1, p.left⟩) := by rw [List.getElem?_set_self hn]
  generalize hS' : S.set n (penOb ⟨p.cells, p.pos + 1, p.left⟩) = S1 at hS1
  have hlen : S1.length = S.length := by rw [← hS', List.length_set]
  have key := draw_mid C hm hm2 hp hl hS1 hS' hlen
  unfold irDraw at key ⊢
  simp only [ISs.drop] at key
  refine st_run (R.Sat_mono (Q := DrawnF S n p m) (st_cons ?_) fun fl S1 q => by cases fl <;> exact q)
  simp_arith [get_left hS]
  by_cases hz : 0 < p.left
  · simp_arith [decide_eq_true hz]
    refine st_cons ?_
    simp_arith [get_left hS, decide_eq_true hm, decide_eq_true hm2]
    refine st_cons ?_
    simp_arith [get_left hS, decide_eq_true hm, decide_eq_true hm2, set_left hS]
    refine st_cons ?_
    simp_arith []
    exact R.Sat_of (trim_same List.length_set) ⟨p.left % m, ⟨p.cells, p.pos, p.left / m⟩, rfl, rfl, Int.emod_nonneg _ (by omega), Int.emod_lt_of_pos _ hm, Nat.le_succ _, Int.ediv_nonneg hl (Int.le_of_lt hm), rfl⟩
  · simp_arith [decide_eq_false hz]
    refine st_nil (st_cons ?_)
    simp_arith [get_at hS]
    refine st_cons ?_
    simp_arith [e1, hS']
    refine st_cons ?_
    simp_arith []
    refine st_cons ?_
    simp_arith [get_cells hS1, eqOk_ints, eqv_nil, show eqOk (.list []) = true from rfl]
    cases hc : p.cells with
    | nil =>
      simp_arith [List.isEmpty_nil, Bool.not_true]
      exact st_nil (key _)
    | cons c0 cr =>
      simp_arith [List.isEmpty_cons, Bool.not_false]
      refine st_cons ?_
      rw [hc] at hS1
      have hpos : (0 : Int) < (List.map PyData.int (c0 :: cr)).length := by rw [List.length_map, List.length_cons]; omega
      obtain ⟨c, e⟩ := atI_ints (l := c0 :: cr) (i := (p.pos : Int) % (List.map PyData.int (c0 :: cr)).length) (Int.emod_nonneg _ (by omega)) (by rw [← List.length_map (f := PyData.int) (as := c0 :: cr)]; exact Int.emod_lt_of_pos _ hpos)
      have e2 : getV (.d (.list ((c0 :: cr).map PyData.int))) (.d (.int ((p.pos : Int) % (List.map PyData.int (c0 :: cr)).length))) S1 = .ok (.d (.int c)) S1 := by
        rw [g_lst, e]
      simp only [exec, ev, evL, asgn, R.bind_ok, R.Sat_ok, List.getElem?_cons_zero, List.getElem?_cons_succ, get_cells hS1, f_len, l_lst, b_mod, decide_eq_true hpos, if_true, e2, List.set]
      exact st_nil (key _)
/-! ### a pen that is the first cell -/
def Okp (p : Pn) (k : Nat) : Prop := p.pos ≤ k ∧ 0 ≤ p.left
theorem Okp.mono {p : Pn} {k k' : Nat} (h : Okp p k) (l : k ≤ k') : Okp p k' := ⟨Nat.le_trans h.1 l, h.2⟩
theorem draw_0 {C : Cfg} {p : Pn} {X : Sto} {m : Int} {k : Nat} (hp : Okp p k) (hk : k < 4194304) (hm : 0 < m) (hm2 : m < 1073741824) :
    (runF C 8 irDraw [.ref 0, .d (.int m)] (penOb p :: X)).Sat fun v S1 => ∃ (d : Int) (p' : Pn), v = .d (.int d) ∧ S1 = penOb p' :: X ∧ 0 ≤ d ∧ d < m ∧ Okp p' (k + 1) := by
  refine R.Sat_mono (draw_run C (n := 0) (p := p) rfl hm hm2 (Nat.lt_of_le_of_lt hp.1 hk) hp.2) ?_
  rintro v S1 ⟨d, p', rfl, rfl, a, b, c, e, _⟩
  exact ⟨d, p', rfl, rfl, a, b, Nat.le_trans c (Nat.succ_le_succ hp.1), e⟩
/-! one item of a display -/
def AllD (P : PyData → Prop) : List PyData → Prop
  | [] => True
  | x :: r => P x ∧ AllD P r
theorem AllD.mem {P : PyData → Prop} : ∀ {l : List PyData}, AllD P l → ∀ x ∈ l, P x
  | [], _, x, h => nomatch h
  | y :: r, ⟨a, b⟩, x, h => by
    rcases List.mem_cons.mp h with rfl | h
    · exact a
    · exact b.mem x h
theorem get_d {l : List PyData} {i : Int} {S : Sto} {P : PyData → Prop} (h0 : 0 ≤ i) (h1 : i < l.length) (h : AllD P l) : (getV (.d (.list l)) (.d (.int i)) S).Sat fun v S1 => ∃ x, v = .d x ∧ S1 = S ∧ P x := by
  rw [g_lst, atI_of h0 h1, List.getElem?_eq_getElem (by omega)]
  exact ⟨⟨_, rfl, rfl, h.mem _ (List.getElem_mem _)⟩⟩
theorem get_int {l : List PyData} {i : Int} {S : Sto} {P : Int → Prop} (h0 : 0 ≤ i) (h1 : i < l.length) (h : AllD (fun x => ∃ c : Int, x = .int c ∧ P c) l) : (getV (.d (.list l)) (.d (.int i)) S).Sat fun v S1 => ∃ c : Int, v = .d (.int c) ∧ S1 = S ∧ P c := by
  refine R.Sat_mono (get_d h0 h1 h) ?_
  rintro v S1 ⟨x, rfl, rfl, c, rfl, hc⟩
  exact ⟨c, rfl, rfl, hc⟩
theorem rng_sat {c : Int} {S : Sto} (h0 : 0 ≤ c) (h1 : c ≤ 16777216) : rngV [.d (.int c)] S = .ok ((List.range c.toNat).map fun k => Va.d (.int (k : Nat))) S := by
  have e : sizeLine = 16777216 := rfl
  unfold rngV rng1
  have : (iR62 c && decide (c.toNat ≤ sizeLine)) = true := by
    unfold iR62
    rw [decide_eq_true (by omega), decide_eq_true (by omega), decide_eq_true (by omega)]; rfl
  dsimp only
  rw [if_pos this]
theorem rng_down {n : Nat} {S : Sto} (h1 : n ≤ 16777216) : rngV [.d (.int ((n : Int) - 1)), .d (.int (-1)), .d (.int (-1))] S = .ok ((List.range n).map fun k => Va.d (.int ((n : Int) - 1 - (k : Nat)))) S := by
  have e : sizeLine = 16777216 := rfl
  unfold rngV rng3
  have z : ((n : Int) - 1 - -1).toNat = n := by omega
  have : (iR62 ((n : Int) - 1) && iR62 (-1) && decide ((-1 : Int) = -1) && decide (((n : Int) - 1 - -1).toNat ≤ sizeLine)) = true := by
    unfold iR62
    rw [decide_eq_true (by omega), decide_eq_true (by omega), decide_eq_true (by omega), decide_eq_true (by omega), decide_eq_true (by omega), decide_eq_true (by omega)]; rfl
  dsimp only
  rw [if_pos this, z]
theorem range_down (n : Nat) : ((List.range (n + 1)).map fun k => Va.d (.int (((n + 1 : Nat) : Int) - 1 - (k : Nat)))) = Va.d (.int n) :: ((List.range n).map fun k => Va.d (.int ((n : Int) - 1 - (k : Nat)))) := by
  rw [List.range_succ_eq_map, List.map_cons, List.map_map]
  congr 1
  · congr 2; omega
  · refine List.map_congr_left fun k _ => ?_
    show Va.d (.int _) = _
    congr 2; omega
theorem sl_to {l : List PyData} {n : Nat} {S : Sto} (h : n < l.length) : slV (.d (.tuple l)) none (some (n : Int)) S = .ok (.d (.tuple (l.take n))) S := by
  have e : HT.sIx l.length l.length (some (n : Int)) = n := by
    rw [HT.sIx_nat]; omega
  unfold slV
  dsimp only
  unfold cutD
  rw [e]
  simp [HT.sIx]
end Nb

namespace Nb
open PySem L2
/-! ### how long what repr shows may be -/
structure Sh (k n : Nat) (d : PyData) : Prop where
  s : d.showable = true
  h : d.hasDict = false
  p : d.plain = true
  dp : d.depth ≤ k
  l : d.shown.length ≤ n
theorem Sh.mono {k n k' n' : Nat} {d : PyData} (a : Sh k n d) (hk : k ≤ k') (hn : n ≤ n') : Sh k' n' d := ⟨a.s, a.h, a.p, Nat.le_trans a.dp hk, Nat.le_trans a.l hn⟩
theorem Sh.ok {k n : Nat} {d : PyData} (a : Sh k n d) (hk : k ≤ 64) (hn : n ≤ 16777216) : showOk d = true := by
  have e : sizeLine = 16777216 := rfl
  unfold showOk
  rw [a.s, a.h, decide_eq_true (Nat.le_trans a.dp hk), decide_eq_true (by rw [e]; exact Nat.le_trans a.l hn)]
  rfl
theorem piled_le {n : Nat} : ∀ {ts : List Str}, (∀ t ∈ ts, t.length ≤ n) → piled ts ≤ (n + 2) * ts.length
  | [], _ => Nat.zero_le _
  | t :: r, h => by
    have i := piled_le (ts := r) fun x hx => h x (List.mem_cons_of_mem _ hx)
    have j := h t (List.mem_cons_self ..)
    rw [piled_cons, List.length_cons, Nat.mul_succ]
    omega
theorem shownAll_map : ∀ l : List PyData, PyData.shownAll l = l.map PyData.shown
  | [] => by rw [PyData.shownAll]; rfl
  | x :: r => by rw [PyData.shownAll, shownAll_map r]; rfl
theorem showableAll_of : ∀ {l : List PyData}, (∀ x ∈ l, x.showable = true) → PyData.showableAll l = true
  | [], _ => by rw [PyData.showableAll]
  | x :: r, h => by rw [PyData.showableAll, h x (List.mem_cons_self ..), showableAll_of fun y hy => h y (List.mem_cons_of_mem _ hy)]; rfl
theorem hasDictAll_of : ∀ {l : List PyData}, (∀ x ∈ l, x.hasDict = false) → PyData.hasDictAll l = false
  | [], _ => by rw [PyData.hasDictAll]
  | x :: r, h => by rw [PyData.hasDictAll, h x (List.mem_cons_self ..), hasDictAll_of fun y hy => h y (List.mem_cons_of_mem _ hy)]; rfl
theorem plainAll_of : ∀ {l : List PyData}, (∀ x ∈ l, x.plain = true) → PyData.plainAll l = true
  | [], _ => by rw [PyData.plainAll]
  | x :: r, h => by rw [PyData.plainAll, h x (List.mem_cons_self ..), plainAll_of fun y hy => h y (List.mem_cons_of_mem _ hy)]; rfl
theorem depthAll_le {k : Nat} : ∀ {l : List PyData}, (∀ x ∈ l, x.depth ≤ k) → PyData.depthAll l ≤ k
  | [], _ => by rw [PyData.depthAll]; exact Nat.zero_le _
  | x :: r, h => by rw [PyData.depthAll]; exact Nat.max_le.mpr ⟨h x (List.mem_cons_self ..), depthAll_le fun y hy => h y (List.mem_cons_of_mem _ hy)⟩
theorem listText_le {n : Nat} {ts : List Str} (h : ∀ t ∈ ts, t.length ≤ n) : (listText ts).length ≤ (n + 2) * ts.length + 3 := by
  have q := piled_le h
  cases ts with
  | nil => rw [listText_nil]; show 2 ≤ _; omega
  | cons t r =>
    have e : (listText (t :: r)).length = (textFrom 1 (("[" : Str) ++ (if (0 : Nat) > 0 then ", " else "" : String) ++ t) r).length + 1 := by
      show (textFrom 1 (("[" : Str) ++ (if (0 : Nat) > 0 then ", " else "" : String) ++ t) r ++ "]").length = _
      rw [strLen_append]; rfl
    have f : ((("[" : Str) ++ (if (0 : Nat) > 0 then ", " else "" : String) ++ t)).length = 1 + t.length := by
      rw [strLen_append, strLen_append]; rfl
    rw [piled_cons] at q
    rw [e, textFrom_length_pos r 1 _ Nat.one_pos, f]
    omega
theorem tupleText_le {n : Nat} {ts : List Str} (h : ∀ t ∈ ts, t.length ≤ n) : (tupleText ts).length ≤ (n + 2) * ts.length + 3 := by
  have q := piled_le h
  have e : (tupleText ts).length ≤ 1 + (Str.join ", " ts).length + 2 := by
    unfold tupleText
    rw [strLen_append, strLen_append]
    have : (("(" : Str)).length = 1 := rfl
    rw [this]
    split <;> (show _ + _ ≤ _; first | (exact Nat.le_refl _) | (apply Nat.add_le_add_left; decide))
  cases ts with
  | nil =>
    have : (Str.join ", " ([] : List Str)).length = 0 := rfl
    omega
  | cons t r =>
    have j := join_length_add (t :: r) (fun z => nomatch z)
    omega
theorem Sh.tuple {k n : Nat} {l : List PyData} (h : ∀ x ∈ l, Sh k n x) : Sh (k + 1) ((n + 2) * l.length + 3) (.tuple l) := by
  refine ⟨?_, ?_, ?_, ?_, ?_⟩
  · rw [PyData.showable]; exact showableAll_of fun x hx => (h x hx).s
  · rw [PyData.hasDict]; exact hasDictAll_of fun x hx => (h x hx).h
  · rw [PyData.plain]; exact plainAll_of fun x hx => (h x hx).p
  · rw [PyData.depth]; exact Nat.succ_le_succ (depthAll_le fun x hx => (h x hx).dp)
  · rw [PyData.shown, shownAll_map]
    have := tupleText_le (n := n) (ts := l.map PyData.shown) (fun t ht => by
      obtain ⟨x, hx, rfl⟩ := List.mem_map.mp ht
      exact (h x hx).l)
    rwa [List.length_map] at this
theorem Sh.list {k n : Nat} {l : List PyData} (h : ∀ x ∈ l, Sh k n x) : Sh (k + 1) ((n + 2) * l.length + 3) (.list l) := by
  refine ⟨?_, ?_, ?_, ?_, ?_⟩
  · rw [PyData.showable]; exact showableAll_of fun x hx => (h x hx).s
  · rw [PyData.hasDict]; exact hasDictAll_of fun x hx => (h x hx).h
  · rw [PyData.plain]; exact plainAll_of fun x hx => (h x hx).p
  · rw [PyData.depth]; exact Nat.succ_le_succ (depthAll_le fun x hx => (h x hx).dp)
  · rw [PyData.shown, shownAll_map]
    have := listText_le (n := n) (ts := l.map PyData.shown) (fun t ht => by
      obtain ⟨x, hx, rfl⟩ := List.mem_map.mp ht
      exact (h x hx).l)
    rwa [List.length_map] at this
theorem Sh.none : Sh 0 4 .none := ⟨rfl, rfl, rfl, by rw [PyData.depth]; exact Nat.le_refl _, by decide +kernel⟩
theorem Sh.int {i : Int} (h : i.natAbs < 10 ^ 20) : Sh 0 21 (.int i) := by
  refine ⟨?_, rfl, rfl, by rw [PyData.depth]; exact Nat.le_refl _, ?_⟩
  · rw [PyData.showable]
    refine decide_eq_true ?_
    by_cases z : i.natAbs = 0
    · rw [z]; decide
    · rw [Nat.log2_lt z]
      exact Nat.lt_trans h (Nat.lt_of_lt_of_le (show 10 ^ 20 < 2 ^ 100 by decide) (Nat.pow_le_pow_right (by decide) (by decide)))
  · rw [PyData.shown]
    by_cases z : 0 ≤ i
    · exact Nat.le_trans (PyProof.Rows.toString_length_le (k := 20) z (by decide) (by omega)) (by decide)
    · have := PyProof.Rows.toString_length_le (v := 0 - i) (k := 20) (by omega) (by decide) (by omega)
      rw [PyProof.Rows.toString_neg (by omega), PySem.ofString_length, String.length_append]
      rw [PySem.ofString_length] at this
      have e : String.length "-" = 1 := by decide
      omega
theorem Sh.str {x : Str} {n : Nat} (h : (reprText x).length ≤ n) : Sh 0 n (.str x) := ⟨rfl, rfl, rfl, by rw [PyData.depth]; exact Nat.le_refl _, by rw [PyData.shown]; exact h⟩
theorem Sh.bool (b : Bool) : Sh 0 5 (.bool b) := ⟨rfl, rfl, rfl, by rw [PyData.depth]; exact Nat.le_refl _, by cases b <;> decide +kernel⟩
theorem eqOk_str (x : Str) : eqOk (.str x) = true := rfl
end Nb

namespace Nb
open PySem L2 PySem.Spec PyProof.Rows
/-! ### the constants of a text -/
mutual
def valIn (K : PySem.W.Frag) : Nat → Value → PyData → Bool
  | 0, _, _ => false
  | n + 1, v, d => match v, d with
    | .none, .none => true
    | .bool b, .bool c => b == c
    | .int i _, .int j => decide (i = j)
    | .str x _, .str y => decide (x = y)
    | .ref a, .tuple ds => (match K.lookup a with
      | some o => (match o.cls, o.data with
        | .type T, .seq its _ => (T == "tuple" && o.dict.isNone) && decide (its.size ≤ 16777216) && valsIn K n its.toList ds
        | _, _ => false)
      | none => false)
    | _, _ => false
def valsIn (K : PySem.W.Frag) : Nat → List Value → List PyData → Bool
  | 0, _, _ => false
  | n + 1, vs, ds => match vs, ds with
    | [], [] => true
    | v :: vs, d :: ds => valIn K n v d && valsIn K n vs ds
    | _, _ => false
end
mutual
theorem valIn_ok {K : PySem.W.Frag} : ∀ (n : Nat) {v : Value} {d : PyData}, valIn K n v d = true → ∃ w, RelV w v ∧ ∀ H μ, Rp K H μ d w
  | 0, v, d, h => by rw [valIn] at h; cases h
  | n + 1, v, d, h => by
    rw [valIn.eq_def] at h
    dsimp only at h
    split at h
    · exact ⟨.non, rfl, fun _ _ => .non⟩
    · rw [eq_of_beq h]; exact ⟨.bl _, rfl, fun _ _ => .bl _⟩
    · rw [of_decide_eq_true h]; exact ⟨.int _, ⟨_, rfl⟩, fun _ _ => .int _⟩
    · rw [of_decide_eq_true h]; exact ⟨.str _, ⟨_, rfl⟩, fun _ _ => .str _⟩
    · rename_i a ds
      split at h
      · rename_i o ho
        split at h
        · rename_i T its k hc hd
          simp only [Bool.and_eq_true, decide_eq_true_eq] at h
          obtain ⟨ws, r1, r2⟩ := valsIn_ok n h.2
          have e := eq_of_beq h.1.1.1
          subst e
          refine ⟨.ref a, rfl, fun H μ => .tup (.inr ⟨o, its, k, ho, Option.isNone_iff_eq_none.mp h.1.1.2, hc, hd, h.1.2, r1⟩) (r2 H μ) ?_⟩
          rw [(r2 H μ).length, r1.length, Array.length_toList]
          exact h.1.2
        · cases h
      · cases h
    · cases h
theorem valsIn_ok {K : PySem.W.Frag} : ∀ (n : Nat) {vs : List Value} {ds : List PyData}, valsIn K n vs ds = true → ∃ ws, Vals ws vs ∧ ∀ H μ, RpL K H μ ds ws
  | 0, v, d, h => by rw [valsIn] at h; cases h
  | n + 1, v, d, h => by
    rw [valsIn.eq_def] at h
    dsimp only at h
    split at h
    · exact ⟨[], .nil, fun _ _ => .nil⟩
    · have h := Bool.and_eq_true_iff.mp h
      obtain ⟨w, r1, r2⟩ := valIn_ok n h.1
      obtain ⟨ws, r3, r4⟩ := valsIn_ok n h.2
      exact ⟨w :: ws, .cons r1 r3, fun H μ => .cons (r2 H μ) (r4 H μ)⟩
    · cases h
end
/-! ### dicts, functions and tuples of functions as constants -/
mutual
def FfV (K : PySem.W.Frag) (mg : Str → Option Value) : Gx → V → Prop
  | .dat x, v => ∀ H μ, Rp K H μ x v
  | .fun_ x _, v => ∃ f, v = .ref f ∧ mg x = some (.ref f)
  | .tup l, v => ∃ a xs, v = .ref a ∧ KT K a xs ∧ l.length ≤ sizeLine ∧ FfL K mg l xs
  | .dct _, _ => False
def FfL (K : PySem.W.Frag) (mg : Str → Option Value) : List Gx → List V → Prop
  | [], [] => True
  | g :: r, v :: vs => FfV K mg g v ∧ FfL K mg r vs
  | _, _ => False
end
theorem vaGs_len : ∀ l : List Gx, (vaGs l).length = l.length
  | [] => by rw [vaGs]; rfl
  | g :: r => by rw [vaGs, List.length_cons, List.length_cons, vaGs_len r]
def FfK (K : PySem.W.Frag) (w : World) (mg : Str → Option Value) (g : Gx) (v : V) : Prop := match g with
  | .dct l => ∃ a es n, v = .ref a ∧ KDict K w a es n ∧ (∀ z, lookG l z = none → PySem.W.nsIn K a z = some none) ∧ ∀ z g, lookG l z = some g → ∃ u v0, PySem.W.nsIn K a z = some (some u) ∧ RelV v0 u ∧ FfV K mg g v0
  | g => FfV K mg g v
mutual
theorem FfV.rv {K : PySem.W.Frag} {w : World} {mg : Str → Option Value} : ∀ {g : Gx} {v : V}, FfV K mg g v → ∀ H μ, RV K (FfK K w mg) H μ (vaG g) v
  | .dat x, v, h, H, μ => by rw [vaG]; exact .d ((by rw [FfV] at h; exact h : ∀ H μ, Rp K H μ x v) H μ)
  | .fun_ x k, v, h, H, μ => by rw [vaG]; exact .fn h
  | .tup l, v, h, H, μ => by
    rw [FfV] at h
    obtain ⟨a, xs, rfl, kt, hl, fl⟩ := h
    rw [vaG]
    have r := FfL.rvl (w := w) fl H μ
    exact .tup (.inr kt) r (by rw [vaGs_len]; exact hl)
  | .dct l, v, h, H, μ => by rw [FfV] at h; exact h.elim
theorem FfL.rvl {K : PySem.W.Frag} {w : World} {mg : Str → Option Value} : ∀ {l : List Gx} {vs : List V}, FfL K mg l vs → ∀ H μ, RVL K (FfK K w mg) H μ (vaGs l) vs
  | [], [], h, H, μ => by rw [vaGs]; exact .nil
  | g :: r, v :: vs, h, H, μ => by
    rw [FfL] at h
    rw [vaGs]
    exact .cons (FfV.rv h.1 H μ) (FfL.rvl h.2 H μ)
  | [], _ :: _, h, H, μ => by rw [FfL] at h; exact h.elim; all_goals simp
  | _ :: _, [], h, H, μ => by rw [FfL] at h; exact h.elim; all_goals simp
end
theorem gdOk (K : PySem.W.Frag) (w : World) (mg : Str → Option Value) : GdOk K w (FfK K w mg) :=
  ⟨fun l v h => by
    obtain ⟨a, es, n, e, kd, h0, h1⟩ := h
    refine ⟨a, es, n, e, kd, h0, fun z g hg => ?_⟩
    obtain ⟨u, v0, e1, e2, e3⟩ := h1 z g hg
    exact ⟨u, v0, e1, e2, e3.rv⟩⟩
mutual
def gxIn (K : PySem.W.Frag) : Nat → Value → Gx → Bool
  | 0, _, _ => false
  | n + 1, v, g => match g with
    | .dat d => valIn K n v d
    | .fun_ x _ => (match v, PySem.W.nsIn K mainGlobals x with
      | .ref f, some (some (.ref f')) => f == f'
      | _, _ => false)
    | .tup gs => (match v with
      | .ref a => (match K.lookup a with
        | some o => (match o.cls, o.data with
          | .type T, .seq its _ => T == "tuple" && decide (its.size ≤ 16777216) && gxsIn K n its.toList gs
          | _, _ => false)
        | none => false)
      | _ => false)
    | .dct _ => false
def gxsIn (K : PySem.W.Frag) : Nat → List Value → List Gx → Bool
  | 0, _, _ => false
  | n + 1, vs, gs => match vs, gs with
    | [], [] => true
    | v :: vs, g :: gs => gxIn K n v g && gxsIn K n vs gs
    | _, _ => false
end
mutual
theorem gxIn_ok {K : PySem.W.Frag} {h : Heap} {mg : Str → Option Value} (X : K.In h) (G : h.Ns mainGlobals mg) : ∀ (n : Nat) {v : Value} {g : Gx}, gxIn K n v g = true → ∃ w, RelV w v ∧ FfV K mg g w
  | 0, v, d, h => by rw [gxIn] at h; cases h
  | n + 1, v, g, h => by
    rw [gxIn.eq_def] at h
    dsimp only at h
    split at h
    · obtain ⟨w, h1, h2⟩ := valIn_ok n h
      exact ⟨w, h1, by rw [FfV]; exact h2⟩
    · split at h
      · rename_i f f' e
        have z := eq_of_beq h
        subst z
        exact ⟨.ref f, rfl, by rw [FfV]; exact ⟨f, rfl, PySem.W.mg_of X G e⟩⟩
      · cases h
    · split at h
      · rename_i a
        split at h
        · rename_i o ho
          split at h
          · rename_i T its k hc hd
            simp only [Bool.and_eq_true, decide_eq_true_eq] at h
            obtain ⟨ws, r1, r2, r3⟩ := gxsIn_ok X G n h.2
            have e := eq_of_beq h.1.1
            subst e
            refine ⟨.ref a, rfl, ?_⟩
            rw [FfV]
            refine ⟨a, ws, rfl, ⟨o, its, k, ho, hc, hd, h.1.2, r1⟩, ?_, r2⟩
            rw [r3, r1.length, Array.length_toList]
            exact h.1.2
          · cases h
        · cases h
      · cases h
    · cases h
theorem gxsIn_ok {K : PySem.W.Frag} {h : Heap} {mg : Str → Option Value} (X : K.In h) (G : h.Ns mainGlobals mg) : ∀ (n : Nat) {vs : List Value} {gs : List Gx}, gxsIn K n vs gs = true → ∃ ws, Vals ws vs ∧ FfL K mg gs ws ∧ gs.length = ws.length
  | 0, v, d, h => by rw [gxsIn] at h; cases h
  | n + 1, v, d, h => by
    rw [gxsIn.eq_def] at h
    dsimp only at h
    split at h
    · exact ⟨[], .nil, by rw [FfL]; exact True.intro, rfl⟩
    · have h := Bool.and_eq_true_iff.mp h
      obtain ⟨w, r1, r2⟩ := gxIn_ok X G n h.1
      obtain ⟨ws, r3, r4, r5⟩ := gxsIn_ok X G n h.2
      exact ⟨w :: ws, .cons r1 r3, by rw [FfL]; exact ⟨r2, r4⟩, by rw [List.length_cons, List.length_cons, r5]⟩
    · cases h
end
/-- a dict's entries, one by one -/
def entsIn (K : PySem.W.Frag) : List DictEntry → List (Str × Gx) → Bool
  | [], [] => true
  | e :: r, (x, g) :: s => (match e.key with
    | .str y _ => decide (y = x)
    | _ => false) && gxIn K 40 e.val g && entsIn K r s
  | _, _ => false
def dctIn (K : PySem.W.Frag) (a : Addr) (l : List (Str × Gx)) : Bool := match K.lookup a with
  | some ⟨_, _, .dict es _, _⟩ => entsIn K es.toList l
  | _ => false
theorem entsIn_ok {K : PySem.W.Frag} {h : Heap} {mg : Str → Option Value} (X : K.In h) (G : h.Ns mainGlobals mg) : ∀ {es : List DictEntry} {l : List (Str × Gx)}, entsIn K es l = true → es.any (·.refKey) = false ∧ ∀ z,
    (lookG l z = none → es.find? (·.key.isStr z) = none) ∧ (∀ g, lookG l z = some g → ∃ e w, es.find? (·.key.isStr z) = some e ∧ RelV w e.val ∧ FfV K mg g w)
  | [], [], _ => ⟨rfl, fun z => ⟨fun _ => rfl, fun g hg => by cases hg⟩⟩
  | [], _ :: _, h => by cases h
  | _ :: _, [], h => by cases h
  | e :: r, (x, g) :: s, h => by
    rw [entsIn, Bool.and_eq_true, Bool.and_eq_true] at h
    obtain ⟨⟨h1, h2⟩, h3⟩ := h
    split at h1
    · rename_i y t hk
      have := of_decide_eq_true h1
      subst this
      obtain ⟨q1, q2⟩ := entsIn_ok X G h3
      have rk : e.refKey = false := by
        unfold DictEntry.refKey
        rw [hk]
      refine ⟨by rw [List.any_cons, rk, q1]; rfl, fun z => ?_⟩
      have ek : e.key.isStr z = decide (y = z) := by
        rw [hk]
        by_cases hz : y = z
        · subst hz
          simp [Value.isStr]
        · rw [decide_eq_false hz]
          simp [Value.isStr, hz]
      by_cases hz : y = z
      · subst hz
        have el : lookG ((y, g) :: s) y = some g := by
          unfold lookG
          rw [List.find?_cons_of_pos (by simp)]
          rfl
        obtain ⟨w, w1, w2⟩ := gxIn_ok X G 40 h2
        refine ⟨fun q => absurd (el.symm.trans q) (fun z => by cases z), fun g' hg => ?_⟩
        rw [el] at hg
        cases hg
        exact ⟨e, w, by rw [List.find?_cons_of_pos (by rw [ek]; simp)], w1, w2⟩
      · have el : lookG ((y, g) :: s) z = lookG s z := by
          unfold lookG
          rw [List.find?_cons_of_neg (by simp [hz])]
        rw [el, List.find?_cons_of_neg (by rw [ek]; simp [hz])]
        exact q2 z
    · cases h1
def gaOf (K : PySem.W.Frag) (y : Str) : Option Addr := match PySem.W.nsIn K mainGlobals y with
  | some (some (.ref a)) => some a
  | _ => none
def glIn (K : PySem.W.Frag) (y : Str) (g : Gx) : Bool := match g with
  | .dct l => (match gaOf K y with
    | some a => dctIn K a l
    | none => false)
  | g => (match PySem.W.nsIn K mainGlobals y with
    | some (some v) => gxIn K 40 v g
    | _ => false)
def glAll (K : PySem.W.Frag) : List (Str × Gx) → Bool
  | [] => true
  | (y, d) :: r => glIn K y d && glAll K r
/-- the hashes of the dicts' keys -/
def hshK (K : PySem.W.Frag) : List (Str × Gx) → List (Option (List (Option (Str × Int))))
  | [] => []
  | (y, .dct _) :: r => (match gaOf K y with
    | some a => He.dicW K a
    | none => none) :: hshK K r
  | _ :: r => hshK K r
def hshW (w : World) : List (Str × Gx) → List (Option (List (Option (Str × Int))))
  | [] => []
  | (_, .dct l) :: r => some (He.keysIn w.params (l.map (·.1))) :: hshW w r
  | _ :: r => hshW w r
abbrev cgl (L : List (Str × Gx)) : Nat → Option Va := fun j => (L[j]?).map fun p => vaG p.2
structure GlOk (K : PySem.W.Frag) (w : World) (mg : Str → Option Value) (L : List (Str × Gx)) : Prop where
  ok : ∀ (j : Nat) (y : Str) (g : Gx), L[j]? = some (y, g) → ∃ u v, mg y = some u ∧ RelV v u ∧ ∀ H μ, RV K (FfK K w mg) H μ (vaG g) v
theorem GlOk.of {K : PySem.W.Frag} {w : World} {h : Heap} {mg : Str → Option Value} {L : List (Str × Gx)} (X : K.In h) (G : h.Ns mainGlobals mg) (q : glAll K L = true) (hq : hshK K L = hshW w L) : GlOk K w mg L := by
  refine ⟨?_⟩
  induction L with
  | nil => intro j y d e; simp at e
  | cons p r ih =>
    have q := Bool.and_eq_true_iff.mp q
    have hr : hshK K r = hshW w r := by
      obtain ⟨y, g⟩ := p
      cases g with
      | dct l => exact (List.cons.inj hq).2
      | _ => exact hq
    intro j y d e
    cases j with
    | zero =>
      have e : p = (y, d) := by simpa using e
      subst e
      have q1 := q.1
      cases d with
      | dct l =>
        have q1 : (match gaOf K y with
          | some a => dctIn K a l
          | none => false) = true := q1
        cases ha : gaOf K y with
        | none => rw [ha] at q1; cases q1
        | some a =>
          rw [ha] at q1
          have hd : He.dicW K a = some (He.keysIn w.params (l.map (·.1))) := by
            have := (List.cons.inj hq).1
            rw [ha] at this
            exact this
          obtain ⟨es, n, kd⟩ := He.dicW_ok hd
          have q1 : dctIn K a l = true := q1
          unfold dctIn at q1
          rw [kd.at_] at q1
          dsimp only at q1
          obtain ⟨k1, k2⟩ := entsIn_ok X G q1
          have hm : PySem.W.nsIn K mainGlobals y = some (some (.ref a)) := by
            unfold gaOf at ha
            split at ha
            · rename_i b hb
              cases ha
              exact hb
            · cases ha
          have hn0 : ∀ z, es.toList.find? (·.key.isStr z) = none → PySem.W.nsIn K a z = some none := by
            intro z hz
            unfold PySem.W.nsIn
            rw [kd.at_]
            dsimp only
            rw [hz]
            dsimp only
            rw [k1]
            rfl
          have hn1 : ∀ z e, es.toList.find? (·.key.isStr z) = some e → PySem.W.nsIn K a z = some (some e.val) := by
            intro z e hz
            unfold PySem.W.nsIn
            rw [kd.at_]
            dsimp only
            rw [hz]
          refine ⟨.ref a, .ref a, PySem.W.mg_of X G hm, rfl, fun H μ => .fn ?_⟩
          refine ⟨a, es, n, rfl, kd, fun z hz => hn0 z ((k2 z).1 hz), fun z g hg => ?_⟩
          obtain ⟨e, v, e1, e2, e3⟩ := (k2 z).2 g hg
          exact ⟨e.val, v, hn1 z e e1, e2, e3⟩
      | _ =>
        unfold glIn at q1
        split at q1
        · rename_i q0
          cases q0
        · split at q1
          · rename_i v hv
            obtain ⟨u, r1, r2⟩ := gxIn_ok X G 40 q1
            exact ⟨v, u, PySem.W.mg_of X G hv, r1, r2.rv⟩
          · cases q1
    | succ j => exact ih q.2 hr j y d (by simpa using e)
/-! ### the defs of a text, one behind the other -/
structure DefAt (K : PySem.W.Frag) (mg : Str → Option Value) (x : Str) (st : Stmt) (ps : List Str) : Prop where
  ex : ∃ f fd q, Fun K q q st f fd ∧ mg x = some (.ref f) ∧ Binds K fd ps []
theorem DefAt.of {K : PySem.W.Frag} {mg : Str → Option Value} {h : Heap} {x q : Str} {st : Stmt} {ps : List Str} {f : Addr} {oc : Value} {od an : Option Addr} {osl : Array (Option Value)} {kV doc pm cdv ct : Value} (X : K.In h) (G : h.Ns mainGlobals mg)
    (hb : ∀ (kV doc pm : Value) (an : Option Addr) (cdv ct : Value) (us : List Value), us.length = ps.length → bindArgs (PySem.W.fnOf q q (defArgs st) (defBody st) (defScope st) .none kV doc pm an cdv ct) ⟨us, []⟩ = pure (ps.zip us))
    (a : PySem.W.nsIn K mainGlobals x = some (some (.ref f))) (l : K.lookup f = some ⟨oc, od, .func (PySem.W.fnOf q q (defArgs st) (defBody st) (defScope st) .none kV doc pm an cdv ct), osl⟩) (c : PySem.W.codeIn K cdv q = true) (k : PySem.W.keepIn K (.ref f) = true) : DefAt K mg x st ps :=
  let F := fun_mk (st := st) l c k
  ⟨f, _, q, F, PySem.W.mg_of X G a, F.binds hb⟩
def bltL : List Str := ["len", "repr", "abs", "int", "tuple", "list", "range", "isinstance", "all", "str", "bool", "dict", "any", "sorted", "min", "max", "sum", "enumerate", "zip", "set", "reversed", "ValueError", "LookupError", "Exception"]
def BltFree (mg : Str → Option Value) : Prop := ∀ x ∈ bltL, mg x = none
def freeIn (K : PySem.W.Frag) (x : Str) : Bool := match PySem.W.nsIn K mainGlobals x with
  | some none => true
  | _ => false
def freeAll (K : PySem.W.Frag) : List Str → Bool
  | [] => true
  | x :: r => freeIn K x && freeAll K r
theorem BltFree.of {K : PySem.W.Frag} {h : Heap} {mg : Str → Option Value} (X : K.In h) (G : h.Ns mainGlobals mg) (z : freeAll K bltL = true) : BltFree mg := by
  have go : ∀ l : List Str, freeAll K l = true → ∀ x ∈ l, mg x = none := by
    intro l
    induction l with
    | nil => intro _ x hx; cases hx
    | cons y r ih =>
      intro z x hx
      have z := Bool.and_eq_true_iff.mp z
      rcases List.mem_cons.mp hx with rfl | hx
      · have q1 := z.1
        unfold freeIn at q1
        split at q1
        · rename_i hv
          exact PySem.W.mg_none_of X G hv
        · cases q1
      · exact ih z.2 x hx
  exact go bltL z
end Nb

namespace Nb
open PySem L2
theorem atI_neg {α : Type} {l : List α} {i : Int} (h0 : i < 0) (h1 : -(l.length : Int) ≤ i) : atI l i = l[((l.length : Int) + i).toNat]? := by
  unfold atI ixN
  rw [if_neg (by omega), if_pos (by omega)]
  have e : (i + (l.length : Int)).toNat = ((l.length : Int) + i).toNat := by omega
  first | rw [e]; rfl | (simp only [Option.bind_some]; congr 1; omega)
/-! ### loops that change nothing -/
theorem compF_pure {f : Va → Sto → R (Option Va)} {g : PyData → Option PyData} {S : Sto} : ∀ {ls : List PyData} {acc : List Va}, (∀ x ∈ ls, f (.d x) S = .ok ((g x).map Va.d) S) → compF f (ls.map .d) acc S = .ok (acc ++ (ls.filterMap g).map .d) S
  | [], acc, _ => by simp [compF]
  | x :: ls, acc, h => by
    rw [List.map_cons, compF, h x (List.mem_cons_self ..), R.bind_ok]
    have ih := fun acc => compF_pure (ls := ls) (acc := acc) fun y hy => h y (List.mem_cons_of_mem _ hy)
    cases hg : g x with
    | none =>
      simp only [Option.map_none]
      rw [ih, List.filterMap_cons, hg]
    | some v =>
      simp only [Option.map_some]
      rw [ih, List.filterMap_cons, hg]
      simp
theorem forF_find {f : Va → En → Sto → R Fl} {g : PyData → Option PyData} {S : Sto} (inv : En → Prop) : ∀ {ls : List PyData} {η : En}, inv η → (∀ x ∈ ls, ∀ η, inv η → match g x with | some v => f (.d x) η S = .ok (.rt (.d v)) S | none => ∃ η', inv η' ∧ f (.d x) η S = .ok (.nx η') S) →
    match ls.findSome? g with | some v => forF f (ls.map .d) η S = .ok (.rt (.d v)) S | none => ∃ η', inv η' ∧ forF f (ls.map .d) η S = .ok (.nx η') S
  | [], η, hi, _ => ⟨η, hi, rfl⟩
  | x :: ls, η, hi, h => by
    have h1 := h x (List.mem_cons_self ..) η hi
    rw [List.findSome?_cons]
    cases hg : g x with
    | some v =>
      rw [hg] at h1
      have h1 : f (.d x) η S = .ok (.rt (.d v)) S := h1
      show forF f _ η S = _
      rw [List.map_cons, forF, h1, R.bind_ok]
    | none =>
      rw [hg] at h1
      obtain ⟨η', hi', h1⟩ := h1
      have ih := forF_find inv (ls := ls) hi' fun y hy => h y (List.mem_cons_of_mem _ hy)
      have e : forF f ((x :: ls).map .d) η S = forF f (ls.map .d) η' S := by rw [List.map_cons, forF, h1, R.bind_ok]
      rw [e]
      exact ih
theorem iter_tup {C : Cfg} {i : Nat} {η : En} {S : Sto} {l : List PyData} (h : η[i]? = some (some (.d (.tuple l)))) : iter C (.val (.loc i)) η S = .ok (l.map .d) S := by
  rw [iter, ev, h]; rfl
theorem iter_lst {C : Cfg} {i : Nat} {η : En} {S : Sto} {l : List PyData} (h : η[i]? = some (some (.d (.list l)))) : iter C (.val (.loc i)) η S = .ok (l.map .d) S := by
  rw [iter, ev, h]; rfl
theorem ret_d {x y : PyData} {S : Sto} (h : x = y) : (trim S.length (.d x) S).Sat fun v _ => v = .d y := R.Sat_of (trim_same rfl) (by rw [h])
theorem ret_d2 {x y : PyData} {S : Sto} {P : Prop} (h : x = y) (p : P) : (trim S.length (.d x) S).Sat fun v S1 => v = .d y ∧ S1 = S ∧ P := R.Sat_of (trim_same rfl) (by rw [h]; exact ⟨rfl, rfl, p⟩)
theorem g_0 {x : PyData} {l : List PyData} {S : Sto} : getV (.d (.tuple (x :: l))) (.d (.int 0)) S = .ok (.d x) S := by
  rw [g_tup, atI_of (by omega) (by rw [List.length_cons]; omega)]; rfl
theorem g_1 {x y : PyData} {l : List PyData} {S : Sto} : getV (.d (.tuple (x :: y :: l))) (.d (.int 1)) S = .ok (.d y) S := by
  rw [g_tup, atI_of (by omega) (by rw [List.length_cons, List.length_cons]; omega)]; rfl
theorem gl_0 {x : PyData} {l : List PyData} {S : Sto} : getV (.d (.list (x :: l))) (.d (.int 0)) S = .ok (.d x) S := by
  rw [g_lst, atI_of (by omega) (by rw [List.length_cons]; omega)]; rfl
theorem e_str (x y : Str) : PyData.eqv (.str x) (.str y) = (x == y) := by rw [PyData.eqv]
theorem itL {l : List PyData} {S : Sto} : items (.d (.list l)) S = .ok (l.map .d) S := rfl
theorem setZ_comp {C : Cfg} {i : Nat} {elt : IE} {tg : IT} {it : II} {cd : IO} {own : List Nat} {η : En} {S : Sto} {ls : List PyData} {g : PyData → Option PyData} (h1 : iter C it η S = .ok (ls.map .d) S)
    (h2 : ∀ x ∈ ls, ((asgn C tg (.d x) (wipeE η own) S).bind fun η2 S3 => (evT C cd η2 S3).bind fun b S4 => if b then (ev C elt η2 S4).bind fun y S5 => .ok (some y) S5 else .ok none S4) = .ok ((g x).map Va.d) S) :
    exec C (.setZ i (.comp elt tg it cd own)) η S = .ok (.nx (η.set i (some (.d (.list (ls.filterMap g)))))) S := by
  rw [exec, evF, h1, R.bind_ok, compF_pure h2, R.nx_ok, R.bind_ok, List.nil_append, fz_of, R.bind_ok]
theorem evF_comp {C : Cfg} {elt : IE} {tg : IT} {it : II} {cd : IO} {own : List Nat} {η : En} {S : Sto} {ls : List PyData} {g : PyData → Option PyData} (h1 : iter C it η S = .ok (ls.map .d) S)
    (h2 : ∀ x ∈ ls, ((asgn C tg (.d x) (wipeE η own) S).bind fun η2 S3 => (evT C cd η2 S3).bind fun b S4 => if b then (ev C elt η2 S4).bind fun y S5 => .ok (some y) S5 else .ok none S4) = .ok ((g x).map Va.d) S) :
    evF C (.comp elt tg it cd own) η S = .ok ((ls.filterMap g).map .d) S := by
  rw [evF, h1, R.bind_ok, compF_pure h2, List.nil_append, R.nx_ok]
theorem run_of {C : Cfg} {m : Nat} {b : ISs} {vs : List Va} {S : Sto} {x : PyData} (h : execs C b (vs.map some ++ List.replicate (m - vs.length) none) S = .ok (.rt (.d x)) S) : runF C m b vs S = .ok (.d x) S := by
  rw [runF_rt h]
  exact trim_same rfl
/-- the signs of a text -/
def sgs (s : Str) : List PyData := s.cps.toList.map fun c => .str ⟨#[c]⟩
theorem iter_str {C : Cfg} {i : Nat} {η : En} {S : Sto} {s : Str} (h : η[i]? = some (some (.d (.str s)))) (k : s.length ≤ 16777216) : iter C (.val (.loc i)) η S = .ok ((sgs s).map .d) S := by
  rw [iter, ev, h]
  show (if s.length ≤ sizeLine then R.ok _ _ else .bad) = _
  rw [if_pos (show s.length ≤ sizeLine from k)]
  unfold sgs
  rw [List.map_map]
  rfl
theorem sgs_mem {s : Str} {x : PyData} (h : x ∈ sgs s) : ∃ c, x = .str ⟨#[c]⟩ := by
  obtain ⟨c, _, rfl⟩ := List.mem_map.mp h
  exact ⟨c, rfl⟩
theorem bools_fm (f : PyData → Bool) : ∀ l : List PyData, boolsOf (l.filterMap fun x => some (.bool (f x))) = some (l.map f)
  | [] => rfl
  | x :: l => by rw [List.filterMap_cons]; show (boolsOf _).map _ = _; rw [bools_fm f l]; rfl
theorem i_d {k : Tk} {x : PyData} {S : Sto} : isiV k (.d x) S = .ok (isD k x) S := rfl
/-! ### statement by statement -/
theorem x_nx {C : Cfg} {s : IS} {r : ISs} {η η1 : En} {S S1 : Sto} (h : exec C s η S = .ok (.nx η1) S1) : execs C (.cons s r) η S = execs C r η1 S1 := by rw [execs, h, R.bind_ok]
theorem x_rt {C : Cfg} {s : IS} {r : ISs} {η : En} {v : Va} {S S1 : Sto} (h : exec C s η S = .ok (.rt v) S1) : execs C (.cons s r) η S = .ok (.rt v) S1 := by rw [execs, h, R.bind_ok]
theorem x_if {C : Cfg} {c : IE} {a b : ISs} {η : En} {t : Bool} {S S1 : Sto} (h : ev C c η S = .ok (.d (.bool t)) S1) : exec C (.ife c a b) η S = if t then execs C a η S1 else execs C b η S1 := by
  rw [exec, h, R.bind_ok]; rfl
theorem x_ret {C : Cfg} {e : IE} {η : En} {v : Va} {S S1 : Sto} (h : ev C e η S = .ok v S1) : exec C (.ret e) η S = .ok (.rt v) S1 := by rw [exec, h, R.bind_ok]
theorem x_set {C : Cfg} {e : IE} {i : Nat} {η : En} {v : Va} {S S1 : Sto} (h : ev C e η S = .ok v S1) : exec C (.asg (.nm i) e) η S = .ok (.nx (η.set i (some v))) S1 := by rw [exec, h, R.bind_ok, asgn, R.bind_ok]
theorem x_end {C : Cfg} {η : En} {S : Sto} : execs C .nil η S = .ok (.nx η) S := by rw [execs]
theorem ev_fz {C : Cfg} {f : IF} {η : En} {l : List PyData} {S S1 : Sto} (h : evF C f η S = .ok (l.map .d) S1) : ev C (.fz f) η S = .ok (.d (.list l)) S1 := by rw [ev, h, R.bind_ok, fz_of]
theorem ev_all {C : Cfg} {f : IF} {η : En} {l : List PyData} {bs : List Bool} {S S1 : Sto} (h : evF C f η S = .ok (l.map .d) S1) (k : boolsOf l = some bs) : ev C (.blt .all (.cons (.fz f) .nil)) η S = .ok (.d (.bool (bs.all id))) S1 := by
  rw [ev, evL, ev_fz h, R.bind_ok, evL, R.bind_ok, R.bind_ok]
  show (match boolsOf l with | some bs => R.ok (Va.d (.bool (bs.all id))) S1 | none => .bad) = _
  rw [k]
/-- if c: return e -/
theorem gate {C : Cfg} {c e : IE} {r : ISs} {η : En} {t : Bool} {v : Va} {S : Sto} (h : ev C c η S = .ok (.d (.bool t)) S) (k : t = true → ev C e η S = .ok v S) : execs C (.cons (.ife c (.cons (.ret e) .nil) .nil) r) η S = if t then .ok (.rt v) S else execs C r η S := by
  cases t with
  | true => exact x_rt ((x_if h).trans (x_rt (x_ret (k rfl))))
  | false => exact x_nx ((x_if h).trans (x_end (C := C)))
theorem ev_bl {C : Cfg} {b : Bool} {η : En} {S : Sto} : ev C (.bl b) η S = .ok (.d (.bool b)) S := by rw [ev]
theorem cutS_sub {s : Str} {lo hi : Option Int} : (cutS s lo hi).length ≤ s.length ∧ ∀ c ∈ (cutS s lo hi).cps.toList, c ∈ s.cps.toList := by
  unfold cutS
  constructor
  · show (List.toArray _).size ≤ _
    rw [List.size_toArray, List.length_take, List.length_drop, Array.length_toList]
    show _ ≤ s.cps.size
    omega
  · intro c hc
    have hc : c ∈ (s.cps.toList.drop (HT.sIx s.length 0 lo)).take (HT.sIx s.length s.length hi - HT.sIx s.length 0 lo) := by simpa using hc
    exact List.mem_of_mem_drop (List.mem_of_mem_take hc)
theorem digs (n : Nat) : ∀ c ∈ (Nat.repr n).toList, c.toNat < 127 := by
  intro c hc
  have hc : c ∈ Nat.toDigits 10 n := by
    have : (Nat.repr n).toList = Nat.toDigits 10 n := by show (String.ofList (Nat.toDigits 10 n)).toList = _; exact String.toList_ofList
    rw [this] at hc; exact hc
  have h := Nat.isDigit_of_mem_toDigits (by decide) (by decide) hc
  simp [Char.isDigit] at h
  have h2 : c.val.toNat ≤ (57 : UInt32).toNat := UInt32.le_iff_toNat_le.mp h.2
  show c.val.toNat < 127
  have h3 : (57 : UInt32).toNat = 57 := rfl
  omega
theorem int_asc (i : Int) : ∀ c ∈ (Str.ofString (toString i)).cps.toList, c < 127 := by
  intro c hc
  rw [Str.ofString_eq_toList] at hc
  obtain ⟨d, hd, rfl⟩ := List.mem_map.mp (by simpa using hc)
  cases i with
  | ofNat n => exact digs n d hd
  | negSucc n =>
    have hd : d ∈ ("-" ++ Nat.repr (n + 1)).toList := hd
    rw [String.toList_append] at hd
    rcases List.mem_append.mp hd with z | z
    · have z : d = '-' := by simpa using z
      rw [z]; decide
    · exact digs _ d z
def asc (s : Str) : Bool := s.cps.toList.all fun c => decide (c < 127)
theorem asc_of {s : Str} (h : asc s = true) : ∀ c ∈ s.cps.toList, c < 127 := fun c hc => of_decide_eq_true (List.all_eq_true.mp h c hc)
theorem Sat_eq {α : Type} {r : R α} {Q : α → Sto → Prop} (h : r.Sat Q) : ∃ a S, r = .ok a S ∧ Q a S := by
  cases r with
  | ok a S => exact ⟨a, S, rfl, h.h⟩
  | bad => exact h.h.elim
  | ex _ _ => exact h.h.elim
theorem clVs_d (n : Nat) : ∀ ds : List PyData, clVs n (ds.map .d) = true
  | [] => rfl
  | x :: r => clVs_d n r
end Nb

namespace Nb
open PySem L2
local macro_rules | `(tactic| simp_arith [$xs,*]) => `(tactic| simp -implicitDefEqProofs only [exec, ev, evL, evF, evO, evT, iter, asgn, asgns, asgnSt, R.bind_ok, R.Sat_ok, R.bind_Sat, List.map_cons, List.map_nil, List.cons_append, List.nil_append, List.getElem?_cons_zero, List.getElem?_cons_succ, List.length_cons, List.length_nil, Nat.reduceAdd, Nat.reduceSub, List.replicate, List.set, b_add, b_sub, b_mul, b_fdiv, b_mod, b_pow, b_str, b_lst, b_tup, c_eq, c_ne, c_lt, c_le, c_gt, c_ge, c_is, c_isnot, t_none, t_bool, t_int, t_lst, t_tup, l_lst, l_tup, f_len, f_abs, f_int, f_intb, f_repr, fz_nil, fz_of, sm_2, sm_1861, sm_69001, sm_86011, Int.reducePow, Int.reduceNeg, Int.reduceLT, Int.reduceLE, Int.reduceAdd, Int.reduceSub, Int.reduceMul, Int.reduceToNat, Nat.reducePow, natAbs10, Nat.reduceLT, decide_true, decide_false, Bool.and_true, Bool.true_and, Bool.true_or, Bool.or_true, Bool.and_false, Bool.false_and, Bool.false_eq_true, if_true, if_false, $xs,*])
/-! ### small things for proofs by hand -/
theorem x_find {C : Cfg} {t : IT} {it : II} {b r : ISs} {η : En} {S : Sto} {ls : List PyData} {g : PyData → Option PyData} {d : PyData} (inv : En → Prop) (hi : iter C it η S = .ok (ls.map .d) S) (h0 : inv η)
    (h1 : ∀ x ∈ ls, ∀ η, inv η → match g x with | some v => ((asgn C t (.d x) η S).bind fun η2 S3 => execs C b η2 S3) = .ok (.rt (.d v)) S | none => ∃ η', inv η' ∧ ((asgn C t (.d x) η S).bind fun η2 S3 => execs C b η2 S3) = .ok (.nx η') S)
    (h2 : ∀ η, inv η → execs C r η S = .ok (.rt (.d d)) S) : execs C (.cons (.for_ t it b) r) η S = .ok (.rt (.d ((ls.findSome? g).getD d))) S := by
  rw [execs, exec, hi, R.bind_ok]
  have key := forF_find inv (f := fun x η1 S2 => (asgn C t x η1 S2).bind fun η2 S3 => execs C b η2 S3) (g := g) (S := S) h0 h1
  cases hf : ls.findSome? g with
  | some v =>
    rw [hf] at key
    have key : forF _ _ _ S = .ok (.rt (.d v)) S := key
    rw [key]
    rfl
  | none =>
    rw [hf] at key
    obtain ⟨η', hi', key⟩ := key
    rw [key, R.bind_ok]
    exact h2 η' hi'
theorem e_int (a b : Int) : PyData.eqv (.int a) (.int b) = (a == b) := by rw [PyData.eqv]
theorem ok_int (a : Int) : eqOk (.int a) = true := rfl
theorem bq {a b : Int} (h : a ≠ b) : (a == b) = false := beq_eq_false_iff_ne.mpr h
theorem mt2 {a b : PyData} : mkTup [.d a, .d b] = .d (.tuple [a, b]) := rfl
theorem g_at {l : List PyData} {k : Int} {S : Sto} (h0 : 0 ≤ k) (h1 : k < l.length) : getV (.d (.tuple l)) (.d (.int k)) S = .ok (.d (l.getD k.toNat .none)) S := by
  rw [g_tup, atI_of h0 h1]
  have h2 : k.toNat < l.length := by omega
  rw [List.getElem?_eq_getElem h2]
  simp [h2]
theorem forF_acc {f : Va → En → Sto → R Fl} {T : List PyData → Sto} {h : PyData → List PyData} (inv : En → Prop) {ls : List PyData}
    (H : ∀ pre x post η, ls = pre ++ x :: post → inv η → ∃ η', inv η' ∧ f (.d x) η (T (pre.flatMap h)) = .ok (.nx η') (T (pre.flatMap h ++ h x))) :
    ∀ (post pre : List PyData) (η : En), ls = pre ++ post → inv η → ∃ η', inv η' ∧ forF f (post.map .d) η (T (pre.flatMap h)) = .ok (.nx η') (T (ls.flatMap h))
  | [], pre, η, e, hi => ⟨η, hi, by rw [e, List.append_nil]; rfl⟩
  | x :: post, pre, η, e, hi => by
    obtain ⟨η1, hi1, e1⟩ := H pre x post η e hi
    obtain ⟨η2, hi2, e2⟩ := forF_acc inv H post (pre ++ [x]) η1 (by rw [e]; simp) hi1
    refine ⟨η2, hi2, ?_⟩
    rw [List.map_cons, forF, e1, R.bind_ok]
    rw [List.flatMap_append, List.flatMap_cons, List.flatMap_nil, List.append_nil] at e2
    exact e2
theorem top_get {S : Sto} {o : Ob} : (S ++ [o])[S.length]? = some o := by simp
theorem top_set {S : Sto} {o o' : Ob} : (S ++ [o]).set S.length o' = S ++ [o'] := by simp
theorem ext_top {S : Sto} {l m : List PyData} (h : l.length + m.length ≤ 16777216) : extV (.ref S.length) [.d (.list m)] (S ++ [.lst (l.map .d)]) = .ok (.d .none) (S ++ [.lst ((l ++ m).map .d)]) := by
  show (match (S ++ [Ob.lst (l.map Va.d)])[S.length]? with | some (.lst l) => if l.length + m.length ≤ sizeLine then R.ok (Va.d .none) ((S ++ [Ob.lst _]).set S.length (.lst (l ++ m.map Va.d))) else .bad | _ => .bad) = _
  rw [top_get]
  show (if (l.map Va.d).length + m.length ≤ sizeLine then _ else _) = _
  rw [if_pos (by rw [List.length_map]; exact h), top_set, List.map_append]
theorem isLs_top {S : Sto} {l : List Va} : isLs (.ref S.length) (S ++ [.lst l]) = .ok () (S ++ [.lst l]) := by
  show (match (S ++ [Ob.lst l])[S.length]? with | some (.lst _) => R.ok () _ | _ => .bad) = _
  rw [top_get]
theorem x_ext {C : Cfg} {f : IF} {i : Nat} {η : En} {S : Sto} {l m : List PyData} (h1 : η[i]? = some (some (.ref S.length))) (h2 : evF C f η (S ++ [.lst (l.map .d)]) = .ok (m.map .d) (S ++ [.lst (l.map .d)])) (hl : l.length + m.length ≤ 16777216) :
    exec C (.ex (.met .extend (.loc i) (.cons (.fz f) .nil))) η (S ++ [.lst (l.map .d)]) = .ok (.nx η) (S ++ [.lst ((l ++ m).map .d)]) := by
  rw [exec, ev, ev, h1]
  dsimp only
  rw [R.bind_ok]
  show ((isLs (.ref S.length) (S ++ [.lst (l.map .d)])).bind _).bind _ = _
  rw [isLs_top, R.bind_ok, evL, ev_fz h2, R.bind_ok, evL, R.bind_ok, R.bind_ok]
  show (extV (.ref S.length) [.d (.list m)] (S ++ [.lst (l.map .d)])).bind _ = _
  rw [ext_top hl, R.bind_ok]
theorem trimZ_top {S : Sto} {l : List PyData} (c : clS S = true) (h : l.length ≤ 16777216) : trim S.length (.z S.length) (S ++ [.lst (l.map .d)]) = .ok (.d (.list l)) S := by
  show trimZ _ _ _ = _
  unfold trimZ
  rw [top_get]
  dsimp only
  rw [pureL_d]
  dsimp only
  rw [List.take_left]
  have c : S.all (clO S.length) = true := c
  rw [if_pos (by rw [c, decide_eq_true (Nat.le_refl _), decide_eq_true (show l.length ≤ sizeLine from h)]; rfl)]
theorem run_sat {C : Cfg} {m : Nat} {b : ISs} {vs : List Va} {S : Sto} {x : PyData} (h : (execs C b (vs.map some ++ List.replicate (m - vs.length) none) S).Sat fun fl S1 => fl = .rt (.d x) ∧ S1 = S) : runF C m b vs S = .ok (.d x) S := by
  obtain ⟨fl, S1, e, rfl, rfl⟩ := Sat_eq h
  exact run_of e
theorem fz7 {a b c d e f g : PyData} {S : Sto} : freeze [.d a, .d b, .d c, .d d, .d e, .d f, .d g] S = .ok (.d (.list [a, b, c, d, e, f, g])) S := rfl
theorem fz5 {a b c d e : PyData} {S : Sto} : freeze [.d a, .d b, .d c, .d d, .d e] S = .ok (.d (.list [a, b, c, d, e])) S := rfl
theorem fz4 {a b c d : PyData} {S : Sto} : freeze [.d a, .d b, .d c, .d d] S = .ok (.d (.list [a, b, c, d])) S := rfl
theorem fz3 {a b c : PyData} {S : Sto} : freeze [.d a, .d b, .d c] S = .ok (.d (.list [a, b, c])) S := rfl
theorem atI_last {l : List Va} {x : Va} : atI (l ++ [x]) (-1) = some x := by
  rw [atI_neg (by omega) (by rw [List.length_append]; show -((l.length + 1 : Nat) : Int) ≤ -1; omega)]
  have : (((l ++ [x]).length : Int) + -1).toNat = l.length := by rw [List.length_append]; show (((l.length + 1 : Nat) : Int) + -1).toNat = _; omega
  rw [this]
  simp
theorem isLs_1 {o : Ob} {X : Sto} {l : List Va} : isLs (.ref (X.length + 1)) (o :: (X ++ [.lst l])) = .ok () (o :: (X ++ [.lst l])) := by
  show (match (o :: (X ++ [Ob.lst l]))[X.length + 1]? with | some (.lst _) => R.ok () _ | _ => .bad) = _
  rw [List.getElem?_cons_succ, top_get]
theorem app_1 {o : Ob} {X : Sto} {l : List Int} {i : Int} (h : l.length < 16777216) : appV (.ref (X.length + 1)) [.d (.int i)] (o :: (X ++ [.lst (l.map fun i => .d (.int i))])) = .ok (.d .none) (o :: (X ++ [.lst ((l ++ [i]).map fun i => .d (.int i))])) := by
  show (match (o :: (X ++ [Ob.lst (l.map fun i => Va.d (.int i))]))[X.length + 1]? with | some (.lst l) => if l.length < sizeLine then R.ok (Va.d .none) ((o :: (X ++ [Ob.lst _])).set (X.length + 1) (.lst (l ++ [Va.d (.int i)]))) else .bad | _ => .bad) = _
  rw [List.getElem?_cons_succ, top_get]
  show (if (l.map fun i => Va.d (.int i)).length < sizeLine then _ else _) = _
  rw [if_pos (by rw [List.length_map]; exact h), List.set_cons_succ, top_set, List.map_append]
  rfl
mutual
theorem clV_mono {n m : Nat} (h : n ≤ m) : ∀ {v : Va}, clV n v = true → clV m v = true
  | .d _, _ => rfl
  | .ref k, q => decide_eq_true (Nat.lt_of_lt_of_le (of_decide_eq_true q) h)
  | .fn _, _ => rfl
  | .z k, q => decide_eq_true (Nat.lt_of_lt_of_le (of_decide_eq_true q) h)
  | .tup l, q => by rw [clV] at q ⊢; exact clVs_mono h q
theorem clVs_mono {n m : Nat} (h : n ≤ m) : ∀ {v : List Va}, clVs n v = true → clVs m v = true
  | [], _ => rfl
  | v :: r, q => by
    rw [clVs] at q ⊢
    have q := Bool.and_eq_true_iff.mp q
    rw [clV_mono h q.1, clVs_mono h q.2]
    rfl
end
theorem clO_mono {n m : Nat} (h : n ≤ m) : ∀ {o : Ob}, clO n o = true → clO m o = true
  | .lst l, q => clVs_mono h q
  | .dct l, q => clVs_mono (v := l.map Prod.snd) h q
  | .ins _ l, q => clVs_mono (v := l.map Prod.snd) h q
theorem clS_app {S : Sto} {ds : List PyData} (c : clS S = true) : clS (S ++ [.lst (ds.map .d)]) = true := by
  show (S ++ [Ob.lst (ds.map Va.d)]).all (clO (S ++ [Ob.lst (ds.map Va.d)]).length) = true
  rw [List.all_append, List.length_append]
  have h1 : S.all (clO (S.length + [Ob.lst (ds.map Va.d)].length)) = true := List.all_eq_true.mpr fun o ho => clO_mono (Nat.le_add_right _ _) (List.all_eq_true.mp c o ho)
  rw [h1]
  show (true && (clVs _ (ds.map Va.d) && true)) = true
  rw [clVs_d]
  rfl
theorem clS_pen {p p' : Pn} {X : Sto} (c : clS (penOb p :: X) = true) : clS (penOb p' :: X) = true := c
theorem sl_from {l : List PyData} {i : Int} {S : Sto} (h : 0 ≤ i) : slV (.d (.list l)) (some i) none S = .ok (.d (.list (l.drop i.toNat))) S := by
  show R.ok (Va.d (.list (cutD l (some i) none))) S = _
  have : cutD l (some i) none = l.drop i.toNat := by
    unfold cutD
    obtain ⟨m, rfl⟩ := Int.eq_ofNat_of_zero_le h
    have e1 : HT.sIx l.length 0 (some ((m : Nat) : Int)) = min m l.length := HT.sIx_nat _ _ _
    have e2 : HT.sIx l.length l.length none = l.length := rfl
    rw [e1, e2, List.take_of_length_le (by rw [List.length_drop]; omega), Int.toNat_natCast]
    by_cases z : m ≤ l.length
    · rw [Nat.min_eq_left z]
    · rw [Nat.min_eq_right (by omega), List.drop_length, List.drop_eq_nil_of_le (by omega)]
  rw [this]
theorem f_tup {l : List PyData} {S : Sto} : bltV .tuple [.d (.list l)] S = .ok (.d (.tuple l)) S := by
  show (match pureL (l.map Va.d) with | some ds => R.ok (Va.d (.tuple ds)) S | none => .bad) = _
  rw [pureL_d]
theorem f_tupR {o : Ob} {X : Sto} {l : List PyData} : bltV .tuple [.ref (X.length + 1)] (o :: (X ++ [.lst (l.map .d)])) = .ok (.d (.tuple l)) (o :: (X ++ [.lst (l.map .d)])) := by
  show (match (o :: (X ++ [Ob.lst (l.map Va.d)]))[X.length + 1]? with | some (.lst l) => R.ok l (o :: (X ++ [Ob.lst _])) | _ => .bad).bind _ = _
  rw [List.getElem?_cons_succ, top_get]
  dsimp only
  rw [R.bind_ok, pureL_d]
theorem mt0 : mkTup [] = .d (.tuple []) := rfl
theorem app_d {o : Ob} {X : Sto} {l : List PyData} {x : PyData} (h : l.length < 16777216) : appV (.ref (X.length + 1)) [.d x] (o :: (X ++ [.lst (l.map .d)])) = .ok (.d .none) (o :: (X ++ [.lst ((l ++ [x]).map .d)])) := by
  show (match (o :: (X ++ [Ob.lst (l.map Va.d)]))[X.length + 1]? with | some (.lst l) => if l.length < sizeLine then R.ok (Va.d .none) ((o :: (X ++ [Ob.lst _])).set (X.length + 1) (.lst (l ++ [Va.d x]))) else .bad | _ => .bad) = _
  rw [List.getElem?_cons_succ, top_get]
  show (if (l.map Va.d).length < sizeLine then _ else _) = _
  rw [if_pos (by rw [List.length_map]; exact h), List.set_cons_succ, top_set, List.map_append]
  rfl
theorem mt1 {a : PyData} : mkTup [.d a] = .d (.tuple [a]) := rfl
theorem mt3 {a b c : PyData} : mkTup [.d a, .d b, .d c] = .d (.tuple [a, b, c]) := rfl
theorem mt4 {a b c d : PyData} : mkTup [.d a, .d b, .d c, .d d] = .d (.tuple [a, b, c, d]) := rfl
theorem mt5 {a b c d e : PyData} : mkTup [.d a, .d b, .d c, .d d, .d e] = .d (.tuple [a, b, c, d, e]) := rfl
theorem mt6 {a b c d e f : PyData} : mkTup [.d a, .d b, .d c, .d d, .d e, .d f] = .d (.tuple [a, b, c, d, e, f]) := rfl
theorem mt8 {a b c d e f g h : PyData} : mkTup [.d a, .d b, .d c, .d d, .d e, .d f, .d g, .d h] = .d (.tuple [a, b, c, d, e, f, g, h]) := rfl
theorem fz1 {a : PyData} {S : Sto} : freeze [.d a] S = .ok (.d (.list [a])) S := rfl
theorem fz2 {a b : PyData} {S : Sto} : freeze [.d a, .d b] S = .ok (.d (.list [a, b])) S := rfl
end Nb

namespace Nb
open PySem L2 PySem.Spec PyProof.Rows
/-! ### all defs of a text at once, by how deep the calls are in one another -/
def phiF (gl : Nat → Option Va) (xs : List (Str × Xi)) (os : Ox) (wf : Nat) (tab : List (Nat × ISs)) : Nat → Nat → List Va → Sto → R Va
  | 0 => fun _ _ _ => .bad
  | n + 1 => fun j vs S => match tab[j]? with
    | some e => runF ⟨phiF gl xs os wf tab n, gl, wf, xs, os⟩ e.1 e.2 vs S
    | none => .bad
/-- a def keeps to its IR -/
structure DefOk (K : PySem.W.Frag) (mg : Str → Option Value) (fn : List (Str × Nat)) (L : List (Str × Gx)) (xs : List (Str × Xi)) (os : Ox) (p : Str × Nat) (e : Nat × ISs) : Prop where
  ex : ∃ st ps nms, DefAt K mg p.1 st ps ∧ FnScope nms ps (defScope st) ∧ chkSs ⟨nms, fn, L.map (·.1), xs, os, true⟩ (defScope st) e.2 (defBody st) = true ∧ p.2 = ps.length ∧ e.1 = nms.length
inductive AllOk (K : PySem.W.Frag) (mg : Str → Option Value) (fn : List (Str × Nat)) (L : List (Str × Gx)) (xs : List (Str × Xi)) (os : Ox) : List (Str × Nat) → List (Nat × ISs) → Prop
  | nil : AllOk K mg fn L xs os [] []
  | cons {x : Str} {st : Stmt} {ps nms : List Str} {ib : ISs} {f : List (Str × Nat)} {t : List (Nat × ISs)} : DefAt K mg x st ps → FnScope nms ps (defScope st) → chkSs ⟨nms, fn, L.map (·.1), xs, os, true⟩ (defScope st) ib (defBody st) = true → AllOk K mg fn L xs os f t → AllOk K mg fn L xs os ((x, ps.length) :: f) ((nms.length, ib) :: t)
theorem AllOk.get {K : PySem.W.Frag} {mg : Str → Option Value} {fn : List (Str × Nat)} {L : List (Str × Gx)} {xs : List (Str × Xi)} {os : Ox} : ∀ {f : List (Str × Nat)} {t : List (Nat × ISs)}, AllOk K mg fn L xs os f t → ∀ {j : Nat} {p : Str × Nat}, f[j]? = some p → ∃ e, t[j]? = some e ∧ DefOk K mg fn L xs os p e
  | _, _, .nil, j, p, h => by simp at h
  | _, _, .cons d s c r, 0, p, h => by
    have h := Option.some.inj h
    subst h
    exact ⟨_, rfl, ⟨_, _, _, d, s, c, rfl, rfl⟩⟩
  | _, _, .cons d s c r, j + 1, p, h => by
    obtain ⟨e, h1, h2⟩ := r.get (j := j) (p := p) (by simpa using h)
    exact ⟨e, by simpa using h1, h2⟩
theorem AllOk.len {K : PySem.W.Frag} {mg : Str → Option Value} {fn : List (Str × Nat)} {L : List (Str × Gx)} {xs : List (Str × Xi)} {os : Ox} : ∀ {f : List (Str × Nat)} {t : List (Nat × ISs)}, AllOk K mg fn L xs os f t → f.length = t.length
  | _, _, .nil => rfl
  | _, _, .cons _ _ _ r => by rw [List.length_cons, List.length_cons, r.len]
/-- further defs: methods, and such as are called with keywords alone -/
structure XDef where
  f : Addr
  fd : FuncData
  ps : List Str
inductive AllX (K : PySem.W.Frag) (fn : List (Str × Nat)) (L : List (Str × Gx)) (xs : List (Str × Xi)) (os : Ox) : List XDef → List (Nat × ISs) → Prop
  | nil : AllX K fn L xs os [] []
  | cons {x q : Str} {st : Stmt} {f : Addr} {fd : FuncData} {ps nms : List Str} {ib : ISs} {xd : List XDef} {t : List (Nat × ISs)} : Fun K x q st f fd → FnScope nms ps (defScope st) → chkSs ⟨nms, fn, L.map (·.1), xs, os, true⟩ (defScope st) ib (defBody st) = true → AllX K fn L xs os xd t → AllX K fn L xs os (⟨f, fd, ps⟩ :: xd) ((nms.length, ib) :: t)
theorem AllX.get {K : PySem.W.Frag} {fn : List (Str × Nat)} {L : List (Str × Gx)} {xs : List (Str × Xi)} {os : Ox} : ∀ {xd : List XDef} {t : List (Nat × ISs)}, AllX K fn L xs os xd t → ∀ {j : Nat} {d : XDef}, xd[j]? = some d → ∃ x q st nms ib, t[j]? = some (nms.length, ib) ∧ Fun K x q st d.f d.fd ∧ FnScope nms d.ps (defScope st) ∧ chkSs ⟨nms, fn, L.map (·.1), xs, os, true⟩ (defScope st) ib (defBody st) = true
  | _, _, .nil, j, d, h => by simp at h
  | _, _, .cons F s c r, 0, d, h => by
    have h := Option.some.inj h
    subst h
    exact ⟨_, _, _, _, _, rfl, F, s, c⟩
  | _, _, .cons F s c r, j + 1, d, h => by
    obtain ⟨x, q, st, nms, ib, h1, h2⟩ := r.get (j := j) (d := d) (by simpa using h)
    exact ⟨x, q, st, nms, ib, by simpa using h1, h2⟩
/-- what the module says of an own class -/
structure ClS (K : PySem.W.Frag) (mg : Str → Option Value) (n0 : Nat) (xd : List XDef) (cn : Str) (ci : Ci) : Prop where
  ex : ∃ Ca : Addr, mg cn = some (.ref Ca) ∧ Cls K Ca ∧ (∀ f ∈ ci.fl, NoAttr K Ca f) ∧ (∀ m j n, msL ci.ms m = some (j, n) → ∃ i d, j = n0 + i ∧ xd[i]? = some d ∧ d.ps.length = n ∧ Meth K Ca m d.f ∧ Binds K d.fd d.ps []) ∧
    (∀ j n, ci.ini = some (j, n) → ∃ i d, j = n0 + i ∧ xd[i]? = some d ∧ d.ps.length = n ∧ Mk K Ca d.f ∧ Binds K d.fd d.ps [])
/-- .. of a call with keywords -/
structure KwS (K : PySem.W.Frag) (mg : Str → Option Value) (n0 : Nat) (xd : List XDef) (q : Kw) : Prop where
  ex : ∃ i d dv du, q.f = n0 + i ∧ xd[i]? = some d ∧ d.ps.length = q.ar.length ∧ mg q.nm = some (.ref d.f) ∧ PySem.W.keepIn K (.ref d.f) = true ∧ DfR K q.ar dv du ∧
    ∀ (s : Shared) (us ws l : List Value), K.In s.heap → us.length = q.n → ws.length = q.ks.length → arrU q.ar du (us ++ ws) = some l → BindsTo s d.fd ⟨us, q.ks.zip ws⟩ (d.ps.zip l)
structure OsOk (K : PySem.W.Frag) (mg : Str → Option Value) (n0 : Nat) (xd : List XDef) (os : Ox) : Prop where
  cl : ∀ cn ci, lookC os.cs cn = some ci → ClS K mg n0 xd cn ci
  kw : ∀ (j : Nat) (q : Kw), os.kw[j]? = some q → KwS K mg n0 xd q
theorem OsOk.nil {K : PySem.W.Frag} {mg : Str → Option Value} {n0 : Nat} {xd : List XDef} : OsOk K mg n0 xd ⟨[], []⟩ := ⟨(fun _ _ h => by cases h), (fun j q h => by simp at h)⟩
/-- what the text's classes of exceptions are -/
structure XsOk (P : Program) (w : World) (K : PySem.W.Frag) (mg : Str → Option Value) (base : Heap) (xs : List (Str × Xi)) : Prop where
  xf : ∀ cn xi, lookX xs cn = some xi → XcF K mg xs cn xi
  xm : ∀ cn xi, lookX xs cn = some xi → XcM P w K mg base 3 cn xi.fl
theorem XsOk.nil {P : Program} {w : World} {K : PySem.W.Frag} {mg : Str → Option Value} {base : Heap} : XsOk P w K mg base [] := ⟨(fun _ _ h => by cases h), (fun _ _ h => by cases h)⟩
theorem XcM.mono {P : Program} {w : World} {K : PySem.W.Frag} {mg : Str → Option Value} {base : Heap} {j k : Nat} {cn : Str} {fl : List Str} (h : XcM P w K mg base j cn fl) (l : j ≤ k) : XcM P w K mg base k cn fl :=
  ⟨fun X h1 h2 h3 h4 h5 hr => h.run X h1 h2 h3 h4 h5 (hr.mono l)⟩
structure KnownF (P : Program) (w : World) (K : PySem.W.Frag) (mg : Str → Option Value) (base : Heap) (n : Nat) (fn : List (Str × Nat)) (xd : List XDef) (tab : List (Nat × ISs)) (wf : Nat) (L : List (Str × Gx)) (xs : List (Str × Xi)) (os : Ox) : Prop where
  fns : ∀ j y a, fn[j]? = some (y, a) → ∃ f fd ps, FnG P w K mg base (FfK K w mg) (2 * n + 3) f fd ps (phiF (cgl L) xs os wf tab n j) ∧ ps.length = a ∧ mg y = some (.ref f) ∧ PySem.W.keepIn K (.ref f) = true ∧ Binds K fd ps []
  xns : ∀ (i : Nat) (d : XDef), xd[i]? = some d → FnG P w K mg base (FfK K w mg) (2 * n + 3) d.f d.fd d.ps (phiF (cgl L) xs os wf tab n (fn.length + i))
section
variable {P : Program} {w : World} {K : PySem.W.Frag} {mg : Str → Option Value} {base : Heap} {wf : Nat} {fn : List (Str × Nat)} {xd : List XDef} {tab tabF tabX : List (Nat × ISs)} {L : List (Str × Gx)} {xs : List (Str × Xi)} {os : Ox}
theorem KnownF.env {n : Nat} (N : KnownF P w K mg base n fn xd tab wf L xs os) (B : BltFree mg) (Gl : GlOk K w mg L) (Z : XsOk P w K mg base xs) (O : OsOk K mg fn.length xd os) (nms : List Str) : Env1 P w K mg base (FfK K w mg) ⟨phiF (cgl L) xs os wf tab n, cgl L, wf, xs, os⟩ ⟨nms, fn, L.map (·.1), xs, os, true⟩ (2 * n + 3) :=
  ⟨N.fns, fun j y v h e => by
    rw [List.getElem?_map] at h
    cases hl : L[j]? with
    | none => rw [hl] at h; cases h
    | some p =>
      rw [hl] at h
      have h : p.1 = y := by simpa using h
      have e : (L[j]?).map (fun p => vaG p.2) = some v := e
      rw [hl] at e
      have e : vaG p.2 = v := by simpa using e
      obtain ⟨u, w, h1, h2, h3⟩ := Gl.ok j p.1 p.2 hl
      exact ⟨u, w, by rw [← h]; exact h1, h2, fun H μ => by rw [← e]; exact h3 H μ⟩, B, gdOk K w mg, fun _ _ _ h => h, rfl, Z.xf, fun cn xi h => (Z.xm cn xi h).mono (by omega), rfl, fun cn ci h => by
    obtain ⟨Ca, h1, h2, h3, h4, h5⟩ := (O.cl cn ci h).ex
    refine ⟨Ca, h1, ⟨Ca, rfl, h1⟩, h2, h3, fun m j n hm => ?_, fun j n hi => ?_⟩
    · obtain ⟨i, d, rfl, e1, e2, e3, e4⟩ := h4 m j n hm
      exact ⟨d.f, d.fd, d.ps, N.xns i d e1, e2, e3, e4⟩
    · obtain ⟨i, d, rfl, e1, e2, e3, e4⟩ := h5 j n hi
      exact ⟨d.f, d.fd, d.ps, N.xns i d e1, e2, e3, e4⟩, fun j q h => by
    obtain ⟨i, d, dv, du, hf, e1, e2, e3, e4, e5, e6⟩ := (O.kw j q h).ex
    exact ⟨d.f, d.fd, d.ps, dv, du, by rw [hf]; exact N.xns i d e1, e2, e3, e4, e5, e6⟩⟩
theorem FnG.bad {k : Nat} {f : Addr} {fd : FuncData} {ps : List Str} {f0 : Gx → V → Prop} : FnG P w K mg base f0 k f fd ps fun _ _ => .bad :=
  ⟨fun ff hf A outer s0 H args us vs Q hr hgd e0 hb r hl sp => by
    obtain ⟨μ, S, l, rs, rl, q⟩ := sp
    exact q.elim⟩
theorem KnownF.all (A : AllOk K mg fn L xs os fn tabF) (AX : AllX K fn L xs os xd tabX) (B : BltFree mg) (Gl : GlOk K w mg L) (Z : XsOk P w K mg base xs) (O : OsOk K mg fn.length xd os) : ∀ n, KnownF P w K mg base n fn xd (tabF ++ tabX) wf L xs os
  | 0 => ⟨fun j y a h => by
    obtain ⟨e, h1, ⟨st, ps, nms, D, sc, ck, e1, e2⟩⟩ := A.get h
    obtain ⟨f, fd, _, F, m, bd⟩ := D.ex
    exact ⟨f, fd, ps, FnG.bad, e1.symm, m, F.kp, bd⟩, fun i d h => FnG.bad⟩
  | n + 1 => by
    have E := fun nms => (KnownF.all A AX B Gl Z O n).env B Gl Z O nms
    refine ⟨fun j y a h => ?_, fun i d h => ?_⟩
    · obtain ⟨e, h1, ⟨st, ps, nms, D, sc, ck, e1, e2⟩⟩ := A.get h
      obtain ⟨f, fd, _, F, m, bd⟩ := D.ex
      refine ⟨f, fd, ps, FnG.of e.2 F (E nms) sc ck fun l S _ _ _ => .inr ?_, e1.symm, m, F.kp, bd⟩
      show runF _ nms.length e.2 l S = (match (tabF ++ tabX)[j]? with | some e => runF ⟨phiF (cgl L) xs os wf (tabF ++ tabX) n, cgl L, wf, xs, os⟩ e.1 e.2 l S | none => .bad)
      rw [List.getElem?_append_left (List.getElem?_eq_some_iff.mp h1).1, h1, ← e2]
    · obtain ⟨x, q, st, nms, ib, h1, F, sc, ck⟩ := AX.get h
      refine FnG.of ib F (E nms) sc ck fun l S _ _ _ => .inr ?_
      show runF _ nms.length ib l S = (match (tabF ++ tabX)[fn.length + i]? with | some e => runF ⟨phiF (cgl L) xs os wf (tabF ++ tabX) n, cgl L, wf, xs, os⟩ e.1 e.2 l S | none => .bad)
      rw [A.len, List.getElem?_append_right (Nat.le_add_right _ _), Nat.add_sub_cancel_left, h1]
end
theorem topF_mk {l : PySem.W.OpenLaw} {w : World} {K : PySem.W.Frag} {h : Heap} {mg : Str → Option Value} {fa f : Addr} {x y : Str} {st : Stmt} {wf : Nat} (k : Nat) {fn : List (Str × Nat)} {xd : List XDef} {tabF tabX : List (Nat × ISs)} {L : List (Str × Gx)} {xs : List (Str × Xi)} {os : Ox} {nms : List Str} {ib : ISs} {oc : Value} {od an : Option Addr} {osl : Array (Option Value)} {kV doc pm cdv ct : Value}
    (X : K.In h) (G : h.Ns mainGlobals mg) (hfa : mg x = some (.ref fa)) (B : BltFree mg) (Gl : GlOk K w mg L) (A : AllOk K mg fn L xs os fn tabF) (AX : AllX K fn L xs os xd tabX) (O : OsOk K mg fn.length xd os) (Z : ∀ base : Heap, K.In base → base.Ns mainGlobals mg → XsOk l.prog w K mg base xs) (sc : FnScope nms [y] (defScope st)) (ck : chkSs ⟨nms, fn, L.map (·.1), xs, os, true⟩ (defScope st) ib (defBody st) = true)
    (hb : ∀ (kV doc pm : Value) (an : Option Addr) (cdv ct : Value) (s : Shared) (v : Value), BindsTo s (PySem.W.fnOf x x (defArgs st) (defBody st) (defScope st) .none kV doc pm an cdv ct) ⟨[v], []⟩ [(y, v)])
    (a : PySem.W.nsIn K mainGlobals x = some (some (.ref f))) (e : K.lookup f = some ⟨oc, od, .func (PySem.W.fnOf x x (defArgs st) (defBody st) (defScope st) .none kV doc pm an cdv ct), osl⟩) (c : PySem.W.codeIn K cdv x = true) (kp : PySem.W.keepIn K (.ref f) = true) :
    ∃ fd : FuncData, (∀ (s : Shared) (v : Value), BindsTo s fd ⟨[v], []⟩ [(y, v)]) ∧ ∀ base : Heap, K.In base → base.Ns mainGlobals mg → ∃ ff, FnG l.prog w K mg base ff (2 * k + 5) fa fd [y] (runF ⟨phiF (cgl L) xs os wf (tabF ++ tabX) k, cgl L, wf, xs, os⟩ nms.length ib) := by
  have q := hfa.symm.trans (PySem.W.mg_of X G a)
  cases q
  exact ⟨_, fun s v => hb kV doc pm an cdv ct s v, fun base z1 z2 => ⟨_, FnG.of ib (fun_mk (st := st) e c kp) ((KnownF.all A AX B Gl (Z base z1 z2) O k).env B Gl (Z base z1 z2) O nms) sc ck fun _ _ _ _ _ => .inr rfl⟩⟩
end Nb

namespace Nb
open PySem L2 PySem.Spec PyProof.Rows
/-! ### what a module's classes of exceptions are, looked up -/
def kad (K : PySem.W.Frag) (x : Str) : Option Addr := match PySem.W.nsIn K mainGlobals x with
  | some (some (.ref c)) => some c
  | _ => none
theorem kad_mg {K : PySem.W.Frag} {h : Heap} {mg : Str → Option Value} {x : Str} {c : Addr} (X : K.In h) (G : h.Ns mainGlobals mg) (e : kad K x = some c) : mg x = some (.ref c) := by
  unfold kad at e
  split at e
  · rename_i d hd
    cases e
    exact PySem.W.mg_of X G hd
  · cases e
def askB (K : PySem.W.Frag) (D : Addr) : Bool := decide (PySem.W.findIn K (.ref D) "__getattribute__" = some (some (.builtin "BaseException.__getattribute__"))) && (decide (PySem.W.findIn K (.ref D) "__getattr__" = some none) &&
  (decide (PySem.W.subIn K (.ref D) (.type "BaseException") = some true) && (PySem.W.hasDictIn K D && (decide (PySem.W.findIn K (.ref D) "__class__" = some (some (.builtin "object.__class__"))) &&
  (decide (PySem.W.specialIn K (.builtin "object.__class__") "__get__" = some (some (.builtin "getset_descriptor.__get__"))) && (decide (PySem.W.takesIn K (.builtin "object.__class__") = some true) && decide (PySem.W.mroIn K D (.type "object") = some true)))))))
theorem askB_ok {K : PySem.W.Frag} {D : Addr} (h : askB K D = true) : PySem.W.AskC K D := by
  unfold askB at h
  simp only [Bool.and_eq_true, decide_eq_true_eq] at h
  obtain ⟨h1, h2, h3, h4, h5, h6, h7, h8⟩ := h
  exact ⟨h1, h2, h3, h4, h5, h6, h7, h8⟩
def bxL : List Bx := [.ve, .le, .ex]
def xcOne (K : PySem.W.Frag) (xs : List (Str × Xi)) (cn : Str) (xi : Xi) : Bool := match kad K cn with
  | some c => xfB K c && (xi.fl.all (fun f => decide (PySem.W.findIn K (.ref c) f = some none)) && (askB K c && (bxL.all (fun k => decide (PySem.W.kitOne K (.ref c) (.type (bxS k)) = some (decide (k ∈ xi.bu)))) &&
    xs.all fun p => match kad K p.1 with
      | some c2 => decide (PySem.W.exmOne K (.ref c) (.ref c2) = some (decide (p.1 ∈ xi.up))) && decide (PySem.W.kitOne K (.ref c) (.ref c2) = some (decide (p.1 ∈ xi.up)))
      | none => false)))
  | none => false
def xcAll (K : PySem.W.Frag) (xs : List (Str × Xi)) : Bool := xs.all fun p => xcOne K xs p.1 p.2
theorem lookX_mem {xs : List (Str × Xi)} {cn : Str} {xi : Xi} (h : lookX xs cn = some xi) : (cn, xi) ∈ xs := by
  unfold lookX at h
  obtain ⟨p, h1, h2⟩ := Option.map_eq_some_iff.mp h
  have h3 := List.find?_some h1
  have h4 := List.mem_of_find?_eq_some h1
  obtain ⟨a, b⟩ := p
  have h3 : a = cn := by simpa using h3
  cases h3
  cases h2
  exact h4
theorem xcF_of {K : PySem.W.Frag} {h : Heap} {mg : Str → Option Value} {xs : List (Str × Xi)} (X : K.In h) (G : h.Ns mainGlobals mg) (z : xcAll K xs = true) {cn : Str} {xi : Xi} (hl : lookX xs cn = some xi) : XcF K mg xs cn xi := by
  have hm := lookX_mem hl
  have z1 : xcOne K xs cn xi = true := List.all_eq_true.mp z _ hm
  unfold xcOne at z1
  cases hc : kad K cn with
  | none => rw [hc] at z1; cases z1
  | some c =>
    rw [hc] at z1
    dsimp only at z1
    simp only [Bool.and_eq_true] at z1
    obtain ⟨h1, h2, h3, h4, h5⟩ := z1
    refine ⟨c, kad_mg X G hc, xfB_ok h1, fun f hf => of_decide_eq_true (List.all_eq_true.mp h2 f hf), askB_ok h3, fun k => of_decide_eq_true (List.all_eq_true.mp h4 k (by cases k <;> decide)), fun cn2 xi2 hl2 => ?_⟩
    have z2 := List.all_eq_true.mp h5 _ (lookX_mem hl2)
    dsimp only at z2
    cases hc2 : kad K cn2 with
    | none => rw [hc2] at z2; cases z2
    | some c2 =>
      rw [hc2] at z2
      dsimp only at z2
      simp only [Bool.and_eq_true, decide_eq_true_eq] at z2
      exact ⟨c2, kad_mg X G hc2, z2.1, z2.2⟩
/-- a class without an own __init__, of ValueError -/
def plB (K : PySem.W.Frag) (cn : Str) : Bool := match kad K cn with
  | some c => PySem.W.excIn K c [.type "ValueError", .type "Exception", .type "BaseException", .type "object"] "ValueError.__new__" && (PySem.W.keepIn K (.ref c) && (decide (PySem.W.subIn K (.ref c) (.type "BaseException") = some true) && decide (PySem.W.typeIn K (.ref c) = some (.type "type"))))
  | none => false
section
variable {M : Model} {A : Around} {E : Value → Shared → Prop} {s : Shared}
theorem evalArgs_none {f : Value} {Q : Args → Shared → Prop} (h : wpAny M A (spliced []) (fun vs s' => Q ⟨vs, []⟩ s') E s) : wpAny M A (evalArgs f true [] []) Q E s := by
  unfold evalArgs
  show wpAny M A (spliced [] >>= _) Q E s
  refine wpAny_bind (wpAny_mono h (fun vs s' h' => ?_) fun _ _ x => x)
  exact wpAny_holding (wpAny_bind (wpAny_pure (wpAny_bind (wpAny_pure (wpAny_pure h')))))
end
theorem xcm_plain {P : Program} {w : World} {K : PySem.W.Frag} {h : Heap} {mg : Str → Option Value} {base : Heap} {k : Nat} {cn : Str} (hX : K.In h) (G : h.Ns mainGlobals mg) (z : plB K cn = true) (hdb : (cn == ("__debug__" : Str)) = false) : XcM P w K mg base k cn [] := by
  unfold plB at z
  cases hc : kad K cn with
  | none => rw [hc] at z; cases z
  | some c =>
    rw [hc] at z
    dsimp only at z
    simp only [Bool.and_eq_true, decide_eq_true_eq] at z
    obtain ⟨q, kC, h1, h2⟩ := z
    refine ⟨fun X e1 e2 e3 e4 e5 hr hgd hg es ta p pos ha hl hst => ?_⟩
    cases es with
    | cons _ _ => cases hl
    | nil =>
    subst e3 e4
    have gC := kad_mg hX G hc
    intro pins s σ H Q I hh
    refine wpAny_Call_Name_kw (ld_glob I hg gC ?_ hdb)
    refine PySem.W.callWith_of rfl (PySem.W.keeps_K kC) (evalArgs_none (thn (ha.run pos pins s σ H _ I hh) fun us s1 hh => ?_))
    obtain ⟨vs, H1, I1, r1, q1, _, c', hm, q2⟩ := hh
    refine ⟨I1.kIn, ?_⟩
    rw [gC] at hm
    have ec : c = c' := by
      have := Option.some.inj hm
      injection this
    subst ec
    have hv : vs = [] := List.eq_nil_of_length_eq_zero q1
    subst hv
    cases r1
    show wpAny _ _ (call (.ref c) []) _ _ _
    obtain ⟨bm, N, nm, qn, bs, hdct, sn, sub, ab, col, dd, k0, k1, k2, k3, k5, mN, hC, hN, hni, T⟩ := exc_obj I1.kIn q
    refine wpAny_call_exc_subT PySem.F.excBase_ValueError T hC hN hni (fun h' e hm => ?_) (by show 0 ≤ sizeLine; omega)
    rcases q2 with ⟨_, q2⟩ | ⟨z, _⟩
    · exact mk_of I1 hm (raises_own h1 h2) q2 (I1.hok.gone hm.new)
    · exact absurd rfl z
/-- all of a text's classes, where none has an __init__ of its own -/
theorem XsOk.plain {P : Program} {w : World} {K : PySem.W.Frag} {h : Heap} {mg : Str → Option Value} {base : Heap} {xs : List (Str × Xi)} (X : K.In h) (G : h.Ns mainGlobals mg) (z : xcAll K xs = true)
    (hm : ∀ p ∈ xs, p.2.fl = [] → plB K p.1 = true ∧ (p.1 == ("__debug__" : Str)) = false) (hf : ∀ p ∈ xs, p.2.fl ≠ [] → XcM P w K mg base 3 p.1 p.2.fl) : XsOk P w K mg base xs := by
  refine ⟨fun cn xi hl => xcF_of X G z hl, fun cn xi hl => ?_⟩
  have hp := lookX_mem hl
  by_cases h0 : xi.fl = []
  · obtain ⟨h1, h2⟩ := hm _ hp h0
    rw [h0]
    exact xcm_plain X G h1 h2
  · exact hf _ hp h0
def plAll (K : PySem.W.Frag) (xs : List (Str × Xi)) : Bool := xs.all fun p => p.2.fl.isEmpty && (plB K p.1 && !(p.1 == ("__debug__" : Str)))
theorem XsOk.plain0 {P : Program} {w : World} {K : PySem.W.Frag} {h : Heap} {mg : Str → Option Value} {base : Heap} {xs : List (Str × Xi)} (X : K.In h) (G : h.Ns mainGlobals mg) (z : xcAll K xs = true) (y : plAll K xs = true) : XsOk P w K mg base xs := by
  have a : ∀ p ∈ xs, p.2.fl = [] ∧ plB K p.1 = true ∧ (p.1 == ("__debug__" : Str)) = false := fun p hp => by
    have q := List.all_eq_true.mp y p hp
    simp only [Bool.and_eq_true, Bool.not_eq_true'] at q
    exact ⟨List.isEmpty_iff.mp q.1, q.2.1, q.2.2⟩
  exact .plain X G z (fun p hp _ => (a p hp).2) (fun p hp n => absurd (a p hp).1 n)
/-- .. where those with fields are told apart -/
def plAllF (K : PySem.W.Frag) (xs : List (Str × Xi)) : Bool := xs.all fun p => !p.2.fl.isEmpty || (plB K p.1 && !(p.1 == ("__debug__" : Str)))
theorem XsOk.plainF {P : Program} {w : World} {K : PySem.W.Frag} {h : Heap} {mg : Str → Option Value} {base : Heap} {xs : List (Str × Xi)} (X : K.In h) (G : h.Ns mainGlobals mg) (z : xcAll K xs = true) (y : plAllF K xs = true)
    (hf : ∀ p ∈ xs, p.2.fl ≠ [] → XcM P w K mg base 3 p.1 p.2.fl) : XsOk P w K mg base xs :=
  .plain X G z (fun p hp e => by
    have q := List.all_eq_true.mp y p hp
    rw [e] at q
    have q : (plB K p.1 && !(p.1 == ("__debug__" : Str))) = true := q
    simpa only [Bool.and_eq_true, Bool.not_eq_true'] using q) hf
end Nb

namespace Nb
open PySem L2 PySem.Spec PyProof.Rows
/-! ### classes of exceptions with an own __init__: B.__init__(self, ..), self.f = p .. -/
section
variable {X : Cx} {e : Expr} {es : List Expr} {ta : L2.TA} {p1 p2 pos : Pos} {x : Str} {B : Addr}
/-- what the class B says of its __init__ -/
structure BaC (K : PySem.W.Frag) (B : Addr) : Prop where
  g : PySem.W.specialIn K (.ref B) "__getattribute__" = some (some (.builtin "type.__getattribute__"))
  t : PySem.W.typeIn K (.ref B) = some (.type "type")
  r : PySem.W.readsIn K B (.type "type") = true
  i : PySem.W.findCls K (.ref B) (.type "type") "__init__" = some (.val (.builtin "ValueError.__init__"))
theorem pe_binit {pl : Sem Bool} (b : BaC X.K B) (hg : Gl X x) (hm : X.mg x = some (.ref B)) (hdb : (x == ("__debug__" : Str)) = false) (ha : PA X (e :: es) ta)
    (hc : eval (.Call (.Attribute (.Name x p1) "__init__" p2) (e :: es) [] pos) X.env = (do
      let ov ← eval (.Name x p1) X.env
      standAt p2.atName
      let (f, first) ← holding [ov] (getMethod ov "__init__" pl)
      callWith pos f first (backTo pos (starEach (e :: es) X.env)) (backToKw pos (keywordEach [] X.env))))
    (he : starEach (e :: es) X.env = (false, eval e X.env) :: starEach es X.env) (hpl : (backTo pos (starEach es X.env)).any (·.1) = false) :
    PE X (.Call (.Attribute (.Name x p1) "__init__" p2) (e :: es) [] pos) (tVeI X.K ta) := by
  refine ⟨fun pins s σ H Q I h => PySem.W.methodCall_KW (ld_glob I hg hm ?_ hdb) hc⟩
  obtain ⟨m, fr⟩ := I.fr
  refine PySem.W.method_of_cls fr I.ok.mod.kin b.g (PySem.W.cls_val fr I.ok.mod.kin b.t b.r b.i (by decide +kernel) ?_)
  show wpAny _ _ (callWith pos (Value.builtin "ValueError.__init__") [] (backTo pos (starEach (e :: es) X.env)) []) _ _ _
  refine callWith_method1 (thn (ha.run pos pins _ σ H _ (I.tok _) h) fun us s1 hh => ?_) he hpl
  obtain ⟨vs, H1, I1, r1, a, C, ws, ev, hl, T, ea, q⟩ := hh
  subst ev
  cases r1 with
  | @cons _ u0 _ ur ra rw' =>
    cases (show u0 = Value.ref a from ra)
    have hlen : ur.length ≤ sizeLine := by
      have e1 := Paired.length rw'
      have e2 : sizeLine = 16777216 := rfl
      omega
    exact oinit_ok T I1 ea hlen fun s' J => ⟨.non, H1, J, rfl, q⟩
end
/-- an exception's class, as it stands in the written part -/
def oexB (K : PySem.W.Frag) (C : Addr) : Bool := match K.lookup C with
  | some ⟨.type "type", _, .cls cd, sl⟩ => (match cd.mro, sl.toList with
    | .ref C' :: bm, [_, _, _, _, some (.builtin n), _] => C' == C && (n == "ValueError.__new__" && (!cd.hasDel && (cd.hasDict && PySem.HandSPX.refsVE bm)))
    | _, _ => false)
  | _ => false
theorem oex_of {K : PySem.W.Frag} {C : Addr} (q : oexB K C = true) : ∃ nm q N bs bm sn sub ab col dd k0 k1 k2 k3 k5, K.lookup C = some (excClassObj nm q C N bs bm true sn sub ab col dd k0 k1 k2 k3 k5 "ValueError.__new__") ∧ PySem.HandSPX.refsVE bm = true := by
  unfold oexB at q
  split at q
  · rename_i dd cd sl ho
    split at q
    · rename_i C' bm k0 k1 k2 k3 n k5 hm hs
      simp only [Bool.and_eq_true, beq_iff_eq, Bool.not_eq_true'] at q
      obtain ⟨rfl, rfl, hdel, hdct, hve⟩ := q
      obtain ⟨nm, bs, mro, ns, qn, hd, sn, sub, ab, col, del⟩ := cd
      dsimp only at hm hdel hdct
      subst hm hdel hdct
      have hsl : sl = #[k0, k1, k2, k3, some (.builtin "ValueError.__new__"), k5] := by
        obtain ⟨l⟩ := sl
        simp only at hs
        rw [hs]
      subst hsl
      exact ⟨nm, qn, ns, bs, bm, sn, sub, ab, col, dd, k0, k1, k2, k3, k5, ho, hve⟩
    · cases q
  · cases q
/-- B.__init__(self, '..'); self.f = p; .. -/
def asgB (N : List Str) (sc : Scope) : List (Str × Nat) → List Stmt → Bool
  | [], [] => true
  | (f, i) :: r, .Assign [.Attribute (.Name s _) f' _] (.Name y _) _ :: r' => decide (f = f') && (decide (N[0]? = some s) && (visB sc s && (okNm s && (decide (N[i]? = some y) && (visB sc y && (okNm y && asgB N sc r r'))))))
  | _, _ => false
def initB (N : List Str) (sc : Scope) (b : Str) (fs : List (Str × Nat)) : List Stmt → Bool
  | .Expr (.Call (.Attribute (.Name x _) m ap) [.Name s _, .Constant (.str _) _ _] [] cp) _ :: r => (ap.endLine == cp.line) && (decide (x = b) && (decide (m = "__init__") && (glB sc x && (okNm x && (decide (N[0]? = some s) && (visB sc s && (okNm s && asgB N sc fs r)))))))
  | _ => false
/-- what self is, while the fields are set -/
def inMk (H0 : Hp) (a C : Addr) (fs : List (Str × V)) (H : Hp) : Prop := match fs with
  | [] => H = H0 ∧ H0 a = some (exo a C none)
  | fs => ∃ dx, H0 dx = none ∧ dx ≠ a ∧ H = upd (upd H0 dx (exd dx fs)) a (exo a C (some dx))
def spI (K : PySem.W.Frag) (C : Addr) (fl : List Str) : Sp := fun vs H Q _ => ∃ a ws, vs = .ref a :: ws ∧ ws.length = fl.length ∧ fl.length ≤ 100 ∧ H a = some (exo a C none) ∧ ∀ H', inMk H a C (fl.zip ws).reverse H' → Q .non H'
section
variable {X : Cx} {C a : Addr}
theorem asg_run (hN : (X.N)[0]? = some s0) (T : OexC X.K C) : ∀ (fs : List (Str × Nat)) (st : List Stmt), asgB X.N X.env.scope fs st = true → (∀ f ∈ fs, PySem.W.findIn X.K (.ref C) f.1 = some none) →
    PSs X st (fun D σ H => ∃ (H0 : Hp) (done : List (Str × V)) (ws : List V), σ[0]? = some (some (.ref a)) ∧ inMk H0 a C done H ∧ done.length + fs.length ≤ 100 ∧ ws.length = fs.length ∧ (∀ (j : Nat) (f : Str × Nat) (w : V), fs[j]? = some f → ws[j]? = some w → σ[f.2]? = some (some w)) ∧
      ∀ H', inMk H0 a C (((fs.map (·.1)).zip ws).reverse ++ done) H' → D.nx σ H')
  | [], [], _, _ => by
    refine PSs.weak pss_nil fun D σ H q => ?_
    obtain ⟨H0, done, ws, _, h1, _, hw, _, q⟩ := q
    exact q H (by rw [List.map_nil, List.zip_nil_left]; exact h1)
  | (f, i) :: fs, s :: st, h, hf => by
    cases s <;> first | (exact absurd h Bool.false_ne_true) | skip
    rename_i ts e' pos
    cases ts with
    | nil => exact absurd h Bool.false_ne_true
    | cons t1 tr =>
    cases tr with
    | cons _ _ => cases t1 <;> first | (exact absurd h Bool.false_ne_true) | (rename_i o _ _; cases o <;> exact absurd h Bool.false_ne_true)
    | nil =>
    cases t1 <;> first | (exact absurd h Bool.false_ne_true) | skip
    rename_i o f' p2
    cases o <;> first | (exact absurd h Bool.false_ne_true) | skip
    rename_i sy p1
    cases e' <;> first | (exact absurd h Bool.false_ne_true) | skip
    rename_i y p3
    have h : (decide (f = f') && (decide (X.N[0]? = some sy) && (visB X.env.scope sy && (okNm sy && (decide (X.N[i]? = some y) && (visB X.env.scope y && (okNm y && asgB X.N X.env.scope fs st))))))) = true := h
    simp only [Bool.and_eq_true, decide_eq_true_eq] at h
    obtain ⟨rfl, h1, h2, h3, h4, h5, h6, h7⟩ := h
    obtain ⟨o1, o2, _⟩ := okNm_of h3
    obtain ⟨o3, o4, _⟩ := okNm_of h6
    refine PSs.weak (pss_cons (ps_ost (pe_var (i := 0) h1 (visB_of h2) o1 o2) (pe_var (i := i) h4 (visB_of h5) o3 o4) rfl) (asg_run hN T fs st h7 fun g hg => hf g (List.mem_cons_of_mem _ hg))) fun D σ H q => ?_
    obtain ⟨H0, done, ws, hs, hm, hl, hw, hp, q⟩ := q
    cases ws with
    | nil => cases hw
    | cons w ws =>
    have hyw : σ[i]? = some (some w) := hp 0 (f, i) w rfl rfl
    have hl : done.length + (fs.length + 1) ≤ 100 := hl
    have hw : ws.length = fs.length := by simpa using hw
    have hp' : ∀ (j : Nat) (g : Str × Nat) (v : V), fs[j]? = some g → ws[j]? = some v → σ[g.2]? = some (some v) := fun j g v h1 h2 => hp (j + 1) g v h1 h2
    have el : ∀ dn : List (Str × V), (((f, i) :: fs).map (·.1) |>.zip (w :: ws)).reverse ++ dn = ((fs.map (·.1)).zip ws).reverse ++ ((f, w) :: dn) := fun dn => by
      rw [List.map_cons, List.zip_cons_cons, List.reverse_cons, List.append_assoc]
      rfl
    refine ⟨w, hyw, .ref a, hs, a, C, rfl, T, hf _ List.mem_cons_self, ?_⟩
    cases done with
    | nil =>
      obtain ⟨rfl, e0⟩ := hm
      refine .inl ⟨e0, fun dx n ne => ⟨H, [(f, w)], ws, hs, ⟨dx, n, ne, rfl⟩, by have hl : 0 + (fs.length + 1) ≤ 100 := hl; show 1 + fs.length ≤ 100; omega, hw, hp', fun H' hH => q H' (by rw [el]; exact hH)⟩⟩
    | cons d ds =>
      obtain ⟨dx, hn, ne, rfl⟩ := hm
      have hl : ds.length + 1 + (fs.length + 1) ≤ 100 := hl
      refine .inr ⟨dx, d :: ds, upd_same, by rw [upd_ne ne, upd_same], by show ds.length + 1 ≤ 900; omega, H0, (f, w) :: d :: ds, ws, hs, ⟨dx, hn, ne, ?_⟩, by show ds.length + 1 + 1 + fs.length ≤ 100; omega, hw, hp', fun H' hH => q H' (by rw [el]; exact hH)⟩
      funext b
      by_cases hb : b = dx
      · subst hb
        rw [upd_same, upd_ne ne, upd_same]
      · rw [upd_ne hb]
        by_cases hc : b = a
        · subst hc
          rw [upd_same, upd_same]
        · rw [upd_ne hc, upd_ne hc, upd_ne hb, upd_ne hb]
  | [], _ :: _, h, _ => absurd h Bool.false_ne_true
  | _ :: _, [], h, _ => absurd h Bool.false_ne_true
theorem init_run {B : Addr} {bn : Str} {fs : List (Str × Nat)} {st : List Stmt} (b : BaC X.K B) (hm : X.mg bn = some (.ref B)) (T : OexC X.K C) (h : initB X.N X.env.scope bn fs st = true) (hf : ∀ f ∈ fs, PySem.W.findIn X.K (.ref C) f.1 = some none) :
    PSs X st (fun D σ H => ∃ (ws : List V), σ[0]? = some (some (.ref a)) ∧ H a = some (exo a C none) ∧ fs.length ≤ 100 ∧ ws.length = fs.length ∧ (∀ (j : Nat) (f : Str × Nat) (w : V), fs[j]? = some f → ws[j]? = some w → σ[f.2]? = some (some w)) ∧
      ∀ H', inMk H a C ((fs.map (·.1)).zip ws).reverse H' → D.nx σ H') := by
  unfold initB at h
  split at h
  · rename_i x q1 m q2 s q3 str k q4 q5 q6 r
    simp only [Bool.and_eq_true, decide_eq_true_eq] at h
    obtain ⟨hL, rfl, rfl, h1, h2, h3, h4, h5, h6⟩ := h
    obtain ⟨o1, o2, _⟩ := okNm_of h5
    refine PSs.weak (pss_cons (ps_expr (pe_binit b (glB_of h1) hm (okNm_of h2).1 (pa_cons (pe_var (i := 0) h3 (visB_of h4) o1 o2) (pa_cons pe_str pa_nil rfl) rfl) (by
      show (do let ov ← eval (.Name x q1) X.env; standAt q2.atName; methodCall (.Name x q1) "__init__" q2 q5 X.env ov 2 (backTo q5 (starEach [.Name s q3, .Constant (.str str) k q4] X.env)) (backToKw q5 (keywordEach [] X.env))) = _
      unfold methodCall methodCallPos
      rw [hL]
      rfl) rfl rfl) rfl) (asg_run (a := a) h3 T fs r h6 hf)) fun D σ H q => ?_
    obtain ⟨ws, hs, e0, hl, hw, hp, q⟩ := q
    exact ⟨.ref a, hs, a, C, _, rfl, by show 1 ≤ 1000; decide, T, e0, H, [], ws, hs, ⟨rfl, e0⟩, by show 0 + fs.length ≤ 100; omega, hw, hp, fun H' hH => q H' (by rw [List.append_nil] at hH; exact hH)⟩
  · cases h
end
/-- nothing leaves it -/
def CX0 : CXT := fun _ _ _ _ _ _ => False
theorem init_fn {P : Program} {w : World} {K : PySem.W.Frag} {mg : Str → Option Value} {base : Heap} {f C B : Addr} {bn name qual : Str} {params : Arguments} {body : List Stmt} {scope : Scope} {dV kV doc pm cdv ct oc : Value} {an od : Option Addr} {osl : Array (Option Value)} {N ps : List Str} {fs : List (Str × Nat)}
    (lk : K.lookup f = some ⟨oc, od, .func (PySem.W.fnOf name qual params body scope dV kV doc pm an cdv ct), osl⟩) (hcd : PySem.W.codeIn K cdv qual = true) (S : FnScope N ps scope) (hp : ps.length = fs.length + 1) (hfs : ∀ j g, fs[j]? = some g → g.2 = j + 1)
    (b : BaC K B) (hm : mg bn = some (.ref B)) (T : OexC K C) (hI : initB N scope bn fs body = true) (hf : ∀ g ∈ fs, PySem.W.findIn K (.ref C) g.1 = some none) :
    FnOk P w K mg base CX0 1 f (PySem.W.fnOf name qual params body scope dV kV doc pm an cdv ct) ps (spI K C (fs.map (·.1))) := by
  refine fn_of lk hcd S (fun vs H Q E h => ?_) fun A outer s H vs Q E hr h => ?_
  · obtain ⟨a, ws, rfl, hw, _⟩ := h
    rw [List.length_map] at hw
    rw [List.length_cons, hw, hp]
  · obtain ⟨a, ws, rfl, hw, hn, e0, q⟩ := h
    rw [List.length_map] at hw hn
    refine ⟨_, init_run (X := cxOf CX0 P w K mg base N qual scope f cdv A outer s H E) (a := a) b hm T hI hf, ws, rfl, e0, hn, hw, fun j g v h1 h2 => ?_, q⟩
    rw [hfs j g h1]
    show ((V.ref a :: ws).map some ++ _)[j + 1]? = _
    rw [List.map_cons, List.cons_append, List.getElem?_cons_succ, List.getElem?_append_left (by rw [List.length_map]; exact (List.getElem?_eq_some_iff.mp h2).1), List.getElem?_map, h2]
    rfl
theorem any_of {pos : Pos} {env : Env} : ∀ {es : List Expr}, (∀ e ∈ es, ∀ x p, e ≠ .Starred x p) → (backTo pos (starEach es env)).any (·.1) = false
  | [], _ => rfl
  | e :: es, h => by
    rw [star_cons e es env (h e List.mem_cons_self)]
    show (false || (backTo pos (starEach es env)).any (·.1)) = false
    rw [any_of fun x hx => h x (List.mem_cons_of_mem _ hx)]
    rfl
theorem pa_up {X : Cx} {es : List Expr} {ta : L2.TA} (h : PA X es ta) : PA X es (fun σ H Q => ∃ P, ta σ H P ∧ ∀ vs H1, P vs H1 → Q vs H1) :=
  ⟨fun pos pins s σ H Q I ⟨P, hp, k⟩ => wpAny_mono (h.run pos pins s σ H P I hp) (fun us s' ⟨vs, H', I', r, q⟩ => ⟨vs, H', I', r, k _ _ q⟩) fun _ _ x => x⟩
/-- an exception of such a class is made -/
theorem xcm_init {P : Program} {w : World} {K : PySem.W.Frag} {mg : Str → Option Value} {base : Heap} {cn : Str} {fl ps : List Str} {C fI : Addr} {fd : FuncData} (hm : mg cn = some (.ref C)) (hdb : (cn == ("__debug__" : Str)) = false) (h0 : fl ≠ [])
    (T : OexC K C) (iC : PySem.W.findIn K (.ref C) "__init__" = some (some (.ref fI))) (tI : PySem.W.typeIn K (.ref fI) = some (.type "function")) (F : FnOk P w K mg base CX0 1 fI fd ps (spI K C fl)) (hb : Binds K fd ps []) (hn : fl.length ≤ 100) : XcM P w K mg base 3 cn fl := by
  refine ⟨fun X e1 e2 e3 e4 e5 hr hgd hg es ta p pos ha hl hst => ?_⟩
  subst e1 e2 e3 e4 e5
  cases es with
  | nil =>
    cases fl with
    | nil => exact absurd rfl h0
    | cons _ _ => cases hl
  | cons e es =>
  intro pins s σ H Q I h
  refine (pmk_oex (ds := []) (dvs := []) T iC tI (F.mono (show 1 ≤ 2 by decide)) hr hb .nil (fun _ _ _ _ _ _ _ z => z.elim) hg hm (pa_up ha) hdb (star_cons _ _ _ (hst e List.mem_cons_self)) (any_of fun x hx => hst x (List.mem_cons_of_mem _ hx))) pins s σ H Q I ?_
  refine ⟨_, h, fun vs H1 hh => ?_⟩
  obtain ⟨hv, hv2, c, hc, q⟩ := hh
  rw [hm] at hc
  have ec : C = c := by
    have := Option.some.inj hc
    injection this
  subst ec
  refine ⟨hv2, fun a ha1 => ⟨a, vs, by rw [List.append_nil], hv, hn, upd_same, fun H' hH => ⟨rfl, ?_⟩⟩⟩
  rcases q with ⟨z, _⟩ | ⟨_, q⟩
  · exact absurd z h0
  · have hne : (fl.zip vs).reverse ≠ [] := by
      cases fl with
      | nil => exact absurd rfl h0
      | cons f fl =>
        cases vs with
        | nil => cases hv
        | cons v vs => simp
    generalize (fl.zip vs).reverse = fs at *
    cases fs with
    | nil => exact absurd rfl hne
    | cons d ds =>
      obtain ⟨dx, n1, ne, rfl⟩ := hH
      have n2 : H1 dx = none := by rw [← n1, upd_ne ne]
      refine ⟨dx, d :: ds, upd_same, by rw [upd_ne ne, upd_same], n2, ?_⟩
      have := q dx n2
      have e : upd (del (upd (upd (upd H1 a (exo a C none)) dx (exd dx (d :: ds))) a (exo a C (some dx))) a) dx (.xd (d :: ds)) = upd H1 dx (.xd (d :: ds)) := by
        funext b
        by_cases hb : b = dx
        · rw [hb, upd_same, upd_same]
        · rw [upd_ne hb, upd_ne hb]
          by_cases hc : b = a
          · rw [hc, del_same, ha1]
          · rw [del_ne hc, upd_ne hc, upd_ne hb, upd_ne hc]
      rw [e]
      exact this
/-! ### looked up -/
def oxB (K : PySem.W.Frag) (C : Addr) : Bool := oexB K C && (decide (PySem.W.findIn K (.ref C) "__setattr__" = some (some (.builtin "object.__setattr__"))) && (decide (PySem.W.subIn K (.ref C) (.type "BaseException") = some true) && (decide (PySem.W.typeIn K (.ref C) = some (.type "type")) && PySem.W.keepIn K (.ref C))))
theorem ox_of {K : PySem.W.Frag} {C : Addr} (h : oxB K C = true) : OexC K C := by
  unfold oxB at h
  simp only [Bool.and_eq_true, decide_eq_true_eq] at h
  obtain ⟨h1, h2, h3, h4, h5⟩ := h
  exact ⟨oex_of h1, h2, h3, h4, h5⟩
def baIs (K : PySem.W.Frag) (B : Addr) : Bool := match PySem.W.findCls K (.ref B) (.type "type") "__init__" with
  | some (.val (.builtin n)) => n == "ValueError.__init__"
  | _ => false
def baB (K : PySem.W.Frag) (B : Addr) : Bool := decide (PySem.W.specialIn K (.ref B) "__getattribute__" = some (some (.builtin "type.__getattribute__"))) && (decide (PySem.W.typeIn K (.ref B) = some (.type "type")) && (PySem.W.readsIn K B (.type "type") && baIs K B))
theorem ba_of {K : PySem.W.Frag} {B : Addr} (h : baB K B = true) : BaC K B := by
  unfold baB at h
  simp only [Bool.and_eq_true, decide_eq_true_eq] at h
  obtain ⟨h1, h2, h3, h4⟩ := h
  refine ⟨h1, h2, h3, ?_⟩
  unfold baIs at h4
  split at h4
  · rename_i n hn
    rw [hn, beq_iff_eq.mp h4]
  · cases h4
/-- the class cn with the base bn, whose __init__ stands at fI -/
def inB (K : PySem.W.Frag) (cn bn : Str) (fI : Addr) (fl : List Str) : Bool := match kad K cn, kad K bn with
  | some C, some B => oxB K C && (baB K B && (decide (PySem.W.findIn K (.ref C) "__init__" = some (some (.ref fI))) && (decide (PySem.W.typeIn K (.ref fI) = some (.type "function")) && fl.all fun f => decide (PySem.W.findIn K (.ref C) f = some none))))
  | _, _ => false
theorem xcm_of {P : Program} {w : World} {K : PySem.W.Frag} {h : Heap} {mg : Str → Option Value} {base : Heap} {cn bn : Str} {fI : Addr} {name qual : Str} {params : Arguments} {body : List Stmt} {scope : Scope} {dV kV doc pm cdv ct oc : Value} {an od : Option Addr} {osl : Array (Option Value)} {N ps : List Str} {fs : List (Str × Nat)}
    (X : K.In h) (G : h.Ns mainGlobals mg) (z : inB K cn bn fI (fs.map (·.1)) = true) (lk : K.lookup fI = some ⟨oc, od, .func (PySem.W.fnOf name qual params body scope dV kV doc pm an cdv ct), osl⟩) (hcd : PySem.W.codeIn K cdv qual = true) (S : FnScope N ps scope) (hI : initB N scope bn fs body = true)
    (hp : ps.length = fs.length + 1) (hfs : ∀ j g, fs[j]? = some g → g.2 = j + 1) (h0 : fs ≠ []) (hn : fs.length ≤ 100) (hdb : (cn == ("__debug__" : Str)) = false)
    (hb : ∀ us : List Value, us.length = ps.length → bindArgs (PySem.W.fnOf name qual params body scope dV kV doc pm an cdv ct) ⟨us, []⟩ = pure (ps.zip us)) : XcM P w K mg base 3 cn (fs.map (·.1)) := by
  unfold inB at z
  split at z
  · rename_i C B hC hB
    simp only [Bool.and_eq_true, decide_eq_true_eq] at z
    obtain ⟨z1, z2, z3, z4, z5⟩ := z
    have hf : ∀ g ∈ fs, PySem.W.findIn K (.ref C) g.1 = some none := fun g hg => of_decide_eq_true (List.all_eq_true.mp z5 g.1 (List.mem_map.mpr ⟨g, hg, rfl⟩))
    refine xcm_init (kad_mg X G hC) hdb (fun y => h0 (List.map_eq_nil_iff.mp y)) (ox_of z1) z3 z4 (init_fn lk hcd S hp hfs (ba_of z2) (kad_mg X G hB) (ox_of z1) hI hf) (.all hb) (by rw [List.length_map]; exact hn)
  · cases z
end Nb

namespace Nb
open PySem L2 PySem.Spec PyProof.Rows
/-! ### a class of exceptions over Exception with one field: Exception.__init__(self, p), self.f = p -/
structure OexE (K : PySem.W.Frag) (C : Addr) : Prop where
  cls : ∃ nm q N bs sn sub ab col dd k0 k1 k2 k3 k5, K.lookup C = some (excClassObj nm q C N bs PySem.ESX.exTail true sn sub ab col dd k0 k1 k2 k3 k5 "Exception.__new__")
  sa : PySem.W.findIn K (.ref C) "__setattr__" = some (some (.builtin "object.__setattr__"))
  ex : PySem.W.subIn K (.ref C) (.type "BaseException") = some true
  ty : PySem.W.typeIn K (.ref C) = some (.type "type")
  kp : PySem.W.keepIn K (.ref C) = true
theorem typ_EX : typeOf (.type "Exception") = pure (.type "type") := by kernel_rfl
section
variable {X : Cx} {pins : List (Addr × Obj)} {σ : L2.St} {H : Hp} {t : Shared} {a C : Addr} {f : Str} {y : V} {u : Value} {E : Value → Shared → Prop} {A : Around}
theorem est_new {Q : Unit → Shared → Prop} (T : OexE X.K C) (I : L2.Inv X pins σ H t) (ea : H a = some (exo a C none)) (hno : PySem.W.findIn X.K (.ref C) f = some none) (ry : RelV y u)
    (hq : ∀ dx t', H dx = none → dx ≠ a → L2.Inv X pins σ (upd (upd H dx (exd dx [(f, y)])) a (exo a C (some dx))) t' → Q () t') : wpAny (model X.prog X.w) A (setAttr (.ref a) f u) Q E t := by
  obtain ⟨nm, q, N, bs, sn, sub, ab, col, dd, k0, k1, k2, k3, k5, hC⟩ := T.cls
  have hcl : PySem.W.clsIn X.K C = some ⟨nm, bs, .ref C :: PySem.ESX.exTail, N, q, true, sn, sub, ab, col, false⟩ := by unfold PySem.W.clsIn; rw [hC] <;> rfl
  obtain ⟨t1, ho⟩ := exo_at I.hok ea
  obtain ⟨hh, g, d, tk, os⟩ := t
  refine PySem.W.set_plain I.kIn (od := none) (ox := ⟨.ref C, none, .fields #[.ref t1, .none, .none, .none, .bool false, .none], #[]⟩) ⟨ho, rfl, rfl, trivial⟩ T.sa ?_
  refine PySem.ESX.osa_new I.kIn ho hcl rfl rfl hno fun h2 tk2 dx kp dn dne hx hn => ?_
  have nH : H dx = none := I.hok.fresh dn
  have n1 : ∀ {b : Addr}, H b = none → b ≠ a := fun {b} n z => by
    rw [z, ea] at n
    exact nomatch n
  have n2 : ∀ {b : Addr} {o : Obj}, hh.get? b = some o → b ≠ dx := fun {b o} z => Nat.ne_of_lt (Nat.lt_of_lt_of_le (Heap.lt_size z) dn)
  have big : ∀ {b : Addr} {o : HO}, H b = some o → o ≠ exo a C none → upd (upd H dx (exd dx [(f, y)])) a (exo a C (some dx)) b = some o := fun {b o} e n => by
    rw [upd_ne (fun z => n (by rw [z, ea] at e; exact (Option.some.inj e).symm)), upd_ne (ne_of_none e nH)]
    exact e
  have U : Un X.fs [] H (upd (upd H dx (exd dx [(f, y)])) a (exo a C (some dx))) hh h2 := ⟨fun b o z n _ _ => kp b o (n1 n) z, fun b o z n _ _ => ⟨_, kp b o (n1 n) z⟩, fun b o z n _ => by rw [upd_ne (n1 n), upd_ne (n2 z)]; exact n, fun b o z _ => by
      by_cases hb : b = a
      · exact ⟨_, by rw [hb]; exact hx⟩
      · exact ⟨_, kp b o hb z⟩, fun b xs e => big e (Ne.symm exo_tup), fun b o v e => big e (Ne.symm exo_frz), fun b ps e => ⟨#[], by rw [big e (Ne.symm exo_tbl)]; simp⟩⟩
  refine hq dx _ nH dne (I.un (t' := tk2) U fun b o e => ?_)
  by_cases hb : b = a
  · rw [hb, upd_same] at e
    cases e
    rw [hb]
    exact exo_ok hx
  · rw [upd_ne hb] at e
    by_cases hd : b = dx
    · rw [hd, upd_same] at e
      cases e
      rw [hd]
      exact exd_ok hn (relO_put (fs := []) ry fun g => True.intro)
    · rw [upd_ne hd] at e
      refine (I.hok b o e).stay (fun c v hc z => kp c v ?_ z) (fun c hc => big hc (Ne.symm exo_own)) fun c xs hc => big hc (Ne.symm exo_tup)
      rcases hc with rfl | hc
      · exact hb
      · exact fun w => exo_own (by rw [w, ea] at hc; exact Option.some.inj hc)
theorem einit_ok {us : List Value} {Q : Value → Shared → Prop} (T : OexE X.K C) (I : L2.Inv X pins σ H t) (ea : H a = some (exo a C none)) (hl : us.length ≤ sizeLine) (hq : ∀ t', L2.Inv X pins σ H t' → Q .none t') :
    wpAny (model X.prog X.w) A (call (.builtin "Exception.__init__") (.ref a :: us)) Q E t := by
  obtain ⟨nm, q, N, bs, sn, sub, ab, col, dd, k0, k1, k2, k3, k5, hC⟩ := T.cls
  obtain ⟨t1, ho⟩ := exo_at I.hok ea
  obtain ⟨hh, g, d, tk, os⟩ := t
  refine wpAny_call (PySem.HandSPX.init_base PySem.F.excBase_Exception (fun _ => rfl) (I.kIn _ _ hC) ho hl fun h2 t2 kp hx => ?_)
  have J := I.write (t' := tk) (x := a) (e := a) (o := exo a C none) (by rw [ea]; trivial) (.inl rfl) kp ⟨_, hx⟩ (exo_ok hx)
  have e1 : upd H a (exo a C none) = H := funext fun b => by
    by_cases hb : b = a
    · rw [hb, upd_same, ea]
    · exact upd_ne hb
  rw [e1] at J
  exact hq _ J
/-- Exception.__init__(self, p) -/
def tExI (K : PySem.W.Frag) (ta : L2.TA) : TE := fun σ H Q => ta σ H fun vs H1 => ∃ (a C : Addr) (ws : List V), vs = .ref a :: ws ∧ ws.length ≤ 1000 ∧ OexE K C ∧ H1 a = some (exo a C none) ∧ Q .non H1
theorem pe_exinit {pl : Sem Bool} {ta : L2.TA} {e : Expr} {es : List Expr} {p1 p2 pos : Pos} (hg : Gl X "Exception") (hm : X.mg "Exception" = none) (vV : PySem.W.findCls X.K (.type "Exception") (.type "type") "__init__" = some (.val (.builtin "Exception.__init__"))) (ha : PA X (e :: es) ta)
    (hc : eval (.Call (.Attribute (.Name "Exception" p1) "__init__" p2) (e :: es) [] pos) X.env = (do
      let ov ← eval (.Name "Exception" p1) X.env
      standAt p2.atName
      let (f, first) ← holding [ov] (getMethod ov "__init__" pl)
      callWith pos f first (backTo pos (starEach (e :: es) X.env)) (backToKw pos (keywordEach [] X.env))))
    (he : starEach (e :: es) X.env = (false, eval e X.env) :: starEach es X.env) (hpl : (backTo pos (starEach es X.env)).any (·.1) = false) :
    PE X (.Call (.Attribute (.Name "Exception" p1) "__init__" p2) (e :: es) [] pos) (tExI X.K ta) := by
  refine ⟨fun pins s σ H Q I h => PySem.W.methodCall_KW (ld_blt I hg hm PyProof.Rows.Boot.«Exception» ?_ (by decide) (by decide)) hc⟩
  obtain ⟨m, fr⟩ := I.fr
  refine PySem.W.method_type fr I.ok.mod.kin typ_EX (by decide +kernel) vV (by decide +kernel) ?_
  show wpAny _ _ (callWith pos (Value.builtin "Exception.__init__") [] (backTo pos (starEach (e :: es) X.env)) []) _ _ _
  refine callWith_method1 (thn (ha.run pos pins _ σ H _ (I.tok _) h) fun us s1 hh => ?_) he hpl
  obtain ⟨vs, H1, I1, r1, a, C, ws, ev, hl, T, ea, q⟩ := hh
  subst ev
  cases r1 with
  | @cons _ u0 _ ur ra rw' =>
    cases (show u0 = Value.ref a from ra)
    have hlen : ur.length ≤ sizeLine := by
      have e1 := Paired.length rw'
      have e2 : sizeLine = 16777216 := rfl
      omega
    exact einit_ok T I1 ea hlen fun t' J => ⟨.non, H1, J, rfl, q⟩
def tOse (K : PySem.W.Frag) (f : Str) (to te : TE) : TS := fun D σ H => te σ H fun y H1 => to σ H1 fun x H2 => ∃ a C : Addr, x = .ref a ∧ OexE K C ∧ PySem.W.findIn K (.ref C) f = some none ∧
  H2 a = some (exo a C none) ∧ ∀ dx, H2 dx = none → dx ≠ a → D.nx σ (upd (upd H2 dx (exd dx [(f, y)])) a (exo a C (some dx)))
theorem ps_ose {o e : Expr} {to te : TE} {p' pos : Pos} (ho : PE X o to) (he : PE X e te) (hs : swapsWith e (some (.Attribute o f p')) pos.line X.env = pure false) : PS X (.Assign [.Attribute o f p'] e pos) (tOse X.K f to te) :=
  ⟨fun pins s σ H D I h => plainObj_wpAny_Assign_Attribute (thn (he.run pins s σ H _ I h) fun v s1 ⟨y, H1, I1, r1, q1⟩ => thn (ho.run pins s1 σ H1 _ I1 q1) fun u s2 ⟨x, H2, I2, r2, a, C, ex, T, hno, ea, q⟩ => by
    subst ex
    cases (show u = Value.ref a from r2)
    exact est_new T I2 ea hno r1 fun dx t' n ne J => ⟨σ, _, J, q dx n ne⟩) hs⟩
end
/-- Exception.__init__(self, p); self.f = p -/
def initE (N : List Str) (sc : Scope) (f : Str) : List Stmt → Bool
  | [.Expr (.Call (.Attribute (.Name x _) m ap) [.Name s _, .Name y _] [] cp) _, .Assign [.Attribute (.Name s2 _) f' _] (.Name y2 _) _] => (ap.endLine == cp.line) && (decide (x = "Exception") && (decide (m = "__init__") && (glB sc x && (decide (N[0]? = some s) && (visB sc s && (okNm s && (decide (N[1]? = some y) && (visB sc y && (okNm y && (decide (s2 = s) && (decide (y2 = y) && decide (f' = f))))))))))))
  | _ => false
section
variable {X : Cx} {C a : Addr}
theorem initE_run {f : Str} {st : List Stmt} (hm : X.mg "Exception" = none) (vV : PySem.W.findCls X.K (.type "Exception") (.type "type") "__init__" = some (.val (.builtin "Exception.__init__"))) (T : OexE X.K C) (h : initE X.N X.env.scope f st = true) (hf : PySem.W.findIn X.K (.ref C) f = some none) :
    PSs X st (fun D σ H => ∃ v, σ[0]? = some (some (.ref a)) ∧ σ[1]? = some (some v) ∧ H a = some (exo a C none) ∧ ∀ dx, H dx = none → dx ≠ a → D.nx σ (upd (upd H dx (exd dx [(f, v)])) a (exo a C (some dx)))) := by
  unfold initE at h
  split at h
  · rename_i x q1 m q2 s q3 y q4 q5 q6 s2 q7 f' q8 y2 q9 q10
    simp only [Bool.and_eq_true, decide_eq_true_eq] at h
    obtain ⟨hL, rfl, rfl, h1, h3, h4, h5, h6, h7, h8, rfl, rfl, rfl⟩ := h
    obtain ⟨o1, o2, _⟩ := okNm_of h5
    obtain ⟨o3, o4, _⟩ := okNm_of h8
    refine PSs.weak (pss_cons (ps_expr (pe_exinit (glB_of h1) hm vV (pa_cons (pe_var (i := 0) h3 (visB_of h4) o1 o2) (pa_cons (pe_var (i := 1) h6 (visB_of h7) o3 o4) pa_nil rfl) rfl) (by
      show (do let ov ← eval (.Name "Exception" q1) X.env; standAt q2.atName; methodCall (.Name "Exception" q1) "__init__" q2 q5 X.env ov 2 (backTo q5 (starEach [.Name s2 q3, .Name y2 q4] X.env)) (backToKw q5 (keywordEach [] X.env))) = _
      unfold methodCall methodCallPos
      rw [hL]
      rfl) rfl rfl) rfl) (pss_cons (ps_ose (pe_var (i := 0) h3 (visB_of h4) o1 o2) (pe_var (i := 1) h6 (visB_of h7) o3 o4) rfl) pss_nil)) fun D σ H q => ?_
    obtain ⟨v, hs, hv, e0, q⟩ := q
    exact ⟨.ref a, hs, v, hv, a, C, [v], rfl, by show 1 ≤ 1000; decide, T, e0, v, hv, .ref a, hs, a, C, rfl, T, hf, e0, fun dx n ne => q dx n ne⟩
  · cases h
end
def spE (C : Addr) (f : Str) : Sp := fun vs H Q _ => ∃ a v, vs = [.ref a, v] ∧ H a = some (exo a C none) ∧ ∀ dx, H dx = none → dx ≠ a → Q .non (upd (upd H dx (exd dx [(f, v)])) a (exo a C (some dx)))
theorem xcmE_init {P : Program} {w : World} {K : PySem.W.Frag} {mg : Str → Option Value} {base : Heap} {cn f : Str} {ps : List Str} {C fI : Addr} {fd : FuncData} (hm : mg cn = some (.ref C)) (hdb : (cn == ("__debug__" : Str)) = false)
    (T : OexE K C) (iC : PySem.W.findIn K (.ref C) "__init__" = some (some (.ref fI))) (tI : PySem.W.typeIn K (.ref fI) = some (.type "function")) (F : FnOk P w K mg base CX0 1 fI fd ps (spE C f)) (hb : Binds K fd ps []) : XcM P w K mg base 3 cn [f] := by
  refine ⟨fun X e1 e2 e3 e4 e5 hr hgd hg es ta p pos ha hl hst => ?_⟩
  subst e1 e2 e3 e4 e5
  cases es with
  | nil => cases hl
  | cons e es =>
  intro pins s σ H Q I h
  obtain ⟨nm, q, N, bs, sn, sub, ab, col, dd, k0, k1, k2, k3, k5, hC⟩ := T.cls
  refine wpAny_Call_Name_kw (ld_glob I hg hm ?_ hdb)
  refine PySem.W.callWith_K (h₀ := X.base) I.ok.mod.kin T.kp (thn (ha.run pos pins s σ H _ I h) fun us s1 ⟨vs, H1, I1, r1, q1⟩ => ⟨I1.kIn, ?_⟩) (star_cons _ _ _ (hst e List.mem_cons_self)) (any_of fun x hx => hst x (List.mem_cons_of_mem _ hx))
  obtain ⟨hv, _, c, hc, q1⟩ := q1
  rw [hm] at hc
  have ec : C = c := by
    have := Option.some.inj hc
    injection this
  subst ec
  obtain ⟨v, rfl⟩ : ∃ v, vs = [v] := List.length_eq_one_iff.mp hv
  have q1 : ∀ d, H1 d = none → Q (.ref C) (some d) (upd H1 d (.xd [(f, v)])) := by
    rcases q1 with ⟨z, _⟩ | ⟨_, q1⟩
    · cases z
    · exact q1
  obtain ⟨u, rfl, ru⟩ := vals1 r1
  show wpAny _ _ (call (.ref C) [u]) _ _ _
  obtain ⟨hp, g, dr, tk, os⟩ := s1
  have up : hp.objs.size ≤ hp.objs.size + 1 := Nat.le_succ _
  have hn : H1 (hp.objs.size + 1) = none := I1.hok.fresh up
  have kk : ∀ b o, hp.get? b = some o → ((hp.push (PySem.W.kdv_tup [u])).push (PySem.HandSPX.excO C hp.objs.size)).get? b = some o := fun b o e => Heap.get?_push_of_some _ (Heap.get?_push_of_some _ e)
  have hget : ((hp.push (PySem.W.kdv_tup [u])).push (PySem.HandSPX.excO C hp.objs.size)).get? (hp.objs.size + 1) = some (PySem.HandSPX.excO C hp.objs.size) := by heap_get
  have I2 : L2.Inv X pins σ (upd H1 (hp.objs.size + 1) (exo (hp.objs.size + 1) C none)) ⟨(hp.push (PySem.W.kdv_tup [u])).push (PySem.HandSPX.excO C hp.objs.size), g, dr, tk, os⟩ :=
    I1.laid (t' := tk) (a := hp.objs.size + 1) (o := exo (hp.objs.size + 1) C none) kk up (exo_ok hget)
  have r2 : Vals [V.ref (hp.objs.size + 1), v] [Value.ref (hp.objs.size + 1), u] := .cons rfl (.cons ru .nil)
  have hq : spE C f [V.ref (hp.objs.size + 1), v] (upd H1 (hp.objs.size + 1) (exo (hp.objs.size + 1) C none)) (fun w2 H2 => w2 = .non ∧ ∃ (d : Addr) (fs : List (Str × V)), H2 (hp.objs.size + 1) = some (exo (hp.objs.size + 1) C (some d)) ∧ H2 d = some (exd d fs) ∧ H1 d = none ∧ Q (.ref C) (some d) (upd (del H2 (hp.objs.size + 1)) d (.xd fs))) (fun _ _ _ => False) := by
    refine ⟨_, v, rfl, upd_same, fun dx n ne => ⟨rfl, dx, [(f, v)], upd_same, by rw [upd_ne ne, upd_same], by rw [upd_ne ne] at n; exact n, ?_⟩⟩
    have n2 : H1 dx = none := by rw [upd_ne ne] at n; exact n
    have eq : upd (del (upd (upd (upd H1 (hp.objs.size + 1) (exo (hp.objs.size + 1) C none)) dx (exd dx [(f, v)])) (hp.objs.size + 1) (exo (hp.objs.size + 1) C (some dx))) (hp.objs.size + 1)) dx (.xd [(f, v)]) = upd H1 dx (.xd [(f, v)]) := by
      funext b
      by_cases hb : b = dx
      · rw [hb, upd_same, upd_same]
      · rw [upd_ne hb, upd_ne hb]
        by_cases hc : b = hp.objs.size + 1
        · rw [hc, del_same, hn]
        · rw [del_ne hc, upd_ne hc, upd_ne hb, upd_ne hc]
    rw [eq]
    exact q1 dx n2
  have hlu : (Value.ref (hp.objs.size + 1) :: [u] ++ []).length = ps.length := by
    rw [← F.len _ _ _ _ hq]
    rfl
  have hb' := hb _ (Value.ref (hp.objs.size + 1) :: [u]) I2.kIn hlu
  rw [List.append_nil] at hb'
  refine wpAny_call (PySem.HandSPX.call_own PySem.F.excBase_Exception (fun _ => rfl) (I1.kIn _ _ hC) (PySem.W.looks_findIn I1.kIn iC) (fun self => PySem.W.bind_fn I1.kIn self tI) (by show 1 ≤ sizeLine; decide)
    (codeAny_mono (F.run _ X.stack _ _ ⟨Value.ref (hp.objs.size + 1) :: [u], []⟩ (Value.ref (hp.objs.size + 1) :: [u]) _ _ (fun _ _ _ => False) ((hr.mono (by decide : 2 ≤ 3)).make C [u] []) (I2.env0.make C [u] []) hb' r2 hq) fun z t' hz => ?_))
  cases z with
  | error er => exact hz.elim
  | ok fl =>
    cases fl with
    | ret u2 =>
      obtain ⟨w2, H2, os2, bare2, un2, hok2, rv, rfl, d, fs, ea, ed, hd1, q2⟩ := hz
      obtain ⟨h2, g2, d2, t2, os'⟩ := t'
      exact ⟨rv, mk_end (raises_own T.ex T.ty) I1 up kk un2 hok2 os2 bare2 ea ed hd1 q2⟩
    | next => exact False.elim hz
    | brk => exact False.elim hz
    | cont => exact False.elim hz
/-! ### looked up -/
def oeB (K : PySem.W.Frag) (C : Addr) : Bool := match K.lookup C with
  | some ⟨.type "type", _, .cls cd, sl⟩ => (match cd.mro, sl.toList with
    | .ref C' :: bm, [_, _, _, _, some (.builtin n), _] => C' == C && (n == "Exception.__new__" && (!cd.hasDel && (cd.hasDict && bm == PySem.ESX.exTail)))
    | _, _ => false)
  | _ => false
theorem oe_of {K : PySem.W.Frag} {C : Addr} (q : oeB K C = true) : ∃ nm q N bs sn sub ab col dd k0 k1 k2 k3 k5, K.lookup C = some (excClassObj nm q C N bs PySem.ESX.exTail true sn sub ab col dd k0 k1 k2 k3 k5 "Exception.__new__") := by
  unfold oeB at q
  split at q
  · rename_i dd cd sl ho
    split at q
    · rename_i C' bm k0 k1 k2 k3 n k5 hm hs
      simp only [Bool.and_eq_true, beq_iff_eq, Bool.not_eq_true'] at q
      obtain ⟨rfl, rfl, hdel, hdct, rfl⟩ := q
      obtain ⟨nm, bs, mro, ns, qn, hd, sn, sub, ab, col, del⟩ := cd
      dsimp only at hm hdel hdct
      subst hm hdel hdct
      have hsl : sl = #[k0, k1, k2, k3, some (.builtin "Exception.__new__"), k5] := by
        obtain ⟨l⟩ := sl
        simp only at hs
        rw [hs]
      subst hsl
      exact ⟨nm, qn, ns, bs, sn, sub, ab, col, dd, k0, k1, k2, k3, k5, ho⟩
    · cases q
  · cases q
def exIs (K : PySem.W.Frag) : Bool := match PySem.W.findCls K (.type "Exception") (.type "type") "__init__" with
  | some (.val (.builtin n)) => n == "Exception.__init__"
  | _ => false
/-- the class cn over Exception, whose __init__ stands at fI -/
def ineB (K : PySem.W.Frag) (cn : Str) (fI : Addr) (f : Str) : Bool := match kad K cn with
  | some C => oeB K C && (decide (PySem.W.findIn K (.ref C) "__setattr__" = some (some (.builtin "object.__setattr__"))) && (decide (PySem.W.subIn K (.ref C) (.type "BaseException") = some true) && (decide (PySem.W.typeIn K (.ref C) = some (.type "type")) && (PySem.W.keepIn K (.ref C) &&
    (exIs K && (decide (PySem.W.findIn K (.ref C) "__init__" = some (some (.ref fI))) && (decide (PySem.W.typeIn K (.ref fI) = some (.type "function")) && decide (PySem.W.findIn K (.ref C) f = some none))))))))
  | none => false
theorem xcmE_of {P : Program} {w : World} {K : PySem.W.Frag} {h : Heap} {mg : Str → Option Value} {base : Heap} {cn f : Str} {fI : Addr} {name qual : Str} {params : Arguments} {body : List Stmt} {scope : Scope} {dV kV doc pm cdv ct oc : Value} {an od : Option Addr} {osl : Array (Option Value)} {N ps : List Str}
    (X : K.In h) (G : h.Ns mainGlobals mg) (he : mg "Exception" = none) (z : ineB K cn fI f = true) (lk : K.lookup fI = some ⟨oc, od, .func (PySem.W.fnOf name qual params body scope dV kV doc pm an cdv ct), osl⟩) (hcd : PySem.W.codeIn K cdv qual = true) (S : FnScope N ps scope) (hI : initE N scope f body = true)
    (hp : ps.length = 2) (hdb : (cn == ("__debug__" : Str)) = false)
    (hb : ∀ us : List Value, us.length = ps.length → bindArgs (PySem.W.fnOf name qual params body scope dV kV doc pm an cdv ct) ⟨us, []⟩ = pure (ps.zip us)) : XcM P w K mg base 3 cn [f] := by
  unfold ineB at z
  split at z
  · rename_i C hC
    simp only [Bool.and_eq_true, decide_eq_true_eq] at z
    obtain ⟨z1, z2, z3, z4, z5, z6, z7, z8, z9⟩ := z
    have T : OexE K C := ⟨oe_of z1, z2, z3, z4, z5⟩
    have vV : PySem.W.findCls K (.type "Exception") (.type "type") "__init__" = some (.val (.builtin "Exception.__init__")) := by
      unfold exIs at z6
      split at z6
      · rename_i n hn
        rw [hn, beq_iff_eq.mp z6]
      · cases z6
    refine xcmE_init (kad_mg X G hC) hdb T z7 z8 (fn_of lk hcd S (fun vs H Q E q => ?_) fun A outer s H vs Q E hr q => ?_) (.all hb)
    · obtain ⟨a, v, rfl, _⟩ := q
      rw [hp]
      rfl
    · obtain ⟨a, v, rfl, e0, q⟩ := q
      exact ⟨_, initE_run (X := cxOf CX0 P w K mg base N qual scope fI cdv A outer s H E) (a := a) he vV T hI z9, v, rfl, rfl, e0, fun dx n ne => q dx n ne⟩
  · cases z
end Nb

namespace Nb
open PySem L2 PySem.Spec PyProof.Rows
/-! ### own classes and calls with keywords, looked up -/
def clsB (K : PySem.W.Frag) (C : Addr) : Bool := PySem.W.plainGet K C Str.empty && (PySem.W.hasDictIn K C && (PySem.W.plainOver K C && (decide (PySem.W.findIn K (.ref C) "__setattr__" = some (some (.builtin "object.__setattr__"))) && (PySem.W.makesIn K C && PySem.W.keepIn K (.ref C)))))
def noAB (K : PySem.W.Frag) (C : Addr) (fl : List Str) : Bool := fl.all fun f => decide (PySem.W.findIn K (.ref C) f = some none)
theorem lookC_mem {cs : List (Str × Ci)} {cn : Str} {ci : Ci} (h : lookC cs cn = some ci) : (cn, ci) ∈ cs := by
  unfold lookC at h
  obtain ⟨p, h1, h2⟩ := Option.map_eq_some_iff.mp h
  have h3 := List.find?_some h1
  have h4 := List.mem_of_find?_eq_some h1
  obtain ⟨a, b⟩ := p
  have h3 : a = cn := by simpa using h3
  cases h3
  cases h2
  exact h4
theorem msL_mem {m : Str} {q : Nat × Nat} : ∀ {l : List (Str × Nat × Nat)}, msL l m = some q → (m, q) ∈ l
  | [], h => by cases h
  | (g, x) :: r, h => by
    rw [msL] at h
    split at h
    · rename_i e
      cases h
      rw [e]
      exact List.mem_cons_self
    · exact List.mem_cons_of_mem _ (msL_mem h)
/-- a method -/
structure MtS (K : PySem.W.Frag) (C : Addr) (n0 : Nat) (xd : List XDef) (m : Str) (j n : Nat) : Prop where
  ex : ∃ i d, j = n0 + i ∧ xd[i]? = some d ∧ d.ps.length = n ∧ Meth K C m d.f ∧ Binds K d.fd d.ps []
theorem MtS.of {K : PySem.W.Frag} {C : Addr} {n0 : Nat} {xd : List XDef} {m : Str} {j n : Nat} (i : Nat) {f : Addr} {fd : FuncData} {ps : List Str} (hj : j = n0 + i) (hx : xd[i]? = some ⟨f, fd, ps⟩) (hn : ps.length = n) (a : PySem.W.findIn K (.ref C) m = some (some (.ref f))) (t : PySem.W.isFn K (.ref f) = true) (k : PySem.W.keepIn K (.ref f) = true) (b : Binds K fd ps []) : MtS K C n0 xd m j n := ⟨i, _, hj, hx, hn, ⟨a, t, k⟩, b⟩
inductive MtsS (K : PySem.W.Frag) (C : Addr) (n0 : Nat) (xd : List XDef) : List (Str × Nat × Nat) → Prop
  | nil : MtsS K C n0 xd []
  | cons {m : Str} {j n : Nat} {r : List (Str × Nat × Nat)} : MtS K C n0 xd m j n → MtsS K C n0 xd r → MtsS K C n0 xd ((m, j, n) :: r)
theorem MtsS.get {K : PySem.W.Frag} {C : Addr} {n0 : Nat} {xd : List XDef} {m : Str} {j n : Nat} : ∀ {l : List (Str × Nat × Nat)}, MtsS K C n0 xd l → (m, j, n) ∈ l → MtS K C n0 xd m j n
  | _, .nil, h => by cases h
  | _, .cons a r, h => by
    rcases List.mem_cons.mp h with e | h
    · cases e; exact a
    · exact r.get h
theorem ClS.of {K : PySem.W.Frag} {mg : Str → Option Value} {n0 : Nat} {xd : List XDef} {cn : Str} {fl : List Str} {ms : List (Str × Nat × Nat)} {j n : Nat} {C : Addr} (hm : mg cn = some (.ref C)) (b : clsB K C = true) (nb : noAB K C fl = true) (M : MtsS K C n0 xd ms) (I : MtS K C n0 xd "__init__" j n) : ClS K mg n0 xd cn ⟨fl, some (j, n), ms⟩ := by
  unfold clsB at b
  simp only [Bool.and_eq_true, decide_eq_true_eq] at b
  obtain ⟨b1, b2, b3, b4, b5, b6⟩ := b
  refine ⟨C, hm, ⟨b1, b2, b3, b4⟩, fun f hf => of_decide_eq_true (p := PySem.W.findIn K (.ref C) f = some none) (List.all_eq_true.mp nb f hf), fun m j n h => ?_, fun j n h => ?_⟩
  · obtain ⟨i, d, h1, h2, h3, h4, h5⟩ := (M.get (msL_mem h)).ex
    exact ⟨i, d, h1, h2, h3, h4, h5⟩
  · cases h
    obtain ⟨i, d, h1, h2, h3, h4, h5⟩ := I.ex
    exact ⟨i, d, h1, h2, h3, ⟨b5, h4.at_, h4.fn, b6⟩, h5⟩
inductive CssS (K : PySem.W.Frag) (mg : Str → Option Value) (n0 : Nat) (xd : List XDef) : List (Str × Ci) → Prop
  | nil : CssS K mg n0 xd []
  | cons {cn : Str} {ci : Ci} {r : List (Str × Ci)} : ClS K mg n0 xd cn ci → CssS K mg n0 xd r → CssS K mg n0 xd ((cn, ci) :: r)
theorem CssS.get {K : PySem.W.Frag} {mg : Str → Option Value} {n0 : Nat} {xd : List XDef} {cn : Str} {ci : Ci} : ∀ {l : List (Str × Ci)}, CssS K mg n0 xd l → (cn, ci) ∈ l → ClS K mg n0 xd cn ci
  | _, .nil, h => by cases h
  | _, .cons a r, h => by
    rcases List.mem_cons.mp h with e | h
    · cases e; exact a
    · exact r.get h
inductive KwsS (K : PySem.W.Frag) (mg : Str → Option Value) (n0 : Nat) (xd : List XDef) : List Kw → Prop
  | nil : KwsS K mg n0 xd []
  | cons {q : Kw} {r : List Kw} : KwS K mg n0 xd q → KwsS K mg n0 xd r → KwsS K mg n0 xd (q :: r)
theorem KwsS.get {K : PySem.W.Frag} {mg : Str → Option Value} {n0 : Nat} {xd : List XDef} {q : Kw} : ∀ {l : List Kw} {j : Nat}, KwsS K mg n0 xd l → l[j]? = some q → KwS K mg n0 xd q
  | _, _, .nil, h => by simp at h
  | _, 0, .cons a r, h => by cases h; exact a
  | _, j + 1, .cons a r, h => r.get (j := j) (by simpa using h)
theorem OsOk.of {K : PySem.W.Frag} {mg : Str → Option Value} {n0 : Nat} {xd : List XDef} {cs : List (Str × Ci)} {kw : List Kw} (A : CssS K mg n0 xd cs) (B : KwsS K mg n0 xd kw) : OsOk K mg n0 xd ⟨cs, kw⟩ := ⟨fun cn ci h => A.get (lookC_mem h), fun j q h => B.get h⟩
theorem KwS.of {K : PySem.W.Frag} {mg : Str → Option Value} {n0 : Nat} {xd : List XDef} {q : Kw} (i : Nat) {f : Addr} {fd : FuncData} {ps : List Str} {dv : List V} {du : List Value} (hj : q.f = n0 + i) (hx : xd[i]? = some ⟨f, fd, ps⟩) (hn : ps.length = q.ar.length) (m : mg q.nm = some (.ref f)) (k : PySem.W.keepIn K (.ref f) = true) (D : DfR K q.ar dv du)
    (b : ∀ (s : Shared) (us ws l : List Value), K.In s.heap → us.length = q.n → ws.length = q.ks.length → arrU q.ar du (us ++ ws) = some l → BindsTo s fd ⟨us, q.ks.zip ws⟩ (ps.zip l)) : KwS K mg n0 xd q := ⟨i, _, dv, du, hj, hx, hn, m, k, D, b⟩
/-- a default, as it stands -/
theorem DfR.val {K : PySem.W.Frag} {x : PyData} {u : Value} {r : List (Nat ⊕ PyData)} {us : List Value} (h : valIn K 40 u x = true) (t : ∃ ds, DfR K r ds us) : ∃ ds, DfR K (.inr x :: r) ds (u :: us) := by
  obtain ⟨w, h1, h2⟩ := valIn_ok 40 h
  obtain ⟨ds, t⟩ := t
  exact ⟨w :: ds, .inr h1 h2 t⟩
theorem DfR.pos {K : PySem.W.Frag} {i : Nat} {r : List (Nat ⊕ PyData)} {us : List Value} (t : ∃ ds, DfR K r ds us) : ∃ ds, DfR K (.inl i :: r) ds (.none :: us) := by
  obtain ⟨ds, t⟩ := t
  exact ⟨.non :: ds, .inl t⟩
theorem DfR.nix {K : PySem.W.Frag} : ∃ ds, DfR K [] ds [] := ⟨[], .nil⟩
end Nb

namespace Nb
open PySem L2
/-! ### any data within bounds: w items at most, texts of t signs at most, so deep -/
inductive An (w t : Nat) : Nat → PyData → Prop
  | non {d : Nat} : An w t d .none
  | bl {d : Nat} (b : Bool) : An w t d (.bool b)
  | int {d : Nat} {i : Int} : i.natAbs < 1000000000000000 + t → An w t d (.int i)
  | str {d : Nat} {s : Str} : s.length ≤ t → (∀ c ∈ s.cps.toList, c < 127) → An w t d (.str s)
  | emp {d : Nat} : An w t d (.dict [])
  | lst0 {d : Nat} : An w t d (.list [])
  | tup0 {d : Nat} : An w t d (.tuple [])
  | lst {d : Nat} {l : List PyData} : l.length ≤ w → (∀ y ∈ l, An w t d y) → An w t (d + 1) (.list l)
  | tup {d : Nat} {l : List PyData} : l.length ≤ w → (∀ y ∈ l, An w t d y) → An w t (d + 1) (.tuple l)
theorem An.mono {w t w' t' : Nat} (hw : w ≤ w') (ht : t ≤ t') : ∀ {d d' : Nat} {x : PyData}, d ≤ d' → An w t d x → An w' t' d' x
  | _, _, _, _, .non => .non
  | _, _, _, _, .bl b => .bl b
  | _, _, _, _, .int h => .int (by omega)
  | _, _, _, _, .str h k => .str (by omega) k
  | _, _, _, _, .emp => .emp
  | _, _, _, _, .lst0 => .lst0
  | _, _, _, _, .tup0 => .tup0
  | _, d' + 1, _, hd, .lst h k => .lst (by omega) fun y hy => An.mono hw ht (by omega) (k y hy)
  | _, d' + 1, _, hd, .tup h k => .tup (by omega) fun y hy => An.mono hw ht (by omega) (k y hy)
  | _, 0, _, hd, .lst h k => by omega
  | _, 0, _, hd, .tup h k => by omega
theorem An.items {w t d : Nat} {l : List PyData} (h : An w t (d + 1) (.tuple l)) : l.length ≤ w ∧ ∀ y ∈ l, An w t d y := by
  cases h with
  | tup0 => exact ⟨Nat.zero_le _, fun y hy => absurd hy List.not_mem_nil⟩
  | tup a b => exact ⟨a, b⟩
theorem An.items0 {w t : Nat} {l : List PyData} (h : An w t 0 (.tuple l)) : l = [] := by
  cases h with
  | tup0 => rfl
/-- of a tuple's items: one less deep, where there are any -/
theorem An.its {w t d : Nat} {l : List PyData} (h : An w t d (.tuple l)) : l.length ≤ w ∧ ∀ y ∈ l, An w t (d - 1) y ∧ 1 ≤ d := by
  cases d with
  | zero => rw [h.items0]; exact ⟨Nat.zero_le _, fun y hy => absurd hy List.not_mem_nil⟩
  | succ d => exact ⟨h.items.1, fun y hy => ⟨h.items.2 y hy, Nat.succ_le_succ (Nat.zero_le _)⟩⟩
theorem An.str_inv {w t d : Nat} {s : Str} (h : An w t d (.str s)) : s.length ≤ t ∧ ∀ c ∈ s.cps.toList, c < 127 := by
  cases h with
  | str a b => exact ⟨a, b⟩
theorem An.int_inv {w t d : Nat} {i : Int} (h : An w t d (.int i)) : i.natAbs < 1000000000000000 + t := by
  cases h with
  | int a => exact a
theorem An.dict_inv {w t d : Nat} {l : List (PyData × PyData)} (h : An w t d (.dict l)) : l = [] := by
  cases h with
  | emp => rfl
/-! how much repr shows -/
mutual
def dsz : PyData → Nat
  | .str s => 10 * s.length + 2
  | .int _ => 22
  | .list l => dszL l + 3
  | .tuple l => dszL l + 3
  | .dict _ => 2
  | .none => 5
  | .bool _ => 5
def dszL : List PyData → Nat
  | [] => 0
  | x :: r => dsz x + 2 + dszL r
end
theorem dszL_app : ∀ a b : List PyData, dszL (a ++ b) = dszL a + dszL b
  | [], b => by rw [List.nil_append, dszL]; omega
  | x :: a, b => by rw [List.cons_append, dszL, dszL, dszL_app a b]; omega
theorem dszL_mem : ∀ {l : List PyData} {x : PyData}, x ∈ l → dsz x + 2 ≤ dszL l
  | [], _, h => absurd h List.not_mem_nil
  | y :: r, x, h => by
    rw [dszL]
    rcases List.mem_cons.mp h with rfl | h
    · omega
    · have := dszL_mem h; omega
theorem dszL_take (l : List PyData) (n : Nat) : dszL (l.take n) ≤ dszL l := by
  have := dszL_app (l.take n) (l.drop n)
  rw [List.take_append_drop] at this
  omega
theorem dszL_drop (l : List PyData) (n : Nat) : dszL (l.drop n) ≤ dszL l := by
  have := dszL_app (l.take n) (l.drop n)
  rw [List.take_append_drop] at this
  omega
theorem dszL_rev : ∀ l : List PyData, dszL l.reverse = dszL l
  | [] => rfl
  | x :: r => by rw [List.reverse_cons, dszL_app, dszL_rev r, dszL, dszL, dszL]; omega
theorem dszL_len : ∀ l : List PyData, 4 * l.length ≤ dszL l
  | [] => Nat.zero_le _
  | x :: r => by
    have := dszL_len r
    have h2 : 2 ≤ dsz x := by cases x <;> rw [dsz] <;> omega
    rw [dszL, List.length_cons]
    omega
theorem piled_dsz : ∀ {l : List PyData}, (∀ y ∈ l, y.shown.length ≤ dsz y) → piled (PyData.shownAll l) ≤ dszL l
  | [], _ => by rw [PyData.shownAll]; exact Nat.zero_le _
  | x :: r, h => by
    have i := piled_dsz (l := r) fun y hy => h y (List.mem_cons_of_mem _ hy)
    have j := h x (List.mem_cons_self ..)
    rw [PyData.shownAll, piled_cons, dszL]
    omega
theorem listText_p {ts : List Str} : (listText ts).length ≤ piled ts + 3 := by
  cases ts with
  | nil => rw [listText_nil]; show 2 ≤ _; omega
  | cons t r =>
    have e : (listText (t :: r)).length = (textFrom 1 (("[" : Str) ++ (if (0 : Nat) > 0 then ", " else "" : String) ++ t) r).length + 1 := by
      show (textFrom 1 (("[" : Str) ++ (if (0 : Nat) > 0 then ", " else "" : String) ++ t) r ++ "]").length = _
      rw [strLen_append]; rfl
    have f : ((("[" : Str) ++ (if (0 : Nat) > 0 then ", " else "" : String) ++ t)).length = 1 + t.length := by
      rw [strLen_append, strLen_append]; rfl
    rw [e, textFrom_length_pos r 1 _ Nat.one_pos, f, piled_cons]
    omega
theorem tupleText_p {ts : List Str} : (tupleText ts).length ≤ piled ts + 3 := by
  have e : (tupleText ts).length ≤ 1 + (Str.join ", " ts).length + 2 := by
    unfold tupleText
    rw [strLen_append, strLen_append]
    have : (("(" : Str)).length = 1 := rfl
    rw [this]
    split <;> (show _ + _ ≤ _; first | (exact Nat.le_refl _) | (apply Nat.add_le_add_left; decide))
  cases ts with
  | nil =>
    have : (Str.join ", " ([] : List Str)).length = 0 := rfl
    omega
  | cons t r =>
    have j := join_length_add (t :: r) (fun z => nomatch z)
    omega
theorem shown_int {i : Int} (h : i.natAbs < 10 ^ 20) : (PyData.int i).shown.length ≤ 21 := (Sh.int h).l
theorem An.shown {w t : Nat} (ht : t ≤ 1000000) : ∀ {d : Nat} {x : PyData}, An w t d x → x.shown.length ≤ dsz x
  | _, _, .non => Nat.le_trans Sh.none.l (by rw [dsz]; decide)
  | _, _, .bl b => Nat.le_trans (Sh.bool b).l (by rw [dsz]; decide)
  | _, _, .int h => Nat.le_trans (shown_int (by omega)) (by rw [dsz]; decide)
  | _, _, .str h k => by
    rw [PyData.shown, dsz]
    exact PySem.StrLaws.reprText_len _ fun c hc => Nat.lt_trans (k c hc) (by decide)
  | _, _, .emp => by rw [dsz]; decide +kernel
  | _, _, .lst0 => by rw [dsz]; decide +kernel
  | _, _, .tup0 => by rw [dsz]; decide +kernel
  | _, _, .lst h k => by
    rw [PyData.shown, dsz]
    have := piled_dsz fun y hy => An.shown ht (k y hy)
    exact Nat.le_trans listText_p (by omega)
  | _, _, .tup h k => by
    rw [PyData.shown, dsz]
    have := piled_dsz fun y hy => An.shown ht (k y hy)
    exact Nat.le_trans tupleText_p (by omega)
theorem An.depth {w t : Nat} : ∀ {d : Nat} {x : PyData}, An w t d x → x.depth ≤ d + 1
  | _, _, .non => by rw [PyData.depth]; omega
  | _, _, .bl b => by rw [PyData.depth]; omega
  | _, _, .int h => by rw [PyData.depth]; omega
  | _, _, .str h k => by rw [PyData.depth]; omega
  | _, _, .emp => by rw [PyData.depth, PyData.depthKv]; omega
  | _, _, .lst0 => by rw [PyData.depth, PyData.depthAll]; omega
  | _, _, .tup0 => by rw [PyData.depth, PyData.depthAll]; omega
  | _, _, .lst h k => by rw [PyData.depth]; exact Nat.succ_le_succ (depthAll_le fun y hy => An.depth (k y hy))
  | _, _, .tup h k => by rw [PyData.depth]; exact Nat.succ_le_succ (depthAll_le fun y hy => An.depth (k y hy))
theorem d0All_of : ∀ {l : List PyData}, (∀ x ∈ l, d0 x = true) → d0All l = true
  | [], _ => rfl
  | x :: r, h => by rw [d0All, h x (List.mem_cons_self ..), d0All_of fun y hy => h y (List.mem_cons_of_mem _ hy)]; rfl
theorem An.d0 {w t : Nat} : ∀ {d : Nat} {x : PyData}, An w t d x → Nb.d0 x = true
  | _, _, .non => rfl
  | _, _, .bl b => rfl
  | _, _, .int h => rfl
  | _, _, .str h k => rfl
  | _, _, .emp => rfl
  | _, _, .lst0 => rfl
  | _, _, .tup0 => rfl
  | _, _, .lst h k => by rw [Nb.d0]; exact d0All_of fun y hy => An.d0 (k y hy)
  | _, _, .tup h k => by rw [Nb.d0]; exact d0All_of fun y hy => An.d0 (k y hy)
theorem An.showable {w t : Nat} (ht : t ≤ 1000000) : ∀ {d : Nat} {x : PyData}, An w t d x → x.showable = true
  | _, _, .non => rfl
  | _, _, .bl b => rfl
  | _, _, .int h => (Sh.int (by omega)).s
  | _, _, .str h k => rfl
  | _, _, .emp => rfl
  | _, _, .lst0 => rfl
  | _, _, .tup0 => rfl
  | _, _, .lst h k => by rw [PyData.showable]; exact showableAll_of fun y hy => An.showable ht (k y hy)
  | _, _, .tup h k => by rw [PyData.showable]; exact showableAll_of fun y hy => An.showable ht (k y hy)
/-- repr takes it -/
theorem An.repr {w t d : Nat} {x : PyData} (h : An w t d x) (ht : t ≤ 1000000) (hd : d ≤ 63) (hs : dsz x ≤ 16777216) {S : Sto} : bltV .repr [.d x] S = .ok (.d (.str x.shown)) S := by
  rw [f_repr]
  have e : isD0 x = true := by
    have h1 := h.depth
    have h2 := h.shown ht
    have h3 : sizeLine = 16777216 := rfl
    unfold isD0
    rw [h.showable ht, h.d0, decide_eq_true (by omega), decide_eq_true (by omega)]
    rfl
  rw [e, Bool.or_true, if_pos rfl]
/-! one of a list -/
theorem get_mem {l : List PyData} {i : Int} {S : Sto} (h0 : 0 ≤ i) (h1 : i < l.length) : (getV (.d (.list l)) (.d (.int i)) S).Sat fun v S1 => ∃ x, v = .d x ∧ S1 = S ∧ x ∈ l := by
  rw [g_lst, atI_of h0 h1, List.getElem?_eq_getElem (by omega)]
  exact ⟨⟨_, rfl, rfl, List.getElem_mem _⟩⟩
theorem get_memT {l : List PyData} {i : Int} {S : Sto} (h0 : 0 ≤ i) (h1 : i < l.length) : (getV (.d (.tuple l)) (.d (.int i)) S).Sat fun v S1 => ∃ x, v = .d x ∧ S1 = S ∧ x ∈ l := by
  rw [g_tup, atI_of h0 h1, List.getElem?_eq_getElem (by omega)]
  exact ⟨⟨_, rfl, rfl, List.getElem_mem _⟩⟩
/-! the same, with what comes behind -/
theorem gm {l : List PyData} {i : Int} {S : Sto} {Q : Va → Sto → Prop} (h0 : 0 ≤ i) (h1 : i < l.length) (H : ∀ x ∈ l, Q (.d x) S) : (getV (.d (.list l)) (.d (.int i)) S).Sat Q := by
  refine R.Sat_mono (get_mem h0 h1) ?_
  rintro _ _ ⟨x, rfl, rfl, hx⟩
  exact H x hx
theorem gmT {l : List PyData} {i : Int} {S : Sto} {Q : Va → Sto → Prop} (h0 : 0 ≤ i) (h1 : i < l.length) (H : ∀ x ∈ l, Q (.d x) S) : (getV (.d (.tuple l)) (.d (.int i)) S).Sat Q := by
  refine R.Sat_mono (get_memT h0 h1) ?_
  rintro _ _ ⟨x, rfl, rfl, hx⟩
  exact H x hx
theorem gi {l : List PyData} {i : Int} {S : Sto} {P : Int → Prop} {Q : Va → Sto → Prop} (h : AllD (fun x => ∃ c : Int, x = .int c ∧ P c) l) (h0 : 0 ≤ i) (h1 : i < l.length) (H : ∀ c, P c → Q (.d (.int c)) S) : (getV (.d (.list l)) (.d (.int i)) S).Sat Q := by
  refine R.Sat_mono (get_int h0 h1 h) ?_
  rintro _ _ ⟨x, rfl, rfl, hx⟩
  exact H x hx
def EndQ (n : Nat) (Q : Va → Sto → Prop) (fl : Fl) (S : Sto) : Prop := match fl with
  | .nx _ => (trim n (.d .none) S).Sat Q
  | .rt v => (trim n v S).Sat Q
theorem EndQ_rt {n : Nat} {Q : Va → Sto → Prop} {v : Va} {S : Sto} : EndQ n Q (.rt v) S = (trim n v S).Sat Q := rfl
theorem EndQ_nx {n : Nat} {Q : Va → Sto → Prop} {η : En} {S : Sto} : EndQ n Q (.nx η) S = (trim n (.d .none) S).Sat Q := rfl
/-- a def's run -/
theorem sr {C : Cfg} {m : Nat} {b : ISs} {vs : List Va} {S : Sto} {Q : Va → Sto → Prop} (h : (execs C b (vs.map some ++ List.replicate (m - vs.length) none) S).Sat (EndQ S.length Q)) : (runF C m b vs S).Sat Q := by
  refine st_run (R.Sat_mono h fun fl S1 q => ?_)
  cases fl <;> exact q
def CtQ (C : Cfg) (r : ISs) (Q : Fl → Sto → Prop) (fl : Fl) (S : Sto) : Prop := match fl with
  | .nx η => (execs C r η S).Sat Q
  | .rt v => Q (.rt v) S
theorem CtQ_rt {C : Cfg} {r : ISs} {Q : Fl → Sto → Prop} {v : Va} {S : Sto} : CtQ C r Q (.rt v) S = Q (.rt v) S := rfl
theorem CtQ_nx {C : Cfg} {r : ISs} {Q : Fl → Sto → Prop} {η : En} {S : Sto} : CtQ C r Q (.nx η) S = (execs C r η S).Sat Q := rfl
/-- one statement -/
theorem sc {C : Cfg} {s : IS} {r : ISs} {η : En} {S : Sto} {Q : Fl → Sto → Prop} (h : (exec C s η S).Sat (CtQ C r Q)) : (execs C (.cons s r) η S).Sat Q := by
  refine st_cons (R.Sat_mono h fun fl S1 q => ?_)
  cases fl <;> exact q
theorem sn {C : Cfg} {η : En} {S : Sto} {Q : Fl → Sto → Prop} : (execs C .nil η S).Sat Q = Q (.nx η) S := by
  rw [execs, R.Sat_ok]
/-- a test -/
theorem si {C : Cfg} {c : IE} {a b r : ISs} {η : En} {S S1 : Sto} {t : Bool} {Q : Fl → Sto → Prop} (hc : ev C c η S = .ok (.d (.bool t)) S1) (h1 : t = true → (execs C a η S1).Sat (CtQ C r Q)) (h2 : t = false → (execs C b η S1).Sat (CtQ C r Q)) : (execs C (.cons (.ife c a b) r) η S).Sat Q := by
  refine sc ?_
  rw [exec, hc, R.bind_ok, t_bool, R.bind_ok]
  cases t with
  | true => exact h1 rfl
  | false => exact h2 rfl
/-- a test whose one way returns -/
theorem si0 {C : Cfg} {c : IE} {a r : ISs} {η : En} {S : Sto} {t : Bool} {Q : Fl → Sto → Prop} (hc : ev C c η S = .ok (.d (.bool t)) S) (h1 : t = true → (execs C a η S).Sat (CtQ C r Q)) (h2 : t = false → (execs C r η S).Sat Q) : (execs C (.cons (.ife c a .nil) r) η S).Sat Q :=
  si hc h1 fun h => by rw [sn]; exact h2 h
/-- a comprehension that draws -/
theorem fcomp {C : Cfg} {elt : IE} {tg : IT} {it : II} {own : List Nat} {η : En} {S S1 : Sto} {xs : List Va} {Q : List Va → Sto → Prop} (I : Nat → List Va → Sto → Prop) (hi : iter C it η S = .ok xs S1) (h0 : I 0 [] S1)
    (h1 : ∀ j x acc S, xs[j]? = some x → I j acc S → ((asgn C tg x (wipeE η own) S).bind fun η2 S3 => ev C elt η2 S3).Sat fun y S2 => I (j + 1) (acc ++ [y]) S2)
    (h2 : ∀ acc S, I xs.length acc S → Q acc S) : (evF C (.comp elt tg it .no own) η S).Sat Q := by
  rw [evF, hi, R.bind_ok, R.nx_Sat]
  refine compF_inv I xs 0 [] S1 h0 (fun j x acc S2 hx h => ?_) (fun acc S2 h => h2 acc S2 (by rw [Nat.zero_add] at h; exact h))
  rw [Nat.zero_add] at h ⊢
  have q := h1 j x acc S2 hx h
  rw [R.bind_Sat] at q ⊢
  refine R.Sat_mono q fun η2 S3 q => ?_
  rw [evT, R.bind_ok, if_pos rfl, R.bind_Sat]
  refine R.Sat_mono q fun y S4 q => ?_
  rw [R.Sat_ok]
  exact q
/-- the end of a def that draws -/
theorem tr {p : Pn} {X T : Sto} {k : Nat} {x : PyData} {Q : Va → Sto → Prop} (hT : T = penOb p :: X) (hk : k = X.length + 1) (H : Q (.d x) (penOb p :: X)) : (trim k (.d x) T).Sat Q := by
  subst hT hk
  exact R.Sat_of (trim_same rfl) H
/-! closed data -/
def atomB (t : Nat) : PyData → Bool
  | .int i => decide (i.natAbs < 1000000000000000 + t)
  | .str s => decide (s.length ≤ t) && asc s
  | .dict l => l.isEmpty
  | .list l => l.isEmpty
  | .tuple l => l.isEmpty
  | _ => true
def anB (w t : Nat) : Nat → PyData → Bool
  | 0, x => atomB t x
  | d + 1, x => match x with
    | .list l => decide (l.length ≤ w) && l.all (anB w t d)
    | .tuple l => decide (l.length ≤ w) && l.all (anB w t d)
    | x => atomB t x
theorem atomB_ok {w t d : Nat} {x : PyData} (h : atomB t x = true) : An w t d x := by
  cases x with
  | none => exact .non
  | bool b => exact .bl b
  | int i => exact .int (of_decide_eq_true h)
  | str s =>
    have h := Bool.and_eq_true_iff.mp h
    exact .str (of_decide_eq_true h.1) (asc_of h.2)
  | list l => rw [List.isEmpty_iff.mp h]; exact .lst0
  | tuple l => rw [List.isEmpty_iff.mp h]; exact .tup0
  | dict l => rw [List.isEmpty_iff.mp h]; exact .emp
theorem anB_ok {w t : Nat} : ∀ {d : Nat} {x : PyData}, anB w t d x = true → An w t d x
  | 0, x, h => atomB_ok h
  | d + 1, x, h => by
    cases x with
    | list l =>
      have h := Bool.and_eq_true_iff.mp h
      exact .lst (of_decide_eq_true h.1) fun y hy => anB_ok (List.all_eq_true.mp h.2 y hy)
    | tuple l =>
      have h := Bool.and_eq_true_iff.mp h
      exact .tup (of_decide_eq_true h.1) fun y hy => anB_ok (List.all_eq_true.mp h.2 y hy)
    | none => exact atomB_ok h
    | bool b => exact atomB_ok h
    | int i => exact atomB_ok h
    | str s => exact atomB_ok h
    | dict l => exact atomB_ok h
theorem closed_ok {w t d n : Nat} {l : List PyData} (h : (l.all fun x => anB w t d x && decide (dsz x ≤ n)) = true) : ∀ y ∈ l, An w t d y ∧ dsz y ≤ n := fun y hy => by
  have := List.all_eq_true.mp h y hy
  rw [Bool.and_eq_true, decide_eq_true_eq] at this
  exact ⟨anB_ok this.1, this.2⟩
/-- x = x + .. -/
theorem cat_st {C : Cfg} {i : Nat} {e : IE} {η : En} {S : Sto} {r : ISs} {Q : Fl → Sto → Prop} {l m : List PyData} (hi : η[i]? = some (some (.d (.list l)))) (he : ev C e η S = .ok (.d (.list m)) S) (hl : l.length + m.length ≤ 16777216)
    (H : (execs C r (η.set i (some (.d (.list (l ++ m))))) S).Sat Q) : (execs C (.cons (.asg (.nm i) (.fz (.cat (.loc i) e))) r) η S).Sat Q := by
  refine sc ?_
  have h1 : ev C (.loc i) η S = .ok (.d (.list l)) S := by rw [ev, hi]
  rw [exec, ev, evF, h1, R.bind_ok, he, R.bind_ok]
  show (((((R.ok (l.map Va.d) S).bind _)).bind _).bind _).Sat _
  rw [R.bind_ok]
  show (((((R.ok (m.map Va.d) S).bind _)).bind _).bind _).Sat _
  rw [R.bind_ok, if_pos (by rw [List.length_map, List.length_map]; exact hl), R.bind_ok, ← List.map_append, fz_of, R.bind_ok, asgn, R.bind_ok, R.Sat_ok, CtQ_nx]
  exact H
/-! parts of tuples -/
theorem cut_lo {α : Type} {l : List α} {i : Int} (h0 : 0 ≤ i) : cutD l (some i) none = l.drop i.toNat := by
  unfold cutD
  obtain ⟨m, rfl⟩ := Int.eq_ofNat_of_zero_le h0
  have e1 : HT.sIx l.length 0 (some ((m : Nat) : Int)) = min m l.length := HT.sIx_nat _ _ _
  have e2 : HT.sIx l.length l.length none = l.length := rfl
  rw [e1, e2, List.take_of_length_le (by rw [List.length_drop]; omega), Int.toNat_natCast]
  by_cases z : m ≤ l.length
  · rw [Nat.min_eq_left z]
  · rw [Nat.min_eq_right (by omega), List.drop_length, List.drop_eq_nil_of_le (by omega)]
theorem cut_hi {α : Type} {l : List α} {i : Int} (h0 : 0 ≤ i) : cutD l none (some i) = l.take i.toNat := by
  unfold cutD
  obtain ⟨m, rfl⟩ := Int.eq_ofNat_of_zero_le h0
  have e1 : HT.sIx l.length l.length (some ((m : Nat) : Int)) = min m l.length := HT.sIx_nat _ _ _
  have e2 : HT.sIx l.length 0 none = 0 := rfl
  rw [e1, e2, List.drop_zero, Nat.sub_zero, Int.toNat_natCast]
  by_cases z : m ≤ l.length
  · rw [Nat.min_eq_left z]
  · rw [Nat.min_eq_right (by omega), List.take_length, List.take_of_length_le (by omega)]
theorem slT_lo {l : List PyData} {i : Int} {S : Sto} (h0 : 0 ≤ i) : slV (.d (.tuple l)) (some i) none S = .ok (.d (.tuple (l.drop i.toNat))) S := by
  show R.ok (Va.d (.tuple (cutD l (some i) none))) S = _
  rw [cut_lo h0]
theorem slT_hi {l : List PyData} {i : Int} {S : Sto} (h0 : 0 ≤ i) : slV (.d (.tuple l)) none (some i) S = .ok (.d (.tuple (l.take i.toNat))) S := by
  show R.ok (Va.d (.tuple (cutD l none (some i)))) S = _
  rw [cut_hi h0]
theorem cut_sub {α : Type} {l : List α} {lo hi : Option Int} : ∃ a b, cutD l lo hi = (l.drop a).take b := ⟨_, _, rfl⟩
theorem slT_any {l : List PyData} {lo hi : Option Int} {S : Sto} : ∃ a b, slV (.d (.tuple l)) lo hi S = .ok (.d (.tuple ((l.drop a).take b))) S := ⟨_, _, rfl⟩
/-- a comprehension over a cell, that draws -/
theorem fcompC {C : Cfg} {elt : IE} {tg : IT} {i n : Nat} {own : List Nat} {η : En} {S : Sto} {l : List Va} {Q : List Va → Sto → Prop} (I : Nat → List Va → Sto → Prop) (hη : η[i]? = some (some (.ref n))) (hS : S[n]? = some (.lst l)) (hl : l.length ≤ 16777216) (h0 : I 0 [] S) (hs : ∀ j acc S', I j acc S' → sameC n l S' = true)
    (h1 : ∀ j x acc S, l[j]? = some x → I j acc S → ((asgn C tg x (wipeE η own) S).bind fun η2 S3 => ev C elt η2 S3).Sat fun y S2 => I (j + 1) (acc ++ [y]) S2)
    (h2 : ∀ acc S, I l.length acc S → Q acc S) : (evF C (.cmpC elt tg i .no own) η S).Sat Q := by
  rw [evF, hη]
  dsimp only
  rw [hS]
  dsimp only
  rw [if_pos (show l.length ≤ sizeLine from hl), R.nx_Sat, R.bind_Sat]
  refine compF_inv I l 0 [] S h0 (fun j x acc S2 hx h => ?_) (fun acc S2 h => ?_)
  · rw [Nat.zero_add] at h ⊢
    rw [if_pos (hs j acc S2 h)]
    have q := h1 j x acc S2 hx h
    rw [R.bind_Sat] at q ⊢
    refine R.Sat_mono q fun η2 S3 q => ?_
    rw [evT, R.bind_ok, if_pos rfl, R.bind_Sat]
    refine R.Sat_mono q fun y S4 q => ?_
    rw [R.Sat_ok]
    exact q
  · rw [Nat.zero_add] at h
    rw [if_pos (hs _ acc S2 h), R.Sat_ok]
    exact h2 acc S2 h
end Nb

namespace Nb.Lw
open PySem L2 Nb
def top (i : Nat) : Stmt := PySem.Challenge.pw_numberedlines_k08_numbers_reckoned.main.body.getD i (.Pass ⟨0, 0, 0, 0⟩)
def glL : List (Str × Gx) := [("MOST_NUMBER", (.dat (.int 1000000000000))), ("MOST_SIGNS", (.dat (.int 100))), ("MOST_FITS", (.dat (.int 20))), ("BOTH_KINDS", (.dat (.tuple [(.str "+"), (.str "<"), (.str "="), (.str ">")]))), ("PLAIN", (.dat (.tuple [(.str "number"), (.str "text")])))]
def xsL : List (Str × Xi) := [("Fault", ⟨["word"], ["Fault"], [.ex]⟩)]
abbrev g_MOST_NUMBER : Nat := 0
abbrev g_MOST_SIGNS : Nat := 1
abbrev g_MOST_FITS : Nat := 2
abbrev g_BOTH_KINDS : Nat := 3
abbrev g_PLAIN : Nat := 4
def fnL : List (Str × Nat) := [("need", 2), ("is_number", 1), ("bounded", 1), ("by_sign", 3), ("part_of", 3), ("cell_of", 3), ("last_fault", 2), ("of_worths", 2), ("come", 2), ("fit_of", 3), ("_law_pen", 1), ("_law_draw", 2), ("_law_number", 1), ("_law_bounded", 1), ("_law_two", 3), ("_law_comes", 4), ("_law_reckon", 3), ("_law_signed", 1), ("_law_numbers", 2), ("_law_right", 1)]
abbrev i_need : Nat := 0
abbrev i_is_number : Nat := 1
abbrev i_bounded : Nat := 2
abbrev i_by_sign : Nat := 3
abbrev i_part_of : Nat := 4
abbrev i_cell_of : Nat := 5
abbrev i_last_fault : Nat := 6
abbrev i_of_worths : Nat := 7
abbrev i_come : Nat := 8
abbrev i_fit_of : Nat := 9
abbrev i_Lpen : Nat := 10
abbrev i_Ldraw : Nat := 11
abbrev i_Lnumber : Nat := 12
abbrev i_Lbounded : Nat := 13
abbrev i_Ltwo : Nat := 14
abbrev i_Lcomes : Nat := 15
abbrev i_Lreckon : Nat := 16
abbrev i_Lsigned : Nat := 17
abbrev i_Lnumbers : Nat := 18
abbrev i_Lright : Nat := 19
abbrev i_Around___init__ : Nat := 20
abbrev i_Around_within : Nat := 21
abbrev i_reckon : Nat := 22
def mthS (s : Stmt) (j : Nat) : Stmt := match s with | .ClassDef _ _ _ body _ _ _ _ _ _ _ => body.getD j s | s => s
def osL : Ox := ⟨[("Around", ⟨["box_worths", "row_worths", "fit_bodies", "fault_met", "deep"], some (20, 6), [("within", 21, 3)]⟩)], [⟨22, "reckon", 1, ["boxes", "rows", "fits", "fault"], [.inl 0, .inl 1, .inl 2, .inl 3, .inl 4]⟩, ⟨22, "reckon", 1, [], [.inl 0, .inr .none, .inr .none, .inr .none, .inr .none]⟩]⟩
abbrev st_Fault___init__ : Stmt := mthS (top 6) 0
theorem sc_Fault___init__ : FnScope ["self", "word"] ["self", "word"] (defScope st_Fault___init__) :=
  ⟨by decide +kernel, by decide +kernel, by decide +kernel, by decide +kernel, by decide +kernel, by decide +kernel, by decide +kernel⟩
/-! need -/
abbrev st_need : Stmt := top 8
def tb_need : Tab := ⟨["is_so", "word"], fnL, glL.map (·.1), xsL, osL, true⟩
def ps_need : List Str := ["is_so", "word"]
abbrev m_need : Nat := 2
def ir_need : ISs :=
    (.cons (.ife (.not (.loc 0)) (.cons (.raise "Fault" (.cons (.loc 1) .nil))
    .nil) .nil)
    .nil)
theorem sc_need : FnScope tb_need.N ps_need (defScope st_need) :=
  ⟨by decide +kernel, by decide +kernel, by decide +kernel, by decide +kernel, by decide +kernel, by decide +kernel, by decide +kernel⟩
theorem ck_need : chkSs tb_need (defScope st_need) ir_need (defBody st_need) = true := by decide +kernel
/-! is_number -/
abbrev st_is_number : Stmt := top 9
def tb_is_number : Tab := ⟨["worth"], fnL, glL.map (·.1), xsL, osL, true⟩
def ps_is_number : List Str := ["worth"]
abbrev m_is_number : Nat := 1
def ir_is_number : ISs :=
    (.cons (.ret (.isi (.loc 0) .int))
    .nil)
theorem sc_is_number : FnScope tb_is_number.N ps_is_number (defScope st_is_number) :=
  ⟨by decide +kernel, by decide +kernel, by decide +kernel, by decide +kernel, by decide +kernel, by decide +kernel, by decide +kernel⟩
theorem ck_is_number : chkSs tb_is_number (defScope st_is_number) ir_is_number (defBody st_is_number) = true := by decide +kernel
/-! bounded -/
abbrev st_bounded : Stmt := top 10
def tb_bounded : Tab := ⟨["worth"], fnL, glL.map (·.1), xsL, osL, true⟩
def ps_bounded : List Str := ["worth"]
abbrev m_bounded : Nat := 1
def ir_bounded : ISs :=
    (.cons (.ife (.call i_is_number (.cons (.loc 0) .nil)) (.cons (.ex (.call i_need (.cons (.cmp .le (.blt .abs (.cons (.loc 0) .nil)) (.glo g_MOST_NUMBER)) (.cons (.str "great") .nil))))
    .nil) (.cons (.ex (.call i_need (.cons (.cmp .le (.blt .len (.cons (.loc 0) .nil)) (.glo g_MOST_SIGNS)) (.cons (.str "long") .nil))))
    .nil))
    (.cons (.ret (.loc 0))
    .nil))
theorem sc_bounded : FnScope tb_bounded.N ps_bounded (defScope st_bounded) :=
  ⟨by decide +kernel, by decide +kernel, by decide +kernel, by decide +kernel, by decide +kernel, by decide +kernel, by decide +kernel⟩
theorem ck_bounded : chkSs tb_bounded (defScope st_bounded) ir_bounded (defBody st_bounded) = true := by decide +kernel
/-! by_sign -/
abbrev st_by_sign : Stmt := top 11
def tb_by_sign : Tab := ⟨["sign", "one", "other"], fnL, glL.map (·.1), xsL, osL, true⟩
def ps_by_sign : List Str := ["sign", "one", "other"]
abbrev m_by_sign : Nat := 3
def ir_by_sign : ISs :=
    (.cons (.ex (.call i_need (.cons (.cmp .eq (.call i_is_number (.cons (.loc 1) .nil)) (.call i_is_number (.cons (.loc 2) .nil))) (.cons (.str "kind") .nil))))
    (.cons (.ex (.call i_need (.cons (.or (.call i_is_number (.cons (.loc 1) .nil)) (.cmp .isin (.loc 0) (.glo g_BOTH_KINDS))) (.cons (.str "kind") .nil))))
    (.cons (.ife (.cmp .isin (.loc 0) (.tup (.cons (.str "/") (.cons (.str "rest") .nil)))) (.cons (.ex (.call i_need (.cons (.cmp .ne (.loc 2) (.int 0)) (.cons (.str "nought") .nil))))
    (.cons (.ret (.ife (.cmp .eq (.loc 0) (.str "/")) (.bin .fdiv (.loc 1) (.loc 2)) (.bin .sub (.loc 1) (.bin .mul (.bin .fdiv (.loc 1) (.loc 2)) (.loc 2)))))
    .nil)) .nil)
    (.cons (.ife (.cmp .eq (.loc 0) (.str "+")) (.cons (.ret (.bin .add (.loc 1) (.loc 2)))
    .nil) .nil)
    (.cons (.ife (.cmp .eq (.loc 0) (.str "-")) (.cons (.ret (.bin .sub (.loc 1) (.loc 2)))
    .nil) .nil)
    (.cons (.ife (.cmp .eq (.loc 0) (.str "*")) (.cons (.ret (.bin .mul (.loc 1) (.loc 2)))
    .nil) .nil)
    (.cons (.ife (.cmp .eq (.loc 0) (.str "and")) (.cons (.ret (.blt .int (.cons (.and (.cmp .ne (.loc 1) (.int 0)) (.cmp .ne (.loc 2) (.int 0))) .nil)))
    .nil) .nil)
    (.cons (.ife (.cmp .eq (.loc 0) (.str "or")) (.cons (.ret (.blt .int (.cons (.or (.cmp .ne (.loc 1) (.int 0)) (.cmp .ne (.loc 2) (.int 0))) .nil)))
    .nil) .nil)
    (.cons (.ife (.cmp .eq (.loc 0) (.str "=")) (.cons (.ret (.blt .int (.cons (.cmp .eq (.loc 1) (.loc 2)) .nil)))
    .nil) .nil)
    (.cons (.ret (.blt .int (.cons (.ife (.cmp .eq (.loc 0) (.str "<")) (.cmp .lt (.loc 1) (.loc 2)) (.cmp .gt (.loc 1) (.loc 2))) .nil)))
    .nil))))))))))
theorem sc_by_sign : FnScope tb_by_sign.N ps_by_sign (defScope st_by_sign) :=
  ⟨by decide +kernel, by decide +kernel, by decide +kernel, by decide +kernel, by decide +kernel, by decide +kernel, by decide +kernel⟩
theorem ck_by_sign : chkSs tb_by_sign (defScope st_by_sign) ir_by_sign (defBody st_by_sign) = true := by decide +kernel
/-! part_of -/
abbrev st_part_of : Stmt := top 12
def tb_part_of : Tab := ⟨["text", "begin", "many"], fnL, glL.map (·.1), xsL, osL, true⟩
def ps_part_of : List Str := ["text", "begin", "many"]
abbrev m_part_of : Nat := 3
def ir_part_of : ISs :=
    (.cons (.ex (.call i_need (.cons (.and (.not (.call i_is_number (.cons (.loc 0) .nil))) (.and (.call i_is_number (.cons (.loc 1) .nil)) (.call i_is_number (.cons (.loc 2) .nil)))) (.cons (.str "kind") .nil))))
    (.cons (.ex (.call i_need (.cons (.and (.cmp .ge (.loc 1) (.int 1)) (.cmp .ge (.loc 2) (.int 0))) (.cons (.str "range") .nil))))
    (.cons (.ret (.sl (.loc 0) (.so (.bin .sub (.loc 1) (.int 1))) (.so (.bin .add (.bin .sub (.loc 1) (.int 1)) (.loc 2)))))
    .nil)))
theorem sc_part_of : FnScope tb_part_of.N ps_part_of (defScope st_part_of) :=
  ⟨by decide +kernel, by decide +kernel, by decide +kernel, by decide +kernel, by decide +kernel, by decide +kernel, by decide +kernel⟩
theorem ck_part_of : chkSs tb_part_of (defScope st_part_of) ir_part_of (defBody st_part_of) = true := by decide +kernel
/-! cell_of -/
abbrev st_cell_of : Stmt := top 13
def tb_cell_of : Tab := ⟨["rows", "name", "place"], fnL, glL.map (·.1), xsL, osL, true⟩
def ps_cell_of : List Str := ["rows", "name", "place"]
abbrev m_cell_of : Nat := 3
def ir_cell_of : ISs :=
    (.cons (.ex (.call i_need (.cons (.cmp .isin (.loc 1) (.loc 0)) (.cons (.str "norow") .nil))))
    (.cons (.ex (.call i_need (.cons (.call i_is_number (.cons (.loc 2) .nil)) (.cons (.str "kind") .nil))))
    (.cons (.ex (.call i_need (.cons (.cmp2 .le .lt (.int 0) (.loc 2) (.blt .len (.cons (.ix (.loc 0) (.loc 1)) .nil))) (.cons (.str "range") .nil))))
    (.cons (.ret (.ix (.ix (.loc 0) (.loc 1)) (.loc 2)))
    .nil))))
theorem sc_cell_of : FnScope tb_cell_of.N ps_cell_of (defScope st_cell_of) :=
  ⟨by decide +kernel, by decide +kernel, by decide +kernel, by decide +kernel, by decide +kernel, by decide +kernel, by decide +kernel⟩
theorem ck_cell_of : chkSs tb_cell_of (defScope st_cell_of) ir_cell_of (defBody st_cell_of) = true := by decide +kernel
/-! last_fault -/
abbrev st_last_fault : Stmt := top 15
def tb_last_fault : Tab := ⟨["word", "around"], fnL, glL.map (·.1), xsL, osL, true⟩
def ps_last_fault : List Str := ["word", "around"]
abbrev m_last_fault : Nat := 2
def ir_last_fault : ISs :=
    (.cons (.ex (.call i_need (.cons (.cmp .isnot (.fld (.loc 1) "fault_met") .non) (.cons (.str "empty") .nil))))
    (.cons (.ret (.ife (.cmp .eq (.loc 0) (.str "why")) (.ix (.fld (.loc 1) "fault_met") (.int 0)) (.ix (.fld (.loc 1) "fault_met") (.int 1))))
    .nil))
theorem sc_last_fault : FnScope tb_last_fault.N ps_last_fault (defScope st_last_fault) :=
  ⟨by decide +kernel, by decide +kernel, by decide +kernel, by decide +kernel, by decide +kernel, by decide +kernel, by decide +kernel⟩
theorem ck_last_fault : chkSs tb_last_fault (defScope st_last_fault) ir_last_fault (defBody st_last_fault) = true := by decide +kernel
/-! of_worths -/
abbrev st_of_worths : Stmt := top 16
def tb_of_worths : Tab := ⟨["word", "worths", "one", "other", "text", "begin", "many"], fnL, glL.map (·.1), xsL, osL, true⟩
def ps_of_worths : List Str := ["word", "worths"]
abbrev m_of_worths : Nat := 7
def ir_of_worths : ISs :=
    (.cons (.ife (.cmp .eq (.loc 0) (.str "not")) (.cons (.ex (.call i_need (.cons (.call i_is_number (.cons (.ix (.loc 1) (.int 0)) .nil)) (.cons (.str "kind") .nil))))
    (.cons (.ret (.blt .int (.cons (.cmp .eq (.ix (.loc 1) (.int 0)) (.int 0)) .nil)))
    .nil)) .nil)
    (.cons (.ife (.cmp .eq (.loc 0) (.str "size")) (.cons (.ex (.call i_need (.cons (.not (.call i_is_number (.cons (.ix (.loc 1) (.int 0)) .nil))) (.cons (.str "kind") .nil))))
    (.cons (.ret (.blt .len (.cons (.ix (.loc 1) (.int 0)) .nil)))
    .nil)) .nil)
    (.cons (.ife (.cmp .eq (.loc 0) (.str "part")) (.cons (.asg (.tp (.cons (.nm 4) (.cons (.nm 5) (.cons (.nm 6) .nil)))) (.loc 1))
    (.cons (.ret (.call i_part_of (.cons (.loc 4) (.cons (.loc 5) (.cons (.loc 6) .nil)))))
    .nil)) .nil)
    (.cons (.asg (.tp (.cons (.nm 2) (.cons (.nm 3) .nil))) (.loc 1))
    (.cons (.ret (.call i_by_sign (.cons (.loc 0) (.cons (.loc 2) (.cons (.loc 3) .nil)))))
    .nil)))))
theorem sc_of_worths : FnScope tb_of_worths.N ps_of_worths (defScope st_of_worths) :=
  ⟨by decide +kernel, by decide +kernel, by decide +kernel, by decide +kernel, by decide +kernel, by decide +kernel, by decide +kernel⟩
theorem ck_of_worths : chkSs tb_of_worths (defScope st_of_worths) ir_of_worths (defBody st_of_worths) = true := by decide +kernel
/-! come -/
abbrev st_come : Stmt := top 17
def tb_come : Tab := ⟨["expression", "around", "word", "parts", "name", "place", "part"], fnL, glL.map (·.1), xsL, osL, true⟩
def ps_come : List Str := ["expression", "around"]
abbrev m_come : Nat := 7
def ir_come : ISs :=
    (.cons (.asg (.st (.cons (.nm 2) .nil) 3) (.loc 0))
    (.cons (.ife (.cmp .isin (.loc 2) (.glo g_PLAIN)) (.cons (.ret (.ix (.loc 3) (.int 0)))
    .nil) .nil)
    (.cons (.ife (.cmp .isin (.loc 2) (.tup (.cons (.str "why") (.cons (.str "where") .nil)))) (.cons (.ret (.call i_last_fault (.cons (.loc 2) (.cons (.loc 1) .nil))))
    .nil) .nil)
    (.cons (.ife (.cmp .eq (.loc 2) (.str "box")) (.cons (.ex (.call i_need (.cons (.cmp .isin (.ix (.loc 3) (.int 0)) (.fld (.loc 1) "box_worths")) (.cons (.str "empty") .nil))))
    (.cons (.ret (.ix (.fld (.loc 1) "box_worths") (.ix (.loc 3) (.int 0))))
    .nil)) .nil)
    (.cons (.ife (.cmp .eq (.loc 2) (.str "fit")) (.cons (.ret (.call i_fit_of (.cons (.ix (.loc 3) (.int 0)) (.cons (.ix (.loc 3) (.int 1)) (.cons (.loc 1) .nil)))))
    .nil) .nil)
    (.cons (.ife (.cmp .eq (.loc 2) (.str "cell")) (.cons (.asg (.tp (.cons (.nm 4) (.cons (.nm 5) .nil))) (.loc 3))
    (.cons (.ret (.call i_cell_of (.cons (.fld (.loc 1) "row_worths") (.cons (.loc 4) (.cons (.call i_come (.cons (.loc 5) (.cons (.loc 1) .nil))) .nil)))))
    .nil)) .nil)
    (.cons (.ret (.call i_bounded (.cons (.call i_of_worths (.cons (.loc 2) (.cons (.fz (.compX (.call i_come (.cons (.loc 6) (.cons (.loc 1) .nil))) (.nm 6) (.val (.loc 3)) .no [6])) .nil))) .nil)))
    .nil)))))))
theorem sc_come : FnScope tb_come.N ps_come (defScope st_come) :=
  ⟨by decide +kernel, by decide +kernel, by decide +kernel, by decide +kernel, by decide +kernel, by decide +kernel, by decide +kernel⟩
theorem ck_come : chkSs tb_come (defScope st_come) ir_come (defBody st_come) = true := by decide +kernel
/-! fit_of -/
abbrev st_fit_of : Stmt := top 14
def tb_fit_of : Tab := ⟨["name", "part", "around", "worth", "box", "body"], fnL, glL.map (·.1), xsL, osL, true⟩
def ps_fit_of : List Str := ["name", "part", "around"]
abbrev m_fit_of : Nat := 6
def ir_fit_of : ISs :=
    (.cons (.ex (.call i_need (.cons (.cmp .isin (.loc 0) (.fld (.loc 2) "fit_bodies")) (.cons (.str "nofit") .nil))))
    (.cons (.asg (.nm 3) (.call i_come (.cons (.loc 1) (.cons (.loc 2) .nil))))
    (.cons (.ex (.call i_need (.cons (.cmp .lt (.fld (.loc 2) "deep") (.glo g_MOST_FITS)) (.cons (.str "deep") .nil))))
    (.cons (.asg (.tp (.cons (.nm 4) (.cons (.nm 5) .nil))) (.ix (.fld (.loc 2) "fit_bodies") (.loc 0)))
    (.cons (.ret (.call i_come (.cons (.loc 5) (.cons (.mth "within" (.loc 2) (.cons (.loc 4) (.cons (.loc 3) .nil))) .nil))))
    .nil)))))
theorem sc_fit_of : FnScope tb_fit_of.N ps_fit_of (defScope st_fit_of) :=
  ⟨by decide +kernel, by decide +kernel, by decide +kernel, by decide +kernel, by decide +kernel, by decide +kernel, by decide +kernel⟩
theorem ck_fit_of : chkSs tb_fit_of (defScope st_fit_of) ir_fit_of (defBody st_fit_of) = true := by decide +kernel
/-! Around.__init__ -/
abbrev st_Around___init__ : Stmt := mthS (top 7) 0
def tb_Around___init__ : Tab := ⟨["self", "boxes", "rows", "fits", "fault", "deep"], fnL, glL.map (·.1), xsL, osL, true⟩
def ps_Around___init__ : List Str := ["self", "boxes", "rows", "fits", "fault", "deep"]
abbrev m_Around___init__ : Nat := 6
def ir_Around___init__ : ISs :=
    (.cons (.setF (.loc 0) "box_worths" (.loc 1))
    (.cons (.setF (.loc 0) "row_worths" (.loc 2))
    (.cons (.setF (.loc 0) "fit_bodies" (.loc 3))
    (.cons (.setF (.loc 0) "fault_met" (.loc 4))
    (.cons (.setF (.loc 0) "deep" (.loc 5))
    .nil)))))
theorem sc_Around___init__ : FnScope tb_Around___init__.N ps_Around___init__ (defScope st_Around___init__) :=
  ⟨by decide +kernel, by decide +kernel, by decide +kernel, by decide +kernel, by decide +kernel, by decide +kernel, by decide +kernel⟩
theorem ck_Around___init__ : chkSs tb_Around___init__ (defScope st_Around___init__) ir_Around___init__ (defBody st_Around___init__) = true := by decide +kernel
/-! Around.within -/
abbrev st_Around_within : Stmt := mthS (top 7) 1
def tb_Around_within : Tab := ⟨["self", "box", "worth", "boxes"], fnL, glL.map (·.1), xsL, osL, true⟩
def ps_Around_within : List Str := ["self", "box", "worth"]
abbrev m_Around_within : Nat := 4
def ir_Around_within : ISs :=
    (.cons (.asg (.nm 3) (.blt .dictC (.cons (.fld (.loc 0) "box_worths") .nil)))
    (.cons (.asg (.sub (.loc 3) (.loc 1)) (.loc 2))
    (.cons (.ret (.mko "Around" (.cons (.loc 3) (.cons (.fld (.loc 0) "row_worths") (.cons (.fld (.loc 0) "fit_bodies") (.cons (.fld (.loc 0) "fault_met") (.cons (.bin .add (.fld (.loc 0) "deep") (.int 1)) .nil)))))))
    .nil)))
theorem sc_Around_within : FnScope tb_Around_within.N ps_Around_within (defScope st_Around_within) :=
  ⟨by decide +kernel, by decide +kernel, by decide +kernel, by decide +kernel, by decide +kernel, by decide +kernel, by decide +kernel⟩
theorem ck_Around_within : chkSs tb_Around_within (defScope st_Around_within) ir_Around_within (defBody st_Around_within) = true := by decide +kernel
/-! reckon -/
abbrev st_reckon : Stmt := top 18
def tb_reckon : Tab := ⟨["expression", "boxes", "rows", "fits", "fault", "around", "met"], fnL, glL.map (·.1), xsL, osL, true⟩
def ps_reckon : List Str := ["expression", "boxes", "rows", "fits", "fault"]
abbrev m_reckon : Nat := 7
def ir_reckon : ISs :=
    (.cons (.asg (.nm 5) (.mko "Around" (.cons (.or (.loc 1) (.dctZ .nil)) (.cons (.or (.loc 2) (.dctZ .nil)) (.cons (.or (.loc 3) (.dctZ .nil)) (.cons (.loc 4) (.cons (.int 0) .nil)))))))
    (.cons (.try_ (.cons (.ret (.tup (.cons (.str "worth") (.cons (.call i_come (.cons (.loc 0) (.cons (.loc 5) .nil))) .nil))))
    .nil) [("Fault", some 6, (.ret (.tup (.cons (.dat (.str "fault")) (.cons (.att "word") .nil)))))])
    .nil))
theorem sc_reckon : FnScope tb_reckon.N ps_reckon (defScope st_reckon) :=
  ⟨by decide +kernel, by decide +kernel, by decide +kernel, by decide +kernel, by decide +kernel, by decide +kernel, by decide +kernel⟩
theorem ck_reckon : chkSs tb_reckon (defScope st_reckon) ir_reckon (defBody st_reckon) = true := by decide +kernel
/-! Lpen -/
abbrev st_Lpen : Stmt := top 20
def tb_Lpen : Tab := ⟨["_law_script"], fnL, glL.map (·.1), xsL, osL, true⟩
def ps_Lpen : List Str := ["_law_script"]
abbrev m_Lpen : Nat := 1
abbrev ir_Lpen : ISs := irPen
theorem sc_Lpen : FnScope tb_Lpen.N ps_Lpen (defScope st_Lpen) :=
  ⟨by decide +kernel, by decide +kernel, by decide +kernel, by decide +kernel, by decide +kernel, by decide +kernel, by decide +kernel⟩
theorem ck_Lpen : chkSs tb_Lpen (defScope st_Lpen) ir_Lpen (defBody st_Lpen) = true := by decide +kernel
/-! Ldraw -/
abbrev st_Ldraw : Stmt := top 21
def tb_Ldraw : Tab := ⟨["_law_pen_here", "_law_many", "_law_at", "_law_cell", "_law_one", "_law_last", "_law_found", "_law_whole"], fnL, glL.map (·.1), xsL, osL, true⟩
def ps_Ldraw : List Str := ["_law_pen_here", "_law_many"]
abbrev m_Ldraw : Nat := 8
abbrev ir_Ldraw : ISs := irDraw
theorem sc_Ldraw : FnScope tb_Ldraw.N ps_Ldraw (defScope st_Ldraw) :=
  ⟨by decide +kernel, by decide +kernel, by decide +kernel, by decide +kernel, by decide +kernel, by decide +kernel, by decide +kernel⟩
theorem ck_Ldraw : chkSs tb_Ldraw (defScope st_Ldraw) ir_Ldraw (defBody st_Ldraw) = true := by decide +kernel
/-! Lnumber -/
abbrev st_Lnumber : Stmt := top 22
def tb_Lnumber : Tab := ⟨["_law_pen_here", "_law_some"], fnL, glL.map (·.1), xsL, osL, true⟩
def ps_Lnumber : List Str := ["_law_pen_here"]
abbrev m_Lnumber : Nat := 2
def ir_Lnumber : ISs :=
    (.cons (.asg (.nm 1) (.fz (.disp (.cons (.int 0) (.cons (.int 1) (.cons (.int 2) (.cons (.int 3) (.cons (.int 5) (.cons (.int 7) (.cons (.int 10) (.cons (.bin .pow (.int 10) (.int 12)) (.cons (.bin .pow (.int 10) (.int 6)) (.cons (.call i_Ldraw (.cons (.loc 0) (.cons (.int 100) .nil))) .nil)))))))))))))
    (.cons (.ret (.ix (.loc 1) (.call i_Ldraw (.cons (.loc 0) (.cons (.ix (.fz (.disp (.cons (.int 10) (.cons (.int 6) .nil)))) (.call i_Ldraw (.cons (.loc 0) (.cons (.int 2) .nil)))) .nil)))))
    .nil))
theorem sc_Lnumber : FnScope tb_Lnumber.N ps_Lnumber (defScope st_Lnumber) :=
  ⟨by decide +kernel, by decide +kernel, by decide +kernel, by decide +kernel, by decide +kernel, by decide +kernel, by decide +kernel⟩
theorem ck_Lnumber : chkSs tb_Lnumber (defScope st_Lnumber) ir_Lnumber (defBody st_Lnumber) = true := by decide +kernel
/-! Lbounded -/
abbrev st_Lbounded : Stmt := top 24
def tb_Lbounded : Tab := ⟨["_law_found"], fnL, glL.map (·.1), xsL, osL, true⟩
def ps_Lbounded : List Str := ["_law_found"]
abbrev m_Lbounded : Nat := 1
def ir_Lbounded : ISs :=
    (.cons (.ife (.and (.cmp .eq (.ix (.loc 0) (.int 0)) (.str "worth")) (.and (.isi (.ix (.loc 0) (.int 1)) .int) (.cmp .gt (.blt .abs (.cons (.ix (.loc 0) (.int 1)) .nil)) (.bin .pow (.int 10) (.int 12))))) (.cons (.ret (.tup (.cons (.str "fault") (.cons (.str "great") .nil))))
    .nil) .nil)
    (.cons (.ife (.and (.cmp .eq (.ix (.loc 0) (.int 0)) (.str "worth")) (.and (.isi (.ix (.loc 0) (.int 1)) .str) (.cmp .gt (.blt .len (.cons (.ix (.loc 0) (.int 1)) .nil)) (.int 100)))) (.cons (.ret (.tup (.cons (.str "fault") (.cons (.str "long") .nil))))
    .nil) .nil)
    (.cons (.ret (.loc 0))
    .nil)))
theorem sc_Lbounded : FnScope tb_Lbounded.N ps_Lbounded (defScope st_Lbounded) :=
  ⟨by decide +kernel, by decide +kernel, by decide +kernel, by decide +kernel, by decide +kernel, by decide +kernel, by decide +kernel⟩
theorem ck_Lbounded : chkSs tb_Lbounded (defScope st_Lbounded) ir_Lbounded (defBody st_Lbounded) = true := by decide +kernel
/-! Ltwo -/
abbrev st_Ltwo : Stmt := top 26
def tb_Ltwo : Tab := ⟨["_law_word", "_law_one", "_law_other", "_law_both"], fnL, glL.map (·.1), xsL, osL, true⟩
def ps_Ltwo : List Str := ["_law_word", "_law_one", "_law_other"]
abbrev m_Ltwo : Nat := 4
def ir_Ltwo : ISs :=
    (.cons (.ife (.and (.cmp .isin (.loc 0) (.tup (.cons (.str "/") (.cons (.str "rest") .nil)))) (.cmp .eq (.loc 2) (.int 0))) (.cons (.ret (.tup (.cons (.str "fault") (.cons (.str "nought") .nil))))
    .nil) .nil)
    (.cons (.ife (.cmp .eq (.loc 0) (.str "+")) (.cons (.ret (.tup (.cons (.str "worth") (.cons (.bin .add (.loc 1) (.loc 2)) .nil))))
    .nil) .nil)
    (.cons (.ife (.cmp .eq (.loc 0) (.str "-")) (.cons (.ret (.tup (.cons (.str "worth") (.cons (.bin .sub (.loc 1) (.loc 2)) .nil))))
    .nil) .nil)
    (.cons (.ife (.cmp .eq (.loc 0) (.str "*")) (.cons (.ret (.tup (.cons (.str "worth") (.cons (.bin .mul (.loc 1) (.loc 2)) .nil))))
    .nil) .nil)
    (.cons (.ife (.cmp .eq (.loc 0) (.str "/")) (.cons (.ret (.tup (.cons (.str "worth") (.cons (.bin .fdiv (.loc 1) (.loc 2)) .nil))))
    .nil) .nil)
    (.cons (.ife (.cmp .eq (.loc 0) (.str "rest")) (.cons (.ret (.tup (.cons (.str "worth") (.cons (.bin .sub (.loc 1) (.bin .mul (.bin .fdiv (.loc 1) (.loc 2)) (.loc 2))) .nil))))
    .nil) .nil)
    (.cons (.ife (.cmp .eq (.loc 0) (.str "not")) (.cons (.ret (.tup (.cons (.str "worth") (.cons (.blt .int (.cons (.cmp .eq (.loc 1) (.int 0)) .nil)) .nil))))
    .nil) .nil)
    (.cons (.ife (.cmp .isin (.loc 0) (.tup (.cons (.str "and") (.cons (.str "or") .nil)))) (.cons (.asg (.nm 3) (.bin .add (.blt .int (.cons (.cmp .ne (.loc 1) (.int 0)) .nil)) (.blt .int (.cons (.cmp .ne (.loc 2) (.int 0)) .nil))))
    (.cons (.ret (.tup (.cons (.str "worth") (.cons (.blt .int (.cons (.or (.cmp .eq (.loc 3) (.int 2)) (.and (.cmp .eq (.loc 0) (.str "or")) (.cmp .eq (.loc 3) (.int 1)))) .nil)) .nil))))
    .nil)) .nil)
    (.cons (.ife (.cmp .eq (.loc 0) (.str "=")) (.cons (.ret (.tup (.cons (.str "worth") (.cons (.blt .int (.cons (.cmp .eq (.loc 1) (.loc 2)) .nil)) .nil))))
    .nil) .nil)
    (.cons (.ret (.tup (.cons (.str "worth") (.cons (.blt .int (.cons (.ix (.fz (.disp (.cons (.cmp .gt (.loc 1) (.loc 2)) (.cons (.cmp .lt (.loc 1) (.loc 2)) .nil)))) (.blt .int (.cons (.cmp .eq (.loc 0) (.str "<")) .nil))) .nil)) .nil))))
    .nil))))))))))
theorem sc_Ltwo : FnScope tb_Ltwo.N ps_Ltwo (defScope st_Ltwo) :=
  ⟨by decide +kernel, by decide +kernel, by decide +kernel, by decide +kernel, by decide +kernel, by decide +kernel, by decide +kernel⟩
theorem ck_Ltwo : chkSs tb_Ltwo (defScope st_Ltwo) ir_Ltwo (defBody st_Ltwo) = true := by decide +kernel
/-! Lcomes -/
abbrev st_Lcomes : Stmt := top 25
def tb_Lcomes : Tab := ⟨["_law_word", "_law_e", "_law_worths", "_law_env", "_law_all_numbers", "_law_all_texts", "_law_row", "_law_one"], fnL, glL.map (·.1), xsL, osL, true⟩
def ps_Lcomes : List Str := ["_law_word", "_law_e", "_law_worths", "_law_env"]
abbrev m_Lcomes : Nat := 8
def ir_Lcomes : ISs :=
    (.cons (.asg (.nm 4) (.cmp .eq (.fz (.cmpC (.loc 7) (.nm 7) 2 (.so (.not (.isi (.loc 7) .int))) [7])) (.fz (.disp .nil))))
    (.cons (.asg (.nm 5) (.cmp .eq (.fz (.cmpC (.loc 7) (.nm 7) 2 (.so (.not (.isi (.loc 7) .str))) [7])) (.fz (.disp .nil))))
    (.cons (.ife (.cmp .eq (.loc 0) (.str "cell")) (.cons (.ife (.cmp .notin (.ix (.loc 1) (.int 1)) (.ix (.loc 3) (.str "rows"))) (.cons (.ret (.tup (.cons (.str "fault") (.cons (.str "norow") .nil))))
    .nil) .nil)
    (.cons (.ife (.not (.loc 4)) (.cons (.ret (.tup (.cons (.str "fault") (.cons (.str "kind") .nil))))
    .nil) .nil)
    (.cons (.asg (.nm 6) (.ix (.ix (.loc 3) (.str "rows")) (.ix (.loc 1) (.int 1))))
    (.cons (.ret (.ife (.cmp2 .le .lt (.int 0) (.ix (.loc 2) (.int 0)) (.blt .len (.cons (.loc 6) .nil))) (.tup (.cons (.str "worth") (.cons (.ix (.loc 6) (.ix (.loc 2) (.int 0))) .nil))) (.tup (.cons (.str "fault") (.cons (.str "range") .nil)))))
    .nil)))) .nil)
    (.cons (.ife (.cmp .eq (.loc 0) (.str "part")) (.cons (.ife (.or (.not (.isi (.ix (.loc 2) (.int 0)) .str)) (.or (.isi (.ix (.loc 2) (.int 1)) .str) (.isi (.ix (.loc 2) (.int 2)) .str))) (.cons (.ret (.tup (.cons (.str "fault") (.cons (.str "kind") .nil))))
    .nil) .nil)
    (.cons (.ife (.or (.cmp .lt (.ix (.loc 2) (.int 1)) (.int 1)) (.cmp .lt (.ix (.loc 2) (.int 2)) (.int 0))) (.cons (.ret (.tup (.cons (.str "fault") (.cons (.str "range") .nil))))
    .nil) .nil)
    (.cons (.ret (.tup (.cons (.str "worth") (.cons (.sl (.ix (.loc 2) (.int 0)) (.so (.bin .sub (.ix (.loc 2) (.int 1)) (.int 1))) (.so (.bin .add (.bin .sub (.ix (.loc 2) (.int 1)) (.int 1)) (.ix (.loc 2) (.int 2))))) .nil))))
    .nil))) .nil)
    (.cons (.ife (.cmp .eq (.loc 0) (.str "size")) (.cons (.ret (.ife (.loc 5) (.tup (.cons (.str "worth") (.cons (.blt .len (.cons (.ix (.loc 2) (.int 0)) .nil)) .nil))) (.tup (.cons (.str "fault") (.cons (.str "kind") .nil)))))
    .nil) .nil)
    (.cons (.ife (.or (.and (.cmp .isin (.loc 0) (.tup (.cons (.str "+") (.cons (.str "<") (.cons (.str "=") (.cons (.str ">") .nil)))))) (.loc 5)) (.loc 4)) (.cons (.ret (.call i_Ltwo (.cons (.loc 0) (.cons (.ix (.loc 2) (.int 0)) (.cons (.ix (.loc 2) (.neg (.int 1))) .nil)))))
    .nil) .nil)
    (.cons (.ret (.tup (.cons (.str "fault") (.cons (.str "kind") .nil))))
    .nil)))))))
theorem sc_Lcomes : FnScope tb_Lcomes.N ps_Lcomes (defScope st_Lcomes) :=
  ⟨by decide +kernel, by decide +kernel, by decide +kernel, by decide +kernel, by decide +kernel, by decide +kernel, by decide +kernel⟩
theorem ck_Lcomes : chkSs tb_Lcomes (defScope st_Lcomes) ir_Lcomes (defBody st_Lcomes) = true := by decide +kernel
/-! Lreckon -/
abbrev st_Lreckon : Stmt := top 23
def tb_Lreckon : Tab := ⟨["_law_e", "_law_env", "_law_deep", "_law_word", "_law_worths", "_law_part", "_law_found", "_law_box", "_law_body", "_law_inner"], fnL, glL.map (·.1), xsL, osL, true⟩
def ps_Lreckon : List Str := ["_law_e", "_law_env", "_law_deep"]
abbrev m_Lreckon : Nat := 10
def ir_Lreckon : ISs :=
    (.cons (.asg (.nm 3) (.ix (.loc 0) (.int 0)))
    (.cons (.ife (.cmp .isin (.loc 3) (.tup (.cons (.str "number") (.cons (.str "text") .nil)))) (.cons (.ret (.tup (.cons (.str "worth") (.cons (.ix (.loc 0) (.int 1)) .nil))))
    .nil) .nil)
    (.cons (.ife (.cmp .isin (.loc 3) (.tup (.cons (.str "why") (.cons (.str "where") .nil)))) (.cons (.ife (.cmp .is (.ix (.loc 1) (.str "fault")) .non) (.cons (.ret (.tup (.cons (.str "fault") (.cons (.str "empty") .nil))))
    .nil) .nil)
    (.cons (.ret (.tup (.cons (.str "worth") (.cons (.ix (.ix (.loc 1) (.str "fault")) (.blt .int (.cons (.cmp .eq (.loc 3) (.str "where")) .nil))) .nil))))
    .nil)) .nil)
    (.cons (.ife (.cmp .eq (.loc 3) (.str "box")) (.cons (.ret (.ife (.cmp .isin (.ix (.loc 0) (.int 1)) (.ix (.loc 1) (.str "boxes"))) (.tup (.cons (.str "worth") (.cons (.ix (.ix (.loc 1) (.str "boxes")) (.ix (.loc 0) (.int 1))) .nil))) (.tup (.cons (.str "fault") (.cons (.str "empty") .nil)))))
    .nil) .nil)
    (.cons (.ife (.and (.cmp .eq (.loc 3) (.str "fit")) (.cmp .notin (.ix (.loc 0) (.int 1)) (.ix (.loc 1) (.str "fits")))) (.cons (.ret (.tup (.cons (.str "fault") (.cons (.str "nofit") .nil))))
    .nil) .nil)
    (.cons (.asg (.nm 4) (.mk (.disp .nil)))
    (.cons (.for_ (.nm 5) (.val (.ife (.cmp .isin (.loc 3) (.tup (.cons (.str "cell") (.cons (.str "fit") .nil)))) (.sl (.loc 0) (.so (.int 2)) .no) (.sl (.loc 0) (.so (.int 1)) .no))) (.cons (.asg (.nm 6) (.call i_Lreckon (.cons (.loc 5) (.cons (.loc 1) (.cons (.loc 2) .nil)))))
    (.cons (.ife (.cmp .eq (.ix (.loc 6) (.int 0)) (.str "fault")) (.cons (.ret (.loc 6))
    .nil) .nil)
    (.cons (.ex (.met .append (.loc 4) (.cons (.ix (.loc 6) (.int 1)) .nil)))
    .nil))))
    (.cons (.ife (.and (.cmp .eq (.loc 3) (.str "fit")) (.cmp .gt (.loc 2) (.int 19))) (.cons (.ret (.tup (.cons (.str "fault") (.cons (.str "deep") .nil))))
    .nil) .nil)
    (.cons (.ife (.cmp .eq (.loc 3) (.str "fit")) (.cons (.asg (.tp (.cons (.nm 7) (.cons (.nm 8) .nil))) (.ix (.ix (.loc 1) (.str "fits")) (.ix (.loc 0) (.int 1))))
    (.cons (.asg (.nm 9) (.blt .dictC (.cons (.loc 1) .nil)))
    (.cons (.asg (.sub (.loc 9) (.str "boxes")) (.blt .dict (.cons (.ix (.loc 1) (.str "boxes")) .nil)))
    (.cons (.asg (.sub (.ix (.loc 9) (.str "boxes")) (.loc 7)) (.ix (.loc 4) (.int 0)))
    (.cons (.ret (.call i_Lreckon (.cons (.loc 8) (.cons (.loc 9) (.cons (.bin .add (.loc 2) (.int 1)) .nil)))))
    .nil))))) .nil)
    (.cons (.ret (.call i_Lbounded (.cons (.call i_Lcomes (.cons (.loc 3) (.cons (.loc 0) (.cons (.loc 4) (.cons (.loc 1) .nil))))) .nil)))
    .nil))))))))))
theorem sc_Lreckon : FnScope tb_Lreckon.N ps_Lreckon (defScope st_Lreckon) :=
  ⟨by decide +kernel, by decide +kernel, by decide +kernel, by decide +kernel, by decide +kernel, by decide +kernel, by decide +kernel⟩
theorem ck_Lreckon : chkSs tb_Lreckon (defScope st_Lreckon) ir_Lreckon (defBody st_Lreckon) = true := by decide +kernel
/-! Lsigned -/
abbrev st_Lsigned : Stmt := top 27
def tb_Lsigned : Tab := ⟨["_law_pen_here", "_law_number_here"], fnL, glL.map (·.1), xsL, osL, true⟩
def ps_Lsigned : List Str := ["_law_pen_here"]
abbrev m_Lsigned : Nat := 2
def ir_Lsigned : ISs :=
    (.cons (.asg (.nm 1) (.tup (.cons (.str "number") (.cons (.call i_Lnumber (.cons (.loc 0) .nil)) .nil))))
    (.cons (.ret (.ix (.fz (.disp (.cons (.loc 1) (.cons (.tup (.cons (.str "-") (.cons (.tup (.cons (.str "number") (.cons (.int 0) .nil))) (.cons (.loc 1) .nil)))) .nil)))) (.bin .fdiv (.call i_Ldraw (.cons (.loc 0) (.cons (.int 3) .nil))) (.int 2))))
    .nil))
theorem sc_Lsigned : FnScope tb_Lsigned.N ps_Lsigned (defScope st_Lsigned) :=
  ⟨by decide +kernel, by decide +kernel, by decide +kernel, by decide +kernel, by decide +kernel, by decide +kernel, by decide +kernel⟩
theorem ck_Lsigned : chkSs tb_Lsigned (defScope st_Lsigned) ir_Lsigned (defBody st_Lsigned) = true := by decide +kernel
/-! Lnumbers -/
abbrev st_Lnumbers : Stmt := top 28
def tb_Lnumbers : Tab := ⟨["_law_pen_here", "_law_deep", "_law_signs", "_law_way"], fnL, glL.map (·.1), xsL, osL, true⟩
def ps_Lnumbers : List Str := ["_law_pen_here", "_law_deep"]
abbrev m_Lnumbers : Nat := 4
def ir_Lnumbers : ISs :=
    (.cons (.ife (.cmp .lt (.loc 1) (.int 3)) (.cons (.ret (.call i_Lsigned (.cons (.loc 0) .nil)))
    .nil) .nil)
    (.cons (.asg (.nm 2) (.fz (.disp (.cons (.str "+") (.cons (.str "-") (.cons (.str "*") (.cons (.str "/") (.cons (.str "rest") (.cons (.str "<") (.cons (.str "=") (.cons (.str ">") (.cons (.str "and") (.cons (.str "or") .nil)))))))))))))
    (.cons (.asg (.nm 3) (.call i_Ldraw (.cons (.loc 0) (.cons (.int 12) .nil))))
    (.cons (.ife (.cmp .gt (.loc 3) (.int 9)) (.cons (.ret (.ix (.fz (.disp (.cons (.tup (.cons (.str "not") (.cons (.call i_Lnumbers (.cons (.loc 0) (.cons (.bin .sub (.loc 1) (.int 1)) .nil))) .nil))) (.cons (.call i_Lsigned (.cons (.loc 0) .nil)) .nil)))) (.bin .sub (.loc 3) (.int 10))))
    .nil) .nil)
    (.cons (.ret (.tup (.cons (.ix (.loc 2) (.loc 3)) (.cons (.call i_Lnumbers (.cons (.loc 0) (.cons (.bin .sub (.loc 1) (.int 1)) .nil))) (.cons (.call i_Lnumbers (.cons (.loc 0) (.cons (.bin .sub (.loc 1) (.int 2)) .nil))) .nil)))))
    .nil)))))
theorem sc_Lnumbers : FnScope tb_Lnumbers.N ps_Lnumbers (defScope st_Lnumbers) :=
  ⟨by decide +kernel, by decide +kernel, by decide +kernel, by decide +kernel, by decide +kernel, by decide +kernel, by decide +kernel⟩
theorem ck_Lnumbers : chkSs tb_Lnumbers (defScope st_Lnumbers) ir_Lnumbers (defBody st_Lnumbers) = true := by decide +kernel
/-! Lright -/
abbrev st_Lright : Stmt := top 29
def tb_Lright : Tab := ⟨["_law_e", "_law_kept", "_law_due"], fnL, glL.map (·.1), xsL, osL, true⟩
def ps_Lright : List Str := ["_law_e"]
abbrev m_Lright : Nat := 3
def ir_Lright : ISs :=
    (.cons (.asg (.nm 1) (.blt .repr (.cons (.loc 0) .nil)))
    (.cons (.asg (.nm 2) (.blt .repr (.cons (.call i_Lreckon (.cons (.loc 0) (.cons (.dctZ (.cons (.str "boxes") (.dctZ .nil) (.cons (.str "rows") (.dctZ .nil) (.cons (.str "fits") (.dctZ .nil) (.cons (.str "fault") .non .nil))))) (.cons (.int 0) .nil)))) .nil)))
    (.cons (.ret (.and (.cmp .eq (.blt .repr (.cons (.callK 1 (.cons (.loc 0) .nil) .nil) .nil)) (.loc 2)) (.and (.cmp .eq (.blt .repr (.cons (.callK 0 (.cons (.loc 0) .nil) (.cons (.dctZ .nil) (.cons (.dctZ .nil) (.cons (.dctZ .nil) (.cons .non .nil))))) .nil)) (.loc 2)) (.cmp .eq (.blt .repr (.cons (.loc 0) .nil)) (.loc 1)))))
    .nil)))
theorem sc_Lright : FnScope tb_Lright.N ps_Lright (defScope st_Lright) :=
  ⟨by decide +kernel, by decide +kernel, by decide +kernel, by decide +kernel, by decide +kernel, by decide +kernel, by decide +kernel⟩
theorem ck_Lright : chkSs tb_Lright (defScope st_Lright) ir_Lright (defBody st_Lright) = true := by decide +kernel
/-! law -/
abbrev st_law : Stmt := top 30
def tb_law : Tab := ⟨["_law_script", "_law_pen_here", "_law_turn", "_law_some", "_law_sign", "_law_one", "_law_other"], fnL, glL.map (·.1), xsL, osL, true⟩
def ps_law : List Str := ["_law_script"]
abbrev m_law : Nat := 7
def ir_law : ISs :=
    (.cons (.asg (.nm 1) (.call i_Lpen (.cons (.loc 0) .nil)))
    (.cons (.for_ (.nm 2) (.rng (.cons (.int 40) .nil)) (.cons (.ife (.not (.call i_Lright (.cons (.call i_Lnumbers (.cons (.loc 1) (.cons (.bin .add (.int 2) (.call i_Ldraw (.cons (.loc 1) (.cons (.int 5) .nil)))) .nil))) .nil))) (.cons (.ret (.bl false))
    .nil) .nil)
    .nil))
    (.cons (.asg (.nm 3) (.fz (.disp (.cons (.tup (.cons (.str "number") (.cons (.int 0) .nil))) (.cons (.tup (.cons (.str "number") (.cons (.int 1) .nil))) (.cons (.tup (.cons (.str "number") (.cons (.int 7) .nil))) (.cons (.tup (.cons (.str "number") (.cons (.bin .pow (.int 10) (.int 12)) .nil))) (.cons (.tup (.cons (.str "number") (.cons (.bin .add (.bin .pow (.int 10) (.int 6)) (.int 1)) .nil))) .nil))))))))
    (.cons (.asg (.nm 3) (.fz (.cat (.loc 3) (.fz (.disp (.cons (.call i_Lsigned (.cons (.loc 1) .nil)) (.cons (.tup (.cons (.str "-") (.cons (.tup (.cons (.str "number") (.cons (.int 0) .nil))) (.cons (.tup (.cons (.str "number") (.cons (.int 3) .nil))) .nil)))) (.cons (.tup (.cons (.str "-") (.cons (.tup (.cons (.str "number") (.cons (.int 0) .nil))) (.cons (.tup (.cons (.str "number") (.cons (.bin .pow (.int 10) (.int 12)) .nil))) .nil)))) .nil))))))))
    (.cons (.for_ (.nm 4) (.val (.tup (.cons (.str "+") (.cons (.str "-") (.cons (.str "*") (.cons (.str "/") (.cons (.str "rest") (.cons (.str "<") (.cons (.str "=") (.cons (.str ">") (.cons (.str "and") (.cons (.str "or") .nil)))))))))))) (.cons (.for_ (.nm 5) (.val (.loc 3)) (.cons (.for_ (.nm 6) (.val (.loc 3)) (.cons (.ife (.not (.call i_Lright (.cons (.tup (.cons (.loc 4) (.cons (.loc 5) (.cons (.loc 6) .nil)))) .nil))) (.cons (.ret (.bl false))
    .nil) .nil)
    .nil))
    .nil))
    .nil))
    (.cons (.ret (.and (.cmp .eq (.callK 1 (.cons (.tup (.cons (.str "not") (.cons (.tup (.cons (.str "number") (.cons (.int 0) .nil))) .nil))) .nil) .nil) (.tup (.cons (.str "worth") (.cons (.int 1) .nil)))) (.cmp .eq (.callK 1 (.cons (.tup (.cons (.str "number") (.cons (.bin .pow (.int 10) (.int 12)) .nil))) .nil) .nil) (.tup (.cons (.str "worth") (.cons (.bin .pow (.int 10) (.int 12)) .nil))))))
    .nil))))))
theorem sc_law : FnScope tb_law.N ps_law (defScope st_law) :=
  ⟨by decide +kernel, by decide +kernel, by decide +kernel, by decide +kernel, by decide +kernel, by decide +kernel, by decide +kernel⟩
theorem ck_law : chkSs tb_law (defScope st_law) ir_law (defBody st_law) = true := by decide +kernel
/-! the table -/
def tabF : List (Nat × ISs) := [(m_need, ir_need), (m_is_number, ir_is_number), (m_bounded, ir_bounded), (m_by_sign, ir_by_sign), (m_part_of, ir_part_of), (m_cell_of, ir_cell_of), (m_last_fault, ir_last_fault), (m_of_worths, ir_of_worths), (m_come, ir_come), (m_fit_of, ir_fit_of), (m_Lpen, ir_Lpen), (m_Ldraw, ir_Ldraw), (m_Lnumber, ir_Lnumber), (m_Lbounded, ir_Lbounded), (m_Ltwo, ir_Ltwo), (m_Lcomes, ir_Lcomes), (m_Lreckon, ir_Lreckon), (m_Lsigned, ir_Lsigned), (m_Lnumbers, ir_Lnumbers), (m_Lright, ir_Lright)]
def tabX : List (Nat × ISs) := [(m_Around___init__, ir_Around___init__), (m_Around_within, ir_Around_within), (m_reckon, ir_reckon)]
abbrev wf : Nat := 42
def PF (n : Nat) : Nat → List Va → Sto → R Va := phiF (cgl glL) xsL osL wf (tabF ++ tabX) n
abbrev CF (n : Nat) : Cfg := ⟨PF n, cgl glL, wf, xsL, osL⟩
theorem at_need (n : Nat) : PF (n + 1) i_need = runF (CF n) 2 ir_need := rfl
theorem at_is_number (n : Nat) : PF (n + 1) i_is_number = runF (CF n) 1 ir_is_number := rfl
theorem at_bounded (n : Nat) : PF (n + 1) i_bounded = runF (CF n) 1 ir_bounded := rfl
theorem at_by_sign (n : Nat) : PF (n + 1) i_by_sign = runF (CF n) 3 ir_by_sign := rfl
theorem at_part_of (n : Nat) : PF (n + 1) i_part_of = runF (CF n) 3 ir_part_of := rfl
theorem at_cell_of (n : Nat) : PF (n + 1) i_cell_of = runF (CF n) 3 ir_cell_of := rfl
theorem at_last_fault (n : Nat) : PF (n + 1) i_last_fault = runF (CF n) 2 ir_last_fault := rfl
theorem at_of_worths (n : Nat) : PF (n + 1) i_of_worths = runF (CF n) 7 ir_of_worths := rfl
theorem at_come (n : Nat) : PF (n + 1) i_come = runF (CF n) 7 ir_come := rfl
theorem at_fit_of (n : Nat) : PF (n + 1) i_fit_of = runF (CF n) 6 ir_fit_of := rfl
theorem at_Lpen (n : Nat) : PF (n + 1) i_Lpen = runF (CF n) 1 ir_Lpen := rfl
theorem at_Ldraw (n : Nat) : PF (n + 1) i_Ldraw = runF (CF n) 8 ir_Ldraw := rfl
theorem at_Lnumber (n : Nat) : PF (n + 1) i_Lnumber = runF (CF n) 2 ir_Lnumber := rfl
theorem at_Lbounded (n : Nat) : PF (n + 1) i_Lbounded = runF (CF n) 1 ir_Lbounded := rfl
theorem at_Ltwo (n : Nat) : PF (n + 1) i_Ltwo = runF (CF n) 4 ir_Ltwo := rfl
theorem at_Lcomes (n : Nat) : PF (n + 1) i_Lcomes = runF (CF n) 8 ir_Lcomes := rfl
theorem at_Lreckon (n : Nat) : PF (n + 1) i_Lreckon = runF (CF n) 10 ir_Lreckon := rfl
theorem at_Lsigned (n : Nat) : PF (n + 1) i_Lsigned = runF (CF n) 2 ir_Lsigned := rfl
theorem at_Lnumbers (n : Nat) : PF (n + 1) i_Lnumbers = runF (CF n) 4 ir_Lnumbers := rfl
theorem at_Lright (n : Nat) : PF (n + 1) i_Lright = runF (CF n) 3 ir_Lright := rfl
theorem at_Around___init__ (n : Nat) : PF (n + 1) i_Around___init__ = runF (CF n) 6 ir_Around___init__ := rfl
theorem at_Around_within (n : Nat) : PF (n + 1) i_Around_within = runF (CF n) 4 ir_Around_within := rfl
theorem at_reckon (n : Nat) : PF (n + 1) i_reckon = runF (CF n) 7 ir_reckon := rfl
end Nb.Lw

namespace Nb.Lw
open PySem L2 Nb
/-! ### steps of runs that may let a Fault out -/
def flt (w : Str) : Xn := ⟨"Fault", [("word", .str w)]⟩
/-- a worth or a fault -/
def rsV (r : Except Str PyData) (S : Sto) : R Va := match r with
  | .ok v => .ok (.d v) S
  | .error w => .ex (flt w) S
def rtR (r : R Va) : R Fl := r.bind fun v S => .ok (.rt v) S
theorem x_ret' {C : Cfg} {e : IE} {r : ISs} {η : En} {S : Sto} : execs C (.cons (.ret e) r) η S = rtR (ev C e η S) := by
  rw [execs, exec, rtR]
  cases ev C e η S <;> rfl
theorem x_F {C : Cfg} {c : IE} {a r : ISs} {η : En} {S : Sto} (h : ev C c η S = .ok (.d (.bool false)) S) : execs C (.cons (.ife c a .nil) r) η S = execs C r η S :=
  x_nx (by rw [x_if h, if_neg Bool.false_ne_true, x_end])
theorem x_T {C : Cfg} {c : IE} {a b r : ISs} {η : En} {S : Sto} {q : R Va} (h : ev C c η S = .ok (.d (.bool true)) S) (ha : execs C a η S = rtR q) : execs C (.cons (.ife c a b) r) η S = rtR q := by
  rw [execs, x_if h, if_pos rfl, ha, rtR]
  cases q <;> rfl
/-- both suites go on -/
theorem x_iB {C : Cfg} {c : IE} {a b r : ISs} {t : Bool} {η : En} {S : Sto} (h : ev C c η S = .ok (.d (.bool t)) S) : execs C (.cons (.ife c a b) r) η S = (if t then execs C a η S else execs C b η S).bind fun fl S1 => match fl with
    | .nx η1 => execs C r η1 S1
    | .rt v => .ok (.rt v) S1 := by
  (rw [execs, x_if h]) <;> rfl
theorem runF_ex {C : Cfg} {m : Nat} {b : ISs} {vs : List Va} {S : Sto} {x : Xn} (h : execs C b (vs.map some ++ List.replicate (m - vs.length) none) S = .ex x S) : runF C m b vs S = .ex x S := by
  unfold runF
  rw [h]
  show trimE S.length x S = _
  unfold trimE
  rw [List.take_length]
  split <;> rfl
theorem run_q {C : Cfg} {m : Nat} {b : ISs} {vs : List Va} {S : Sto} {r : Except Str PyData} (h : execs C b (vs.map some ++ List.replicate (m - vs.length) none) S = rtR (rsV r S)) : runF C m b vs S = rsV r S := by
  cases r with
  | ok v => rw [runF_rt h]; exact trim_same rfl
  | error w => exact runF_ex h
theorem ev_call {C : Cfg} {f : Nat} {es : IEs} {η : En} {S S1 : Sto} {l : List Va} (h : evL C es η S = .ok l S1) : ev C (.call f es) η S = C.Φ f l S1 := by rw [ev, h, R.bind_ok]
section
variable {n : Nat} {S : Sto} {η : En} {C : Cfg}
theorem F_need {b : Bool} {w : Str} : PF (n + 1) i_need [.d (.bool b), .d (.str w)] S = if b then .ok (.d .none) S else .ex (flt w) S := by
  rw [at_need]
  cases b with
  | true => exact (runF_nx (η := [some (.d (.bool true)), some (.d (.str w))]) (by kernel_rfl)).trans (trim_same rfl)
  | false => exact runF_ex (by kernel_rfl)
theorem x_need {c : IE} {w : Str} {r : ISs} {b : Bool} (h : ev (CF (n + 1)) c η S = .ok (.d (.bool b)) S) :
    execs (CF (n + 1)) (.cons (.ex (.call i_need (.cons c (.cons (.str w) .nil)))) r) η S = if b then execs (CF (n + 1)) r η S else .ex (flt w) S := by
  have e : evL (CF (n + 1)) (.cons c (.cons (.str w) .nil)) η S = .ok [.d (.bool b), .d (.str w)] S := by
    rw [evL, h, R.bind_ok, evL, ev, R.bind_ok, evL, R.bind_ok, R.bind_ok]
  rw [execs, exec, ev_call e]
  show ((PF (n + 1) i_need _ S).bind _).bind _ = _
  rw [F_need]
  cases b <;> rfl
end
/-! ### worths and signs -/
inductive Wo where
  | n (i : Int)
  | t (s : Str)
def Wo.g : Wo → PyData
  | .n i => .int i
  | .t s => .str s
def Wo.isN : Wo → Bool
  | .n _ => true
  | .t _ => false
def Wo.ok : Wo → Prop
  | .n i => i.natAbs ≤ 1000000000000
  | .t s => s.length ≤ 100
inductive Sg where
  | add | sub | mul | div | rest | lt | eq | gt | and | or
def Sg.g : Sg → Str
  | .add => "+" | .sub => "-" | .mul => "*" | .div => "/" | .rest => "rest" | .lt => "<" | .eq => "=" | .gt => ">" | .and => "and" | .or => "or"
def b2i (b : Bool) : Wo := .n (if b then 1 else 0)
abbrev X := Except Str Wo
def bsN (s : Sg) (i j : Int) : X := match s with
  | .add => .ok (.n (i + j))
  | .sub => .ok (.n (i - j))
  | .mul => .ok (.n (i * j))
  | .div => if j = 0 then .error "nought" else .ok (.n (i.fdiv j))
  | .rest => if j = 0 then .error "nought" else .ok (.n (i - i.fdiv j * j))
  | .lt => .ok (b2i (decide (i < j)))
  | .gt => .ok (b2i (decide (j < i)))
  | .eq => .ok (b2i (decide (i = j)))
  | .and => .ok (b2i (decide (i ≠ 0) && decide (j ≠ 0)))
  | .or => .ok (b2i (decide (i ≠ 0) || decide (j ≠ 0)))
def bsT (s : Sg) (x y : Str) : X := match s with
  | .add => .ok (.t (x ++ y))
  | .lt => .ok (b2i (decide (x.cps.toList < y.cps.toList)))
  | .gt => .ok (b2i (decide (y.cps.toList < x.cps.toList)))
  | .eq => .ok (b2i (decide (x = y)))
  | _ => .error "kind"
def bsP (s : Sg) : Wo → Wo → X
  | .n i, .n j => bsN s i j
  | .t x, .t y => bsT s x y
  | _, _ => .error "kind"
def gX (r : X) : Except Str PyData := r.map Wo.g
theorem log2_small {j : Int} (h : j.natAbs ≤ 1000000000000) : j.natAbs.log2 < 9000 := by
  by_cases z : j.natAbs = 0
  · rw [z]; decide
  · exact Nat.lt_of_le_of_lt (Nat.le_of_lt_succ ((Nat.log2_lt z).mpr (Nat.lt_of_le_of_lt h (by decide : 1000000000000 < 2 ^ 41)))) (by decide : 40 < 9000)
theorem fdiv_ok {i j : Int} {S : Sto} (h : j.natAbs ≤ 1000000000000) (h0 : j ≠ 0) : binV .fdiv (.d (.int i)) (.d (.int j)) S = .ok (.d (.int (i.fdiv j))) S := by
  rw [b_fdiv]
  split
  · rename_i z
    simp only [Bool.and_eq_true, decide_eq_true_eq] at z
    rw [Int.fdiv_eq_ediv_of_nonneg i (by omega)]
  · rw [decide_eq_true h0, decide_eq_true (log2_small h)]
    rfl
theorem mul_okR {i j : Int} {S : Sto} (h : j.natAbs ≤ 1000000000000) : binV .mul (.d (.int i)) (.d (.int j)) S = .ok (.d (.int (i * j))) S := by
  rw [b_mul]
  have : small64 j = true := by
    unfold small64
    simp only [Bool.and_eq_true, decide_eq_true_eq]
    omega
  rw [this, Bool.or_true, if_pos rfl]
theorem cat_okR {x y : Str} {S : Sto} (hx : x.length ≤ 100) (hy : y.length ≤ 100) : binV .add (.d (.str x)) (.d (.str y)) S = .ok (.d (.str (x ++ y))) S := by
  show (if x.length + y.length ≤ sizeLine then _ else _) = _
  rw [if_pos (by have : sizeLine = 16777216 := rfl; omega)]
section
variable {n : Nat} {S : Sto} {η : En}
theorem F_is_number {w : Wo} : PF (n + 1) i_is_number [.d w.g] S = .ok (.d (.bool w.isN)) S := by
  rw [at_is_number]
  cases w <;> exact run_of (by kernel_rfl)
theorem ev_isn {w : Wo} {i : Nat} (h : η[i]? = some (some (.d w.g))) : ev (CF (n + 1)) (.call i_is_number (.cons (.loc i) .nil)) η S = .ok (.d (.bool w.isN)) S := by
  have e : evL (CF (n + 1)) (.cons (.loc i) .nil) η S = .ok [.d w.g] S := by
    rw [evL, ev, h]
    dsimp only
    rw [R.bind_ok, evL, R.bind_ok]
  rw [ev_call e]
  exact F_is_number (n := n)
theorem x_rt' {C : Cfg} {r : ISs} {e : IE} {q : R Va} (h : ev C e η S = q) : execs C (.cons (.ret e) r) η S = rtR q := by rw [x_ret', h]
theorem rs_if {b : Bool} {w : Str} {r : R Fl} {q : Except Str PyData} (h : b = true → r = rtR (rsV q S)) : (if b then r else .ex (flt w) S) = rtR (rsV (if b then q else .error w) S) := by
  cases b with
  | true => exact h rfl
  | false => rfl
theorem dataEq_int {i j : Int} : PyData.eqv (.int i) (.int j) = decide (i = j) := by
  show (i == j) = _
  by_cases h : i = j
  · subst h; simp
  · rw [decide_eq_false h]; exact beq_eq_false_iff_ne.mpr h
theorem dataEq_str {i j : Str} : PyData.eqv (.str i) (.str j) = decide (i = j) := by
  show (i == j) = _
  by_cases h : i = j
  · subst h; simp
  · rw [decide_eq_false h]; exact beq_eq_false_iff_ne.mpr h
theorem c_neI {i j : Int} : cmpV .ne (.d (.int i)) (.d (.int j)) S = .ok (!decide (i = j)) S := by rw [← dataEq_int]; rfl
theorem c_eqI {i j : Int} : cmpV .eq (.d (.int i)) (.d (.int j)) S = .ok (decide (i = j)) S := by rw [← dataEq_int]; rfl
theorem c_eqS {i j : Str} : cmpV .eq (.d (.str i)) (.d (.str j)) S = .ok (decide (i = j)) S := by rw [← dataEq_str]; rfl
/-- the ways of by_sign behind its looks -/
theorem bs_core {s : Sg} {a b : Wo} (ha : a.ok) (hb : b.ok) : PF (n + 3) i_by_sign [.d (.str s.g), .d a.g, .d b.g] S = rsV (gX (bsP s a b)) S := by
  rw [at_by_sign]
  refine run_q ?_
  show execs (CF (n + 1 + 1)) ir_by_sign [some (.d (.str s.g)), some (.d a.g), some (.d b.g)] S = _
  have e1 : ev (CF (n + 1 + 1)) (.call i_is_number (.cons (.loc 1) .nil)) [some (.d (.str s.g)), some (.d a.g), some (.d b.g)] S = .ok (.d (.bool a.isN)) S := ev_isn rfl
  have e2 : ev (CF (n + 1 + 1)) (.call i_is_number (.cons (.loc 2) .nil)) [some (.d (.str s.g)), some (.d a.g), some (.d b.g)] S = .ok (.d (.bool b.isN)) S := ev_isn rfl
  refine (x_need (b := a.isN == b.isN) ?_).trans ?_
  · rw [ev, e1, R.bind_ok, e2, R.bind_ok]
    cases a <;> cases b <;> rfl
  cases a with
  | n i =>
    cases b with
    | t y => rfl
    | n j =>
      show execs (CF (n + 1 + 1)) _ _ S = _
      refine (x_need (b := true) (by rw [ev, e1, R.bind_ok]; rfl)).trans ?_
      show execs (CF (n + 1 + 1)) _ _ S = _
      have hj : j.natAbs ≤ 1000000000000 := hb
      have nz : ∀ (k : Nat) (m : Int), ([some (.d (.str s.g)), some (.d (.int i)), some (.d (.int j))] : En)[k]? = some (some (.d (.int m))) → ev (CF (n + 1 + 1)) (.cmp .ne (.loc k) (.int 0)) [some (.d (.str s.g)), some (.d (.int i)), some (.d (.int j))] S = .ok (.d (.bool (decide (m ≠ 0)))) S := fun k m h => by
        rw [ev, ev, h]
        dsimp only
        rw [R.bind_ok, ev, R.bind_ok, c_neI, R.bind_ok]
        simp
      have n1 := nz 1 i rfl
      have n2 := nz 2 j rfl
      have dv : ev (CF (n + 1 + 1)) (.bin .fdiv (.loc 1) (.loc 2)) [some (.d (.str s.g)), some (.d (.int i)), some (.d (.int j))] S = binV .fdiv (.d (.int i)) (.d (.int j)) S := by kernel_rfl
      have sk : ∀ {c : IE} {q : R Fl} {a r : ISs}, ev (CF (n + 1 + 1)) c [some (.d (.str s.g)), some (.d (.int i)), some (.d (.int j))] S = .ok (.d (.bool false)) S → execs (CF (n + 1 + 1)) r [some (.d (.str s.g)), some (.d (.int i)), some (.d (.int j))] S = q → execs (CF (n + 1 + 1)) (.cons (.ife c a .nil) r) [some (.d (.str s.g)), some (.d (.int i)), some (.d (.int j))] S = q := fun h k => (x_F h).trans k
      have nin : ∀ {b : IE} {v : Int}, j ≠ 0 → ev (CF (n + 1 + 1)) b [some (.d (.str s.g)), some (.d (.int i)), some (.d (.int j))] S = .ok (.d (.int v)) S →
          execs (CF (n + 1 + 1)) (.cons (.ex (.call i_need (.cons (.cmp .ne (.loc 2) (.int 0)) (.cons (.str "nought") .nil)))) (.cons (.ret b) .nil)) [some (.d (.str s.g)), some (.d (.int i)), some (.d (.int j))] S = rtR (rsV (.ok (.int v)) S) := fun h0 hb => by
        refine (x_need n2).trans ?_
        rw [decide_eq_true h0, if_pos rfl, x_ret', hb]
        rfl
      cases s with
      | div =>
        refine x_T (q := rsV (gX (bsP .div (.n i) (.n j))) S) (by kernel_rfl) ?_
        by_cases h0 : j = 0
        · refine (x_need n2).trans ?_
          subst h0
          rfl
        · have e : gX (bsP .div (.n i) (.n j)) = .ok (.int (i.fdiv j)) := by
            show gX (if j = 0 then _ else _) = _
            rw [if_neg h0]
            rfl
          rw [e]
          refine nin (v := _) h0 ?_
          rw [ev, show ev (CF (n + 1 + 1)) (.cmp .eq (.loc 0) (.str "/")) [some (.d (.str Sg.div.g)), some (.d (.int i)), some (.d (.int j))] S = .ok (.d (.bool true)) S by kernel_rfl, R.bind_ok]
          exact (show _ = binV .fdiv (.d (.int i)) (.d (.int j)) S from dv).trans (fdiv_ok hj h0)
      | rest =>
        refine x_T (q := rsV (gX (bsP .rest (.n i) (.n j))) S) (by kernel_rfl) ?_
        by_cases h0 : j = 0
        · refine (x_need n2).trans ?_
          subst h0
          rfl
        · have e : gX (bsP .rest (.n i) (.n j)) = .ok (.int (i - i.fdiv j * j)) := by
            show gX (if j = 0 then _ else _) = _
            rw [if_neg h0]
            rfl
          rw [e]
          refine nin (v := _) h0 ?_
          rw [ev, show ev (CF (n + 1 + 1)) (.cmp .eq (.loc 0) (.str "/")) [some (.d (.str Sg.rest.g)), some (.d (.int i)), some (.d (.int j))] S = .ok (.d (.bool false)) S by kernel_rfl, R.bind_ok]
          show ev (CF (n + 1 + 1)) (.bin .sub (.loc 1) (.bin .mul (.bin .fdiv (.loc 1) (.loc 2)) (.loc 2))) [some (.d (.str Sg.rest.g)), some (.d (.int i)), some (.d (.int j))] S = _
          rw [ev, show ev (CF (n + 1 + 1)) (.loc 1) [some (.d (.str Sg.rest.g)), some (.d (.int i)), some (.d (.int j))] S = .ok (.d (.int i)) S by kernel_rfl, R.bind_ok, ev, dv, fdiv_ok hj h0, R.bind_ok,
            show ev (CF (n + 1 + 1)) (.loc 2) [some (.d (.str Sg.rest.g)), some (.d (.int i)), some (.d (.int j))] S = .ok (.d (.int j)) S by kernel_rfl, R.bind_ok, mul_okR hj, R.bind_ok]
          rfl
      | add => exact sk (by kernel_rfl) (x_T (q := rsV (gX (bsP .add (.n i) (.n j))) S) (by kernel_rfl) (x_rt' (by kernel_rfl)))
      | sub => exact sk (by kernel_rfl) (sk (by kernel_rfl) (x_T (q := rsV (gX (bsP .sub (.n i) (.n j))) S) (by kernel_rfl) (x_rt' (by kernel_rfl))))
      | mul => exact sk (by kernel_rfl) (sk (by kernel_rfl) (sk (by kernel_rfl) (x_T (q := rsV (gX (bsP .mul (.n i) (.n j))) S) (by kernel_rfl) (x_rt' ((show ev (CF (n + 1 + 1)) (.bin .mul (.loc 1) (.loc 2)) _ S = binV .mul (.d (.int i)) (.d (.int j)) S by kernel_rfl).trans (mul_okR hj))))))
      | and =>
        refine sk (by kernel_rfl) (sk (by kernel_rfl) (sk (by kernel_rfl) (sk (by kernel_rfl) (x_T (q := rsV (gX (bsP .and (.n i) (.n j))) S) (by kernel_rfl) (x_rt' ?_)))))
        rw [ev, evL, ev, n1, R.bind_ok]
        show ((((if decide (i ≠ 0) = true then _ else _) : R Va).bind _).bind _) = R.ok (Va.d (.int (if (decide (i ≠ 0) && decide (j ≠ 0)) = true then 1 else 0))) S
        cases decide (i ≠ 0) with
        | false => rfl
        | true =>
          rw [if_pos rfl, n2]
          cases decide (j ≠ 0) <;> rfl
      | or =>
        refine sk (by kernel_rfl) (sk (by kernel_rfl) (sk (by kernel_rfl) (sk (by kernel_rfl) (sk (by kernel_rfl) (x_T (q := rsV (gX (bsP .or (.n i) (.n j))) S) (by kernel_rfl) (x_rt' ?_))))))
        rw [ev, evL, ev, n1, R.bind_ok]
        show ((((if decide (i ≠ 0) = true then _ else _) : R Va).bind _).bind _) = R.ok (Va.d (.int (if (decide (i ≠ 0) || decide (j ≠ 0)) = true then 1 else 0))) S
        cases decide (i ≠ 0) with
        | true => rfl
        | false =>
          rw [if_neg Bool.false_ne_true, n2]
          cases decide (j ≠ 0) <;> rfl
      | eq =>
        refine sk (by kernel_rfl) (sk (by kernel_rfl) (sk (by kernel_rfl) (sk (by kernel_rfl) (sk (by kernel_rfl) (sk (by kernel_rfl) (x_T (q := rsV (gX (bsP .eq (.n i) (.n j))) S) (by kernel_rfl) (x_rt' ?_)))))))
        rw [ev, evL, ev, show ev (CF (n + 1 + 1)) (.loc 1) [some (.d (.str Sg.eq.g)), some (.d (.int i)), some (.d (.int j))] S = .ok (.d (.int i)) S by kernel_rfl, R.bind_ok, show ev (CF (n + 1 + 1)) (.loc 2) [some (.d (.str Sg.eq.g)), some (.d (.int i)), some (.d (.int j))] S = .ok (.d (.int j)) S by kernel_rfl, R.bind_ok, c_eqI]
        show _ = R.ok (Va.d (.int (if decide (i = j) = true then 1 else 0))) S
        cases decide (i = j) <;> rfl
      | lt =>
        refine sk (by kernel_rfl) (sk (by kernel_rfl) (sk (by kernel_rfl) (sk (by kernel_rfl) (sk (by kernel_rfl) (sk (by kernel_rfl) (sk (by kernel_rfl) (x_rt' (q := rsV (gX (bsP .lt (.n i) (.n j))) S) ?_)))))))
        show _ = R.ok (Va.d (.int (if decide (i < j) = true then 1 else 0))) S
        kernel_rfl
      | gt =>
        refine sk (by kernel_rfl) (sk (by kernel_rfl) (sk (by kernel_rfl) (sk (by kernel_rfl) (sk (by kernel_rfl) (sk (by kernel_rfl) (sk (by kernel_rfl) (x_rt' (q := rsV (gX (bsP .gt (.n i) (.n j))) S) ?_)))))))
        show _ = R.ok (Va.d (.int (if decide (j < i) = true then 1 else 0))) S
        kernel_rfl
  | t x =>
    cases b with
    | n j => rfl
    | t y =>
      show execs (CF (n + 1 + 1)) _ _ S = _
      have second : ∀ {k : Bool}, ev (CF (n + 1 + 1)) (.cmp .isin (.loc 0) (.glo g_BOTH_KINDS)) [some (.d (.str s.g)), some (.d (.str x)), some (.d (.str y))] S = .ok (.d (.bool k)) S → ev (CF (n + 1 + 1)) (.or (.call i_is_number (.cons (.loc 1) .nil)) (.cmp .isin (.loc 0) (.glo g_BOTH_KINDS))) [some (.d (.str s.g)), some (.d (.str x)), some (.d (.str y))] S = .ok (.d (.bool k)) S := fun h => by
        have e1' : ev (CF (n + 1 + 1)) (.call i_is_number (.cons (.loc 1) .nil)) [some (.d (.str s.g)), some (.d (.str x)), some (.d (.str y))] S = .ok (.d (.bool false)) S := e1
        rw [ev, e1', R.bind_ok]
        exact h
      have sk : ∀ {c : IE} {q : R Fl} {a r : ISs}, ev (CF (n + 1 + 1)) c [some (.d (.str s.g)), some (.d (.str x)), some (.d (.str y))] S = .ok (.d (.bool false)) S → execs (CF (n + 1 + 1)) r [some (.d (.str s.g)), some (.d (.str x)), some (.d (.str y))] S = q → execs (CF (n + 1 + 1)) (.cons (.ife c a .nil) r) [some (.d (.str s.g)), some (.d (.str x)), some (.d (.str y))] S = q := fun h k => (x_F h).trans k
      cases s with
      | add =>
        refine (x_need (second (k := true) (by kernel_rfl))).trans (sk (by kernel_rfl) (x_T (q := rsV (gX (bsP .add (.t x) (.t y))) S) (by kernel_rfl) (x_rt' ?_)))
        exact (show ev (CF (n + 1 + 1)) (.bin .add (.loc 1) (.loc 2)) _ S = binV .add (.d (.str x)) (.d (.str y)) S by kernel_rfl).trans (cat_okR ha hb)
      | lt =>
        refine (x_need (second (k := true) (by kernel_rfl))).trans (sk (by kernel_rfl) (sk (by kernel_rfl) (sk (by kernel_rfl) (sk (by kernel_rfl) (sk (by kernel_rfl) (sk (by kernel_rfl) (sk (by kernel_rfl) (x_rt' (q := rsV (gX (bsP .lt (.t x) (.t y))) S) ?_))))))))
        show _ = R.ok (Va.d (.int (if decide (x.cps.toList < y.cps.toList) = true then 1 else 0))) S
        kernel_rfl
      | gt =>
        refine (x_need (second (k := true) (by kernel_rfl))).trans (sk (by kernel_rfl) (sk (by kernel_rfl) (sk (by kernel_rfl) (sk (by kernel_rfl) (sk (by kernel_rfl) (sk (by kernel_rfl) (sk (by kernel_rfl) (x_rt' (q := rsV (gX (bsP .gt (.t x) (.t y))) S) ?_))))))))
        show _ = R.ok (Va.d (.int (if decide (y.cps.toList < x.cps.toList) = true then 1 else 0))) S
        kernel_rfl
      | eq =>
        refine (x_need (second (k := true) (by kernel_rfl))).trans (sk (by kernel_rfl) (sk (by kernel_rfl) (sk (by kernel_rfl) (sk (by kernel_rfl) (sk (by kernel_rfl) (sk (by kernel_rfl) (x_T (q := rsV (gX (bsP .eq (.t x) (.t y))) S) (by kernel_rfl) (x_rt' ?_))))))))
        rw [ev, evL, ev, show ev (CF (n + 1 + 1)) (.loc 1) [some (.d (.str Sg.eq.g)), some (.d (.str x)), some (.d (.str y))] S = .ok (.d (.str x)) S by kernel_rfl, R.bind_ok, show ev (CF (n + 1 + 1)) (.loc 2) [some (.d (.str Sg.eq.g)), some (.d (.str x)), some (.d (.str y))] S = .ok (.d (.str y)) S by kernel_rfl, R.bind_ok, c_eqS]
        show _ = R.ok (Va.d (.int (if decide (x = y) = true then 1 else 0))) S
        cases decide (x = y) <;> rfl
      | _ => exact x_need (second (k := false) (by kernel_rfl))
end
end Nb.Lw

namespace Nb.Lw
open PySem L2 Nb
def bd : Wo → X
  | .n i => if decide ((if i < 0 then -i else i) ≤ 1000000000000) then .ok (.n i) else .error "great"
  | .t s => if decide ((s.length : Int) ≤ 100) then .ok (.t s) else .error "long"
def Wo.sz : Wo → Prop
  | .n _ => True
  | .t s => s.length ≤ 200
theorem Wo.ok.sz {w : Wo} (h : w.ok) : w.sz := by
  cases w with
  | n i => trivial
  | t s => exact Nat.le_trans h (by decide)
theorem ev_len {C : Cfg} {e : IE} {x : Str} {η : En} {S : Sto} (h : ev C e η S = .ok (.d (.str x)) S) (k : x.length ≤ 200) : ev C (.blt .len (.cons e .nil)) η S = .ok (.d (.int x.length)) S := by
  rw [ev, evL, h, R.bind_ok, evL, R.bind_ok, R.bind_ok]
  show (if x.length ≤ sizeLine then _ else _) = _
  rw [if_pos (by have : sizeLine = 16777216 := rfl; omega)]
def ntP : Wo → X
  | .n i => .ok (b2i (i == 0))
  | .t _ => .error "kind"
def szP : Wo → X
  | .n _ => .error "kind"
  | .t s => .ok (.n s.length)
def ptP : Wo → Wo → Wo → X
  | .t s, .n b, .n m => if decide (1 ≤ b) && decide (0 ≤ m) then .ok (.t (cutS s (some (b - 1)) (some (b - 1 + m)))) else .error "range"
  | _, _, _ => .error "kind"
theorem ev_and {C : Cfg} {a b : IE} {s t : Bool} {η : En} {S : Sto} (ha : ev C a η S = .ok (.d (.bool s)) S) (hb : s = true → ev C b η S = .ok (.d (.bool t)) S) : ev C (.and a b) η S = .ok (.d (.bool (s && t))) S := by
  rw [ev, ha, R.bind_ok]
  cases s with
  | true => exact hb rfl
  | false => rfl
theorem ev_or {C : Cfg} {a b : IE} {s t : Bool} {η : En} {S : Sto} (ha : ev C a η S = .ok (.d (.bool s)) S) (hb : s = false → ev C b η S = .ok (.d (.bool t)) S) : ev C (.or a b) η S = .ok (.d (.bool (s || t))) S := by
  rw [ev, ha, R.bind_ok]
  cases s with
  | true => rfl
  | false => exact hb rfl
theorem ev_not {C : Cfg} {a : IE} {s : Bool} {η : En} {S : Sto} (ha : ev C a η S = .ok (.d (.bool s)) S) : ev C (.not a) η S = .ok (.d (.bool (!s))) S := by
  rw [ev, ha, R.bind_ok]
  rfl
/-! ### what a word comes to -/
inductive Wd where
  | not | size | part | two (s : Sg)
def Wd.g : Wd → Str
  | .not => "not"
  | .size => "size"
  | .part => "part"
  | .two s => s.g
def Wd.ar : Wd → Nat
  | .not => 1
  | .size => 1
  | .part => 3
  | .two _ => 2
def ow : Wd → List Wo → X
  | .not, [a] => ntP a
  | .size, [a] => szP a
  | .part, [a, b, c] => ptP a b c
  | .two s, [a, b] => bsP s a b
  | _, _ => .error ""
theorem sk_ {C : Cfg} {c : IE} {q : R Fl} {a r : ISs} (h : ev C c η S = .ok (.d (.bool false)) S) (k : execs C r η S = q) : execs C (.cons (.ife c a .nil) r) η S = q := (x_F h).trans k
section
variable {n : Nat} {S : Sto} {η : En}
theorem ev_isn' {w : Wo} {e : IE} (h : ev (CF (n + 1)) e η S = .ok (.d w.g) S) : ev (CF (n + 1)) (.call i_is_number (.cons e .nil)) η S = .ok (.d (.bool w.isN)) S := by
  have e : evL (CF (n + 1)) (.cons e .nil) η S = .ok [.d w.g] S := by
    rw [evL, h, R.bind_ok, evL, R.bind_ok]
  rw [ev_call e]
  exact F_is_number (n := n)
theorem F_bounded {w : Wo} (hw : w.sz) : PF (n + 3) i_bounded [.d w.g] S = rsV (gX (bd w)) S := by
  rw [at_bounded]
  refine run_q ?_
  show execs (CF (n + 1 + 1)) ir_bounded [some (.d w.g)] S = _
  refine (x_iB (t := w.isN) (ev_isn rfl)).trans ?_
  cases w with
  | n i =>
    show (execs (CF (n + 1 + 1)) _ _ S).bind _ = _
    rw [x_need (b := decide ((if i < 0 then -i else i) ≤ 1000000000000)) (by kernel_rfl), bd]
    cases decide ((if i < 0 then -i else i) ≤ 1000000000000) <;> rfl
  | t s =>
    show (execs (CF (n + 1 + 1)) _ _ S).bind _ = _
    rw [x_need (b := decide ((s.length : Int) ≤ 100)) (by
      rw [ev, ev_len (x := s) rfl hw, R.bind_ok]
      kernel_rfl), bd]
    cases decide ((s.length : Int) ≤ 100) <;> rfl
theorem F_part_of {a b c : Wo} (ha : a.ok) : PF (n + 3) i_part_of [.d a.g, .d b.g, .d c.g] S = rsV (gX (ptP a b c)) S := by
  rw [at_part_of]
  refine run_q ?_
  show execs (CF (n + 1 + 1)) ir_part_of [some (.d a.g), some (.d b.g), some (.d c.g)] S = _
  refine (x_need (ev_and (ev_not (ev_isn (w := a) rfl)) fun _ => ev_and (ev_isn (w := b) rfl) fun _ => ev_isn (w := c) rfl)).trans ?_
  cases a with
  | n i => rfl
  | t x =>
    cases b with
    | t y => rfl
    | n i =>
      cases c with
      | t y => rfl
      | n m =>
        show execs (CF (n + 1 + 1)) _ _ S = _
        refine (x_need (b := decide (1 ≤ i) && decide (0 ≤ m)) (ev_and (by kernel_rfl) fun _ => by kernel_rfl)).trans ?_
        show _ = rtR (rsV (gX (if (decide (1 ≤ i) && decide (0 ≤ m)) = true then _ else _)) S)
        cases decide (1 ≤ i) && decide (0 ≤ m) with
        | false => rfl
        | true =>
          show execs (CF (n + 1 + 1)) _ _ S = _
          refine x_rt' ?_
          refine (show ev (CF (n + 1 + 1)) _ _ S = slV (.d (.str x)) (some (i - 1)) (some (i - 1 + m)) S by kernel_rfl).trans ?_
          have hx : x.length ≤ 100 := ha
          show (if x.length ≤ sizeLine then _ else _) = _
          rw [if_pos (by have : sizeLine = 16777216 := rfl; omega)]
          rfl
theorem F_ow {w : Wd} {ws : List Wo} (hn : ws.length = w.ar) (hk : ∀ x ∈ ws, x.ok) : PF (n + 4) i_of_worths [.d (.str w.g), .d (.list (ws.map Wo.g))] S = rsV (gX (ow w ws)) S := by
  rw [at_of_worths]
  refine run_q ?_
  show execs (CF (n + 2 + 1)) ir_of_worths [some (.d (.str w.g)), some (.d (.list (ws.map Wo.g))), none, none, none, none, none] S = _
  cases w with
  | not =>
    match ws, hn with
    | [a], _ =>
      refine x_T (q := rsV (gX (ow .not [a])) S) (by kernel_rfl) ?_
      refine (x_need (ev_isn' (w := a) (by kernel_rfl))).trans ?_
      cases a with
      | t x => rfl
      | n i =>
        show execs (CF (n + 2 + 1)) _ _ S = _
        exact x_rt' (by kernel_rfl)
  | size =>
    match ws, hn, hk with
    | [a], _, hk =>
      refine sk_ (by kernel_rfl) (x_T (q := rsV (gX (ow .size [a])) S) (by kernel_rfl) ?_)
      refine (x_need (ev_not (ev_isn' (w := a) (by kernel_rfl)))).trans ?_
      cases a with
      | n x => rfl
      | t i =>
        show execs (CF (n + 2 + 1)) _ _ S = _
        exact x_rt' ((ev_len (x := i) (by kernel_rfl) (hk _ (List.mem_cons_self ..)).sz).trans rfl)
  | part =>
    match ws, hn, hk with
    | [a, b, c], _, hk =>
      refine sk_ (by kernel_rfl) (sk_ (by kernel_rfl) (x_T (q := rsV (gX (ow .part [a, b, c])) S) (by kernel_rfl) ?_))
      refine (x_nx (S1 := S) (η1 := [some (.d (.str "part")), some (.d (.list [a.g, b.g, c.g])), none, none, some (.d a.g), some (.d b.g), some (.d c.g)]) (by kernel_rfl)).trans ?_
      refine x_rt' ((ev_call (l := [.d a.g, .d b.g, .d c.g]) (S1 := S) (by kernel_rfl)).trans ?_)
      exact F_part_of (n := n) (hk a (List.mem_cons_self ..))
  | two s =>
    match ws, hn, hk with
    | [a, b], _, hk =>
      have fin : execs (CF (n + 2 + 1)) (.cons (.asg (.tp (.cons (.nm 2) (.cons (.nm 3) .nil))) (.loc 1)) (.cons (.ret (.call i_by_sign (.cons (.loc 0) (.cons (.loc 2) (.cons (.loc 3) .nil))))) .nil)) [some (.d (.str s.g)), some (.d (.list [a.g, b.g])), none, none, none, none, none] S = rtR (rsV (gX (ow (.two s) [a, b])) S) := by
        refine (x_nx (S1 := S) (η1 := [some (.d (.str s.g)), some (.d (.list [a.g, b.g])), some (.d a.g), some (.d b.g), none, none, none]) (by kernel_rfl)).trans ?_
        refine x_rt' ((ev_call (l := [.d (.str s.g), .d a.g, .d b.g]) (S1 := S) (by kernel_rfl)).trans ?_)
        exact bs_core (n := n) (hk a (List.mem_cons_self ..)) (hk b (List.mem_cons_of_mem _ (List.mem_cons_self ..)))
      cases s <;> exact sk_ (by kernel_rfl) (sk_ (by kernel_rfl) (sk_ (by kernel_rfl) fin))
end
end Nb.Lw

namespace Nb.Lw
open PySem L2 Nb
/-! ### expressions of worths alone, and what they come to -/
inductive Xp where
  | num (i : Int)
  | txt (s : Str)
  | not (a : Xp)
  | size (a : Xp)
  | part (a b c : Xp)
  | two (s : Sg) (a b : Xp)
def Xp.g : Xp → PyData
  | .num i => .tuple [.str "number", .int i]
  | .txt s => .tuple [.str "text", .str s]
  | .not a => .tuple [.str "not", a.g]
  | .size a => .tuple [.str "size", a.g]
  | .part a b c => .tuple [.str "part", a.g, b.g, c.g]
  | .two s a b => .tuple [.str s.g, a.g, b.g]
def Xp.dp : Xp → Nat
  | .num _ => 0
  | .txt _ => 0
  | .not a => a.dp + 1
  | .size a => a.dp + 1
  | .part a b c => a.dp + b.dp + c.dp + 1
  | .two _ a b => a.dp + b.dp + 1
def Xp.dm : Xp → Nat
  | .num _ => 0
  | .txt _ => 0
  | .not a => a.dm + 1
  | .size a => a.dm + 1
  | .part a b c => max a.dm (max b.dm c.dm) + 1
  | .two _ a b => max a.dm b.dm + 1
def Xp.ok : Xp → Prop
  | .num i => (Wo.n i).ok
  | .txt s => (Wo.t s).ok
  | .not a => a.ok
  | .size a => a.ok
  | .part a b c => a.ok ∧ b.ok ∧ c.ok
  | .two _ a b => a.ok ∧ b.ok
/-- one behind the other, up to the first fault -/
def sq : List X → Except Str (List Wo)
  | [] => .ok []
  | .error w :: _ => .error w
  | .ok v :: r => match sq r with
    | .ok vs => .ok (v :: vs)
    | .error w => .error w
def bdX : X → X
  | .ok v => bd v
  | .error w => .error w
def opX (w : Wd) (rs : List X) : X := match sq rs with
  | .ok vs => bdX (ow w vs)
  | .error w => .error w
def cm : Xp → X
  | .num i => .ok (.n i)
  | .txt s => .ok (.t s)
  | .not a => opX .not [cm a]
  | .size a => opX .size [cm a]
  | .part a b c => opX .part [cm a, cm b, cm c]
  | .two s a b => opX (.two s) [cm a, cm b]
theorem bd_ok {w v : Wo} (h : bd w = .ok v) : v = w ∧ v.ok := by
  cases w with
  | n i =>
    rw [bd] at h
    by_cases z : (if i < 0 then -i else i) ≤ 1000000000000
    · rw [if_pos (decide_eq_true z)] at h
      cases h
      refine ⟨rfl, ?_⟩
      show i.natAbs ≤ 1000000000000
      split at z <;> omega
    · rw [decide_eq_false z, if_neg Bool.false_ne_true] at h
      cases h
  | t s =>
    rw [bd] at h
    by_cases z : (s.length : Int) ≤ 100
    · rw [if_pos (decide_eq_true z)] at h
      cases h
      refine ⟨rfl, ?_⟩
      show s.length ≤ 100
      omega
    · rw [decide_eq_false z, if_neg Bool.false_ne_true] at h
      cases h
theorem bdX_ok {r : X} {v : Wo} (h : bdX r = .ok v) : r = .ok v ∧ v.ok := by
  cases r with
  | error w => cases h
  | ok w => obtain ⟨rfl, k⟩ := bd_ok h; exact ⟨rfl, k⟩
theorem opX_ok {w : Wd} {rs : List X} {v : Wo} (h : opX w rs = .ok v) : v.ok := by
  unfold opX at h
  split at h
  · exact (bdX_ok h).2
  · cases h
theorem cm_ok {e : Xp} {v : Wo} (he : e.ok) (h : cm e = .ok v) : v.ok := by
  cases e with
  | num i => cases h; exact he
  | txt s => cases h; exact he
  | _ => exact opX_ok h
theorem sq_ok : ∀ {rs : List X} {vs : List Wo}, (∀ r ∈ rs, ∀ v, r = .ok v → v.ok) → sq rs = .ok vs → vs.length = rs.length ∧ ∀ v ∈ vs, v.ok
  | [], _, _, h => by cases h; exact ⟨rfl, fun v hv => absurd hv List.not_mem_nil⟩
  | .error w :: _, _, _, h => by cases h
  | .ok v :: r, vs, k, h => by
    rw [sq] at h
    split at h
    · rename_i us hu
      cases h
      obtain ⟨a, b⟩ := sq_ok (fun r hr => k r (List.mem_cons_of_mem _ hr)) hu
      refine ⟨by rw [List.length_cons, List.length_cons, a], fun x hx => ?_⟩
      rcases List.mem_cons.mp hx with rfl | hx
      · exact k _ (List.mem_cons_self ..) _ rfl
      · exact b x hx
    · cases h
theorem b2i_sz (b : Bool) : (b2i b).sz := trivial
theorem bsP_sz {s : Sg} {a b v : Wo} (ha : a.ok) (hb : b.ok) (h : bsP s a b = .ok v) : v.sz := by
  cases a with
  | n i =>
    cases b with
    | t y => cases h
    | n j =>
      have g : ∃ k, v = .n k := by
        cases s with
        | div => rw [bsP, bsN] at h; split at h <;> cases h; exact ⟨_, rfl⟩
        | rest => rw [bsP, bsN] at h; split at h <;> cases h; exact ⟨_, rfl⟩
        | _ => cases h; exact ⟨_, rfl⟩
      obtain ⟨k, rfl⟩ := g
      trivial
  | t x =>
    cases b with
    | n j => cases h
    | t y =>
      cases s with
      | add =>
        cases h
        have ha : x.length ≤ 100 := ha
        have hb : y.length ≤ 100 := hb
        show (x ++ y).length ≤ 200
        rw [strLen_append]; omega
      | lt => cases h; trivial
      | gt => cases h; trivial
      | eq => cases h; trivial
      | _ => cases h
theorem ow_sz {w : Wd} {ws : List Wo} {v : Wo} (hn : ws.length = w.ar) (hk : ∀ x ∈ ws, x.ok) (h : ow w ws = .ok v) : v.sz := by
  cases w with
  | not =>
    match ws, hn, h with
    | [.n i], _, h => cases h; trivial
    | [.t s], _, h => cases h
  | size =>
    match ws, hn, h with
    | [.n i], _, h => cases h
    | [.t s], _, h => cases h; trivial
  | part =>
    match ws, hn, h, hk with
    | [.t s, .n b, .n m], _, h, hk =>
      rw [ow, ptP] at h
      split at h
      · cases h
        exact Nat.le_trans cutS_sub.1 (Nat.le_trans (hk (.t s) (List.mem_cons_self ..)) (by decide))
      · cases h
    | [.n _, _, _], _, h, _ => cases h
    | [.t _, .t _, _], _, h, _ => cases h
    | [.t _, .n _, .t _], _, h, _ => cases h
  | two s =>
    match ws, hn, h, hk with
    | [a, b], _, h, hk => exact bsP_sz (hk a (List.mem_cons_self ..)) (hk b (List.mem_cons_of_mem _ (List.mem_cons_self ..))) h
inductive All2 (P : PyData → X → Prop) : List PyData → List X → Prop
  | nil : All2 P [] []
  | cons {e : PyData} {r : X} {es : List PyData} {rs : List X} : P e r → All2 P es rs → All2 P (e :: es) (r :: rs)
theorem All2.len {P : PyData → X → Prop} {es : List PyData} {rs : List X} (h : All2 P es rs) : es.length = rs.length := by
  induction h with
  | nil => rfl
  | cons _ _ ih => rw [List.length_cons, List.length_cons, ih]
theorem compF_sq {f : Va → Sto → R (Option Va)} {S : Sto} {es : List PyData} {rs : List X} (h : All2 (fun e r => f (.d e) S = (rsV (gX r) S).bind fun y S5 => .ok (some y) S5) es rs) : ∀ {acc : List Va}, compF f (es.map .d) acc S = match sq rs with
    | .ok vs => .ok (acc ++ vs.map fun v => .d v.g) S
    | .error w => .ex (flt w) S := by
  induction h with
  | nil => intro acc; rw [List.map_nil, compF, sq]; simp
  | @cons e r es rs h1 _ ih =>
    intro acc
    rw [List.map_cons, compF, h1]
    cases r with
    | error w => rfl
    | ok v =>
      show compF f (es.map Va.d) (acc ++ [.d v.g]) S = _
      rw [ih, sq]
      cases sq rs with
      | error w => rfl
      | ok vs => simp
section
variable {n : Nat} {S : Sto} {η : En}
theorem come_op {w : Wd} {es : List PyData} {rs : List X} {A : Va} (hn : es.length = w.ar) (hr : ∀ r ∈ rs, ∀ v, r = .ok v → v.ok) (h : All2 (fun e r => PF (n + 4) i_come [.d e, A] S = rsV (gX r) S) es rs) :
    PF (n + 5) i_come [.d (.tuple (.str w.g :: es)), A] S = rsV (gX (opX w rs)) S := by
  rw [at_come]
  refine run_q ?_
  show execs (CF (n + 4)) ir_come [some (.d (.tuple (.str w.g :: es))), some A, none, none, none, none, none] S = _
  refine (x_nx (S1 := S) (η1 := [some (.d (.tuple (.str w.g :: es))), some A, some (.d (.str w.g)), some (.d (.list es)), none, none, none]) (by kernel_rfl)).trans ?_
  have tail : execs (CF (n + 4)) (.cons (.ret (.call i_bounded (.cons (.call i_of_worths (.cons (.loc 2) (.cons (.fz (.compX (.call i_come (.cons (.loc 6) (.cons (.loc 1) .nil))) (.nm 6) (.val (.loc 3)) .no [6])) .nil))) .nil))) .nil) [some (.d (.tuple (.str w.g :: es))), some A, some (.d (.str w.g)), some (.d (.list es)), none, none, none] S = rtR (rsV (gX (opX w rs)) S) := by
    refine x_rt' ?_
    have c : evF (CF (n + 4)) (.compX (.call i_come (.cons (.loc 6) (.cons (.loc 1) .nil))) (.nm 6) (.val (.loc 3)) .no [6]) [some (.d (.tuple (.str w.g :: es))), some A, some (.d (.str w.g)), some (.d (.list es)), none, none, none] S = match sq rs with
        | .ok vs => .ok (vs.map fun v => .d v.g) S
        | .error w => .ex (flt w) S := by
      rw [evF, iter, show ev (CF (n + 4)) (.loc 3) [some (.d (.tuple (.str w.g :: es))), some A, some (.d (.str w.g)), some (.d (.list es)), none, none, none] S = .ok (.d (.list es)) S from rfl, R.bind_ok]
      dsimp only
      rw [R.bind_ok]
      refine (compF_sq (rs := rs) ?_).trans ?_
      · have : ∀ {es' : List PyData} {rs' : List X}, All2 (fun e r => PF (n + 4) i_come [.d e, A] S = rsV (gX r) S) es' rs' → All2 (fun e r => ((asgn (CF (n + 4)) (.nm 6) (.d e) (wipeE [some (.d (.tuple (.str w.g :: es))), some A, some (.d (.str w.g)), some (.d (.list es)), none, none, none] [6]) S).bind fun η2 S3 => (evT (CF (n + 4)) .no η2 S3).bind fun b S4 => if b = true then (ev (CF (n + 4)) (.call i_come (.cons (.loc 6) (.cons (.loc 1) .nil))) η2 S4).bind fun y S5 => .ok (some y) S5 else .ok none S4) = (rsV (gX r) S).bind fun y S5 => .ok (some y) S5) es' rs' := by
          intro es' rs' h'
          induction h' with
          | nil => exact .nil
          | cons a b ih =>
            refine .cons ?_ ih
            rw [← a]
            rfl
        exact this h
      · cases sq rs <;> simp
    cases hs : sq rs with
    | error u =>
      have oX : opX w rs = .error u := by unfold opX; rw [hs]
      rw [oX, ev, evL, ev, evL, show ev (CF (n + 4)) (.loc 2) [some (.d (.tuple (.str w.g :: es))), some A, some (.d (.str w.g)), some (.d (.list es)), none, none, none] S = .ok (.d (.str w.g)) S from rfl, R.bind_ok, evL, ev, c, hs]
      rfl
    | ok vs =>
      have oX : opX w rs = bdX (ow w vs) := by unfold opX; rw [hs]
      obtain ⟨l1, l2⟩ := sq_ok hr hs
      have hl : vs.length = w.ar := by rw [l1, ← h.len, hn]
      have ein : ev (CF (n + 4)) (.call i_of_worths (.cons (.loc 2) (.cons (.fz (.compX (.call i_come (.cons (.loc 6) (.cons (.loc 1) .nil))) (.nm 6) (.val (.loc 3)) .no [6])) .nil))) [some (.d (.tuple (.str w.g :: es))), some A, some (.d (.str w.g)), some (.d (.list es)), none, none, none] S = rsV (gX (ow w vs)) S := by
        have ez : ev (CF (n + 4)) (.fz (.compX (.call i_come (.cons (.loc 6) (.cons (.loc 1) .nil))) (.nm 6) (.val (.loc 3)) .no [6])) [some (.d (.tuple (.str w.g :: es))), some A, some (.d (.str w.g)), some (.d (.list es)), none, none, none] S = .ok (.d (.list (vs.map Wo.g))) S := by
          refine ev_fz ?_
          rw [c, hs, List.map_map]
          rfl
        refine (ev_call (l := [.d (.str w.g), .d (.list (vs.map Wo.g))]) (S1 := S) ?_).trans (F_ow (n := n) hl l2)
        rw [evL, show ev (CF (n + 4)) (.loc 2) [some (.d (.tuple (.str w.g :: es))), some A, some (.d (.str w.g)), some (.d (.list es)), none, none, none] S = .ok (.d (.str w.g)) S from rfl, R.bind_ok, evL, ez, R.bind_ok, evL, R.bind_ok, R.bind_ok]
      rw [oX, ev, evL, ein]
      cases ho : ow w vs with
      | error u => rfl
      | ok v =>
        show ((PF (n + 4) i_bounded [.d v.g] S)) = _
        exact F_bounded (n := n + 1) (ow_sz hl l2 ho)
  cases w with
  | not => exact sk_ (by kernel_rfl) (sk_ (by kernel_rfl) (sk_ (by kernel_rfl) (sk_ (by kernel_rfl) (sk_ (by kernel_rfl) tail))))
  | size => exact sk_ (by kernel_rfl) (sk_ (by kernel_rfl) (sk_ (by kernel_rfl) (sk_ (by kernel_rfl) (sk_ (by kernel_rfl) tail))))
  | part => exact sk_ (by kernel_rfl) (sk_ (by kernel_rfl) (sk_ (by kernel_rfl) (sk_ (by kernel_rfl) (sk_ (by kernel_rfl) tail))))
  | two s => cases s <;> exact sk_ (by kernel_rfl) (sk_ (by kernel_rfl) (sk_ (by kernel_rfl) (sk_ (by kernel_rfl) (sk_ (by kernel_rfl) tail))))
theorem F_come : ∀ (e : Xp), e.ok → ∀ {n : Nat} {S : Sto} {A : Va}, e.dm + 6 ≤ n → PF n i_come [.d e.g, A] S = rsV (gX (cm e)) S := by
  intro e
  have pl : ∀ (w : Str) (v : PyData), (w = "number" ∨ w = "text") → ∀ {n : Nat} {S : Sto} {A : Va}, 6 ≤ n → PF n i_come [.d (.tuple [.str w, v]), A] S = .ok (.d v) S := by
    intro w v hw n S A hn
    obtain ⟨n, rfl⟩ : ∃ k, n = k + 1 := ⟨n - 1, by omega⟩
    rw [at_come]
    refine run_of ?_
    rcases hw with rfl | rfl
    · show execs (CF n) ir_come [some (.d (.tuple [.str "number", v])), some A, none, none, none, none, none] S = _
      kernel_rfl
    · show execs (CF n) ir_come [some (.d (.tuple [.str "text", v])), some A, none, none, none, none, none] S = _
      kernel_rfl
  induction e with
  | num i => intro _ n S A hn; exact pl "number" (.int i) (.inl rfl) (by omega)
  | txt s => intro _ n S A hn; exact pl "text" (.str s) (.inr rfl) (by omega)
  | not a ia =>
    intro ha n S A hn
    rw [Xp.dm] at hn
    obtain ⟨n, rfl⟩ : ∃ k, n = k + 5 := ⟨n - 5, by omega⟩
    refine come_op (w := .not) (es := [a.g]) (rs := [cm a]) rfl ?_ (.cons (ia ha (by omega)) .nil)
    intro r hr v hv
    rw [List.mem_singleton.mp hr] at hv
    exact cm_ok (show a.ok from ha) hv
  | size a ia =>
    intro ha n S A hn
    rw [Xp.dm] at hn
    obtain ⟨n, rfl⟩ : ∃ k, n = k + 5 := ⟨n - 5, by omega⟩
    refine come_op (w := .size) (es := [a.g]) (rs := [cm a]) rfl ?_ (.cons (ia ha (by omega)) .nil)
    intro r hr v hv
    rw [List.mem_singleton.mp hr] at hv
    exact cm_ok (show a.ok from ha) hv
  | part a b c ia ib ic =>
    rintro ⟨ha, hb, hc⟩ n S A hn
    rw [Xp.dm] at hn
    obtain ⟨n, rfl⟩ : ∃ k, n = k + 5 := ⟨n - 5, by omega⟩
    refine come_op (w := .part) (es := [a.g, b.g, c.g]) (rs := [cm a, cm b, cm c]) rfl ?_ (.cons (ia ha (by omega)) (.cons (ib hb (by omega)) (.cons (ic hc (by omega)) .nil)))
    intro r hr v hv
    simp only [List.mem_cons, List.not_mem_nil, or_false] at hr
    rcases hr with rfl | rfl | rfl
    · exact cm_ok ha hv
    · exact cm_ok hb hv
    · exact cm_ok hc hv
  | two s a b ia ib =>
    rintro ⟨ha, hb⟩ n S A hn
    rw [Xp.dm] at hn
    obtain ⟨n, rfl⟩ : ∃ k, n = k + 5 := ⟨n - 5, by omega⟩
    refine come_op (w := .two s) (es := [a.g, b.g]) (rs := [cm a, cm b]) rfl ?_ (.cons (ia ha (by omega)) (.cons (ib hb (by omega)) .nil))
    intro r hr v hv
    simp only [List.mem_cons, List.not_mem_nil, or_false] at hr
    rcases hr with rfl | rfl
    · exact cm_ok ha hv
    · exact cm_ok hb hv
end
end Nb.Lw

namespace Nb.Lw
open PySem L2 Nb
/-- a found worth or fault as it is told -/
def rk : X → PyData
  | .ok v => .tuple [.str "worth", v.g]
  | .error w => .tuple [.str "fault", .str w]
/-- no dict, or an empty one -/
def Nd (v : Va) : Prop := v = .d .none ∨ v = .d (.dict [])
section
variable {n : Nat} {S : Sto} {η : En}
def ciA : Ci := ⟨["box_worths", "row_worths", "fit_bodies", "fault_met", "deep"], some (i_Around___init__, 6), [("within", i_Around_within, 3)]⟩
theorem x_setF {f : Str} {k : Nat} {v : Va} {fs fs' : List (Str × Va)} (hp : putO f v fs = fs') (hf : f ∈ ciA.fl) (hl : fs.length < 1000) (h0 : η[0]? = some (some (.ref S.length))) (hk : η[k]? = some (some v)) :
    exec (CF n) (.setF (.loc 0) f (.loc k)) η (S ++ [.ins "Around" fs]) = .ok (.nx η) (S ++ [.ins "Around" fs']) := by
  subst hp
  have g : setFV osL.cs f (.ref S.length) v (S ++ [.ins "Around" fs]) = .ok () (S ++ [.ins "Around" (putO f v fs)]) := by
    unfold setFV
    dsimp only
    rw [top_get]
    dsimp only
    rw [show lookC osL.cs "Around" = some ciA from rfl]
    dsimp only
    rw [if_pos ⟨hf, hl⟩, top_set]
  rw [exec, ev, hk]
  dsimp only
  rw [R.bind_ok, ev, h0]
  dsimp only
  rw [R.bind_ok]
  show (setFV osL.cs f _ _ _).bind _ = _
  rw [g, R.bind_ok]
def aro (a b c d e : Va) : Ob := .ins "Around" [("box_worths", a), ("row_worths", b), ("fit_bodies", c), ("fault_met", d), ("deep", e)]
theorem F_init {a b c d e : Va} : PF (n + 1) i_Around___init__ [.ref S.length, a, b, c, d, e] (S ++ [.ins "Around" []]) = .ok (.d .none) (S ++ [aro a b c d e]) := by
  rw [at_Around___init__]
  refine (runF_nx (S1 := S ++ [aro a b c d e]) (η := [some (.ref S.length), some a, some b, some c, some d, some e]) ?_).trans (trim_same (by simp))
  show execs (CF n) ir_Around___init__ [some (.ref S.length), some a, some b, some c, some d, some e] (S ++ [.ins "Around" []]) = _
  unfold ir_Around___init__
  rw [x_nx (x_setF (v := a) (fs' := [("box_worths", a)]) (by kernel_rfl) (by decide +kernel) (by show 0 < 1000; decide) rfl rfl)]
  rw [x_nx (x_setF (v := b) (fs' := [("box_worths", a), ("row_worths", b)]) (by kernel_rfl) (by decide +kernel) (by show 1 < 1000; decide) rfl rfl)]
  rw [x_nx (x_setF (v := c) (fs' := [("box_worths", a), ("row_worths", b), ("fit_bodies", c)]) (by kernel_rfl) (by decide +kernel) (by show 2 < 1000; decide) rfl rfl)]
  rw [x_nx (x_setF (v := d) (fs' := [("box_worths", a), ("row_worths", b), ("fit_bodies", c), ("fault_met", d)]) (by kernel_rfl) (by decide +kernel) (by show 3 < 1000; decide) rfl rfl)]
  rw [x_nx (x_setF (v := e) (fs' := [("box_worths", a), ("row_worths", b), ("fit_bodies", c), ("fault_met", d), ("deep", e)]) (by kernel_rfl) (by decide +kernel) (by show 4 < 1000; decide) rfl rfl)]
  rw [x_end]
  rfl
theorem ev_mko {es : IEs} {a b c d e : Va} (h : evL (CF (n + 1)) es η S = .ok [a, b, c, d, e] S) : ev (CF (n + 1)) (.mko "Around" es) η S = .ok (.ref S.length) (S ++ [aro a b c d e]) := by
  rw [ev, h, R.bind_ok]
  show mkoV (PF (n + 1)) osL.cs "Around" _ S = _
  unfold mkoV
  rw [show lookC osL.cs "Around" = some ciA from rfl]
  dsimp only [ciA]
  show (if 6 = 6 then (PF (n + 1) i_Around___init__ _ _).bind _ else _) = _
  rw [if_pos rfl, F_init, R.bind_ok]
theorem F_reckon {e : Xp} {a b c : Va} (he : e.ok) (hn : e.dm + 7 ≤ n) (hS : clS S = true) (ha : Nd a) (hb : Nd b) (hc : Nd c) : PF n i_reckon [.d e.g, a, b, c, .d .none] S = .ok (.d (rk (cm e))) S := by
  obtain ⟨n, rfl⟩ : ∃ k, n = k + 2 := ⟨n - 2, by omega⟩
  rw [at_reckon]
  have orz : ∀ (i : Nat) (v : Va), Nd v → [some (.d e.g), some a, some b, some c, some (.d .none), none, none][i]? = some (some v) → ev (CF (n + 1)) (.or (.loc i) (.dctZ .nil)) [some (.d e.g), some a, some b, some c, some (.d .none), none, none] S = .ok (.d (.dict [])) S := by
    intro i v hv hi
    rw [ev, ev, hi]
    dsimp only
    rcases hv with rfl | rfl <;> rfl
  have mk := ev_mko (n := n) (S := S) (η := [some (.d e.g), some a, some b, some c, some (.d .none), none, none]) (es := .cons (.or (.loc 1) (.dctZ .nil)) (.cons (.or (.loc 2) (.dctZ .nil)) (.cons (.or (.loc 3) (.dctZ .nil)) (.cons (.loc 4) (.cons (.int 0) .nil))))) (a := .d (.dict [])) (b := .d (.dict [])) (c := .d (.dict [])) (d := .d .none) (e := .d (.int 0)) (by
    rw [evL, orz 1 a ha rfl, R.bind_ok, evL, orz 2 b hb rfl, R.bind_ok, evL, orz 3 c hc rfl, R.bind_ok]
    rfl)
  refine (runF_rt (S1 := S ++ [aro (.d (.dict [])) (.d (.dict [])) (.d (.dict [])) (.d .none) (.d (.int 0))]) (v := .d (rk (cm e))) ?_).trans (trim_new rfl hS)
  show execs (CF (n + 1)) ir_reckon [some (.d e.g), some a, some b, some c, some (.d .none), none, none] S = _
  unfold ir_reckon
  rw [x_nx (x_set mk)]
  show execs (CF (n + 1)) _ [some (.d e.g), some a, some b, some c, some (.d .none), some (.ref S.length), none] _ = _
  generalize S ++ [aro (.d (.dict [])) (.d (.dict [])) (.d (.dict [])) (.d .none) (.d (.int 0))] = S'
  refine x_rt ?_
  have cl : ev (CF (n + 1)) (.call i_come (.cons (.loc 0) (.cons (.loc 5) .nil))) [some (.d e.g), some a, some b, some c, some (.d .none), some (.ref S.length), none] S' = rsV (gX (cm e)) S' := (ev_call (l := [.d e.g, .ref S.length]) (S1 := S') rfl).trans (F_come e he (by omega))
  have bo : execs (CF (n + 1)) (.cons (.ret (.tup (.cons (.str "worth") (.cons (.call i_come (.cons (.loc 0) (.cons (.loc 5) .nil))) .nil)))) .nil) [some (.d e.g), some a, some b, some c, some (.d .none), some (.ref S.length), none] S' = match cm e with
      | .ok v => .ok (.rt (.d (.tuple [.str "worth", v.g]))) S'
      | .error w => .ex (flt w) S' := by
    rw [x_ret', ev, evL, ev, R.bind_ok, evL, cl]
    cases cm e <;> rfl
  rw [exec, bo]
  cases cm e with
  | ok v => rfl
  | error w => kernel_rfl
end
end Nb.Lw

namespace Nb.Lw
open PySem L2 Nb
/-! ### the law's own reckoning -/
theorem ev_w {C : Cfg} {t : Str} {e : IE} {x : PyData} {η : En} {S : Sto} (h : ev C e η S = .ok (.d x) S) : ev C (.tup (.cons (.str t) (.cons e .nil))) η S = .ok (.d (.tuple [.str t, x])) S := by
  rw [ev, evL, ev, R.bind_ok, evL, h, R.bind_ok, evL, R.bind_ok, R.bind_ok, R.bind_ok]
  rfl
/-- if c: return e -/
theorem x_T' {C : Cfg} {c e : IE} {b r : ISs} {η : En} {S : Sto} {x : PyData} (h : ev C c η S = .ok (.d (.bool true)) S) (he : ev C e η S = .ok (.d x) S) : execs C (.cons (.ife c (.cons (.ret e) .nil) b) r) η S = .ok (.rt (.d x)) S := by
  refine x_T (q := .ok (.d x) S) h ?_
  rw [x_ret', he]
theorem x_R {C : Cfg} {e : IE} {r : ISs} {η : En} {S : Sto} {x : PyData} (he : ev C e η S = .ok (.d x) S) : execs C (.cons (.ret e) r) η S = .ok (.rt (.d x)) S := by
  rw [x_ret', he]
  rfl
theorem ev_ib {C : Cfg} {e : IE} {b : Bool} {η : En} {S : Sto} (h : ev C e η S = .ok (.d (.bool b)) S) : ev C (.blt .int (.cons e .nil)) η S = .ok (.d (.int (if b then 1 else 0))) S := by
  rw [ev, evL, h, R.bind_ok, evL, R.bind_ok, R.bind_ok]
  rfl
theorem ev_ne {C : Cfg} {e : IE} {i : Int} {η : En} {S : Sto} (h : ev C e η S = .ok (.d (.int i)) S) : ev C (.cmp .ne e (.int 0)) η S = .ok (.d (.bool (decide (i ≠ 0)))) S := by
  rw [ev, h, R.bind_ok, ev, R.bind_ok, c_neI, R.bind_ok]
  simp
section
variable {n : Nat} {S : Sto} {η : En}
theorem F_Lbounded {x : X} (hx : ∀ v, x = .ok v → v.sz) : PF (n + 1) i_Lbounded [.d (rk x)] S = .ok (.d (rk (bdX x))) S := by
  rw [at_Lbounded]
  refine run_of ?_
  show execs (CF n) ir_Lbounded [some (.d (rk x))] S = _
  cases x with
  | error w => kernel_rfl
  | ok v =>
    cases v with
    | n i =>
      have c1 : ev (CF n) (.and (.cmp .eq (.ix (.loc 0) (.int 0)) (.str "worth")) (.and (.isi (.ix (.loc 0) (.int 1)) .int) (.cmp .gt (.blt .abs (.cons (.ix (.loc 0) (.int 1)) .nil)) (.bin .pow (.int 10) (.int 12))))) [some (.d (rk (.ok (.n i))))] S = .ok (.d (.bool (decide (1000000000000 < if i < 0 then -i else i)))) S := by kernel_rfl
      by_cases z : (if i < 0 then -i else i) ≤ 1000000000000
      · have e : bdX (.ok (.n i)) = .ok (.n i) := by
          show bd (.n i) = _
          rw [bd, if_pos (decide_eq_true z)]
        rw [e]
        rw [decide_eq_false (Int.not_lt.mpr z)] at c1
        exact sk_ c1 (sk_ (by kernel_rfl) (x_R rfl))
      · have e : bdX (.ok (.n i)) = .error "great" := by
          show bd (.n i) = _
          rw [bd, decide_eq_false z, if_neg Bool.false_ne_true]
        rw [e]
        rw [decide_eq_true (Int.not_le.mp z)] at c1
        exact x_T' c1 (by kernel_rfl)
    | t s =>
      have hs : s.length ≤ 200 := hx _ rfl
      refine sk_ (by kernel_rfl) ?_
      have c2 : ev (CF n) (.and (.cmp .eq (.ix (.loc 0) (.int 0)) (.str "worth")) (.and (.isi (.ix (.loc 0) (.int 1)) .str) (.cmp .gt (.blt .len (.cons (.ix (.loc 0) (.int 1)) .nil)) (.int 100)))) [some (.d (rk (.ok (.t s))))] S = .ok (.d (.bool (decide ((100 : Int) < s.length)))) S := by
        refine (ev_and (s := true) (t := decide ((100 : Int) < s.length)) (by kernel_rfl) fun _ => ev_and (s := true) (by kernel_rfl) fun _ => ?_).trans rfl
        rw [ev, ev_len (x := s) (by kernel_rfl) hs, R.bind_ok]
        kernel_rfl
      by_cases z : (s.length : Int) ≤ 100
      · have e : bdX (.ok (.t s)) = .ok (.t s) := by
          show bd (.t s) = _
          rw [bd, if_pos (decide_eq_true z)]
        rw [e]
        rw [decide_eq_false (Int.not_lt.mpr z)] at c2
        exact sk_ c2 (x_R rfl)
      · have e : bdX (.ok (.t s)) = .error "long" := by
          show bd (.t s) = _
          rw [bd, decide_eq_false z, if_neg Bool.false_ne_true]
        rw [e]
        rw [decide_eq_true (Int.not_le.mp z)] at c2
        exact x_T' c2 (by kernel_rfl)
theorem ite_b {b : Bool} {S : Sto} : R.ok (Va.d (.tuple [.str "worth", .int (if b then 1 else 0)])) S = .ok (.d (rk (.ok (b2i b)))) S := by cases b <;> rfl
theorem F_LtwoN {s : Sg} {i j : Int} (hj : (Wo.n j).ok) : PF (n + 1) i_Ltwo [.d (.str s.g), .d (.int i), .d (.int j)] S = .ok (.d (rk (bsN s i j))) S := by
  rw [at_Ltwo]
  refine run_of ?_
  show execs (CF n) ir_Ltwo [some (.d (.str s.g)), some (.d (.int i)), some (.d (.int j)), none] S = _
  have hj : j.natAbs ≤ 1000000000000 := hj
  have z2 : ev (CF n) (.cmp .eq (.loc 2) (.int 0)) [some (.d (.str s.g)), some (.d (.int i)), some (.d (.int j)), none] S = .ok (.d (.bool (decide (j = 0)))) S := by
    rw [ev, show ev (CF n) (.loc 2) [some (.d (.str s.g)), some (.d (.int i)), some (.d (.int j)), none] S = .ok (.d (.int j)) S from rfl, R.bind_ok, ev, R.bind_ok, c_eqI, R.bind_ok]
  have l1 : ev (CF n) (.loc 1) [some (.d (.str s.g)), some (.d (.int i)), some (.d (.int j)), none] S = .ok (.d (.int i)) S := rfl
  have l2 : ev (CF n) (.loc 2) [some (.d (.str s.g)), some (.d (.int i)), some (.d (.int j)), none] S = .ok (.d (.int j)) S := rfl
  cases s with
  | div =>
    by_cases h0 : j = 0
    · refine x_T' (ev_and (s := true) (by kernel_rfl) fun _ => z2.trans (by rw [decide_eq_true h0])) ?_
      rw [bsN, if_pos h0]
      kernel_rfl
    · refine sk_ ((ev_and (s := true) (by kernel_rfl) fun _ => z2).trans (by rw [decide_eq_false h0]; rfl)) ?_
      refine sk_ (by kernel_rfl) (sk_ (by kernel_rfl) (sk_ (by kernel_rfl) (x_T' (by kernel_rfl) ?_)))
      rw [bsN, if_neg h0]
      exact ev_w (by rw [ev, l1, R.bind_ok, l2, R.bind_ok, fdiv_ok hj h0]; rfl)
  | rest =>
    by_cases h0 : j = 0
    · refine x_T' (ev_and (s := true) (by kernel_rfl) fun _ => z2.trans (by rw [decide_eq_true h0])) ?_
      rw [bsN, if_pos h0]
      kernel_rfl
    · refine sk_ ((ev_and (s := true) (by kernel_rfl) fun _ => z2).trans (by rw [decide_eq_false h0]; rfl)) ?_
      refine sk_ (by kernel_rfl) (sk_ (by kernel_rfl) (sk_ (by kernel_rfl) (sk_ (by kernel_rfl) (x_T' (by kernel_rfl) ?_))))
      rw [bsN, if_neg h0]
      refine ev_w ?_
      rw [ev, l1, R.bind_ok, ev, ev, l1, R.bind_ok, l2, R.bind_ok, fdiv_ok hj h0, R.bind_ok, l2, R.bind_ok, mul_okR hj, R.bind_ok]
      rfl
  | add => exact sk_ (by kernel_rfl) (x_T' (by kernel_rfl) (by kernel_rfl))
  | sub => exact sk_ (by kernel_rfl) (sk_ (by kernel_rfl) (x_T' (by kernel_rfl) (by kernel_rfl)))
  | mul =>
    refine sk_ (by kernel_rfl) (sk_ (by kernel_rfl) (sk_ (by kernel_rfl) (x_T' (by kernel_rfl) (ev_w ?_))))
    rw [ev, l1, R.bind_ok, l2, R.bind_ok, mul_okR hj]
    rfl
  | eq =>
    refine sk_ (by kernel_rfl) (sk_ (by kernel_rfl) (sk_ (by kernel_rfl) (sk_ (by kernel_rfl) (sk_ (by kernel_rfl) (sk_ (by kernel_rfl) (sk_ (by kernel_rfl) (sk_ (by kernel_rfl) (x_T' (by kernel_rfl) ?_))))))))
    refine (ev_w (x := .int (if decide (i = j) then 1 else 0)) ?_).trans ite_b
    rw [ev, evL, ev, l1, R.bind_ok, l2, R.bind_ok, c_eqI]
    cases decide (i = j) <;> rfl
  | lt =>
    refine sk_ (by kernel_rfl) (sk_ (by kernel_rfl) (sk_ (by kernel_rfl) (sk_ (by kernel_rfl) (sk_ (by kernel_rfl) (sk_ (by kernel_rfl) (sk_ (by kernel_rfl) (sk_ (by kernel_rfl) (sk_ (by kernel_rfl) (x_R ?_)))))))))
    exact (ev_w (x := .int (if decide (i < j) then 1 else 0)) (by kernel_rfl)).trans ite_b
  | gt =>
    refine sk_ (by kernel_rfl) (sk_ (by kernel_rfl) (sk_ (by kernel_rfl) (sk_ (by kernel_rfl) (sk_ (by kernel_rfl) (sk_ (by kernel_rfl) (sk_ (by kernel_rfl) (sk_ (by kernel_rfl) (sk_ (by kernel_rfl) (x_R ?_)))))))))
    exact (ev_w (x := .int (if decide (j < i) then 1 else 0)) (by kernel_rfl)).trans ite_b
  | and =>
    refine sk_ (by kernel_rfl) (sk_ (by kernel_rfl) (sk_ (by kernel_rfl) (sk_ (by kernel_rfl) (sk_ (by kernel_rfl) (sk_ (by kernel_rfl) (sk_ (by kernel_rfl) (x_T (q := .ok (.d (rk (bsN .and i j))) S) (by kernel_rfl) ?_)))))))
    have b : ev (CF n) (.bin .add (.blt .int (.cons (.cmp .ne (.loc 1) (.int 0)) .nil)) (.blt .int (.cons (.cmp .ne (.loc 2) (.int 0)) .nil))) [some (.d (.str Sg.and.g)), some (.d (.int i)), some (.d (.int j)), none] S = .ok (.d (.int ((if decide (i ≠ 0) then 1 else 0) + (if decide (j ≠ 0) then 1 else 0)))) S := by
      rw [ev, ev_ib (ev_ne l1), R.bind_ok, ev_ib (ev_ne l2), R.bind_ok]
      rfl
    rw [x_nx (x_set b)]
    show execs (CF n) _ [some (.d (.str Sg.and.g)), some (.d (.int i)), some (.d (.int j)), some (.d (.int ((if decide (i ≠ 0) then 1 else 0) + (if decide (j ≠ 0) then 1 else 0))))] S = .ok (.rt (.d (rk (.ok (b2i (decide (i ≠ 0) && decide (j ≠ 0))))))) S
    generalize decide (i ≠ 0) = p
    generalize decide (j ≠ 0) = q
    cases p <;> cases q <;> kernel_rfl
  | or =>
    refine sk_ (by kernel_rfl) (sk_ (by kernel_rfl) (sk_ (by kernel_rfl) (sk_ (by kernel_rfl) (sk_ (by kernel_rfl) (sk_ (by kernel_rfl) (sk_ (by kernel_rfl) (x_T (q := .ok (.d (rk (bsN .or i j))) S) (by kernel_rfl) ?_)))))))
    have b : ev (CF n) (.bin .add (.blt .int (.cons (.cmp .ne (.loc 1) (.int 0)) .nil)) (.blt .int (.cons (.cmp .ne (.loc 2) (.int 0)) .nil))) [some (.d (.str Sg.or.g)), some (.d (.int i)), some (.d (.int j)), none] S = .ok (.d (.int ((if decide (i ≠ 0) then 1 else 0) + (if decide (j ≠ 0) then 1 else 0)))) S := by
      rw [ev, ev_ib (ev_ne l1), R.bind_ok, ev_ib (ev_ne l2), R.bind_ok]
      rfl
    rw [x_nx (x_set b)]
    show execs (CF n) _ [some (.d (.str Sg.or.g)), some (.d (.int i)), some (.d (.int j)), some (.d (.int ((if decide (i ≠ 0) then 1 else 0) + (if decide (j ≠ 0) then 1 else 0))))] S = .ok (.rt (.d (rk (.ok (b2i (decide (i ≠ 0) || decide (j ≠ 0))))))) S
    generalize decide (i ≠ 0) = p
    generalize decide (j ≠ 0) = q
    cases p <;> cases q <;> kernel_rfl
theorem F_LtwoT {s : Sg} {x y : Str} (hs : s = .add ∨ s = .lt ∨ s = .eq ∨ s = .gt) (hx : (Wo.t x).ok) (hy : (Wo.t y).ok) : PF (n + 1) i_Ltwo [.d (.str s.g), .d (.str x), .d (.str y)] S = .ok (.d (rk (bsT s x y))) S := by
  rw [at_Ltwo]
  refine run_of ?_
  show execs (CF n) ir_Ltwo [some (.d (.str s.g)), some (.d (.str x)), some (.d (.str y)), none] S = _
  have l1 : ev (CF n) (.loc 1) [some (.d (.str s.g)), some (.d (.str x)), some (.d (.str y)), none] S = .ok (.d (.str x)) S := rfl
  have l2 : ev (CF n) (.loc 2) [some (.d (.str s.g)), some (.d (.str x)), some (.d (.str y)), none] S = .ok (.d (.str y)) S := rfl
  rcases hs with rfl | rfl | rfl | rfl
  · refine sk_ (by kernel_rfl) (x_T' (by kernel_rfl) (ev_w ?_))
    rw [ev, l1, R.bind_ok, l2, R.bind_ok, cat_okR hx hy]
    rfl
  · refine sk_ (by kernel_rfl) (sk_ (by kernel_rfl) (sk_ (by kernel_rfl) (sk_ (by kernel_rfl) (sk_ (by kernel_rfl) (sk_ (by kernel_rfl) (sk_ (by kernel_rfl) (sk_ (by kernel_rfl) (sk_ (by kernel_rfl) (x_R ?_)))))))))
    exact (ev_w (x := .int (if decide (x.cps.toList < y.cps.toList) then 1 else 0)) (by kernel_rfl)).trans ite_b
  · refine sk_ (by kernel_rfl) (sk_ (by kernel_rfl) (sk_ (by kernel_rfl) (sk_ (by kernel_rfl) (sk_ (by kernel_rfl) (sk_ (by kernel_rfl) (sk_ (by kernel_rfl) (sk_ (by kernel_rfl) (x_T' (by kernel_rfl) ?_))))))))
    refine (ev_w (x := .int (if decide (x = y) then 1 else 0)) ?_).trans ite_b
    rw [ev, evL, ev, l1, R.bind_ok, l2, R.bind_ok, c_eqS]
    cases decide (x = y) <;> rfl
  · refine sk_ (by kernel_rfl) (sk_ (by kernel_rfl) (sk_ (by kernel_rfl) (sk_ (by kernel_rfl) (sk_ (by kernel_rfl) (sk_ (by kernel_rfl) (sk_ (by kernel_rfl) (sk_ (by kernel_rfl) (sk_ (by kernel_rfl) (x_R ?_)))))))))
    exact (ev_w (x := .int (if decide (y.cps.toList < x.cps.toList) then 1 else 0)) (by kernel_rfl)).trans ite_b
theorem F_LtwoNot {i j : Int} : PF (n + 1) i_Ltwo [.d (.str "not"), .d (.int i), .d (.int j)] S = .ok (.d (rk (ntP (.n i)))) S := by
  rw [at_Ltwo]
  refine run_of ?_
  show execs (CF n) ir_Ltwo [some (.d (.str "not")), some (.d (.int i)), some (.d (.int j)), none] S = _
  refine sk_ (by kernel_rfl) (sk_ (by kernel_rfl) (sk_ (by kernel_rfl) (sk_ (by kernel_rfl) (sk_ (by kernel_rfl) (sk_ (by kernel_rfl) (x_T' (by kernel_rfl) ?_))))))
  exact (ev_w (x := .int (if (i == 0) then 1 else 0)) (by kernel_rfl)).trans ite_b
end
end Nb.Lw

namespace Nb.Lw
open PySem L2 Nb
theorem evL1 {C : Cfg} {a : IE} {x : Va} {η : En} {S : Sto} (ha : ev C a η S = .ok x S) : evL C (.cons a .nil) η S = .ok [x] S := by
  rw [evL, ha, R.bind_ok, evL, R.bind_ok]
theorem evL2 {C : Cfg} {a b : IE} {x y : Va} {η : En} {S : Sto} (ha : ev C a η S = .ok x S) (hb : ev C b η S = .ok y S) : evL C (.cons a (.cons b .nil)) η S = .ok [x, y] S := by
  rw [evL, ha, R.bind_ok, evL1 hb, R.bind_ok]
theorem evL3 {C : Cfg} {a b c : IE} {x y z : Va} {η : En} {S : Sto} (ha : ev C a η S = .ok x S) (hb : ev C b η S = .ok y S) (hc : ev C c η S = .ok z S) : evL C (.cons a (.cons b (.cons c .nil))) η S = .ok [x, y, z] S := by
  rw [evL, ha, R.bind_ok, evL2 hb hc, R.bind_ok]
theorem sameL_g : ∀ ws : List Wo, sameL ((ws.map Wo.g).map .d) ((ws.map Wo.g).map .d) = true
  | [] => rfl
  | w :: r => by
    rw [List.map_cons, List.map_cons, sameL, sameL_g r]
    cases w with
    | n i => show (decide (i = i) && true) = true; rw [decide_eq_true rfl]; rfl
    | t s => show (decide (s = s) && true) = true; rw [decide_eq_true rfl]; rfl
def notK (k : Tk) (x : PyData) : Option PyData := if isD k x then none else some x
section
variable {n : Nat} {S : Sto}
theorem cmpC_ty {C : Cfg} {k : Tk} {ws : List Wo} (hl : ws.length ≤ 3) {x0 x1 x3 x4 x5 x6 x7 : Option Va} :
    evF C (.cmpC (.loc 7) (.nm 7) 2 (.so (.not (.isi (.loc 7) k))) [7]) [x0, x1, some (.ref S.length), x3, x4, x5, x6, x7] (S ++ [.lst ((ws.map Wo.g).map .d)]) = .ok (((ws.map Wo.g).filterMap (notK k)).map .d) (S ++ [.lst ((ws.map Wo.g).map .d)]) := by
  have hs : sameC S.length ((ws.map Wo.g).map .d) (S ++ [.lst ((ws.map Wo.g).map .d)]) = true := by
    unfold sameC
    rw [top_get]
    exact sameL_g ws
  rw [evF]
  show R.nx (match (S ++ [Ob.lst ((ws.map Wo.g).map .d)])[S.length]? with | some (.lst l) => if l.length ≤ sizeLine then (compF _ l [] _).bind _ else .bad | _ => .bad) = _
  rw [top_get]
  dsimp only
  rw [if_pos (by rw [List.length_map, List.length_map]; exact Nat.le_trans hl (by decide)), compF_pure (g := notK k), R.bind_ok, List.nil_append, if_pos hs, R.nx_ok]
  intro x hx
  rw [if_pos hs]
  unfold notK
  have l7 : ∀ S', ev C (.loc 7) [x0, x1, some (.ref S.length), x3, x4, x5, x6, some (.d x)] S' = .ok (.d x) S' := fun _ => rfl
  rw [asgn, R.bind_ok]
  show ((evT C (.so (.not (.isi (.loc 7) k))) [x0, x1, some (.ref S.length), x3, x4, x5, x6, some (.d x)] _).bind _) = _
  rw [evT, ev, ev, l7, R.bind_ok, i_d, R.bind_ok]
  cases isD k x <;> rfl
theorem ev_emp {C : Cfg} {f : IF} {η : En} {l : List PyData} {b : Bool} {S : Sto} (h : evF C f η S = .ok (l.map .d) S) (hc : cmpV .eq (.d (.list l)) (.d (.list [])) S = .ok b S) : ev C (.cmp .eq (.fz f) (.fz (.disp .nil))) η S = .ok (.d (.bool b)) S := by
  rw [ev, ev_fz h, R.bind_ok, ev_fz (l := []) (by rw [evF, evL]; rfl), R.bind_ok, hc, R.bind_ok]
theorem two_b {w : Wd} {ws : List Wo} {ed env : PyData} {b1 b2 : Bool} (hl : ws.length ≤ 3) (h1 : cmpV .eq (.d (.list ((ws.map Wo.g).filterMap (notK .int)))) (.d (.list [])) (S ++ [.lst ((ws.map Wo.g).map .d)]) = .ok b1 (S ++ [.lst ((ws.map Wo.g).map .d)])) (h2 : cmpV .eq (.d (.list ((ws.map Wo.g).filterMap (notK .str)))) (.d (.list [])) (S ++ [.lst ((ws.map Wo.g).map .d)]) = .ok b2 (S ++ [.lst ((ws.map Wo.g).map .d)])) {q : R Fl}
    (k : execs (CF n) (match ir_Lcomes with | .cons _ (.cons _ r) => r | r => r) [some (.d (.str w.g)), some (.d ed), some (.ref S.length), some (.d env), some (.d (.bool b1)), some (.d (.bool b2)), none, none] (S ++ [.lst ((ws.map Wo.g).map .d)]) = q) :
    execs (CF n) ir_Lcomes [some (.d (.str w.g)), some (.d ed), some (.ref S.length), some (.d env), none, none, none, none] (S ++ [.lst ((ws.map Wo.g).map .d)]) = q := by
  unfold ir_Lcomes
  rw [x_nx (x_set (ev_emp (cmpC_ty hl) h1))]
  show execs (CF n) _ [some (.d (.str w.g)), some (.d ed), some (.ref S.length), some (.d env), some (.d (.bool b1)), none, none, none] _ = _
  rw [x_nx (x_set (ev_emp (cmpC_ty hl) h2))]
  exact k
theorem ix_top {C : Cfg} {l : List PyData} {i : Int} {e : IE} {x : PyData} {x0 x1 x3 x4 x5 x6 x7 : Option Va} (he : ev C e [x0, x1, some (.ref S.length), x3, x4, x5, x6, x7] (S ++ [.lst (l.map .d)]) = .ok (.d (.int i)) (S ++ [.lst (l.map .d)])) (hx : atI (l.map Va.d) i = some (.d x)) : ev C (.ix (.loc 2) e) [x0, x1, some (.ref S.length), x3, x4, x5, x6, x7] (S ++ [.lst (l.map .d)]) = .ok (.d x) (S ++ [.lst (l.map .d)]) := by
  rw [ev, show ev C (.loc 2) [x0, x1, some (.ref S.length), x3, x4, x5, x6, x7] (S ++ [.lst (l.map .d)]) = .ok (.ref S.length) (S ++ [.lst (l.map .d)]) from rfl, R.bind_ok, he, R.bind_ok]
  show (match (S ++ [Ob.lst (l.map .d)])[S.length]? with | some (.lst l) => (match atI l i with | some v => R.ok v _ | none => .bad) | some (.dct kvs) => (match valA kvs (.inl i) with | some v => .ok v _ | none => .bad) | _ => .bad) = _
  rw [top_get]
  dsimp only
  rw [hx]
theorem F_Lcomes {w : Wd} {ws : List Wo} {ed env : PyData} (hl : ws.length = w.ar) (hk : ∀ x ∈ ws, x.ok) : PF (n + 2) i_Lcomes [.d (.str w.g), .d ed, .ref S.length, .d env] (S ++ [.lst ((ws.map Wo.g).map .d)]) = .ok (.d (rk (ow w ws))) (S ++ [.lst ((ws.map Wo.g).map .d)]) := by
  rw [at_Lcomes]
  refine run_of ?_
  show execs (CF (n + 1)) ir_Lcomes [some (.d (.str w.g)), some (.d ed), some (.ref S.length), some (.d env), none, none, none, none] _ = _
  cases w with
  | not =>
    match ws, hl, hk with
    | [.n i], _, hk =>
      refine two_b (ws := [.n i]) (b1 := true) (b2 := false) (show 1 ≤ 3 by decide) (by kernel_rfl) (by kernel_rfl) (sk_ (by kernel_rfl) (sk_ (by kernel_rfl) (sk_ (by kernel_rfl) (x_T' (by kernel_rfl) ?_))))
      exact (ev_call (evL3 (x := .d (.str "not")) rfl (ix_top (l := [(Wo.n i).g]) (x := .int i) (i := 0) rfl rfl) (ix_top (l := [(Wo.n i).g]) (x := .int i) (i := -1) rfl rfl))).trans (F_LtwoNot (n := n) (j := i))
    | [.t x], _, hk => exact two_b (ws := [.t x]) (b1 := false) (b2 := true) (show 1 ≤ 3 by decide) (by kernel_rfl) (by kernel_rfl) (sk_ (by kernel_rfl) (sk_ (by kernel_rfl) (sk_ (by kernel_rfl) (sk_ (by kernel_rfl) (x_R (by kernel_rfl))))))
  | size =>
    match ws, hl, hk with
    | [.n i], _, hk => exact two_b (ws := [.n i]) (b1 := true) (b2 := false) (show 1 ≤ 3 by decide) (by kernel_rfl) (by kernel_rfl) (sk_ (by kernel_rfl) (sk_ (by kernel_rfl) (x_T' (by kernel_rfl) (by kernel_rfl))))
    | [.t x], _, hk =>
      refine two_b (ws := [.t x]) (b1 := false) (b2 := true) (show 1 ≤ 3 by decide) (by kernel_rfl) (by kernel_rfl) (sk_ (by kernel_rfl) (sk_ (by kernel_rfl) (x_T' (by kernel_rfl) ?_)))
      rw [ev, ev]
      show ev _ (.tup (.cons (.str "worth") (.cons (.blt .len (.cons (.ix (.loc 2) (.int 0)) .nil)) .nil))) _ _ = _
      exact ev_w (ev_len (ix_top (l := [(Wo.t x).g]) (x := .str x) (i := 0) rfl rfl) (hk _ (List.mem_cons_self ..)).sz)
  | part =>
    match ws, hl, hk with
    | [a, b, c], _, hk =>
      have g0 : ∀ {x3 x4 x5 : Option Va}, ev (CF (n + 1)) (.ix (.loc 2) (.int 0)) [some (.d (.str Wd.part.g)), some (.d ed), some (.ref S.length), some (.d env), x3, x4, x5, none] (S ++ [.lst (([a, b, c].map Wo.g).map .d)]) = .ok (.d a.g) (S ++ [.lst (([a, b, c].map Wo.g).map .d)]) := ix_top (l := [a, b, c].map Wo.g) (i := 0) rfl rfl
      have g1 : ∀ {x3 x4 x5 : Option Va}, ev (CF (n + 1)) (.ix (.loc 2) (.int 1)) [some (.d (.str Wd.part.g)), some (.d ed), some (.ref S.length), some (.d env), x3, x4, x5, none] (S ++ [.lst (([a, b, c].map Wo.g).map .d)]) = .ok (.d b.g) (S ++ [.lst (([a, b, c].map Wo.g).map .d)]) := ix_top (l := [a, b, c].map Wo.g) (i := 1) rfl rfl
      have g2 : ∀ {x3 x4 x5 : Option Va}, ev (CF (n + 1)) (.ix (.loc 2) (.int 2)) [some (.d (.str Wd.part.g)), some (.d ed), some (.ref S.length), some (.d env), x3, x4, x5, none] (S ++ [.lst (([a, b, c].map Wo.g).map .d)]) = .ok (.d c.g) (S ++ [.lst (([a, b, c].map Wo.g).map .d)]) := ix_top (l := [a, b, c].map Wo.g) (i := 2) rfl rfl
      have tyI : ∀ {k : Tk} {j : Int} {x : PyData} {x3 x4 x5 : Option Va}, ev (CF (n + 1)) (.ix (.loc 2) (.int j)) [some (.d (.str Wd.part.g)), some (.d ed), some (.ref S.length), some (.d env), x3, x4, x5, none] (S ++ [.lst (([a, b, c].map Wo.g).map .d)]) = .ok (.d x) (S ++ [.lst (([a, b, c].map Wo.g).map .d)]) → ev (CF (n + 1)) (.isi (.ix (.loc 2) (.int j)) k) [some (.d (.str Wd.part.g)), some (.d ed), some (.ref S.length), some (.d env), x3, x4, x5, none] (S ++ [.lst (([a, b, c].map Wo.g).map .d)]) = .ok (.d (.bool (isD k x))) (S ++ [.lst (([a, b, c].map Wo.g).map .d)]) := by
        intro k j x x3 x4 x5 h
        rw [ev, h, R.bind_ok, i_d, R.bind_ok]
      have body : ∀ {x4 x5 : Option Va}, execs (CF (n + 1)) (.cons (.ife (.or (.not (.isi (.ix (.loc 2) (.int 0)) .str)) (.or (.isi (.ix (.loc 2) (.int 1)) .str) (.isi (.ix (.loc 2) (.int 2)) .str))) (.cons (.ret (.tup (.cons (.str "fault") (.cons (.str "kind") .nil))))
    .nil) .nil)
    (.cons (.ife (.or (.cmp .lt (.ix (.loc 2) (.int 1)) (.int 1)) (.cmp .lt (.ix (.loc 2) (.int 2)) (.int 0))) (.cons (.ret (.tup (.cons (.str "fault") (.cons (.str "range") .nil))))
    .nil) .nil)
    (.cons (.ret (.tup (.cons (.str "worth") (.cons (.sl (.ix (.loc 2) (.int 0)) (.so (.bin .sub (.ix (.loc 2) (.int 1)) (.int 1))) (.so (.bin .add (.bin .sub (.ix (.loc 2) (.int 1)) (.int 1)) (.ix (.loc 2) (.int 2))))) .nil))))
    .nil))) [some (.d (.str Wd.part.g)), some (.d ed), some (.ref S.length), some (.d env), x4, x5, none, none] (S ++ [.lst (([a, b, c].map Wo.g).map .d)]) = .ok (.rt (.d (rk (ptP a b c)))) (S ++ [.lst (([a, b, c].map Wo.g).map .d)]) := by
        intro x4 x5
        have cnd := ev_or (ev_not (tyI (k := .str) (x3 := x4) (x4 := x5) (x5 := none) g0)) fun _ => ev_or (tyI (k := .str) g1) fun _ => tyI (k := .str) g2
        cases a with
        | n i => exact x_T' cnd (by kernel_rfl)
        | t x =>
          cases b with
          | t y => exact x_T' cnd (by kernel_rfl)
          | n i =>
            cases c with
            | t y => exact x_T' cnd (by kernel_rfl)
            | n m =>
              refine sk_ cnd ?_
              have lt : ∀ {j u z : Int}, ev (CF (n + 1)) (.ix (.loc 2) (.int j)) [some (.d (.str Wd.part.g)), some (.d ed), some (.ref S.length), some (.d env), x4, x5, none, none] (S ++ [.lst (([Wo.t x, Wo.n i, Wo.n m].map Wo.g).map .d)]) = .ok (.d (.int z)) (S ++ [.lst (([Wo.t x, Wo.n i, Wo.n m].map Wo.g).map .d)]) → ev (CF (n + 1)) (.cmp .lt (.ix (.loc 2) (.int j)) (.int u)) [some (.d (.str Wd.part.g)), some (.d ed), some (.ref S.length), some (.d env), x4, x5, none, none] (S ++ [.lst (([Wo.t x, Wo.n i, Wo.n m].map Wo.g).map .d)]) = .ok (.d (.bool (decide (z < u)))) (S ++ [.lst (([Wo.t x, Wo.n i, Wo.n m].map Wo.g).map .d)]) := by
                intro j u z h
                rw [ev, h, R.bind_ok, ev, R.bind_ok]
                rfl
              have c2 := ev_or (lt (j := 1) (u := 1) (z := i) g1) fun _ => lt (j := 2) (u := 0) (z := m) g2
              by_cases hb : 1 ≤ i
              · rw [decide_eq_false (Int.not_lt.mpr hb)] at c2
                by_cases hm : 0 ≤ m
                · rw [decide_eq_false (Int.not_lt.mpr hm)] at c2
                  refine sk_ c2 (x_R ?_)
                  have e : ptP (.t x) (.n i) (.n m) = .ok (.t (cutS x (some (i - 1)) (some (i - 1 + m)))) := by
                    rw [ptP, decide_eq_true hb, decide_eq_true hm]
                    rfl
                  rw [e]
                  refine ev_w (t := "worth") ?_
                  have hx : x.length ≤ 100 := hk (.t x) (List.mem_cons_self ..)
                  have sb : ev (CF (n + 1)) (.bin .sub (.ix (.loc 2) (.int 1)) (.int 1)) [some (.d (.str Wd.part.g)), some (.d ed), some (.ref S.length), some (.d env), x4, x5, none, none] (S ++ [.lst (([Wo.t x, Wo.n i, Wo.n m].map Wo.g).map .d)]) = .ok (.d (.int (i - 1))) (S ++ [.lst (([Wo.t x, Wo.n i, Wo.n m].map Wo.g).map .d)]) := by
                    rw [ev, g1, R.bind_ok, ev, R.bind_ok]
                    rfl
                  rw [ev, g0, R.bind_ok, evO, sb, R.bind_ok]
                  dsimp only
                  rw [R.bind_ok, evO, ev, sb, R.bind_ok, g2, R.bind_ok]
                  show slV (.d (.str x)) (some (i - 1)) (some (i - 1 + m)) _ = _
                  show (if x.length ≤ sizeLine then _ else _) = _
                  rw [if_pos (by have : sizeLine = 16777216 := rfl; omega)]
                  rfl
                · rw [decide_eq_true (Int.not_le.mp hm)] at c2
                  refine x_T' c2 ?_
                  have e : ptP (.t x) (.n i) (.n m) = .error "range" := by
                    rw [ptP, decide_eq_false hm, Bool.and_false]
                    rfl
                  rw [e]
                  kernel_rfl
              · rw [decide_eq_true (Int.not_le.mp hb)] at c2
                refine x_T' c2 ?_
                have e : ptP (.t x) (.n i) (.n m) = .error "range" := by
                  rw [ptP, decide_eq_false hb, Bool.false_and]
                  rfl
                rw [e]
                kernel_rfl
      have go : ∀ {b1 b2 : Bool}, cmpV .eq (.d (.list (([a, b, c].map Wo.g).filterMap (notK .int)))) (.d (.list [])) (S ++ [.lst (([a, b, c].map Wo.g).map .d)]) = .ok b1 (S ++ [.lst (([a, b, c].map Wo.g).map .d)]) → cmpV .eq (.d (.list (([a, b, c].map Wo.g).filterMap (notK .str)))) (.d (.list [])) (S ++ [.lst (([a, b, c].map Wo.g).map .d)]) = .ok b2 (S ++ [.lst (([a, b, c].map Wo.g).map .d)]) → execs (CF (n + 1)) ir_Lcomes [some (.d (.str Wd.part.g)), some (.d ed), some (.ref S.length), some (.d env), none, none, none, none] (S ++ [.lst (([a, b, c].map Wo.g).map .d)]) = .ok (.rt (.d (rk (ow .part [a, b, c])))) (S ++ [.lst (([a, b, c].map Wo.g).map .d)]) := fun h1 h2 =>
        two_b (w := .part) (ws := [a, b, c]) (show 3 ≤ 3 by decide) h1 h2 (sk_ (by kernel_rfl) (x_T (q := .ok (.d (rk (ptP a b c))) _) (by kernel_rfl) body))
      exact go (b1 := a.isN && (b.isN && c.isN)) (b2 := !a.isN && (!b.isN && !c.isN)) (by cases a <;> cases b <;> cases c <;> kernel_rfl) (by cases a <;> cases b <;> cases c <;> kernel_rfl)
  | two s =>
    match ws, hl, hk with
    | [a, b], _, hk =>
      have cl : ∀ {x y : PyData} {b1 b2 : Bool} {q : R Va}, a.g = x → b.g = y → PF (n + 1) i_Ltwo [.d (.str s.g), .d x, .d y] (S ++ [.lst (([a, b].map Wo.g).map .d)]) = q → ev (CF (n + 1)) (.call i_Ltwo (.cons (.loc 0) (.cons (.ix (.loc 2) (.int 0)) (.cons (.ix (.loc 2) (.neg (.int 1))) .nil)))) [some (.d (.str (Wd.two s).g)), some (.d ed), some (.ref S.length), some (.d env), some (.d (.bool b1)), some (.d (.bool b2)), none, none] (S ++ [.lst (([a, b].map Wo.g).map .d)]) = q := by
        intro x y b1 b2 q hx hy h
        subst hx hy
        exact (ev_call (evL3 (x := .d (.str s.g)) rfl (ix_top (l := [a.g, b.g]) (x := a.g) (i := 0) rfl rfl) (ix_top (l := [a.g, b.g]) (x := b.g) (i := -1) rfl rfl))).trans h
      cases a with
      | n i =>
        cases b with
        | n j =>
          refine two_b (w := .two s) (ws := [.n i, .n j]) (b1 := true) (b2 := false) (show 2 ≤ 3 by decide) (by kernel_rfl) (by kernel_rfl) ?_
          have z := cl (b1 := true) (b2 := false) rfl rfl (F_LtwoN (n := n) (s := s) (i := i) (hk (.n j) (List.mem_cons_of_mem _ (List.mem_cons_self ..))))
          cases s <;> exact sk_ (by kernel_rfl) (sk_ (by kernel_rfl) (sk_ (by kernel_rfl) (x_T' (by kernel_rfl) z)))
        | t y =>
          refine two_b (w := .two s) (ws := [.n i, .t y]) (b1 := false) (b2 := false) (show 2 ≤ 3 by decide) (by kernel_rfl) (by kernel_rfl) ?_
          cases s <;> exact sk_ (by kernel_rfl) (sk_ (by kernel_rfl) (sk_ (by kernel_rfl) (sk_ (by kernel_rfl) (x_R (by kernel_rfl)))))
      | t x =>
        cases b with
        | n j =>
          refine two_b (w := .two s) (ws := [.t x, .n j]) (b1 := false) (b2 := false) (show 2 ≤ 3 by decide) (by kernel_rfl) (by kernel_rfl) ?_
          cases s <;> exact sk_ (by kernel_rfl) (sk_ (by kernel_rfl) (sk_ (by kernel_rfl) (sk_ (by kernel_rfl) (x_R (by kernel_rfl)))))
        | t y =>
          refine two_b (w := .two s) (ws := [.t x, .t y]) (b1 := false) (b2 := true) (show 2 ≤ 3 by decide) (by kernel_rfl) (by kernel_rfl) ?_
          have z := fun h => cl (b1 := false) (b2 := true) rfl rfl (F_LtwoT (n := n) (s := s) h (hk (.t x) (List.mem_cons_self ..)) (hk (.t y) (List.mem_cons_of_mem _ (List.mem_cons_self ..))))
          cases s with
          | add => exact sk_ (by kernel_rfl) (sk_ (by kernel_rfl) (sk_ (by kernel_rfl) (x_T' (by kernel_rfl) (z (.inl rfl)))))
          | lt => exact sk_ (by kernel_rfl) (sk_ (by kernel_rfl) (sk_ (by kernel_rfl) (x_T' (by kernel_rfl) (z (.inr (.inl rfl))))))
          | eq => exact sk_ (by kernel_rfl) (sk_ (by kernel_rfl) (sk_ (by kernel_rfl) (x_T' (by kernel_rfl) (z (.inr (.inr (.inl rfl)))))))
          | gt => exact sk_ (by kernel_rfl) (sk_ (by kernel_rfl) (sk_ (by kernel_rfl) (x_T' (by kernel_rfl) (z (.inr (.inr (.inr rfl)))))))
          | _ => exact sk_ (by kernel_rfl) (sk_ (by kernel_rfl) (sk_ (by kernel_rfl) (sk_ (by kernel_rfl) (x_R (by kernel_rfl)))))
end
end Nb.Lw

namespace Nb.Lw
open PySem L2 Nb
abbrev lrB : ISs := (.cons (.asg (.nm 6) (.call i_Lreckon (.cons (.loc 5) (.cons (.loc 1) (.cons (.loc 2) .nil)))))
    (.cons (.ife (.cmp .eq (.ix (.loc 6) (.int 0)) (.str "fault")) (.cons (.ret (.loc 6))
    .nil) .nil)
    (.cons (.ex (.met .append (.loc 4) (.cons (.ix (.loc 6) (.int 1)) .nil)))
    .nil)))
section
variable {n : Nat} {S : Sto}
theorem app_top {l : List PyData} {x : PyData} (h : l.length < 16777216) : appV (.ref S.length) [.d x] (S ++ [.lst (l.map .d)]) = .ok (.d .none) (S ++ [.lst ((l ++ [x]).map .d)]) := by
  show (match (S ++ [Ob.lst (l.map Va.d)])[S.length]? with | some (.lst l) => if l.length < sizeLine then R.ok (Va.d .none) ((S ++ [Ob.lst _]).set S.length (.lst (l ++ [Va.d x]))) else .bad | _ => .bad) = _
  rw [top_get]
  show (if (l.map Va.d).length < sizeLine then _ else _) = _
  rw [if_pos (by rw [List.length_map]; exact h), top_set, List.map_append]
  rfl
theorem lr_turn {e env dp W x : PyData} {r : X} {x6 : Option Va} {acc : List PyData} (ha : acc.length < 1000) (h : PF n i_Lreckon [.d x, .d env, .d dp] (S ++ [.lst (acc.map .d)]) = .ok (.d (rk r)) (S ++ [.lst (acc.map .d)])) :
    execs (CF n) lrB [some (.d e), some (.d env), some (.d dp), some (.d W), some (.ref S.length), some (.d x), x6, none, none, none] (S ++ [.lst (acc.map .d)]) = match r with
      | .ok v => .ok (.nx [some (.d e), some (.d env), some (.d dp), some (.d W), some (.ref S.length), some (.d x), some (.d (rk r)), none, none, none]) (S ++ [.lst ((acc ++ [v.g]).map .d)])
      | .error _ => .ok (.rt (.d (rk r))) (S ++ [.lst (acc.map .d)]) := by
  unfold lrB
  have c : ev (CF n) (.call i_Lreckon (.cons (.loc 5) (.cons (.loc 1) (.cons (.loc 2) .nil)))) [some (.d e), some (.d env), some (.d dp), some (.d W), some (.ref S.length), some (.d x), x6, none, none, none] (S ++ [.lst (acc.map .d)]) = .ok (.d (rk r)) (S ++ [.lst (acc.map .d)]) := (ev_call (evL3 (x := .d x) (y := .d env) (z := .d dp) rfl rfl rfl)).trans h
  rw [x_nx (x_set c)]
  show execs (CF n) _ [some (.d e), some (.d env), some (.d dp), some (.d W), some (.ref S.length), some (.d x), some (.d (rk r)), none, none, none] _ = _
  cases r with
  | error w => exact x_T' (by kernel_rfl) rfl
  | ok v =>
    refine sk_ (by kernel_rfl) ?_
    refine (x_nx (η1 := [some (.d e), some (.d env), some (.d dp), some (.d W), some (.ref S.length), some (.d x), some (.d (rk (.ok v))), none, none, none]) (S1 := S ++ [.lst ((acc ++ [v.g]).map .d)]) ?_).trans x_end
    rw [exec, ev, show ev (CF n) (.loc 4) [some (.d e), some (.d env), some (.d dp), some (.d W), some (.ref S.length), some (.d x), some (.d (rk (.ok v))), none, none, none] (S ++ [.lst (acc.map .d)]) = .ok (.ref S.length) (S ++ [.lst (acc.map .d)]) from rfl, R.bind_ok]
    show ((isLs (.ref S.length) _).bind _).bind _ = _
    rw [isLs_top, R.bind_ok, evL1 (x := .d v.g) (by kernel_rfl), R.bind_ok]
    show (appV (.ref S.length) [.d v.g] _).bind _ = _
    rw [app_top (by omega), R.bind_ok]
theorem lr_loop {e env dp W : PyData} {es : List PyData} {rs : List X} (h : All2 (fun x r => ∀ acc : List PyData, PF n i_Lreckon [.d x, .d env, .d dp] (S ++ [.lst (acc.map .d)]) = .ok (.d (rk r)) (S ++ [.lst (acc.map .d)])) es rs) :
    ∀ {x5 x6 : Option Va} {acc : List PyData}, acc.length + es.length < 1000 → ∃ (y5 y6 : Option Va) (T : List PyData), forF (fun x η1 S2 => (asgn (CF n) (.nm 5) x η1 S2).bind fun η2 S3 => execs (CF n) lrB η2 S3) (es.map .d) [some (.d e), some (.d env), some (.d dp), some (.d W), some (.ref S.length), x5, x6, none, none, none] (S ++ [.lst (acc.map .d)]) = match sq rs with
      | .ok vs => .ok (.nx [some (.d e), some (.d env), some (.d dp), some (.d W), some (.ref S.length), y5, y6, none, none, none]) (S ++ [.lst ((acc ++ vs.map Wo.g).map .d)])
      | .error w => .ok (.rt (.d (rk (.error w)))) (S ++ [.lst (T.map .d)]) := by
  induction h with
  | nil =>
    intro x5 x6 acc _
    exact ⟨x5, x6, [], by rw [List.map_nil, forF, sq]; simp⟩
  | @cons x r es rs h1 _ ih =>
    intro x5 x6 acc hl
    rw [List.length_cons] at hl
    rw [List.map_cons, forF, asgn, R.bind_ok]
    show ∃ (y5 y6 : Option Va) (T : List PyData), ((execs (CF n) lrB [some (.d e), some (.d env), some (.d dp), some (.d W), some (.ref S.length), some (.d x), x6, none, none, none] _).bind _) = _
    rw [lr_turn (by omega) (h1 acc)]
    cases r with
    | error w => exact ⟨none, none, acc, rfl⟩
    | ok v =>
      obtain ⟨y5, y6, T, hq⟩ := ih (x5 := some (.d x)) (x6 := some (.d (rk (.ok v)))) (acc := acc ++ [v.g]) (by rw [List.length_append]; show acc.length + 1 + _ < _; omega)
      refine ⟨y5, y6, T, ?_⟩
      show forF _ _ _ _ = _
      rw [hq, sq]
      cases sq rs with
      | error w => rfl
      | ok vs => simp
theorem Lr_op {w : Wd} {es : List PyData} {rs : List X} {env dp : PyData} (hS : clS S = true) (hn : es.length = w.ar) (hr : ∀ r ∈ rs, ∀ v, r = .ok v → v.ok)
    (h : All2 (fun x r => ∀ acc : List PyData, PF (n + 2) i_Lreckon [.d x, .d env, .d dp] (S ++ [.lst (acc.map .d)]) = .ok (.d (rk r)) (S ++ [.lst (acc.map .d)])) es rs) :
    PF (n + 3) i_Lreckon [.d (.tuple (.str w.g :: es)), .d env, .d dp] S = .ok (.d (rk (opX w rs))) S := by
  rw [at_Lreckon]
  have he : es.length ≤ 3 := by rw [hn]; cases w <;> exact Nat.le_of_ble_eq_true rfl
  obtain ⟨y5, y6, T, lp⟩ := lr_loop (e := .tuple (.str w.g :: es)) (W := .str w.g) h (x5 := none) (x6 := none) (acc := []) (by show 0 + _ < _; omega)
  have it : iter (CF (n + 2)) (.val (.ife (.cmp .isin (.loc 3) (.tup (.cons (.str "cell") (.cons (.str "fit") .nil)))) (.sl (.loc 0) (.so (.int 2)) .no) (.sl (.loc 0) (.so (.int 1)) .no))) [some (.d (.tuple (.str w.g :: es))), some (.d env), some (.d dp), some (.d (.str w.g)), some (.ref S.length), none, none, none, none, none] (S ++ [.lst []]) = .ok (es.map .d) (S ++ [.lst []]) := by
    cases w with
    | not => match es, hn with
      | [a], _ => kernel_rfl
    | size => match es, hn with
      | [a], _ => kernel_rfl
    | part => match es, hn with
      | [a, b, c], _ => kernel_rfl
    | two s => match es, hn with
      | [a, b], _ => cases s <;> kernel_rfl
  have main : ∃ T : Sto, execs (CF (n + 2)) ir_Lreckon [some (.d (.tuple (.str w.g :: es))), some (.d env), some (.d dp), none, none, none, none, none, none, none] S = .ok (.rt (.d (rk (opX w rs)))) (S ++ T) := by
    have tail : ∃ T : Sto, execs (CF (n + 2)) (.cons (.asg (.nm 4) (.mk (.disp .nil)))
    (.cons (.for_ (.nm 5) (.val (.ife (.cmp .isin (.loc 3) (.tup (.cons (.str "cell") (.cons (.str "fit") .nil)))) (.sl (.loc 0) (.so (.int 2)) .no) (.sl (.loc 0) (.so (.int 1)) .no))) lrB)
    (.cons (.ife (.and (.cmp .eq (.loc 3) (.str "fit")) (.cmp .gt (.loc 2) (.int 19))) (.cons (.ret (.tup (.cons (.str "fault") (.cons (.str "deep") .nil))))
    .nil) .nil)
    (.cons (.ife (.cmp .eq (.loc 3) (.str "fit")) (.cons (.asg (.tp (.cons (.nm 7) (.cons (.nm 8) .nil))) (.ix (.ix (.loc 1) (.str "fits")) (.ix (.loc 0) (.int 1))))
    (.cons (.asg (.nm 9) (.blt .dictC (.cons (.loc 1) .nil)))
    (.cons (.asg (.sub (.loc 9) (.str "boxes")) (.blt .dict (.cons (.ix (.loc 1) (.str "boxes")) .nil)))
    (.cons (.asg (.sub (.ix (.loc 9) (.str "boxes")) (.loc 7)) (.ix (.loc 4) (.int 0)))
    (.cons (.ret (.call i_Lreckon (.cons (.loc 8) (.cons (.loc 9) (.cons (.bin .add (.loc 2) (.int 1)) .nil)))))
    .nil))))) .nil)
    (.cons (.ret (.call i_Lbounded (.cons (.call i_Lcomes (.cons (.loc 3) (.cons (.loc 0) (.cons (.loc 4) (.cons (.loc 1) .nil))))) .nil)))
    .nil))))) [some (.d (.tuple (.str w.g :: es))), some (.d env), some (.d dp), some (.d (.str w.g)), none, none, none, none, none, none] S = .ok (.rt (.d (rk (opX w rs)))) (S ++ T) := by
      have mk : exec (CF (n + 2)) (.asg (.nm 4) (.mk (.disp .nil))) [some (.d (.tuple (.str w.g :: es))), some (.d env), some (.d dp), some (.d (.str w.g)), none, none, none, none, none, none] S = .ok (.nx [some (.d (.tuple (.str w.g :: es))), some (.d env), some (.d dp), some (.d (.str w.g)), some (.ref S.length), none, none, none, none, none]) (S ++ [.lst []]) := by kernel_rfl
      rw [x_nx mk]
      have fo : exec (CF (n + 2)) (.for_ (.nm 5) (.val (.ife (.cmp .isin (.loc 3) (.tup (.cons (.str "cell") (.cons (.str "fit") .nil)))) (.sl (.loc 0) (.so (.int 2)) .no) (.sl (.loc 0) (.so (.int 1)) .no))) lrB) [some (.d (.tuple (.str w.g :: es))), some (.d env), some (.d dp), some (.d (.str w.g)), some (.ref S.length), none, none, none, none, none] (S ++ [.lst []]) = match sq rs with
          | .ok vs => .ok (.nx [some (.d (.tuple (.str w.g :: es))), some (.d env), some (.d dp), some (.d (.str w.g)), some (.ref S.length), y5, y6, none, none, none]) (S ++ [.lst ((vs.map Wo.g).map .d)])
          | .error u => .ok (.rt (.d (rk (.error u)))) (S ++ [.lst (T.map .d)]) := by
        rw [exec, it, R.bind_ok]
        exact lp
      unfold opX
      cases hs : sq rs with
      | error u =>
        rw [hs] at fo
        exact ⟨_, x_rt fo⟩
      | ok vs =>
        rw [hs] at fo
        obtain ⟨l1, l2⟩ := sq_ok hr hs
        have hl : vs.length = w.ar := by rw [l1, ← h.len, hn]
        refine ⟨[.lst ((vs.map Wo.g).map .d)], ?_⟩
        refine (x_nx fo).trans ?_
        show execs (CF (n + 2)) _ [some (.d (.tuple (.str w.g :: es))), some (.d env), some (.d dp), some (.d (.str w.g)), some (.ref S.length), y5, y6, none, none, none] (S ++ [.lst ((vs.map Wo.g).map .d)]) = _
        have lc : ev (CF (n + 2)) (.call i_Lcomes (.cons (.loc 3) (.cons (.loc 0) (.cons (.loc 4) (.cons (.loc 1) .nil))))) [some (.d (.tuple (.str w.g :: es))), some (.d env), some (.d dp), some (.d (.str w.g)), some (.ref S.length), y5, y6, none, none, none] (S ++ [.lst ((vs.map Wo.g).map .d)]) = .ok (.d (rk (ow w vs))) (S ++ [.lst ((vs.map Wo.g).map .d)]) := (ev_call (l := [.d (.str w.g), .d (.tuple (.str w.g :: es)), .ref S.length, .d env]) rfl).trans (F_Lcomes (n := n) hl l2)
        have fin : execs (CF (n + 2)) (.cons (.ret (.call i_Lbounded (.cons (.call i_Lcomes (.cons (.loc 3) (.cons (.loc 0) (.cons (.loc 4) (.cons (.loc 1) .nil))))) .nil))) .nil) [some (.d (.tuple (.str w.g :: es))), some (.d env), some (.d dp), some (.d (.str w.g)), some (.ref S.length), y5, y6, none, none, none] (S ++ [.lst ((vs.map Wo.g).map .d)]) = .ok (.rt (.d (rk (bdX (ow w vs))))) (S ++ [.lst ((vs.map Wo.g).map .d)]) :=
          x_R ((ev_call (evL1 lc)).trans (F_Lbounded (n := n + 1) fun v hv => ow_sz hl l2 hv))
        cases w with
        | not => exact sk_ (by kernel_rfl) (sk_ (by kernel_rfl) fin)
        | size => exact sk_ (by kernel_rfl) (sk_ (by kernel_rfl) fin)
        | part => exact sk_ (by kernel_rfl) (sk_ (by kernel_rfl) fin)
        | two s => cases s <;> exact sk_ (by kernel_rfl) (sk_ (by kernel_rfl) fin)
    obtain ⟨T, tail⟩ := tail
    refine ⟨T, ?_⟩
    have e0 : ev (CF (n + 2)) (.ix (.loc 0) (.int 0)) [some (.d (.tuple (.str w.g :: es))), some (.d env), some (.d dp), none, none, none, none, none, none, none] S = .ok (.d (.str w.g)) S := by
      rw [ev, show ev (CF (n + 2)) (.loc 0) [some (.d (.tuple (.str w.g :: es))), some (.d env), some (.d dp), none, none, none, none, none, none, none] S = .ok (.d (.tuple (.str w.g :: es))) S from rfl, R.bind_ok, ev, R.bind_ok, g_0]
    refine (x_nx (x_set e0)).trans ?_
    show execs (CF (n + 2)) _ [some (.d (.tuple (.str w.g :: es))), some (.d env), some (.d dp), some (.d (.str w.g)), none, none, none, none, none, none] S = _
    cases w with
    | not => exact sk_ (by kernel_rfl) (sk_ (by kernel_rfl) (sk_ (by kernel_rfl) (sk_ (by kernel_rfl) tail)))
    | size => exact sk_ (by kernel_rfl) (sk_ (by kernel_rfl) (sk_ (by kernel_rfl) (sk_ (by kernel_rfl) tail)))
    | part => exact sk_ (by kernel_rfl) (sk_ (by kernel_rfl) (sk_ (by kernel_rfl) (sk_ (by kernel_rfl) tail)))
    | two s => cases s <;> exact sk_ (by kernel_rfl) (sk_ (by kernel_rfl) (sk_ (by kernel_rfl) (sk_ (by kernel_rfl) tail)))
  obtain ⟨T, main⟩ := main
  exact (runF_rt main).trans (trim_new rfl hS)
theorem F_Lreckon : ∀ (e : Xp), e.ok → ∀ {n : Nat} {S : Sto} {env dp : PyData}, e.dm + 3 ≤ n → clS S = true → PF n i_Lreckon [.d e.g, .d env, .d dp] S = .ok (.d (rk (cm e))) S := by
  intro e
  have pl : ∀ (w : Str) (v : PyData), (w = "number" ∨ w = "text") → ∀ {n : Nat} {S : Sto} {env dp : PyData}, 3 ≤ n → PF n i_Lreckon [.d (.tuple [.str w, v]), .d env, .d dp] S = .ok (.d (.tuple [.str "worth", v])) S := by
    intro w v hw n S env dp hn
    obtain ⟨n, rfl⟩ : ∃ k, n = k + 1 := ⟨n - 1, by omega⟩
    rw [at_Lreckon]
    refine run_of ?_
    rcases hw with rfl | rfl
    · show execs (CF n) ir_Lreckon [some (.d (.tuple [.str "number", v])), some (.d env), some (.d dp), none, none, none, none, none, none, none] S = _
      kernel_rfl
    · show execs (CF n) ir_Lreckon [some (.d (.tuple [.str "text", v])), some (.d env), some (.d dp), none, none, none, none, none, none, none] S = _
      kernel_rfl
  induction e with
  | num i => intro _ n S env dp hn _; exact pl "number" (.int i) (.inl rfl) (by omega)
  | txt s => intro _ n S env dp hn _; exact pl "text" (.str s) (.inr rfl) (by omega)
  | not a ia =>
    intro ha n S env dp hn hS
    rw [Xp.dm] at hn
    obtain ⟨n, rfl⟩ : ∃ k, n = k + 3 := ⟨n - 3, by omega⟩
    refine Lr_op (w := .not) (es := [a.g]) (rs := [cm a]) hS rfl ?_ (.cons (fun acc => ia ha (by omega) (clS_app hS)) .nil)
    intro r hr v hv
    rw [List.mem_singleton.mp hr] at hv
    exact cm_ok (show a.ok from ha) hv
  | size a ia =>
    intro ha n S env dp hn hS
    rw [Xp.dm] at hn
    obtain ⟨n, rfl⟩ : ∃ k, n = k + 3 := ⟨n - 3, by omega⟩
    refine Lr_op (w := .size) (es := [a.g]) (rs := [cm a]) hS rfl ?_ (.cons (fun acc => ia ha (by omega) (clS_app hS)) .nil)
    intro r hr v hv
    rw [List.mem_singleton.mp hr] at hv
    exact cm_ok (show a.ok from ha) hv
  | part a b c ia ib ic =>
    rintro ⟨ha, hb, hc⟩ n S env dp hn hS
    rw [Xp.dm] at hn
    obtain ⟨n, rfl⟩ : ∃ k, n = k + 3 := ⟨n - 3, by omega⟩
    refine Lr_op (w := .part) (es := [a.g, b.g, c.g]) (rs := [cm a, cm b, cm c]) hS rfl ?_ (.cons (fun acc => ia ha (by omega) (clS_app hS)) (.cons (fun acc => ib hb (by omega) (clS_app hS)) (.cons (fun acc => ic hc (by omega) (clS_app hS)) .nil)))
    intro r hr v hv
    simp only [List.mem_cons, List.not_mem_nil, or_false] at hr
    rcases hr with rfl | rfl | rfl
    · exact cm_ok ha hv
    · exact cm_ok hb hv
    · exact cm_ok hc hv
  | two s a b ia ib =>
    rintro ⟨ha, hb⟩ n S env dp hn hS
    rw [Xp.dm] at hn
    obtain ⟨n, rfl⟩ : ∃ k, n = k + 3 := ⟨n - 3, by omega⟩
    refine Lr_op (w := .two s) (es := [a.g, b.g]) (rs := [cm a, cm b]) hS rfl ?_ (.cons (fun acc => ia ha (by omega) (clS_app hS)) (.cons (fun acc => ib hb (by omega) (clS_app hS)) .nil))
    intro r hr v hv
    simp only [List.mem_cons, List.not_mem_nil, or_false] at hr
    rcases hr with rfl | rfl
    · exact cm_ok ha hv
    · exact cm_ok hb hv
end
end Nb.Lw

namespace Nb.Lw
open PySem L2 Nb
/-! ### how much repr shows of them -/
def Wo.as : Wo → Prop
  | .n _ => True
  | .t s => ∀ c ∈ s.cps.toList, c < 127
def Xp.as : Xp → Prop
  | .num _ => True
  | .txt s => ∀ c ∈ s.cps.toList, c < 127
  | .not a => a.as
  | .size a => a.as
  | .part a b c => a.as ∧ b.as ∧ c.as
  | .two _ a b => a.as ∧ b.as
def Xp.sz : Xp → Nat
  | .num _ => 1
  | .txt _ => 1
  | .not a => a.sz + 1
  | .size a => a.sz + 1
  | .part a b c => a.sz + b.sz + c.sz + 1
  | .two _ a b => a.sz + b.sz + 1
theorem bsP_as {s : Sg} {a b v : Wo} (ha : a.as) (hb : b.as) (h : bsP s a b = .ok v) : v.as := by
  cases a with
  | n i =>
    cases b with
    | t y => cases h
    | n j =>
      have g : ∃ k, v = .n k := by
        cases s with
        | div => rw [bsP, bsN] at h; split at h <;> cases h; exact ⟨_, rfl⟩
        | rest => rw [bsP, bsN] at h; split at h <;> cases h; exact ⟨_, rfl⟩
        | _ => cases h; exact ⟨_, rfl⟩
      obtain ⟨k, rfl⟩ := g
      trivial
  | t x =>
    cases b with
    | n j => cases h
    | t y =>
      cases s with
      | add =>
        cases h
        intro c hc
        have e : (x ++ y).cps.toList = x.cps.toList ++ y.cps.toList := by
          show (x.cps ++ y.cps).toList = _
          rw [Array.toList_append]
        rw [e] at hc
        rcases List.mem_append.mp hc with hc | hc
        · exact ha c hc
        · exact hb c hc
      | lt => cases h; trivial
      | gt => cases h; trivial
      | eq => cases h; trivial
      | _ => cases h
theorem ow_as {w : Wd} {ws : List Wo} {v : Wo} (hk : ∀ x ∈ ws, x.as) (h : ow w ws = .ok v) : v.as := by
  unfold ow at h
  split at h
  · rename_i a
    cases a <;> cases h
    trivial
  · rename_i a
    cases a <;> cases h
    trivial
  · rename_i a b c
    cases a with
    | n i => cases h
    | t s =>
      cases b with
      | t _ => cases h
      | n i =>
        cases c with
        | t _ => cases h
        | n m =>
          rw [ptP] at h
          split at h
          · cases h
            intro c hc
            exact hk (.t s) (List.mem_cons_self ..) c (cutS_sub.2 c hc)
          · cases h
  · rename_i s a b
    exact bsP_as (hk a (List.mem_cons_self ..)) (hk b (List.mem_cons_of_mem _ (List.mem_cons_self ..))) h
  · cases h
theorem sq_all {P : Wo → Prop} : ∀ {rs : List X} {vs : List Wo}, (∀ r ∈ rs, ∀ v, r = .ok v → P v) → sq rs = .ok vs → ∀ v ∈ vs, P v
  | [], _, _, h => by cases h; exact fun v hv => absurd hv List.not_mem_nil
  | .error w :: _, _, _, h => by cases h
  | .ok v :: r, vs, k, h => by
    rw [sq] at h
    split at h
    · rename_i us hu
      cases h
      intro x hx
      rcases List.mem_cons.mp hx with rfl | hx
      · exact k _ (List.mem_cons_self ..) _ rfl
      · exact sq_all (fun r hr => k r (List.mem_cons_of_mem _ hr)) hu x hx
    · cases h
theorem opX_as {w : Wd} {rs : List X} {v : Wo} (hr : ∀ r ∈ rs, ∀ v, r = .ok v → v.as) (h : opX w rs = .ok v) : v.as := by
  unfold opX at h
  split at h
  · rename_i vs hs
    exact ow_as (sq_all hr hs) (bdX_ok h).1
  · cases h
theorem cm_as : ∀ {e : Xp} {v : Wo}, e.as → cm e = .ok v → v.as
  | .num i, v, _, h => by cases h; trivial
  | .txt s, v, ha, h => by cases h; exact ha
  | .not a, v, ha, h => opX_as (fun r hr v hv => by rw [List.mem_singleton.mp hr] at hv; exact cm_as (show a.as from ha) hv) h
  | .size a, v, ha, h => opX_as (fun r hr v hv => by rw [List.mem_singleton.mp hr] at hv; exact cm_as (show a.as from ha) hv) h
  | .part a b c, v, ⟨ha, hb, hc⟩, h => opX_as (fun r hr v hv => by
      simp only [List.mem_cons, List.not_mem_nil, or_false] at hr
      rcases hr with rfl | rfl | rfl
      · exact cm_as ha hv
      · exact cm_as hb hv
      · exact cm_as hc hv) h
  | .two s a b, v, ⟨ha, hb⟩, h => opX_as (fun r hr v hv => by
      simp only [List.mem_cons, List.not_mem_nil, or_false] at hr
      rcases hr with rfl | rfl
      · exact cm_as ha hv
      · exact cm_as hb hv) h
/-! the words of faults -/
def fws : List Str := ["", "kind", "nought", "range", "great", "long"]
theorem fw_m {w : Str} (k : Nat) (h : fws[k]? = some w) : w ∈ fws := List.mem_of_getElem? h
theorem bsP_er {s : Sg} {a b : Wo} {w : Str} (h : bsP s a b = .error w) : w ∈ fws := by
  cases a with
  | n i =>
    cases b with
    | t y => cases h; exact fw_m 1 rfl
    | n j =>
      cases s with
      | div => rw [bsP, bsN] at h; split at h <;> cases h; exact fw_m 2 rfl
      | rest => rw [bsP, bsN] at h; split at h <;> cases h; exact fw_m 2 rfl
      | _ => cases h
  | t x =>
    cases b with
    | n j => cases h; exact fw_m 1 rfl
    | t y => cases s <;> cases h <;> exact fw_m 1 rfl
theorem ow_er {w : Wd} {ws : List Wo} {u : Str} (h : ow w ws = .error u) : u ∈ fws := by
  unfold ow at h
  split at h
  · rename_i a
    cases a <;> cases h
    exact fw_m 1 rfl
  · rename_i a
    cases a <;> cases h
    exact fw_m 1 rfl
  · rename_i a b c
    cases a with
    | n i => cases h; exact fw_m 1 rfl
    | t s =>
      cases b with
      | t _ => cases h; exact fw_m 1 rfl
      | n i =>
        cases c with
        | t _ => cases h; exact fw_m 1 rfl
        | n m =>
          rw [ptP] at h
          split at h
          · cases h
          · cases h; exact fw_m 3 rfl
  · exact bsP_er h
  · cases h; exact fw_m 0 rfl
theorem bd_er {v : Wo} {u : Str} (h : bd v = .error u) : u ∈ fws := by
  cases v with
  | n i =>
    rw [bd] at h
    by_cases z : (if i < 0 then -i else i) ≤ 1000000000000
    · rw [if_pos (decide_eq_true z)] at h; cases h
    · rw [decide_eq_false z, if_neg Bool.false_ne_true] at h; cases h; exact fw_m 4 rfl
  | t s =>
    rw [bd] at h
    by_cases z : (s.length : Int) ≤ 100
    · rw [if_pos (decide_eq_true z)] at h; cases h
    · rw [decide_eq_false z, if_neg Bool.false_ne_true] at h; cases h; exact fw_m 5 rfl
theorem sq_er {P : Str → Prop} : ∀ {rs : List X} {u : Str}, (∀ r ∈ rs, ∀ u, r = .error u → P u) → sq rs = .error u → P u
  | [], _, _, h => by cases h
  | .error w :: _, _, k, h => by cases h; exact k _ (List.mem_cons_self ..) _ rfl
  | .ok v :: r, u, k, h => by
    rw [sq] at h
    split at h
    · cases h
    · rename_i w hw
      cases h
      exact sq_er (fun r hr => k r (List.mem_cons_of_mem _ hr)) hw
theorem opX_er {w : Wd} {rs : List X} {u : Str} (hr : ∀ r ∈ rs, ∀ u, r = .error u → u ∈ fws) (h : opX w rs = .error u) : u ∈ fws := by
  unfold opX at h
  split at h
  · rename_i vs hs
    cases ho : ow w vs with
    | error q => rw [ho] at h; cases h; exact ow_er ho
    | ok q => rw [ho] at h; exact bd_er h
  · rename_i q hq
    cases h
    exact sq_er hr hq
theorem cm_er : ∀ {e : Xp} {u : Str}, cm e = .error u → u ∈ fws
  | .num i, u, h => by cases h
  | .txt s, u, h => by cases h
  | .not a, u, h => opX_er (fun r hr u hu => by rw [List.mem_singleton.mp hr] at hu; exact cm_er hu) h
  | .size a, u, h => opX_er (fun r hr u hu => by rw [List.mem_singleton.mp hr] at hu; exact cm_er hu) h
  | .part a b c, u, h => opX_er (fun r hr u hu => by
      simp only [List.mem_cons, List.not_mem_nil, or_false] at hr
      rcases hr with rfl | rfl | rfl
      · exact cm_er hu
      · exact cm_er hu
      · exact cm_er hu) h
  | .two s a b, u, h => opX_er (fun r hr u hu => by
      simp only [List.mem_cons, List.not_mem_nil, or_false] at hr
      rcases hr with rfl | rfl
      · exact cm_er hu
      · exact cm_er hu) h
theorem an_str {w d : Nat} {x : Str} (h : (decide (x.length ≤ 100) && asc x) = true) : An w 100 d (.str x) := by
  obtain ⟨a, b⟩ := Bool.and_eq_true_iff.mp h
  exact .str (of_decide_eq_true a) (asc_of b)
theorem an_wo {w d : Nat} {v : Wo} (h : v.ok) (k : v.as) : An w 100 d v.g := by
  cases v with
  | n i => exact .int (by have h : i.natAbs ≤ 1000000000000 := h; omega)
  | t s => exact .str h k
theorem an_fw {w d : Nat} {u : Str} (h : u ∈ fws) : An w 100 d (.str u) := by
  simp only [fws, List.mem_cons, List.not_mem_nil, or_false] at h
  rcases h with rfl | rfl | rfl | rfl | rfl | rfl <;> exact an_str (by decide +kernel)
theorem an_rk {e : Xp} (h : e.ok) (k : e.as) : An 4 100 1 (rk (cm e)) ∧ dsz (rk (cm e)) ≤ 2000 := by
  cases hc : cm e with
  | ok v =>
    have a := cm_ok h hc
    have b := cm_as k hc
    refine ⟨.tup (show 2 ≤ 4 by decide) fun y hy => ?_, ?_⟩
    · rcases List.mem_cons.mp hy with rfl | hy
      · exact an_str (by decide +kernel)
      · rw [List.mem_singleton.mp hy]; exact an_wo a b
    · show dszL [.str "worth", v.g] + 3 ≤ 2000
      rw [dszL, dszL, dszL]
      have e1 : dsz (.str "worth") = 52 := by decide +kernel
      rw [e1]
      cases v with
      | n i => show 52 + 2 + (dsz (.int i) + 2 + 0) + 3 ≤ 2000; rw [dsz]; decide
      | t s =>
        have a : s.length ≤ 100 := a
        show 52 + 2 + (dsz (.str s) + 2 + 0) + 3 ≤ 2000
        rw [dsz]; omega
  | error u =>
    have b := cm_er hc
    have c : An 4 100 0 (.str u) := an_fw b
    refine ⟨.tup (show 2 ≤ 4 by decide) fun y hy => ?_, ?_⟩
    · rcases List.mem_cons.mp hy with rfl | hy
      · exact an_str (by decide +kernel)
      · rw [List.mem_singleton.mp hy]; exact c
    · show dszL [.str "fault", .str u] + 3 ≤ 2000
      rw [dszL, dszL, dszL]
      have e1 : dsz (.str "fault") = 52 := by decide +kernel
      have := c.str_inv.1
      rw [e1, dsz]
      omega
theorem an_op1 {d : Nat} {w : Str} {a : PyData} (hw : (decide (w.length ≤ 100) && asc w) = true) (ha : An 4 100 d a) : An 4 100 (d + 1) (.tuple [.str w, a]) := .tup (show 2 ≤ 4 by decide) fun y hy => by
  simp only [List.mem_cons, List.not_mem_nil, or_false] at hy
  rcases hy with rfl | rfl
  · exact an_str hw
  · exact ha
theorem sg_asc (s : Sg) : (decide (s.g.length ≤ 100) && asc s.g) = true := by cases s <;> decide +kernel
theorem sg_dsz (s : Sg) : dsz (.str s.g) ≤ 42 := by cases s <;> decide +kernel
theorem an_xp : ∀ {e : Xp}, e.ok → e.as → An 4 100 (e.dm + 1) e.g ∧ dsz e.g ≤ 1100 * e.sz
  | .num i, h, _ => by
    refine ⟨an_op1 (by decide +kernel) (an_wo (v := .n i) h trivial), ?_⟩
    show dszL [.str "number", .int i] + 3 ≤ _
    rw [dszL, dszL, dszL, show dsz (.str "number") = 62 by decide +kernel, show dsz (.int i) = 22 by rw [dsz], Xp.sz]
    decide
  | .txt s, h, k => by
    refine ⟨an_op1 (by decide +kernel) (an_wo (v := .t s) h k), ?_⟩
    have h : s.length ≤ 100 := h
    show dszL [.str "text", .str s] + 3 ≤ _
    rw [dszL, dszL, dszL, show dsz (.str "text") = 42 by decide +kernel, dsz, Xp.sz]
    omega
  | .not a, h, k => by
    obtain ⟨p, q⟩ := an_xp (e := a) h k
    refine ⟨an_op1 (by decide +kernel) p, ?_⟩
    show dszL [.str "not", a.g] + 3 ≤ _
    rw [dszL, dszL, dszL, show dsz (.str "not") = 32 by decide +kernel, Xp.sz]
    omega
  | .size a, h, k => by
    obtain ⟨p, q⟩ := an_xp (e := a) h k
    refine ⟨an_op1 (by decide +kernel) p, ?_⟩
    show dszL [.str "size", a.g] + 3 ≤ _
    rw [dszL, dszL, dszL, show dsz (.str "size") = 42 by decide +kernel, Xp.sz]
    omega
  | .part a b c, ⟨ha, hb, hc⟩, ⟨ka, kb, kc⟩ => by
    obtain ⟨p1, q1⟩ := an_xp ha ka
    obtain ⟨p2, q2⟩ := an_xp hb kb
    obtain ⟨p3, q3⟩ := an_xp hc kc
    refine ⟨.tup (show 4 ≤ 4 by decide) fun y hy => ?_, ?_⟩
    · simp only [List.mem_cons, List.not_mem_nil, or_false] at hy
      rcases hy with rfl | rfl | rfl | rfl
      · exact an_str (by decide +kernel)
      · exact p1.mono (by decide) (by decide) (by rw [Xp.dm]; omega)
      · exact p2.mono (by decide) (by decide) (by rw [Xp.dm]; omega)
      · exact p3.mono (by decide) (by decide) (by rw [Xp.dm]; omega)
    · show dszL [.str "part", a.g, b.g, c.g] + 3 ≤ _
      rw [dszL, dszL, dszL, dszL, dszL, show dsz (.str "part") = 42 by decide +kernel, Xp.sz]
      omega
  | .two s a b, ⟨ha, hb⟩, ⟨ka, kb⟩ => by
    obtain ⟨p1, q1⟩ := an_xp ha ka
    obtain ⟨p2, q2⟩ := an_xp hb kb
    refine ⟨.tup (show 3 ≤ 4 by decide) fun y hy => ?_, ?_⟩
    · simp only [List.mem_cons, List.not_mem_nil, or_false] at hy
      rcases hy with rfl | rfl | rfl
      · exact an_str (sg_asc s)
      · exact p1.mono (by decide) (by decide) (by rw [Xp.dm]; omega)
      · exact p2.mono (by decide) (by decide) (by rw [Xp.dm]; omega)
    · show dszL [.str s.g, a.g, b.g] + 3 ≤ _
      have := sg_dsz s
      rw [dszL, dszL, dszL, dszL, Xp.sz]
      omega
/-- within all bounds -/
structure Gx_ (d m : Nat) (e : Xp) : Prop where
  ok : e.ok
  as : e.as
  dm : e.dm ≤ d
  sz : e.sz ≤ m
section
variable {n : Nat} {S : Sto} {η : En}
theorem ev_rp {C : Cfg} {e : IE} {x : PyData} {w t d : Nat} (h : ev C e η S = .ok (.d x) S) (a : An w t d x) (ht : t ≤ 1000000) (hd : d ≤ 63) (hs : dsz x ≤ 16777216) : ev C (.blt .repr (.cons e .nil)) η S = .ok (.d (.str x.shown)) S := by
  rw [ev, evL1 h, R.bind_ok]
  exact a.repr ht hd hs
theorem ev_eqS {C : Cfg} {a b : IE} {x : Str} (ha : ev C a η S = .ok (.d (.str x)) S) (hb : ev C b η S = .ok (.d (.str x)) S) : ev C (.cmp .eq a b) η S = .ok (.d (.bool true)) S := by
  rw [ev, ha, R.bind_ok, hb, R.bind_ok, c_eqS, R.bind_ok, decide_eq_true rfl]
def env0 : PyData := .dict [(.str "boxes", .dict []), (.str "rows", .dict []), (.str "fits", .dict []), (.str "fault", .none)]
theorem ev_k1 {e : Xp} {j : Nat} (hj : ∀ l S, callKV (PF n) osL.kw j [l] [] S = PF n i_reckon [l, .d .none, .d .none, .d .none, .d .none] S) (he : e.ok) (hn : e.dm + 7 ≤ n) (hS : clS S = true) {c : IE} (h : ev (CF n) c η S = .ok (.d e.g) S) : ev (CF n) (.callK j (.cons c .nil) .nil) η S = .ok (.d (rk (cm e))) S := by
  rw [ev, evL1 h, R.bind_ok, evL, R.bind_ok]
  refine (hj _ _).trans ?_
  exact F_reckon he hn hS (.inl rfl) (.inl rfl) (.inl rfl)
end
end Nb.Lw

namespace Nb.Lw
open PySem L2 Nb
/-! ### k08's right -/
section
variable {n : Nat} {S : Sto} {η : En}
theorem F_Lright {e : Xp} {d m : Nat} (g : Gx_ d m e) (hd : d ≤ 40) (hm : m ≤ 10000) (hn : d + 8 ≤ n) (hS : clS S = true) : PF n i_Lright [.d e.g] S = .ok (.d (.bool true)) S := by
  obtain ⟨n, rfl⟩ : ∃ k, n = k + 1 := ⟨n - 1, by omega⟩
  rw [at_Lright]
  refine run_of ?_
  show execs (CF n) ir_Lright [some (.d e.g), none, none] S = _
  obtain ⟨p, q⟩ := an_xp g.ok g.as
  obtain ⟨p2, q2⟩ := an_rk g.ok g.as
  have hdm := g.dm
  have hsz := g.sz
  have rp : ∀ {x1 x2 : Option Va}, ev (CF n) (.blt .repr (.cons (.loc 0) .nil)) [some (.d e.g), x1, x2] S = .ok (.d (.str e.g.shown)) S := ev_rp rfl p (by decide) (by omega) (by omega)
  have e1 : ev (CF n) (.call i_Lreckon (.cons (.loc 0) (.cons (.dctZ (.cons (.str "boxes") (.dctZ .nil) (.cons (.str "rows") (.dctZ .nil) (.cons (.str "fits") (.dctZ .nil) (.cons (.str "fault") .non .nil))))) (.cons (.int 0) .nil)))) [some (.d e.g), some (.d (.str e.g.shown)), none] S = .ok (.d (rk (cm e))) S :=
    (ev_call (evL3 (x := .d e.g) (y := .d env0) (z := .d (.int 0)) rfl (by kernel_rfl) rfl)).trans (F_Lreckon e g.ok (by omega) hS)
  unfold ir_Lright
  rw [x_nx (x_set rp)]
  show execs (CF n) _ [some (.d e.g), some (.d (.str e.g.shown)), none] S = _
  rw [x_nx (x_set (ev_rp e1 p2 (by decide) (by decide) (by omega)))]
  show execs (CF n) _ [some (.d e.g), some (.d (.str e.g.shown)), some (.d (.str (rk (cm e)).shown))] S = _
  refine x_R ?_
  have k1 : ev (CF n) (.callK 1 (.cons (.loc 0) .nil) .nil) [some (.d e.g), some (.d (.str e.g.shown)), some (.d (.str (rk (cm e)).shown))] S = .ok (.d (rk (cm e))) S := ev_k1 (fun _ _ => rfl) g.ok (by omega) hS rfl
  have k0 : ev (CF n) (.callK 0 (.cons (.loc 0) .nil) (.cons (.dctZ .nil) (.cons (.dctZ .nil) (.cons (.dctZ .nil) (.cons .non .nil))))) [some (.d e.g), some (.d (.str e.g.shown)), some (.d (.str (rk (cm e)).shown))] S = .ok (.d (rk (cm e))) S := by
    refine Eq.trans ?_ (F_reckon (n := n) (a := .d (.dict [])) (b := .d (.dict [])) (c := .d (.dict [])) g.ok (by omega) hS (.inr rfl) (.inr rfl) (.inr rfl))
    rfl
  exact ev_and (ev_eqS (ev_rp k1 p2 (by decide) (by decide) (by omega)) rfl) fun _ => ev_and (ev_eqS (ev_rp k0 p2 (by decide) (by decide) (by omega)) rfl) fun _ => ev_eqS rp rfl
end
end Nb.Lw

namespace Nb.Lw
open PySem L2 Nb
local macro_rules | `(tactic| simp_arith [$xs,*]) => `(tactic| try simp -implicitDefEqProofs only [exec, ev, evL, evF, evO, evT, iter, asgn, asgns, asgnSt, R.bind_ok, R.nx_ok, R.nx_Sat, R.Sat_ok, R.bind_Sat, List.map_cons, List.map_nil, List.cons_append, List.nil_append, List.getElem?_cons_zero, List.getElem?_cons_succ, List.length_cons, List.length_nil, Nat.reduceAdd, Nat.reduceSub, List.replicate, List.set, b_add, b_sub, b_mul, b_fdiv, b_mod, b_pow, b_str, b_lst, b_tup, c_eq, c_ne, c_lt, c_le, c_gt, c_ge, c_is, c_isnot, t_none, t_bool, t_int, t_lst, t_tup, l_lst, l_tup, f_len, f_abs, f_int, f_intb, f_repr, fz_nil, fz_of, sm_2, sm_1861, sm_69001, sm_86011, Int.reducePow, Int.reduceNeg, Int.reduceLT, Int.reduceLE, Int.reduceAdd, Int.reduceSub, Int.reduceMul, Int.reduceToNat, Nat.reducePow, natAbs10, Nat.reduceLT, decide_true, decide_false, Bool.and_true, Bool.true_and, Bool.true_or, Bool.or_true, Bool.and_false, Bool.false_and, Bool.false_eq_true, if_true, if_false, freeze, mkTup, pureL, pureL_d, Option.map_some, CtQ_rt, CtQ_nx, EndQ_rt, EndQ_nx, sn, $xs,*])
/-! ### drawn texts, numbers, expressions -/
theorem F_Ldraw {n k : Nat} {p : Pn} {X : Sto} {m : Int} {Q : Va → Sto → Prop} (hn : 1 ≤ n) (hp : Okp p k) (hk : k < 4194304) (hm : 0 < m) (hm2 : m < 1073741824)
    (H : ∀ (d : Int) (p' : Pn), 0 ≤ d → d < m → Okp p' (k + 1) → Q (.d (.int d)) (penOb p' :: X)) : (PF n i_Ldraw [.ref 0, .d (.int m)] (penOb p :: X)).Sat Q := by
  obtain ⟨n, rfl⟩ : ∃ k, n = k + 1 := ⟨n - 1, by omega⟩
  refine R.Sat_mono (draw_0 (C := CF n) hp hk hm hm2) ?_
  rintro _ _ ⟨d, p', rfl, rfl, a, b, c⟩
  exact H d p' a b c
local macro_rules | `(tactic| ac_rfl) => `(tactic| (refine F_Ldraw (by omega) (by assumption) (by omega) (by omega) (by omega) ?_; intro _ _ _ _ _))
section
variable {n k : Nat} {p : Pn} {X : Sto} {Q : Va → Sto → Prop}
theorem F_Lnumber (hn : 2 ≤ n) (hp : Okp p k) (hk : k + 4 < 4194304) (H : ∀ (i : Int) (p' : Pn), 0 ≤ i → i ≤ 1000000000000 → Okp p' (k + 3) → Q (.d (.int i)) (penOb p' :: X)) : (PF n i_Lnumber [.ref 0] (penOb p :: X)).Sat Q := by
  obtain ⟨n, rfl⟩ : ∃ k, n = k + 1 := ⟨n - 1, by omega⟩
  rw [at_Lnumber]
  refine sr ?_
  unfold ir_Lnumber
  refine sc ?_
  simp_arith []
  ac_rfl
  simp_arith []
  refine sc ?_
  simp_arith []
  ac_rfl
  refine gi (P := fun c => 1 ≤ c ∧ c ≤ 10) ⟨⟨_, rfl, by omega⟩, ⟨_, rfl, by omega⟩, trivial⟩ (by assumption) (by simp only [List.length_cons, List.length_nil]; omega) ?_
  intro c hc
  ac_rfl
  refine gi (P := fun c => 0 ≤ c ∧ c ≤ 1000000000000) ⟨⟨_, rfl, by omega⟩, ⟨_, rfl, by omega⟩, ⟨_, rfl, by omega⟩, ⟨_, rfl, by omega⟩, ⟨_, rfl, by omega⟩, ⟨_, rfl, by omega⟩, ⟨_, rfl, by omega⟩, ⟨_, rfl, by omega⟩, ⟨_, rfl, by omega⟩, ⟨_, rfl, by omega⟩, trivial⟩ (by assumption) (by simp only [List.length_cons, List.length_nil]; omega) ?_
  intro c hc
  exact tr rfl rfl (H c _ hc.1 hc.2 (by assumption))
/-! ### drawn expressions of numbers -/
theorem Gx_.mono {d m d' m' : Nat} {e : Xp} (g : Gx_ d m e) (h : d ≤ d') (k : m ≤ m') : Gx_ d' m' e := ⟨g.ok, g.as, Nat.le_trans g.dm h, Nat.le_trans g.sz k⟩
theorem gx_num {i : Int} (h : i.natAbs ≤ 1000000000000) : Gx_ 0 1 (.num i) := ⟨h, trivial, Nat.le_refl _, Nat.le_refl _⟩
theorem gx_two {s : Sg} {a b : Xp} {d m1 m2 : Nat} (ha : Gx_ d m1 a) (hb : Gx_ d m2 b) : Gx_ (d + 1) (m1 + m2 + 1) (.two s a b) := by
  refine ⟨⟨ha.ok, hb.ok⟩, ⟨ha.as, hb.as⟩, ?_, ?_⟩
  · have := ha.dm
    have := hb.dm
    rw [Xp.dm]; omega
  · have := ha.sz
    have := hb.sz
    rw [Xp.sz]; omega
theorem gx_not {a : Xp} {d m : Nat} (ha : Gx_ d m a) : Gx_ (d + 1) (m + 1) (.not a) := by
  refine ⟨ha.ok, ha.as, ?_, ?_⟩
  · have := ha.dm
    rw [Xp.dm]; omega
  · have := ha.sz
    rw [Xp.sz]; omega
def sgn : List PyData := [.str "+", .str "-", .str "*", .str "/", .str "rest", .str "<", .str "=", .str ">", .str "and", .str "or"]
theorem sgn_of {x : PyData} (h : x ∈ sgn) : ∃ s : Sg, x = .str s.g := by
  simp only [sgn, List.mem_cons, List.not_mem_nil, or_false] at h
  rcases h with rfl | rfl | rfl | rfl | rfl | rfl | rfl | rfl | rfl | rfl
  · exact ⟨.add, rfl⟩
  · exact ⟨.sub, rfl⟩
  · exact ⟨.mul, rfl⟩
  · exact ⟨.div, rfl⟩
  · exact ⟨.rest, rfl⟩
  · exact ⟨.lt, rfl⟩
  · exact ⟨.eq, rfl⟩
  · exact ⟨.gt, rfl⟩
  · exact ⟨.and, rfl⟩
  · exact ⟨.or, rfl⟩
theorem F_Lsigned (hn : 3 ≤ n) (hp : Okp p k) (hk : k + 6 < 4194304) (H : ∀ (e : Xp) (p' : Pn), Gx_ 1 3 e → Okp p' (k + 4) → Q (.d e.g) (penOb p' :: X)) : (PF n i_Lsigned [.ref 0] (penOb p :: X)).Sat Q := by
  obtain ⟨n, rfl⟩ : ∃ k, n = k + 1 := ⟨n - 1, by omega⟩
  rw [at_Lsigned]
  refine sr ?_
  unfold ir_Lsigned
  refine sc ?_
  simp_arith []
  refine F_Lnumber (by omega) hp (by omega) ?_
  intro i p1 i0 i1 hp1
  simp_arith [mt2]
  refine sc ?_
  simp_arith [mt2, mt3]
  ac_rfl
  simp_arith []
  refine gm (by omega) (by simp only [List.length_cons, List.length_nil]; omega) ?_
  intro x hx
  simp only [List.mem_cons, List.not_mem_nil, or_false] at hx
  rcases hx with rfl | rfl
  · exact tr rfl rfl (H (.num i) _ ((gx_num (by omega)).mono (by decide) (by decide)) (by assumption))
  · exact tr rfl rfl (H (.two .sub (.num 0) (.num i)) _ (gx_two (gx_num (by decide)) (gx_num (by omega))) (by assumption))
end
def drN : Nat → Nat
  | 0 => 10
  | d + 1 => 2 * drN d + 10
theorem drN_pos (d : Nat) : 10 ≤ drN d := by cases d <;> rw [drN] <;> omega
theorem F_Lnumbers : ∀ (d : Nat) {n k : Nat} {p : Pn} {X : Sto} {e : Int} {Q : Va → Sto → Prop}, 1 ≤ e → e ≤ d → d + 4 ≤ n → Okp p k → k + drN d < 4194304 → (∀ (x : Xp) (p' : Pn), Gx_ d (4 ^ d) x → Okp p' (k + drN d) → Q (.d x.g) (penOb p' :: X)) → (PF n i_Lnumbers [.ref 0, .d (.int e)] (penOb p :: X)).Sat Q
  | 0, n, k, p, X, e, Q, e1, e2, hn, hp, hk, H => by omega
  | d + 1, n, k, p, X, e, Q, e1, e2, hn, hp, hk, H => by
    obtain ⟨n, rfl⟩ : ∃ k, n = k + 1 := ⟨n - 1, by omega⟩
    rw [at_Lnumbers]
    have hd := drN_pos d
    have hpw : 1 ≤ 4 ^ d := Nat.pos_of_ne_zero (Nat.pos_iff_ne_zero.mp (Nat.pow_pos (by decide)))
    rw [drN] at hk H
    have hpp : 4 ^ (d + 1) = 4 * 4 ^ d := by rw [Nat.pow_succ]; omega
    rw [hpp] at H
    refine sr ?_
    unfold ir_Lnumbers
    refine si0 (t := decide (e < 3)) (by simp_arith []) (fun z => ?_) fun z => ?_
    · refine sc ?_
      simp_arith []
      refine F_Lsigned (by omega) hp (by omega) ?_
      intro x p1 hx hp1
      simp_arith []
      exact tr rfl rfl (H x _ (hx.mono (by omega) (by omega)) (hp1.mono (by omega)))
    have z := of_decide_eq_false z
    refine sc ?_
    simp_arith []
    refine sc ?_
    simp_arith []
    ac_rfl
    rename_i w p1 w0 w1 hp1
    simp_arith []
    refine si0 (t := decide (9 < w)) (by simp_arith []) (fun z9 => ?_) fun z9 => ?_
    · have z9 := of_decide_eq_true z9
      refine sc ?_
      simp_arith []
      refine F_Lnumbers d (by omega) (by omega) (by omega) hp1 (by omega) ?_
      intro a p2 ha hp2
      simp_arith [mt2]
      refine F_Lsigned (by omega) hp2 (by omega) ?_
      intro b p3 hb hp3
      simp_arith []
      refine gm (by omega) (by simp only [List.length_cons, List.length_nil]; omega) ?_
      intro x hx
      simp only [List.mem_cons, List.not_mem_nil, or_false] at hx
      rcases hx with rfl | rfl
      · exact tr rfl rfl (H (.not a) _ ((gx_not ha).mono (by omega) (by omega)) (hp3.mono (by omega)))
      · exact tr rfl rfl (H b _ (hb.mono (by omega) (by omega)) (hp3.mono (by omega)))
    have z9 := of_decide_eq_false z9
    refine sc ?_
    simp_arith []
    refine gm (l := sgn) (by omega) (by show w < 10; omega) ?_
    intro s hs
    obtain ⟨s, rfl⟩ := sgn_of hs
    simp_arith []
    refine F_Lnumbers d (by omega) (by omega) (by omega) hp1 (by omega) ?_
    intro a p2 ha hp2
    simp_arith []
    refine F_Lnumbers d (by omega) (by omega) (by omega) hp2 (by omega) ?_
    intro b p3 hb hp3
    simp_arith [mt3]
    exact tr rfl rfl (H (.two s a b) _ ((gx_two ha hb).mono (by omega) (by omega)) (hp3.mono (by omega)))
end Nb.Lw

namespace Nb.Lw
open PySem L2 Nb
local macro_rules | `(tactic| simp_arith [$xs,*]) => `(tactic| try simp -implicitDefEqProofs only [exec, ev, evL, evF, evO, evT, iter, asgn, asgns, asgnSt, R.bind_ok, R.nx_ok, R.nx_Sat, R.Sat_ok, R.bind_Sat, List.map_cons, List.map_nil, List.cons_append, List.nil_append, List.getElem?_cons_zero, List.getElem?_cons_succ, List.length_cons, List.length_nil, Nat.reduceAdd, Nat.reduceSub, List.replicate, List.set, b_add, b_sub, b_mul, b_fdiv, b_mod, b_pow, b_str, b_lst, b_tup, c_eq, c_ne, c_lt, c_le, c_gt, c_ge, c_is, c_isnot, t_none, t_bool, t_int, t_lst, t_tup, l_lst, l_tup, f_len, f_abs, f_int, f_intb, f_repr, fz_nil, fz_of, sm_2, sm_1861, sm_69001, sm_86011, Int.reducePow, Int.reduceNeg, Int.reduceLT, Int.reduceLE, Int.reduceAdd, Int.reduceSub, Int.reduceMul, Int.reduceToNat, Nat.reducePow, natAbs10, Nat.reduceLT, decide_true, decide_false, Bool.and_true, Bool.true_and, Bool.true_or, Bool.or_true, Bool.and_false, Bool.false_and, Bool.false_eq_true, if_true, if_false, freeze, mkTup, pureL, pureL_d, Option.map_some, CtQ_rt, CtQ_nx, EndQ_rt, EndQ_nx, sn, $xs,*])
local macro_rules | `(tactic| ac_rfl) => `(tactic| (refine F_Ldraw (by omega) (by assumption) (by omega) (by omega) (by omega) ?_; intro _ _ _ _ _))
/-! ### the law -/
theorem clS_p {p : Pn} : clS [penOb p] = true := rfl
/-- an expression that is told right -/
def Gd (x : PyData) : Prop := ∃ e : Xp, x = e.g ∧ Gx_ 1 3 e
theorem gd_num {i : Int} (h : i.natAbs ≤ 1000000000000) : Gd (.tuple [.str "number", .int i]) := ⟨.num i, rfl, (gx_num h).mono (by decide) (by decide)⟩
theorem gd_sub {i : Int} (h : i.natAbs ≤ 1000000000000) : Gd (.tuple [.str "-", .tuple [.str "number", .int 0], .tuple [.str "number", .int i]]) := ⟨.two .sub (.num 0) (.num i), rfl, gx_two (gx_num (by decide)) (gx_num h)⟩
def restL : ISs := match ir_law with | .cons _ (.cons _ (.cons _ (.cons _ r))) => r | r => r
theorem rest_sat {ns : List Int} {p : Pn} {a2 : Option Va} (L : List PyData) (hL : ∀ x ∈ L, Gd x) : (execs (CF 60) restL [some (.d (.list (ns.map .int))), some (.ref 0), a2, some (.d (.list L)), none, none, none] [penOb p]).Sat (EndQ 0 fun v _ => v = .d (.bool true)) := by
  show (execs (CF 60) (.cons _ (.cons _ .nil)) [some (.d (.list (ns.map .int))), some (.ref 0), a2, some (.d (.list L)), none, none, none] [penOb p]).Sat _
  refine sc ?_
  rw [exec]
  have i4 : iter (CF 60) (.val (.tup (.cons (.str "+") (.cons (.str "-") (.cons (.str "*") (.cons (.str "/") (.cons (.str "rest") (.cons (.str "<") (.cons (.str "=") (.cons (.str ">") (.cons (.str "and") (.cons (.str "or") .nil)))))))))))) [some (.d (.list (ns.map .int))), some (.ref 0), a2, some (.d (.list L)), none, none, none] [penOb p] = .ok (sgn.map .d) [penOb p] := by kernel_rfl
  rw [i4, R.bind_ok]
  refine forF_inv (fun j η S => ∃ (a4 a5 a6 : Option Va), η = [some (.d (.list (ns.map .int))), some (.ref 0), a2, some (.d (.list L)), a4, a5, a6] ∧ S = [penOb p]) _ 0 _ _ ⟨_, _, _, rfl, rfl⟩ ?_ ?_
  · rintro j x η S hx ⟨a4, a5, a6, rfl, rfl⟩
    obtain ⟨s, hs, rfl⟩ := List.mem_map.mp (List.mem_of_getElem? hx)
    obtain ⟨s, rfl⟩ := sgn_of hs
    rw [asgn, R.bind_ok]
    show (execs (CF 60) _ [some (.d (.list (ns.map .int))), some (.ref 0), a2, some (.d (.list L)), some (.d (.str s.g)), a5, a6] [penOb p]).Sat _
    refine sc ?_
    rw [exec, iter_lst (l := L) rfl, R.bind_ok]
    refine forF_inv (fun j η S => ∃ (a5 a6 : Option Va), η = [some (.d (.list (ns.map .int))), some (.ref 0), a2, some (.d (.list L)), some (.d (.str s.g)), a5, a6] ∧ S = [penOb p]) _ 0 _ _ ⟨_, _, rfl, rfl⟩ ?_ ?_
    · rintro j x η S hx ⟨a5, a6, rfl, rfl⟩
      obtain ⟨x, hm, rfl⟩ := List.mem_map.mp (List.mem_of_getElem? hx)
      obtain ⟨e1, rfl, g1⟩ := hL x hm
      rw [asgn, R.bind_ok]
      show (execs (CF 60) _ [some (.d (.list (ns.map .int))), some (.ref 0), a2, some (.d (.list L)), some (.d (.str s.g)), some (.d e1.g), a6] [penOb p]).Sat _
      refine sc ?_
      rw [exec, iter_lst (l := L) rfl, R.bind_ok]
      refine forF_inv (fun j η S => ∃ (a6 : Option Va), η = [some (.d (.list (ns.map .int))), some (.ref 0), a2, some (.d (.list L)), some (.d (.str s.g)), some (.d e1.g), a6] ∧ S = [penOb p]) _ 0 _ _ ⟨_, rfl, rfl⟩ ?_ ?_
      · rintro j x η S hx ⟨a6, rfl, rfl⟩
        obtain ⟨x, hm, rfl⟩ := List.mem_map.mp (List.mem_of_getElem? hx)
        obtain ⟨e2, rfl, g2⟩ := hL x hm
        rw [asgn, R.bind_ok]
        show (execs (CF 60) _ [some (.d (.list (ns.map .int))), some (.ref 0), a2, some (.d (.list L)), some (.d (.str s.g)), some (.d e1.g), some (.d e2.g)] [penOb p]).Sat _
        refine sc ?_
        have c : ev (CF 60) (.call i_Lright (.cons (.tup (.cons (.loc 4) (.cons (.loc 5) (.cons (.loc 6) .nil)))) .nil)) [some (.d (.list (ns.map .int))), some (.ref 0), a2, some (.d (.list L)), some (.d (.str s.g)), some (.d e1.g), some (.d e2.g)] [penOb p] = .ok (.d (.bool true)) [penOb p] :=
          (ev_call (l := [.d (Xp.two s e1 e2).g]) (S1 := [penOb p]) rfl).trans (F_Lright (n := 60) (gx_two g1 g2) (by decide) (by decide) (by decide) clS_p)
        rw [x_if (t := false) (ev_not c)]
        rw [if_neg Bool.false_ne_true, x_end, R.Sat_ok, CtQ_nx, sn]
        exact ⟨_, rfl, rfl⟩
      · rintro η S ⟨a6, rfl, rfl⟩
        rw [CtQ_nx, sn]
        exact ⟨_, _, rfl, rfl⟩
    · rintro η S ⟨a5, a6, rfl, rfl⟩
      rw [CtQ_nx, sn]
      exact ⟨_, _, _, rfl, rfl⟩
  · rintro η S ⟨a4, a5, a6, rfl, rfl⟩
    rw [CtQ_nx]
    have k1 : ∀ (e : Xp) {c : IE}, e.ok → e.dm ≤ 3 → ev (CF 60) c [some (.d (.list (ns.map .int))), some (.ref 0), a2, some (.d (.list L)), a4, a5, a6] [penOb p] = .ok (.d e.g) [penOb p] → ev (CF 60) (.callK 1 (.cons c .nil) .nil) [some (.d (.list (ns.map .int))), some (.ref 0), a2, some (.d (.list L)), a4, a5, a6] [penOb p] = .ok (.d (rk (cm e))) [penOb p] := fun e c h1 h2 h => ev_k1 (fun _ _ => rfl) h1 (by omega) clS_p h
    refine R.Sat_of (x_R (x := .bool true) (ev_and (s := true) (t := true) ?_ fun _ => ?_)) ?_
    · rw [ev, k1 (.not (.num 0)) (show (0 : Int).natAbs ≤ 1000000000000 by decide) (by decide) (by kernel_rfl), R.bind_ok]
      kernel_rfl
    · rw [ev, k1 (.num 1000000000000) (show (1000000000000 : Int).natAbs ≤ 1000000000000 by decide) (by decide) (by kernel_rfl), R.bind_ok]
      kernel_rfl
    · rw [EndQ_rt]
      exact R.Sat_of (trim_new (S := []) (T := [penOb p]) rfl rfl) rfl
theorem law_sat (ns : List Int) (h : ns.length ≤ 63) : (runF (CF 60) 7 ir_law [.d (.list (ns.map .int))] []).Sat fun v _ => v = .d (.bool true) := by
  refine sr ?_
  unfold ir_law
  have hpen : PF 60 i_Lpen [.d (.list (ns.map PyData.int))] [] = .ok (.ref 0) [penOb ⟨ns, 0, 0⟩] := pen_run (CF 59) (S := []) h
  refine sc ?_
  simp_arith [hpen]
  refine sc ?_
  rw [exec]
  have hi : ∀ {a2 a3 a4 a5 a6 : Option Va}, iter (CF 60) (.rng (.cons (.int 40) .nil)) [some (.d (.list (ns.map PyData.int))), some (.ref 0), a2, a3, a4, a5, a6] [penOb ⟨ns, 0, 0⟩] = .ok ((List.range 40).map fun k => Va.d (.int (k : Nat))) [penOb ⟨ns, 0, 0⟩] := by
    intros
    simp_arith []
    exact rng_sat (c := 40) (by omega) (by omega)
  rw [hi, R.bind_ok]
  refine forF_inv (fun j η S => ∃ (p : Pn) (a2 : Option Va), η = [some (.d (.list (ns.map PyData.int))), some (.ref 0), a2, none, none, none, none] ∧ S = [penOb p] ∧ Okp p (2000 * j)) _ 0 _ _ ⟨_, _, rfl, rfl, ⟨Nat.le_refl _, Int.le_refl _⟩⟩ ?_ ?_
  · rintro j x η S hx ⟨p, a2, rfl, rfl, hp⟩
    have hj : j < 40 := (List.getElem?_eq_some_iff.mp hx).1
    rw [Nat.zero_add] at *
    rw [asgn, R.bind_ok]
    have e6 : drN 6 = 1270 := rfl
    have key : ∀ (d : Int) (p1 : Pn), 0 ≤ d → d < 5 → Okp p1 (2000 * j + 1) → (PF 60 i_Lnumbers [.ref 0, .d (.int (2 + d))] [penOb p1]).Sat fun v S1 => ∃ (e : Xp) (p2 : Pn), v = .d e.g ∧ S1 = [penOb p2] ∧ Gx_ 6 (4 ^ 6) e ∧ Okp p2 (2000 * (j + 1)) := by
      intro d p1 d0 d1 hp1
      refine F_Lnumbers 6 (by omega) (by omega) (by omega) hp1 (by omega) ?_
      intro e p2 he hp2
      exact ⟨e, p2, rfl, rfl, he, hp2.mono (by omega)⟩
    refine sc ?_
    simp_arith []
    ac_rfl
    rename_i d p1 d0 d1 hp1
    simp_arith []
    refine R.Sat_mono (key d p1 d0 d1 (by assumption)) ?_
    rintro v S1 ⟨e, p2, rfl, rfl, he, hp2⟩
    rw [F_Lright he (by decide) (by decide) (by decide) clS_p]
    simp_arith [Bool.not_true]
    exact ⟨p2, _, rfl, rfl, hp2⟩
  · rintro η S ⟨p, a2, rfl, rfl, hp⟩
    rw [CtQ_nx]
    refine sc ?_
    simp_arith [mt2]
    refine sc ?_
    simp_arith [mt2, mt3]
    refine F_Lsigned (X := []) (by omega) hp (by show 2000 * (0 + 40) + 6 < _; decide) ?_
    intro e p1 he hp1
    simp_arith [mt2, mt3, itL]
    refine R.Sat_of (if_pos (by decide)) ?_
    refine R.Sat_of rfl ?_
    refine rest_sat _ (fun x hx => ?_)
    simp only [List.mem_cons, List.not_mem_nil, or_false] at hx
    rcases hx with rfl | rfl | rfl | rfl | rfl | rfl | rfl | rfl
    · exact gd_num (by decide)
    · exact gd_num (by decide)
    · exact gd_num (by decide)
    · exact gd_num (by decide)
    · exact gd_num (by decide)
    · exact ⟨e, rfl, he⟩
    · exact gd_sub (by decide)
    · exact gd_sub (by decide)
theorem law_ok (ns : List Int) (hl : ns.length ≤ 63) : (runF (CF 60) m_law ir_law [.d (.list (ns.map .int))] []).sat fun v _ => v = .d (.bool true) := (law_sat ns hl).h
end Nb.Lw

namespace Nb.Lw
open PySem L2 Nb PySem.Spec PyProof.Rows
set_option maxHeartbeats 0 in
theorem all_mk {l : PySem.W.OpenLaw} {w : World} {K : PySem.W.Frag} {h : Heap} {mg : Str → Option Value} {fa : Addr} (X : K.In h) (G : h.Ns mainGlobals mg) (hfa : mg "law" = some (.ref fa))
    {f0 : Addr} {od0 an0 : Option Addr} {sl0 : Array (Option Value)} {oc0 kV0 dc0 pm0 cd0 ct0 : Value}
    {f1 : Addr} {od1 an1 : Option Addr} {sl1 : Array (Option Value)} {oc1 kV1 dc1 pm1 cd1 ct1 : Value}
    {f2 : Addr} {od2 an2 : Option Addr} {sl2 : Array (Option Value)} {oc2 kV2 dc2 pm2 cd2 ct2 : Value}
    {f3 : Addr} {od3 an3 : Option Addr} {sl3 : Array (Option Value)} {oc3 kV3 dc3 pm3 cd3 ct3 : Value}
    {f4 : Addr} {od4 an4 : Option Addr} {sl4 : Array (Option Value)} {oc4 kV4 dc4 pm4 cd4 ct4 : Value}
    {f5 : Addr} {od5 an5 : Option Addr} {sl5 : Array (Option Value)} {oc5 kV5 dc5 pm5 cd5 ct5 : Value}
    {f6 : Addr} {od6 an6 : Option Addr} {sl6 : Array (Option Value)} {oc6 kV6 dc6 pm6 cd6 ct6 : Value}
    {f7 : Addr} {od7 an7 : Option Addr} {sl7 : Array (Option Value)} {oc7 kV7 dc7 pm7 cd7 ct7 : Value}
    {f8 : Addr} {od8 an8 : Option Addr} {sl8 : Array (Option Value)} {oc8 kV8 dc8 pm8 cd8 ct8 : Value}
    {f9 : Addr} {od9 an9 : Option Addr} {sl9 : Array (Option Value)} {oc9 kV9 dc9 pm9 cd9 ct9 : Value}
    {f10 : Addr} {od10 an10 : Option Addr} {sl10 : Array (Option Value)} {oc10 kV10 dc10 pm10 cd10 ct10 : Value}
    {f11 : Addr} {od11 an11 : Option Addr} {sl11 : Array (Option Value)} {oc11 kV11 dc11 pm11 cd11 ct11 : Value}
    {f12 : Addr} {od12 an12 : Option Addr} {sl12 : Array (Option Value)} {oc12 kV12 dc12 pm12 cd12 ct12 : Value}
    {f13 : Addr} {od13 an13 : Option Addr} {sl13 : Array (Option Value)} {oc13 kV13 dc13 pm13 cd13 ct13 : Value}
    {f14 : Addr} {od14 an14 : Option Addr} {sl14 : Array (Option Value)} {oc14 kV14 dc14 pm14 cd14 ct14 : Value}
    {f15 : Addr} {od15 an15 : Option Addr} {sl15 : Array (Option Value)} {oc15 kV15 dc15 pm15 cd15 ct15 : Value}
    {f16 : Addr} {od16 an16 : Option Addr} {sl16 : Array (Option Value)} {oc16 kV16 dc16 pm16 cd16 ct16 : Value}
    {f17 : Addr} {od17 an17 : Option Addr} {sl17 : Array (Option Value)} {oc17 kV17 dc17 pm17 cd17 ct17 : Value}
    {f18 : Addr} {od18 an18 : Option Addr} {sl18 : Array (Option Value)} {oc18 kV18 dc18 pm18 cd18 ct18 : Value}
    {f19 : Addr} {od19 an19 : Option Addr} {sl19 : Array (Option Value)} {oc19 kV19 dc19 pm19 cd19 ct19 : Value}
    {f20 : Addr} {od20 an20 : Option Addr} {sl20 : Array (Option Value)} {oc20 kV20 dc20 pm20 cd20 ct20 : Value}
    {C0 : Addr}
    {xf0 : Addr} {xod0 xan0 : Option Addr} {xsl0 : Array (Option Value)} {xoc0 xdc0 xpm0 xcd0 xct0 : Value}
    {xkV0 : Value}
    {xf1 : Addr} {xod1 xan1 : Option Addr} {xsl1 : Array (Option Value)} {xoc1 xdc1 xpm1 xcd1 xct1 : Value}
    {xkV1 : Value}
    {xf2 : Addr} {xod2 xan2 : Option Addr} {xsl2 : Array (Option Value)} {xoc2 xdc2 xpm2 xcd2 xct2 : Value}
    {xD2 : Addr}
    {ku2_boxes : Value}
    {ku2_rows : Value}
    {ku2_fits : Value}
    {ku2_fault : Value}
    {eI0 eC0 : Addr} {eod0 ean0 : Option Addr} {esl0 : Array (Option Value)} {eoc0 ekV0 edc0 epm0 ecd0 ect0 : Value}
    (a0 : PySem.W.nsIn K mainGlobals "need" = some (some (.ref f0)))
    (l0 : K.lookup f0 = some ⟨oc0, od0, .func (PySem.W.fnOf "need" "need" (defArgs st_need) (defBody st_need) (defScope st_need) .none kV0 dc0 pm0 an0 cd0 ct0), sl0⟩)
    (c0 : PySem.W.codeIn K cd0 "need" = true)
    (k0 : PySem.W.keepIn K (.ref f0) = true)
    (a1 : PySem.W.nsIn K mainGlobals "is_number" = some (some (.ref f1)))
    (l1 : K.lookup f1 = some ⟨oc1, od1, .func (PySem.W.fnOf "is_number" "is_number" (defArgs st_is_number) (defBody st_is_number) (defScope st_is_number) .none kV1 dc1 pm1 an1 cd1 ct1), sl1⟩)
    (c1 : PySem.W.codeIn K cd1 "is_number" = true)
    (k1 : PySem.W.keepIn K (.ref f1) = true)
    (a2 : PySem.W.nsIn K mainGlobals "bounded" = some (some (.ref f2)))
    (l2 : K.lookup f2 = some ⟨oc2, od2, .func (PySem.W.fnOf "bounded" "bounded" (defArgs st_bounded) (defBody st_bounded) (defScope st_bounded) .none kV2 dc2 pm2 an2 cd2 ct2), sl2⟩)
    (c2 : PySem.W.codeIn K cd2 "bounded" = true)
    (k2 : PySem.W.keepIn K (.ref f2) = true)
    (a3 : PySem.W.nsIn K mainGlobals "by_sign" = some (some (.ref f3)))
    (l3 : K.lookup f3 = some ⟨oc3, od3, .func (PySem.W.fnOf "by_sign" "by_sign" (defArgs st_by_sign) (defBody st_by_sign) (defScope st_by_sign) .none kV3 dc3 pm3 an3 cd3 ct3), sl3⟩)
    (c3 : PySem.W.codeIn K cd3 "by_sign" = true)
    (k3 : PySem.W.keepIn K (.ref f3) = true)
    (a4 : PySem.W.nsIn K mainGlobals "part_of" = some (some (.ref f4)))
    (l4 : K.lookup f4 = some ⟨oc4, od4, .func (PySem.W.fnOf "part_of" "part_of" (defArgs st_part_of) (defBody st_part_of) (defScope st_part_of) .none kV4 dc4 pm4 an4 cd4 ct4), sl4⟩)
    (c4 : PySem.W.codeIn K cd4 "part_of" = true)
    (k4 : PySem.W.keepIn K (.ref f4) = true)
    (a5 : PySem.W.nsIn K mainGlobals "cell_of" = some (some (.ref f5)))
    (l5 : K.lookup f5 = some ⟨oc5, od5, .func (PySem.W.fnOf "cell_of" "cell_of" (defArgs st_cell_of) (defBody st_cell_of) (defScope st_cell_of) .none kV5 dc5 pm5 an5 cd5 ct5), sl5⟩)
    (c5 : PySem.W.codeIn K cd5 "cell_of" = true)
    (k5 : PySem.W.keepIn K (.ref f5) = true)
    (a6 : PySem.W.nsIn K mainGlobals "last_fault" = some (some (.ref f6)))
    (l6 : K.lookup f6 = some ⟨oc6, od6, .func (PySem.W.fnOf "last_fault" "last_fault" (defArgs st_last_fault) (defBody st_last_fault) (defScope st_last_fault) .none kV6 dc6 pm6 an6 cd6 ct6), sl6⟩)
    (c6 : PySem.W.codeIn K cd6 "last_fault" = true)
    (k6 : PySem.W.keepIn K (.ref f6) = true)
    (a7 : PySem.W.nsIn K mainGlobals "of_worths" = some (some (.ref f7)))
    (l7 : K.lookup f7 = some ⟨oc7, od7, .func (PySem.W.fnOf "of_worths" "of_worths" (defArgs st_of_worths) (defBody st_of_worths) (defScope st_of_worths) .none kV7 dc7 pm7 an7 cd7 ct7), sl7⟩)
    (c7 : PySem.W.codeIn K cd7 "of_worths" = true)
    (k7 : PySem.W.keepIn K (.ref f7) = true)
    (a8 : PySem.W.nsIn K mainGlobals "come" = some (some (.ref f8)))
    (l8 : K.lookup f8 = some ⟨oc8, od8, .func (PySem.W.fnOf "come" "come" (defArgs st_come) (defBody st_come) (defScope st_come) .none kV8 dc8 pm8 an8 cd8 ct8), sl8⟩)
    (c8 : PySem.W.codeIn K cd8 "come" = true)
    (k8 : PySem.W.keepIn K (.ref f8) = true)
    (a9 : PySem.W.nsIn K mainGlobals "fit_of" = some (some (.ref f9)))
    (l9 : K.lookup f9 = some ⟨oc9, od9, .func (PySem.W.fnOf "fit_of" "fit_of" (defArgs st_fit_of) (defBody st_fit_of) (defScope st_fit_of) .none kV9 dc9 pm9 an9 cd9 ct9), sl9⟩)
    (c9 : PySem.W.codeIn K cd9 "fit_of" = true)
    (k9 : PySem.W.keepIn K (.ref f9) = true)
    (a10 : PySem.W.nsIn K mainGlobals "_law_pen" = some (some (.ref f10)))
    (l10 : K.lookup f10 = some ⟨oc10, od10, .func (PySem.W.fnOf "_law_pen" "_law_pen" (defArgs st_Lpen) (defBody st_Lpen) (defScope st_Lpen) .none kV10 dc10 pm10 an10 cd10 ct10), sl10⟩)
    (c10 : PySem.W.codeIn K cd10 "_law_pen" = true)
    (k10 : PySem.W.keepIn K (.ref f10) = true)
    (a11 : PySem.W.nsIn K mainGlobals "_law_draw" = some (some (.ref f11)))
    (l11 : K.lookup f11 = some ⟨oc11, od11, .func (PySem.W.fnOf "_law_draw" "_law_draw" (defArgs st_Ldraw) (defBody st_Ldraw) (defScope st_Ldraw) .none kV11 dc11 pm11 an11 cd11 ct11), sl11⟩)
    (c11 : PySem.W.codeIn K cd11 "_law_draw" = true)
    (k11 : PySem.W.keepIn K (.ref f11) = true)
    (a12 : PySem.W.nsIn K mainGlobals "_law_number" = some (some (.ref f12)))
    (l12 : K.lookup f12 = some ⟨oc12, od12, .func (PySem.W.fnOf "_law_number" "_law_number" (defArgs st_Lnumber) (defBody st_Lnumber) (defScope st_Lnumber) .none kV12 dc12 pm12 an12 cd12 ct12), sl12⟩)
    (c12 : PySem.W.codeIn K cd12 "_law_number" = true)
    (k12 : PySem.W.keepIn K (.ref f12) = true)
    (a13 : PySem.W.nsIn K mainGlobals "_law_bounded" = some (some (.ref f13)))
    (l13 : K.lookup f13 = some ⟨oc13, od13, .func (PySem.W.fnOf "_law_bounded" "_law_bounded" (defArgs st_Lbounded) (defBody st_Lbounded) (defScope st_Lbounded) .none kV13 dc13 pm13 an13 cd13 ct13), sl13⟩)
    (c13 : PySem.W.codeIn K cd13 "_law_bounded" = true)
    (k13 : PySem.W.keepIn K (.ref f13) = true)
    (a14 : PySem.W.nsIn K mainGlobals "_law_two" = some (some (.ref f14)))
    (l14 : K.lookup f14 = some ⟨oc14, od14, .func (PySem.W.fnOf "_law_two" "_law_two" (defArgs st_Ltwo) (defBody st_Ltwo) (defScope st_Ltwo) .none kV14 dc14 pm14 an14 cd14 ct14), sl14⟩)
    (c14 : PySem.W.codeIn K cd14 "_law_two" = true)
    (k14 : PySem.W.keepIn K (.ref f14) = true)
    (a15 : PySem.W.nsIn K mainGlobals "_law_comes" = some (some (.ref f15)))
    (l15 : K.lookup f15 = some ⟨oc15, od15, .func (PySem.W.fnOf "_law_comes" "_law_comes" (defArgs st_Lcomes) (defBody st_Lcomes) (defScope st_Lcomes) .none kV15 dc15 pm15 an15 cd15 ct15), sl15⟩)
    (c15 : PySem.W.codeIn K cd15 "_law_comes" = true)
    (k15 : PySem.W.keepIn K (.ref f15) = true)
    (a16 : PySem.W.nsIn K mainGlobals "_law_reckon" = some (some (.ref f16)))
    (l16 : K.lookup f16 = some ⟨oc16, od16, .func (PySem.W.fnOf "_law_reckon" "_law_reckon" (defArgs st_Lreckon) (defBody st_Lreckon) (defScope st_Lreckon) .none kV16 dc16 pm16 an16 cd16 ct16), sl16⟩)
    (c16 : PySem.W.codeIn K cd16 "_law_reckon" = true)
    (k16 : PySem.W.keepIn K (.ref f16) = true)
    (a17 : PySem.W.nsIn K mainGlobals "_law_signed" = some (some (.ref f17)))
    (l17 : K.lookup f17 = some ⟨oc17, od17, .func (PySem.W.fnOf "_law_signed" "_law_signed" (defArgs st_Lsigned) (defBody st_Lsigned) (defScope st_Lsigned) .none kV17 dc17 pm17 an17 cd17 ct17), sl17⟩)
    (c17 : PySem.W.codeIn K cd17 "_law_signed" = true)
    (k17 : PySem.W.keepIn K (.ref f17) = true)
    (a18 : PySem.W.nsIn K mainGlobals "_law_numbers" = some (some (.ref f18)))
    (l18 : K.lookup f18 = some ⟨oc18, od18, .func (PySem.W.fnOf "_law_numbers" "_law_numbers" (defArgs st_Lnumbers) (defBody st_Lnumbers) (defScope st_Lnumbers) .none kV18 dc18 pm18 an18 cd18 ct18), sl18⟩)
    (c18 : PySem.W.codeIn K cd18 "_law_numbers" = true)
    (k18 : PySem.W.keepIn K (.ref f18) = true)
    (a19 : PySem.W.nsIn K mainGlobals "_law_right" = some (some (.ref f19)))
    (l19 : K.lookup f19 = some ⟨oc19, od19, .func (PySem.W.fnOf "_law_right" "_law_right" (defArgs st_Lright) (defBody st_Lright) (defScope st_Lright) .none kV19 dc19 pm19 an19 cd19 ct19), sl19⟩)
    (c19 : PySem.W.codeIn K cd19 "_law_right" = true)
    (k19 : PySem.W.keepIn K (.ref f19) = true)
    (a20 : PySem.W.nsIn K mainGlobals "law" = some (some (.ref f20)))
    (l20 : K.lookup f20 = some ⟨oc20, od20, .func (PySem.W.fnOf "law" "law" (defArgs st_law) (defBody st_law) (defScope st_law) .none kV20 dc20 pm20 an20 cd20 ct20), sl20⟩)
    (c20 : PySem.W.codeIn K cd20 "law" = true)
    (k20 : PySem.W.keepIn K (.ref f20) = true)
    (ca0 : PySem.W.nsIn K mainGlobals "Around" = some (some (.ref C0)))
    (cb0 : clsB K C0 = true)
    (cn0 : noAB K C0 ["box_worths", "row_worths", "fit_bodies", "fault_met", "deep"] = true)
    (xa0 : PySem.W.findIn K (.ref C0) "__init__" = some (some (.ref xf0)))
    (xl0 : K.lookup xf0 = some ⟨xoc0, xod0, .func (PySem.W.fnOf "__init__" "Around.__init__" (defArgs st_Around___init__) (defBody st_Around___init__) (defScope st_Around___init__) .none xkV0 xdc0 xpm0 xan0 xcd0 xct0), xsl0⟩)
    (xc0 : PySem.W.codeIn K xcd0 "Around.__init__" = true)
    (xk0 : PySem.W.keepIn K (.ref xf0) = true)
    (xi0 : PySem.W.isFn K (.ref xf0) = true)
    (xa1 : PySem.W.findIn K (.ref C0) "within" = some (some (.ref xf1)))
    (xl1 : K.lookup xf1 = some ⟨xoc1, xod1, .func (PySem.W.fnOf "within" "Around.within" (defArgs st_Around_within) (defBody st_Around_within) (defScope st_Around_within) .none xkV1 xdc1 xpm1 xan1 xcd1 xct1), xsl1⟩)
    (xc1 : PySem.W.codeIn K xcd1 "Around.within" = true)
    (xk1 : PySem.W.keepIn K (.ref xf1) = true)
    (xi1 : PySem.W.isFn K (.ref xf1) = true)
    (xa2 : PySem.W.nsIn K mainGlobals "reckon" = some (some (.ref xf2)))
    (xl2 : K.lookup xf2 = some ⟨xoc2, xod2, .func (PySem.W.fnOf "reckon" "reckon" (defArgs st_reckon) (defBody st_reckon) (defScope st_reckon) .none (.ref xD2) xdc2 xpm2 xan2 xcd2 xct2), xsl2⟩)
    (xc2 : PySem.W.codeIn K xcd2 "reckon" = true)
    (xk2 : PySem.W.keepIn K (.ref xf2) = true)
    (kd2_boxes : PySem.W.nsIn K xD2 "boxes" = some (some ku2_boxes))
    (kv2_boxes : valIn K 40 ku2_boxes .none = true)
    (kd2_rows : PySem.W.nsIn K xD2 "rows" = some (some ku2_rows))
    (kv2_rows : valIn K 40 ku2_rows .none = true)
    (kd2_fits : PySem.W.nsIn K xD2 "fits" = some (some ku2_fits))
    (kv2_fits : valIn K 40 ku2_fits .none = true)
    (kd2_fault : PySem.W.nsIn K xD2 "fault" = some (some ku2_fault))
    (kv2_fault : valIn K 40 ku2_fault .none = true)
    (ea0 : PySem.W.nsIn K mainGlobals "Fault" = some (some (.ref eC0)))
    (eb0 : PySem.W.findIn K (.ref eC0) "__init__" = some (some (.ref eI0)))
    (el0 : K.lookup eI0 = some ⟨eoc0, eod0, .func (PySem.W.fnOf "__init__" "Fault.__init__" (defArgs st_Fault___init__) (defBody st_Fault___init__) (defScope st_Fault___init__) .none ekV0 edc0 epm0 ean0 ecd0 ect0), esl0⟩)
    (ec0 : PySem.W.codeIn K ecd0 "Fault.__init__" = true)
    (ez0 : ineB K "Fault" eI0 "word" = true)
    (z : freeAll K bltL = true)
    (gq : glAll K glL = true)
    (hq : hshK K glL = hshW w glL)
    (zx : xcAll K xsL = true)
    (zp : plAllF K xsL = true)
    : ∃ fd : FuncData, (∀ (s : Shared) (v : Value), BindsTo s fd ⟨[v], []⟩ [("_law_script", v)]) ∧ ∀ base : Heap, K.In base → base.Ns mainGlobals mg → ∃ ff, FnG l.prog w K mg base ff 125 fa fd ["_law_script"] (runF (CF 60) 7 ir_law) := by
  have B : BltFree mg := .of X G z
  have Gl : GlOk K w mg glL := .of X G gq hq
  have D0 : DefAt K mg "need" st_need ps_need := .of X G (fun _ _ _ _ _ _ us hl => match us, hl with | [_, _], _ => rfl) a0 l0 c0 k0
  have D1 : DefAt K mg "is_number" st_is_number ps_is_number := .of X G (fun _ _ _ _ _ _ us hl => match us, hl with | [_], _ => rfl) a1 l1 c1 k1
  have D2 : DefAt K mg "bounded" st_bounded ps_bounded := .of X G (fun _ _ _ _ _ _ us hl => match us, hl with | [_], _ => rfl) a2 l2 c2 k2
  have D3 : DefAt K mg "by_sign" st_by_sign ps_by_sign := .of X G (fun _ _ _ _ _ _ us hl => match us, hl with | [_, _, _], _ => rfl) a3 l3 c3 k3
  have D4 : DefAt K mg "part_of" st_part_of ps_part_of := .of X G (fun _ _ _ _ _ _ us hl => match us, hl with | [_, _, _], _ => rfl) a4 l4 c4 k4
  have D5 : DefAt K mg "cell_of" st_cell_of ps_cell_of := .of X G (fun _ _ _ _ _ _ us hl => match us, hl with | [_, _, _], _ => rfl) a5 l5 c5 k5
  have D6 : DefAt K mg "last_fault" st_last_fault ps_last_fault := .of X G (fun _ _ _ _ _ _ us hl => match us, hl with | [_, _], _ => rfl) a6 l6 c6 k6
  have D7 : DefAt K mg "of_worths" st_of_worths ps_of_worths := .of X G (fun _ _ _ _ _ _ us hl => match us, hl with | [_, _], _ => rfl) a7 l7 c7 k7
  have D8 : DefAt K mg "come" st_come ps_come := .of X G (fun _ _ _ _ _ _ us hl => match us, hl with | [_, _], _ => rfl) a8 l8 c8 k8
  have D9 : DefAt K mg "fit_of" st_fit_of ps_fit_of := .of X G (fun _ _ _ _ _ _ us hl => match us, hl with | [_, _, _], _ => rfl) a9 l9 c9 k9
  have D10 : DefAt K mg "_law_pen" st_Lpen ps_Lpen := .of X G (fun _ _ _ _ _ _ us hl => match us, hl with | [_], _ => rfl) a10 l10 c10 k10
  have D11 : DefAt K mg "_law_draw" st_Ldraw ps_Ldraw := .of X G (fun _ _ _ _ _ _ us hl => match us, hl with | [_, _], _ => rfl) a11 l11 c11 k11
  have D12 : DefAt K mg "_law_number" st_Lnumber ps_Lnumber := .of X G (fun _ _ _ _ _ _ us hl => match us, hl with | [_], _ => rfl) a12 l12 c12 k12
  have D13 : DefAt K mg "_law_bounded" st_Lbounded ps_Lbounded := .of X G (fun _ _ _ _ _ _ us hl => match us, hl with | [_], _ => rfl) a13 l13 c13 k13
  have D14 : DefAt K mg "_law_two" st_Ltwo ps_Ltwo := .of X G (fun _ _ _ _ _ _ us hl => match us, hl with | [_, _, _], _ => rfl) a14 l14 c14 k14
  have D15 : DefAt K mg "_law_comes" st_Lcomes ps_Lcomes := .of X G (fun _ _ _ _ _ _ us hl => match us, hl with | [_, _, _, _], _ => rfl) a15 l15 c15 k15
  have D16 : DefAt K mg "_law_reckon" st_Lreckon ps_Lreckon := .of X G (fun _ _ _ _ _ _ us hl => match us, hl with | [_, _, _], _ => rfl) a16 l16 c16 k16
  have D17 : DefAt K mg "_law_signed" st_Lsigned ps_Lsigned := .of X G (fun _ _ _ _ _ _ us hl => match us, hl with | [_], _ => rfl) a17 l17 c17 k17
  have D18 : DefAt K mg "_law_numbers" st_Lnumbers ps_Lnumbers := .of X G (fun _ _ _ _ _ _ us hl => match us, hl with | [_, _], _ => rfl) a18 l18 c18 k18
  have D19 : DefAt K mg "_law_right" st_Lright ps_Lright := .of X G (fun _ _ _ _ _ _ us hl => match us, hl with | [_], _ => rfl) a19 l19 c19 k19
  have A : AllOk K mg fnL glL xsL osL fnL tabF := .cons D0 sc_need ck_need <|
    .cons D1 sc_is_number ck_is_number <|
    .cons D2 sc_bounded ck_bounded <|
    .cons D3 sc_by_sign ck_by_sign <|
    .cons D4 sc_part_of ck_part_of <|
    .cons D5 sc_cell_of ck_cell_of <|
    .cons D6 sc_last_fault ck_last_fault <|
    .cons D7 sc_of_worths ck_of_worths <|
    .cons D8 sc_come ck_come <|
    .cons D9 sc_fit_of ck_fit_of <|
    .cons D10 sc_Lpen ck_Lpen <|
    .cons D11 sc_Ldraw ck_Ldraw <|
    .cons D12 sc_Lnumber ck_Lnumber <|
    .cons D13 sc_Lbounded ck_Lbounded <|
    .cons D14 sc_Ltwo ck_Ltwo <|
    .cons D15 sc_Lcomes ck_Lcomes <|
    .cons D16 sc_Lreckon ck_Lreckon <|
    .cons D17 sc_Lsigned ck_Lsigned <|
    .cons D18 sc_Lnumbers ck_Lnumbers <|
    .cons D19 sc_Lright ck_Lright <|
    .nil
  have AX : AllX K fnL glL xsL osL [⟨xf0, PySem.W.fnOf "__init__" "Around.__init__" (defArgs st_Around___init__) (defBody st_Around___init__) (defScope st_Around___init__) .none xkV0 xdc0 xpm0 xan0 xcd0 xct0, ps_Around___init__⟩, ⟨xf1, PySem.W.fnOf "within" "Around.within" (defArgs st_Around_within) (defBody st_Around_within) (defScope st_Around_within) .none xkV1 xdc1 xpm1 xan1 xcd1 xct1, ps_Around_within⟩, ⟨xf2, PySem.W.fnOf "reckon" "reckon" (defArgs st_reckon) (defBody st_reckon) (defScope st_reckon) .none (.ref xD2) xdc2 xpm2 xan2 xcd2 xct2, ps_reckon⟩] tabX := .cons (fun_mk (st := st_Around___init__) xl0 xc0 xk0) sc_Around___init__ ck_Around___init__ <|
    .cons (fun_mk (st := st_Around_within) xl1 xc1 xk1) sc_Around_within ck_Around_within <|
    .cons (fun_mk (st := st_reckon) xl2 xc2 xk2) sc_reckon ck_reckon <|
    .nil
  have OC : CssS K mg fnL.length [⟨xf0, PySem.W.fnOf "__init__" "Around.__init__" (defArgs st_Around___init__) (defBody st_Around___init__) (defScope st_Around___init__) .none xkV0 xdc0 xpm0 xan0 xcd0 xct0, ps_Around___init__⟩, ⟨xf1, PySem.W.fnOf "within" "Around.within" (defArgs st_Around_within) (defBody st_Around_within) (defScope st_Around_within) .none xkV1 xdc1 xpm1 xan1 xcd1 xct1, ps_Around_within⟩, ⟨xf2, PySem.W.fnOf "reckon" "reckon" (defArgs st_reckon) (defBody st_reckon) (defScope st_reckon) .none (.ref xD2) xdc2 xpm2 xan2 xcd2 xct2, ps_reckon⟩] osL.cs := .cons (.of (PySem.W.mg_of X G ca0) cb0 cn0 (.cons (.of 1 (by decide +kernel) rfl rfl xa1 xi1 xk1 (Fun.binds (ps := ps_Around_within) (fun_mk (st := st_Around_within) xl1 xc1 xk1) fun _ _ _ _ _ _ us hl => match us, hl with | [_, _, _], _ => rfl)) .nil) (.of 0 (by decide +kernel) rfl rfl xa0 xi0 xk0 (Fun.binds (ps := ps_Around___init__) (fun_mk (st := st_Around___init__) xl0 xc0 xk0) fun _ _ _ _ _ _ us hl => match us, hl with | [_, _, _, _, _, _], _ => rfl))) <|
    .nil
  obtain ⟨dv1, DR1⟩ : ∃ ds, DfR K (osL.kw.getD 1 ⟨0, "", 0, [], []⟩).ar ds [.none, ku2_boxes, ku2_rows, ku2_fits, ku2_fault] := (DfR.pos (DfR.val kv2_boxes (DfR.val kv2_rows (DfR.val kv2_fits (DfR.val kv2_fault DfR.nix)))))
  obtain ⟨dv0, DR0⟩ : ∃ ds, DfR K (osL.kw.getD 0 ⟨0, "", 0, [], []⟩).ar ds [.none, .none, .none, .none, .none] := (DfR.pos (DfR.pos (DfR.pos (DfR.pos (DfR.pos DfR.nix)))))
  have OK : KwsS K mg fnL.length [⟨xf0, PySem.W.fnOf "__init__" "Around.__init__" (defArgs st_Around___init__) (defBody st_Around___init__) (defScope st_Around___init__) .none xkV0 xdc0 xpm0 xan0 xcd0 xct0, ps_Around___init__⟩, ⟨xf1, PySem.W.fnOf "within" "Around.within" (defArgs st_Around_within) (defBody st_Around_within) (defScope st_Around_within) .none xkV1 xdc1 xpm1 xan1 xcd1 xct1, ps_Around_within⟩, ⟨xf2, PySem.W.fnOf "reckon" "reckon" (defArgs st_reckon) (defBody st_reckon) (defScope st_reckon) .none (.ref xD2) xdc2 xpm2 xan2 xcd2 xct2, ps_reckon⟩] osL.kw := .cons (.of 2 (by decide +kernel) rfl rfl (PySem.W.mg_of X G xa2) xk2 DR0 fun s us ws l XK h1 h2 ha => match us, ws, h1, h2, ha with
      | [u0], [w0, w1, w2, w3], _, _, ha => by
        have e := Option.some.inj ha
        subst e
        exact .of_eq rfl) <|
    .cons (.of 2 (by decide +kernel) rfl rfl (PySem.W.mg_of X G xa2) xk2 DR1 fun s us ws l XK h1 h2 ha => match us, ws, h1, h2, ha with
      | [u0], [], _, _, ha => by
        have e := Option.some.inj ha
        subst e
        exact L2.BindsTo.of_looks fun M => L2.KwChain.looks (D := xD2) (l := [("boxes", ku2_boxes), ("rows", ku2_rows), ("fits", ku2_fits), ("fault", ku2_fault)]) XK (fun p hp => by
        simp only [List.mem_cons, List.not_mem_nil, or_false] at hp
        rcases hp with rfl | rfl | rfl | rfl
        · exact kd2_boxes
        · exact kd2_rows
        · exact kd2_fits
        · exact kd2_fault) ⟨_, _, _, _, _, _, rfl, rfl, ⟨_, _, _, _, _, _, rfl, rfl, ⟨_, _, _, _, _, _, rfl, rfl, ⟨_, _, _, _, _, _, rfl, rfl, rfl⟩⟩⟩⟩) <|
    .nil
  have ZE : ∀ base : Heap, ∀ p ∈ xsL, p.2.fl ≠ [] → XcM l.prog w K mg base 3 p.1 p.2.fl := by
    intro base p hp
    simp only [xsL, List.mem_cons, List.not_mem_nil, or_false] at hp
    rcases hp with rfl
    · exact fun _ => xcmE_of X G (B _ (by decide)) ez0 el0 ec0 sc_Fault___init__ (by decide +kernel) rfl (by decide) (fun us hl => match us, hl with | [_, _], _ => rfl)
  exact topF_mk (st := st_law) 60 X G hfa B Gl A AX (.of OC OK) (fun base _ _ => .plainF X G zx zp (ZE base)) sc_law ck_law (fun _ _ _ _ _ _ _ _ => .of_eq rfl) a20 l20 c20 k20
end Nb.Lw
open PySem PySem.W PyProof.Rows in
set_option maxRecDepth 100000 in
set_option maxHeartbeats 0 in
theorem PySem.Challenge.cw_numberedlines_k08_numbers_reckoned_holds : PySem.Challenge.rw_numberedlines_k08_numbers_reckoned.Holds := by
  w_on; o_law; k_head; (case hw => w_witness2)
  k_fill
  refine Nb.walkG (l := PySem.Challenge.rw_numberedlines_k08_numbers_reckoned) (n := 63) (k := 125) (x := "_law_script") rfl (by decide) rfl ⟨rfl, by decide, by decide⟩ (fun w h Y => PySem.W.kIn_of Y) ?F (fun ns hl _ => Nb.Lw.law_ok ns hl)
  case F =>
    intro w mg fa h KX G hmg
    refine' Nb.Lw.all_mk KX G hmg ?ha0 ?hl0 ?hc0 ?hk0 ?ha1 ?hl1 ?hc1 ?hk1 ?ha2 ?hl2 ?hc2 ?hk2 ?ha3 ?hl3 ?hc3 ?hk3 ?ha4 ?hl4 ?hc4 ?hk4 ?ha5 ?hl5 ?hc5 ?hk5 ?ha6 ?hl6 ?hc6 ?hk6 ?ha7 ?hl7 ?hc7 ?hk7 ?ha8 ?hl8 ?hc8 ?hk8 ?ha9 ?hl9 ?hc9 ?hk9 ?ha10 ?hl10 ?hc10 ?hk10 ?ha11 ?hl11 ?hc11 ?hk11 ?ha12 ?hl12 ?hc12 ?hk12 ?ha13 ?hl13 ?hc13 ?hk13 ?ha14 ?hl14 ?hc14 ?hk14 ?ha15 ?hl15 ?hc15 ?hk15 ?ha16 ?hl16 ?hc16 ?hk16 ?ha17 ?hl17 ?hc17 ?hk17 ?ha18 ?hl18 ?hc18 ?hk18 ?ha19 ?hl19 ?hc19 ?hk19 ?ha20 ?hl20 ?hc20 ?hk20 ?hca0 ?hcb0 ?hcn0 ?hxa0 ?hxl0 ?hxc0 ?hxk0 ?hxi0 ?hxa1 ?hxl1 ?hxc1 ?hxk1 ?hxi1 ?hxa2 ?hxl2 ?hxc2 ?hxk2 ?hkd2_boxes ?hkv2_boxes ?hkd2_rows ?hkv2_rows ?hkd2_fits ?hkv2_fits ?hkd2_fault ?hkv2_fault ?hea0 ?heb0 ?hel0 ?hec0 ?hez0 ?hz ?hgq ?hhq ?hzx ?hzp
    (case ha0 => k_is)
    (case hl0 => k_is)
    (case hc0 => k_is)
    (case hk0 => k_is)
    (case ha1 => k_is)
    (case hl1 => k_is)
    (case hc1 => k_is)
    (case hk1 => k_is)
    (case ha2 => k_is)
    (case hl2 => k_is)
    (case hc2 => k_is)
    (case hk2 => k_is)
    (case ha3 => k_is)
    (case hl3 => k_is)
    (case hc3 => k_is)
    (case hk3 => k_is)
    (case ha4 => k_is)
    (case hl4 => k_is)
    (case hc4 => k_is)
    (case hk4 => k_is)
    (case ha5 => k_is)
    (case hl5 => k_is)
    (case hc5 => k_is)
    (case hk5 => k_is)
    (case ha6 => k_is)
    (case hl6 => k_is)
    (case hc6 => k_is)
    (case hk6 => k_is)
    (case ha7 => k_is)
    (case hl7 => k_is)
    (case hc7 => k_is)
    (case hk7 => k_is)
    (case ha8 => k_is)
    (case hl8 => k_is)
    (case hc8 => k_is)
    (case hk8 => k_is)
    (case ha9 => k_is)
    (case hl9 => k_is)
    (case hc9 => k_is)
    (case hk9 => k_is)
    (case ha10 => k_is)
    (case hl10 => k_is)
    (case hc10 => k_is)
    (case hk10 => k_is)
    (case ha11 => k_is)
    (case hl11 => k_is)
    (case hc11 => k_is)
    (case hk11 => k_is)
    (case ha12 => k_is)
    (case hl12 => k_is)
    (case hc12 => k_is)
    (case hk12 => k_is)
    (case ha13 => k_is)
    (case hl13 => k_is)
    (case hc13 => k_is)
    (case hk13 => k_is)
    (case ha14 => k_is)
    (case hl14 => k_is)
    (case hc14 => k_is)
    (case hk14 => k_is)
    (case ha15 => k_is)
    (case hl15 => k_is)
    (case hc15 => k_is)
    (case hk15 => k_is)
    (case ha16 => k_is)
    (case hl16 => k_is)
    (case hc16 => k_is)
    (case hk16 => k_is)
    (case ha17 => k_is)
    (case hl17 => k_is)
    (case hc17 => k_is)
    (case hk17 => k_is)
    (case ha18 => k_is)
    (case hl18 => k_is)
    (case hc18 => k_is)
    (case hk18 => k_is)
    (case ha19 => k_is)
    (case hl19 => k_is)
    (case hc19 => k_is)
    (case hk19 => k_is)
    (case ha20 => k_is)
    (case hl20 => k_is)
    (case hc20 => k_is)
    (case hk20 => k_is)
    (case hca0 => k_is)
    (case hcb0 => kernel_rfl)
    (case hcn0 => kernel_rfl)
    (case hxa0 => k_is)
    (case hxl0 => k_is)
    (case hxc0 => k_is)
    (case hxk0 => k_is)
    (case hxi0 => kernel_rfl)
    (case hxa1 => k_is)
    (case hxl1 => k_is)
    (case hxc1 => k_is)
    (case hxk1 => k_is)
    (case hxi1 => kernel_rfl)
    (case hxa2 => k_is)
    (case hxl2 => k_is)
    (case hxc2 => k_is)
    (case hxk2 => k_is)
    (case hkd2_boxes => k_is)
    (case hkv2_boxes => kernel_rfl)
    (case hkd2_rows => k_is)
    (case hkv2_rows => kernel_rfl)
    (case hkd2_fits => k_is)
    (case hkv2_fits => kernel_rfl)
    (case hkd2_fault => k_is)
    (case hkv2_fault => kernel_rfl)
    (case hea0 => k_is)
    (case heb0 => k_is)
    (case hel0 => k_is)
    (case hec0 => k_is)
    (case hez0 => kernel_rfl)
    (case hz => kernel_rfl)
    (case hgq => kernel_rfl)
    (case hhq => kernel_rfl)
    (case hzx => kernel_rfl)
    (case hzp => kernel_rfl)
