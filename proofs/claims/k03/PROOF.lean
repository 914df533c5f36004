import PyProof.Rows.All
import Wide.All
import OpenK.AllK
import Wide.FinOn
import HandS.ForMost
import HandS.ForExc
import HandS.Deep
import HandS.TupAny
import HandS.CallSlots
import HandS.Walk
import HandS.TryOnly
import HandS.Zip
import HandS.DictComp
import KE.GoesMore
import KE.GoesEnum
import HandS.IsInst
import KE.DataEq
import HandS.Wide
import HandS.Conv
import KE.SortData
import KE.KDictPairs
import PyProof.ReprRoads
import PyProof.Rows.RuleB_pow
import HandS.SortKw
import HandS.DictTup
import HandS.ListItems
import HandS.WordsDict
import KE.KDictItemsList
import HandS.TupLen
import PyProof.CallFns
import KE.KxText
import PyProof.ReprBulk
import PySem.Challenge.RW_lastmakers_k03_plans_put_off_and_joined
set_option Elab.async false
set_option linter.all false
set_option maxRecDepth 100000
set_option maxHeartbeats 4000000
/-! The value layer: what the readings of the hand layer come to over plain data. -/
namespace Fx
open PySem L2

/-- what is known of the program: the written part, the module's names -/
structure Ck where
  K : PySem.W.Frag
  mg : Str → Option Value
instance : Coe Ck PySem.W.Frag := ⟨Ck.K⟩
/-- the classes whose objects are seen as data -/
def isCls (nm : Str) : Bool := decide (nm ∈ (["Book", "Plans", "RoundBook", "Stand", "Held", "Live", "Desk"] : List Str))
/-- an object as data: its class's name, its fields -/
def flds : List (Str × PyData) → List (PyData × PyData)
  | [] => []
  | (n, d) :: r => (.str n, d) :: flds r
def objD (nm : Str) (fs : List (Str × PyData)) : PyData := .dict ((.list [], .str nm) :: flds fs)
def keyD : Key → PyData
  | .inl i => .int i
  | .inr x => .str x

/-- a list that may be read: one of the heap, or one of the module's own -/
def SqLx (K : Ck) (H : Hp) (a : Addr) (xs : List V) : Prop := Rd H a (.lst xs) ∨ ∃ (its : Array Value) (n : Nat), K.K.lookup a = some { cls := .type "list", data := .seq its n } ∧ its.size ≤ sizeLine ∧ Vals xs its.toList
theorem SqLx.sql {K : Ck} {H : Hp} {a : Addr} {xs : List V} (h : SqLx K H a xs) : SqL K H a xs := by
  rcases h with h | ⟨its, n, h1, h2, h3⟩
  · exact .inl h
  · exact .inr ⟨_, its, n, h1, rfl, rfl, rfl, h2, h3⟩
/-- a tuple of whom all is known; one that is no tuple of tuples -/
def PlT (F : Hp) (a : Addr) (vs : List V) : Prop := ∃ o, F a = some (.frz o (.tup vs)) ∧ o.dict = none
def notT : PyData → Bool
  | .tuple _ => false
  | .list _ => false
  | _ => true
def TupOk (F : Hp) (a : Addr) (vs : List V) (ds : List PyData) : Prop := (F a = some (.tup vs) ∧ ds.any notT = true) ∨ PlT F a vs
/-! ### data that stand in a heap of frozen objects -/
mutual
inductive Rp (K : Ck) (F : Hp) : V → PyData → Prop
  | non : Rp K F .non .none
  | bl (b : Bool) : Rp K F (.bl b) (.bool b)
  | int (i : Int) : Rp K F (.int i) (.int i)
  | str (x : Str) : Rp K F (.str x) (.str x)
  | lst {a : Addr} {vs : List V} {ds : List PyData} : SqLx K F a vs → RpA K F vs ds → Rp K F (.ref a) (.list ds)
  | tup {a : Addr} {vs : List V} {ds : List PyData} : SqT K F a vs → TupOk F a vs ds → RpA K F vs ds → Rp K F (.ref a) (.tuple ds)
  | dK {a : Addr} {kvs : List (Key × V)} {ds : List (PyData × PyData)} : F a = some (.dK kvs) → RpK K F kvs ds → Rp K F (.ref a) (.dict ds)
  | dT {a : Addr} {kvs : List (List Key × V)} {ds : List (PyData × PyData)} : F a = some (.dT kvs) → RpT K F kvs ds → ds ≠ [] → Rp K F (.ref a) (.dict ds)
  | obj {a dx C : Addr} {nm : Str} {fs : List (Str × V)} {ds : List (Str × PyData)} : F a = some (.ins C dx fs) → K.mg nm = some (.ref C) → isCls nm = true → RpF K F fs ds → Rp K F (.ref a) (objD nm ds)
inductive RpA (K : Ck) (F : Hp) : List V → List PyData → Prop
  | nil : RpA K F [] []
  | cons {v : V} {vs : List V} {d : PyData} {ds : List PyData} : Rp K F v d → RpA K F vs ds → RpA K F (v :: vs) (d :: ds)
inductive RpK (K : Ck) (F : Hp) : List (Key × V) → List (PyData × PyData) → Prop
  | nil : RpK K F [] []
  | cons {k : Key} {v : V} {kvs : List (Key × V)} {d : PyData} {ds : List (PyData × PyData)} : Rp K F v d → RpK K F kvs ds → RpK K F ((k, v) :: kvs) ((keyD k, d) :: ds)
inductive RpT (K : Ck) (F : Hp) : List (List Key × V) → List (PyData × PyData) → Prop
  | nil : RpT K F [] []
  | cons {k : List Key} {v : V} {kvs : List (List Key × V)} {d : PyData} {ds : List (PyData × PyData)} : Rp K F v d → RpT K F kvs ds → RpT K F ((k, v) :: kvs) ((.tuple (k.map keyD), d) :: ds)
inductive RpF (K : Ck) (F : Hp) : List (Str × V) → List (Str × PyData) → Prop
  | nil : RpF K F [] []
  | cons {n : Str} {v : V} {fs : List (Str × V)} {d : PyData} {ds : List (Str × PyData)} : Rp K F v d → RpF K F fs ds → RpF K F ((n, v) :: fs) ((n, d) :: ds)
end

/-- one heap's objects stand in another one as well -/
def Le (F F' : Hp) : Prop := ∀ a o, F a = some o → F' a = some o
theorem Le.refl (F : Hp) : Le F F := fun _ _ h => h
theorem Le.trans {F F1 F2 : Hp} (a : Le F F1) (b : Le F1 F2) : Le F F2 := fun x o h => b x o (a x o h)
theorem Le.tok {F F' : Hp} {a : Addr} {vs : List V} {ds : List PyData} (e : Le F F') (h : TupOk F a vs ds) : TupOk F' a vs ds := by
  rcases h with ⟨h, k⟩ | ⟨o, h, k⟩
  · exact .inl ⟨e _ _ h, k⟩
  · exact .inr ⟨o, e _ _ h, k⟩
theorem Le.sql {K : Ck} {F F' : Hp} {a : Addr} {xs : List V} (e : Le F F') (h : SqL K F a xs) : SqL K F' a xs := by
  rcases h with (h | ⟨o, h⟩) | h
  · exact .inl (.inl (e _ _ h))
  · exact .inl (.inr ⟨o, e _ _ h⟩)
  · exact .inr h
theorem Le.rd {F F' : Hp} {a : Addr} {u : HO} (e : Le F F') (h : Rd F a u) : Rd F' a u := by
  rcases h with h | ⟨o, h⟩
  · exact .inl (e _ _ h)
  · exact .inr ⟨o, e _ _ h⟩
theorem Le.sqx {K : Ck} {F F' : Hp} {a : Addr} {xs : List V} (e : Le F F') (h : SqLx K F a xs) : SqLx K F' a xs := h.imp e.rd id
theorem Le.sqt {K : Ck} {F F' : Hp} {a : Addr} {xs : List V} (e : Le F F') (h : SqT K F a xs) : SqT K F' a xs := by
  rcases h with (h | ⟨o, h⟩) | h
  · exact .inl (.inl (e _ _ h))
  · exact .inl (.inr ⟨o, e _ _ h⟩)
  · exact .inr h

mutual
theorem Rp.mono {K : Ck} {F F' : Hp} (e : Le F F') : ∀ {v : V} {d : PyData}, Rp K F v d → Rp K F' v d
  | _, _, .non => .non
  | _, _, .bl b => .bl b
  | _, _, .int i => .int i
  | _, _, .str x => .str x
  | _, _, .lst h r => .lst (e.sqx h) (RpA.mono e r)
  | _, _, .tup h k r => .tup (e.sqt h) (e.tok k) (RpA.mono e r)
  | _, _, .dK h r => .dK (e _ _ h) (RpK.mono e r)
  | _, _, .dT h r n => .dT (e _ _ h) (RpT.mono e r) n
  | _, _, .obj h m i r => .obj (e _ _ h) m i (RpF.mono e r)
theorem RpA.mono {K : Ck} {F F' : Hp} (e : Le F F') : ∀ {vs : List V} {ds : List PyData}, RpA K F vs ds → RpA K F' vs ds
  | _, _, .nil => .nil
  | _, _, .cons r t => .cons (Rp.mono e r) (RpA.mono e t)
theorem RpK.mono {K : Ck} {F F' : Hp} (e : Le F F') : ∀ {vs : List (Key × V)} {ds : List (PyData × PyData)}, RpK K F vs ds → RpK K F' vs ds
  | _, _, .nil => .nil
  | _, _, .cons r t => .cons (Rp.mono e r) (RpK.mono e t)
theorem RpT.mono {K : Ck} {F F' : Hp} (e : Le F F') : ∀ {vs : List (List Key × V)} {ds : List (PyData × PyData)}, RpT K F vs ds → RpT K F' vs ds
  | _, _, .nil => .nil
  | _, _, .cons r t => .cons (Rp.mono e r) (RpT.mono e t)
theorem RpF.mono {K : Ck} {F F' : Hp} (e : Le F F') : ∀ {vs : List (Str × V)} {ds : List (Str × PyData)}, RpF K F vs ds → RpF K F' vs ds
  | _, _, .nil => .nil
  | _, _, .cons r t => .cons (Rp.mono e r) (RpF.mono e t)
end

theorem RpA.length {K : Ck} {F : Hp} : ∀ {vs : List V} {ds : List PyData}, RpA K F vs ds → vs.length = ds.length
  | _, _, .nil => rfl
  | _, _, .cons _ t => by simp [RpA.length t]
theorem RpA.get {K : Ck} {F : Hp} : ∀ {vs : List V} {ds : List PyData} {i : Nat} {v : V}, RpA K F vs ds → vs[i]? = some v → ∃ d, ds[i]? = some d ∧ Rp K F v d
  | _, _, _, _, .nil, e => by simp at e
  | _, _, 0, _, .cons r _, e => by simp at e; subst e; exact ⟨_, rfl, r⟩
  | _, _, i + 1, v, .cons _ t, e => by
    obtain ⟨d, h1, h2⟩ := RpA.get (i := i) (v := v) t (by simpa using e)
    exact ⟨d, by simpa using h1, h2⟩
theorem RpA.get' {K : Ck} {F : Hp} : ∀ {vs : List V} {ds : List PyData} {i : Nat} {d : PyData}, RpA K F vs ds → ds[i]? = some d → ∃ v, vs[i]? = some v ∧ Rp K F v d
  | _, _, _, _, .nil, e => by simp at e
  | _, _, 0, _, .cons r _, e => by simp at e; subst e; exact ⟨_, rfl, r⟩
  | _, _, i + 1, d, .cons _ t, e => by
    obtain ⟨v, h1, h2⟩ := RpA.get' (i := i) (d := d) t (by simpa using e)
    exact ⟨v, by simpa using h1, h2⟩
theorem RpA.append {K : Ck} {F : Hp} : ∀ {vs ws : List V} {ds es : List PyData}, RpA K F vs ds → RpA K F ws es → RpA K F (vs ++ ws) (ds ++ es)
  | _, _, _, _, .nil, s => s
  | _, _, _, _, .cons r t, s => .cons r (RpA.append t s)
theorem RpA.take {K : Ck} {F : Hp} : ∀ {vs : List V} {ds : List PyData} (n : Nat), RpA K F vs ds → RpA K F (vs.take n) (ds.take n)
  | _, _, 0, _ => by simpa using RpA.nil
  | _, _, n + 1, .nil => .nil
  | _, _, n + 1, .cons r t => by simpa using RpA.cons r (RpA.take n t)
theorem RpA.drop {K : Ck} {F : Hp} : ∀ {vs : List V} {ds : List PyData} (n : Nat), RpA K F vs ds → RpA K F (vs.drop n) (ds.drop n)
  | _, _, 0, r => r
  | _, _, n + 1, .nil => .nil
  | _, _, n + 1, .cons _ t => by simpa using RpA.drop n t
theorem RpA.set {K : Ck} {F : Hp} {v : V} {d : PyData} (r : Rp K F v d) : ∀ {vs : List V} {ds : List PyData} (i : Nat), RpA K F vs ds → RpA K F (vs.set i v) (ds.set i d)
  | _, _, _, .nil => .nil
  | _, _, 0, .cons _ t => .cons r t
  | _, _, i + 1, .cons q t => .cons q (RpA.set r i t)
theorem RpA.eraseIdx {K : Ck} {F : Hp} : ∀ {vs : List V} {ds : List PyData} (i : Nat), RpA K F vs ds → RpA K F (vs.eraseIdx i) (ds.eraseIdx i)
  | _, _, _, .nil => .nil
  | _, _, 0, .cons _ t => t
  | _, _, i + 1, .cons q t => .cons q (RpA.eraseIdx i t)
theorem RpA.reverse {K : Ck} {F : Hp} {vs : List V} {ds : List PyData} (h : RpA K F vs ds) : RpA K F vs.reverse ds.reverse := by
  induction vs generalizing ds with
  | nil => cases h; exact .nil
  | cons v vs ih =>
    cases h with
    | cons r t => simpa using (ih t).append (.cons r .nil)
theorem RpA.nil_iff {K : Ck} {F : Hp} {vs : List V} {ds : List PyData} (h : RpA K F vs ds) : vs = [] ↔ ds = [] := by
  cases h <;> simp

/-- data without objects: they stand in any heap -/
def scal : PyData → Bool
  | .none => true
  | .bool _ => true
  | .int _ => true
  | .str _ => true
  | _ => false
theorem Rp.scal {K : Ck} {F F' : Hp} {v : V} {d : PyData} (h : Rp K F v d) (s : scal d = true) : Rp K F' v d := by
  cases h with
  | non => exact .non
  | bl b => exact .bl b
  | int i => exact .int i
  | str x => exact .str x
  | lst _ _ => cases s
  | tup _ _ _ => cases s
  | dK _ _ => cases s
  | dT _ _ _ => cases s
  | obj _ _ _ _ => cases s
theorem RpA.scal {K : Ck} {F F' : Hp} : ∀ {vs : List V} {ds : List PyData}, RpA K F vs ds → ds.all Fx.scal = true → RpA K F' vs ds
  | _, _, .nil, _ => .nil
  | _, _, .cons r t, s => by
    simp at s
    exact .cons (r.scal s.1) (RpA.scal t (by simpa using s.2))

/-- what is frozen stands in the heap (a dict may be locked) -/
def Sub (F H : Hp) : Prop := ∀ a o, F a = some o → H a = some o
theorem Sub.le {F H : Hp} (s : Sub F H) : Le F H := s

/-! ### what may change besides: the state of the law, and its gas -/
/-- where the law's state stands, and how many draws there may still be -/
structure Gs where
  q : Option (Addr × Addr × Addr)
  ls : List Int := []
  cs : List Int := []
  rest : Int := 0
  turn : Int := 0
structure Sta where
  M : Addr → Prop
  J : Gs → Hp → Prop
  ok : ∀ g H H', J g H → (∀ a, M a → H' a = H a) → J g H'
  there : ∀ g H a, J g H → M a → H a ≠ none
/-- the law's state: a dict, the large numbers left, the cells -/
structure LawAt (d l c : Addr) (ls cs : List Int) (rest turn : Int) (H : Hp) : Prop where
  dl : d ≠ l
  dc : d ≠ c
  lc : l ≠ c
  hd : H d = some (.dK [(.inr "large", .ref l), (.inr "cells", .ref c), (.inr "rest", .int rest), (.inr "turn", .int turn)])
  hl : H l = some (.lst (ls.map V.int))
  hc : H c = some (.lst (cs.map V.int))
def staOf : Option (Addr × Addr × Addr) → Sta
  | .none => ⟨fun _ => False, fun g _ => g.q = .none, fun _ _ _ h _ => h, fun _ _ _ _ h => h.elim⟩
  | some (d, l, c) => ⟨fun a => a = d ∨ a = l ∨ a = c, fun g H => g.q = some (d, l, c) ∧ LawAt d l c g.ls g.cs g.rest g.turn H, fun g H H' h k =>
      ⟨h.1, ⟨h.2.dl, h.2.dc, h.2.lc, by rw [k d (.inl rfl)]; exact h.2.hd, by rw [k l (.inr (.inl rfl))]; exact h.2.hl, by rw [k c (.inr (.inr rfl))]; exact h.2.hc⟩⟩, fun g H a h m => by
      obtain ⟨h0, L⟩ := h
      rcases m with rfl | rfl | rfl
      · rw [L.hd]; exact fun z => by cases z
      · rw [L.hl]; exact fun z => by cases z
      · rw [L.hc]; exact fun z => by cases z⟩
/-- from one moment to the next, while an expression is looked at -/
structure Ext (S : Sta) (F H F' H' : Hp) : Prop where
  keep : ∀ a o, H a = some o → ¬ S.M a → H' a = some o
  grow : ∀ a, H a ≠ Option.none → F' a = F a
  le : Le F F'
  sub : Sub F' H'
theorem Ext.refl {S : Sta} {F H : Hp} (s : Sub F H) : Ext S F H F H := ⟨fun _ _ h _ => h, fun _ _ => rfl, Le.refl F, s⟩
theorem Ext.trans {S : Sta} {g1 : Gs} {F H F1 H1 F2 H2 : Hp} (a : Ext S F H F1 H1) (b : Ext S F1 H1 F2 H2) (j : S.J g1 H1) : Ext S F H F2 H2 where
  keep := fun x o h m => b.keep x o (a.keep x o h m) m
  grow := fun x h => by
    have : H1 x ≠ Option.none := by
      by_cases m : S.M x
      · exact S.there _ _ _ j m
      · cases e : H x with
        | none => exact absurd e h
        | some o => rw [a.keep x o e m]; exact fun z => by cases z
    rw [b.grow x this, a.grow x h]
  le := a.le.trans b.le
  sub := b.sub
theorem Ext.there {S : Sta} {g1 : Gs} {F H F1 H1 : Hp} (a : Ext S F H F1 H1) (j : S.J g1 H1) {x : Addr} (h : H x ≠ Option.none) : H1 x ≠ Option.none := by
  by_cases m : S.M x
  · exact S.there _ _ _ j m
  · cases e : H x with
    | none => exact absurd e h
    | some o => rw [a.keep x o e m]; exact fun z => by cases z
theorem Ext.free {S : Sta} {g1 : Gs} {F H F1 H1 : Hp} (a : Ext S F H F1 H1) (j : S.J g1 H1) {x : Addr} (h : H1 x = Option.none) : H x = Option.none := by
  cases e : H x with
  | none => rfl
  | some o => exact absurd h (a.there j (by rw [e]; exact fun z => by cases z))
theorem Sub.free {F H : Hp} (s : Sub F H) {a : Addr} (h : H a = none) : F a = none := by
  cases e : F a with
  | none => rfl
  | some o => rw [s _ _ e] at h; cases h
/-- a new object, frozen at once | left out of the frozen ones -/
theorem Ext.new {S : Sta} {F H : Hp} {p : Addr} {o : HO} (s : Sub F H) (h : H p = none) : Ext S F H (upd F p o) (upd H p o) where
  keep := fun x u e _ => by rw [upd_ne (ne_of_none e h)]; exact e
  grow := fun x e => by rw [upd_ne (fun z => e (by rw [z]; exact h))]
  le := fun x u e => by rw [upd_ne (ne_of_none (s _ _ e) h)]; exact e
  sub := fun x u e => by
    by_cases z : x = p
    · subst z; rw [upd_same] at e ⊢; exact e
    · rw [upd_ne z] at e ⊢; exact s _ _ e
theorem Ext.own {S : Sta} {F H : Hp} {p : Addr} {o : HO} (s : Sub F H) (h : H p = none) : Ext S F H F (upd H p o) where
  keep := fun x u e _ => by rw [upd_ne (ne_of_none e h)]; exact e
  grow := fun x e => rfl
  le := Le.refl F
  sub := fun x u e => by rw [upd_ne (ne_of_none (s _ _ e) h)]; exact s _ _ e
theorem J.new {S : Sta} {g : Gs} {H : Hp} {p : Addr} {o : HO} (j : S.J g H) (h : H p = none) : S.J g (upd H p o) :=
  S.ok g H _ j fun a m => upd_ne fun z => S.there _ _ _ j m (by rw [z]; exact h)

/-! ### values of expressions -/
/-- data that stand still; a new list, a new dict of whom nobody else knows; a value as it is -/
inductive RV where
  | d (x : PyData)
  | nl (xs : List PyData)
  | nd (t : Bool) (kvs : List (PyData × PyData))
  | o (v : V)
/-- what a def is handed -/
inductive AV where
  | d (x : PyData)
  | o (v : V)

def RepAV (K : Ck) (F : Hp) (v : V) : AV → Prop
  | .d x => Rp K F v x
  | .o u => v = u
def RepAVs (K : Ck) (F : Hp) : List V → List AV → Prop
  | [], [] => True
  | v :: vs, a :: as => RepAV K F v a ∧ RepAVs K F vs as
  | _, _ => False
theorem RepAV.mono {K : Ck} {F F' : Hp} (e : Le F F') {v : V} {a : AV} (h : RepAV K F v a) : RepAV K F' v a := by
  cases a with
  | d x => exact Rp.mono e h
  | o u => exact h
theorem RepAVs.mono {K : Ck} {F F' : Hp} (e : Le F F') : ∀ {vs : List V} {as : List AV}, RepAVs K F vs as → RepAVs K F' vs as
  | [], [], _ => trivial
  | _ :: _, _ :: _, h => ⟨h.1.mono e, RepAVs.mono e h.2⟩
  | [], _ :: _, h => h.elim
  | _ :: _, [], h => h.elim
theorem RepAVs.length {K : Ck} {F : Hp} : ∀ {vs : List V} {as : List AV}, RepAVs K F vs as → vs.length = as.length
  | [], [], _ => rfl
  | _ :: _, _ :: _, h => by simp [RepAVs.length h.2]
  | [], _ :: _, h => h.elim
  | _ :: _, [], h => h.elim

/-- entries of a dict -/
inductive Ent where
  | k (kvs : List (Key × V))
  | t (kvs : List (List Key × V))
def Ent.ho : Ent → HO
  | .k kvs => .dK kvs
  | .t kvs => .dT kvs
def Ent.isT : Ent → Bool
  | .k _ => false
  | .t _ => true
def RpE (K : Ck) (F : Hp) : Ent → List (PyData × PyData) → Prop
  | .k kvs, ds => RpK K F kvs ds
  | .t kvs, ds => RpT K F kvs ds
theorem RpE.mono {K : Ck} {F F' : Hp} (e : Le F F') {n : Ent} {ds : List (PyData × PyData)} (h : RpE K F n ds) : RpE K F' n ds := by
  cases n with
  | k kvs => exact RpK.mono e h
  | t kvs => exact RpT.mono e h
theorem RpE.rp {K : Ck} {F : Hp} {n : Ent} {ds : List (PyData × PyData)} {a : Addr} (h : RpE K F n ds) (e : F a = some n.ho) (q : n.isT = false ∨ ds ≠ []) : Rp K F (.ref a) (.dict ds) := by
  cases n with
  | k kvs => exact .dK e h
  | t kvs => exact .dT e h (q.resolve_left (fun z => by cases z))

/-- H0: the heap ahead; F, H: behind -/
def RepRV (K : Ck) (S : Sta) (H0 F H : Hp) (v : V) : RV → Prop
  | .d x => Rp K F v x
  | .nl xs => ∃ a vs, v = .ref a ∧ H0 a = none ∧ ¬ S.M a ∧ F a = none ∧ H a = some (.lst vs) ∧ RpA K F vs xs
  | .nd t ks => ∃ a n, v = .ref a ∧ H0 a = none ∧ ¬ S.M a ∧ F a = none ∧ H a = some n.ho ∧ n.isT = t ∧ RpE K F n ks
  | .o u => v = u

/-- as an argument -/
def RV.av : RV → AV
  | .d x => .d x
  | .nl xs => .d (.list xs)
  | .nd _ ks => .d (.dict ks)
  | .o v => .o v
/-- it may be frozen -/
def RV.ok : RV → Prop
  | .nd t ks => t = false ∨ ks ≠ []
  | _ => True
/-- a value is frozen -/
theorem RepRV.freeze {K : Ck} {S : Sta} {g : Gs} {H0 F H : Hp} {v : V} {r : RV} (s : Sub F H) (j : S.J g H) (h : RepRV K S H0 F H v r) (h0 : ∀ a, H0 a ≠ none → H a ≠ none) (ok : r.ok) : ∃ F', Le F F' ∧ Sub F' H ∧ (∀ a, H0 a ≠ none → F' a = F a) ∧ (∀ a, S.M a → F' a = F a) ∧ RepAV K F' v r.av := by
  cases r with
  | d x => exact ⟨F, Le.refl F, s, fun _ _ => rfl, fun _ _ => rfl, h⟩
  | o u => exact ⟨F, Le.refl F, s, fun _ _ => rfl, fun _ _ => rfl, h⟩
  | nl xs =>
    obtain ⟨a, vs, rfl, h1, hm, h2, h3, h4⟩ := h
    have le : Le F (upd F a (.lst vs)) := fun x u e => by rw [upd_ne (ne_of_none e h2)]; exact e
    refine ⟨upd F a (.lst vs), le, fun x u e => ?_, fun x hx => upd_ne fun z => hx (by rw [z]; exact h1), fun x hx => upd_ne fun z => hm (z ▸ hx), ?_⟩
    · by_cases z : x = a
      · subst z; rw [upd_same] at e; rw [h3]; exact e
      · rw [upd_ne z] at e; exact s _ _ e
    · exact Rp.lst (.inl (.inl upd_same)) (h4.mono le)
  | nd t ks =>
    obtain ⟨a, n, rfl, h1, hm, h2, h3, rfl, h4⟩ := h
    have le : Le F (upd F a n.ho) := fun x u e => by rw [upd_ne (ne_of_none e h2)]; exact e
    refine ⟨upd F a n.ho, le, fun x u e => ?_, fun x hx => upd_ne fun z => hx (by rw [z]; exact h1), fun x hx => upd_ne fun z => hm (z ▸ hx), ?_⟩
    · by_cases z : x = a
      · subst z; rw [upd_same] at e; rw [h3]; exact e
      · rw [upd_ne z] at e; exact s _ _ e
    · exact (h4.mono le).rp upd_same ok
end Fx

namespace Fx
open PySem L2

/-! ### what comes out -/
inductive R (α : Type) where
  | ok (a : α) (g : Gs)
  | exc (x : PyData) (g : Gs)
  | bad
def R.bind {α β : Type} (m : R α) (k : α → Gs → R β) : R β := match m with
  | .ok a g => k a g
  | .exc x g => .exc x g
  | .bad => .bad
@[simp] theorem R.bind_ok {α β : Type} (a : α) (g : Gs) (k : α → Gs → R β) : (R.ok a g).bind k = k a g := rfl
@[simp] theorem R.bind_exc {α β : Type} (x : PyData) (g : Gs) (k : α → Gs → R β) : (R.exc x g : R α).bind k = .exc x g := rfl
@[simp] theorem R.bind_bad {α β : Type} (k : α → Gs → R β) : (R.bad : R α).bind k = .bad := rfl
def R.wp {α : Type} (m : R α) (P : α → Gs → Prop) (X : PyData → Gs → Prop) : Prop := match m with
  | .ok a g => P a g
  | .exc x g => X x g
  | .bad => False
theorem R.wp_bind {α β : Type} {m : R α} {k : α → Gs → R β} {P : β → Gs → Prop} {X : PyData → Gs → Prop} : (m.bind k).wp P X ↔ m.wp (fun a g => (k a g).wp P X) X := by
  cases m <;> exact Iff.rfl
theorem R.wp_imp {α : Type} {m : R α} {P P' : α → Gs → Prop} {X X' : PyData → Gs → Prop} (h : m.wp P X) (hp : ∀ a g, P a g → P' a g) (hx : ∀ x g, X x g → X' x g) : m.wp P' X' := by
  cases m
  · exact hp _ _ h
  · exact hx _ _ h
  · exact h
theorem R.wp_self {α : Type} {m : R α} {P : α → Gs → Prop} {X : PyData → Gs → Prop} (h : m.wp P X) : m.wp (fun a g => P a g ∧ m = .ok a g) X := by
  cases m
  · exact ⟨h, rfl⟩
  · exact h
  · exact h
def R.ofO {α : Type} (o : Option α) (g : Gs) : R α := match o with
  | some a => .ok a g
  | none => .bad
@[simp] theorem R.ofO_some {α : Type} (a : α) (g : Gs) : R.ofO (some a) g = .ok a g := rfl
@[simp] theorem R.ofO_none {α : Type} (g : Gs) : (R.ofO none g : R α) = .bad := rfl
theorem R.wp_ofO {α : Type} {o : Option α} {g : Gs} {P : α → Gs → Prop} {X : PyData → Gs → Prop} (h : (R.ofO o g).wp P X) : ∃ a, o = some a ∧ P a g := by
  cases o with
  | none => exact h.elim
  | some a => exact ⟨a, rfl, h⟩

/-! ### slots -/
inductive SD where
  | u
  | d (x : PyData)
  | o (v : V)
  | own (xs : List PyData)
  | dic (t : Bool) (ks : List (PyData × PyData))
  | ins (nm : Str) (fs : List (Str × PyData))
def SD.owner : SD → Bool
  | .own _ => true
  | .dic _ _ => true
  | .ins _ _ => true
  | _ => false
/-- what an owned slot's object holds -/
def OwnAt (K : Ck) (F H : Hp) (a : Addr) : SD → Prop
  | .own xs => ∃ vs, H a = some (.lst vs) ∧ RpA K F vs xs
  | .dic t ks => ∃ n : Ent, H a = some n.ho ∧ n.isT = t ∧ RpE K F n ks
  | .ins nm fs => ∃ C dx vs, H a = some (.ins C dx vs) ∧ K.mg nm = some (.ref C) ∧ isCls nm = true ∧ RpF K F vs fs
  | _ => False
def SlotOk (K : Ck) (S : Sta) (B F H : Hp) : SD → Option V → Prop
  | .u, _ => True
  | .d x, s => ∃ v, s = some v ∧ Rp K F v x
  | .o v, s => s = some v
  | s, v => ∃ a, v = some (.ref a) ∧ B a = none ∧ ¬ S.M a ∧ F a = none ∧ OwnAt K F H a s
section
variable {K : Ck} {S : Sta} {B F0 F H F' H' : Hp} {ρ : List SD} {σ : St} {g g' : Gs}
theorem OwnAt.there {a : Addr} {s : SD} (h : OwnAt K F H a s) : ∃ o, H a = some o := by
  cases s with
  | own xs => obtain ⟨vs, h1, _⟩ := h; exact ⟨_, h1⟩
  | dic t ks => obtain ⟨n, h1, _⟩ := h; exact ⟨_, h1⟩
  | ins nm fs => obtain ⟨C, dx, vs, h1, _⟩ := h; exact ⟨_, h1⟩
  | u => exact h.elim
  | d x => exact h.elim
  | o v => exact h.elim
theorem OwnAt.to {a : Addr} {s : SD} (h : OwnAt K F H a s) (le : Le F F') (k : H' a = H a) : OwnAt K F' H' a s := by
  cases s with
  | own xs => obtain ⟨vs, h1, h2⟩ := h; exact ⟨vs, k.trans h1, h2.mono le⟩
  | dic t ks => obtain ⟨n, h1, h2, h3⟩ := h; exact ⟨n, k.trans h1, h2, h3.mono le⟩
  | ins nm fs => obtain ⟨C, dx, vs, h1, h2, hi, h3⟩ := h; exact ⟨C, dx, vs, k.trans h1, h2, hi, RpF.mono le h3⟩
  | u => exact h.elim
  | d x => exact h.elim
  | o v => exact h.elim
theorem SlotOk.at {s : SD} {v : Option V} (h : SlotOk K S B F H s v) (o : s.owner = true) : ∃ a, v = some (.ref a) ∧ B a = none ∧ ¬ S.M a ∧ F a = none ∧ OwnAt K F H a s := by
  cases s with
  | own xs => exact h
  | dic t ks => exact h
  | ins nm fs => exact h
  | u => cases o
  | d x => cases o
  | o v => cases o
theorem SlotOk.of {s : SD} {a : Addr} (o : s.owner = true) (h1 : B a = none) (h2 : ¬ S.M a) (h3 : F a = none) (h4 : OwnAt K F H a s) : SlotOk K S B F H s (some (.ref a)) := by
  cases s with
  | own xs => exact ⟨a, rfl, h1, h2, h3, h4⟩
  | dic t ks => exact ⟨a, rfl, h1, h2, h3, h4⟩
  | ins nm fs => exact ⟨a, rfl, h1, h2, h3, h4⟩
  | u => cases o
  | d x => cases o
  | o v => cases o
/-- a slot stays as it is where the objects it leans on do -/
theorem SlotOk.to {s : SD} {v : Option V} (h : SlotOk K S B F H s v) (le : Le F F') (k : ∀ a, v = some (.ref a) → s.owner = true → F' a = F a ∧ H' a = H a) : SlotOk K S B F' H' s v := by
  cases e : s.owner with
  | true =>
    obtain ⟨a, rfl, h1, h2, h3, h4⟩ := h.at e
    obtain ⟨k1, k2⟩ := k a rfl e
    exact .of e h1 h2 (k1.trans h3) (h4.to le k2)
  | false =>
    cases s with
    | u => trivial
    | d x => obtain ⟨w, h1, h2⟩ := h; exact ⟨w, h1, h2.mono le⟩
    | o w => exact h
    | own xs => cases e
    | dic t ks => cases e
    | ins nm fs => cases e
structure EnvOk (K : Ck) (S : Sta) (B F0 F H : Hp) (ρ : List SD) (σ : St) (g : Gs) : Prop where
  st : ∃ q, S = staOf q
  sub : Sub F H
  mono : Le F0 F
  fz : ∀ a, B a ≠ none → F a = F0 a
  keep : ∀ a o, B a = some o → ¬ S.M a → H a = some o
  mF : ∀ a, S.M a → F a = none
  j : S.J g H
  len : σ.length = ρ.length
  sl : ∀ (i : Nat) s, ρ[i]? = some s → ∃ v, σ[i]? = some v ∧ SlotOk K S B F H s v
  dist : ∀ (i k : Nat) s t, ρ[i]? = some s → ρ[k]? = some t → s.owner = true → t.owner = true → σ[i]? = σ[k]? → i = k
theorem SlotOk.ext {s : SD} {v : Option V} (h : SlotOk K S B F H s v) (e : Ext S F H F' H') : SlotOk K S B F' H' s v := by
  refine h.to e.le fun a hv ho => ?_
  obtain ⟨b, hb, _, h2, _, h4⟩ := h.at ho
  rw [hv] at hb
  cases hb
  obtain ⟨o, ho⟩ := h4.there
  exact ⟨e.grow a (by rw [ho]; exact fun z => by cases z), by rw [ho]; exact e.keep a o ho h2⟩
theorem EnvOk.ext (E : EnvOk K S B F0 F H ρ σ g) (e : Ext S F H F' H') (j : S.J g' H') : EnvOk K S B F0 F' H' ρ σ g' where
  sub := e.sub
  mono := E.mono.trans e.le
  fz := fun a h => by
    have : H a ≠ none := by
      by_cases m : S.M a
      · exact S.there _ _ _ E.j m
      · cases q : B a with
        | none => exact absurd q h
        | some o => rw [E.keep a o q m]; exact fun z => by cases z
    rw [e.grow a this, E.fz a h]
  keep := fun a o h m => e.keep a o (E.keep a o h m) m
  mF := fun a m => (e.grow a (S.there _ _ _ E.j m)).trans (E.mF a m)
  j := j
  len := E.len
  sl := fun i s h => let ⟨v, h1, h2⟩ := E.sl i s h; ⟨v, h1, h2.ext e⟩
  dist := E.dist
  st := E.st
theorem EnvOk.rebase (E : EnvOk K S B F0 F H ρ σ g) : EnvOk K S B F F H ρ σ g :=
  ⟨E.st, E.sub, Le.refl F, fun _ _ => rfl, E.keep, E.mF, E.j, E.len, E.sl, E.dist⟩
theorem EnvOk.unbase {F1 : Hp} (E0 : EnvOk K S B F0 F1 H' ρ σ g') {ρ' : List SD} {σ' : St} (E : EnvOk K S B F1 F H ρ' σ' g) : EnvOk K S B F0 F H ρ' σ' g :=
  ⟨E.st, E.sub, E0.mono.trans E.mono, fun a h => (E.fz a h).trans (E0.fz a h), E.keep, E.mF, E.j, E.len, E.sl, E.dist⟩
theorem EnvOk.there (E : EnvOk K S B F0 F H ρ σ g) {a : Addr} (h : B a ≠ none) : H a ≠ none := by
  by_cases m : S.M a
  · exact S.there _ _ _ E.j m
  · cases q : B a with
    | none => exact absurd q h
    | some o => rw [E.keep a o q m]; exact fun z => by cases z
theorem EnvOk.free (E : EnvOk K S B F0 F H ρ σ g) {a : Addr} (h : H a = none) : B a = none := by
  cases q : B a with
  | none => rfl
  | some o => exact absurd h (E.there (by rw [q]; exact fun z => by cases z))
theorem EnvOk.ownH (E : EnvOk K S B F0 F H ρ σ g) {i : Nat} {s : SD} {a : Addr} (h : ρ[i]? = some s) (o : s.owner = true) (e : σ[i]? = some (some (.ref a))) : H a ≠ none := by
  obtain ⟨v, hv, q⟩ := E.sl i s h
  obtain ⟨b, rfl, _, _, _, h4⟩ := q.at o
  rw [hv] at e
  cases e
  obtain ⟨u, hu⟩ := h4.there
  rw [hu]; exact fun z => by cases z
theorem set_get {α : Type} {l : List α} {i k : Nat} {x t : α} (h : (l.set i x)[k]? = some t) : (k = i ∧ i < l.length ∧ t = x) ∨ (k ≠ i ∧ l[k]? = some t) := by
  by_cases e : k = i
  · subst e
    by_cases hl : k < l.length
    · rw [List.getElem?_set_self hl] at h
      cases h
      exact .inl ⟨rfl, hl, rfl⟩
    · rw [List.getElem?_eq_none (by simpa using hl)] at h; cases h
  · rw [List.getElem?_set_ne (Ne.symm e)] at h
    exact .inr ⟨e, h⟩
/-- a slot is set -/
theorem EnvOk.set (E : EnvOk K S B F0 F H ρ σ g) {i : Nat} {s : SD} {v : V} (h : SlotOk K S B F H s (some v)) (hd : s.owner = true → ∀ (k : Nat) (t : SD), ρ[k]? = some t → t.owner = true → σ[k]? ≠ some (some v)) : EnvOk K S B F0 F H (ρ.set i s) (σ.set i (some v)) g where
  sub := E.sub
  mono := E.mono
  fz := E.fz
  keep := E.keep
  mF := E.mF
  j := E.j
  len := by simp [E.len]
  sl := fun k t hk => by
    rcases set_get hk with ⟨rfl, hl, rfl⟩ | ⟨e, hk⟩
    · exact ⟨_, List.getElem?_set_self (by rw [E.len]; exact hl), h⟩
    · obtain ⟨w, h1, h2⟩ := E.sl k t hk
      exact ⟨w, by rw [List.getElem?_set_ne (Ne.symm e)]; exact h1, h2⟩
  st := E.st
  dist := fun k l s1 s2 h1 h2 o1 o2 q => by
    rcases set_get h1 with ⟨k1, hl1, r1⟩ | ⟨e1, u1⟩ <;> rcases set_get h2 with ⟨k2, hl2, r2⟩ | ⟨e2, u2⟩
    · exact k1.trans k2.symm
    · rw [k1, List.getElem?_set_self (by rw [E.len]; exact hl1), List.getElem?_set_ne (Ne.symm e2)] at q
      exact absurd q.symm (hd (r1 ▸ o1) l s2 u2 o2)
    · rw [k2, List.getElem?_set_self (by rw [E.len]; exact hl2), List.getElem?_set_ne (Ne.symm e1)] at q
      exact absurd q (hd (r2 ▸ o2) k s1 u1 o1)
    · rw [List.getElem?_set_ne (Ne.symm e1), List.getElem?_set_ne (Ne.symm e2)] at q
      exact E.dist k l s1 s2 u1 u2 o1 o2 q
end

/-- a slot from a value -/
def sdRV : RV → SD
  | .d x => .d x
  | .o v => .o v
  | .nl xs => .own xs
  | .nd t ks => .dic t ks
/-- as data: a new list is frozen -/
def asDR (r : RV) (g : Gs) : R PyData := match r with
  | .d x => .ok x g
  | .nl xs => .ok (.list xs) g
  | .nd t ks => if t = false ∨ ks ≠ [] then .ok (.dict ks) g else .bad
  | .o _ => .bad
/-- as an argument -/
def asAR (r : RV) (g : Gs) : R AV := match r with
  | .d x => .ok (.d x) g
  | .nl xs => .ok (.d (.list xs)) g
  | .nd t ks => if t = false ∨ ks ≠ [] then .ok (.d (.dict ks)) g else .bad
  | .o v => .ok (.o v) g
@[simp] theorem asDR_d (x : PyData) (g : Gs) : asDR (.d x) g = .ok x g := rfl
@[simp] theorem asDR_nl (x : List PyData) (g : Gs) : asDR (.nl x) g = .ok (.list x) g := rfl
@[simp] theorem asAR_d (x : PyData) (g : Gs) : asAR (.d x) g = .ok (.d x) g := rfl
@[simp] theorem asAR_nl (x : List PyData) (g : Gs) : asAR (.nl x) g = .ok (.d (.list x)) g := rfl
@[simp] theorem asAR_o (v : V) (g : Gs) : asAR (.o v) g = .ok (.o v) g := rfl
@[simp] theorem asDR_nd (ks : List (PyData × PyData)) (g : Gs) : asDR (.nd false ks) g = .ok (.dict ks) g := rfl
@[simp] theorem asAR_nd (ks : List (PyData × PyData)) (g : Gs) : asAR (.nd false ks) g = .ok (.d (.dict ks)) g := rfl

/-! ### readings and what they come to -/
abbrev EF := List SD → Gs → R RV
abbrev EFt := List SD → Gs → R Bool
abbrev EFa := List SD → Gs → R (List AV)
abbrev EFi := List SD → Gs → R (List PyData)
abbrev EFg := PyData → List SD → Option (List SD)
inductive Out where
  | nx (ρ : List SD)
  | rt (r : RV)
  | bk (ρ : List SD)
  | ct (ρ : List SD)
  | ex (x : PyData) (ρ : List SD)
abbrev EFs := List SD → Gs → R Out

/-- an exception, as data -/
inductive ExcRep (K : Ck) (S : Sta) (H0 F H : Hp) : Value → Option Addr → PyData → Prop
  | plain {C : Addr} {nm : Str} : K.mg nm = some (.ref C) → ExcRep K S H0 F H (.ref C) none (objD nm [])
  | att {C dx : Addr} {nm n : Str} {v : V} {y : PyData} : K.mg nm = some (.ref C) → H0 dx = none → ¬ S.M dx → F dx = none → H dx = some (.xd [(n, v)]) → Rp K F v y → ExcRep K S H0 F H (.ref C) (some dx) (objD nm [(n, y)])
theorem ExcRep.wide {K : Ck} {S : Sta} {H0 H1 F H : Hp} {cls : Value} {d : Option Addr} {x : PyData} (h : ExcRep K S H1 F H cls d x) (k : ∀ a, H1 a = none → H0 a = none) : ExcRep K S H0 F H cls d x := by
  cases h with
  | plain h => exact .plain h
  | att h1 h2 h3 h4 h5 h6 => exact .att h1 (k _ h2) h3 h4 h5 h6

def Sm (K : Ck) (W : WX) (t : TE) (f : EF) : Prop := ∀ (S : Sta) (B F0 F H : Hp) (ρ : List SD) (σ : St) (g : Gs) (Pd : RV → Gs → Prop) (Xd : PyData → Gs → Prop) (Q : VK), EnvOk K S B F0 F H ρ σ g → (f ρ g).wp Pd Xd →
  (∀ r g' v F' H', Pd r g' → Ext S F H F' H' → S.J g' H' → RepRV K S H F' H' v r → Q v H') →
  (∀ x g' cls d F' H', Xd x g' → Ext S F H F' H' → S.J g' H' → ExcRep K S H F' H' cls d x → W cls d σ H') → t σ H Q
def SmT (K : Ck) (W : WX) (t : TT) (f : EFt) : Prop := ∀ (S : Sta) (B F0 F H : Hp) (ρ : List SD) (σ : St) (g : Gs) (Pd : Bool → Gs → Prop) (Xd : PyData → Gs → Prop) (Q : Bool → Hp → Prop), EnvOk K S B F0 F H ρ σ g → (f ρ g).wp Pd Xd →
  (∀ b g' F' H', Pd b g' → Ext S F H F' H' → S.J g' H' → Q b H') →
  (∀ x g' cls d F' H', Xd x g' → Ext S F H F' H' → S.J g' H' → ExcRep K S H F' H' cls d x → W cls d σ H') → t σ H Q
def SmA (K : Ck) (W : WX) (t : TA) (f : EFa) : Prop := ∀ (S : Sta) (B F0 F H : Hp) (ρ : List SD) (σ : St) (g : Gs) (Pd : List AV → Gs → Prop) (Xd : PyData → Gs → Prop) (Q : List V → Hp → Prop), EnvOk K S B F0 F H ρ σ g → (f ρ g).wp Pd Xd →
  (∀ as g' vs F' H', Pd as g' → Ext S F H F' H' → S.J g' H' → RepAVs K F' vs as → Q vs H') →
  (∀ x g' cls d F' H', Xd x g' → Ext S F H F' H' → S.J g' H' → ExcRep K S H F' H' cls d x → W cls d σ H') → t σ H Q
/-- an item that is parted at once may be any tuple -/
def RpW (w : Bool) (K : Ck) (F : Hp) (v : V) (d : PyData) : Prop := Rp K F v d ∨ (w = true ∧ ∃ a vs ds, v = .ref a ∧ d = .tuple ds ∧ SqT K F a vs ∧ RpA K F vs ds)
/-- what is walked gives the items ds -/
def ItOk (w : Bool) (K : Ck) (S : Sta) (F : Hp) (J : It) (ds : List PyData) : Prop := ∀ F' H', Le F F' → Sub F' H' →
  (∀ (i : Nat) d, ds[i]? = some d → J.go i H' ∧ ∀ x H'', J.yld i H' x H'' → ∃ F'', Ext S F' H' F'' H'' ∧ (∀ g, S.J g H' → S.J g H'') ∧ RpW w K F'' x d) ∧ J.stop ds.length H'
def SmI (w : Bool) (K : Ck) (W : WX) (t : TI) (f : EFi) : Prop := ∀ (S : Sta) (B F0 F H : Hp) (ρ : List SD) (σ : St) (g : Gs) (Pd : List PyData → Gs → Prop) (Xd : PyData → Gs → Prop) (Rr : It → Hp → Prop), EnvOk K S B F0 F H ρ σ g → (f ρ g).wp Pd Xd →
  (∀ ds g' F' H' J, Pd ds g' → Ext S F H F' H' → S.J g' H' → ItOk w K S F' J ds → Rr J H') →
  (∀ x g' cls d F' H', Xd x g' → Ext S F H F' H' → S.J g' H' → ExcRep K S H F' H' cls d x → W cls d σ H') → t σ H Rr
def SmG (w : Bool) (K : Ck) (t : TG) (is : List Nat) (f : EFg) : Prop := ∀ (S : Sta) (B F0 F H : Hp) (ρ : List SD) (σ : St) (g : Gs) (v : V) (d : PyData) (ρ1 : List SD) (Q : St → Hp → Prop), EnvOk K S B F0 F H ρ σ g → RpW w K F v d → f d ρ = some ρ1 →
  (∀ σ', EnvOk K S B F0 F H ρ1 σ' g → (∀ vs : List Nat, (∀ i ∈ is, i ∈ vs) → wipe σ' vs = wipe σ vs) → (∀ (i : Nat) s, ρ1[i]? = some s → s.owner = true → ρ[i]? = some s ∧ σ'[i]? = σ[i]?) → Q σ' H) → t v σ H Q
/-- what a def's end leaves -/
structure RetOk (K : Ck) (S : Sta) (B F0 F H : Hp) (v : V) (r : RV) (g : Gs) : Prop where
  sub : Sub F H
  mono : Le F0 F
  fz : ∀ a, B a ≠ none → F a = F0 a
  keep : ∀ a o, B a = some o → ¬ S.M a → H a = some o
  j : S.J g H
  rv : RepRV K S B F H v r
structure RetX (K : Ck) (S : Sta) (B F0 F H : Hp) (cls : Value) (d : Option Addr) (x : PyData) (g : Gs) : Prop where
  sub : Sub F H
  mono : Le F0 F
  fz : ∀ a, B a ≠ none → F a = F0 a
  keep : ∀ a o, B a = some o → ¬ S.M a → H a = some o
  j : S.J g H
  er : ExcRep K S B F H cls d x
/-- what is wanted behind a statement -/
def EndOk (K : Ck) (W : WX) (S : Sta) (B F0 : Hp) (D : Ends) (o : Out) (g : Gs) : Prop := match o with
  | .nx ρ => ∀ σ F H, EnvOk K S B F0 F H ρ σ g → D.nx σ H
  | .rt r => ∀ v F H, RetOk K S B F0 F H v r g → D.rt v H
  | .bk ρ => ∀ σ F H, EnvOk K S B F0 F H ρ σ g → D.bk σ H
  | .ct ρ => ∀ σ F H, EnvOk K S B F0 F H ρ σ g → D.ct σ H
  | .ex x ρ => ∀ σ F H cls d, EnvOk K S B F0 F H ρ σ g → ExcRep K S B F H cls d x → W cls d σ H
def NoX : PyData → Gs → Prop := fun _ _ => False
def SmS (K : Ck) (W : WX) (t : TS) (f : EFs) : Prop := ∀ (S : Sta) (B F0 F H : Hp) (ρ : List SD) (σ : St) (g : Gs) (D : Ends), EnvOk K S B F0 F H ρ σ g → (f ρ g).wp (EndOk K W S B F0 D) NoX → t D σ H

/-! ### freezing what came -/
section
variable {K : Ck} {S : Sta} {B F0 F H F' H' : Hp} {ρ : List SD} {σ : St} {g g' : Gs}
theorem Ext.frz {v : V} {r : RV} (e : Ext S F H F' H') (j : S.J g' H') (h : RepRV K S H F' H' v r) (ok : r.ok) : ∃ F2, Ext S F H F2 H' ∧ Le F' F2 ∧ RepAV K F2 v r.av := by
  obtain ⟨F2, a1, a2, a3, a4, a5⟩ := h.freeze e.sub j (fun a q => e.there j q) ok
  exact ⟨F2, ⟨e.keep, fun a q => (a3 a q).trans (e.grow a q), e.le.trans a1, a2⟩, a1, a5⟩
theorem asD_av {r : RV} {g : Gs} {P : PyData → Gs → Prop} {X : PyData → Gs → Prop} (h : (asDR r g).wp P X) : r.ok ∧ ∃ d, r.av = .d d ∧ P d g := by
  cases r with
  | d x => exact ⟨trivial, _, rfl, h⟩
  | nl xs => exact ⟨trivial, _, rfl, h⟩
  | nd t ks =>
    unfold asDR at h
    by_cases c : t = false ∨ ks ≠ []
    · simp only [if_pos c] at h; exact ⟨c, _, rfl, h⟩
    · simp only [if_neg c] at h; exact h.elim
  | o v => exact h.elim
theorem asA_av {r : RV} {g : Gs} {P : AV → Gs → Prop} {X : PyData → Gs → Prop} (h : (asAR r g).wp P X) : r.ok ∧ P r.av g := by
  cases r with
  | d x => exact ⟨trivial, h⟩
  | nl xs => exact ⟨trivial, h⟩
  | nd t ks =>
    unfold asAR at h
    by_cases c : t = false ∨ ks ≠ []
    · simp only [if_pos c] at h; exact ⟨c, h⟩
    · simp only [if_neg c] at h; exact h.elim
  | o v => exact ⟨trivial, h⟩
theorem RepRV.wide {v : V} {r : RV} {H0 H1 : Hp} (h : RepRV K S H1 F H v r) (k : ∀ a, H1 a = none → H0 a = none) : RepRV K S H0 F H v r := by
  cases r with
  | d x => exact h
  | o u => exact h
  | nl xs => obtain ⟨a, vs, h1, h2, h3⟩ := h; exact ⟨a, vs, h1, k a h2, h3⟩
  | nd t xs => obtain ⟨a, n, h1, h2, h3⟩ := h; exact ⟨a, n, h1, k a h2, h3⟩
end

/-! ### operations on values -/
abbrev GO2 := PyData → PyData → (RV → Prop) → Prop
abbrev GO1 := PyData → (RV → Prop) → Prop
abbrev GOA := List AV → (RV → Prop) → Prop
/-- what an operation may leave -/
def PostO (K : Ck) (S : Sta) (F H : Hp) (Qd : RV → Prop) (Q : VK) : Prop :=
  ∀ r v F' H', Qd r → Ext S F H F' H' → (∀ g, S.J g H → S.J g H') → RepRV K S H F' H' v r → Q v H'
/-- where an operation begins -/
structure Okh (S : Sta) (F H : Hp) : Prop where
  sub : Sub F H
  mt : ∀ a, S.M a → H a ≠ none
theorem EnvOk.okh {K : Ck} {S : Sta} {B F0 F H : Hp} {ρ : List SD} {σ : St} {g : Gs} (E : EnvOk K S B F0 F H ρ σ g) : Okh S F H := ⟨E.sub, fun a m => S.there _ _ _ E.j m⟩
def OpD (K : Ck) (r : R2) (go : GO2) : Prop := ∀ (S : Sta) (F H : Hp) (x y : V) (dx dy : PyData) (Qd : RV → Prop) (Q : VK), Okh S F H → Rp K F x dx → Rp K F y dy → go dx dy Qd → PostO K S F H Qd Q → r x y H Q
def Op1D (K : Ck) (r : V → Hp → VK → Prop) (go : GO1) : Prop := ∀ (S : Sta) (F H : Hp) (x : V) (dx : PyData) (Qd : RV → Prop) (Q : VK), Okh S F H → Rp K F x dx → go dx Qd → PostO K S F H Qd Q → r x H Q
def OpAD (K : Ck) (r : List V → Hp → VK → Prop) (go : GOA) : Prop := ∀ (S : Sta) (F H : Hp) (xs : List V) (as : List AV) (Qd : RV → Prop) (Q : VK), Okh S F H → RepAVs K F xs as → go as Qd → PostO K S F H Qd Q → r xs H Q
section
variable {K : Ck} {S : Sta} {F H : Hp} {Qd : RV → Prop} {Q : VK}
theorem PostO.d (p : PostO K S F H Qd Q) (s : Okh S F H) {v : V} {d : PyData} (h : Rp K F v d) (q : Qd (.d d)) : Q v H :=
  p _ _ F H q (Ext.refl s.sub) (fun _ j => j) h
/-- a new list -/
theorem PostO.nl (p : PostO K S F H Qd Q) (s : Okh S F H) {vs : List V} {ds : List PyData} (h : RpA K F vs ds) (q : Qd (.nl ds)) : ∀ a, H a = none → Q (.ref a) (upd H a (.lst vs)) := fun a ha =>
  p _ _ F (upd H a (.lst vs)) q (Ext.own s.sub ha) (fun _ j => J.new j ha) ⟨a, vs, rfl, ha, fun m => s.mt a m ha, s.sub.free ha, upd_same, h⟩
/-- a new tuple -/
theorem PostO.tupW (p : PostO K S F H Qd Q) (s : Okh S F H) {vs : List V} {ds : List PyData} (h : RpA K F vs ds) (hn : ds.any notT = true) (q : Qd (.d (.tuple ds))) : ∀ a, H a = none → Q (.ref a) (upd H a (.tup vs)) := fun a ha =>
  p _ _ (upd F a (.tup vs)) (upd H a (.tup vs)) q (Ext.new s.sub ha) (fun _ j => J.new j ha) (Rp.tup (.inl (.inl upd_same)) (.inl ⟨upd_same, hn⟩) (h.mono (Ext.new (S := S) (o := .tup vs) s.sub ha).le))
theorem PostO.tup (p : PostO K S F H Qd Q) (s : Okh S F H) {vs : List V} {ds : List PyData} (h : RpA K F vs ds) (q : Qd (.d (.tuple ds))) : ∀ a ob, H a = none → ob.dict = none → Q (.ref a) (upd H a (.frz ob (.tup vs))) := fun a ob ha hd =>
  p _ _ (upd F a (.frz ob (.tup vs))) (upd H a (.frz ob (.tup vs))) q (Ext.new s.sub ha) (fun _ j => J.new j ha) (Rp.tup (.inl (.inr ⟨ob, upd_same⟩)) (.inr ⟨ob, upd_same, hd⟩) (h.mono (Ext.new (S := S) (o := .frz ob (.tup vs)) s.sub ha).le))
end
end Fx

namespace Fx
open PySem L2

/-! ### names, constants -/
def rdSD (s : Option SD) (g : Gs) : R RV := match s with
  | some (.d x) => .ok (.d x) g
  | some (.o v) => .ok (.o v) g
  | _ => .bad
@[simp] theorem rdSD_d (x : PyData) (g : Gs) : rdSD (some (.d x)) g = .ok (.d x) g := rfl
@[simp] theorem rdSD_o (v : V) (g : Gs) : rdSD (some (.o v)) g = .ok (.o v) g := rfl
def fVar (i : Nat) : EF := fun ρ g => rdSD ρ[i]? g
def fC (x : PyData) : EF := fun _ g => .ok (.d x) g
def fO (v : V) : EF := fun _ g => .ok (.o v) g
section
variable {K : Ck} {W : WX}
theorem sm_var (i : Nat) : Sm K W (tVar i) (fVar i) := by
  intro S B F0 F H ρ σ g Pd Xd Q E h k kx
  unfold fVar at h
  cases e : ρ[i]? with
  | none => rw [e] at h; exact h.elim
  | some s =>
    rw [e] at h
    obtain ⟨v, h1, h2⟩ := E.sl i s e
    cases s with
    | d x =>
      obtain ⟨w, rfl, h3⟩ := h2
      exact ⟨w, h1, k _ _ _ _ _ h (Ext.refl E.sub) E.j h3⟩
    | o w =>
      cases h2
      exact ⟨w, h1, k _ _ _ _ _ h (Ext.refl E.sub) E.j rfl⟩
    | u => exact h.elim
    | own xs => exact h.elim
    | dic t ks => exact h.elim
    | ins nm fs => exact h.elim
theorem sm_c {v : V} {x : PyData} (r : ∀ F, Rp K F v x) : Sm K W (tC v) (fC x) := fun S B F0 F H ρ σ g Pd Xd Q E h k kx => k _ _ _ _ _ h (Ext.refl E.sub) E.j (r F)
theorem sm_int {i : Int} : Sm K W (tC (.int i)) (fC (.int i)) := sm_c fun _ => .int i
theorem sm_str {i : Str} : Sm K W (tC (.str i)) (fC (.str i)) := sm_c fun _ => .str i
theorem sm_bl {i : Bool} : Sm K W (tC (.bl i)) (fC (.bool i)) := sm_c fun _ => .bl i
theorem sm_non : Sm K W (tC .non) (fC .none) := sm_c fun _ => .non
theorem sm_o {v : V} : Sm K W (tC v) (fO v) := fun S B F0 F H ρ σ g Pd Xd Q E h k kx => k _ _ _ _ _ h (Ext.refl E.sub) E.j rfl
end

/-! ### operators -/
def fDat (f : EF) (ρ : List SD) (g : Gs) : R PyData := (f ρ g).bind asDR
abbrev O2 := PyData → PyData → Option RV
abbrev O1 := PyData → Option RV
abbrev OA := List AV → Option RV
def fOp (o : O2) (fa fb : EF) : EF := fun ρ g => (fDat fa ρ g).bind fun x g1 => (fDat fb ρ g1).bind fun y g2 => R.ofO (o x y) g2
def fUn (o : O1) (fa : EF) : EF := fun ρ g => (fDat fa ρ g).bind fun x g1 => R.ofO (o x) g1
/-- what an operation does with data -/
def OpF (K : Ck) (r : R2) (o : O2) : Prop := ∀ (S : Sta) (F H : Hp) (x y : V) (dx dy : PyData) (rv : RV) (Q : VK), Okh S F H → Rp K F x dx → Rp K F y dy → o dx dy = some rv → PostO K S F H (fun r => r = rv) Q → r x y H Q
def Op1F (K : Ck) (r : V → Hp → VK → Prop) (o : O1) : Prop := ∀ (S : Sta) (F H : Hp) (x : V) (dx : PyData) (rv : RV) (Q : VK), Okh S F H → Rp K F x dx → o dx = some rv → PostO K S F H (fun r => r = rv) Q → r x H Q
def OpAF (K : Ck) (r : List V → Hp → VK → Prop) (o : OA) : Prop := ∀ (S : Sta) (F H : Hp) (xs : List V) (as : List AV) (rv : RV) (Q : VK), Okh S F H → RepAVs K F xs as → o as = some rv → PostO K S F H (fun r => r = rv) Q → r xs H Q
section
variable {K : Ck} {W : WX} {S : Sta} {B F0 F H : Hp} {ρ : List SD} {σ : St} {g : Gs} {Xd : PyData → Gs → Prop}
/-- what is wanted of an exception, from here on -/
abbrev XOk (K : Ck) (W : WX) (S : Sta) (F H : Hp) (σ : St) (Xd : PyData → Gs → Prop) : Prop := ∀ x g' cls d F' H', Xd x g' → Ext S F H F' H' → S.J g' H' → ExcRep K S H F' H' cls d x → W cls d σ H'
theorem XOk.ext {F1 H1 : Hp} {g1 : Gs} (k : XOk K W S F H σ Xd) (e : Ext S F H F1 H1) (j : S.J g1 H1) : XOk K W S F1 H1 σ Xd := fun x g' cls d F' H' q e' j' er =>
  k x g' cls d F' H' q (e.trans e' j) j' (er.wide fun a ha => e.free j ha)
/-- an operand is looked at, as data -/
theorem Sm.dat {t : TE} {f : EF} (h : Sm K W t f) (E : EnvOk K S B F0 F H ρ σ g) {P : PyData → Gs → Prop} {Q : VK} (hf : (fDat f ρ g).wp P Xd) (kx : XOk K W S F H σ Xd)
    (go : ∀ x g' v F' H', P x g' → Ext S F H F' H' → EnvOk K S B F0 F' H' ρ σ g' → Rp K F' v x → Q v H') : t σ H Q := by
  refine h S B F0 F H ρ σ g _ Xd Q E (R.wp_bind.mp hf) (fun r g' v F' H' q e j rv => ?_) kx
  obtain ⟨ok, x, ex, px⟩ := asD_av q
  obtain ⟨F2, e2, l2, ra⟩ := e.frz j rv ok
  rw [ex] at ra
  exact go x g' v F2 H' px e2 (E.ext e2 j) ra
theorem sm_op {r : R2} {o : O2} {ta tb : TE} {fa fb : EF} (ho : OpF K r o) (ha : Sm K W ta fa) (hb : Sm K W tb fb) : Sm K W (tOp r ta tb) (fOp o fa fb) := by
  intro S B F0 F H ρ σ g Pd Xd Q E h k kx
  refine ha.dat E (R.wp_bind.mp h) kx fun x g1 vx F1 H1 h1 e1 E1 r1 => ?_
  refine hb.dat E1 (R.wp_bind.mp h1) (XOk.ext kx e1 E1.j) fun y g2 vy F2 H2 h2 e2 E2 r2 => ?_
  obtain ⟨rv, h3, h4⟩ := R.wp_ofO h2
  refine ho S F2 H2 vx vy x y rv Q E2.okh (r1.mono e2.le) r2 h3 fun r v F' H' q e j rv => ?_
  subst q
  exact k _ g2 v F' H' h4 ((e1.trans e2 E1.j).trans e E2.j) (j _ E2.j) (rv.wide fun a ha => (e1.trans e2 E1.j).free E2.j ha)
theorem sm_un {r : V → Hp → VK → Prop} {o : O1} {ta : TE} {fa : EF} (ho : Op1F K r o) (ha : Sm K W ta fa) : Sm K W (tUn r ta) (fUn o fa) := by
  intro S B F0 F H ρ σ g Pd Xd Q E h k kx
  refine ha.dat E (R.wp_bind.mp h) kx fun x g1 vx F1 H1 h1 e1 E1 r1 => ?_
  obtain ⟨rv, h3, h4⟩ := R.wp_ofO h1
  refine ho S F1 H1 vx x rv Q E1.okh r1 h3 fun r v F' H' q e j rv => ?_
  subst q
  exact k _ g1 v F' H' h4 (e1.trans e E1.j) (j _ E1.j) (rv.wide fun a ha => e1.free E1.j ha)
end
/-- a truth value -/
def asBR (r : RV) (g : Gs) : R Bool := match r with
  | .d (.bool b) => .ok b g
  | _ => .bad
@[simp] theorem asBR_b (b : Bool) (g : Gs) : asBR (.d (.bool b)) g = .ok b g := rfl
theorem asB_inv {r : RV} {g : Gs} {P : Bool → Gs → Prop} {X : PyData → Gs → Prop} (h : (asBR r g).wp P X) : ∃ b, r = .d (.bool b) ∧ P b g := by
  cases r with
  | d x =>
    cases x with
    | bool b => exact ⟨b, rfl, h⟩
    | _ => exact h.elim
  | _ => exact h.elim
def fTest (f : EF) : EFt := fun ρ g => (f ρ g).bind asBR
def fChain (o o' : O2) (fa fb fc : EF) : EF := fun ρ g => (fDat fa ρ g).bind fun x g1 => (fDat fb ρ g1).bind fun y g2 => (R.ofO (o x y) g2).bind fun r g3 => (asBR r g3).bind fun b g4 =>
  if b = true then (fDat fc ρ g4).bind fun z g5 => R.ofO (o' y z) g5 else .ok (.d (.bool false)) g4
/-- truth of data -/
def tru : PyData → Bool
  | .none => false
  | .bool b => b
  | .int i => i != 0
  | .str x => (x.length : Int) != 0
  | .list xs => !xs.isEmpty
  | .tuple xs => !xs.isEmpty
  | .dict ks => !ks.isEmpty
/-- a text's size -/
def fits : PyData → Bool
  | .str x => decide (x.length ≤ sizeLine)
  | .dict _ => false
  | _ => true
def fTru (f : EF) : EFt := fun ρ g => (fDat f ρ g).bind fun x g1 => if fits x = true then .ok (tru x) g1 else .bad
def fAnd (fa fb : EFt) : EFt := fun ρ g => (fa ρ g).bind fun c g1 => if c = true then fb ρ g1 else .ok false g1
def fOr (fa fb : EFt) : EFt := fun ρ g => (fa ρ g).bind fun c g1 => if c = true then .ok true g1 else fb ρ g1
def fNot (fa : EFt) : EFt := fun ρ g => (fa ρ g).bind fun c g1 => .ok (!c) g1
def fAndV (fa fb : EF) : EF := fun ρ g => (fTest fa ρ g).bind fun c g1 => if c = true then fb ρ g1 else .ok (.d (.bool false)) g1
def fOrV (fa fb : EF) : EF := fun ρ g => (fTest fa ρ g).bind fun c g1 => if c = true then .ok (.d (.bool true)) g1 else fb ρ g1
def fNotV (fa : EF) : EF := fun ρ g => (fTest fa ρ g).bind fun c g1 => .ok (.d (.bool (!c))) g1
def fIf (ft : EFt) (fa fb : EF) : EF := fun ρ g => (ft ρ g).bind fun c g1 => if c = true then fa ρ g1 else fb ρ g1
section
variable {K : Ck} {W : WX} {S : Sta} {B F0 F H : Hp} {ρ : List SD} {σ : St} {g : Gs} {Xd : PyData → Gs → Prop}
theorem tru_of {x : PyData} {v : V} {F H : Hp} (s : Sub F H) (r : Rp K F v x) (f : fits x = true) : TruV K v H (tru x) := by
  cases r with
  | non => rfl
  | bl b => rfl
  | int i => rfl
  | str x => exact ⟨of_decide_eq_true f, rfl⟩
  | @lst a vs ds h r =>
    refine .inl ⟨vs, (Le.sqx s h).sql, ?_⟩
    have := r.length
    cases r <;> rfl
  | @tup a vs ds h hk r =>
    refine .inr (.inl ⟨vs, Le.sqt s h, ?_⟩)
    cases r <;> rfl
  | dK _ _ => cases f
  | dT _ _ _ => cases f
  | obj _ _ _ _ => cases f
theorem asB_rp {r : RV} {v : V} {g : Gs} {P : Bool → Gs → Prop} {X : PyData → Gs → Prop} {H0 F H : Hp} (h : (asBR r g).wp P X) (rv : RepRV K S H0 F H v r) : ∃ b, v = .bl b ∧ P b g := by
  obtain ⟨b, rfl, q⟩ := asB_inv h
  have rv : Rp K F v (.bool b) := rv
  cases rv
  exact ⟨b, rfl, q⟩
theorem smt_test {t : TE} {f : EF} (h : Sm K W t f) : SmT K W (tTest t) (fTest f) := by
  intro S B F0 F H ρ σ g Pd Xd Q E hf k kx
  refine h S B F0 F H ρ σ g _ Xd _ E (R.wp_bind.mp hf) (fun r g' v F' H' q e j rv => ?_) kx
  obtain ⟨b, rfl, qb⟩ := asB_rp q rv
  exact ⟨b, rfl, k b g' F' H' qb e j⟩
theorem smt_tru {t : TE} {f : EF} (h : Sm K W t f) : SmT K W (fun σ H Q => t σ H fun x H' => ∃ k, TruV K x H' k ∧ Q k H') (fTru f) := by
  intro S B F0 F H ρ σ g Pd Xd Q E hf k kx
  refine h.dat E (R.wp_bind.mp hf) kx fun x g' v F' H' q e E' r => ?_
  by_cases c : fits x = true
  · rw [if_pos c] at q
    exact ⟨_, tru_of E'.sub r c, k _ g' F' H' q e E'.j⟩
  · rw [if_neg c] at q; exact q.elim
theorem sm_chain {r r' : R2} {o o' : O2} {ta tb tc : TE} {fa fb fc : EF} (ho : OpF K r o) (ho' : OpF K r' o') (ha : Sm K W ta fa) (hb : Sm K W tb fb) (hc : Sm K W tc fc) : Sm K W (tChain r r' ta tb tc) (fChain o o' fa fb fc) := by
  intro S B F0 F H ρ σ g Pd Xd Q E h k kx
  refine ha.dat E (R.wp_bind.mp h) kx fun x g1 vx F1 H1 h1 e1 E1 r1 => ?_
  refine hb.dat E1 (R.wp_bind.mp h1) (XOk.ext kx e1 E1.j) fun y g2 vy F2 H2 h2 e2 E2 r2 => ?_
  have e12 := e1.trans e2 E1.j
  obtain ⟨rv, h3, h4⟩ := R.wp_ofO (R.wp_bind.mp h2)
  refine ho S F2 H2 vx vy x y rv _ E2.okh (r1.mono e2.le) r2 h3 fun r v F3 H3 q e j rv => ?_
  subst q
  obtain ⟨b, rfl, qb⟩ := asB_rp (R.wp_bind.mp h4) rv
  refine ⟨b, rfl, ?_⟩
  have E3 := E2.ext e (j _ E2.j)
  have e13 := e12.trans e E2.j
  cases b with
  | false =>
    rw [if_neg Bool.false_ne_true] at qb ⊢
    exact k _ g2 _ F3 H3 qb e13 E3.j (Rp.bl false)
  | true =>
    rw [if_pos rfl] at qb ⊢
    refine hc.dat E3 (R.wp_bind.mp qb) (XOk.ext kx e13 E3.j) fun z g3 vz F4 H4 h4 e4 E4 r4 => ?_
    have e14 := e13.trans e4 E3.j
    obtain ⟨rv, h5, h6⟩ := R.wp_ofO h4
    refine ho' S F4 H4 vy vz y z rv Q E4.okh ((r2.mono e.le).mono e4.le) r4 h5 fun r v F' H' q e j rv => ?_
    subst q
    exact k _ g3 v F' H' h6 (e14.trans e E4.j) (j _ E4.j) (rv.wide fun a ha => e14.free E4.j ha)
theorem smt_and {ta tb : TT} {fa fb : EFt} (ha : SmT K W ta fa) (hb : SmT K W tb fb) : SmT K W (tAnd ta tb) (fAnd fa fb) := by
  intro S B F0 F H ρ σ g Pd Xd Q E hf k kx
  refine ha S B F0 F H ρ σ g _ Xd _ E (R.wp_bind.mp hf) (fun c g1 F1 H1 q e j => ?_) kx
  cases c with
  | true =>
    rw [if_pos rfl] at q ⊢
    exact hb S B F0 F1 H1 ρ σ g1 _ Xd _ (E.ext e j) q (fun b g2 F2 H2 q2 e2 j2 => k b g2 F2 H2 q2 (e.trans e2 j) j2) (XOk.ext kx e j)
  | false =>
    rw [if_neg Bool.false_ne_true] at q ⊢
    exact k _ _ _ _ q e j
theorem smt_or {ta tb : TT} {fa fb : EFt} (ha : SmT K W ta fa) (hb : SmT K W tb fb) : SmT K W (tOr ta tb) (fOr fa fb) := by
  intro S B F0 F H ρ σ g Pd Xd Q E hf k kx
  refine ha S B F0 F H ρ σ g _ Xd _ E (R.wp_bind.mp hf) (fun c g1 F1 H1 q e j => ?_) kx
  cases c with
  | false =>
    rw [if_neg Bool.false_ne_true] at q ⊢
    exact hb S B F0 F1 H1 ρ σ g1 _ Xd _ (E.ext e j) q (fun b g2 F2 H2 q2 e2 j2 => k b g2 F2 H2 q2 (e.trans e2 j) j2) (XOk.ext kx e j)
  | true =>
    rw [if_pos rfl] at q ⊢
    exact k _ _ _ _ q e j
theorem smt_not {ta : TT} {fa : EFt} (ha : SmT K W ta fa) : SmT K W (tNot ta) (fNot fa) := fun S B F0 F H ρ σ g Pd Xd Q E hf k kx =>
  ha S B F0 F H ρ σ g _ Xd _ E (R.wp_bind.mp hf) (fun c g1 F1 H1 q e j => k _ _ _ _ q e j) kx
theorem sm_andV {ta tb : TE} {fa fb : EF} (ha : Sm K W ta fa) (hb : Sm K W tb fb) : Sm K W (tAndV ta tb) (fAndV fa fb) := by
  intro S B F0 F H ρ σ g Pd Xd Q E hf k kx
  refine ha S B F0 F H ρ σ g _ Xd _ E (R.wp_bind.mp (R.wp_bind.mp hf)) (fun r g1 v F1 H1 q e j rv => ?_) kx
  obtain ⟨b, rfl, qb⟩ := asB_rp q rv
  refine ⟨b, rfl, ?_⟩
  cases b with
  | true =>
    rw [if_pos rfl] at qb ⊢
    exact hb S B F0 F1 H1 ρ σ g1 _ Xd _ (E.ext e j) qb (fun r g2 v F2 H2 q2 e2 j2 rv => k r g2 v F2 H2 q2 (e.trans e2 j) j2 (rv.wide fun a ha => e.free j ha)) (XOk.ext kx e j)
  | false =>
    rw [if_neg Bool.false_ne_true] at qb ⊢
    exact k _ _ _ _ _ qb e j (Rp.bl false)
theorem sm_orV {ta tb : TE} {fa fb : EF} (ha : Sm K W ta fa) (hb : Sm K W tb fb) : Sm K W (tOrV ta tb) (fOrV fa fb) := by
  intro S B F0 F H ρ σ g Pd Xd Q E hf k kx
  refine ha S B F0 F H ρ σ g _ Xd _ E (R.wp_bind.mp (R.wp_bind.mp hf)) (fun r g1 v F1 H1 q e j rv => ?_) kx
  obtain ⟨b, rfl, qb⟩ := asB_rp q rv
  refine ⟨b, rfl, ?_⟩
  cases b with
  | false =>
    rw [if_neg Bool.false_ne_true] at qb ⊢
    exact hb S B F0 F1 H1 ρ σ g1 _ Xd _ (E.ext e j) qb (fun r g2 v F2 H2 q2 e2 j2 rv => k r g2 v F2 H2 q2 (e.trans e2 j) j2 (rv.wide fun a ha => e.free j ha)) (XOk.ext kx e j)
  | true =>
    rw [if_pos rfl] at qb ⊢
    exact k _ _ _ _ _ qb e j (Rp.bl true)
theorem sm_notV {ta : TE} {fa : EF} (ha : Sm K W ta fa) : Sm K W (tNotV ta) (fNotV fa) := by
  intro S B F0 F H ρ σ g Pd Xd Q E hf k kx
  refine ha S B F0 F H ρ σ g _ Xd _ E (R.wp_bind.mp (R.wp_bind.mp hf)) (fun r g1 v F1 H1 q e j rv => ?_) kx
  obtain ⟨b, rfl, qb⟩ := asB_rp q rv
  exact ⟨b, rfl, k _ _ _ _ _ qb e j (Rp.bl _)⟩
theorem sm_if {t : TT} {ta tb : TE} {ft : EFt} {fa fb : EF} (ht : SmT K W t ft) (ha : Sm K W ta fa) (hb : Sm K W tb fb) : Sm K W (tIf t ta tb) (fIf ft fa fb) := by
  intro S B F0 F H ρ σ g Pd Xd Q E hf k kx
  refine ht S B F0 F H ρ σ g _ Xd _ E (R.wp_bind.mp hf) (fun c g1 F1 H1 q e j => ?_) kx
  cases c with
  | true =>
    rw [if_pos rfl] at q ⊢
    exact ha S B F0 F1 H1 ρ σ g1 _ Xd _ (E.ext e j) q (fun r g2 v F2 H2 q2 e2 j2 rv => k r g2 v F2 H2 q2 (e.trans e2 j) j2 (rv.wide fun a ha => e.free j ha)) (XOk.ext kx e j)
  | false =>
    rw [if_neg Bool.false_ne_true] at q ⊢
    exact hb S B F0 F1 H1 ρ σ g1 _ Xd _ (E.ext e j) q (fun r g2 v F2 H2 q2 e2 j2 rv => k r g2 v F2 H2 q2 (e.trans e2 j) j2 (rv.wide fun a ha => e.free j ha)) (XOk.ext kx e j)
end

/-! ### displays, arguments, calls -/
/-- a tuple of whom all is known -/
def tTupF (t : TA) : TE := fun σ H Q => t σ H fun xs H1 => xs.length ≤ sizeLine ∧ ∀ p (ob : Obj), H1 p = none → ob.dict = none → Q (.ref p) (upd H1 p (.frz ob (.tup xs)))
section
open PySem.Spec PyProof.Rows
theorem pe_tupF {X : Cx} {es : List Expr} {t : TA} {x1 : Nat} {pos : Pos} (h : PA X es t) : PE X (.Tuple es x1 pos) (tTupF t) := by
  refine ⟨fun pins s σ H Q I hq => ?_⟩
  refine wpAny_Tuple_spliced (thn (h.run pos pins s σ H _ I hq) fun us s1 ⟨xs, H1, I1, r, z, q⟩ => ⟨by rw [← r.length]; exact z, ?_⟩)
  have hf : H1 s1.heap.objs.size = none := I1.hok.fresh (Nat.le_refl _)
  refine ⟨.ref s1.heap.objs.size, upd H1 s1.heap.objs.size (.frz { cls := .type "tuple", data := .seq us.toArray } (.tup xs)), I1.laid (t' := s1.toks) (fun b u e => Heap.get?_push_of_some _ e) (Nat.le_refl _) ?_, rfl, q _ _ hf rfl⟩
  exact ⟨Heap.get?_push_size _ rfl, z, us, r, ⟨_, Heap.get?_push_size _ rfl, rfl, _, rfl⟩⟩
end
def aNil : EFa := fun _ g => .ok [] g
def aCons (f : EF) (fr : EFa) : EFa := fun ρ g => (f ρ g).bind fun r g1 => (asAR r g1).bind fun a g2 => (fr ρ g2).bind fun as g3 => .ok (a :: as) g3
/-- arguments as data -/
def allD : List AV → Option (List PyData)
  | [] => some []
  | .d x :: as => (allD as).map (x :: ·)
  | .o _ :: _ => none
def allDR (as : List AV) (g : Gs) : R (List PyData) := if as.length ≤ sizeLine then R.ofO (allD as) g else .bad
def fTup (fa : EFa) : EF := fun ρ g => (fa ρ g).bind fun as g1 => (allDR as g1).bind fun ds g2 => .ok (.d (.tuple ds)) g2
def fLst (fa : EFa) : EF := fun ρ g => (fa ρ g).bind fun as g1 => (allDR as g1).bind fun ds g2 => .ok (.nl ds) g2
def fCB (o : OA) (fa : EFa) : EF := fun ρ g => (fa ρ g).bind fun as g1 => R.ofO (o as) g1
section
variable {K : Ck} {W : WX} {S : Sta} {B F0 F H : Hp} {ρ : List SD} {σ : St} {g : Gs} {Xd : PyData → Gs → Prop}
theorem allD_rp {F : Hp} : ∀ {vs : List V} {as : List AV} {ds : List PyData}, RepAVs K F vs as → allD as = some ds → RpA K F vs ds
  | [], [], _, _, e => by cases e; exact .nil
  | v :: vs, .d x :: as, _, h, e => by
    unfold allD at e
    cases q : allD as with
    | none => rw [q] at e; cases e
    | some es =>
      rw [q] at e
      cases e
      exact .cons h.1 (allD_rp h.2 q)
  | _ :: _, .o _ :: _, _, _, e => by cases e
  | [], _ :: _, _, h, _ => h.elim
  | _ :: _, [], _, h, _ => h.elim
theorem allDR_of {as : List AV} {g : Gs} {P : List PyData → Gs → Prop} {X : PyData → Gs → Prop} (h : (allDR as g).wp P X) : as.length ≤ sizeLine ∧ ∃ ds, allD as = some ds ∧ P ds g := by
  unfold allDR at h
  by_cases c : as.length ≤ sizeLine
  · rw [if_pos c] at h
    exact ⟨c, R.wp_ofO h⟩
  · rw [if_neg c] at h; exact h.elim
theorem sma_nil : SmA K W tNil aNil := fun S B F0 F H ρ σ g Pd Xd Q E h k kx => k _ _ _ _ _ h (Ext.refl E.sub) E.j trivial
theorem sma_cons {te : TE} {t : TA} {f : EF} {fr : EFa} (h1 : Sm K W te f) (h2 : SmA K W t fr) : SmA K W (tCons te t) (aCons f fr) := by
  intro S B F0 F H ρ σ g Pd Xd Q E h k kx
  refine h1 S B F0 F H ρ σ g _ Xd _ E (R.wp_bind.mp h) (fun r g1 v F1 H1 q e j rv => ?_) kx
  obtain ⟨ok, q⟩ := asA_av (R.wp_bind.mp q)
  obtain ⟨F2, e2, l2, ra⟩ := e.frz j rv ok
  refine h2 S B F0 F2 H1 ρ σ g1 _ Xd _ (E.ext e2 j) (R.wp_bind.mp q) (fun as g2 vs F3 H3 q3 e3 j3 r3 => ?_) (XOk.ext kx e2 j)
  exact k _ g2 _ F3 H3 q3 (e2.trans e3 j) j3 ⟨ra.mono e3.le, r3⟩
theorem sm_tup {t : TA} {fa : EFa} (h : SmA K W t fa) : Sm K W (tTupF t) (fTup fa) := by
  intro S B F0 F H ρ σ g Pd Xd Q E hf k kx
  refine h S B F0 F H ρ σ g _ Xd _ E (R.wp_bind.mp hf) (fun as g1 vs F1 H1 q e j r => ?_) kx
  obtain ⟨hl, ds, ed, qd⟩ := allDR_of (R.wp_bind.mp q)
  have E1 := E.ext e j
  refine ⟨by rw [r.length]; exact hl, fun p ob hp hd => ?_⟩
  have n := Ext.new (S := S) (o := .frz ob (.tup vs)) E1.sub hp
  exact k _ g1 _ _ _ qd (e.trans n j) (J.new j hp) (Rp.tup (.inl (.inr ⟨ob, upd_same⟩)) (.inr ⟨ob, upd_same, hd⟩) ((allD_rp r ed).mono n.le))
theorem sm_lst {t : TA} {fa : EFa} (h : SmA K W t fa) : Sm K W (tLst t) (fLst fa) := by
  intro S B F0 F H ρ σ g Pd Xd Q E hf k kx
  refine h S B F0 F H ρ σ g _ Xd _ E (R.wp_bind.mp hf) (fun as g1 vs F1 H1 q e j r => ?_) kx
  obtain ⟨hl, ds, ed, qd⟩ := allDR_of (R.wp_bind.mp q)
  have E1 := E.ext e j
  refine ⟨by rw [r.length]; exact hl, fun p hp => ?_⟩
  have n := Ext.own (S := S) (o := .lst vs) E1.sub hp
  exact k _ g1 _ _ _ qd (e.trans n j) (J.new j hp) ⟨p, vs, rfl, e.free j hp, fun m => E1.okh.mt p m hp, E1.sub.free hp, upd_same, allD_rp r ed⟩
theorem sm_cb {r : List V → Hp → VK → Prop} {o : OA} {t : TA} {fa : EFa} (ho : OpAF K r o) (h : SmA K W t fa) : Sm K W (tCB r t) (fCB o fa) := by
  intro S B F0 F H ρ σ g Pd Xd Q E hf k kx
  refine h S B F0 F H ρ σ g _ Xd _ E (R.wp_bind.mp hf) (fun as g1 vs F1 H1 q e j ra => ?_) kx
  have E1 := E.ext e j
  obtain ⟨rv, h3, h4⟩ := R.wp_ofO q
  refine ho S F1 H1 vs as rv Q E1.okh ra h3 fun r v F' H' q' e' j' rv => ?_
  subst q'
  exact k _ g1 v F' H' h4 (e.trans e' j) (j' _ j) (rv.wide fun a ha => e.free j ha)
end
/-! ### a def's promise -/
abbrev FnSp := List AV → Gs → R RV
def spF (K : Ck) (f : FnSp) : Sp := fun vs H Q E => ∃ (q : Option (Addr × Addr × Addr)) (F : Hp) (g : Gs) (as : List AV), Sub F H ∧ (∀ a, (staOf q).M a → F a = none) ∧ (staOf q).J g H ∧ RepAVs K F vs as ∧
  (f as g).wp (fun r g' => ∀ v F' H', RetOk K (staOf q) H F F' H' v r g' → Q v H') (fun x g' => ∀ cls d F' H', RetX K (staOf q) H F F' H' cls d x g' → E cls d H')
def fCall (f : FnSp) (fa : EFa) : EF := fun ρ g => (fa ρ g).bind f
section
variable {K : Ck} {W : WX} {S : Sta} {B F0 F H : Hp} {ρ : List SD} {σ : St} {g : Gs} {Xd : PyData → Gs → Prop}
theorem RetOk.ext {F H F' H' : Hp} {v : V} {r : RV} {g : Gs} (h : RetOk K S H F F' H' v r g) : Ext S F H F' H' := ⟨h.keep, h.fz, h.mono, h.sub⟩
theorem RetX.ext {F H F' H' : Hp} {cls : Value} {d : Option Addr} {x : PyData} {g : Gs} (h : RetX K S H F F' H' cls d x g) : Ext S F H F' H' := ⟨h.keep, h.fz, h.mono, h.sub⟩
theorem use_sp {f : FnSp} {vs : List V} {as : List AV} {Pd : RV → Gs → Prop} {Q : VK} {E' : XK} (E : EnvOk K S B F0 F H ρ σ g) (ra : RepAVs K F vs as) (h : (f as g).wp Pd Xd)
    (k : ∀ r g' v F' H', Pd r g' → Ext S F H F' H' → S.J g' H' → RepRV K S H F' H' v r → Q v H')
    (kx : ∀ x g' cls d F' H', Xd x g' → Ext S F H F' H' → S.J g' H' → ExcRep K S H F' H' cls d x → E' cls d H') : spF K f vs H Q E' := by
  obtain ⟨qq, rfl⟩ := E.st
  exact ⟨qq, F, g, as, E.sub, E.mF, E.j, ra, R.wp_imp h (fun r g' q v F' H' R => k r g' v F' H' q R.ext R.j R.rv) (fun x g' q cls d F' H' R => kx x g' cls d F' H' q R.ext R.j R.er)⟩
theorem sm_call {f : FnSp} {t : TA} {fa : EFa} (h : SmA K W t fa) : Sm K W (tCallSD (spF K f) [] (WE W) t) (fCall f fa) := by
  intro S B F0 F H ρ σ g Pd Xd Q E hf k kx
  refine h S B F0 F H ρ σ g _ Xd _ E (R.wp_bind.mp hf) (fun as g1 vs F1 H1 q e j ra => ?_) kx
  have E1 := E.ext e j
  rw [List.append_nil]
  exact use_sp E1 ra q (fun r g' v F' H' q' e' j' rv => k r g' v F' H' q' (e.trans e' j) j' (rv.wide fun a ha => e.free j ha)) (XOk.ext kx e j)
end
end Fx

namespace Fx
open PySem L2 RZ

/-! ### what is walked -/
/-- a list, a tuple, a text, whichever it is -/
def iSeq (K : PySem.W.Frag) (tl : TE) : TI := fun σ H R => tl σ H fun x H1 => (∃ a, x = .ref a ∧ (∃ xs, SqL K H1 a xs) ∧ R (Itl K a) H1) ∨ (∃ a, x = .ref a ∧ (∃ xs, SqT K H1 a xs) ∧ R (Itt K a) H1) ∨ ∃ z, x = .str z ∧ R (Its z) H1
section
open PySem.Spec PyProof.Rows
theorem pi_seq {X : Cx} {tg e : Expr} {te : TE} (he : PE X e te) : PI X tg e (iSeq X.K te) := by
  refine ⟨fun pins s σ H R I h => ?_⟩
  refine thn (he.run pins s σ H _ I h) fun v s1 ⟨y, H1, I1, r1, q1⟩ => ?_
  rcases q1 with ⟨a, ex, ⟨xs, hq⟩, q⟩ | ⟨a, ex, ⟨xs, hq⟩, q⟩ | ⟨x, ex, q⟩
  · subst ex
    cases r1
    obtain ⟨its, rv, p, hz⟩ := I1.list hq
    refine wpAny_pyIter_list p.isList ?_
    refine ⟨s1.heap.objs.size, [s1.heap.objs.size], _, _, H1, rfl, I1.kept (t' := s1.toks) fun b o e => Heap.get?_push_of_some _ e, turn_list a _, ⟨_, Heap.get?_push_size _ rfl, rfl, rfl⟩, fun b hb => ?_, q⟩
    have e : b = s1.heap.objs.size := by simpa using hb
    subst e
    exact I1.fpOk (Nat.le_refl _) (I1.hok.fresh (Nat.le_refl _))
  · subst ex
    cases r1
    obtain ⟨its, rv, p, hz⟩ := I1.tuple hq
    refine wpAny_pyIter_tuple (show s1.heap.IsTuple a its.toArray from p) ?_
    refine ⟨s1.heap.objs.size, [s1.heap.objs.size], _, _, H1, rfl, I1.kept (t' := s1.toks) fun b o e => Heap.get?_push_of_some _ e, turn_tuple a _, ⟨_, Heap.get?_push_size _ rfl, rfl, rfl⟩, fun b hb => ?_, q⟩
    have e : b = s1.heap.objs.size := by simpa using hb
    subst e
    exact I1.fpOk (Nat.le_refl _) (I1.hok.fresh (Nat.le_refl _))
  · subst ex
    obtain ⟨t, rfl⟩ := r1
    cases ha : x.cps.all (· < 128)
    · exact wpAny_pyIter_wide ha (pi_one (tk := s1.toks) I1 _ (turn_str _ x t "str_iterator" (.inr rfl)) ⟨_, Heap.get?_push_size _ rfl, rfl, rfl⟩ q)
    · exact wpAny_pyIter_ascii ha (pi_one (tk := s1.toks) I1 _ (turn_str _ x t "str_ascii_iterator" (.inl rfl)) ⟨_, Heap.get?_push_size _ rfl, rfl, rfl⟩ q)
end
/-- the items of data -/
def itemsOf : PyData → Option (List PyData)
  | .list xs => some xs
  | .tuple xs => some xs
  | .str x => some (x.cps.toList.map fun c => .str ⟨#[c]⟩)
  | _ => none
def iaSeq (f : EF) : EFi := fun ρ g => (fDat f ρ g).bind fun x g1 => R.ofO (itemsOf x) g1
/-- as ints -/
def allI : List AV → Option (List Int)
  | [] => some []
  | .d (.int i) :: as => (allI as).map (i :: ·)
  | _ => none
def rngD (lo : Int) (n : Nat) : List PyData := (List.range n).map fun (k : Nat) => .int (lo + (k : Int))
def oRng1 (as : List AV) : Option (List PyData) := match allI as with
  | some [j] => if -(2 ^ 62) ≤ j ∧ j < 2 ^ 62 then some (rngD 0 j.toNat) else none
  | _ => none
def oRng2 (as : List AV) : Option (List PyData) := match allI as with
  | some [i, j] => if -(2 ^ 62) ≤ i ∧ i < 2 ^ 62 ∧ -(2 ^ 62) ≤ j ∧ j < 2 ^ 62 then some (rngD i (j - i).toNat) else none
  | _ => none
def pairUp (xs ys : List PyData) : List PyData := (xs.zip ys).map fun p => .tuple [p.1, p.2]
def oZip (as : List AV) : Option (List PyData) := match allD as with
  | some [.list xs, .list ys] => some (pairUp xs ys)
  | some [.tuple xs, .tuple ys] => some (pairUp xs ys)
  | _ => none
def oEnum (as : List AV) : Option (List PyData) := match allD as with
  | some [.list xs] => some ((xs.zipIdx).map fun p => .tuple [.int (p.2 : Int), p.1])
  | _ => none
def iaB (o : List AV → Option (List PyData)) (fa : EFa) : EFi := fun ρ g => (fa ρ g).bind fun as g1 => R.ofO (o as) g1
def iaRng1 : EFa → EFi := iaB oRng1
def iaRng2 : EFa → EFi := iaB oRng2
def iaZip : EFa → EFi := iaB oZip
def iaEnum : EFa → EFi := iaB oEnum
theorem oRng1_of {as : List AV} {ds : List PyData} (h : oRng1 as = some ds) : ∃ j, allI as = some [j] ∧ -(2 ^ 62) ≤ j ∧ j < 2 ^ 62 ∧ ds = rngD 0 j.toNat := by
  unfold oRng1 at h
  split at h
  · rename_i j e
    split at h
    · rename_i c; cases h; exact ⟨j, e, c.1, c.2, rfl⟩
    · cases h
  · cases h
theorem oRng2_of {as : List AV} {ds : List PyData} (h : oRng2 as = some ds) : ∃ i j, allI as = some [i, j] ∧ (-(2 ^ 62) ≤ i ∧ i < 2 ^ 62 ∧ -(2 ^ 62) ≤ j ∧ j < 2 ^ 62) ∧ ds = rngD i (j - i).toNat := by
  unfold oRng2 at h
  split at h
  · rename_i i j e
    split at h
    · rename_i c; cases h; exact ⟨i, j, e, c, rfl⟩
    · cases h
  · cases h
theorem oZip_of {as : List AV} {ds : List PyData} (h : oZip as = some ds) : ∃ xs ys, (allD as = some [.list xs, .list ys] ∨ allD as = some [.tuple xs, .tuple ys]) ∧ ds = (xs.zip ys).map fun p => .tuple [p.1, p.2] := by
  unfold oZip at h
  split at h
  · rename_i xs ys e; cases h; exact ⟨xs, ys, .inl e, rfl⟩
  · rename_i xs ys e; cases h; exact ⟨xs, ys, .inr e, rfl⟩
  · cases h
theorem oEnum_of {as : List AV} {ds : List PyData} (h : oEnum as = some ds) : ∃ xs, allD as = some [.list xs] ∧ ds = (xs.zipIdx).map fun p => .tuple [.int (p.2 : Int), p.1] := by
  unfold oEnum at h
  split at h
  · rename_i xs e; cases h; exact ⟨xs, e, rfl⟩
  · cases h
section
variable {K : Ck} {W : WX}
theorem itok_at {S : Sta} {F : Hp} {J : It} {vs : List V} {ds : List PyData} {G : Hp → Prop} (w : Walk J vs.length G (YAt vs)) (r : RpA K F vs ds) (hG : ∀ F' H', Le F F' → Sub F' H' → G H') : ItOk false K S F J ds := by
  intro F' H' le sub
  have g := hG F' H' le sub
  refine ⟨fun i d hd => ?_, by rw [← r.length]; exact w.stops H' g⟩
  obtain ⟨v, hv, rv⟩ := r.get' hd
  have hi : i < vs.length := (List.getElem?_eq_some_iff.mp hv).1
  refine ⟨w.goes i H' hi g, fun x H'' y => ?_⟩
  obtain ⟨rfl, hx⟩ := w.yields i H' x H'' hi g y
  rw [hv] at hx
  cases hx
  exact ⟨F', Ext.refl sub, fun _ j => j, .inl (rv.mono le)⟩
theorem smi_seq {t : TE} {f : EF} (h : Sm K W t f) : SmI false K W (iSeq K t) (iaSeq f) := by
  intro S B F0 F H ρ σ g Pd Xd Rr E hf k kx
  refine h.dat E (R.wp_bind.mp hf) kx fun x g1 v F1 H1 q e E1 r => ?_
  obtain ⟨ds, ed, q⟩ := R.wp_ofO q
  cases r with
  | @lst a vs ds' hr ra =>
    cases ed
    exact .inl ⟨a, rfl, ⟨vs, (Le.sqx E1.sub hr).sql⟩, k _ g1 F1 H1 _ q e E1.j (itok_at walk_list ra fun F' H' le sub => (Le.sqx sub (Le.sqx le hr)).sql)⟩
  | @tup a vs ds' hr hk ra =>
    cases ed
    exact .inr (.inl ⟨a, rfl, ⟨vs, Le.sqt E1.sub hr⟩, k _ g1 F1 H1 _ q e E1.j (itok_at walk_tup ra fun F' H' le sub => Le.sqt sub (Le.sqt le hr))⟩)
  | str z =>
    cases ed
    refine .inr (.inr ⟨z, rfl, k _ g1 F1 H1 _ q e E1.j fun F' H' le sub => ⟨fun i d hd => ?_, ?_⟩⟩)
    · rw [List.getElem?_map] at hd
      cases ec : z.cps.toList[i]? with
      | none => rw [ec] at hd; cases hd
      | some c =>
        rw [ec] at hd
        cases hd
        have hi : i < z.cps.size := by
          have := (List.getElem?_eq_some_iff.mp ec).1
          simpa using this
        refine ⟨walk_str.goes i H' hi trivial, fun x H'' y => ?_⟩
        obtain ⟨rfl, c', hc, rfl⟩ := walk_str.yields i H' x H'' hi trivial y
        have : c' = c := by
          rw [← Array.getElem?_toList, ec] at hc
          cases hc; rfl
        subst this
        exact ⟨F', Ext.refl sub, fun _ j => j, .inl (Rp.str _)⟩
    · simp only [List.length_map, Array.length_toList]
      exact walk_str.stops H' trivial
  | non => cases ed
  | bl b => cases ed
  | int i => cases ed
  | dK _ _ => cases ed
  | dT _ _ _ => cases ed
  | obj _ _ _ _ => cases ed
theorem allI_rp {F : Hp} : ∀ {vs : List V} {as : List AV} {is : List Int}, RepAVs K F vs as → allI as = some is → vs = is.map V.int
  | [], [], _, _, e => by cases e; rfl
  | v :: vs, .d (.int i) :: as, _, h, e => by
    unfold allI at e
    cases q : allI as with
    | none => rw [q] at e; cases e
    | some es =>
      rw [q] at e
      cases e
      have h1 : Rp K F v (.int i) := h.1
      cases h1
      rw [allI_rp h.2 q]; rfl
  | _ :: _, .o _ :: _, _, _, e => by cases e
  | _ :: _, .d .none :: _, _, _, e => by cases e
  | _ :: _, .d (.bool _) :: _, _, _, e => by cases e
  | _ :: _, .d (.str _) :: _, _, _, e => by cases e
  | _ :: _, .d (.list _) :: _, _, _, e => by cases e
  | _ :: _, .d (.tuple _) :: _, _, _, e => by cases e
  | _ :: _, .d (.dict _) :: _, _, _, e => by cases e
  | [], _ :: _, _, h, _ => h.elim
  | _ :: _, [], _, h, _ => h.elim
theorem itok_rng {S : Sta} {F : Hp} {lo : Int} {n : Nat} : ItOk false K S F (Itr lo n) (rngD lo n) := by
  intro F' H' le sub
  refine ⟨fun i d hd => ?_, by unfold rngD; rw [List.length_map, List.length_range]; exact walk_range.stops H' trivial⟩
  unfold rngD at hd
  rw [List.getElem?_map] at hd
  by_cases hi : i < n
  · rw [List.getElem?_range hi] at hd
    cases hd
    refine ⟨walk_range.goes i H' hi trivial, fun x H'' y => ?_⟩
    obtain ⟨rfl, rfl⟩ := walk_range.yields i H' x H'' hi trivial y
    exact ⟨F', Ext.refl sub, fun _ j => j, .inl (Rp.int _)⟩
  · rw [List.getElem?_eq_none (by simpa using hi)] at hd
    cases hd
theorem smi_rng1 {t : TA} {fa : EFa} (h : SmA K W t fa) : SmI false K W (iRng1 t) (iaRng1 fa) := by
  intro S B F0 F H ρ σ g Pd Xd Rr E hf k kx
  refine h S B F0 F H ρ σ g _ Xd _ E (R.wp_bind.mp hf) (fun as g1 vs F1 H1 q e j r => ?_) kx
  obtain ⟨ds, hd, q⟩ := R.wp_ofO q
  obtain ⟨i, ei, h1, h2, rfl⟩ := oRng1_of hd
  exact ⟨i, allI_rp r ei, h1, h2, k _ g1 F1 H1 _ q e j itok_rng⟩
theorem smi_rng2 {t : TA} {fa : EFa} (h : SmA K W t fa) : SmI false K W (iRng2 t) (iaRng2 fa) := by
  intro S B F0 F H ρ σ g Pd Xd Rr E hf k kx
  refine h S B F0 F H ρ σ g _ Xd _ E (R.wp_bind.mp hf) (fun as g1 vs F1 H1 q e j r => ?_) kx
  obtain ⟨ds, hd, q⟩ := R.wp_ofO q
  obtain ⟨i, l, ei, h1, rfl⟩ := oRng2_of hd
  exact ⟨i, l, allI_rp r ei, h1, k _ g1 F1 H1 _ q e j itok_rng⟩
/-- pairs that are made at each turn -/
theorem itok_pair {S : Sta} {F : Hp} {J : It} {n : Nat} {G : Hp → Prop} {fx fy : Nat → Option V} {ds : List PyData} (w : Walk J n G (YPair fx fy)) (hn : ds.length = n)
    (hd : ∀ (i : Nat) d, ds[i]? = some d → ∃ x y, d = .tuple [x, y] ∧ (∀ v, fx i = some v → Rp K F v x) ∧ ∀ v, fy i = some v → Rp K F v y) (hG : ∀ F' H', Le F F' → Sub F' H' → G H') : ItOk true K S F J ds := by
  intro F' H' le sub
  have g := hG F' H' le sub
  refine ⟨fun i d e => ?_, by rw [hn]; exact w.stops H' g⟩
  have hi : i < n := by rw [← hn]; exact (List.getElem?_eq_some_iff.mp e).1
  refine ⟨w.goes i H' hi g, fun x H'' y => ?_⟩
  obtain ⟨T, a, b, rfl, hT, rfl, ha, hb⟩ := w.yields i H' x H'' hi g y
  obtain ⟨x', y', rfl, h1, h2⟩ := hd i d e
  have n' := Ext.new (S := S) (o := .tup [a, b]) sub hT
  exact ⟨_, n', fun _ j => Fx.J.new j hT, .inr ⟨rfl, _, _, _, rfl, rfl, .inl (.inl upd_same), .cons ((h1 a ha).mono (le.trans n'.le)) (.cons ((h2 b hb).mono (le.trans n'.le)) .nil)⟩⟩
theorem zip_get (xs ys : List PyData) (i : Nat) (d : PyData) (h : ((xs.zip ys).map fun p => PyData.tuple [p.1, p.2])[i]? = some d) : ∃ x y, xs[i]? = some x ∧ ys[i]? = some y ∧ d = .tuple [x, y] := by
  rw [List.getElem?_map] at h
  cases e : (xs.zip ys)[i]? with
  | none => rw [e] at h; cases h
  | some p =>
    rw [e] at h
    cases h
    have := List.getElem?_zip_eq_some.mp (show (xs.zip ys)[i]? = some (p.1, p.2) from e)
    exact ⟨p.1, p.2, this.1, this.2, rfl⟩
theorem walk_zipT {K : PySem.W.Frag} {a b : Addr} {xs ys : List V} {n : Nat} (hn : n = min xs.length ys.length) : Walk (ItzT K a b) n (fun H => SqT K H a xs ∧ SqT K H b ys) (YPair (fun i => xs[i]?) (fun i => ys[i]?)) := by
  subst hn
  refine ⟨fun i _ hi q => ?_, fun _ q => ⟨xs, ys, q.1, q.2, by omega⟩, fun i H v H' _ q y => ?_⟩
  · have h1 : i < xs.length := by omega
    have h2 : i < ys.length := by omega
    exact ⟨xs, ys, xs[i], ys[i], q.1, q.2, by simp [h1], by simp [h2]⟩
  · obtain ⟨T, x, z, h1, h2, h3, h4, h5⟩ := y
    exact ⟨T, x, z, h1, h2, h3, h4 xs q.1, h5 ys q.2⟩
theorem smi_zip {t : TA} {fa : EFa} (h : SmA K W t fa) : SmI true K W (iZipA K t) (iaZip fa) := by
  intro S B F0 F H ρ σ g Pd Xd Rr E hf k kx
  refine h S B F0 F H ρ σ g _ Xd _ E (R.wp_bind.mp hf) (fun as g1 vs F1 H1 q e j r => ?_) kx
  obtain ⟨ds, hd, q⟩ := R.wp_ofO q
  obtain ⟨xs, ys, h1, rfl⟩ := oZip_of hd
  have E1 := E.ext e j
  rcases h1 with h1 | h1
  · have ra := allD_rp r h1
    cases ra with
    | cons r1 t1 =>
      cases t1 with
      | cons r2 t2 =>
        cases t2
        cases r1 with
        | @lst a vs ds hr ra =>
          cases r2 with
          | @lst b ws es hs rb =>
            refine ⟨a, b, vs, ws, rfl, .inl ⟨(Le.sqx E1.sub hr).sql, (Le.sqx E1.sub hs).sql, k _ g1 F1 H1 _ q e j (itok_pair (walk_zip rfl) ?_ (fun i d hd => ?_) (fun F' H' le sub => ⟨(Le.sqx sub (Le.sqx le hr)).sql, (Le.sqx sub (Le.sqx le hs)).sql⟩))⟩⟩
            · rw [List.length_map, List.length_zip, ra.length, rb.length]
            · obtain ⟨x, y, hx, hy, rfl⟩ := zip_get xs ys i d hd
              refine ⟨x, y, rfl, fun v hv => ?_, fun v hv => ?_⟩
              · obtain ⟨d', e', r'⟩ := ra.get hv
                rw [hx] at e'; cases e'; exact r'
              · obtain ⟨d', e', r'⟩ := rb.get hv
                rw [hy] at e'; cases e'; exact r'
  · have ra := allD_rp r h1
    cases ra with
    | cons r1 t1 =>
      cases t1 with
      | cons r2 t2 =>
        cases t2
        cases r1 with
        | @tup a vs ds hr hk ra =>
          cases r2 with
          | @tup b ws es hs hk2 rb =>
            refine ⟨a, b, vs, ws, rfl, .inr ⟨Le.sqt E1.sub hr, Le.sqt E1.sub hs, k _ g1 F1 H1 _ q e j (itok_pair (walk_zipT rfl) ?_ (fun i d hd => ?_) (fun F' H' le sub => ⟨Le.sqt sub (Le.sqt le hr), Le.sqt sub (Le.sqt le hs)⟩))⟩⟩
            · rw [List.length_map, List.length_zip, ra.length, rb.length]
            · obtain ⟨x, y, hx, hy, rfl⟩ := zip_get xs ys i d hd
              refine ⟨x, y, rfl, fun v hv => ?_, fun v hv => ?_⟩
              · obtain ⟨d', e', r'⟩ := ra.get hv
                rw [hx] at e'; cases e'; exact r'
              · obtain ⟨d', e', r'⟩ := rb.get hv
                rw [hy] at e'; cases e'; exact r'
theorem smi_enum {t : TA} {fa : EFa} (h : SmA K W t fa) : SmI true K W (iEnum K t) (iaEnum fa) := by
  intro S B F0 F H ρ σ g Pd Xd Rr E hf k kx
  refine h S B F0 F H ρ σ g _ Xd _ E (R.wp_bind.mp hf) (fun as g1 vs F1 H1 q e j r => ?_) kx
  obtain ⟨ds, hd, q⟩ := R.wp_ofO q
  obtain ⟨xs, h1, rfl⟩ := oEnum_of hd
  have E1 := E.ext e j
  have ra := allD_rp r h1
  cases ra with
  | cons r1 t1 =>
    cases t1
    cases r1 with
    | @lst a vs ds hr ra =>
      refine ⟨a, vs, rfl, (Le.sqx E1.sub hr).sql, k _ g1 F1 H1 _ q e j (itok_pair walk_enum ?_ (fun i d hd => ?_) (fun F' H' le sub => (Le.sqx sub (Le.sqx le hr)).sql))⟩
      · rw [List.length_map, List.length_zipIdx, ra.length]
      · rw [List.getElem?_map] at hd
        cases ez : xs.zipIdx[i]? with
        | none => rw [ez] at hd; cases hd
        | some p =>
          rw [ez] at hd
          cases hd
          have hp : xs[i]? = some p.1 ∧ p.2 = i := by
            rw [List.getElem?_zipIdx] at ez
            cases ex : xs[i]? with
            | none => rw [ex] at ez; cases ez
            | some x => rw [ex] at ez; cases ez; simp
          refine ⟨_, _, rfl, fun v hv => ?_, fun v hv => ?_⟩
          · cases hv; rw [hp.2]; exact Rp.int _
          · obtain ⟨d', e', r'⟩ := ra.get hv
            rw [hp.1] at e'; cases e'; exact r'
end

/-! ### targets -/
abbrev EFgs := List PyData → List SD → Option (List SD)
def SmGs (K : Ck) (t : TGs) (is : List Nat) (f : EFgs) : Prop := ∀ (S : Sta) (B F0 F H : Hp) (ρ : List SD) (σ : St) (g : Gs) (vs : List V) (ds : List PyData) (ρ1 : List SD) (Q : St → Hp → Prop), EnvOk K S B F0 F H ρ σ g → RpA K F vs ds → f ds ρ = some ρ1 →
  (∀ σ', EnvOk K S B F0 F H ρ1 σ' g → (∀ vs : List Nat, (∀ i ∈ is, i ∈ vs) → wipe σ' vs = wipe σ vs) → (∀ (i : Nat) s, ρ1[i]? = some s → s.owner = true → ρ[i]? = some s ∧ σ'[i]? = σ[i]?) → Q σ' H) → t vs σ H Q
def agName (i : Nat) : EFg := fun d ρ => some (ρ.set i (.d d))
def agNil : EFgs := fun ds ρ => match ds with
  | [] => some ρ
  | _ => none
def agCons (f : EFg) (fr : EFgs) : EFgs := fun ds ρ => match ds with
  | d :: r => (f d ρ).bind fun ρ' => fr r ρ'
  | [] => none
def agTup (n : Nat) (fr : EFgs) : EFg := fun d ρ => match d with
  | .tuple ds => if ds.length = n then fr ds ρ else none
  | _ => none
section
variable {K : Ck}
theorem wipe_mem {σ : St} {i : Nat} {x : Option V} : ∀ {vs : List Nat}, i ∈ vs → wipe (σ.set i x) vs = wipe σ vs
  | v :: vs, h => by
    unfold wipe
    by_cases e : i ∈ vs
    · rw [wipe_mem e]
    · have : v = i := by
        rcases List.mem_cons.mp h with q | q
        · exact q.symm
        · exact absurd q e
      subst this
      have : ∀ vs : List Nat, v ∉ vs → wipe (σ.set v x) vs = (wipe σ vs).set v x := by
        intro vs
        induction vs with
        | nil => intro _; rfl
        | cons w ws ih =>
          intro hn
          rw [List.mem_cons, not_or] at hn
          unfold wipe
          rw [ih hn.2, List.set_comm _ _ hn.1]
      rw [this vs e, List.set_set]
theorem smg_name (i : Nat) : SmG false K (gName i) [i] (agName i) := fun S B F0 F H ρ σ g v d ρ1 Q E r h k => by
  cases h
  exact k _ (E.set ⟨v, rfl, r.resolve_right fun z => by cases z.1⟩ (fun e => by cases e)) (fun vs hi => wipe_mem (hi i (by simp))) fun j s hs ho => by
    rcases set_get hs with ⟨_, _, r⟩ | ⟨e, hs⟩
    · subst r; cases ho
    · exact ⟨hs, List.getElem?_set_ne (Ne.symm e)⟩
theorem smgs_nil : SmGs K gNil [] agNil := by
  intro S B F0 F H ρ σ g vs ds ρ1 Q E r h k
  cases r with
  | nil => cases h; exact ⟨rfl, k σ E (fun _ _ => rfl) fun _ _ h _ => ⟨h, rfl⟩⟩
  | cons _ _ => cases h
theorem smgs_cons {t : TG} {u : TGs} {is js : List Nat} {f : EFg} {fr : EFgs} (h1 : SmG false K t is f) (h2 : SmGs K u js fr) : SmGs K (gCons t u) (is ++ js) (agCons f fr) := by
  intro S B F0 F H ρ σ g vs ds ρ1 Q E r h k
  cases r with
  | nil => cases h
  | cons rv rr =>
    obtain ⟨ρ2, q1, q2⟩ := Option.bind_eq_some_iff.mp h
    refine ⟨_, _, rfl, h1 S B F0 F H ρ σ g _ _ _ _ E (.inl rv) q1 fun σ1 E1 w1 o1 => ?_⟩
    refine h2 S B F0 F H ρ2 σ1 g _ _ _ _ E1 rr q2 fun σ2 E2 w2 o2 => k σ2 E2 (fun ws hw => ?_) fun i s hs ho => ?_
    · rw [w2 ws fun i hi => hw i (List.mem_append_right _ hi), w1 ws fun i hi => hw i (List.mem_append_left _ hi)]
    · obtain ⟨a1, a2⟩ := o2 i s hs ho
      obtain ⟨b1, b2⟩ := o1 i s a1 ho
      exact ⟨b1, a2.trans b2⟩
theorem smg_tup {w : Bool} {n : Nat} {t : TGs} {is : List Nat} {fr : EFgs} (h : SmGs K t is fr) : SmG w K (gTup K n t) is (agTup n fr) := by
  intro S B F0 F H ρ σ g v d ρ1 Q E r hf k
  have key : ∀ a vs ds, v = .ref a → d = .tuple ds → SqT K F a vs → RpA K F vs ds → gTup K n t v σ H Q := fun a vs ds hv hd hr ra => by
    subst hv hd
    have hf : (if ds.length = n then fr ds ρ else none) = some ρ1 := hf
    by_cases c : ds.length = n
    · rw [if_pos c] at hf
      exact ⟨a, vs, rfl, Le.sqt E.sub hr, ra.length.trans c, h S B F0 F H ρ σ g vs ds ρ1 Q E ra hf k⟩
    · rw [if_neg c] at hf; cases hf
  rcases r with r | ⟨_, a, vs, ds, h1, h2, hr, ra⟩
  · cases r with
    | @tup a vs ds hr hk ra => exact key a vs ds rfl rfl hr ra
    | non => cases hf
    | bl b => cases hf
    | int i => cases hf
    | str x => cases hf
    | lst _ _ => cases hf
    | dK _ _ => cases hf
    | dT _ _ _ => cases hf
    | obj _ _ _ _ => cases hf
  · exact key a vs ds h1 h2 hr ra
/-- a list is unpacked -/
def agLst (n : Nat) (fr : EFgs) : EFg := fun d ρ => match d with
  | .list ds => if ds.length = n then fr ds ρ else none
  | _ => none
theorem smg_lst {w : Bool} {n : Nat} {t : TGs} {is : List Nat} {fr : EFgs} (h : SmGs K t is fr) : SmG w K (gLst K n t) is (agLst n fr) := by
  intro S B F0 F H ρ σ g v d ρ1 Q E r hf k
  rcases r with r | ⟨_, a, vs, ds, h1, h2, hr, ra⟩
  · cases r with
    | @lst a vs ds hr ra =>
      have hf : (if ds.length = n then fr ds ρ else none) = some ρ1 := hf
      by_cases c : ds.length = n
      · rw [if_pos c] at hf
        exact ⟨a, vs, rfl, (Le.sqx E.sub hr).sql, ra.length.trans c, h S B F0 F H ρ σ g vs ds ρ1 Q E ra hf k⟩
      · rw [if_neg c] at hf; cases hf
    | non => cases hf
    | bl b => cases hf
    | int i => cases hf
    | str x => cases hf
    | tup _ _ _ => cases hf
    | dK _ _ => cases hf
    | dT _ _ _ => cases hf
    | obj _ _ _ _ => cases hf
  · subst h2; cases hf
end
/-! ### comprehensions -/
def wipeD (ρ : List SD) : List Nat → List SD
  | [] => ρ
  | v :: vs => (wipeD ρ vs).set v .u
/-- no exception -/
def R.nox {α : Type} (m : R α) : R α := match m with
  | .exc _ _ => .bad
  | m => m
@[simp] theorem R.nox_ok {α : Type} (a : α) (g : Gs) : (R.ok a g).nox = .ok a g := rfl
theorem R.wp_nox {α : Type} {m : R α} {P : α → Gs → Prop} {X : PyData → Gs → Prop} : m.nox.wp P X ↔ m.wp P NoX := by cases m <;> exact Iff.rfl
def W0 : WX := fun _ _ _ _ => False
/-- one turn: the target, the test, the body -/
def cpStep {α : Type} (fg : EFg) (ft : EFt) (fb : List SD → α → Gs → R α) (ρ : List SD) (d : PyData) (acc : α) (g : Gs) : R α := match fg d ρ with
  | none => .bad
  | some ρ2 => (ft ρ2 g).bind fun b g2 => if b = true then fb ρ2 acc g2 else .ok acc g2
/-- the turns -/
def cpR {α : Type} (step : PyData → α → Gs → R α) : List PyData → α → Gs → R α
  | [], acc, g => .ok acc g
  | d :: ds, acc, g => (step d acc g).bind fun acc' g' => cpR step ds acc' g'
def bLst (fe : EF) : List SD → List PyData → Gs → R (List PyData) := fun ρ acc g => (fDat fe ρ g).bind fun y g1 => if acc.length < sizeLine then .ok (acc ++ [y]) g1 else .bad
def bIn {α : Type} (fi : EFi) (fg : EFg) (ft : EFt) (fb : List SD → α → Gs → R α) (vs : List Nat) : List SD → α → Gs → R α := fun ρ acc g => (fi ρ g).bind fun ds g1 => cpR (cpStep fg ft fb (wipeD ρ vs)) ds acc g1
def fCp {α : Type} (c : α → RV) (z : α) (fi : EFi) (fg : EFg) (ft : EFt) (fb : List SD → α → Gs → R α) (vs : List Nat) : EF := fun ρ g => (fi ρ g).bind fun ds g1 => (cpR (cpStep fg ft fb (wipeD ρ vs)) ds z g1).nox.bind fun xs g2 => .ok (c xs) g2
def fLc (fi : EFi) (fg : EFg) (ft : EFt) (fe : EF) (vs : List Nat) : EF := fCp .nl [] fi fg ft (bLst fe) vs
def fLc2 (fi : EFi) (fg : EFg) (ft : EFt) (fi1 : EFi) (fg1 : EFg) (ft1 : EFt) (fe : EF) (vs vs1 : List Nat) : EF := fCp .nl [] fi fg ft (bIn fi1 fg1 ft1 (bLst fe) vs1) vs
def fYes : EFt := fun _ g => .ok true g
/-- up to the object at D -/
structure ExtD (S : Sta) (D : Addr) (F H F' H' : Hp) : Prop where
  keep : ∀ a o, a ≠ D → H a = some o → ¬ S.M a → H' a = some o
  grow : ∀ a, H a ≠ Option.none → F' a = F a
  le : Le F F'
  sub : Sub F' H'
  d : H' D ≠ Option.none
theorem ExtD.there {S : Sta} {D : Addr} {g1 : Gs} {F H F1 H1 : Hp} (a : ExtD S D F H F1 H1) (j : S.J g1 H1) {x : Addr} (h : H x ≠ Option.none) : H1 x ≠ Option.none := by
  by_cases z : x = D
  · subst z; exact a.d
  · by_cases m : S.M x
    · exact S.there _ _ _ j m
    · cases e : H x with
      | none => exact absurd e h
      | some o => rw [a.keep x o z e m]; exact fun z => by cases z
theorem ExtD.trans {S : Sta} {D : Addr} {g1 : Gs} {F H F1 H1 F2 H2 : Hp} (a : ExtD S D F H F1 H1) (b : ExtD S D F1 H1 F2 H2) (j : S.J g1 H1) : ExtD S D F H F2 H2 where
  keep := fun x o z h m => b.keep x o z (a.keep x o z h m) m
  grow := fun x h => by rw [b.grow x (a.there j h), a.grow x h]
  le := a.le.trans b.le
  sub := b.sub
  d := b.d
theorem Ext.toD {S : Sta} {D : Addr} {g1 : Gs} {F H F' H' : Hp} (e : Ext S F H F' H') (j : S.J g1 H') (h : H D ≠ Option.none) : ExtD S D F H F' H' := ⟨fun a o _ q m => e.keep a o q m, e.grow, e.le, e.sub, e.there j h⟩
section
variable {K : Ck} {W : WX}
theorem smt_yes : SmT K W tYes fYes := fun S B F0 F H ρ σ g Pd Xd Q E h k kx => k _ _ _ _ h (Ext.refl E.sub) E.j
theorem EnvOk.wipe {S : Sta} {B F0 F H : Hp} {ρ : List SD} {σ : St} {g : Gs} (E : EnvOk K S B F0 F H ρ σ g) : ∀ vs : List Nat, EnvOk K S B F0 F H (wipeD ρ vs) (wipe σ vs) g
  | [] => E
  | v :: vs => by
    have E1 := E.wipe vs
    unfold wipeD L2.wipe
    refine ⟨E1.st, E1.sub, E1.mono, E1.fz, E1.keep, E1.mF, E1.j, by simp [E1.len], fun i s h => ?_, fun i k s t h1 h2 o1 o2 q => ?_⟩
    · rcases set_get h with ⟨rfl, hl, rfl⟩ | ⟨e, h⟩
      · exact ⟨none, List.getElem?_set_self (by rw [E1.len]; exact hl), trivial⟩
      · obtain ⟨w, h1, h2⟩ := E1.sl i s h
        exact ⟨w, by rw [List.getElem?_set_ne (Ne.symm e)]; exact h1, h2⟩
    · rcases set_get h1 with ⟨_, _, r1⟩ | ⟨e1, h1⟩
      · subst r1; cases o1
      · rcases set_get h2 with ⟨_, _, r2⟩ | ⟨e2, h2⟩
        · subst r2; cases o2
        · rw [List.getElem?_set_ne (Ne.symm e1), List.getElem?_set_ne (Ne.symm e2)] at q
          exact E1.dist i k s t h1 h2 o1 o2 q
/-- no owned slot is D -/
def NoRef (ρ : List SD) (σ : St) (D : Addr) : Prop := ∀ (i : Nat) s, ρ[i]? = some s → s.owner = true → σ[i]? ≠ some (some (.ref D))
theorem NoRef.wipe {ρ : List SD} {σ : St} {D : Addr} (h : NoRef ρ σ D) : ∀ vs : List Nat, NoRef (wipeD ρ vs) (wipe σ vs) D
  | [] => h
  | v :: vs => fun i s hs ho => by
    have h1 := h.wipe vs
    unfold wipeD at hs
    unfold L2.wipe
    rcases set_get hs with ⟨_, _, r⟩ | ⟨e, hs⟩
    · subst r; cases ho
    · rw [List.getElem?_set_ne (Ne.symm e)]; exact h1 i s hs ho
theorem wipe_idem (σ : St) (vs : List Nat) : wipe (wipe σ vs) vs = wipe σ vs := by
  have : ∀ ws : List Nat, (∀ i ∈ ws, i ∈ vs) → wipe (wipe σ vs) ws = wipe σ vs := by
    intro ws
    induction ws with
    | nil => intro _; rfl
    | cons v ws ih =>
      intro hw
      show (wipe (wipe σ vs) ws).set v none = wipe σ vs
      rw [ih fun i hi => hw i (List.mem_cons_of_mem _ hi)]
      have hvm : v ∈ vs := hw v (by simp)
      apply List.ext_getElem?
      intro l
      by_cases el : l = v
      · subst el
        by_cases hl : l < (wipe σ vs).length
        · rw [List.getElem?_set_self hl]
          cases eq : (wipe σ vs)[l]? with
          | none => rw [List.getElem?_eq_none_iff] at eq; omega
          | some o =>
            cases o with
            | none => rfl
            | some z => exact absurd hvm (wipe_some eq).2
        · rw [List.getElem?_eq_none (by simpa using hl), List.getElem?_eq_none (by simpa using hl)]
      · rw [List.getElem?_set_ne (Ne.symm el)]
  exact this vs fun _ h => h
theorem EnvOk.extD {S : Sta} {B F0 F H F' H' : Hp} {ρ : List SD} {σ : St} {g g' : Gs} {D : Addr} (E : EnvOk K S B F0 F H ρ σ g) (hn : NoRef ρ σ D) (hB : B D = none) (e : ExtD S D F H F' H') (j : S.J g' H') : EnvOk K S B F0 F' H' ρ σ g' where
  sub := e.sub
  mono := E.mono.trans e.le
  fz := fun a h => by rw [e.grow a (E.there h), E.fz a h]
  keep := fun a o h m => e.keep a o (fun z => by rw [z, hB] at h; cases h) (E.keep a o h m) m
  mF := fun a m => (e.grow a (S.there _ _ _ E.j m)).trans (E.mF a m)
  j := j
  len := E.len
  sl := fun i s h => by
    obtain ⟨v, h1, h2⟩ := E.sl i s h
    refine ⟨v, h1, h2.to e.le fun a hv ho => ?_⟩
    subst hv
    have ne : a ≠ D := fun z => hn i s h ho (by rw [← z]; exact h1)
    obtain ⟨b, hb, _, m, _, q⟩ := h2.at ho
    cases hb
    obtain ⟨u, hu⟩ := q.there
    exact ⟨e.grow a (by rw [hu]; exact fun z => by cases z), by rw [hu]; exact e.keep a u ne hu m⟩
  dist := E.dist
  st := E.st
/-- what a growing object holds -/
structure Cont (K : Ck) (α : Type) where
  C : Hp → HO → α → Prop
  mono : ∀ {F F' : Hp} {o : HO} {a : α}, Le F F' → C F o a → C F' o a
def cLst (K : Ck) : Cont K (List PyData) := ⟨fun F o xs => ∃ vs, o = .lst vs ∧ RpA K F vs xs, fun le ⟨vs, h1, h2⟩ => ⟨vs, h1, h2.mono le⟩⟩
/-- the state of a comprehension, from where its turns began -/
structure LcAt {α : Type} (C : Cont K α) (S : Sta) (D : Addr) (Fi Hi : Hp) (acc : α) (gc : Gs) (Fc Hc : Hp) : Prop where
  e : ExtD S D Fi Hi Fc Hc
  j : S.J gc Hc
  h : ∃ o, Hc D = some o ∧ C.C Fc o acc
  f : Fc D = none
section
variable {α : Type} {C : Cont K α} {S : Sta} {D : Addr} {Fi Hi Fc Hc F2 H2 : Hp} {acc acc2 : α} {gc g2 : Gs}
theorem LcAt.ext (L : LcAt C S D Fi Hi acc gc Fc Hc) (nM : ¬ S.M D) (e : Ext S Fc Hc F2 H2) (j : S.J g2 H2) : LcAt C S D Fi Hi acc g2 F2 H2 := by
  obtain ⟨o, h1, h2⟩ := L.h
  have hd : Hc D ≠ none := by rw [h1]; exact fun z => by cases z
  exact ⟨L.e.trans (e.toD j hd) L.j, j, ⟨o, e.keep D _ h1 nM, C.mono e.le h2⟩, (e.grow D hd).trans L.f⟩
theorem LcAt.put {o : HO} (L : LcAt C S D Fi Hi acc gc Fc Hc) (nM : ¬ S.M D) (h : C.C Fc o acc2) : LcAt C S D Fi Hi acc2 gc Fc (upd Hc D o) := by
  refine ⟨⟨fun a u z q m => by rw [upd_ne z]; exact L.e.keep a u z q m, L.e.grow, L.e.le, fun a u q => ?_, by rw [upd_same]; exact fun z => by cases z⟩, S.ok _ _ _ L.j fun a m => upd_ne fun z => nM (z ▸ m), ⟨_, upd_same, h⟩, L.f⟩
  rw [upd_ne (fun z => by rw [z, L.f] at q; cases q)]
  exact L.e.sub a u q
theorem LcAt.trans (L : LcAt C S D Fi Hi acc gc Fc Hc) (M : LcAt C S D Fc Hc acc2 g2 F2 H2) : LcAt C S D Fi Hi acc2 g2 F2 H2 := ⟨L.e.trans M.e L.j, M.j, M.h, M.f⟩
theorem LcAt.self (L : LcAt C S D Fi Hi acc gc Fc Hc) : LcAt C S D Fc Hc acc gc Fc Hc := ⟨⟨fun _ _ _ q _ => q, fun _ _ => rfl, Le.refl _, L.e.sub, L.e.d⟩, L.j, L.h, L.f⟩
end
/-- the turns of a comprehension -/
theorem cp_turns {α : Type} {C : Cont K α} {w : Bool} {tg : TG} {tt : TT} {is vs : List Nat} {fg : EFg} {ft : EFt} {fb : List SD → α → Gs → R α} {BODY : St → Hp → (Hp → Prop) → Prop} {S : Sta} {B F0 Fi Hi : Hp} {ρ : List SD} {σ : St} {g g0 : Gs} {D : Addr} {J : It} {ds : List PyData} {Pd : α → Gs → Prop} {End : Hp → Prop} {acc0 : α}
    (hg : SmG w K tg is fg) (ht : SmT K W0 tt ft) (hv : ∀ i ∈ is, i ∈ vs) (nM : ¬ S.M D) (hB : B D = none) (E : EnvOk K S B F0 Fi Hi ρ σ g) (hn : NoRef ρ σ D) (it : ItOk w K S Fi J ds)
    (hb : ∀ acc gc Fc Hc ρ2 σ2 (Pd : α → Gs → Prop) (Nx : Hp → Prop), LcAt C S D Fi Hi acc gc Fc Hc → EnvOk K S B F0 Fc Hc ρ2 σ2 gc → NoRef ρ2 σ2 D → (fb ρ2 acc gc).wp Pd NoX → (∀ acc' g' F' H', LcAt C S D Fi Hi acc' g' F' H' → Pd acc' g' → Nx H') → BODY σ2 Hc Nx)
    (L0 : LcAt C S D Fi Hi acc0 g0 Fi Hi) (w0 : (cpR (cpStep fg ft fb (wipeD ρ vs)) ds acc0 g0).wp Pd NoX) (kend : ∀ acc gc Fc Hc, LcAt C S D Fi Hi acc gc Fc Hc → Pd acc gc → End Hc) :
    ∃ W : Nat → Nat → Hp → Prop, (∃ m, W 0 m Hi) ∧ ∀ i m H, W i m H →
      (J.stop i H ∧ End H) ∨ (J.go i H ∧ ∃ Nx : Hp → Prop, (∀ H', Nx H' → ∃ m', m' < m ∧ W (i + 1) m' H') ∧ ∀ x H', J.yld i H x H' → tg x (wipe σ vs) H' fun σ2 H2 => wipe σ2 vs = wipe σ vs ∧ tt σ2 H2 fun b H3 =>
        if b = true then BODY σ2 H3 Nx else Nx H3) := by
  refine ⟨fun i m Hc => m = ds.length - i ∧ i ≤ ds.length ∧ ∃ gc Fc acc, LcAt C S D Fi Hi acc gc Fc Hc ∧ (cpR (cpStep fg ft fb (wipeD ρ vs)) (ds.drop i) acc gc).wp Pd NoX, ⟨ds.length, rfl, Nat.zero_le _, g0, Fi, acc0, L0, w0⟩, ?_⟩
  rintro i m Hc ⟨rfl, hil, gc, Fc, acc, L, w⟩
  obtain ⟨hgo, hstop⟩ := it Fc Hc L.e.le L.e.sub
  by_cases hlt : i < ds.length
  · right
    obtain ⟨hgo1, hy⟩ := hgo i ds[i] (by simp [hlt])
    refine ⟨hgo1, fun H' => ∃ gc Fc acc, LcAt C S D Fi Hi acc gc Fc H' ∧ (cpR (cpStep fg ft fb (wipeD ρ vs)) (ds.drop (i + 1)) acc gc).wp Pd NoX, fun H' n => ⟨ds.length - (i + 1), by omega, rfl, by omega, n⟩, fun x H2 y => ?_⟩
    obtain ⟨F2, e2, j2, rx⟩ := hy x H2 y
    rw [List.drop_eq_getElem_cons hlt] at w
    have w := R.wp_bind.mp w
    have L2 := L.ext nM e2 (j2 _ L.j)
    have E2 := (E.extD hn hB L2.e L2.j).wipe vs
    unfold cpStep at w
    cases hg1 : fg ds[i] (wipeD ρ vs) with
    | none => rw [hg1] at w; exact w.elim
    | some ρ2 =>
    rw [hg1] at w
    refine hg S B F0 F2 H2 _ _ gc x _ _ _ E2 rx hg1 fun σ3 E3 w3 o3 => ⟨?_, ?_⟩
    · rw [w3 vs hv, wipe_idem]
    · have hn3 : NoRef ρ2 σ3 D := fun i s hs ho => by
        obtain ⟨p1, p2⟩ := o3 i s hs ho
        rw [p2]; exact hn.wipe vs i s p1 ho
      refine ht S B F0 F2 H2 ρ2 σ3 gc _ _ _ E3 (R.wp_bind.mp w) (fun b g3 F3 H3 q4 e3 j3 => ?_) (fun _ _ _ _ _ _ z _ _ _ => z.elim)
      have L3 := L2.ext nM e3 j3
      cases b with
      | false =>
        rw [if_neg Bool.false_ne_true] at q4 ⊢
        exact ⟨g3, F3, acc, L3, q4⟩
      | true =>
        rw [if_pos rfl] at q4 ⊢
        exact hb acc g3 F3 H3 ρ2 σ3 _ _ L3 (E3.ext e3 j3) hn3 q4 fun acc' g' F' H' L' q => ⟨g', F', acc', L', q⟩
  · left
    have el : i = ds.length := by omega
    subst el
    rw [List.drop_length] at w
    exact ⟨hstop, kend acc gc Fc Hc L w⟩
/-- the item of a list comprehension -/
theorem b_lst {te : TE} {fe : EF} (he : Sm K W0 te fe) {S : Sta} {B F0 Fi Hi Fc Hc : Hp} {D : Addr} {acc : List PyData} {gc : Gs} {ρ2 : List SD} {σ2 : St} {Pd : List PyData → Gs → Prop} {Nx : Hp → Prop} (nM : ¬ S.M D)
    (L : LcAt (cLst K) S D Fi Hi acc gc Fc Hc) (E : EnvOk K S B F0 Fc Hc ρ2 σ2 gc) (h : (bLst fe ρ2 acc gc).wp Pd NoX) (k : ∀ acc' g' F' H', LcAt (cLst K) S D Fi Hi acc' g' F' H' → Pd acc' g' → Nx H') :
    te σ2 Hc fun y H4 => ∃ acc, H4 D = some (.lst acc) ∧ acc.length < sizeLine ∧ Nx (upd H4 D (.lst (acc ++ [y]))) := by
  refine he.dat E (R.wp_bind.mp h) (fun _ _ _ _ _ _ z _ _ _ => z.elim) fun y g4 v F4 H4 q5 e4 E4 ry => ?_
  have L4 := L.ext nM e4 E4.j
  by_cases c : acc.length < sizeLine
  · rw [if_pos c] at q5
    obtain ⟨o, D4, vs', rfl, r4⟩ := L4.h
    exact ⟨vs', D4, by rw [r4.length]; exact c, k _ g4 F4 _ (L4.put nM ⟨_, rfl, r4.append (.cons ry .nil)⟩) q5⟩
  · rw [if_neg c] at q5; exact q5.elim
/-- the list at the end -/
theorem lc_end {S : Sta} {F H F1 H1 Fc Hc : Hp} {g1 gc : Gs} {D : Addr} {acc : List PyData} (e : Ext S F H F1 H1) (j : S.J g1 H1) (hD : H1 D = none) (nM : ¬ S.M D) (L : LcAt (cLst K) S D F1 (upd H1 D (.lst [])) acc gc Fc Hc) :
    Ext S F H Fc Hc ∧ RepRV K S H Fc Hc (.ref D) (.nl acc) := by
  have e1 : Ext S F1 H1 Fc Hc := ⟨fun a o q m => L.e.keep a o (ne_of_none q hD) (by rw [upd_ne (ne_of_none q hD)]; exact q) m, fun a q => L.e.grow a (by
    cases q2 : H1 a with
    | none => exact absurd q2 q
    | some o => rw [upd_ne (ne_of_none q2 hD), q2]; exact fun z => by cases z), L.e.le, L.e.sub⟩
  obtain ⟨o, h1, vs, rfl, h2⟩ := L.h
  exact ⟨e.trans e1 j, D, vs, rfl, e.free j hD, nM, L.f, h1, h2⟩
theorem noRef_new {S : Sta} {B F0 F H : Hp} {ρ : List SD} {σ : St} {g : Gs} {D : Addr} (E : EnvOk K S B F0 F H ρ σ g) (hD : H D = none) : NoRef ρ σ D := fun i s hs ho hv => E.ownH hs ho hv hD
theorem sm_lc {wi : TI} {tg : TG} {tt : TT} {te : TE} {fi : EFi} {fg : EFg} {ft : EFt} {fe : EF} {is vs : List Nat} {w : Bool} (hi : SmI w K W wi fi) (hg : SmG w K tg is fg) (ht : SmT K W0 tt ft) (he : Sm K W0 te fe) (hv : ∀ i ∈ is, i ∈ vs) : Sm K W (tLc wi tg tt te vs) (fLc fi fg ft fe vs) := by
  intro S B F0 F H ρ σ g Pd Xd Q E hf k kx
  refine hi S B F0 F H ρ σ g _ Xd _ E (R.wp_bind.mp hf) (fun ds g1 F1 H1 J q e j it => ?_) kx
  have E1 := E.ext e j
  have q := R.wp_nox.mp (R.wp_bind.mp q)
  intro D hD
  have nM : ¬ S.M D := fun m => E1.okh.mt D m hD
  have n := Ext.own (S := S) (o := .lst []) E1.sub hD
  have j1 : S.J g1 (upd H1 D (.lst [])) := Fx.J.new j hD
  refine cp_turns (C := cLst K) (BODY := fun σ2 H3 Nx => te σ2 H3 fun y H4 => ∃ acc, H4 D = some (.lst acc) ∧ acc.length < sizeLine ∧ Nx (upd H4 D (.lst (acc ++ [y])))) hg ht hv nM (E1.free hD) (E1.ext n j1) (noRef_new E1 hD) (fun F' H' le sub => it F' H' le sub)
    (fun acc gc Fc Hc ρ2 σ2 Pd Nx L E2 _ h k => b_lst he nM L E2 h k) ⟨⟨fun _ _ _ q _ => q, fun _ _ => rfl, Le.refl _, n.sub, by rw [upd_same]; exact fun z => by cases z⟩, j1, ⟨_, upd_same, [], rfl, .nil⟩, E1.sub.free hD⟩ q fun acc gc Fc Hc L q => ?_
  obtain ⟨e2, rv⟩ := lc_end e j hD nM L
  exact k _ gc _ Fc Hc q e2 L.j rv
theorem sm_lc2 {wi wi1 : TI} {tg tg1 : TG} {tt tt1 : TT} {te : TE} {fi fi1 : EFi} {fg fg1 : EFg} {ft ft1 : EFt} {fe : EF} {is is1 vs vs1 : List Nat} {w w1 : Bool} (hi : SmI w K W wi fi) (hg : SmG w K tg is fg) (ht : SmT K W0 tt ft) (hi1 : SmI w1 K W0 wi1 fi1) (hg1 : SmG w1 K tg1 is1 fg1) (ht1 : SmT K W0 tt1 ft1)
    (he : Sm K W0 te fe) (hv : ∀ i ∈ is, i ∈ vs) (hv1 : ∀ i ∈ is1, i ∈ vs1) : Sm K W (tLc2 wi tg tt wi1 tg1 tt1 te vs vs1) (fLc2 fi fg ft fi1 fg1 ft1 fe vs vs1) := by
  intro S B F0 F H ρ σ g Pd Xd Q E hf k kx
  refine hi S B F0 F H ρ σ g _ Xd _ E (R.wp_bind.mp hf) (fun ds g1 F1 H1 J q e j it => ?_) kx
  have E1 := E.ext e j
  have q := R.wp_nox.mp (R.wp_bind.mp q)
  intro D hD
  have nM : ¬ S.M D := fun m => E1.okh.mt D m hD
  have n := Ext.own (S := S) (o := .lst []) E1.sub hD
  have j1 : S.J g1 (upd H1 D (.lst [])) := Fx.J.new j hD
  refine cp_turns (C := cLst K) (BODY := fun σ2 H3 Nx => wi1 σ2 H3 fun J1 H4 => ∃ W1 : Nat → Nat → Hp → Prop, (∃ m, W1 0 m H4) ∧ ∀ j k H, W1 j k H →
      (J1.stop j H ∧ Nx H) ∨ (J1.go j H ∧ ∃ Nx1 : Hp → Prop, (∀ H', Nx1 H' → ∃ k', k' < k ∧ W1 (j + 1) k' H') ∧ ∀ x H', J1.yld j H x H' → tg1 x (wipe σ2 vs1) H' fun σ3 H5 => wipe σ3 vs1 = wipe σ2 vs1 ∧ tt1 σ3 H5 fun b H6 =>
        if b = true then te σ3 H6 fun y H7 => ∃ acc, H7 D = some (.lst acc) ∧ acc.length < sizeLine ∧ Nx1 (upd H7 D (.lst (acc ++ [y]))) else Nx1 H6)) hg ht hv nM (E1.free hD) (E1.ext n j1) (noRef_new E1 hD) (fun F' H' le sub => it F' H' le sub)
    (fun acc gc Fc Hc ρ2 σ2 Pd Nx L E2 hn2 h k => ?_) ⟨⟨fun _ _ _ q _ => q, fun _ _ => rfl, Le.refl _, n.sub, by rw [upd_same]; exact fun z => by cases z⟩, j1, ⟨_, upd_same, [], rfl, .nil⟩, E1.sub.free hD⟩ q fun acc gc Fc Hc L q => ?_
  · refine hi1 S B F0 Fc Hc ρ2 σ2 gc _ _ _ E2 (R.wp_bind.mp h) (fun ds1 g3 F3 H3 J1 q3 e3 j3 it1 => ?_) (fun _ _ _ _ _ _ z _ _ _ => z.elim)
    have L3 := L.ext nM e3 j3
    exact cp_turns (C := cLst K) (BODY := fun σ2 H3 Nx => te σ2 H3 fun y H4 => ∃ acc, H4 D = some (.lst acc) ∧ acc.length < sizeLine ∧ Nx (upd H4 D (.lst (acc ++ [y])))) hg1 ht1 hv1 nM (E1.free hD) (E2.ext e3 j3) hn2 it1
      (fun acc gc Fc Hc ρ2 σ2 Pd Nx L E2 _ h k => b_lst he nM L E2 h k) L3.self q3 fun acc gc Fc Hc L4 q => k acc gc Fc Hc (L3.trans L4) q
  · obtain ⟨e2, rv⟩ := lc_end e j hD nM L
    exact k _ gc _ Fc Hc q e2 L.j rv
end
end Fx

namespace Fx
open PySem L2 RZ PySem.Spec PyProof.Rows
open PySem.AutoSeq1 (wpAny_loadPart')

/-! ### enumerate(tuple) -/
set_option maxHeartbeats 4000000 in
theorem meets_enumT (tl : Addr) (its : Array Value) (nn : Nat) (dd : Option Addr) (ss : Array (Option Value)) :
    Meets (Builtin.«enumerate.__new__» ⟨[.type "enumerate", .ref tl], []⟩) (fun _ R s => s.heap.get? tl = some { cls := .type "tuple", dict := dd, data := .seq its nn, slots := ss } ∧
      R (.ok (.ret (.ref (s.heap.push { cls := .type "tuple_iterator", data := .fields #[.ref tl, .int 0 0] }).objs.size)))
        { s with heap := (s.heap.push { cls := .type "tuple_iterator", data := .fields #[.ref tl, .int 0 0] }).push { cls := .type "enumerate", data := .fields #[.none, .bool false, .ref s.heap.objs.size, rawInt 0, .none, .none] } }) :=
  .of_wp fun _ _ _ _ s h => by
    obtain ⟨hp, g, d, tk, os⟩ := s
    obtain ⟨hl, h⟩ := h
    have hsub := sub_enumerate
    have hT : Heap.IsTuple (Shared.heap ⟨hp, g, d, tk, os⟩) tl its := ⟨_, hl, rfl, nn, rfl⟩
    wp_walk using wpAny_loadPart' hl
    refine wpAny_stack_any fun _ => wpAny_pure ?_
    split
    · rename_i c _ _ _ _ _
      cases (c == Value.type "enumerate") <;>
      · wp_walk using wpAny_loadPart' hl, wpAny_pyIter_tuple hT
        exact ⟨_, rfl, h⟩
    · wp_walk using wpAny_loadPart' hl, wpAny_pyIter_tuple hT
      exact ⟨_, rfl, h⟩
theorem call_enumT {P : Program} {w : World} {A : Around} {E : Value → Shared → Prop} {s : Shared} {tl : Addr} {its : Array Value} {Q : Value → Shared → Prop} (hT : s.heap.IsTuple tl its)
    (h : ∀ h', IsEnum h' (s.heap.objs.size + 1) s.heap.objs.size 0 .none → h'.IsTupleIter s.heap.objs.size tl 0 → (∀ b o, s.heap.get? b = some o → h'.get? b = some o) → Q (.ref (s.heap.objs.size + 1)) { s with heap := h' }) :
    wpAny (model P w) A (call (.type "enumerate") [.ref tl]) Q E s := by
  obtain ⟨⟨c, dd, dt, ss⟩, hl, hc, nn, hd⟩ := hT
  cases (show c = .type "tuple" from hc)
  cases (show dt = .seq its nn from hd)
  refine callType_new F.called_enumerate (by decide) (F.typeCall_enumerate_1 _) (F.newCall_enumerate_1 _) (fun obj => F.args_object_init_2 obj _) F.entry_enumerate_new (meets_enumT tl its nn dd ss) ⟨hl, ?_⟩
  have hz := Heap.size_push s.heap { cls := .type "tuple_iterator", data := .fields #[.ref tl, .int 0 0] }
  have he := Heap.get?_push_size (s.heap.push { cls := .type "tuple_iterator", data := .fields #[.ref tl, .int 0 0] }) (o := { cls := .type "enumerate", data := .fields #[.none, .bool false, .ref s.heap.objs.size, rawInt 0, .none, .none] }) rfl
  show _ ∧ _
  rw [hz] at he ⊢
  exact ⟨⟨_, he, rfl⟩, h _ he ⟨_, Heap.get?_push_of_some _ (Heap.get?_push_size _ rfl), rfl, rfl⟩ fun b o x => Heap.get?_push_of_some _ (Heap.get?_push_of_some _ x)⟩
/-- the tuple at p, each item in a new pair -/
def IteT (K : PySem.W.Frag) (p : Addr) : It :=
  ⟨fun i H => ∃ (xs : List V) (x : V), SqT K H p xs ∧ xs[i]? = some x,
   fun i H v H' => ∃ T x, v = .ref T ∧ H T = none ∧ H' = upd H T (.tup [.int (i : Nat), x]) ∧ ∀ xs, SqT K H p xs → xs[i]? = some x,
   fun i H => ∃ xs : List V, SqT K H p xs ∧ xs.length ≤ i⟩
theorem draws_end {P : Program} {w : World} {A : Around} (hh : A.handled = none) (it p : Addr) (items : Array Value) (i : Nat) (hx : items[i]? = none) :
    Draws P w A it [it, p] i (fun _ _ => False) (fun j h => j = i ∧ h.IsTupleIter it p j ∧ h.IsTuple p items) where
  live := fun _ _ st => let ⟨o, ho, _⟩ := st.2.1; ⟨o, ho⟩
  frame := fun _ _ _ st hk => ⟨st.1, st.2.1.at fun o e => hk it (by simp) o e, st.2.2.at fun o e => hk p (by simp) o e⟩
  item := fun j s Q E hi st hQ => absurd st.1 (by omega)
  done := fun s Q E st hE => wpAny_nextOf_tuple_end hh st.2.1 st.2.2 hx hE
theorem turn_enumT {P : Program} {w : World} {K : PySem.W.Frag} {elts : List Expr} {kk : Nat} {tpos : Pos} {p e it : Addr} (n1 : e ≠ it) (n2 : e ≠ p) (n3 : p ≠ it) :
    Turn P w K (.Tuple elts kk tpos) (IteT K p) [e, it] e (fun i h => (∃ old, IsEnum h e it ((i : Nat) : Int) old) ∧ h.IsTupleIter it p i) where
  mem := by simp
  obj := fun i h st b hb => by
    obtain ⟨⟨old, he⟩, ⟨o, ho, hc, hd⟩⟩ := st
    rcases (show b = e ∨ b = it by simpa using hb) with rfl | rfl
    · exact ⟨_, he, fun v q => nomatch q⟩
    · exact ⟨o, ho, fun v q => by rw [hd] at q; cases q⟩
  keep := fun i h h' st k => ⟨let ⟨old, he⟩ := st.1; ⟨old, k e (by simp) _ he⟩, st.2.at fun o q => k it (by simp) o q⟩
  item := by
    intro X hP hw hK hc i pins s σ H E I hf st hg
    subst hP hw hK
    obtain ⟨⟨old, he⟩, hit⟩ := st
    obtain ⟨xs, x, hq, hx⟩ := hg
    obtain ⟨its, rv, q, hz⟩ := I.tuple hq
    obtain ⟨u, hu, ru⟩ := rv.get hx
    have hel : e < s.heap.objs.size := Heap.lt_size he
    have hil : it < s.heap.objs.size := by obtain ⟨_, z, _⟩ := hit; exact Heap.lt_size z
    have hlt : i < its.toArray.size := by have := (List.getElem?_eq_some_iff.mp hu).1; simpa using this
    refine wpAny_pyNext_enum_itemC (Draws.tuple (A := X.A.in1) (I.ok.hd hc) it p n3 its.toArray) he ⟨hit, q⟩ hlt n1 (by simp [n1, n2]) fun y h' tk hy ho hs' hT hsz hk => ?_
    have ey : y = u := by
      have hy : its.toArray[i]? = some y := hy
      rw [show its.toArray[i]? = some u from by simpa using hu] at hy
      exact (Option.some.inj hy).symm
    subst ey
    refine ⟨_, rfl, wpAny_letOwnedTupleGo_enum (s := { s with heap := h', toks := tk + 1 }) ho fun h'' he' sb => ?_⟩
    have hT2 : h''.get? s.heap.objs.size = some { cls := .type "tuple", data := .seq #[.int i tk, y] } := (sb.2 _ (Nat.ne_of_gt hel)).trans hT
    have new : ObjOk X.prog X.w (upd H s.heap.objs.size (.tup [.int (i : Nat), x])) h'' s.heap.objs.size (.tup [.int (i : Nat), x]) :=
      ⟨by show 2 ≤ sizeLine; decide, [.int i tk, y], .cons ⟨_, rfl⟩ (.cons ru .nil), ⟨_, hT2, rfl, _, rfl⟩⟩
    have I1 : Inv X pins σ (upd H s.heap.objs.size (.tup [.int (i : Nat), x])) { s with heap := h'', toks := tk + 1 } :=
      I.turnedNew (ch := [e, it]) (fun b ob hb z => (sb.2 b (fun z => hb (by simp [z]))).trans (hk b ob (fun z => hb (by simp [z])) (fun z => hb (by simp [z])) z)) hf (Nat.le_refl _) new
    refine ⟨.ref s.heap.objs.size, _, I1, rfl, ⟨_, x, rfl, I.hok.fresh (Nat.le_refl _), rfl, fun ys hy => by rw [I.tuple_inj hy hq]; exact hx⟩, ⟨⟨y, ?_⟩, hs'.1.at fun o z => (sb.2 it (Ne.symm n1)).trans z⟩, fun b hb => ?_⟩
    · rw [show ((i + 1 : Nat) : Int) = (i : Int) + 1 from by omega]; exact he'
    · have hb' : b < s.heap.objs.size := by
        rcases (show b = e ∨ b = it by simpa using hb) with rfl | rfl
        · exact hel
        · exact hil
      rw [upd_ne (Nat.ne_of_lt hb')]
      exact (hf b hb).1
  done := by
    intro X hP hw hK hc i pins s σ H E I hf st hg
    subst hP hw hK
    obtain ⟨⟨old, he⟩, hit⟩ := st
    obtain ⟨xs, hq, hx⟩ := hg
    obtain ⟨its, rv, q, hz⟩ := I.tuple hq
    have hl := rv.length
    obtain ⟨f0, f1, _, f3, f4, f5⟩ := hf it (by simp)
    exact wpAny_pyNext_enum_endD (draws_end (A := X.A.in1) (I.ok.hd hc) it p its.toArray i (by simp; omega)) he ⟨rfl, hit, q⟩ fun h' eb => ⟨rfl, I.turned (t' := s.toks) (fun b o hb z => eb b o hb z) f0 f1 f3 f4 f5⟩
  self := fun A i s Q E st h => let ⟨_, he⟩ := st.1; wpAny_pyIter_enum he h
def iEnumA (K : PySem.W.Frag) (ta : TA) : TI := fun σ H R => ta σ H fun vs H1 => ∃ p xs, vs = [.ref p] ∧ ((SqL K H1 p xs ∧ R (Ite K p) H1) ∨ (SqT K H1 p xs ∧ R (IteT K p) H1))
theorem pi_enumA {X : Cx} {e : Expr} {ta : TA} {ps pos tpos : Pos} {elts : List Expr} {kk : Nat} (hg : Gl X "enumerate") (hm : X.mg "enumerate" = none) (ha : PA X [e] ta) (hs : starEach [e] X.env = [(false, eval e X.env)] := by rfl) :
    PI X (.Tuple elts kk tpos) (.Call (.Name "enumerate" ps) [e] [] pos) (iEnumA X.K ta) := by
  refine ⟨fun pins s σ H R I h => Call_ (ld_blt I hg hm boot_enumerate (PyProof.Rows.callWith_type1 (thn (ha.run pos pins s σ H _ I h) fun us s1 ⟨vs, H1, I1, r1, q1⟩ => ?_) hs rfl))⟩
  obtain ⟨p, xs, ex, q1⟩ := q1
  subst ex
  have fresh : ∀ b, b ∈ [s1.heap.objs.size + 1, s1.heap.objs.size] → s1.heap.objs.size ≤ b := fun b hb => by
    rcases (show b = s1.heap.objs.size + 1 ∨ b = s1.heap.objs.size by simpa using hb) with z | z
    · rw [z]; exact Nat.le_add_right _ _
    · rw [z]; exact Nat.le_refl _
  cases r1 with
  | cons r rr =>
    cases rr
    cases r
    rcases q1 with ⟨hq, q⟩ | ⟨hq, q⟩
    · obtain ⟨its, rv, z, _⟩ := I1.list hq
      refine call_enumerate_list z.isList fun h' he hit _ hk => wpAny_pyIter_enum he ?_
      have I2 : Inv X pins σ H1 { s1 with heap := h' } := I1.kept (t' := s1.toks) hk
      exact ⟨s1.heap.objs.size + 1, [s1.heap.objs.size + 1, s1.heap.objs.size], _, _, H1, rfl, I2, turn_enum p (s1.heap.objs.size + 1) s1.heap.objs.size, ⟨⟨.none, he⟩, hit, Nat.succ_ne_self _⟩, fun b hb => I1.fpOk (fresh b hb) (I1.hok.fresh (fresh b hb)), q⟩
    · obtain ⟨its, rv, z, _⟩ := I1.tuple hq
      refine call_enumT z fun h' he hit hk => wpAny_pyIter_enum he ?_
      have I2 : Inv X pins σ H1 { s1 with heap := h' } := I1.kept (t' := s1.toks) hk
      have pl : p < s1.heap.objs.size := by obtain ⟨_, y, _⟩ := z; exact Heap.lt_size y
      exact ⟨s1.heap.objs.size + 1, [s1.heap.objs.size + 1, s1.heap.objs.size], _, _, H1, rfl, I2, turn_enumT (p := p) (e := s1.heap.objs.size + 1) (it := s1.heap.objs.size) (Nat.succ_ne_self _) (Nat.ne_of_gt (Nat.lt_succ_of_lt pl)) (Nat.ne_of_lt pl), ⟨⟨.none, he⟩, hit⟩, fun b hb => I1.fpOk (fresh b hb) (I1.hok.fresh (fresh b hb)), q⟩
theorem walk_enumT {K : PySem.W.Frag} {p : Addr} {xs : List V} : Walk (IteT K p) xs.length (fun H => SqT K H p xs) (YPair (fun i => some (.int (i : Nat))) (fun i => xs[i]?)) := by
  refine ⟨fun j _ hj q => ⟨xs, xs[j], q, by simp [hj]⟩, fun _ z => ⟨xs, z, Nat.le_refl _⟩, fun j H v H' _ q y => ?_⟩
  obtain ⟨T, x, h1, h2, h3, h4⟩ := y
  exact ⟨T, _, x, h1, h2, h3, rfl, h4 xs q⟩
def enumD (xs : List PyData) : List PyData := (xs.zipIdx).map fun p => .tuple [.int (p.2 : Int), p.1]
def oEnumA (as : List AV) : Option (List PyData) := match allD as with
  | some [.list xs] => some (enumD xs)
  | some [.tuple xs] => some (enumD xs)
  | _ => none
def iaEnumA : EFa → EFi := iaB oEnumA
theorem oEnumA_of {as : List AV} {ds : List PyData} (h : oEnumA as = some ds) : ∃ xs, (allD as = some [.list xs] ∨ allD as = some [.tuple xs]) ∧ ds = enumD xs := by
  unfold oEnumA at h
  split at h
  · rename_i xs e; cases h; exact ⟨xs, .inl e, rfl⟩
  · rename_i xs e; cases h; exact ⟨xs, .inr e, rfl⟩
  · cases h
theorem enumD_get {K : Ck} {F : Hp} {vs : List V} {xs : List PyData} (ra : RpA K F vs xs) (i : Nat) (d : PyData) (hd : (enumD xs)[i]? = some d) :
    ∃ x y, d = .tuple [x, y] ∧ (∀ v, some (V.int (i : Nat)) = some v → Rp K F v x) ∧ ∀ v, vs[i]? = some v → Rp K F v y := by
  unfold enumD at hd
  rw [List.getElem?_map] at hd
  cases ez : xs.zipIdx[i]? with
  | none => rw [ez] at hd; cases hd
  | some z =>
    rw [ez] at hd
    cases hd
    have hp : xs[i]? = some z.1 ∧ z.2 = i := by
      rw [List.getElem?_zipIdx] at ez
      cases ex : xs[i]? with
      | none => rw [ex] at ez; cases ez
      | some x => rw [ex] at ez; cases ez; simp
    refine ⟨_, _, rfl, fun v hv => ?_, fun v hv => ?_⟩
    · cases hv; rw [hp.2]; exact Rp.int _
    · obtain ⟨d', e', r'⟩ := ra.get hv
      rw [hp.1] at e'; cases e'; exact r'
theorem smi_enumA {K : Ck} {W : WX} {t : TA} {fa : EFa} (h : SmA K W t fa) : SmI true K W (iEnumA K t) (iaEnumA fa) := by
  intro S B F0 F H ρ σ g Pd Xd Rr E hf k kx
  refine h S B F0 F H ρ σ g _ Xd _ E (R.wp_bind.mp hf) (fun as g1 vs F1 H1 q e j r => ?_) kx
  obtain ⟨ds, hd, q⟩ := R.wp_ofO q
  obtain ⟨xs, h1, rfl⟩ := oEnumA_of hd
  have E1 := E.ext e j
  have hl : (enumD xs).length = xs.length := by unfold enumD; rw [List.length_map, List.length_zipIdx]
  rcases h1 with h1 | h1
  · have ra := allD_rp r h1
    cases ra with
    | cons r1 t1 =>
      cases t1
      cases r1 with
      | @lst a vs ds hr ra => exact ⟨a, vs, rfl, .inl ⟨(Le.sqx E1.sub hr).sql, k _ g1 F1 H1 _ q e j (itok_pair walk_enum (by rw [hl, ra.length]) (enumD_get ra) (fun F' H' le sub => (Le.sqx sub (Le.sqx le hr)).sql))⟩⟩
  · have ra := allD_rp r h1
    cases ra with
    | cons r1 t1 =>
      cases t1
      cases r1 with
      | @tup a vs ds hr hk rb => exact ⟨a, vs, rfl, .inr ⟨Le.sqt E1.sub hr, k _ g1 F1 H1 _ q e j (itok_pair walk_enumT (by rw [hl, rb.length]) (enumD_get rb) (fun F' H' le sub => Le.sqt sub (Le.sqt le hr)))⟩⟩
end Fx

namespace Fx
open PySem L2

/-! ### statements -/
/-- an expression within a statement: what it raises leaves the statement at these slots -/
def R.stx {α : Type} (m : R α) (ρ : List SD) (k : α → Gs → R Out) : R Out := match m with
  | .ok a g => k a g
  | .exc x g => .ok (.ex x ρ) g
  | .bad => .bad
@[simp] theorem R.stx_ok {α : Type} (a : α) (g : Gs) (ρ : List SD) (k : α → Gs → R Out) : (R.ok a g).stx ρ k = k a g := rfl
@[simp] theorem R.stx_exc {α : Type} (x : PyData) (g : Gs) (ρ : List SD) (k : α → Gs → R Out) : (R.exc x g : R α).stx ρ k = .ok (.ex x ρ) g := rfl
def fNext : EFs := fun ρ g => .ok (.nx ρ) g
def seqO (h : EFs) (o : Out) (g : Gs) : R Out := match o with
  | .nx ρ => h ρ g
  | .rt r => .ok (.rt r) g
  | .bk ρ => .ok (.bk ρ) g
  | .ct ρ => .ok (.ct ρ) g
  | .ex x ρ => .ok (.ex x ρ) g
@[simp] theorem seqO_nx (h : EFs) (ρ : List SD) (g : Gs) : seqO h (.nx ρ) g = h ρ g := rfl
@[simp] theorem seqO_rt (h : EFs) (r : RV) (g : Gs) : seqO h (.rt r) g = .ok (.rt r) g := rfl
@[simp] theorem seqO_ex (h : EFs) (x : PyData) (ρ : List SD) (g : Gs) : seqO h (.ex x ρ) g = .ok (.ex x ρ) g := rfl
@[simp] theorem seqO_bk (h : EFs) (ρ : List SD) (g : Gs) : seqO h (.bk ρ) g = .ok (.bk ρ) g := rfl
@[simp] theorem seqO_ct (h : EFs) (ρ : List SD) (g : Gs) : seqO h (.ct ρ) g = .ok (.ct ρ) g := rfl
def fSeq (f h : EFs) : EFs := fun ρ g => (f ρ g).bind (seqO h)
def fSet (i : Nat) (fe : EF) : EFs := fun ρ g => (fe ρ g).stx ρ fun r g' => .ok (.nx (ρ.set i (sdRV r))) g'
def fAsg (fe : EF) (fg : EFg) : EFs := fun ρ g => (fDat fe ρ g).stx ρ fun x g' => (R.ofO (fg x ρ) g').bind fun ρ' g2 => .ok (.nx ρ') g2
def fPar (i j : Nat) (f1 f2 : EF) : EFs := fun ρ g => (f1 ρ g).stx ρ fun r1 g1 => (f2 ρ g1).stx ρ fun r2 g2 => .ok (.nx ((ρ.set i (sdRV r1)).set j (sdRV r2))) g2
def fRet (fe : EF) : EFs := fun ρ g => (fe ρ g).stx ρ fun r g' => .ok (.rt r) g'
def rtSD (s : Option SD) (g : Gs) : R Out := match s with
  | some (.d x) => .ok (.rt (.d x)) g
  | some (.o v) => .ok (.rt (.o v)) g
  | some (.own xs) => .ok (.rt (.nl xs)) g
  | some (.dic t ks) => .ok (.rt (.nd t ks)) g
  | _ => .bad
@[simp] theorem rtSD_d (x : PyData) (g : Gs) : rtSD (some (.d x)) g = .ok (.rt (.d x)) g := rfl
@[simp] theorem rtSD_own (x : List PyData) (g : Gs) : rtSD (some (.own x)) g = .ok (.rt (.nl x)) g := rfl
@[simp] theorem rtSD_dic (t : Bool) (x : List (PyData × PyData)) (g : Gs) : rtSD (some (.dic t x)) g = .ok (.rt (.nd t x)) g := rfl
def fRetV (i : Nat) : EFs := fun ρ g => rtSD ρ[i]? g
def fRetN : EFs := fun _ g => .ok (.rt (.d .none)) g
def fIfS (ft : EFt) (f h : EFs) : EFs := fun ρ g => (ft ρ g).stx ρ fun b g' => if b = true then f ρ g' else h ρ g'
def fDrop (fe : EF) : EFs := fun ρ g => (fe ρ g).stx ρ fun _ g' => .ok (.nx ρ) g'
def fNever : EFs := fun _ _ => .bad
def fBreak : EFs := fun ρ g => .ok (.bk ρ) g
def fCont : EFs := fun ρ g => .ok (.ct ρ) g
def ownSD {α : Type} (s : Option SD) (k : List PyData → R α) : R α := match s with
  | some (.own xs) => k xs
  | _ => .bad
@[simp] theorem ownSD_own {α : Type} (xs : List PyData) (k : List PyData → R α) : ownSD (some (.own xs)) k = k xs := rfl
theorem ownSD_wp {α : Type} {s : Option SD} {k : List PyData → R α} {P : α → Gs → Prop} {X : PyData → Gs → Prop} (h : (ownSD s k).wp P X) : ∃ xs, s = some (.own xs) ∧ (k xs).wp P X := by
  unfold ownSD at h
  split at h
  · exact ⟨_, rfl, h⟩
  · exact h.elim
def fApp (i : Nat) (fe : EF) : EFs := fun ρ g => ownSD ρ[i]? fun xs => (fDat fe ρ g).stx ρ fun y g' => if xs.length < sizeLine then .ok (.nx (ρ.set i (.own (xs ++ [y])))) g' else .bad
def forO (k : List SD → Gs → R Out) (o : Out) (g : Gs) : R Out := match o with
  | .nx ρ => k ρ g
  | .ct ρ => k ρ g
  | .bk ρ => .ok (.nx ρ) g
  | .rt r => .ok (.rt r) g
  | .ex x ρ => .ok (.ex x ρ) g
@[simp] theorem forO_nx (h : List SD → Gs → R Out) (ρ : List SD) (g : Gs) : forO h (.nx ρ) g = h ρ g := rfl
@[simp] theorem forO_ct (h : List SD → Gs → R Out) (ρ : List SD) (g : Gs) : forO h (.ct ρ) g = h ρ g := rfl
@[simp] theorem forO_bk (h : List SD → Gs → R Out) (ρ : List SD) (g : Gs) : forO h (.bk ρ) g = .ok (.nx ρ) g := rfl
@[simp] theorem forO_rt (h : List SD → Gs → R Out) (r : RV) (g : Gs) : forO h (.rt r) g = .ok (.rt r) g := rfl
@[simp] theorem forO_ex (h : List SD → Gs → R Out) (x : PyData) (ρ : List SD) (g : Gs) : forO h (.ex x ρ) g = .ok (.ex x ρ) g := rfl
def forR (fg : EFg) (fb : EFs) : List PyData → List SD → Gs → R Out
  | [], ρ, g => .ok (.nx ρ) g
  | d :: ds, ρ, g => match fg d ρ with
    | none => .bad
    | some ρ1 => (fb ρ1 g).bind (forO (forR fg fb ds))
def fFor (fi : EFi) (fg : EFg) (fb : EFs) : EFs := fun ρ g => (fi ρ g).stx ρ fun ds g1 => forR fg fb ds ρ g1
def whR (ft : EFt) (fb : EFs) : Nat → List SD → Gs → R Out
  | 0, _, _ => .bad
  | n + 1, ρ, g => (ft ρ g).stx ρ fun b g1 => if b = true then (fb ρ g1).bind (forO (whR ft fb n)) else .ok (.nx ρ) g1
open Classical in
noncomputable def fWhile (ft : EFt) (fb : EFs) : EFs := fun ρ g => if h : ∃ n, whR ft fb n ρ g ≠ .bad then whR ft fb (Classical.choose h) ρ g else .bad
theorem whR_mono (ft : EFt) (fb : EFs) : ∀ (n m : Nat) (ρ : List SD) (g : Gs), n ≤ m → whR ft fb n ρ g ≠ .bad → whR ft fb m ρ g = whR ft fb n ρ g
  | 0, _, _, _, _, h => absurd rfl h
  | n + 1, 0, _, _, e, _ => by omega
  | n + 1, m + 1, ρ, g, e, h => by
    unfold whR at h ⊢
    cases ht : ft ρ g with
    | bad => rfl
    | exc x g => rfl
    | ok b g1 =>
      rw [ht] at h
      simp only [R.stx_ok] at h ⊢
      cases b with
      | false => rfl
      | true =>
        simp only [if_true] at h ⊢
        cases hb : fb ρ g1 with
        | bad => rfl
        | exc x g => rfl
        | ok o g2 =>
          rw [hb] at h
          cases o with
          | nx ρ' => exact whR_mono ft fb n m ρ' g2 (by omega) h
          | ct ρ' => exact whR_mono ft fb n m ρ' g2 (by omega) h
          | bk ρ' => rfl
          | rt r => rfl
          | ex x ρ' => rfl
theorem fWhile_eq {ft : EFt} {fb : EFs} {n : Nat} {ρ : List SD} {g : Gs} {r : R Out} (h : whR ft fb n ρ g = r) (hr : r ≠ .bad) : fWhile ft fb ρ g = r := by
  subst h
  unfold fWhile
  have hx : ∃ n, whR ft fb n ρ g ≠ .bad := ⟨n, hr⟩
  rw [dif_pos hx]
  have h1 := whR_mono ft fb _ (max n (Classical.choose hx)) ρ g (Nat.le_max_right _ _) (Classical.choose_spec hx)
  have h2 := whR_mono ft fb n (max n (Classical.choose hx)) ρ g (Nat.le_max_left _ _) hr
  exact h1.symm.trans h2
theorem fWhile_wp {ft : EFt} {fb : EFs} {ρ : List SD} {g : Gs} {P : Out → Gs → Prop} (h : (fWhile ft fb ρ g).wp P NoX) : ∃ n, (whR ft fb n ρ g).wp P NoX := by
  unfold fWhile at h
  split at h
  · exact ⟨_, h⟩
  · exact h.elim
/-- a name's list is frozen -/
def fzSD (s : Option SD) : Option (Option SD) := match s with
  | some (.own xs) => some (some (.d (.list xs)))
  | some (.dic t ks) => if t = false ∨ ks ≠ [] then some (some (.d (.dict ks))) else none
  | some (.ins nm fs) => some (some (.d (objD nm fs)))
  | _ => some none
def fFz (i : Nat) (f : EFs) : EFs := fun ρ g => match fzSD ρ[i]? with
  | some (some s) => f (ρ.set i s) g
  | some none => f ρ g
  | none => .bad
mutual
/-- no list, no dict in it -/
def noL : PyData → Bool
  | .list _ => false
  | .dict _ => false
  | .tuple xs => noLA xs
  | _ => true
def noLA : List PyData → Bool
  | [] => true
  | x :: xs => noL x && noLA xs
end
/-- a name's list is looked at while an expression is, which gives a plain value -/
def plainRV : RV → Bool
  | .d x => noL x
  | .nl xs => noLA xs
  | .o _ => true
  | _ => false
def grd (m : R RV) : R RV := match m with
  | .ok r g => if plainRV r = true then .ok r g else .bad
  | _ => .bad
def fBor (i : Nat) (f : EF) : EF := fun ρ g => match fzSD ρ[i]? with
  | some (some s) => grd (f (ρ.set i s) g)
  | some none => f ρ g
  | none => .bad
def fBorT (i : Nat) (f : EFt) : EFt := fun ρ g => match fzSD ρ[i]? with
  | some (some s) => (f (ρ.set i s) g).nox
  | some none => f ρ g
  | none => .bad
section
variable {K : Ck} {W : WX} {S : Sta} {B F0 F H : Hp} {ρ : List SD} {σ : St} {g : Gs} {D : Ends}
theorem sms_next : SmS K W tNext fNext := fun S B F0 F H ρ σ g D E h => h σ F H E
theorem EndOk.exs {Dx : Ends} {o : Out} {g : Gs} (h : EndOk K W S B F0 D o g) (hn : ∀ ρ, o = .nx ρ → EndOk K W S B F0 Dx o g) (hr : Dx.rt = D.rt) (hb : ∀ ρ, o = .bk ρ → EndOk K W S B F0 Dx o g) (hc : ∀ ρ, o = .ct ρ → EndOk K W S B F0 Dx o g) : EndOk K W S B F0 Dx o g := by
  cases o with
  | nx ρ => exact hn ρ rfl
  | rt r => intro v F H q; rw [hr]; exact h v F H q
  | bk ρ => exact hb ρ rfl
  | ct ρ => exact hc ρ rfl
  | ex x ρ => exact h
theorem sms_seq {t u : TS} {f h : EFs} (h1 : SmS K W t f) (h2 : SmS K W u h) : SmS K W (tSeq t u) (fSeq f h) := fun S B F0 F H ρ σ g D E hf =>
  h1 S B F0 F H ρ σ g _ E (R.wp_imp (R.wp_bind.mp hf) (fun o g' q => by
    cases o with
    | nx ρ' => exact fun σ' F' H' E' => h2 S B F0 F' H' ρ' σ' g' D E' q
    | rt r => exact q
    | bk ρ' => exact q
    | ct ρ' => exact q
    | ex x ρ' => exact q) fun _ _ z => z)
/-- what is raised within a statement -/
theorem stx_wp {α : Type} {m : R α} {k : α → Gs → R Out} {P : Out → Gs → Prop} {X : PyData → Gs → Prop} (h : (m.stx ρ k).wp P X) : m.wp (fun a g' => (k a g').wp P X) (fun x g' => P (.ex x ρ) g') := by
  cases m <;> exact h
theorem stx_x {t : Prop} {P : Out → Gs → Prop} (E : EnvOk K S B F0 F H ρ σ g) : XOk K W S F H σ (fun x g' => EndOk K W S B F0 D (.ex x ρ) g') := fun x g' cls d F' H' q e j er =>
  q σ F' H' cls d (E.ext e j) (er.wide fun a ha => E.free ha)
theorem sdRV_ok {r : RV} {v : V} {H0 : Hp} (rv : RepRV K S H0 F H v r) (hb : ∀ a, H0 a = none → B a = none) : SlotOk K S B F H (sdRV r) (some v) := by
  cases r with
  | d x => exact ⟨v, rfl, rv⟩
  | o u => cases rv; rfl
  | nl xs =>
    obtain ⟨a, vs, rfl, h1, h2, h3, h4, h5⟩ := rv
    exact ⟨a, rfl, hb a h1, h2, h3, vs, h4, h5⟩
  | nd t ks =>
    obtain ⟨a, n, rfl, h1, h2, h3, h4, h5, h6⟩ := rv
    exact ⟨a, rfl, hb a h1, h2, h3, n, h4, h5, h6⟩
theorem sdRV_own {r : RV} {v : V} {H0 : Hp} (rv : RepRV K S H0 F H v r) (o : (sdRV r).owner = true) : ∃ a, v = .ref a ∧ H0 a = none ∧ H a ≠ none := by
  cases r with
  | d x => cases o
  | o u => cases o
  | nl xs =>
    obtain ⟨a, vs, rfl, h1, h2, h3, h4, h5⟩ := rv
    exact ⟨a, rfl, h1, by rw [h4]; exact fun z => by cases z⟩
  | nd t ks =>
    obtain ⟨a, n, rfl, h1, h2, h3, h4, h5, h6⟩ := rv
    exact ⟨a, rfl, h1, by rw [h4]; exact fun z => by cases z⟩
theorem setRV_ok {i : Nat} {r : RV} {v : V} {H0 : Hp} (E : EnvOk K S B F0 F H ρ σ g) (rv : RepRV K S H0 F H v r) (hb : ∀ a, H0 a = none → B a = none) (hn : ∀ (a : Addr) (l : Nat) (t : SD), ρ[l]? = some t → t.owner = true → σ[l]? = some (some (.ref a)) → H0 a ≠ none) :
    EnvOk K S B F0 F H (ρ.set i (sdRV r)) (σ.set i (some v)) g := E.set (sdRV_ok rv hb) fun o k t hk ho hv => by
  obtain ⟨a, rfl, h0, _⟩ := sdRV_own rv o
  exact hn a k t hk ho hv h0
theorem sms_set {te : TE} {fe : EF} (i : Nat) (h : Sm K W te fe) : SmS K W (tAsg te (gName i)) (fSet i fe) := by
  intro S B F0 F H ρ σ g D E hf
  refine h S B F0 F H ρ σ g _ _ _ E (stx_wp hf) (fun r g' v F' H' q e j rv => ?_) (stx_x (t := True) (P := fun _ _ => True) E)
  exact q _ _ _ (setRV_ok (E.ext e j) rv (fun a ha => E.free ha) (fun a l t ht ho hv => E.ownH ht ho hv))
theorem sms_asg {te : TE} {fe : EF} {tg : TG} {is : List Nat} {fg : EFg} (h : Sm K W te fe) (hg : SmG false K tg is fg) : SmS K W (tAsg te tg) (fAsg fe fg) := by
  intro S B F0 F H ρ σ g D E hf
  refine h.dat E (stx_wp hf) (stx_x (t := True) (P := fun _ _ => True) E) fun x g' v F' H' q e E' r => ?_
  obtain ⟨ρ', h1, h2⟩ := R.wp_ofO (R.wp_bind.mp q)
  exact hg S B F0 F' H' ρ σ g' v x ρ' _ E' (.inl r) h1 fun σ' E2 _ _ => h2 _ _ _ E2
theorem RepRV.ext {H0 F' H' : Hp} {v : V} {r : RV} (h : RepRV K S H0 F H v r) (e : Ext S F H F' H') : RepRV K S H0 F' H' v r := by
  cases r with
  | d x => exact Rp.mono e.le h
  | o u => exact h
  | nl xs =>
    obtain ⟨a, vs, rfl, h1, h2, h3, h4, h5⟩ := h
    exact ⟨a, vs, rfl, h1, h2, (e.grow a (by rw [h4]; exact fun z => by cases z)).trans h3, e.keep a _ h4 h2, h5.mono e.le⟩
  | nd t ks =>
    obtain ⟨a, n, rfl, h1, h2, h3, h4, ht, h5⟩ := h
    exact ⟨a, n, rfl, h1, h2, (e.grow a (by rw [h4]; exact fun z => by cases z)).trans h3, e.keep a _ h4 h2, ht, h5.mono e.le⟩
theorem par_ok {i j : Nat} {r1 r2 : RV} {v1 v2 : V} {F1 H1 F2 H2 : Hp} {g1 g2 : Gs} (E : EnvOk K S B F0 F H ρ σ g) (E1 : EnvOk K S B F0 F1 H1 ρ σ g1) (E2 : EnvOk K S B F0 F2 H2 ρ σ g2) (rv1 : RepRV K S H F1 H1 v1 r1) (rv1' : RepRV K S H F2 H2 v1 r1) (rv2 : RepRV K S H1 F2 H2 v2 r2) :
    EnvOk K S B F0 F2 H2 ((ρ.set i (sdRV r1)).set j (sdRV r2)) ((σ.set i (some v1)).set j (some v2)) g2 := by
  have E3 := setRV_ok (i := i) E2 rv1' (fun a ha => E.free ha) (fun a l t ht ho hv => E.ownH ht ho hv)
  refine setRV_ok (i := j) E3 rv2 (fun a ha => E1.free ha) (fun a l t ht ho hv => ?_)
  rcases set_get ht with ⟨rfl, hl, rfl⟩ | ⟨e, ht⟩
  · obtain ⟨b, rfl, _, q⟩ := sdRV_own rv1 ho
    rw [List.getElem?_set_self (by rw [E2.len]; exact hl)] at hv
    cases hv
    exact q
  · rw [List.getElem?_set_ne (Ne.symm e)] at hv
    exact E1.ownH ht ho hv
theorem sms_par {t1 t2 : TE} {f1 f2 : EF} (i j : Nat) (h1 : Sm K W t1 f1) (h2 : Sm K W t2 f2) : SmS K W (tPar i j (tCons t1 (tCons t2 tNil))) (fPar i j f1 f2) := by
  intro S B F0 F H ρ σ g D E hf
  refine h1 S B F0 F H ρ σ g _ _ _ E (stx_wp hf) (fun r1 g1 v1 F1 H1 q1 e1 j1 rv1 => ?_) (stx_x (t := True) (P := fun _ _ => True) E)
  have E1 := E.ext e1 j1
  refine h2 S B F0 F1 H1 ρ σ g1 _ _ _ E1 (stx_wp q1) (fun r2 g2 v2 F2 H2 q2 e2 j2 rv2 => ?_) (stx_x (t := True) (P := fun _ _ => True) E1)
  have E2 := E1.ext e2 j2
  exact ⟨v1, v2, rfl, q2 _ _ _ (par_ok E E1 E2 rv1 (rv1.ext e2) rv2)⟩
theorem sms_parT {t1 t2 : TE} {f1 f2 : EF} (i j : Nat) (h1 : Sm K W t1 f1) (h2 : Sm K W t2 f2) : SmS K W (tAsg (tTup (tCons t1 (tCons t2 tNil))) (gTup K 2 (gCons (gName i) (gCons (gName j) gNil)))) (fPar i j f1 f2) := by
  intro S B F0 F H ρ σ g D E hf
  refine h1 S B F0 F H ρ σ g _ _ _ E (stx_wp hf) (fun r1 g1 v1 F1 H1 q1 e1 j1 rv1 => ?_) (stx_x (t := True) (P := fun _ _ => True) E)
  have E1 := E.ext e1 j1
  refine h2 S B F0 F1 H1 ρ σ g1 _ _ _ E1 (stx_wp q1) (fun r2 g2 v2 F2 H2 q2 e2 j2 rv2 => ?_) (stx_x (t := True) (P := fun _ _ => True) E1)
  have E2 := E1.ext e2 j2
  refine ⟨by show 2 ≤ sizeLine; decide, fun p hp => ?_⟩
  have n := Ext.own (S := S) (o := .tup [v1, v2]) E2.sub hp
  have E3 := E2.ext n (J.new j2 hp)
  exact ⟨p, [v1, v2], rfl, .inl (.inl upd_same), rfl, v1, [v2], rfl, v2, [], rfl, rfl, q2 _ _ _ (par_ok E E1 E3 rv1 ((rv1.ext e2).ext n) (rv2.ext n))⟩
theorem EnvOk.ret (E : EnvOk K S B F0 F H ρ σ g) {v : V} {r : RV} (rv : RepRV K S B F H v r) : RetOk K S B F0 F H v r g := ⟨E.sub, E.mono, E.fz, E.keep, E.j, rv⟩
theorem sms_ret {te : TE} {fe : EF} (h : Sm K W te fe) : SmS K W (tRet te) (fRet fe) := by
  intro S B F0 F H ρ σ g D E hf
  refine h S B F0 F H ρ σ g _ _ _ E (stx_wp hf) (fun r g' v F' H' q e j rv => ?_) (stx_x (t := True) (P := fun _ _ => True) E)
  exact q v F' H' ((E.ext e j).ret (rv.wide fun a ha => E.free ha))
theorem sms_retV (i : Nat) : SmS K W (tRet (tVar i)) (fRetV i) := by
  intro S B F0 F H ρ σ g D E hf
  unfold fRetV at hf
  cases e : ρ[i]? with
  | none => rw [e] at hf; exact hf.elim
  | some s =>
    rw [e] at hf
    obtain ⟨v, h1, h2⟩ := E.sl i s e
    cases s with
    | u => exact hf.elim
    | d x =>
      obtain ⟨w, rfl, h3⟩ := h2
      exact ⟨w, h1, hf w F H (E.ret h3)⟩
    | o w =>
      cases h2
      exact ⟨w, h1, hf w F H (E.ret rfl)⟩
    | own xs =>
      obtain ⟨a, rfl, b1, b2, b3, vs, b4, b5⟩ := h2
      exact ⟨_, h1, hf _ F H (E.ret ⟨a, vs, rfl, b1, b2, b3, b4, b5⟩)⟩
    | dic t ks =>
      obtain ⟨a, rfl, b1, b2, b3, n, b4, b5, b6⟩ := h2
      exact ⟨_, h1, hf _ F H (E.ret ⟨a, n, rfl, b1, b2, b3, b4, b5, b6⟩)⟩
    | ins nm fs => exact hf.elim
theorem sms_retN : SmS K W tRetN fRetN := fun S B F0 F H ρ σ g D E hf => hf _ F H (E.ret Rp.non)
theorem sms_if {c : TT} {t u : TS} {ft : EFt} {f h : EFs} (hc : SmT K W c ft) (h1 : SmS K W t f) (h2 : SmS K W u h) : SmS K W (tIfS c t u) (fIfS ft f h) := by
  intro S B F0 F H ρ σ g D E hf
  refine hc S B F0 F H ρ σ g _ _ _ E (stx_wp hf) (fun b g' F' H' q e j => ?_) (stx_x (t := True) (P := fun _ _ => True) E)
  cases b with
  | true => exact h1 S B F0 F' H' ρ σ g' D (E.ext e j) q
  | false => exact h2 S B F0 F' H' ρ σ g' D (E.ext e j) q
theorem sms_drop {te : TE} {fe : EF} (h : Sm K W te fe) : SmS K W (tDrop te) (fDrop fe) := by
  intro S B F0 F H ρ σ g D E hf
  exact h S B F0 F H ρ σ g _ _ _ E (stx_wp hf) (fun r g' v F' H' q e j rv => q _ _ _ (E.ext e j)) (stx_x (t := True) (P := fun _ _ => True) E)
theorem sms_never : SmS K W tNever fNever := fun S B F0 F H ρ σ g D E hf => hf
theorem sms_break : SmS K W tBreak fBreak := fun S B F0 F H ρ σ g D E h => h _ _ _ E
theorem sms_cont : SmS K W tCont fCont := fun S B F0 F H ρ σ g D E h => h _ _ _ E
/-- an owned object changes -/
theorem EnvOk.mut (E : EnvOk K S B F0 F H ρ σ g) {i : Nat} {s s' : SD} {a : Addr} {o : HO} (hs : ρ[i]? = some s) (ho : s.owner = true) (hv : σ[i]? = some (some (.ref a))) (ho' : s'.owner = true) (hn : ∀ H', H' a = some o → OwnAt K F H' a s') : EnvOk K S B F0 F (upd H a o) (ρ.set i s') σ g := by
  obtain ⟨v, h1, h2⟩ := E.sl i s hs
  have hi : i < ρ.length := (List.getElem?_eq_some_iff.mp hs).1
  obtain ⟨b, e1, hB, hM, hF, own⟩ := h2.at ho
  subst e1
  rw [hv] at h1
  cases h1
  refine ⟨E.st, fun x u e => ?_, E.mono, E.fz, fun x u e m => ?_, E.mF, S.ok _ _ _ E.j fun x m => upd_ne fun z => hM (z ▸ m), by simp [E.len], fun k t ht => ?_, fun k l t1 t2 q1 q2 o1 o2 e => ?_⟩
  · rw [upd_ne (fun z => by rw [z, hF] at e; cases e)]
    exact E.sub x u e
  · rw [upd_ne (fun z => by rw [z, hB] at e; cases e)]
    exact E.keep x u e m
  · rcases set_get ht with ⟨rfl, _, rfl⟩ | ⟨ek, ht⟩
    · exact ⟨_, hv, .of ho' hB hM hF (hn _ upd_same)⟩
    · obtain ⟨w, w1, w2⟩ := E.sl k t ht
      refine ⟨w, w1, w2.to (Le.refl F) fun b hb hbo => ⟨rfl, upd_ne fun z => ?_⟩⟩
      subst z hb
      exact ek (E.dist k i t s ht hs hbo ho (by rw [w1, hv]))
  · have red : ∀ {k : Nat} {t : SD}, (ρ.set i s')[k]? = some t → t.owner = true → ∃ t', ρ[k]? = some t' ∧ t'.owner = true := fun {k t} e o => by
      rcases set_get e with ⟨rfl, _, rfl⟩ | ⟨_, e⟩
      · exact ⟨s, hs, ho⟩
      · exact ⟨t, e, o⟩
    obtain ⟨t1', p1, p2⟩ := red q1 o1
    obtain ⟨t2', p3, p4⟩ := red q2 o2
    exact E.dist k l t1' t2' p1 p3 p2 p4 e
theorem sms_app {te : TE} {fe : EF} (i : Nat) (h : Sm K W te fe) : SmS K W (tDrop (tBM K "list" rAppend (tVar i) (tCons te tNil))) (fApp i fe) := by
  intro S B F0 F H ρ σ g D E hf
  obtain ⟨xs, e, hf⟩ := ownSD_wp hf
  obtain ⟨w, h1, h2⟩ := E.sl i _ e
  obtain ⟨a, rfl, b1, b2, b3, vs, b4, b5⟩ := id h2
  refine ⟨.ref a, h1, .inl ⟨rfl, vs, .inl (.inl b4)⟩, ?_⟩
  refine h.dat E (stx_wp hf) (stx_x (t := True) (P := fun _ _ => True) E) fun y g' v F' H' q e' E' r => ?_
  obtain ⟨w', h1', h2'⟩ := E'.sl i _ e
  rw [h1] at h1'
  cases h1'
  obtain ⟨a', ha, c1, c2, c3, vs', c4, c5⟩ := id h2'
  cases ha
  by_cases c : xs.length < sizeLine
  · rw [if_pos c] at q
    exact ⟨a, vs', v, rfl, rfl, c4, by rw [c5.length]; exact c, q _ _ _ (E'.mut e rfl h1 rfl fun H2 h2 => ⟨_, h2, c5.append (.cons r .nil)⟩)⟩
  · rw [if_neg c] at q; exact q.elim
theorem sms_for {wi : TI} {tg : TG} {tb : TS} {fi : EFi} {fg : EFg} {fb : EFs} {is : List Nat} {w : Bool} (hi : SmI w K W wi fi) (hg : SmG w K tg is fg) (hb : SmS K W tb fb) : SmS K W (tFor wi tg tb) (fFor fi fg fb) := by
  intro S B F0 F H ρ σ g D E hf
  refine hi S B F0 F H ρ σ g _ _ _ E (stx_wp hf) (fun ds g1 F1 H1 J q e j it => ?_) (stx_x (t := True) (P := fun _ _ => True) E)
  have E1 := E.ext e j
  refine ⟨fun i m σc Hc => m = ds.length - i ∧ i ≤ ds.length ∧ ∃ ρc gc Fc, EnvOk K S B F1 Fc Hc ρc σc gc ∧ (forR fg fb (ds.drop i) ρc gc).wp (EndOk K W S B F0 D) NoX, ⟨ds.length, rfl, Nat.zero_le _, ρ, g1, F1, E1.rebase, q⟩, ?_⟩
  rintro i m σc Hc ⟨rfl, hil, ρc, gc, Fc, Ec, w⟩
  obtain ⟨hgo, hstop⟩ := it Fc Hc Ec.mono Ec.sub
  by_cases hlt : i < ds.length
  · right
    obtain ⟨hgo1, hy⟩ := hgo i ds[i] (by simp [hlt])
    refine ⟨hgo1, fun σ' H' => ∃ ρc gc Fc, EnvOk K S B F1 Fc H' ρc σ' gc ∧ (forR fg fb (ds.drop (i + 1)) ρc gc).wp (EndOk K W S B F0 D) NoX, fun σ' H' n => ⟨ds.length - (i + 1), by omega, rfl, by omega, n⟩, fun x H2 y => ?_⟩
    obtain ⟨F2, e2, j2, rx⟩ := hy x H2 y
    rw [List.drop_eq_getElem_cons hlt] at w
    unfold forR at w
    cases hg1 : fg ds[i] ρc with
    | none => rw [hg1] at w; exact w.elim
    | some ρ2 =>
    rw [hg1] at w
    have E2 := Ec.ext e2 (j2 _ Ec.j)
    refine hg S B F1 F2 H2 _ _ gc x _ _ _ E2 rx hg1 fun σ3 E3 _ _ => ?_
    refine hb S B F1 F2 H2 ρ2 σ3 gc _ E3 (R.wp_imp (R.wp_bind.mp w) (fun o g' q => ?_) fun _ _ z => z)
    cases o with
    | nx ρ' => exact fun σ' F' H' E' => ⟨ρ', g', F', E', q⟩
    | ct ρ' => exact fun σ' F' H' E' => ⟨ρ', g', F', E', q⟩
    | bk ρ' => exact fun σ' F' H' E' => q _ _ _ (EnvOk.unbase E1 E')
    | rt r => exact fun v F' H' R => q v F' H' ⟨R.sub, E1.mono.trans R.mono, fun a h => (R.fz a h).trans (E1.fz a h), R.keep, R.j, R.rv⟩
    | ex x ρ' => exact fun σ' F' H' cls d E' er => q σ' F' H' cls d (EnvOk.unbase E1 E') er
  · left
    have el : i = ds.length := by omega
    subst el
    rw [List.drop_length] at w
    exact ⟨hstop, w _ _ _ (EnvOk.unbase E1 Ec)⟩
theorem sms_while {c : TT} {tb : TS} {ft : EFt} {fb : EFs} (hc : SmT K W c ft) (hb : SmS K W tb fb) : SmS K W (tWhile c tb) (fWhile ft fb) := by
  intro S B F0 F H ρ σ g D E hf
  obtain ⟨n, hf⟩ := fWhile_wp hf
  refine ⟨fun m σc Hc => ∃ ρc gc Fc, EnvOk K S B F0 Fc Hc ρc σc gc ∧ (whR ft fb m ρc gc).wp (EndOk K W S B F0 D) NoX, ⟨n, ρ, g, F, E, hf⟩, ?_⟩
  rintro m σc Hc ⟨ρc, gc, Fc, Ec, w⟩
  cases m with
  | zero => exact w.elim
  | succ m =>
    refine hc S B F0 Fc Hc ρc σc gc _ _ _ Ec (stx_wp w) (fun b g' F' H' q e j => ?_) (stx_x (t := True) (P := fun _ _ => True) Ec)
    cases b with
    | false =>
      rw [if_neg Bool.false_ne_true] at q ⊢
      exact q _ _ _ (Ec.ext e j)
    | true =>
      rw [if_pos rfl] at q ⊢
      refine ⟨fun σ' H' => ∃ ρc gc Fc, EnvOk K S B F0 Fc H' ρc σ' gc ∧ (whR ft fb m ρc gc).wp (EndOk K W S B F0 D) NoX, fun σ' H' n => ⟨m, Nat.lt_succ_self m, n⟩, ?_⟩
      refine hb S B F0 F' H' ρc σc g' _ (Ec.ext e j) (R.wp_imp (R.wp_bind.mp q) (fun o g' q => ?_) fun _ _ z => z)
      cases o with
      | nx ρ' => exact fun σ' F' H' E' => ⟨ρ', g', F', E', q⟩
      | ct ρ' => exact fun σ' F' H' E' => ⟨ρ', g', F', E', q⟩
      | bk ρ' => exact q
      | rt r => exact q
      | ex x ρ' => exact q
/-- an owned object is frozen -/
theorem EnvOk.frz (E : EnvOk K S B F0 F H ρ σ g) {i : Nat} {s s' : SD} (hs : fzSD ρ[i]? = some (some s')) : ∃ a x o, σ[i]? = some (some (.ref a)) ∧ s' = .d x ∧ F a = none ∧ ¬ S.M a ∧ H a = some o ∧ EnvOk K S B F0 (upd F a o) H (ρ.set i s') σ g ∧ Le F (upd F a o) := by
  have main : ∀ (s : SD) (x : PyData), ρ[i]? = some s → s.owner = true → (∀ a o F', σ[i]? = some (some (.ref a)) → OwnAt K F H a s → H a = some o → F' a = some o → Le F F' → Rp K F' (.ref a) x) → ∃ a o, σ[i]? = some (some (.ref a)) ∧ F a = none ∧ ¬ S.M a ∧ H a = some o ∧ EnvOk K S B F0 (upd F a o) H (ρ.set i (.d x)) σ g ∧ Le F (upd F a o) := by
    intro s x hs ho hx
    obtain ⟨v, h1, h2⟩ := E.sl i s hs
    obtain ⟨a, rfl, hB, hM, hF, own⟩ := h2.at ho
    obtain ⟨o, hH⟩ := own.there
    have le : Le F (upd F a o) := fun y u e => by rw [upd_ne (ne_of_none e hF)]; exact e
    refine ⟨a, o, h1, hF, hM, hH, ⟨E.st, fun y u e => ?_, E.mono.trans le, fun y h => ?_, E.keep, fun y m => ?_, E.j, by simp [E.len], fun k t ht => ?_, fun k l t1 t2 q1 q2 o1 o2 e => ?_⟩, le⟩
    · by_cases z : y = a
      · subst z; rw [upd_same] at e; rw [hH]; exact e
      · rw [upd_ne z] at e; exact E.sub _ _ e
    · rw [upd_ne (fun z => h (by rw [z]; exact hB))]; exact E.fz y h
    · rw [upd_ne (fun z => hM (by rw [← z]; exact m))]; exact E.mF y m
    · rcases set_get ht with ⟨rfl, _, rfl⟩ | ⟨ek, ht⟩
      · exact ⟨_, h1, _, rfl, hx a o _ h1 own hH upd_same le⟩
      · obtain ⟨w, w1, w2⟩ := E.sl k t ht
        refine ⟨w, w1, w2.to le fun b hb hbo => ⟨upd_ne fun z => ?_, rfl⟩⟩
        subst z hb
        exact ek (E.dist k i t s ht hs hbo ho (by rw [w1, h1]))
    · rcases set_get q1 with ⟨_, _, r⟩ | ⟨_, q1⟩
      · subst r; cases o1
      · rcases set_get q2 with ⟨_, _, r⟩ | ⟨_, q2⟩
        · subst r; cases o2
        · exact E.dist k l t1 t2 q1 q2 o1 o2 e
  cases e : ρ[i]? with
  | none => rw [e] at hs; cases hs
  | some s =>
    rw [e] at hs
    cases s with
    | u => cases hs
    | d x => cases hs
    | o v => cases hs
    | own xs =>
      cases hs
      obtain ⟨a, o, h⟩ := main _ (.list xs) e rfl fun a o F' _ own h h' le => by
        obtain ⟨vs, h1, h2⟩ := own
        rw [h1] at h
        cases h
        exact Rp.lst (.inl (.inl h')) (h2.mono le)
      exact ⟨a, _, o, h.1, rfl, h.2⟩
    | dic t ks =>
      have hs : (if t = false ∨ ks ≠ [] then some (some (SD.d (.dict ks))) else none) = some (some s') := hs
      by_cases c : t = false ∨ ks ≠ []
      · rw [if_pos c] at hs
        cases hs
        obtain ⟨a, o, h⟩ := main _ (.dict ks) e rfl fun a o F' _ own h h' le => by
          obtain ⟨n, h1, h2, h3⟩ := own
          rw [h1] at h
          cases h
          exact (h3.mono le).rp h' (by rw [h2]; exact c)
        exact ⟨a, _, o, h.1, rfl, h.2⟩
      · rw [if_neg c] at hs; cases hs
    | ins nm fs =>
      cases hs
      obtain ⟨a, o, h⟩ := main _ (objD nm fs) e rfl fun a o F' _ own h h' le => by
        obtain ⟨C, dx, vs, h1, h2, hi, h3⟩ := own
        rw [h1] at h
        cases h
        exact .obj h' h2 hi (RpF.mono le h3)
      exact ⟨a, _, o, h.1, rfl, h.2⟩
theorem sms_fz {t : TS} {f : EFs} (i : Nat) (h : SmS K W t f) : SmS K W t (fFz i f) := by
  intro S B F0 F H ρ σ g D E hf
  unfold fFz at hf
  split at hf
  · rename_i s e
    obtain ⟨a, x, o, _, _, _, _, _, E', _⟩ := E.frz (s := s) e
    exact h S B F0 _ H _ σ g D E' hf
  · exact h S B F0 F H ρ σ g D E hf
  · exact hf.elim
/-- an object taken out -/
def del (F : Hp) (a : Addr) : Hp := fun x => if x = a then none else F x
theorem del_ne {F : Hp} {a x : Addr} (h : x ≠ a) : del F a x = F x := if_neg h
theorem del_same {F : Hp} {a : Addr} : del F a a = none := if_pos rfl
def notTup : HO → Bool
  | .tup _ => false
  | .frz _ _ => false
  | _ => true
theorem del_tup {F : Hp} {a b : Addr} {o : HO} {u : HO} (ha : F a = some o) (ho : notTup o = true) (h : F b = some u) (hu : notTup u = false) : del F a b = some u := by
  rw [del_ne (fun z => by rw [z, ha] at h; cases h; rw [ho] at hu; cases hu)]
  exact h
mutual
theorem Rp.del {F : Hp} {a : Addr} {o : HO} (ha : F a = some o) (ho : notTup o = true) : ∀ {v : V} {d : PyData}, Rp K F v d → noL d = true → Rp K (del F a) v d
  | _, _, .non, _ => .non
  | _, _, .bl b, _ => .bl b
  | _, _, .int i, _ => .int i
  | _, _, .str x, _ => .str x
  | _, _, .lst _ _, n => by simp [noL] at n
  | _, _, .dK _ _, n => by simp [noL] at n
  | _, _, .dT _ _ _, n => by simp [noL] at n
  | _, _, .obj _ _ _ _, n => by simp [noL, objD] at n
  | _, _, @Rp.tup _ _ b vs ds h k r, n => by
    refine .tup ?_ ?_ (RpA.del ha ho r (by simpa [noL] using n))
    · rcases h with (h | ⟨ob, h⟩) | h
      · exact .inl (.inl (del_tup ha ho h rfl))
      · exact .inl (.inr ⟨ob, del_tup ha ho h rfl⟩)
      · exact .inr h
    · rcases k with ⟨h, k⟩ | ⟨ob, h, k⟩
      · exact .inl ⟨del_tup ha ho h rfl, k⟩
      · exact .inr ⟨ob, del_tup ha ho h rfl, k⟩
theorem RpA.del {F : Hp} {a : Addr} {o : HO} (ha : F a = some o) (ho : notTup o = true) : ∀ {vs : List V} {ds : List PyData}, RpA K F vs ds → noLA ds = true → RpA K (del F a) vs ds
  | _, _, .nil, _ => .nil
  | _, _, @RpA.cons _ _ v vs d ds r t, n => by
    have n' : noL d = true ∧ noLA ds = true := by simpa [noLA] using n
    exact .cons (Rp.del ha ho r n'.1) (RpA.del ha ho t n'.2)
end
/-- back to what was frozen ahead -/
theorem bor_back {F2 H2 : Hp} {g2 : Gs} {v : V} {r : RV} {a : Addr} {o : HO} (hH : H a = some o) (hF : F a = none) (hM : ¬ S.M a) (ho : notTup o = true) (e : Ext S (upd F a o) H F2 H2) (j : S.J g2 H2) (rv : RepRV K S H F2 H2 v r) (p : plainRV r = true) : Ext S F H (del F2 a) H2 ∧ RepRV K S H (del F2 a) H2 v r := by
  have ha : F2 a = some o := e.le _ _ upd_same
  refine ⟨⟨e.keep, fun b hb => ?_, fun b u hu => ?_, fun b u hu => ?_⟩, ?_⟩
  · by_cases z : b = a
    · subst z; rw [del_same, hF]
    · rw [del_ne z, e.grow b hb, upd_ne z]
  · have z : b ≠ a := fun z => by rw [z, hF] at hu; cases hu
    rw [del_ne z]
    exact e.le _ _ (by rw [upd_ne z]; exact hu)
  · by_cases z : b = a
    · subst z; rw [del_same] at hu; cases hu
    · rw [del_ne z] at hu; exact e.sub _ _ hu
  · cases r with
    | d x => exact Rp.del ha ho rv p
    | nl xs =>
      obtain ⟨b, vs, rfl, h1, h2, h3, h4, h5⟩ := rv
      have z : b ≠ a := fun z => by rw [z, hH] at h1; cases h1
      exact ⟨b, vs, rfl, h1, h2, by rw [del_ne z]; exact h3, h4, RpA.del ha ho h5 p⟩
    | nd t ks => cases p
    | o u => exact rv
theorem own_notTup {s : SD} {a : Addr} {o : HO} (h : OwnAt K F H a s) (e : H a = some o) : notTup o = true := by
  cases s with
  | own xs => obtain ⟨vs, h1, _⟩ := h; rw [h1] at e; cases e; rfl
  | dic t ks => obtain ⟨n, h1, _⟩ := h; rw [h1] at e; cases e; cases n <;> rfl
  | ins nm fs => obtain ⟨C, dx, vs, h1, _⟩ := h; rw [h1] at e; cases e; rfl
  | u => exact h.elim
  | d x => exact h.elim
  | o v => exact h.elim
theorem fz_own {s : Option SD} {s' : SD} (h : fzSD s = some (some s')) : ∃ t, s = some t ∧ t.owner = true := by
  cases s with
  | none => cases h
  | some t => cases t <;> first | exact ⟨_, rfl, rfl⟩ | cases h
theorem sm_bor {t : TE} {f : EF} (i : Nat) (h : Sm K W t f) : Sm K W t (fBor i f) := by
  intro S B F0 F H ρ σ g Pd Xd Q E hf k kx
  unfold fBor at hf
  split at hf
  · rename_i s e
    obtain ⟨a, x, o, hv, _, hF, hM, hH, E', le⟩ := E.frz (s := s) e
    have ho : notTup o = true := by
      obtain ⟨t, ht, hto⟩ := fz_own e
      obtain ⟨v, h1, h2⟩ := E.sl i t ht
      obtain ⟨b, hb, _, _, _, own⟩ := h2.at hto
      rw [hv, hb] at h1
      cases h1
      exact own_notTup own hH
    have hf' : (f (ρ.set i s) g).wp (fun r g' => plainRV r = true ∧ Pd r g') NoX := by
      unfold grd at hf
      split at hf
      · rename_i r g' er
        rw [er]
        split at hf
        · exact ⟨‹_›, hf⟩
        · exact hf.elim
      · exact hf.elim
    refine h S B F0 _ H _ σ g _ _ _ E' hf' (fun r g' v F2 H2 q e2 j2 rv => ?_) (fun _ _ _ _ _ _ z _ _ _ => z.elim)
    obtain ⟨e3, rv3⟩ := bor_back hH hF hM ho e2 j2 rv q.1
    exact k r g' v _ H2 q.2 e3 j2 rv3
  · exact h S B F0 F H ρ σ g Pd Xd Q E hf k kx
  · exact hf.elim
theorem smt_bor {t : TT} {f : EFt} (i : Nat) (h : SmT K W t f) : SmT K W t (fBorT i f) := by
  intro S B F0 F H ρ σ g Pd Xd Q E hf k kx
  unfold fBorT at hf
  split at hf
  · rename_i s e
    obtain ⟨a, x, o, hv, _, hF, hM, hH, E', le⟩ := E.frz (s := s) e
    refine h S B F0 _ H _ σ g _ _ _ E' (R.wp_nox.mp hf) (fun r g' F2 H2 q e2 j2 => ?_) (fun _ _ _ _ _ _ z _ _ _ => z.elim)
    exact k r g' F H2 q ⟨e2.keep, fun _ _ => rfl, Le.refl F, fun b u h => e2.sub b u (e2.le b u (le b u h))⟩ j2
  · exact h S B F0 F H ρ σ g Pd Xd Q E hf k kx
  · exact hf.elim
end
/-! ### a def keeps its promise -/
def avS : AV → SD
  | .d x => .d x
  | .o v => .o v
def slots (n : Nat) (as : List AV) : List SD := as.map avS ++ List.replicate (n - as.length) .u
theorem repAVs_get {K : Ck} {F : Hp} : ∀ {vs : List V} {as : List AV} {i : Nat} {a : AV}, RepAVs K F vs as → as[i]? = some a → ∃ v, vs[i]? = some v ∧ RepAV K F v a
  | v :: vs, a :: as, 0, _, h, e => by simp at e; subst e; exact ⟨v, rfl, h.1⟩
  | v :: vs, a :: as, i + 1, b, h, e => by
    obtain ⟨w, h1, h2⟩ := repAVs_get (i := i) h.2 (by simpa using e)
    exact ⟨w, by simpa using h1, h2⟩
  | [], [], _, _, _, e => by simp at e
  | [], _ :: _, _, _, h, _ => h.elim
  | _ :: _, [], _, _, h, _ => h.elim
/-- what a def's body comes to -/
def endR (o : Out) (g : Gs) : R RV := match o with
  | .nx _ => .ok (.d .none) g
  | .rt r => .ok r g
  | .ex x _ => .exc x g
  | _ => .bad
@[simp] theorem endR_nx (ρ : List SD) (g : Gs) : endR (.nx ρ) g = .ok (.d .none) g := rfl
@[simp] theorem endR_rt (r : RV) (g : Gs) : endR (.rt r) g = .ok r g := rfl
@[simp] theorem endR_ex (x : PyData) (ρ : List SD) (g : Gs) : endR (.ex x ρ) g = .exc x g := rfl
/-- a def: its parameters, its slots, its body -/
def fnR (np n : Nat) (b : EFs) : FnSp := fun as g => if as.length = np then (b (slots n as) g).nox.bind endR else .bad
theorem slots_env {K : Ck} {q : Option (Addr × Addr × Addr)} {F H B : Hp} {g : Gs} {N : List Str} {vs : List V} {as : List AV} (sub : Sub F H) (mF : ∀ a, (staOf q).M a → F a = none) (j : (staOf q).J g H) (ra : RepAVs K F vs as) (kp : ∀ a o, B a = some o → H a = some o) : EnvOk K (staOf q) B F F H (slots N.length as) (L2.start N vs) g := by
  have hl := ra.length
  refine ⟨⟨q, rfl⟩, sub, Le.refl F, fun _ _ => rfl, fun a o h _ => kp a o h, mF, j, ?_, fun i s hi => ?_, fun i l s t h1 h2 o1 o2 _ => ?_⟩
  · unfold slots L2.start
    simp [hl]
  · unfold slots at hi
    unfold L2.start
    by_cases hc : i < as.length
    · rw [List.getElem?_append_left (by simpa using hc), List.getElem?_map] at hi
      cases ea : as[i]? with
      | none => rw [ea] at hi; cases hi
      | some a =>
        rw [ea] at hi
        cases hi
        obtain ⟨v, hv, rv⟩ := repAVs_get ra ea
        refine ⟨some v, by rw [List.getElem?_append_left (by simpa [hl] using hc), List.getElem?_map, hv]; rfl, ?_⟩
        cases a with
        | d x => exact ⟨v, rfl, rv⟩
        | o u => cases rv; rfl
    · rw [List.getElem?_append_right (by simpa using Nat.le_of_not_lt hc), List.getElem?_replicate] at hi
      split at hi
      · cases hi
        rename_i hh
        refine ⟨none, ?_, trivial⟩
        rw [List.getElem?_append_right (by simpa [hl] using Nat.le_of_not_lt hc), List.getElem?_replicate]
        simp only [List.length_map] at hh ⊢
        rw [hl, if_pos (by simpa using hh)]
      · cases hi
  · exfalso
    unfold slots at h1
    by_cases hc : i < as.length
    · rw [List.getElem?_append_left (by simpa using hc), List.getElem?_map] at h1
      cases ea : as[i]? with
      | none => rw [ea] at h1; cases h1
      | some b =>
        rw [ea] at h1
        cases h1
        cases b <;> cases o1
    · rw [List.getElem?_append_right (by simpa using Nat.le_of_not_lt hc), List.getElem?_replicate] at h1
      split at h1
      · cases h1; cases o1
      · cases h1
theorem fnR_len {np n : Nat} {b : EFs} {as : List AV} {g : Gs} {P : RV → Gs → Prop} {X : PyData → Gs → Prop} (h : (fnR np n b as g).wp P X) : as.length = np ∧ ((b (slots n as) g).nox.bind endR).wp P X := by
  unfold fnR at h
  split at h
  · exact ⟨‹_›, h⟩
  · exact h.elim
theorem spF_len {K : Ck} {np n : Nat} {b : EFs} : ∀ (vs : List V) (H : Hp) (Q : VK) (E : XK), spF K (fnR np n b) vs H Q E → vs.length = np := by
  rintro vs H Q E ⟨q, F, g, as, _, _, _, ra, h⟩
  rw [ra.length]
  exact (fnR_len h).1
/-- the wish of a def's body -/
abbrev WB (E : XK) : WX := fun cls d _ H => E cls d H
theorem body_ok {K : Ck} {t : TS} {b : EFs} {np : Nat} {N : List Str} {vs : List V} {H : Hp} {Q : VK} {E : XK} (hb : SmS K (WB E) t b) (h : spF K (fnR np N.length b) vs H Q E) : t { nx := fun _ H' => Q .non H', rt := Q } (L2.start N vs) H := by
  obtain ⟨q, F, g, as, sub, mF, j, ra, h⟩ := h
  refine hb (staOf q) H F F H (slots N.length as) (L2.start N vs) g _ (slots_env sub mF j ra fun _ _ h => h) (R.wp_imp (R.wp_nox.mp (R.wp_bind.mp (fnR_len h).2)) (fun o g' h => ?_) fun _ _ z => z)
  cases o with
  | nx ρ => exact fun σ F' H' E' => h _ _ _ (E'.ret Rp.non)
  | rt r => exact h
  | bk ρ => exact h.elim
  | ct ρ => exact h.elim
  | ex x ρ => exact fun σ F' H' cls d E' er => h cls d F' H' ⟨E'.sub, E'.mono, E'.fz, E'.keep, E'.j, er⟩
end Fx

namespace Fx
open PySem L2

abbrev Cx.ck (X : Cx) : Ck := ⟨X.K, X.mg⟩
/-! ### operations, by data -/
def rB (K : Ck) (go : GO2) : R2 := fun x y H Q => ∃ (S : Sta) (F : Hp) (dx dy : PyData) (Qd : RV → Prop), Okh S F H ∧ Rp K F x dx ∧ Rp K F y dy ∧ go dx dy Qd ∧ PostO K S F H Qd Q
def rN (K : Ck) (go : GO1) : V → Hp → VK → Prop := fun x H Q => ∃ (S : Sta) (F : Hp) (dx : PyData) (Qd : RV → Prop), Okh S F H ∧ Rp K F x dx ∧ go dx Qd ∧ PostO K S F H Qd Q
def rA (K : Ck) (go : GOA) : List V → Hp → VK → Prop := fun xs H Q => ∃ (S : Sta) (F : Hp) (as : List AV) (Qd : RV → Prop), Okh S F H ∧ RepAVs K F xs as ∧ go as Qd ∧ PostO K S F H Qd Q
theorem opd_rB {K : Ck} {go : GO2} : OpD K (rB K go) go := fun S F H x y dx dy Qd Q o h1 h2 g p => ⟨S, F, dx, dy, Qd, o, h1, h2, g, p⟩
theorem opd_rN {K : Ck} {go : GO1} : Op1D K (rN K go) go := fun S F H x dx Qd Q o h1 g p => ⟨S, F, dx, Qd, o, h1, g, p⟩
theorem opd_rA {K : Ck} {go : GOA} : OpAD K (rA K go) go := fun S F H xs as Qd Q o h1 g p => ⟨S, F, as, Qd, o, h1, g, p⟩

/-- no dict in it, and not too deep -/
def pl (d : PyData) : Bool := d.plain && decide (d.depth ≤ 64)
theorem pl1 {d : PyData} (h : pl d = true) : d.plain = true := (Bool.and_eq_true_iff.mp h).1
theorem pl2 {d : PyData} (h : pl d = true) : d.depth ≤ 64 := of_decide_eq_true (Bool.and_eq_true_iff.mp h).2
section
variable {X : Cx} {pins : List (Addr × Obj)} {σ : L2.St} {H F : Hp} {s : Shared}
/-- a list that may be read, as its object stands -/
theorem lstR {l : Addr} {xs : List V} (I : Inv X pins σ H s) (hH : SqLx (Cx.ck X) H l xs) : xs.length ≤ sizeLine ∧ ∃ (its : List Value) (n : Nat), Vals xs its ∧ xs.length = its.length ∧ s.heap.get? l = some { cls := .type "list", data := .seq its.toArray n } := by
  rcases hH with hH | ⟨its, n, h1, h2, r⟩
  · obtain ⟨z, its, n, r, e⟩ := hH.ok I.hok
    exact ⟨z, its, n, r, r.length, e⟩
  · refine ⟨?_, its.toList, n, r, r.length, by simpa using I.kIn _ _ h1⟩
    have e := r.length
    simp only [Array.length_toList] at e
    omega
mutual
theorem Rp.dp {K : Ck} (e : Le F H) : ∀ {v : V} {d : PyData}, Rp K F v d → d.plain = true → Dp K H v d
  | _, _, .non, _ => .non
  | _, _, .bl b, _ => .bl b
  | _, _, .int i, _ => .int i
  | _, _, .str x, _ => .str x
  | _, _, .lst h r, c => .lst (e.sqx h).sql (RpA.dp e r (by simpa [PyData.plain] using c))
  | _, _, .tup h _ r, c => .tup (e.sqt h) (RpA.dp e r (by simpa [PyData.plain] using c))
  | _, _, .dK _ _, c => by simp [PyData.plain] at c
  | _, _, .dT _ _ _, c => by simp [PyData.plain] at c
  | _, _, .obj _ _ _ _, c => by simp [objD, PyData.plain] at c
theorem RpA.dp {K : Ck} (e : Le F H) : ∀ {vs : List V} {ds : List PyData}, RpA K F vs ds → PyData.plainAll ds = true → DpAll K H vs ds
  | _, _, .nil, _ => .nil
  | _, _, @RpA.cons _ _ v vs d ds r t, c => by
    have c' : d.plain = true ∧ PyData.plainAll ds = true := by simpa [PyData.plainAll] using c
    exact .cons (Rp.dp e r c'.1) (RpA.dp e t c'.2)
end
end

/-! ### + - * // % ** -/
def gAdd : GO2 := fun x y Q => match x, y with
  | .int i, .int j => Q (.d (.int (i + j)))
  | .str i, .str j => i.length + j.length ≤ sizeLine ∧ Q (.d (.str (i ++ j)))
  | .list xs, .list ys => xs.length + ys.length ≤ sizeLine ∧ Q (.nl (xs ++ ys))
  | .tuple xs, .tuple ys => xs.length + ys.length ≤ sizeLine ∧ Q (.d (.tuple (xs ++ ys)))
  | _, _ => False
def gSub : GO2 := fun x y Q => match x, y with
  | .int i, .int j => Q (.d (.int (i - j)))
  | _, _ => False
def gMul : GO2 := fun x y Q => match x, y with
  | .int i, .int j => (CMul i j ∨ CMulW i j) ∧ Q (.d (.int (i * j)))
  | .list xs, .int k => (-(2 ^ 63) ≤ k ∧ k < 2 ^ 63) ∧ xs.length * k.toNat ≤ sizeLine ∧ Q (.nl (List.replicate k.toNat xs).flatten)
  | _, _ => False
def gMod : GO2 := fun x y Q => match x, y with
  | .int i, .int j => 0 < j ∧ Q (.d (.int (i % j)))
  | _, _ => False
def gDiv : GO2 := fun x y Q => match x, y with
  | .int i, .int j => (0 < j ∧ j.natAbs.log2 < 9000) ∧ Q (.d (.int (i / j)))
  | _, _ => False
def gPow : GO2 := fun x y Q => match x, y with
  | .int i, .int j => 0 ≤ j ∧ (Builtin.Int.intBits i : Int) * j ≤ 2 ^ 27 ∧ Q (.d (.int (i ^ j.toNat)))
  | _, _ => False
def gNeg : GO1 := fun x Q => match x with
  | .int i => Q (.d (.int (-i)))
  | _ => False
section
open PySem.Spec PyProof.Rows
variable {X : Cx}
theorem rcatR : OpR X (binaryOp .Add) (fun x y H Q => ∃ l b xs zs, x = .ref l ∧ y = .ref b ∧ SqLx (Cx.ck X) H l xs ∧ SqLx (Cx.ck X) H b zs ∧ xs.length + zs.length ≤ sizeLine ∧ ∀ p, H p = none → Q (.ref p) (upd H p (.lst (xs ++ zs)))) := by
  intro pins s σ H x y v u Q I rx ry h
  obtain ⟨l, b, xs, zs, rfl, rfl, hH, hB, hz, q⟩ := h
  cases rx
  cases ry
  obtain ⟨z, its, n, r, hl, e⟩ := lstR I hH
  obtain ⟨z2, its2, n2, r2, hl2, e2⟩ := lstR I hB
  refine PySem.P.add_list e e2 ?_ (by rw [List.size_toArray, List.size_toArray]; omega)
  have ea : its.toArray ++ its2.toArray = (its ++ its2).toArray := by simp
  rw [ea]
  exact ⟨.ref _, _, I.lnew (t' := s.toks) (r.append r2) (by rw [List.length_append]; omega), rfl, q _ I.fresh⟩
theorem op_catF : OpR X (binaryOp .Add) (fun x y H Q => ∃ a b xs ys, x = .ref a ∧ y = .ref b ∧ SqT (Cx.ck X) H a xs ∧ SqT (Cx.ck X) H b ys ∧ xs ≠ [] ∧ xs.length + ys.length ≤ sizeLine ∧ (ys = [] → Q (.ref a) H) ∧ (ys ≠ [] → ∀ p (ob : Obj), H p = none → ob.dict = none → Q (.ref p) (upd H p (.frz ob (.tup (xs ++ ys)))))) := by
  intro pins s σ H x y v u Q I rx ry h
  obtain ⟨a, b, xs, ys, rfl, rfl, ha, hb, hx, hz, q1, q2⟩ := h
  cases rx
  cases ry
  obtain ⟨its, r1, p1, _⟩ := I.tuple ha
  obtain ⟨its2, r2, p2, _⟩ := I.tuple hb
  refine HT.cat_tup p1 p2 (fun z => hx (r1.nil_iff.mp z)) (fun z => ⟨.ref a, H, I, rfl, q1 (r2.nil_iff.mp z)⟩) (fun z => ?_) (by rw [← r1.length, ← r2.length]; exact hz)
  refine ⟨.ref s.heap.objs.size, _, I.laid (t' := s.toks) (o := .frz { cls := .type "tuple", data := .seq (its ++ its2).toArray } (.tup (xs ++ ys))) (fun b ob q => Heap.get?_push_of_some _ q) (Nat.le_refl _) ?_, rfl, q2 (fun w => z (r2.nil_iff.mpr w)) _ _ (I.hok.fresh (Nat.le_refl _)) rfl⟩
  exact ⟨Heap.get?_push_size _ rfl, by rw [List.length_append]; exact hz, _, r1.append r2, IsTup.new _ _⟩
theorem op_addP : OpR X (binaryOp .Add) (rB (Cx.ck X) gAdd) := by
  intro pins s σ H x y v u Q I rx ry h
  obtain ⟨S, F, dx, dy, Qd, o, h1, h2, g, p⟩ := h
  cases h1 with
  | int i =>
    cases h2 with
    | int j => exact op_add pins s σ H _ _ v u Q I rx ry ⟨i, j, rfl, rfl, p.d o (Rp.int _) g⟩
    | _ => exact g.elim
  | str i =>
    cases h2 with
    | str j => exact op_add_str pins s σ H _ _ v u Q I rx ry ⟨i, j, rfl, rfl, g.1, p.d o (Rp.str _) g.2⟩
    | _ => exact g.elim
  | @lst a vs ds hr ra =>
    cases h2 with
    | @lst b ws es hs rb => exact rcatR pins s σ H _ _ v u Q I rx ry ⟨a, b, vs, ws, rfl, rfl, Le.sqx o.sub hr, Le.sqx o.sub hs, by rw [ra.length, rb.length]; exact g.1, p.nl o (ra.append rb) g.2⟩
    | _ => exact g.elim
  | @tup a vs ds hr hk ra =>
    cases h2 with
    | @tup b ws es hs hk2 rb =>
      by_cases e1 : vs = []
      · refine op_catA pins s σ H _ _ v u Q I rx ry ⟨a, b, vs, ws, rfl, rfl, Le.sqt o.sub hr, Le.sqt o.sub hs, by rw [ra.length, rb.length]; exact g.1, fun e => ?_, fun z => absurd e1 z, fun z => absurd e1 z⟩
        have e' := ra.nil_iff.mp e
        subst e'
        exact p.d o (Rp.tup hs hk2 rb) g.2
      · exact op_catF pins s σ H _ _ v u Q I rx ry ⟨a, b, vs, ws, rfl, rfl, Le.sqt o.sub hr, Le.sqt o.sub hs, e1, by rw [ra.length, rb.length]; exact g.1, fun e2 => by
          have e' := rb.nil_iff.mp e2
          subst e'
          have g2 := g.2
          rw [List.append_nil] at g2
          exact p.d o (Rp.tup hr hk ra) g2, fun _ pp ob h1 h2 => p.tup o (ra.append rb) g.2 pp ob h1 h2⟩
    | _ => exact g.elim
  | _ => exact g.elim
theorem op_subP : OpR X (binaryOp .Sub) (rB (Cx.ck X) gSub) := by
  intro pins s σ H x y v u Q I rx ry h
  obtain ⟨S, F, dx, dy, Qd, o, h1, h2, g, p⟩ := h
  cases h1 with
  | int i =>
    cases h2 with
    | int j => exact op_sub pins s σ H _ _ v u Q I rx ry ⟨i, j, rfl, rfl, p.d o (Rp.int _) g⟩
    | _ => exact g.elim
  | _ => exact g.elim
theorem rrepR : OpR X (binaryOp .Mult) (fun x y H Q => ∃ l k xs, x = .ref l ∧ y = .int k ∧ SqLx (Cx.ck X) H l xs ∧ -(2 ^ 63) ≤ k ∧ k < 2 ^ 63 ∧ xs.length * k.toNat ≤ sizeLine ∧
  ∀ p, H p = none → Q (.ref p) (upd H p (.lst (List.replicate k.toNat xs).flatten))) := by
  intro pins s σ H x y v u Q I rx ry h
  obtain ⟨l, k, xs, rfl, rfl, hH, h1, h2, hz, q⟩ := h
  cases rx
  obtain ⟨t, rfl⟩ := ry
  obtain ⟨z, its, n, r, hl, e⟩ := lstR I hH
  have hlen : its.toArray.size * k.toNat ≤ sizeLine := by rw [List.size_toArray, ← hl]; exact hz
  have hcap : ¬ its.toArray.size * k.toNat > (2 ^ 63 - 1) / 8 := by
    have : (sizeLine : Nat) ≤ (2 ^ 63 - 1) / 8 := by decide
    omega
  have hfit : ¬ (!Builtin.List.listFitsIndex k) = true := by
    rw [fitsIndex_both h1 h2]
    exact Bool.false_ne_true
  have hlong : ¬ Builtin.List.listTooLong (its.toArray.size * k.toNat) = true := by
    rw [notLongL hlen]
    exact Bool.false_ne_true
  have hnew : List.foldl (fun x1 x2 => x1 ++ x2) #[] (List.replicate (if its.toArray.isEmpty = true then 0 else k.toNat) its.toArray) = (List.replicate k.toNat its).flatten.toArray := by
    have f0 : ∀ m : Nat, List.foldl (fun x1 x2 => x1 ++ x2) #[] (List.replicate m its.toArray) = (List.replicate m its).flatten.toArray := fun m => by
      have := foldl_rep its m []
      rw [List.nil_append] at this
      exact this
    rw [f0]
    cases its with
    | nil => simp
    | cons a r' => rw [if_neg (by simp)]
  refine wpAny_binaryOp_repeat_ref (T := "list") (U := "int") (by decide) ⟨_, e, rfl⟩ (fun s' => typeIs_int s' k t) noFill_list_mul F.fills_int_mul F.slot_int_rmul repeat_list F.slot_int_index.lookup
    (call_meets F.slot_int_rmul (typeIs_int s k t) F.entry_int_rmul (F.args_int_rmul_2 _ _) (int___rmul___int_list k t l its.toArray n)
      ⟨e, rfl, ⟨_, e, rfl⟩, call_meets F.slot_list_mul ⟨_, e, rfl⟩ F.entry_list_mul (F.args_list_mul_2 _ _) (AutoListH.list___mul___list_int_3 l its.toArray n k t hfit hcap hlong) ⟨e, ?_⟩⟩)
  rw [hnew]
  exact ⟨.ref _, _, I.lnew (t' := s.toks) (r.rep k.toNat) (by rw [PyProof.Rows.lm_len_rep_flat, Nat.mul_comm]; exact hz), rfl, q _ I.fresh⟩
theorem RpA.rep {K : Ck} {F : Hp} {vs : List V} {ds : List PyData} (h : RpA K F vs ds) : ∀ n : Nat, RpA K F (List.replicate n vs).flatten (List.replicate n ds).flatten
  | 0 => by simpa using RpA.nil
  | n + 1 => by simpa [List.replicate_succ] using h.append (RpA.rep h n)
theorem op_mulP : OpR X (binaryOp .Mult) (rB (Cx.ck X) gMul) := by
  intro pins s σ H x y v u Q I rx ry h
  obtain ⟨S, F, dx, dy, Qd, o, h1, h2, g, p⟩ := h
  cases h1 with
  | int i =>
    cases h2 with
    | int j =>
      rcases g.1 with c | c
      · exact op_mul pins s σ H _ _ v u Q I rx ry ⟨i, j, rfl, rfl, c, p.d o (Rp.int _) g.2⟩
      · exact op_mulW pins s σ H _ _ v u Q I rx ry ⟨i, j, rfl, rfl, c, p.d o (Rp.int _) g.2⟩
    | _ => exact g.elim
  | @lst a vs ds hr ra =>
    cases h2 with
    | int k => exact rrepR pins s σ H _ _ v u Q I rx ry ⟨a, k, vs, rfl, rfl, Le.sqx o.sub hr, g.1.1, g.1.2, by rw [ra.length]; exact g.2.1, p.nl o (ra.rep k.toNat) g.2.2⟩
    | _ => exact g.elim
  | _ => exact g.elim
theorem op_modP : OpR X (binaryOp .Mod) (rB (Cx.ck X) gMod) := by
  intro pins s σ H x y v u Q I rx ry h
  obtain ⟨S, F, dx, dy, Qd, o, h1, h2, g, p⟩ := h
  cases h1 with
  | int i =>
    cases h2 with
    | int j => exact op_mod pins s σ H _ _ v u Q I rx ry ⟨i, j, rfl, rfl, g.1, p.d o (Rp.int _) g.2⟩
    | _ => exact g.elim
  | _ => exact g.elim
theorem op_divP : OpR X (binaryOp .FloorDiv) (rB (Cx.ck X) gDiv) := by
  intro pins s σ H x y v u Q I rx ry h
  obtain ⟨S, F, dx, dy, Qd, o, h1, h2, g, p⟩ := h
  cases h1 with
  | int i =>
    cases h2 with
    | int j => exact op_fdivW pins s σ H _ _ v u Q I rx ry ⟨i, j, rfl, rfl, g.1, p.d o (Rp.int _) g.2⟩
    | _ => exact g.elim
  | _ => exact g.elim
theorem op_powP : OpR X (binaryOp .Pow) (rB (Cx.ck X) gPow) := by
  intro pins s σ H x y v u Q I rx ry h
  obtain ⟨S, F, dx, dy, Qd, o, h1, h2, g, p⟩ := h
  cases h1 with
  | int i =>
    cases h2 with
    | int j =>
      obtain ⟨t, rfl⟩ := rx
      obtain ⟨t', rfl⟩ := ry
      exact pow_int g.1 g.2.1 ⟨.int _, H, I.tok _, ⟨_, rfl⟩, p.d o (Rp.int _) g.2.2⟩
    | _ => exact g.elim
  | _ => exact g.elim
theorem un_negP : UnR X (unaryOp .USub) (rN (Cx.ck X) gNeg) := by
  intro pins s σ H x v Q I rx h
  obtain ⟨S, F, dx, Qd, o, h1, g, p⟩ := h
  cases h1 with
  | int i => exact un_neg pins s σ H _ v Q I rx ⟨i, rfl, p.d o (Rp.int _) g⟩
  | _ => exact g.elim

/-! ### comparisons -/
def gEq : GO2 := fun x y Q => pl x = true ∧ pl y = true ∧ Q (.d (.bool (PyData.eqv x y)))
def gNe : GO2 := fun x y Q => pl x = true ∧ pl y = true ∧ Q (.d (.bool (!PyData.eqv x y)))
def gCmp (f : Int → Int → Bool) : GO2 := fun x y Q => match x, y with
  | .int i, .int j => Q (.d (.bool (f i j)))
  | _, _ => False
def gLt : GO2 := fun x y Q => match x, y with
  | .int i, .int j => Q (.d (.bool (decide (i < j))))
  | .str i, .str j => Q (.d (.bool (decide (i.cps.toList < j.cps.toList))))
  | _, _ => False
def gLe : GO2 := gCmp fun i j => decide (i ≤ j)
def gGt : GO2 := gCmp fun i j => decide (j < i)
def gGe : GO2 := gCmp fun i j => decide (j ≤ i)
def gIsN : GO2 := fun x y Q => match y with
  | .none => Q (.d (.bool (match x with | .none => true | _ => false)))
  | _ => False
def gNotN : GO2 := fun x y Q => match y with
  | .none => Q (.d (.bool (match x with | .none => false | _ => true)))
  | _ => False
theorem op_eqP (hu : X.A.units + 64 < cLine) : OpR X (compareOp .Eq) (rB (Cx.ck X) gEq) := by
  intro pins s σ H x y v u Q I rx ry h
  obtain ⟨S, F, dx, dy, Qd, o, h1, h2, g, p⟩ := h
  obtain ⟨as, r1⟩ := Dp.reads I dx x v (h1.dp o.sub (pl1 g.1)) rx
  obtain ⟨bs, r2⟩ := Dp.reads I dy y u (h2.dp o.sub (pl1 g.2.1)) ry
  have hd := pl2 g.1
  exact SeqAt.eq_plain r1 r2 (pl1 g.1) (pl1 g.2.1) (by omega) ⟨.bl _, H, I, rfl, p.d o (Rp.bl _) g.2.2⟩
theorem op_neP (hu : X.A.units + 64 < cLine) : OpR X (compareOp .NotEq) (rB (Cx.ck X) gNe) := by
  intro pins s σ H x y v u Q I rx ry h
  obtain ⟨S, F, dx, dy, Qd, o, h1, h2, g, p⟩ := h
  obtain ⟨as, r1⟩ := Dp.reads I dx x v (h1.dp o.sub (pl1 g.1)) rx
  obtain ⟨bs, r2⟩ := Dp.reads I dy y u (h2.dp o.sub (pl1 g.2.1)) ry
  have hd := pl2 g.1
  exact SeqAt.ne_plain r1 r2 (pl1 g.1) (pl1 g.2.1) (by omega) ⟨.bl _, H, I, rfl, p.d o (Rp.bl _) g.2.2⟩
theorem op_ltP : OpR X (compareOp .Lt) (rB (Cx.ck X) gLt) := by
  intro pins s σ H x y v u Q I rx ry h
  obtain ⟨S, F, dx, dy, Qd, o, h1, h2, g, p⟩ := h
  cases h1 with
  | int i =>
    cases h2 with
    | int j => exact op_lt pins s σ H _ _ v u Q I rx ry ⟨i, j, rfl, rfl, p.d o (Rp.bl _) g⟩
    | _ => exact g.elim
  | str i =>
    cases h2 with
    | str j => exact op_lt_str pins s σ H _ _ v u Q I rx ry ⟨i, j, rfl, rfl, p.d o (Rp.bl _) g⟩
    | _ => exact g.elim
  | _ => exact g.elim
theorem op_leP : OpR X (compareOp .LtE) (rB (Cx.ck X) gLe) := by
  intro pins s σ H x y v u Q I rx ry h
  obtain ⟨S, F, dx, dy, Qd, o, h1, h2, g, p⟩ := h
  cases h1 with
  | int i =>
    cases h2 with
    | int j => exact op_le pins s σ H _ _ v u Q I rx ry ⟨i, j, rfl, rfl, p.d o (Rp.bl _) g⟩
    | _ => exact g.elim
  | _ => exact g.elim
theorem op_gtP : OpR X (compareOp .Gt) (rB (Cx.ck X) gGt) := by
  intro pins s σ H x y v u Q I rx ry h
  obtain ⟨S, F, dx, dy, Qd, o, h1, h2, g, p⟩ := h
  cases h1 with
  | int i =>
    cases h2 with
    | int j => exact op_gt pins s σ H _ _ v u Q I rx ry ⟨i, j, rfl, rfl, p.d o (Rp.bl _) g⟩
    | _ => exact g.elim
  | _ => exact g.elim
theorem op_geP : OpR X (compareOp .GtE) (rB (Cx.ck X) gGe) := by
  intro pins s σ H x y v u Q I rx ry h
  obtain ⟨S, F, dx, dy, Qd, o, h1, h2, g, p⟩ := h
  cases h1 with
  | int i =>
    cases h2 with
    | int j => exact op_ge pins s σ H _ _ v u Q I rx ry ⟨i, j, rfl, rfl, p.d o (Rp.bl _) g⟩
    | _ => exact g.elim
  | _ => exact g.elim
theorem op_isNP : OpR X (compareOp .Is) (rB (Cx.ck X) gIsN) := by
  intro pins s σ H x y v u Q I rx ry h
  obtain ⟨S, F, dx, dy, Qd, o, h1, h2, g, p⟩ := h
  cases h2 with
  | non =>
    refine op_isN pins s σ H _ _ v u Q I rx ry ⟨rfl, p.d o (Rp.bl _) ?_⟩
    cases h1 <;> exact g
  | _ => exact g.elim
theorem op_notNP : OpR X (compareOp .IsNot) (rB (Cx.ck X) gNotN) := by
  intro pins s σ H x y v u Q I rx ry h
  obtain ⟨S, F, dx, dy, Qd, o, h1, h2, g, p⟩ := h
  cases h2 with
  | non =>
    refine op_notN pins s σ H _ _ v u Q I rx ry ⟨rfl, p.d o (Rp.bl _) ?_⟩
    cases h1 <;> exact g
  | _ => exact g.elim
end

/-! ### keys and look-ups -/
def dkey : PyData → Option Key
  | .int i => some (.inl i)
  | .str x => some (.inr x)
  | _ => none
def dkeys : List PyData → Option (List Key)
  | [] => some []
  | x :: xs => match dkey x, dkeys xs with
    | some k, some ks => some (k :: ks)
    | _, _ => none
/-- a key of a dict: flat, or a tuple of flat ones -/
inductive DK where
  | f (k : Key)
  | t (ks : List Key)
  deriving DecidableEq
def toDK : PyData → Option DK
  | .tuple xs => (dkeys xs).map .t
  | x => (dkey x).map .f
/-- the value at a key -/
def dget (ks : List (PyData × PyData)) (k : DK) : Option PyData := (ks.find? fun p => decide (toDK p.1 = some k)).map (·.2)
def dput (ks : List (PyData × PyData)) (x : PyData) (k : DK) (v : PyData) : List (PyData × PyData) :=
  if (ks.any fun p => decide (toDK p.1 = some k)) = true then ks.map fun p => if toDK p.1 = some k then (p.1, v) else p else ks ++ [(x, v)]
section
variable {K : Ck} {F H : Hp}
theorem dkey_keyD (k : Key) : dkey (keyD k) = some k := by cases k <;> rfl
theorem toDK_keyD (k : Key) : toDK (keyD k) = some (.f k) := by cases k <;> rfl
theorem dkeys_map : ∀ ks : List Key, dkeys (ks.map keyD) = some ks
  | [] => rfl
  | k :: ks => by
    show (match dkey (keyD k), dkeys (ks.map keyD) with | some k, some ks => some (k :: ks) | _, _ => none) = _
    rw [dkey_keyD, dkeys_map ks]
theorem dkeys_inv : ∀ {xs : List PyData} {ks : List Key}, dkeys xs = some ks → xs = ks.map keyD
  | [], ks, h => by cases h; rfl
  | x :: xs, ks, h => by
    unfold dkeys at h
    cases e1 : dkey x with
    | none => rw [e1] at h; cases h
    | some k =>
      cases e2 : dkeys xs with
      | none => rw [e1, e2] at h; cases h
      | some r =>
        rw [e1, e2] at h
        cases h
        have : x = keyD k := by
          cases x <;> first | (cases e1; rfl) | cases e1
        rw [this, dkeys_inv e2]; rfl
theorem rpk_get : ∀ {kvs : List (Key × V)} {ds : List (PyData × PyData)} (k : Key), RpK K F kvs ds → (match valV kvs k, dget ds (.f k) with | some v, some d => Rp K F v d | none, none => True | _, _ => False)
  | _, _, k, .nil => trivial
  | _, _, k, @RpK.cons _ _ k0 v kvs d ds r t => by
    have ih := rpk_get k t
    by_cases e : k0 = k
    · subst e
      have h1 : valV ((k0, v) :: kvs) k0 = some v := valV_pos rfl
      have h2 : dget ((keyD k0, d) :: ds) (.f k0) = some d := by
        unfold dget
        rw [List.find?_cons_of_pos (by simp [toDK_keyD])]
        rfl
      rw [h1, h2]
      exact r
    · have h1 : valV ((k0, v) :: kvs) k = valV kvs k := valV_neg e
      have h2 : dget ((keyD k0, d) :: ds) (.f k) = dget ds (.f k) := by
        unfold dget
        rw [List.find?_cons_of_neg (by simp [toDK_keyD, e])]
      rw [h1, h2]
      exact ih
theorem rpt_get : ∀ {kvs : List (List Key × V)} {ds : List (PyData × PyData)} (k : List Key), RpT K F kvs ds → (match valV kvs k, dget ds (.t k) with | some v, some d => Rp K F v d | none, none => True | _, _ => False)
  | _, _, k, .nil => trivial
  | _, _, k, @RpT.cons _ _ k0 v kvs d ds r t => by
    have ih := rpt_get k t
    have hk : toDK (.tuple (k0.map keyD)) = some (.t k0) := by show (dkeys (k0.map keyD)).map DK.t = _; rw [dkeys_map]; rfl
    by_cases e : k0 = k
    · subst e
      have h1 : valV ((k0, v) :: kvs) k0 = some v := valV_pos rfl
      have h2 : dget ((.tuple (k0.map keyD), d) :: ds) (.t k0) = some d := by
        unfold dget
        rw [List.find?_cons_of_pos (by simp [hk])]
        rfl
      rw [h1, h2]
      exact r
    · have h1 : valV ((k0, v) :: kvs) k = valV kvs k := valV_neg e
      have h2 : dget ((.tuple (k0.map keyD), d) :: ds) (.t k) = dget ds (.t k) := by
        unfold dget
        rw [List.find?_cons_of_neg (by simp [hk, e])]
      rw [h1, h2]
      exact ih
end
end Fx

namespace Fx
open PySem L2

/-- the dict's kind is the key's -/
def matchK (ks : List (PyData × PyData)) : DK → Bool
  | .f _ => (match ks with
    | [] => true
    | p :: _ => (dkey p.1).isSome)
  | .t _ => (match ks with
    | [] => false
    | p :: _ => (match p.1 with
      | .tuple _ => true
      | _ => false))
/-! ### in -/
def gIn (neg : Bool) : GO2 := fun x y Q => match y with
  | .list ys => pl x = true ∧ pl (.list ys) = true ∧ Q (.d (.bool (neg ^^ ys.any fun z => PyData.eqv z x)))
  | .tuple ys => pl x = true ∧ pl (.tuple ys) = true ∧ Q (.d (.bool (neg ^^ ys.any fun z => PyData.eqv z x)))
  | .str z => (match x with
    | .str i => ∃ c, i = ⟨#[c]⟩ ∧ Q (.d (.bool (neg ^^ decide (c ∈ z.cps.toList))))
    | _ => False)
  | .dict ks => ∃ k, toDK x = some k ∧ matchK ks k = true ∧ Q (.d (.bool (neg ^^ (dget ks k).isSome)))
  | _ => False
section
open PySem.Spec PyProof.Rows
variable {X : Cx}
theorem toDK_inv {x : PyData} {k : DK} (h : toDK x = some k) : (∃ q, k = .f q ∧ x = keyD q) ∨ ∃ q : List Key, k = .t q ∧ x = .tuple (List.map keyD q) := by
  cases x with
  | int i => cases h; exact .inl ⟨.inl i, rfl, rfl⟩
  | str i => cases h; exact .inl ⟨.inr i, rfl, rfl⟩
  | tuple xs =>
    have h' : (dkeys xs).map DK.t = some k := h
    cases e : dkeys xs with
    | none => rw [e] at h'; cases h'
    | some q =>
      rw [e] at h'
      cases h'
      exact .inr ⟨q, rfl, by rw [dkeys_inv e]⟩
  | _ => cases h
theorem rp_keyD {K : Ck} {F : Hp} {v : V} {q : Key} (h : Rp K F v (keyD q)) : v = kV q := by
  cases q with
  | inl i => cases h; rfl
  | inr x => cases h; rfl
theorem rpa_keyD {K : Ck} {F : Hp} : ∀ {vs : List V} {q : List Key}, RpA K F vs (List.map keyD q) → vs = List.map kV q
  | _, [], h => by cases h; rfl
  | _, k :: q, h => by
    cases h with
    | cons r t => rw [rp_keyD r, rpa_keyD t]; rfl
/-- a tuple of flat keys, as the library sees it -/
theorem key_sqt {pins : List (Addr × Obj)} {σ : L2.St} {H : Hp} {s : Shared} {b : Addr} {ks : List Key} (I : Inv X pins σ H s) (h : SqT (Cx.ck X) H b (List.map kV ks)) : (tupleKind (mixKind X.prog X.w)).is s.heap ks b := by
  obtain ⟨its, r, p, _⟩ := I.tuple h
  obtain ⟨o, h1, h2, n, h3⟩ := p
  exact ⟨o, its.toArray, n, h1, h2, h3, by simpa using items_are r⟩
/-- a look-up by data: the dict at a, the key y -/
def LookP (K : Ck) (H : Hp) (a : Addr) (y : V) (r : Option V) : Prop :=
  (∃ kvs k, Rd H a (.dK kvs) ∧ y = kV k ∧ r = valV kvs k) ∨ (∃ (kvs : List (List Key × V)) (k : List Key) (b : Addr), Rd H a (.dT kvs) ∧ y = .ref b ∧ SqT K H b (List.map kV k) ∧ r = valV kvs k)
variable {pins : List (Addr × Obj)} {σ : L2.St} {H F : Hp} {s : Shared} {a : Addr} {y v : V} {u r : Value} {o : Option V} {A : Around} {E : Value → Shared → Prop}
theorem lookP_typeIs (I : Inv X pins σ H s) (g : LookP (Cx.ck X) H a y o) : s.TypeIs (.ref a) "dict" := by
  rcases g with ⟨kvs, k, e, _, _⟩ | ⟨kvs, k, b, e, _, _, _⟩
  · obtain ⟨_, _, vs, _, dd⟩ := dk_rd I.hok e
    exact dd.typeIs
  · obtain ⟨_, _, xs, _, dd⟩ := dt_rd I.hok e
    exact dd.typeIs
theorem p_getItem {Q : Value → Shared → Prop} (hu : A.units + 1 < cLine) (I : Inv X pins σ H s) (g : LookP (Cx.ck X) H a y (some v)) (ry : RelV y u) (h : ∀ w' s', Inv X pins σ H s' → RelV v w' → Q w' s') :
    wpAny (model X.prog X.w) A (getItem (.ref a) u) Q E s := by
  rcases g with ⟨kvs, k, e, ey, l⟩ | ⟨kvs, k, b, e, ey, eb, l⟩
  · exact d_getItem hu I (.inl ⟨kvs, k, e, ey, l⟩) ry h
  · subst ey
    cases (show u = Value.ref b from ry)
    obtain ⟨z, hd, xs, rel, dd⟩ := dt_rd I.hok e
    obtain ⟨w', hw, rw'⟩ := RelO.some_of (v := v) (o := (atKey xs k).map (·.2)) (by rw [l]; exact rel.val k)
    obtain ⟨p, hp, hp2⟩ := Option.map_eq_some_iff.mp hw
    refine wpAny_getItem_heap (tupleKind_room_in1 hu) (key_sqt I eb) dd hp ?_
    rw [hp2]
    exact h w' _ (I.tok _) rw'
theorem p_in {Q : Value → Shared → Prop} (hu : A.units + 1 < cLine) (I : Inv X pins σ H s) (g : LookP (Cx.ck X) H a y o) (ry : RelV y u) (h : ∀ s', Inv X pins σ H s' → Q (.bool o.isSome) s') :
    wpAny (model X.prog X.w) A (compareOp .In u (.ref a)) Q E s := by
  rcases g with ⟨kvs, k, e, ey, l⟩ | ⟨kvs, k, b, e, ey, eb, l⟩
  · exact d_in hu I (.inl ⟨kvs, k, e, ey, l⟩) ry h
  · subst ey
    cases (show u = Value.ref b from ry)
    obtain ⟨z, hd, xs, rel, dd⟩ := dt_rd I.hok e
    refine wpAny_in_heap (tupleKind_room_in1 hu) (key_sqt I eb) hd dd ?_
    have q := (rel.val k).isSome_eq
    rw [Option.isSome_map] at q
    rw [← q, ← l]
    exact h _ (I.tok _)
theorem p_notIn {Q : Value → Shared → Prop} (hu : A.units + 1 < cLine) (I : Inv X pins σ H s) (g : LookP (Cx.ck X) H a y o) (ry : RelV y u) (h : ∀ s', Inv X pins σ H s' → Q (.bool (!o.isSome)) s') :
    wpAny (model X.prog X.w) A (compareOp .NotIn u (.ref a)) Q E s := by
  rcases g with ⟨kvs, k, e, ey, l⟩ | ⟨kvs, k, b, e, ey, eb, l⟩
  · exact d_notIn hu I (.inl ⟨kvs, k, e, ey, l⟩) ry h
  · subst ey
    cases (show u = Value.ref b from ry)
    obtain ⟨z, hd, xs, rel, dd⟩ := dt_rd I.hok e
    refine wpAny_notIn_heap (tupleKind_room_in1 hu) (key_sqt I eb) hd dd ?_
    have q := (rel.val k).isSome_eq
    rw [Option.isSome_map] at q
    rw [← q, ← l]
    exact h _ (I.tok _)
theorem p_get {Q : Value → Shared → Prop} {d : V} (hu : A.units + 1 < cLine) (I : Inv X pins σ H s) (g : LookP (Cx.ck X) H a y o) (ry : RelV y u) (rd : RelV d r) (h : ∀ w' s', Inv X pins σ H s' → RelV (o.getD d) w' → Q w' s') :
    wpAny (model X.prog X.w) A (call (.builtin "dict.get") [.ref a, u, r]) Q E s := by
  rcases g with ⟨kvs, k, e, ey, l⟩ | ⟨kvs, k, b, e, ey, eb, l⟩
  · exact d_get2 hu I (.inl ⟨kvs, k, e, ey, l⟩) ry rd h
  · subst ey
    cases (show u = Value.ref b from ry)
    obtain ⟨z, hd, xs, rel, dd⟩ := dt_rd I.hok e
    refine call_meetsIn PySem.F.slot_dict_get dd.typeIs PySem.F.entry_dict_get (PySem.F.args_dict_get_3 _ _ _) (meetsH_dict_get_default (tupleKind (mixKind X.prog X.w)) a b hd r) ⟨tupleKind_room_in1 hu, k, xs, key_sqt I eb, dd, h _ _ (I.tok _) ?_⟩
    rw [l]
    exact (rel.val k).getD rd
theorem p_get1 {Q : Value → Shared → Prop} (hu : A.units + 1 < cLine) (I : Inv X pins σ H s) (g : LookP (Cx.ck X) H a y o) (ry : RelV y u) (h : ∀ w' s', Inv X pins σ H s' → RelV (o.getD .non) w' → Q w' s') :
    wpAny (model X.prog X.w) A (call (.builtin "dict.get") [.ref a, u]) Q E s := by
  rcases g with ⟨kvs, k, e, ey, l⟩ | ⟨kvs, k, b, e, ey, eb, l⟩
  · exact d_get1 hu I (.inl ⟨kvs, k, e, ey, l⟩) ry h
  · subst ey
    cases (show u = Value.ref b from ry)
    obtain ⟨z, hd, xs, rel, dd⟩ := dt_rd I.hok e
    refine call_meetsIn PySem.F.slot_dict_get dd.typeIs PySem.F.entry_dict_get (PySem.F.args_dict_get_2 _ _) (meetsH_dict_get (tupleKind (mixKind X.prog X.w)) a b hd) ⟨tupleKind_room_in1 hu, k, xs, key_sqt I eb, dd, h _ _ (I.tok _) ?_⟩
    rw [l]
    exact (rel.val k).getD rfl
/-- from data to a look-up -/
theorem look_of {K : Ck} {x : PyData} {k : DK} {ks : List (PyData × PyData)} {p : V} (sub : Sub F H) (hd : Rp K F p (.dict ks)) (hk : toDK x = some k) (hm : matchK ks k = true) (hy : Rp K F y x) :
    ∃ a o, p = .ref a ∧ LookP K H a y o ∧ (match o, dget ks k with | some v, some d => Rp K F v d | none, none => True | _, _ => False) := by
  cases hd with
  | @dK a kvs _ h r =>
    rcases toDK_inv hk with ⟨q, rfl, rfl⟩ | ⟨q, rfl, rfl⟩
    · exact ⟨a, _, rfl, .inl ⟨kvs, q, .inl (sub _ _ h), rp_keyD hy, rfl⟩, rpk_get q r⟩
    · exfalso
      cases r with
      | nil => cases hm
      | @cons k0 _ _ _ _ _ _ => cases k0 <;> cases hm
  | @dT a kvs _ h r n =>
    rcases toDK_inv hk with ⟨q, rfl, rfl⟩ | ⟨q, rfl, rfl⟩
    · exfalso
      cases r with
      | nil => exact n rfl
      | cons _ _ =>
        have hm' : false = true := hm
        cases hm'
    · cases hy with
      | @tup b vs _ hr hk ra =>
        have e := rpa_keyD ra
        subst e
        exact ⟨a, _, rfl, .inr ⟨kvs, q, b, .inl (sub _ _ h), rfl, Le.sqt sub hr, rfl⟩, rpt_get q r⟩
  | obj _ _ _ _ =>
    exfalso
    cases k <;> cases hm
theorem look_some {K : Ck} {o : Option V} {p : Option PyData} (h : match o, p with | some v, some d => Rp K F v d | none, none => True | _, _ => False) : o.isSome = p.isSome := by
  cases o <;> cases p <;> first | rfl | exact h.elim
theorem op_inP (hu : X.A.units + 65 < cLine) : OpR X (compareOp .In) (rB (Cx.ck X) (gIn false)) := by
  intro pins s σ H x y v u Q I rx ry h
  obtain ⟨S, F, dx, dy, Qd, o, h1, h2, g, p⟩ := h
  cases dy with
  | list ys =>
    obtain ⟨g1, g2, g3⟩ := g
    rw [Bool.false_xor] at g3
    obtain ⟨as, r1⟩ := Dp.reads I dx x v (h1.dp o.sub (pl1 g1)) rx
    obtain ⟨bs, r2⟩ := Dp.reads I (.list ys) y u (h2.dp o.sub (pl1 g2)) ry
    have hd := pl2 g1
    exact SeqAt.in_list_data r2 r1 (by simpa [PyData.plain] using pl1 g2) (pl1 g1) (by omega) ⟨.bl _, H, I, rfl, p.d o (Rp.bl _) g3⟩
  | tuple ys =>
    obtain ⟨g1, g2, g3⟩ := g
    rw [Bool.false_xor] at g3
    obtain ⟨as, r1⟩ := Dp.reads I dx x v (h1.dp o.sub (pl1 g1)) rx
    obtain ⟨bs, r2⟩ := Dp.reads I (.tuple ys) y u (h2.dp o.sub (pl1 g2)) ry
    have hd := pl2 g1
    exact SeqAt.in_tuple_data r2 r1 (by simpa [PyData.plain] using pl1 g2) (pl1 g1) (by omega) ⟨.bl _, H, I, rfl, p.d o (Rp.bl _) g3⟩
  | str z =>
    cases dx with
    | str i =>
      obtain ⟨c, rfl, g⟩ := g
      cases h1
      cases h2
      rw [Bool.false_xor] at g
      exact op_in_sign pins s σ H _ _ v u Q I rx ry ⟨c, z, rfl, rfl, p.d o (Rp.bl _) g⟩
    | _ => exact g.elim
  | dict ks =>
    obtain ⟨k, hk, hm, g⟩ := g
    obtain ⟨a, w, rfl, lk, m⟩ := look_of o.sub h2 hk hm h1
    obtain rfl : u = Value.ref a := ry
    refine p_in (by omega) I lk rx fun s' I' => ⟨.bl w.isSome, H, I', rfl, p.d o (Rp.bl _) ?_⟩
    rw [look_some m, ← Bool.false_xor (dget ks k).isSome]
    exact g
  | _ => exact g.elim
theorem op_notInP (hu : X.A.units + 65 < cLine) : OpR X (compareOp .NotIn) (rB (Cx.ck X) (gIn true)) := by
  intro pins s σ H x y v u Q I rx ry h
  obtain ⟨S, F, dx, dy, Qd, o, h1, h2, g, p⟩ := h
  cases dy with
  | list ys =>
    obtain ⟨g1, g2, g3⟩ := g
    rw [Bool.true_xor] at g3
    obtain ⟨as, r1⟩ := Dp.reads I dx x v (h1.dp o.sub (pl1 g1)) rx
    obtain ⟨bs, r2⟩ := Dp.reads I (.list ys) y u (h2.dp o.sub (pl1 g2)) ry
    have hd := pl2 g1
    exact SeqAt.notIn_list_data r2 r1 (by simpa [PyData.plain] using pl1 g2) (pl1 g1) (by omega) ⟨.bl _, H, I, rfl, p.d o (Rp.bl _) g3⟩
  | tuple ys =>
    obtain ⟨g1, g2, g3⟩ := g
    rw [Bool.true_xor] at g3
    obtain ⟨as, r1⟩ := Dp.reads I dx x v (h1.dp o.sub (pl1 g1)) rx
    obtain ⟨bs, r2⟩ := Dp.reads I (.tuple ys) y u (h2.dp o.sub (pl1 g2)) ry
    have hd := pl2 g1
    exact SeqAt.notIn_tuple_data r2 r1 (by simpa [PyData.plain] using pl1 g2) (pl1 g1) (by omega) ⟨.bl _, H, I, rfl, p.d o (Rp.bl _) g3⟩
  | str z =>
    cases dx with
    | str i =>
      obtain ⟨c, rfl, g⟩ := g
      cases h1
      cases h2
      rw [Bool.true_xor] at g
      exact op_notIn_sign pins s σ H _ _ v u Q I rx ry ⟨c, z, rfl, rfl, p.d o (Rp.bl _) g⟩
    | _ => exact g.elim
  | dict ks =>
    obtain ⟨k, hk, hm, g⟩ := g
    obtain ⟨a, w, rfl, lk, m⟩ := look_of o.sub h2 hk hm h1
    obtain rfl : u = Value.ref a := ry
    refine p_notIn (by omega) I lk rx fun s' I' => ⟨.bl (!w.isSome), H, I', rfl, p.d o (Rp.bl _) ?_⟩
    rw [look_some m, ← Bool.true_xor (dget ks k).isSome]
    exact g
  | _ => exact g.elim

/-! ### x[i] -/
def gIx : GO2 := fun x y Q => match x with
  | .list xs => (match y with
    | .int i => ∃ d, atI xs i = some d ∧ Q (.d d)
    | _ => False)
  | .tuple xs => (match y with
    | .int i => ∃ d, atI xs i = some d ∧ Q (.d d)
    | _ => False)
  | .str z => (match y with
    | .int i => z.length ≤ sizeLine ∧ ∃ c, atI z.cps.toList i = some c ∧ Q (.d (.str ⟨#[c]⟩))
    | _ => False)
  | .dict ks => ∃ k d, toDK y = some k ∧ matchK ks k = true ∧ dget ks k = some d ∧ Q (.d d)
  | _ => False
theorem atI_rp {K : Ck} {vs : List V} {ds : List PyData} {i : Int} {d : PyData} (r : RpA K F vs ds) (h : atI ds i = some d) : ∃ v, atI vs i = some v ∧ Rp K F v d := by
  unfold atI at h ⊢
  rw [r.length]
  cases e : ixN ds.length i with
  | none => rw [e] at h; cases h
  | some j =>
    rw [e] at h
    obtain ⟨v, h1, h2⟩ := r.get' (show ds[j]? = some d from h)
    exact ⟨v, h1, h2⟩
theorem ix_anyP (hu : X.A.units + 1 < cLine) : IxR X (rB (Cx.ck X) gIx) := by
  intro value slice pins s σ H x y v u Q I rx ry h hs
  obtain ⟨S, F, dx, dy, Qd, o, h1, h2, g, p⟩ := h
  cases dx with
  | list xs =>
    cases h2 with
    | int i =>
      obtain ⟨d, e, q⟩ := g
      cases h1 with
      | @lst a vs _ hr ra =>
        obtain ⟨w, ew, rw'⟩ := atI_rp ra e
        exact ix_list value slice pins s σ H _ _ v u Q I rx ry ⟨a, vs, i, w, rfl, rfl, (Le.sqx o.sub hr).sql, ew, p.d o rw' q⟩ hs
    | _ => exact g.elim
  | tuple xs =>
    cases h2 with
    | int i =>
      obtain ⟨d, e, q⟩ := g
      cases h1 with
      | @tup a vs _ hr hk ra =>
        obtain ⟨w, ew, rw'⟩ := atI_rp ra e
        exact ix_tup value slice pins s σ H _ _ v u Q I rx ry ⟨a, vs, i, w, rfl, rfl, Le.sqt o.sub hr, ew, p.d o rw' q⟩ hs
    | _ => exact g.elim
  | str z =>
    cases h2 with
    | int i =>
      obtain ⟨hz, c, e, q⟩ := g
      cases h1
      exact ix_str value slice pins s σ H _ _ v u Q I rx ry ⟨z, i, c, rfl, rfl, hz, e, p.d o (Rp.str _) q⟩ hs
    | _ => exact g.elim
  | dict ks =>
    obtain ⟨k, d, hk, hm, hd, g⟩ := g
    obtain ⟨a, w, rfl, lk, m⟩ := look_of o.sub h1 hk hm h2
    obtain rfl : v = Value.ref a := rx
    rw [hd] at m
    cases w with
    | none => exact m.elim
    | some w =>
      exact tail_any (lookP_typeIs I lk) PySem.F.slot_dict_getitem.lookup (p_getItem hu I lk ry fun w' s3 I3 rw' => ⟨w, H, I3, rw', p.d o m g⟩) hs
  | _ => exact g.elim
end
end Fx

namespace Fx
open PySem L2

/-! ### sorted -/
section
open PySem.W PySem.Calls PyProof.Rows
variable {X : Cx} {pins : List (Addr × Obj)} {σ : L2.St} {H F : Hp} {s : Shared}
mutual
theorem rp_reads (I : Inv X pins σ H s) (le : Le F H) : ∀ {v : V} {d : PyData} {u : Value}, Rp (Cx.ck X) F v d → noL d = true → RelV v u → Reads s.heap u d []
  | _, _, _, .non, _, r => by cases r; exact .none
  | _, _, _, .bl b, _, r => by cases r; exact .bool b
  | _, _, _, .int i, _, r => by obtain ⟨t, rfl⟩ := r; exact .int i t
  | _, _, _, .str x, _, r => by obtain ⟨t, rfl⟩ := r; exact .str x t
  | _, _, _, .lst _ _, n, _ => by simp [noL] at n
  | _, _, _, .tup h _ ra, n, r => by
    cases r
    obtain ⟨its, rv, ⟨o, ho, hc, n', hd⟩, _⟩ := I.tuple (Le.sqt le h)
    exact .tuple ho hc hd (rpa_reads I le ra (by simpa [noL] using n) rv)
  | _, _, _, .dK _ _, n, _ => by simp [noL] at n
  | _, _, _, .dT _ _ _, n, _ => by simp [noL] at n
theorem rpa_reads (I : Inv X pins σ H s) (le : Le F H) : ∀ {vs : List V} {ds : List PyData} {us : List Value}, RpA (Cx.ck X) F vs ds → noLA ds = true → Vals vs us → ReadsAll s.heap us ds []
  | _, _, _, .nil, _, r => by cases r; exact .nil
  | _, _, _, @RpA.cons _ _ v vs d ds h t, n, r => by
    have n' : noL d = true ∧ noLA ds = true := by simpa [noLA] using n
    cases r with
    | cons r1 r2 => exact ReadsAll.cons (as := []) (bs := []) (rp_reads I le h n'.1 r1) (rpa_reads I le t n'.2 r2)
end
theorem each_of (I : Inv X pins σ H s) (le : Le F H) : ∀ {vs : List V} {ds : List PyData} {us : List Value}, RpA (Cx.ck X) F vs ds → noLA ds = true → Vals vs us →
    EachIs (fun u d => Reads s.heap u d [] ∧ ∃ v, RelV v u ∧ Rp (Cx.ck X) F v d) us ds
  | _, _, _, .nil, _, r => by cases r; exact .nil
  | _, _, _, @RpA.cons _ _ v vs d ds h t, n, r => by
    have n' : noL d = true ∧ noLA ds = true := by simpa [noLA] using n
    cases r with
    | cons r1 r2 => exact .cons ⟨rp_reads I le h n'.1 r1, v, r1, h⟩ (each_of I le t n'.2 r2)
theorem each_back {K : Ck} : ∀ {us : List Value} {ds : List PyData}, EachIs (fun u d => ∃ v, RelV v u ∧ Rp K F v d) us ds → ∃ vs, Vals vs us ∧ RpA K F vs ds
  | _, _, .nil => ⟨[], .nil, .nil⟩
  | _, _, .cons ⟨v, r1, r2⟩ t => by
    obtain ⟨vs, a, b⟩ := each_back t
    exact ⟨v :: vs, .cons r1 a, .cons r2 b⟩
/-- may be sorted -/
structure SortOk (ds : List PyData) : Prop where
  al : AllAlike ds
  so : Sortable ds
  no : noLA ds = true
  dp : ∀ d ∈ ds, d.depth ≤ 64
abbrev sortD (ds : List PyData) : List PyData := ds.mergeSort (dataLe false id)
/-- a new list of what was collected, sorted -/
theorem sort_tail {A : Around} {E : Value → Shared → Prop} {vs : List V} {us : List Value} {ds : List PyData} {Q : Value → Shared → Prop} (I : Inv X pins σ H s) (le : Le F H) (rv : Vals vs us) (ra : RpA (Cx.ck X) F vs ds) (ok : SortOk ds) (hz : ds.length ≤ sizeLine) (hu : A.units + 70 < cLine)
    (h : ∀ s' p ws, H p = none → Inv X pins σ (upd H p (.lst ws)) s' → RpA (Cx.ck X) F ws (sortD ds) → Q (.ref p) s') :
    wpAny (model X.prog X.w) A (do let l ← newList us; let _ ← holding [l] (call (.builtin "list.sort") [l]); ret l) (fun fin s' => ∃ v, fin = .done (.ret v) ∧ Q v s') E s := by
  have hl : us.length = ds.length := by rw [← rv.length, ra.length]
  refine wpAny_bind (wpAny_newList ?_ (by omega))
  have e0 := each_of I le ra ok.no rv
  have hO : (s.heap.push (seqObj "list" us.toArray 0)).get? s.heap.objs.size = some (seqObj "list" us.toArray 0) := Heap.get?_push_size _ rfl
  have k1 : ∀ b o, s.heap.get? b = some o → (s.heap.push (seqObj "list" us.toArray 0)).get? b = some o := fun b o e => Heap.get?_push_of_some _ e
  refine wpAny_bind (wpAny_holding (list_sort_data (s := { s with heap := s.heap.push (seqObj "list" us.toArray 0) }) (bs := ds) (enc := id) (R := fun u d => ∃ v, RelV v u ∧ Rp (Cx.ck X) F v d) hO (e0.mono fun _ _ z => z.2)
    (e0.mono fun u d z => ⟨[], PyProof.Rows.Reads.keeps k1 z.1, by simp⟩) (by simpa using ok.al) (by simpa using ok.so) hz (fun b hb => by have := ok.dp b hb; show A.units + 1 + (id b).depth < cLine; simp only [id]; omega) fun out ho eo => ?_))
  obtain ⟨ws, v1, v2⟩ := each_back (by simpa using eo)
  obtain ⟨c, hc⟩ := sortedHeap_at (vs := us) (out := out.toArray) hO
  refine wpAny_pure ⟨_, rfl, h _ s.heap.objs.size ws I.fresh ?_ v2⟩
  refine I.laid (fun b o e => ?_) (Nat.le_refl _) ⟨?_, out, c, v1, hc⟩
  · have hb : b ≠ s.heap.objs.size := Nat.ne_of_lt (Heap.lt_size e)
    exact (sortedHeap_old hb (Heap.lt_size (k1 b o e))).trans (k1 b o e)
  · rw [v1.length, ho]; exact hz
/-- sorted(x), from what collect gives -/
theorem sorted_call {A : Around} {E : Value → Shared → Prop} {v : Value} {Q : Value → Shared → Prop}
    (hcol : wpAny (model X.prog X.w) A.in1 (collect v) (fun us s' => ∃ H' F' vs ds, Inv X pins σ H' s' ∧ Le F' H' ∧ Vals vs us ∧ RpA (Cx.ck X) F' vs ds ∧ SortOk ds ∧ ds.length ≤ sizeLine ∧
      ∀ s' p ws, H' p = none → Inv X pins σ (upd H' p (.lst ws)) s' → RpA (Cx.ck X) F' ws (sortD ds) → Q (.ref p) s') E s) (hu : A.units + 80 < cLine) : wpAny (model X.prog X.w) A (call (.builtin "sorted") [v]) Q E s := by
  refine call_function_entry_kw kind_sorted plain_sorted entry_sorted (args_sorted1 _) ?_
  unfold Builtin.«sorted»
  refine wpAny_bind (m := checkCount "sorted" 1 1 _) (wpAny_pure ?_)
  refine wpAny_bind ?_
  refine wpAny_mono hcol (fun us s1 ⟨H', F', vs, ds, I, le, rv, ra, ok, hz, q⟩ => ?_) fun _ _ e => e
  exact sort_tail I le rv ra ok hz (by show A.units + 1 + 70 < cLine; omega) q
end
end Fx

namespace Fx
open PySem L2

/-! ### built-in functions, by data -/
def g1 (f : GO1) : GOA := fun as Q => match as with
  | [.d x] => f x Q
  | _ => False
def g2 (f : GO2) : GOA := fun as Q => match as with
  | [.d x, .d y] => f x y Q
  | _ => False
section
variable {K : Ck}
theorem opA1 {r : List V → Hp → VK → Prop} {f : GO1} (h : Op1D K (fun v H Q => r [v] H Q) f) : OpAD K r (g1 f) := by
  intro S F H xs as Qd Q o ra g p
  match as, xs, ra, g with
  | [.d x], [v], ra, g => exact h S F H v x Qd Q o ra.1 g p
  | [.d x], [], ra, g => exact ra.elim
  | [.d x], _ :: _ :: _, ra, g => exact ra.2.elim
  | [], _, _, g => exact g.elim
  | [.o _], _, _, g => exact g.elim
  | .d _ :: _ :: _, _, _, g => exact g.elim
  | .o _ :: _ :: _, _, _, g => exact g.elim
theorem opA2 {r : List V → Hp → VK → Prop} {f : GO2} (h : OpD K (fun v u H Q => r [v, u] H Q) f) : OpAD K r (g2 f) := by
  intro S F H xs as Qd Q o ra g p
  match as, xs, ra, g with
  | [.d x, .d y], [v, u], ra, g => exact h S F H v u x y Qd Q o ra.1 ra.2.1 g p
  | [.d x, .d y], [], ra, g => exact ra.elim
  | [.d x, .d y], [_], ra, g => exact ra.2.elim
  | [.d x, .d y], _ :: _ :: _ :: _, ra, g => exact ra.2.2.elim
  | [], _, _, g => exact g.elim
  | [.d _], _, _, g => exact g.elim
  | [.o _], _, _, g => exact g.elim
  | .d _ :: .o _ :: _, _, _, g => exact g.elim
  | .o _ :: _ :: _, _, _, g => exact g.elim
  | .d _ :: .d _ :: _ :: _, _, _, g => exact g.elim
theorem RpK.length {F : Hp} : ∀ {vs : List (Key × V)} {ds : List (PyData × PyData)}, RpK K F vs ds → vs.length = ds.length
  | _, _, .nil => rfl
  | _, _, .cons _ t => by simp [RpK.length t]
theorem RpT.length {F : Hp} : ∀ {vs : List (List Key × V)} {ds : List (PyData × PyData)}, RpT K F vs ds → vs.length = ds.length
  | _, _, .nil => rfl
  | _, _, .cons _ t => by simp [RpT.length t]
/-! all of one kind -/
def intsD : List PyData → Option (List Int)
  | [] => some []
  | .int i :: ds => (intsD ds).map (i :: ·)
  | _ :: _ => none
def boolsD : List PyData → Option (List Bool)
  | [] => some []
  | .bool i :: ds => (boolsD ds).map (i :: ·)
  | _ :: _ => none
def strsD : List PyData → Option (List Str)
  | [] => some []
  | .str i :: ds => (strsD ds).map (i :: ·)
  | _ :: _ => none
theorem intsD_rp {F : Hp} : ∀ {vs : List V} {ds : List PyData} {ns : List Int}, RpA K F vs ds → intsD ds = some ns → vs = ns.map V.int
  | _, _, _, .nil, e => by cases e; rfl
  | _, _, _, .cons (d := .int i) (ds := ds) r t, e => by
    cases r
    unfold intsD at e
    cases q : intsD ds with
    | none => rw [q] at e; cases e
    | some ms => rw [q] at e; cases e; rw [intsD_rp t q]; rfl
  | _, _, _, .cons (d := .none) r t, e => by cases e
  | _, _, _, .cons (d := .bool _) r t, e => by cases e
  | _, _, _, .cons (d := .str _) r t, e => by cases e
  | _, _, _, .cons (d := .list _) r t, e => by cases e
  | _, _, _, .cons (d := .tuple _) r t, e => by cases e
  | _, _, _, .cons (d := .dict _) r t, e => by cases e
theorem boolsD_rp {F : Hp} : ∀ {vs : List V} {ds : List PyData} {ns : List Bool}, RpA K F vs ds → boolsD ds = some ns → vs = ns.map V.bl
  | _, _, _, .nil, e => by cases e; rfl
  | _, _, _, .cons (d := .bool i) (ds := ds) r t, e => by
    cases r
    unfold boolsD at e
    cases q : boolsD ds with
    | none => rw [q] at e; cases e
    | some ms => rw [q] at e; cases e; rw [boolsD_rp t q]; rfl
  | _, _, _, .cons (d := .none) r t, e => by cases e
  | _, _, _, .cons (d := .int _) r t, e => by cases e
  | _, _, _, .cons (d := .str _) r t, e => by cases e
  | _, _, _, .cons (d := .list _) r t, e => by cases e
  | _, _, _, .cons (d := .tuple _) r t, e => by cases e
  | _, _, _, .cons (d := .dict _) r t, e => by cases e
theorem strsD_rp {F : Hp} : ∀ {vs : List V} {ds : List PyData} {ns : List Str}, RpA K F vs ds → strsD ds = some ns → vs = ns.map V.str
  | _, _, _, .nil, e => by cases e; rfl
  | _, _, _, .cons (d := .str i) (ds := ds) r t, e => by
    cases r
    unfold strsD at e
    cases q : strsD ds with
    | none => rw [q] at e; cases e
    | some ms => rw [q] at e; cases e; rw [strsD_rp t q]; rfl
  | _, _, _, .cons (d := .none) r t, e => by cases e
  | _, _, _, .cons (d := .int _) r t, e => by cases e
  | _, _, _, .cons (d := .bool _) r t, e => by cases e
  | _, _, _, .cons (d := .list _) r t, e => by cases e
  | _, _, _, .cons (d := .tuple _) r t, e => by cases e
  | _, _, _, .cons (d := .dict _) r t, e => by cases e
end

/-! len -/
def gLen : GO1 := fun x Q => match x with
  | .str z => z.length ≤ sizeLine ∧ Q (.d (.int z.length))
  | .list xs => Q (.d (.int xs.length))
  | .tuple xs => Q (.d (.int xs.length))
  | _ => False
def rLen (K : Ck) : List V → Hp → VK → Prop := fun xs H Q => ∃ x n, xs = [x] ∧ LenV K x H n ∧ Q (.int n) H
section
variable {K : Ck}
theorem od_len : OpAD K (rLen K) (g1 gLen) := opA1 fun S F H v x Qd Q o r g p => by
  cases r with
  | str z => exact ⟨_, _, rfl, ⟨g.1, rfl⟩, p.d o (Rp.int _) g.2⟩
  | @lst a vs ds h ra =>
    refine ⟨_, vs.length, rfl, .inl ⟨vs, (Le.sqx o.sub h).sql, rfl⟩, p.d o (Rp.int _) ?_⟩
    rw [ra.length]; exact g
  | @tup a vs ds h k ra =>
    refine ⟨_, vs.length, rfl, .inr ⟨vs, Le.sqt o.sub h, rfl⟩, p.d o (Rp.int _) ?_⟩
    rw [ra.length]; exact g
  | non => exact g.elim
  | bl _ => exact g.elim
  | int _ => exact g.elim
  | dK _ _ => exact g.elim
  | dT _ _ _ => exact g.elim
  | obj _ _ _ _ => exact g.elim
/-! int, abs -/
def gInt : GO1 := fun x Q => match x with
  | .int i => Q (.d (.int i))
  | .bool b => Q (.d (.int (if b then 1 else 0)))
  | _ => False
def rInt : List V → Hp → VK → Prop := fun xs H Q => (∃ i, xs = [.int i] ∧ Q (.int i) H) ∨ ∃ k, xs = [.bl k] ∧ Q (.int (if k then 1 else 0)) H
theorem od_int : OpAD K rInt (g1 gInt) := opA1 fun S F H v x Qd Q o r g p => by
  cases r with
  | int i => exact .inl ⟨_, rfl, p.d o (Rp.int _) g⟩
  | bl i => exact .inr ⟨_, rfl, p.d o (Rp.int _) g⟩
  | _ => exact g.elim
def gAbs : GO1 := fun x Q => match x with
  | .int i => Q (.d (.int (if i < 0 then -i else i)))
  | _ => False
def rAbs : List V → Hp → VK → Prop := fun xs H Q => ∃ i, xs = [.int i] ∧ Q (.int (if i < 0 then -i else i)) H
theorem od_abs : OpAD K rAbs (g1 gAbs) := opA1 fun S F H v x Qd Q o r g p => by
  cases r with
  | int i => exact ⟨_, rfl, p.d o (Rp.int _) g⟩
  | _ => exact g.elim
/-! list, tuple -/
def gList : GO1 := fun x Q => match x with
  | .list xs => Q (.nl xs)
  | .tuple xs => Q (.nl xs)
  | _ => False
def gTuple : GO1 := fun x Q => match x with
  | .list xs => Q (.d (.tuple xs))
  | .tuple xs => Q (.d (.tuple xs))
  | _ => False
def rList (K : Ck) : List V → Hp → VK → Prop := fun xs H Q => ∃ p ys, xs = [.ref p] ∧ (SqL K H p ys ∨ SqT K H p ys) ∧ ∀ l, H l = none → Q (.ref l) (upd H l (.lst ys))
def rTuple (K : Ck) : List V → Hp → VK → Prop := fun xs H Q => ∃ p ys, xs = [.ref p] ∧ ((SqL K H p ys ∧ ∀ l (ob : Obj), H l = none → ob.dict = none → Q (.ref l) (upd H l (.frz ob (.tup ys)))) ∨ (SqT K H p ys ∧ Q (.ref p) H))
theorem call_tupleP {X : Cx} : CallR X (.type "tuple") (rTuple (Cx.ck X)) := by
  intro pins s σ H xs us Q I r h
  obtain ⟨p, ys, rfl, h⟩ := h
  obtain ⟨u, rfl, rx⟩ := vals1 r
  cases rx
  rcases h with ⟨hq, q⟩ | ⟨hq, q⟩
  · obtain ⟨its, r', pl, hz⟩ := I.list hq
    have hlen := r'.length
    refine call_tuple_list pl.isList (fun h' kp => ?_) (by simp only [List.size_toArray] <;> omega)
    have I1 : Inv X pins σ H { s with heap := h' } := I.kept (t' := s.toks) kp
    have I2 : Inv X pins σ (upd H h'.objs.size (.frz { cls := .type "tuple", data := .seq its.toArray } (.tup ys))) { s with heap := h'.push { cls := .type "tuple", data := .seq its.toArray } } :=
      I1.laid (t' := s.toks) (fun b o e => Heap.get?_push_of_some _ e) (Nat.le_refl _) (show ObjOk X.prog X.w _ _ _ (.frz _ (.tup ys)) from ⟨Heap.get?_push_size _ rfl, hz, its, r', PyProof.Rows.IsTup.new _ _⟩)
    exact ⟨.ref h'.objs.size, _, I2, rfl, q _ _ (I1.hok.fresh (Nat.le_refl _)) rfl⟩
  · obtain ⟨its, r', pl, hz⟩ := I.tuple hq
    exact call_tuple_same pl ⟨.ref p, H, I, rfl, q⟩
theorem od_list : OpAD K (rList K) (g1 gList) := opA1 fun S F H v x Qd Q o r g p => by
  cases r with
  | @lst a vs ds h ra => exact ⟨a, vs, rfl, .inl ((Le.sqx o.sub h).sql), p.nl o ra g⟩
  | @tup a vs ds h k ra => exact ⟨a, vs, rfl, .inr (Le.sqt o.sub h), p.nl o ra g⟩
  | _ => exact g.elim
theorem od_tuple : OpAD K (rTuple K) (g1 gTuple) := opA1 fun S F H v x Qd Q o r g p => by
  cases r with
  | @lst a vs ds h ra => exact ⟨a, vs, rfl, .inl ⟨(Le.sqx o.sub h).sql, p.tup o ra g⟩⟩
  | @tup a vs ds h k ra => exact ⟨a, vs, rfl, .inr ⟨Le.sqt o.sub h, p.d o (Rp.tup h k ra) g⟩⟩
  | _ => exact g.elim
/-! all, any -/
def gAll : GO1 := fun x Q => match x with
  | .list xs => ∃ bs, boolsD xs = some bs ∧ Q (.d (.bool (bs.all id)))
  | _ => False
def gAny : GO1 := fun x Q => match x with
  | .list xs => ∃ bs, boolsD xs = some bs ∧ Q (.d (.bool (bs.any id)))
  | _ => False
theorem od_all : OpAD K (rAll K) (g1 gAll) := opA1 fun S F H v x Qd Q o r g p => by
  cases r with
  | @lst a vs ds h ra =>
    obtain ⟨bs, e, q⟩ := g
    have := boolsD_rp ra e
    subst this
    exact ⟨a, bs, rfl, (Le.sqx o.sub h).sql, p.d o (Rp.bl _) q⟩
  | _ => exact g.elim
theorem od_any : OpAD K (rAny K) (g1 gAny) := opA1 fun S F H v x Qd Q o r g p => by
  cases r with
  | @lst a vs ds h ra =>
    obtain ⟨bs, e, q⟩ := g
    have := boolsD_rp ra e
    subst this
    exact ⟨a, bs, rfl, (Le.sqx o.sub h).sql, p.d o (Rp.bl _) q⟩
  | _ => exact g.elim
/-! max, min -/
def gMax2 : GO2 := fun x y Q => match x, y with
  | .int i, .int j => Q (.d (.int (if j > i then j else i)))
  | _, _ => False
def gMin2 : GO2 := fun x y Q => match x, y with
  | .int i, .int j => Q (.d (.int (if j < i then j else i)))
  | _, _ => False
def rMax2 : List V → Hp → VK → Prop := fun xs H Q => ∃ i j, xs = [.int i, .int j] ∧ Q (.int (if j > i then j else i)) H
def rMin2 : List V → Hp → VK → Prop := fun xs H Q => ∃ i j, xs = [.int i, .int j] ∧ Q (.int (if j < i then j else i)) H
theorem od_max2 : OpAD K rMax2 (g2 gMax2) := opA2 fun S F H v u x y Qd Q o r1 r2 g p => by
  cases r1 with
  | int i =>
    cases r2 with
    | int j => exact ⟨_, _, rfl, p.d o (Rp.int _) g⟩
    | _ => exact g.elim
  | _ => exact g.elim
theorem od_min2 : OpAD K rMin2 (g2 gMin2) := opA2 fun S F H v u x y Qd Q o r1 r2 g p => by
  cases r1 with
  | int i =>
    cases r2 with
    | int j => exact ⟨_, _, rfl, p.d o (Rp.int _) g⟩
    | _ => exact g.elim
  | _ => exact g.elim
def maxI : List Int → Int
  | [] => 0
  | n :: ns => ns.foldl max n
def minI : List Int → Int
  | [] => 0
  | n :: ns => ns.foldl min n
theorem foldl_max_spec : ∀ (ns : List Int) (a : Int), (ns.foldl max a = a ∨ ns.foldl max a ∈ ns) ∧ a ≤ ns.foldl max a ∧ ∀ y ∈ ns, y ≤ ns.foldl max a
  | [], a => ⟨.inl rfl, Int.le_refl _, fun _ h => by cases h⟩
  | n :: ns, a => by
    obtain ⟨h1, h2, h3⟩ := foldl_max_spec ns (max a n)
    refine ⟨?_, ?_, ?_⟩
    · simp only [List.foldl_cons]
      rcases h1 with h | h
      · rw [h]
        by_cases c : a ≤ n
        · exact .inr (by rw [Int.max_eq_right c]; simp)
        · exact .inl (by rw [Int.max_eq_left (by omega)])
      · exact .inr (List.mem_cons_of_mem _ h)
    · simp only [List.foldl_cons]; omega
    · intro y hy
      simp only [List.foldl_cons]
      rcases List.mem_cons.mp hy with rfl | h
      · omega
      · exact h3 y h
theorem foldl_min_spec : ∀ (ns : List Int) (a : Int), (ns.foldl min a = a ∨ ns.foldl min a ∈ ns) ∧ ns.foldl min a ≤ a ∧ ∀ y ∈ ns, ns.foldl min a ≤ y
  | [], a => ⟨.inl rfl, Int.le_refl _, fun _ h => by cases h⟩
  | n :: ns, a => by
    obtain ⟨h1, h2, h3⟩ := foldl_min_spec ns (min a n)
    refine ⟨?_, ?_, ?_⟩
    · simp only [List.foldl_cons]
      rcases h1 with h | h
      · rw [h]
        by_cases c : n ≤ a
        · exact .inr (by rw [Int.min_eq_right c]; simp)
        · exact .inl (by rw [Int.min_eq_left (by omega)])
      · exact .inr (List.mem_cons_of_mem _ h)
    · simp only [List.foldl_cons]; omega
    · intro y hy
      simp only [List.foldl_cons]
      rcases List.mem_cons.mp hy with rfl | h
      · omega
      · exact h3 y h
theorem maxI_spec {ns : List Int} (h : ns ≠ []) : maxI ns ∈ ns ∧ ∀ y ∈ ns, y ≤ maxI ns := by
  cases ns with
  | nil => exact absurd rfl h
  | cons n ns =>
    obtain ⟨h1, h2, h3⟩ := foldl_max_spec ns n
    refine ⟨?_, fun y hy => ?_⟩
    · rcases h1 with h | h
      · show ns.foldl max n ∈ _; rw [h]; simp
      · exact List.mem_cons_of_mem _ h
    · rcases List.mem_cons.mp hy with rfl | hy
      · exact h2
      · exact h3 y hy
theorem minI_spec {ns : List Int} (h : ns ≠ []) : minI ns ∈ ns ∧ ∀ y ∈ ns, minI ns ≤ y := by
  cases ns with
  | nil => exact absurd rfl h
  | cons n ns =>
    obtain ⟨h1, h2, h3⟩ := foldl_min_spec ns n
    refine ⟨?_, fun y hy => ?_⟩
    · rcases h1 with h | h
      · show ns.foldl min n ∈ _; rw [h]; simp
      · exact List.mem_cons_of_mem _ h
    · rcases List.mem_cons.mp hy with rfl | hy
      · exact h2
      · exact h3 y hy
def gMaxL : GO1 := fun x Q => match x with
  | .list xs => ∃ ns, intsD xs = some ns ∧ ns ≠ [] ∧ Q (.d (.int (maxI ns)))
  | _ => False
def gMinL : GO1 := fun x Q => match x with
  | .list xs => ∃ ns, intsD xs = some ns ∧ ns ≠ [] ∧ Q (.d (.int (minI ns)))
  | _ => False
theorem od_maxL : OpAD K (rMax K) (g1 gMaxL) := opA1 fun S F H v x Qd Q o r g p => by
  cases r with
  | @lst a vs ds h ra =>
    obtain ⟨ns, e, ne, q⟩ := g
    have := intsD_rp ra e
    subst this
    refine ⟨a, ns, rfl, (Le.sqx o.sub h).sql, (List.length_pos_iff.mpr ne), fun m h1 h2 => p.d o (Rp.int _) ?_⟩
    have s := maxI_spec ne
    have : m = maxI ns := Int.le_antisymm (s.2 m h1) (h2 _ s.1)
    rw [this]; exact q
  | _ => exact g.elim
theorem od_minL : OpAD K (rMin K) (g1 gMinL) := opA1 fun S F H v x Qd Q o r g p => by
  cases r with
  | @lst a vs ds h ra =>
    obtain ⟨ns, e, ne, q⟩ := g
    have := intsD_rp ra e
    subst this
    refine ⟨a, ns, rfl, (Le.sqx o.sub h).sql, (List.length_pos_iff.mpr ne), fun m h1 h2 => p.d o (Rp.int _) ?_⟩
    have s := minI_spec ne
    have : m = minI ns := Int.le_antisymm (h2 _ s.1) (s.2 m h1)
    rw [this]; exact q
  | _ => exact g.elim
end
/-! sorted -/
def gSorted : GO1 := fun x Q => match x with
  | .list xs => SortOk xs ∧ Q (.nl (sortD xs))
  | .tuple xs => SortOk xs ∧ Q (.nl (sortD xs))
  | _ => False
section
variable {X : Cx}
theorem cr_one {f : Value} {gg : GO1} (h : ∀ (pins : List (Addr × Obj)) (s : Shared) (σ : L2.St) (H : Hp) (v : V) (u : Value) (S : Sta) (F : Hp) (x : PyData) (Qd : RV → Prop) (Q : VK), Inv X pins σ H s → RelV v u → Okh S F H → Rp (Cx.ck X) F v x → gg x Qd → PostO (Cx.ck X) S F H Qd Q →
    wpAny (model X.prog X.w) X.A (call f [u]) (EP X pins σ Q) X.xe s) : CallR X f (rA (Cx.ck X) (g1 gg)) := by
  intro pins s σ H xs us Q I rv hh
  obtain ⟨S, F, as, Qd, o, ra, g, p⟩ := hh
  match as, xs, ra, g with
  | [.d x], [v], ra, g =>
    obtain ⟨u, rfl, ru⟩ : ∃ u, us = [u] ∧ RelV v u := by
      cases rv with
      | cons r1 r2 => cases r2; exact ⟨_, rfl, r1⟩
    exact h pins s σ H v u S F x Qd Q I ru o ra.1 g p
  | [.d x], [], ra, g => exact ra.elim
  | [.d x], _ :: _ :: _, ra, g => exact ra.2.elim
  | [], _, _, g => exact g.elim
  | [.o _], _, _, g => exact g.elim
  | .d _ :: _ :: _, _, _, g => exact g.elim
  | .o _ :: _ :: _, _, _, g => exact g.elim
theorem cr_sortedP (hu : X.A.units + 80 < cLine) : CallR X (.builtin "sorted") (rA (Cx.ck X) (g1 gSorted)) := cr_one fun pins s σ H v u S F x Qd Q I ru o rx g p => by
  cases rx with
  | @lst a vs ds hr ra =>
    cases ru
    obtain ⟨its, rvs, ⟨oo, n, ho, hc, _, hd⟩, hz⟩ := I.list (Le.sqx o.sub hr).sql
    refine sorted_call (pins := pins) (σ := σ) (X := X) (wpAny_collect_seq a (.inl rfl) ho hc hd (fun h' hk => ?_) (by rw [List.size_toArray, ← rvs.length]; exact hz)) hu
    exact ⟨H, F, vs, ds, I.kept hk, o.sub, rvs, ra, g.1, by rw [← ra.length]; exact hz, fun s' q ws hq I' rw' => ⟨.ref q, _, I', rfl, p.nl o rw' g.2 q hq⟩⟩
  | @tup a vs ds hr hk ra =>
    cases ru
    obtain ⟨its, rvs, ⟨oo, ho, hc, n, hd⟩, hz⟩ := I.tuple (Le.sqt o.sub hr)
    refine sorted_call (pins := pins) (σ := σ) (X := X) (wpAny_collect_seq a (.inr rfl) ho hc hd (fun h' hk => ?_) (by rw [List.size_toArray, ← rvs.length]; exact hz)) hu
    exact ⟨H, F, vs, ds, I.kept hk, o.sub, rvs, ra, g.1, by rw [← ra.length]; exact hz, fun s' q ws hq I' rw' => ⟨.ref q, _, I', rfl, p.nl o rw' g.2 q hq⟩⟩
  | _ => exact g.elim
end
end Fx

namespace Fx
open PySem L2

/-! ### isinstance -/
def tyD : PyData → String
  | .none => "NoneType"
  | .bool _ => "bool"
  | .int _ => "int"
  | .str _ => "str"
  | .list _ => "list"
  | .tuple _ => "tuple"
  | .dict ((.list [], _) :: _) => "object"
  | .dict _ => "dict"
@[simp] theorem tyD_obj (nm : Str) (fs : List (Str × PyData)) : tyD (objD nm fs) = "object" := rfl
def isD (T : String) (x : PyData) : Bool := tyD x == T || (tyD x == "bool" && T == "int")
/-- the built-in types that are asked for -/
def kitTs : List String := ["int", "bool", "str", "list", "tuple", "dict"]
/-- what is known of the classes -/
structure ClsF (K : Ck) (nm : Str) (C : Addr) : Prop where
  cls : Cls K.K C
  ty : ∀ (H : Hp) (a dx : Addr) (fs : List (Str × V)), H a = some (.ins C dx fs) → TyX K.K H (.ref a) (.ref C)
  kb : ∀ T ∈ kitTs, PySem.W.kitOne K.K (.ref C) (.type T) = some false
  kt : ∀ x : PyData, tyD x ≠ "object" → PySem.W.kitOne K.K (.type (tyD x)) (.ref C) = some false
structure AllCls (K : Ck) : Prop where
  one : ∀ nm C, isCls nm = true → K.mg nm = some (.ref C) → ClsF K nm C
  two : ∀ nm C nm2 C2, isCls nm = true → K.mg nm = some (.ref C) → isCls nm2 = true → K.mg nm2 = some (.ref C2) → PySem.W.kitOne K.K (.ref C) (.ref C2) = some (decide (nm = nm2))
section
variable {K : Ck}
theorem keyD_noL (k : Key) : keyD k ≠ .list [] := by cases k <;> exact fun z => by cases z
theorem tyD_dK {kvs : List (Key × V)} {ds : List (PyData × PyData)} {F : Hp} (r : RpK K F kvs ds) : tyD (.dict ds) = "dict" := by
  cases r with
  | nil => rfl
  | @cons k _ _ _ _ _ _ => cases k <;> rfl
theorem tyD_dT {kvs : List (List Key × V)} {ds : List (PyData × PyData)} {F : Hp} (r : RpT K F kvs ds) : tyD (.dict ds) = "dict" := by
  cases r with
  | nil => rfl
  | @cons k _ _ _ _ _ _ => rfl
/-- the type of plain data -/
theorem kit_base {T : String} (hT : T ∈ kitTs) (y : PyData) (hy : tyD y ≠ "object") : PySem.W.kitOne K.K (.type (tyD y)) (.type T) = some (isD T y) := by
  have key : ∀ (U : String), U ∈ ["NoneType", "bool", "int", "str", "list", "tuple", "dict"] → PySem.W.kitOne K.K (.type U) (.type T) = some (U == T || (U == "bool" && T == "int")) := by
    intro U hU
    simp only [kitTs, List.mem_cons, List.not_mem_nil, or_false] at hT hU
    rcases hT with rfl | rfl | rfl | rfl | rfl | rfl <;> rcases hU with rfl | rfl | rfl | rfl | rfl | rfl | rfl <;> exact kit_ty (by decide +kernel)
  refine key _ ?_
  cases y with
  | dict ks =>
    match ks with
    | [] => simp [tyD]
    | (.list [], _) :: _ => exact absurd rfl hy
    | (.list (_ :: _), _) :: _ => simp [tyD]
    | (.none, _) :: _ => simp [tyD]
    | (.bool _, _) :: _ => simp [tyD]
    | (.int _, _) :: _ => simp [tyD]
    | (.str _, _) :: _ => simp [tyD]
    | (.tuple _, _) :: _ => simp [tyD]
    | (.dict _, _) :: _ => simp [tyD]
  | _ => simp [tyD]
theorem tyxP {F H : Hp} {v : V} {x : PyData} (s : Sub F H) (r : Rp K F v x) (c : tyD x ≠ "object") : TyX K.K H v (.type (tyD x)) := by
  cases r with
  | non => exact .base .non
  | bl b => exact .base (.bl b)
  | int i => exact .base (.int i)
  | str x => exact .base (.str x)
  | @lst a vs ds h ra =>
    rcases h with (h | ⟨o, h⟩) | ⟨its, n, h, _⟩
    · exact .base (.lst (s _ _ h))
    · exact .base (.frz (s _ _ h))
    · exact .kList h rfl
  | @tup a vs ds h k2 ra =>
    rcases h with (h | ⟨o, h⟩) | ⟨o, its, n, h1, h2, h3⟩
    · exact .base (.tup (s _ _ h))
    · exact .fTuple (s _ _ h)
    · exact .kTuple h1 h2
  | dK h r => rw [tyD_dK r]; exact .base (.dK (s _ _ h))
  | dT h r n => rw [tyD_dT r]; exact .base (.dT (s _ _ h))
  | obj _ _ _ _ => exact absurd rfl c
theorem tyxB {F H : Hp} {v : V} {x : PyData} (s : Sub F H) (r : Rp K F v x) (c : tyD x ≠ "object") : ∃ t, TyX K.K H v t ∧ ∀ T ∈ kitTs, PySem.W.kitOne K.K t (.type T) = some (isD T x) := ⟨_, tyxP s r c, fun T hT => kit_base hT x c⟩
/-- the type of data, asked for one of the built-in ones -/
theorem tyx {F H : Hp} {v : V} {x : PyData} {T : String} (A : AllCls K) (s : Sub F H) (r : Rp K F v x) (hT : T ∈ kitTs) : ∃ t, TyX K.K H v t ∧ PySem.W.kitOne K.K t (.type T) = some (isD T x) := by
  by_cases c : tyD x = "object"
  · cases r with
    | @obj a dx C nm fs ds h m i r =>
      have c := A.one nm C i m
      refine ⟨_, c.ty H a dx fs (s _ _ h), (c.kb T hT).trans ?_⟩
      simp only [kitTs, List.mem_cons, List.not_mem_nil, or_false] at hT
      rcases hT with rfl | rfl | rfl | rfl | rfl | rfl <;> rfl
    | dK h r => rw [tyD_dK r] at c; exact absurd c (by decide)
    | dT h r n => rw [tyD_dT r] at c; exact absurd c (by decide)
    | _ => simp [tyD] at c
  · obtain ⟨t, h1, h2⟩ := tyxB s r c
    exact ⟨_, h1, h2 T hT⟩
/-- is it an object of this class -/
def isO (nm : Str) : PyData → Bool
  | .dict ((.list [], .str m) :: _) => decide (m = nm)
  | _ => false
@[simp] theorem isO_obj (nm m : Str) (fs : List (Str × PyData)) : isO nm (objD m fs) = decide (m = nm) := rfl
theorem isO_not {nm : Str} {x : PyData} (h : tyD x ≠ "object") : isO nm x = false := by
  unfold isO
  split
  · exact absurd rfl h
  · rfl
theorem tyxO {F H : Hp} {v : V} {x : PyData} {nm : Str} {C : Addr} (A : AllCls K) (s : Sub F H) (r : Rp K F v x) (hi : isCls nm = true) (hm : K.mg nm = some (.ref C)) : ∃ t, TyX K.K H v t ∧ PySem.W.kitOne K.K t (.ref C) = some (isO nm x) := by
  by_cases c : tyD x = "object"
  · cases r with
    | @obj a dx C' nm' fs ds h m i r =>
      have cf := A.one nm' C' i m
      exact ⟨_, cf.ty H a dx fs (s _ _ h), A.two nm' C' nm C i m hi hm⟩
    | dK h r => rw [tyD_dK r] at c; exact absurd c (by decide)
    | dT h r n => rw [tyD_dT r] at c; exact absurd c (by decide)
    | _ => simp [tyD] at c
  · have cf := A.one nm C hi hm
    have k := cf.kt x c
    rw [isO_not c]
    exact ⟨_, tyxP s r c, k⟩
end
def fIsi (T : String) (fe : EF) : EF := fun ρ g => (fDat fe ρ g).bind fun x g1 => .ok (.d (.bool (isD T x))) g1
def fIsi2 (T U : String) (fe : EF) : EF := fun ρ g => (fDat fe ρ g).bind fun x g1 => .ok (.d (.bool (isD T x || isD U x))) g1
def fIsO (nm : Str) (fe : EF) : EF := fun ρ g => (fDat fe ρ g).bind fun x g1 => .ok (.d (.bool (isO nm x))) g1
section
variable {K : Ck} {W : WX}
theorem sm_isi {T : String} {te : TE} {fe : EF} (A : AllCls K) (k : T ∈ kitTs) (h : Sm K W te fe) : Sm K W (tCB (rIsi K) (tCons te (tCons (tC (.ty T)) tNil))) (fIsi T fe) := by
  intro S B F0 F H ρ σ g Pd Xd Q E hf kk kx
  refine h.dat E (R.wp_bind.mp hf) kx fun x g1 v F1 H1 q e E1 r => ?_
  obtain ⟨t, h1, h2⟩ := tyx A E1.sub r k
  exact ⟨v, .ty T, _, _, _, rfl, ClsV.ty T, h1, h2, kk _ g1 _ F1 H1 q e E1.j (Rp.bl _)⟩
theorem sm_isO {nm : Str} {C : Addr} {te : TE} {fe : EF} (A : AllCls K) (hi : isCls nm = true) (hm : K.mg nm = some (.ref C)) (h : Sm K W te fe) : Sm K W (tCB (rIsi K) (tCons te (tCons (tC (.ref C)) tNil))) (fIsO nm fe) := by
  intro S B F0 F H ρ σ g Pd Xd Q E hf kk kx
  refine h.dat E (R.wp_bind.mp hf) kx fun x g1 v F1 H1 q e E1 r => ?_
  obtain ⟨t, h1, h2⟩ := tyxO A E1.sub r hi hm
  exact ⟨v, .ref C, _, _, _, rfl, ClsV.own C, h1, h2, kk _ g1 _ F1 H1 q e E1.j (Rp.bl _)⟩
theorem sm_isi2 {T U : String} {te : TE} {fe : EF} (A : AllCls K) (k : T ∈ kitTs) (k2 : U ∈ kitTs) (h : Sm K W te fe) : Sm K W (tCB (rIsiT K) (tCons te (tCons (tTup (tCons (tC (.ty T)) (tCons (tC (.ty U)) tNil))) tNil))) (fIsi2 T U fe) := by
  intro S B F0 F H ρ σ g Pd Xd Q E hf kk kx
  refine h.dat E (R.wp_bind.mp hf) kx fun x g1 v F1 H1 q e E1 r => ?_
  refine ⟨by show 2 ≤ sizeLine; decide, fun p hp => ?_⟩
  have n := Ext.own (S := S) (o := .tup [V.ty T, V.ty U]) E1.sub hp
  have both : ∃ t, TyX K.K (upd H1 p (.tup [V.ty T, V.ty U])) v t ∧ PySem.W.kitOne K.K t (.type T) = some (isD T x) ∧ PySem.W.kitOne K.K t (.type U) = some (isD U x) := by
    obtain ⟨t, h1, h2⟩ := tyx A n.sub r k
    obtain ⟨t', h1', h2'⟩ := tyx A n.sub r k2
    by_cases c : tyD x = "object"
    · cases r with
      | @obj a dx C' nm' fs ds h m i r =>
        have cf := A.one nm' C' i m
        refine ⟨_, cf.ty _ a dx fs (n.sub _ _ h), (cf.kb T k).trans ?_, (cf.kb U k2).trans ?_⟩
        · simp only [kitTs, List.mem_cons, List.not_mem_nil, or_false] at k
          rcases k with rfl | rfl | rfl | rfl | rfl | rfl <;> rfl
        · simp only [kitTs, List.mem_cons, List.not_mem_nil, or_false] at k2
          rcases k2 with rfl | rfl | rfl | rfl | rfl | rfl <;> rfl
      | dK h r => rw [tyD_dK r] at c; exact absurd c (by decide)
      | dT h r n => rw [tyD_dT r] at c; exact absurd c (by decide)
      | _ => simp [tyD] at c
    · obtain ⟨t, h1, h2⟩ := tyxB n.sub r c
      exact ⟨_, h1, h2 T k, h2 U k2⟩
  obtain ⟨t, h1, a, b⟩ := both
  refine ⟨v, p, [V.ty T, V.ty U], _, [.type T, .type U], _, rfl, upd_same, .cons (ClsV.ty T) (.cons (ClsV.ty U) .nil), h1, ?_, kk _ g1 _ F1 _ q (e.trans n E1.j) (J.new E1.j hp) (Rp.bl _)⟩
  cases ca : isD T x <;> cases cb : isD U x <;> rw [ca] at a <;> rw [cb] at b <;> simp [PySem.W.kitAny, a, b]
end

/-! ### slices -/
abbrev EFo := List SD → Gs → R (Option Int)
def SmO (K : Ck) (W : WX) (t : TO) (f : EFo) : Prop := ∀ (S : Sta) (B F0 F H : Hp) (ρ : List SD) (σ : St) (g : Gs) (Pd : Option Int → Gs → Prop) (Xd : PyData → Gs → Prop) (Q : Option Int → Hp → Prop), EnvOk K S B F0 F H ρ σ g → (f ρ g).wp Pd Xd →
  (∀ r g' F' H', Pd r g' → Ext S F H F' H' → S.J g' H' → Q r H') →
  (∀ x g' cls d F' H', Xd x g' → Ext S F H F' H' → S.J g' H' → ExcRep K S H F' H' cls d x → W cls d σ H') → t σ H Q
def asIR (r : RV) (g : Gs) : R Int := match r with
  | .d (.int i) => .ok i g
  | _ => .bad
@[simp] theorem asIR_i (i : Int) (g : Gs) : asIR (.d (.int i)) g = .ok i g := rfl
theorem asI_inv {r : RV} {g : Gs} {P : Int → Gs → Prop} {X : PyData → Gs → Prop} (h : (asIR r g).wp P X) : ∃ i, r = .d (.int i) ∧ P i g := by
  cases r with
  | d x =>
    cases x with
    | int i => exact ⟨i, rfl, h⟩
    | _ => exact h.elim
  | _ => exact h.elim
def oN : EFo := fun _ g => .ok none g
def oS (f : EF) : EFo := fun ρ g => (f ρ g).bind fun r g1 => (asIR r g1).bind fun i g2 => .ok (some i) g2
def cutD (xs : List PyData) (lo hi : Option Int) : List PyData := (xs.drop (HT.sIx xs.length 0 lo)).take (HT.sIx xs.length xs.length hi - HT.sIx xs.length 0 lo)
abbrev GOs := PyData → Option Int → Option Int → (RV → Prop) → Prop
def gSl : GOs := fun x lo hi Q => match x with
  | .list xs => Q (.nl (cutD xs lo hi))
  | .tuple xs => Q (.d (.tuple (cutD xs lo hi)))
  | .str z => z.length ≤ sizeLine ∧ Q (.d (.str (cutS z lo hi)))
  | _ => False
def rS (K : Ck) (go : GOs) : V → Option Int → Option Int → Hp → VK → Prop := fun x lo hi H Q => ∃ S F dx Qd, Okh S F H ∧ Rp K F x dx ∧ go dx lo hi Qd ∧ PostO K S F H Qd Q
def oSl (x : PyData) (lo hi : Option Int) : Option RV := match x with
  | .list xs => some (.nl (cutD xs lo hi))
  | .tuple xs => some (.d (.tuple (cutD xs lo hi)))
  | .str z => if z.length ≤ sizeLine then some (.d (.str (cutS z lo hi))) else none
  | _ => none
theorem sl_of {x : PyData} {lo hi : Option Int} {r : RV} {Q : RV → Prop} (h : oSl x lo hi = some r) (q : Q r) : gSl x lo hi Q := by
  cases x <;> simp [oSl] at h
  · obtain ⟨h1, rfl⟩ := h; exact ⟨h1, q⟩
  · subst h; exact q
  · subst h; exact q
def fSl (fe : EF) (fl fh : EFo) : EF := fun ρ g => (fDat fe ρ g).bind fun x g1 => (fl ρ g1).bind fun lo g2 => (fh ρ g2).bind fun hi g3 => R.ofO (oSl x lo hi) g3
section
variable {K : Ck} {W : WX}
theorem smo_n {t : TO} (e : ∀ σ H Q, t σ H Q = Q none H) : SmO K W t oN := fun S B F0 F H ρ σ g Pd Xd Q E h k kx => by rw [e]; exact k _ _ _ _ h (Ext.refl E.sub) E.j
theorem smo_none : SmO K W tNoPart oN := smo_n fun _ _ _ => rfl
theorem smo_some {te : TE} {fe : EF} (h : Sm K W te fe) : SmO K W (tPart te) (oS fe) := by
  intro S B F0 F H ρ σ g Pd Xd Q E hf k kx
  refine h S B F0 F H ρ σ g _ Xd _ E (R.wp_bind.mp hf) (fun r g' v F' H' q e j rv => ?_) kx
  obtain ⟨i, rfl, q⟩ := asI_inv (R.wp_bind.mp q)
  have rv : Rp K F' v (.int i) := rv
  cases rv
  exact ⟨i, rfl, k _ _ _ _ q e j⟩
theorem RpA.cut {F : Hp} {vs : List V} {ds : List PyData} (h : RpA K F vs ds) (lo hi : Option Int) : RpA K F (cutV vs lo hi) (cutD ds lo hi) := by
  unfold cutV cutD
  rw [h.length]
  exact (h.drop _).take _
theorem sl_anyP {X : Cx} : SlR X (rS (Cx.ck X) gSl) := by
  intro pins s σ H x v vl vu lo hi sl Q I rx hs pl pu h
  obtain ⟨S, F, dx, Qd, o, r, g, p⟩ := h
  cases r with
  | @lst a vs ds hr ra =>
    exact sl_list pins s σ H _ v vl vu lo hi sl Q I rx hs pl pu ⟨a, vs, rfl, (Le.sqx o.sub hr).sql, p.nl o (ra.cut lo hi) g⟩
  | @tup a vs ds hr hk ra =>
    by_cases hw : HT.sIx vs.length 0 lo = 0 ∧ HT.sIx vs.length vs.length hi = vs.length
    · refine sl_tupA pins s σ H _ v vl vu lo hi sl Q I rx hs pl pu ⟨a, vs, rfl, Le.sqt o.sub hr, fun c => p.d o (Rp.tup hr hk ra) ?_, fun c => absurd hw c⟩
      have e : cutD ds lo hi = ds := by
        unfold cutD
        rw [← ra.length, hw.1, hw.2]
        simp [ra.length]
      rw [← e]; exact g
    · cases rx
      obtain ⟨its, r, ht, hz⟩ := I.tuple (Le.sqt o.sub hr)
      have hlen : its.toArray.size = vs.length := by rw [List.size_toArray]; exact r.length.symm
      refine ⟨"tuple", _, PyProof.Rows.slot_tuple_getitem.lookup, ht.typeIs, ?_⟩
      refine HT.getItem_tuple_cut ht hs pl pu (by rw [hlen]; exact hw) ?_ (by rw [hlen]; exact hz)
      rw [hlen]
      refine ⟨.ref s.heap.objs.size, _, I.laid (t' := s.toks) (o := .frz { cls := .type "tuple", data := .seq ((its.drop (HT.sIx vs.length 0 lo)).take (HT.sIx vs.length vs.length hi - HT.sIx vs.length 0 lo)).toArray } (.tup (cutV vs lo hi))) (fun b ob q => Heap.get?_push_of_some _ q) (Nat.le_refl _) ?_, rfl, p.tup o (ra.cut lo hi) g _ _ (I.hok.fresh (Nat.le_refl _)) rfl⟩
      exact ⟨Heap.get?_push_size _ rfl, Nat.le_trans (cutV_length vs lo hi) hz, _, (r.drop (HT.sIx vs.length 0 lo)).take (HT.sIx vs.length vs.length hi - HT.sIx vs.length 0 lo), PyProof.Rows.IsTup.new _ _⟩
  | str z => exact sl_str pins s σ H _ v vl vu lo hi sl Q I rx hs pl pu ⟨z, rfl, g.1, p.d o (Rp.str _) g.2⟩
  | _ => exact g.elim
theorem sm_sl {te : TE} {tl th : TO} {fe : EF} {fl fh : EFo} (h1 : Sm K W te fe) (h2 : SmO K W tl fl) (h3 : SmO K W th fh) : Sm K W (tSl (rS K gSl) te tl th) (fSl fe fl fh) := by
  intro S B F0 F H ρ σ g Pd Xd Q E hf k kx
  refine h1.dat E (R.wp_bind.mp hf) kx fun x g1 v F1 H1 q1 e1 E1 r1 => ?_
  refine h2 S B F0 F1 H1 ρ σ g1 _ Xd _ E1 (R.wp_bind.mp q1) (fun lo g2 F2 H2 q2 e2 j2 => ?_) (XOk.ext kx e1 E1.j)
  have E2 := E1.ext e2 j2
  refine h3 S B F0 F2 H2 ρ σ g2 _ Xd _ E2 (R.wp_bind.mp q2) (fun hi g3 F3 H3 q3 e3 j3 => ?_) (XOk.ext kx (e1.trans e2 E1.j) j2)
  have E3 := E2.ext e3 j3
  obtain ⟨rr, q4, q5⟩ := R.wp_ofO q3
  refine ⟨S, F3, x, fun r => r = rr, E3.okh, (r1.mono e2.le).mono e3.le, sl_of q4 rfl, fun r v F' H' q e j rv => ?_⟩
  subst q
  have e13 := (e1.trans e2 E1.j).trans e3 j2
  exact k _ g3 v F' H' q5 (e13.trans e j3) (j _ j3) (rv.wide fun a ha => e13.free j3 ha)
end

/-! ### methods -/
abbrev GM := PyData → List AV → (RV → Prop) → Prop
def rM (K : Ck) (go : GM) : V → List V → Hp → VK → Prop := fun x xs H Q => ∃ S F dx as Qd, Okh S F H ∧ Rp K F x dx ∧ RepAVs K F xs as ∧ go dx as Qd ∧ PostO K S F H Qd Q
abbrev OM := PyData → List AV → Option RV
def GMof (o : OM) : GM := fun x as Q => ∃ r, o x as = some r ∧ Q r
def fM (T : String) (o : OM) (fo : EF) (fa : EFa) : EF := fun ρ g => (fDat fo ρ g).bind fun x g1 => if tyD x = T then (fa ρ g1).bind fun as g2 => R.ofO (o x as) g2 else .bad
section
variable {K : Ck}
theorem tyv_of {F H : Hp} {v : V} {x : PyData} {T : String} (s : Sub F H) (r : Rp K F v x) (e : tyD x = T) (hT : T = "str" ∨ T = "dict" ∨ T = "list") : tyV K T v H := by
  subst e
  cases r with
  | str x => exact rfl
  | lst h ra => exact .inl ⟨rfl, _, (Le.sqx s h).sql⟩
  | dK h r => rw [tyD_dK r]; exact .inr (.inr (.inl ⟨rfl, .inl ⟨_, s _ _ h⟩⟩))
  | dT h r n => rw [tyD_dT r]; exact .inr (.inr (.inl ⟨rfl, .inr ⟨_, s _ _ h⟩⟩))
  | non => exact absurd hT (by decide)
  | bl b => exact absurd hT (by simp [tyD])
  | int b => exact absurd hT (by simp [tyD])
  | tup _ _ _ => exact absurd hT (by simp [tyD])
  | obj _ _ _ _ => exact absurd hT (by simp)
theorem sm_m {W : WX} {T : String} {o : OM} {to : TE} {ta : TA} {fo : EF} {fa : EFa} (hT : T = "str" ∨ T = "dict" ∨ T = "list") (h1 : Sm K W to fo) (h2 : SmA K W ta fa) : Sm K W (tBM K T (rM K (GMof o)) to ta) (fM T o fo fa) := by
  intro S B F0 F H ρ σ g Pd Xd Q E hf k kx
  refine h1.dat E (R.wp_bind.mp hf) kx fun x g1 v F1 H1 q1 e1 E1 r1 => ?_
  by_cases c : tyD x = T
  · rw [if_pos c] at q1
    refine ⟨tyv_of E1.sub r1 c hT, ?_⟩
    refine h2 S B F0 F1 H1 ρ σ g1 _ Xd _ E1 (R.wp_bind.mp q1) (fun as g2 vs F2 H2 q2 e2 j2 ra => ?_) (XOk.ext kx e1 E1.j)
    have E2 := E1.ext e2 j2
    obtain ⟨rr, q3, q4⟩ := R.wp_ofO q2
    refine ⟨S, F2, x, as, fun r => r = rr, E2.okh, r1.mono e2.le, ra, ⟨rr, q3, rfl⟩, fun r v F' H' q e j rv => ?_⟩
    subst q
    have e12 := e1.trans e2 E1.j
    exact k _ g2 v F' H' q4 (e12.trans e j2) (j _ j2) (rv.wide fun a ha => e12.free j2 ha)
  · rw [if_neg c] at q1; exact q1.elim
end
/-! join -/
def gJoin : GM := fun x as Q => match x with
  | .str a => (match as with
    | [.d (.list xs)] => ∃ ys, strsD xs = some ys ∧ (ys.map (·.length)).sum + ys.length * a.length ≤ 16777216 ∧ Q (.d (.str (Txt.join a ys)))
    | _ => False)
  | _ => False
theorem mt_joinP {X : Cx} : MtR X "str.join" (rM (Cx.ck X) gJoin) := by
  intro pins s σ H x xs v us Q I rx rv h
  obtain ⟨S, F, dx, as, Qd, o, r, ra, g, p⟩ := h
  cases r with
  | str a =>
    match as, xs, ra, g with
    | [.d (.list ds)], [w], ra, g =>
      obtain ⟨ys, e, hz, q⟩ := g
      cases ra.1 with
      | @lst b vs _ hr ra =>
        have := strsD_rp ra e
        subst this
        exact mt_join pins s σ H _ _ v us Q I rx rv ⟨a, b, ys, rfl, rfl, .inl ((Le.sqx o.sub hr).sql), hz, p.d o (Rp.str _) q⟩
    | [.d (.list ds)], [], ra, g => exact ra.elim
    | [.d (.list ds)], _ :: _ :: _, ra, g => exact ra.2.elim
    | [], _, _, g => exact g.elim
    | [.o _], _, _, g => exact g.elim
    | [.d .none], _, _, g => exact g.elim
    | [.d (.bool _)], _, _, g => exact g.elim
    | [.d (.int _)], _, _, g => exact g.elim
    | [.d (.str _)], _, _, g => exact g.elim
    | [.d (.tuple _)], _, _, g => exact g.elim
    | [.d (.dict _)], _, _, g => exact g.elim
    | .d (.list _) :: _ :: _, _, _, g => exact g.elim
    | .d .none :: _ :: _, _, _, g => exact g.elim
    | .d (.bool _) :: _ :: _, _, _, g => exact g.elim
    | .d (.int _) :: _ :: _, _, _, g => exact g.elim
    | .d (.str _) :: _ :: _, _, _, g => exact g.elim
    | .d (.tuple _) :: _ :: _, _, _, g => exact g.elim
    | .d (.dict _) :: _ :: _, _, _, g => exact g.elim
    | .o _ :: _ :: _, _, _, g => exact g.elim
  | _ => exact g.elim
/-! dict.get -/
def gGet : GM := fun x as Q => match x with
  | .dict ks => (match as with
    | [.d y] => ∃ k, toDK y = some k ∧ matchK ks k = true ∧ Q (.d ((dget ks k).getD .none))
    | [.d y, .d z] => ∃ k, toDK y = some k ∧ matchK ks k = true ∧ Q (.d ((dget ks k).getD z))
    | _ => False)
  | _ => False
theorem getD_rp {K : Ck} {F : Hp} {o : Option V} {p : Option PyData} {v : V} {d : PyData} (h : match o, p with | some v, some d => Rp K F v d | none, none => True | _, _ => False) (r : Rp K F v d) : Rp K F (o.getD v) (p.getD d) := by
  cases o <;> cases p <;> first | exact r | exact h | exact h.elim
theorem mt_getP {X : Cx} (hu : X.A.units + 1 < cLine) : MtR X "dict.get" (rM (Cx.ck X) gGet) := by
  intro pins s σ H x xs v us Q I rx rv h
  obtain ⟨S, F, dx, as, Qd, o, r, ra, g, p⟩ := h
  cases dx with
  | dict ks =>
    match as, xs, ra, g with
    | [.d y], [w], ra, g =>
      obtain ⟨k, hk, hm, q⟩ := g
      obtain ⟨a, ov, rfl, lk, m⟩ := look_of o.sub r hk hm ra.1
      obtain rfl : v = Value.ref a := rx
      obtain ⟨u, rfl, ru⟩ := vals1 rv
      exact p_get1 hu I lk ru fun w' s' I' rw' => ⟨_, H, I', rw', p.d o (getD_rp m Rp.non) q⟩
    | [.d y, .d z], [w, w2], ra, g =>
      obtain ⟨k, hk, hm, q⟩ := g
      obtain ⟨a, ov, rfl, lk, m⟩ := look_of o.sub r hk hm ra.1
      obtain rfl : v = Value.ref a := rx
      obtain ⟨u, u2, rfl, ru, ru2⟩ := vals2 rv
      exact p_get hu I lk ru ru2 fun w' s' I' rw' => ⟨_, H, I', rw', p.d o (getD_rp m ra.2.1) q⟩
    | [.d y], [], ra, g => exact ra.elim
    | [.d y], _ :: _ :: _, ra, g => exact ra.2.elim
    | [.d y, .d z], [], ra, g => exact ra.elim
    | [.d y, .d z], [_], ra, g => exact ra.2.elim
    | [.d y, .d z], _ :: _ :: _ :: _, ra, g => exact ra.2.2.elim
    | [], _, _, g => exact g.elim
    | [.o _], _, _, g => exact g.elim
    | .o _ :: _ :: _, _, _, g => exact g.elim
    | .d _ :: .o _ :: _, _, _, g => exact g.elim
    | .d _ :: .d _ :: _ :: _, _, _, g => exact g.elim
  | _ => exact g.elim

/-! ### dict(pairs) -/
def pairsOf : List PyData → Option (List (Key × PyData))
  | [] => some []
  | .tuple [k, v] :: r => (match dkey k, pairsOf r with
    | some q, some l => some ((q, v) :: l)
    | _, _ => none)
  | _ :: _ => none
def mergeD (ks : List (PyData × PyData)) : List (Key × PyData) → List (PyData × PyData)
  | [] => ks
  | p :: r => mergeD (dput ks (keyD p.1) (.f p.1) p.2) r
def gDict : GO1 := fun x Q => match x with
  | .list xs => ∃ ps, pairsOf xs = some ps ∧ Q (.nd false (mergeD [] ps))
  | .tuple xs => ∃ ps, pairsOf xs = some ps ∧ Q (.nd false (mergeD [] ps))
  | _ => False
end Fx

namespace Fx
open PySem L2

/-! ### dict stores -/
section
variable {K : Ck} {F : Hp}
theorem toDK_tup (k : List Key) : toDK (.tuple (k.map keyD)) = some (.t k) := by show (dkeys (k.map keyD)).map DK.t = _; rw [dkeys_map]; rfl
theorem rpk_any (k : Key) : ∀ {kvs : List (Key × V)} {ds : List (PyData × PyData)}, RpK K F kvs ds → (kvs.any fun kv => decide (kv.1 = k)) = (ds.any fun p => decide (toDK p.1 = some (.f k)))
  | _, _, .nil => rfl
  | _, _, @RpK.cons _ _ k0 v kvs d ds r t => by
    rw [List.any_cons, List.any_cons, rpk_any k t, toDK_keyD]
    by_cases e : k0 = k <;> simp [e]
theorem rpk_map (k : Key) {v : V} {d : PyData} (rv : Rp K F v d) : ∀ {kvs : List (Key × V)} {ds : List (PyData × PyData)}, RpK K F kvs ds → RpK K F (kvs.map fun kv => if kv.1 = k then (kv.1, v) else kv) (ds.map fun p => if toDK p.1 = some (.f k) then (p.1, d) else p)
  | _, _, .nil => .nil
  | _, _, @RpK.cons _ _ k0 v0 kvs d0 ds r t => by
    rw [List.map_cons, List.map_cons, toDK_keyD]
    by_cases e : k0 = k
    · simp only [e, if_true]
      exact .cons rv (rpk_map k rv t)
    · have e2 : ¬ (some (DK.f k0) = some (DK.f k)) := fun z => by cases z; exact e rfl
      simp only [if_neg e, if_neg e2]
      exact .cons r (rpk_map k rv t)
theorem rpk_app : ∀ {kvs : List (Key × V)} {ds : List (PyData × PyData)} {kvs' : List (Key × V)} {ds' : List (PyData × PyData)}, RpK K F kvs ds → RpK K F kvs' ds' → RpK K F (kvs ++ kvs') (ds ++ ds')
  | _, _, _, _, .nil, s => s
  | _, _, _, _, .cons r t, s => .cons r (rpk_app t s)
theorem rpk_put (k : Key) {v : V} {d : PyData} (rv : Rp K F v d) {kvs : List (Key × V)} {ds : List (PyData × PyData)} (h : RpK K F kvs ds) : RpK K F (putK kvs k v) (dput ds (keyD k) (.f k) d) := by
  unfold putK dput
  rw [rpk_any k h]
  by_cases c : (ds.any fun p => decide (toDK p.1 = some (.f k))) = true
  · rw [if_pos c, if_pos c]; exact rpk_map k rv h
  · rw [if_neg c, if_neg c]; exact rpk_app h (.cons rv .nil)
theorem rpt_any (k : List Key) : ∀ {kvs : List (List Key × V)} {ds : List (PyData × PyData)}, RpT K F kvs ds → (kvs.any fun kv => decide (kv.1 = k)) = (ds.any fun p => decide (toDK p.1 = some (.t k)))
  | _, _, .nil => rfl
  | _, _, @RpT.cons _ _ k0 v kvs d ds r t => by
    rw [List.any_cons, List.any_cons, rpt_any k t, toDK_tup]
    by_cases e : k0 = k <;> simp [e]
theorem rpt_map (k : List Key) {v : V} {d : PyData} (rv : Rp K F v d) : ∀ {kvs : List (List Key × V)} {ds : List (PyData × PyData)}, RpT K F kvs ds → RpT K F (kvs.map fun kv => if kv.1 = k then (kv.1, v) else kv) (ds.map fun p => if toDK p.1 = some (.t k) then (p.1, d) else p)
  | _, _, .nil => .nil
  | _, _, @RpT.cons _ _ k0 v0 kvs d0 ds r t => by
    rw [List.map_cons, List.map_cons, toDK_tup]
    by_cases e : k0 = k
    · simp only [e, if_true]
      exact .cons rv (rpt_map k rv t)
    · have e2 : ¬ (some (DK.t k0) = some (DK.t k)) := fun z => by cases z; exact e rfl
      simp only [if_neg e, if_neg e2]
      exact .cons r (rpt_map k rv t)
theorem rpt_app : ∀ {kvs : List (List Key × V)} {ds : List (PyData × PyData)} {kvs' : List (List Key × V)} {ds' : List (PyData × PyData)}, RpT K F kvs ds → RpT K F kvs' ds' → RpT K F (kvs ++ kvs') (ds ++ ds')
  | _, _, _, _, .nil, s => s
  | _, _, _, _, .cons r t, s => .cons r (rpt_app t s)
theorem rpt_put (k : List Key) {v : V} {d : PyData} (rv : Rp K F v d) {kvs : List (List Key × V)} {ds : List (PyData × PyData)} (h : RpT K F kvs ds) : RpT K F (putK kvs k v) (dput ds (.tuple (k.map keyD)) (.t k) d) := by
  unfold putK dput
  rw [rpt_any k h]
  by_cases c : (ds.any fun p => decide (toDK p.1 = some (.t k))) = true
  · rw [if_pos c, if_pos c]; exact rpt_map k rv h
  · rw [if_neg c, if_neg c]; exact rpt_app h (.cons rv .nil)
theorem rpk_merge {ps : List (Key × V)} {qs : List (Key × PyData)} (h : Paired (fun p q => p.1 = q.1 ∧ Rp K F p.2 q.2) ps qs) : ∀ {kvs : List (Key × V)} {ds : List (PyData × PyData)}, RpK K F kvs ds → RpK K F (mergeK kvs ps) (mergeD ds qs) := by
  induction h with
  | nil => intro kvs ds h; exact h
  | @cons p q ps qs r t ih =>
    intro kvs ds h
    obtain ⟨k, v⟩ := p
    obtain ⟨k', d⟩ := q
    obtain ⟨e, rv⟩ := r
    cases (show k = k' from e)
    exact ih (rpk_put k rv h)
end

/-! ### {} and d[k] = v -/
def fNewD (t : Bool) : EF := fun _ g => .ok (.nd t []) g
/-- the key's kind is the dict's -/
def kindK : DK → Bool
  | .f _ => false
  | .t _ => true
def dicSD {α : Type} (s : Option SD) (k : Bool → List (PyData × PyData) → R α) : R α := match s with
  | some (.dic t ks) => k t ks
  | _ => .bad
@[simp] theorem dicSD_dic {α : Type} (t : Bool) (ks : List (PyData × PyData)) (k : Bool → List (PyData × PyData) → R α) : dicSD (some (.dic t ks)) k = k t ks := rfl
theorem dicSD_wp {α : Type} {s : Option SD} {k : Bool → List (PyData × PyData) → R α} {P : α → Gs → Prop} {X : PyData → Gs → Prop} (h : (dicSD s k).wp P X) : ∃ t ks, s = some (.dic t ks) ∧ (k t ks).wp P X := by
  unfold dicSD at h
  split at h
  · exact ⟨_, _, rfl, h⟩
  · exact h.elim
/-- the dict behind a store -/
def oPut (t : Bool) (ks : List (PyData × PyData)) (y v : PyData) : Option (List (PyData × PyData)) := match toDK y with
  | some k => if kindK k = t ∧ t = false ∧ ks.length < sizeLine then some (dput ks y k v) else none
  | none => none
theorem oPut_of {t : Bool} {ks ks' : List (PyData × PyData)} {y v : PyData} (h : oPut t ks y v = some ks') : ∃ k, toDK y = some k ∧ kindK k = t ∧ t = false ∧ ks.length < sizeLine ∧ ks' = dput ks y k v := by
  unfold oPut at h
  split at h
  · rename_i k e
    split at h
    · rename_i c; cases h; exact ⟨k, e, c.1, c.2.1, c.2.2, rfl⟩
    · cases h
  · cases h
def fPut (i : Nat) (fy fv : EF) : EFs := fun ρ g => dicSD ρ[i]? fun t ks => (fDat fv ρ g).stx ρ fun v g1 => (fDat fy ρ g1).stx ρ fun y g2 => (R.ofO (oPut t ks y v) g2).bind fun ks' g3 => .ok (.nx (ρ.set i (.dic t ks'))) g3
section
variable {K : Ck} {W : WX}
theorem sm_newK : Sm K W tDNewK (fNewD false) := by
  intro S B F0 F H ρ σ g Pd Xd Q E h k kx p hp
  exact k _ g _ F _ h (Ext.own E.sub hp) (J.new E.j hp) ⟨p, .k [], rfl, hp, fun m => E.okh.mt p m hp, E.sub.free hp, upd_same, rfl, RpK.nil⟩
theorem sm_newT : Sm K W tDNewT (fNewD true) := by
  intro S B F0 F H ρ σ g Pd Xd Q E h k kx p hp
  exact k _ g _ F _ h (Ext.own E.sub hp) (J.new E.j hp) ⟨p, .t [], rfl, hp, fun m => E.okh.mt p m hp, E.sub.free hp, upd_same, rfl, RpT.nil⟩
theorem sms_put (i : Nat) {ty tv : TE} {fy fv : EF} (hy : Sm K W ty fy) (hv : Sm K W tv fv) : SmS K W (sDPut (tVar i) ty tv) (fPut i fy fv) := by
  intro S B F0 F H ρ σ g D E hf
  obtain ⟨t, ks, e, hf⟩ := dicSD_wp hf
  refine hv.dat E (stx_wp hf) (stx_x (t := True) (P := fun _ _ => True) E) fun v g1 vv F1 H1 q1 e1 E1 r1 => ?_
  obtain ⟨w1, s1, s2⟩ := E1.sl i _ e
  obtain ⟨a, rfl, _⟩ := id s2
  refine ⟨.ref a, s1, ?_⟩
  refine hy.dat E1 (stx_wp q1) (stx_x (t := True) (P := fun _ _ => True) E1) fun y g2 vy F2 H2 q2 e2 E2 r2 => ?_
  obtain ⟨w2, s3, s4⟩ := E2.sl i _ e
  rw [s1] at s3
  cases s3
  obtain ⟨b, hb, c1, c2, c3, n, c4, c5, c6⟩ := id s4
  cases hb
  obtain ⟨ks', o1, q⟩ := R.wp_ofO (R.wp_bind.mp q2)
  obtain ⟨k, hk, hkt, ht, hz, rfl⟩ := oPut_of o1
  subst ht
  rcases toDK_inv hk with ⟨kk, rfl, rfl⟩ | ⟨kk, rfl, rfl⟩
  · cases n with
    | t kvs => cases c5
    | k kvs =>
      have ey := rp_keyD r2
      have c6' : RpK K F2 kvs ks := c6
      refine ⟨a, _, rfl, .inl ⟨kvs, kk, c4, ey, by rw [c6'.length]; exact hz, rfl⟩, ?_⟩
      exact q _ _ _ (E2.mut e rfl s1 rfl fun H3 h3 => ⟨.k _, h3, rfl, rpk_put kk (r1.mono e2.le) c6'⟩)
  · cases hkt
end

/-! ### dict(pairs) -/
theorem pairsOf_cons {x : PyData} {r : List PyData} {ps : List (Key × PyData)} (h : pairsOf (x :: r) = some ps) : ∃ k v q l, x = .tuple [k, v] ∧ dkey k = some q ∧ pairsOf r = some l ∧ ps = (q, v) :: l := by
  unfold pairsOf at h
  split at h
  · rename_i e; cases e
  · rename_i k v r' e
    cases e
    cases hk : dkey k with
    | none => rw [hk] at h; cases h
    | some q =>
      cases hr : pairsOf r with
      | none => rw [hk, hr] at h; cases h
      | some l => rw [hk, hr] at h; cases h; exact ⟨k, v, q, l, rfl, hk, rfl, rfl⟩
  · cases h
section
open PySem.Calls PyProof.Rows
variable {X : Cx} {pins : List (Addr × Obj)} {σ : L2.St} {H F : Hp} {s : Shared}
theorem dkey_keyD' {k : PyData} {q : Key} (h : dkey k = some q) : k = keyD q := by
  cases k <;> first | (cases h; rfl) | cases h
theorem relV_keyIs {q : Key} {u : Value} (r : RelV (kV q) u) : keyIs q u = true := by
  cases q with
  | inl i => obtain ⟨t, rfl⟩ := r; exact keyIs_int i t
  | inr i => obtain ⟨t, rfl⟩ := r; exact keyIs_str i t
theorem pairs_at (I : Inv X pins σ H s) (le : Le F H) : ∀ {ds : List PyData} {vs : List V} {us : List Value} {ps : List (Key × PyData)}, RpA (Cx.ck X) F vs ds → Vals vs us → pairsOf ds = some ps →
    ∃ (as : List Addr) (kvs : List (Key × V)) (prs : List (Value × Value)), us = as.map Value.ref ∧ KV kvs (kvs.zip prs |>.map fun z => (z.1.1, z.2.2)) ∧ kvs.length = ps.length ∧ as.length = ps.length ∧ prs.length = ps.length ∧ Paired (fun p q => p.1 = q.1 ∧ Rp (Cx.ck X) F p.2 q.2) kvs ps ∧
      (∀ (j : Nat) (k v : Value), prs[j]? = some (k, v) → ∃ a kv, as[j]? = some a ∧ kvs[j]? = some kv ∧ s.heap.IsTuple a #[k, v] ∧ keyIs kv.1 k = true)
  | [], _, _, ps, .nil, rv, e => by
    cases rv
    cases e
    exact ⟨[], [], [], rfl, .nil, rfl, rfl, rfl, .nil, fun j k v h => by simp at h⟩
  | d :: ds, v :: vs, _, ps, .cons r t, .cons r1 r2, e => by
    obtain ⟨k, v', q, l, rfl, hk, hl, rfl⟩ := pairsOf_cons e
    obtain ⟨as, kvs, prs, rfl, hkv, l1, l2, l3, pp, hh⟩ := pairs_at I le t r2 hl
    cases r with
    | @tup a ws _ hr _ ra =>
      cases ra with
      | @cons w _ _ _ rk ra2 =>
        cases ra2 with
        | @cons w2 _ _ _ rv2 ra3 =>
          cases ra3
          cases r1
          obtain ⟨its, rvs, ⟨o, ho, hc, n, hd⟩, _⟩ := I.tuple (Le.sqt le hr)
          cases rvs with
          | @cons _ uk _ _ ruk rvs2 =>
            cases rvs2 with
            | @cons _ uv _ _ ruv rvs3 =>
              cases rvs3
              have ek := dkey_keyD' hk
              subst ek
              have ew := rp_keyD rk
              subst ew
              refine ⟨a :: as, (q, w2) :: kvs, (uk, uv) :: prs, rfl, .cons ⟨rfl, ruv⟩ hkv, by simp [l1], by simp [l2], by simp [l3], .cons ⟨rfl, rv2⟩ pp, fun j k v h => ?_⟩
              cases j with
              | zero =>
                simp at h
                obtain ⟨rfl, rfl⟩ := h
                exact ⟨a, (q, w2), rfl, rfl, ⟨o, ho, hc, n, hd⟩, relV_keyIs ruk⟩
              | succ j => simpa using hh j k v (by simpa using h)
theorem cr_dictP (hc : X.calm = true) : CallR X (.type "dict") (rA (Cx.ck X) (g1 gDict)) := cr_one fun pins s σ H v u S F x Qd Q I ru o rx g p => by
  have fin : ∀ {kvs : List (Key × V)} {prs : List (Value × Value)} {ps : List (Key × PyData)} (h' : Heap) (tk : Nat), KV kvs (kvs.zip prs |>.map fun z => (z.1.1, z.2.2)) → kvs.length = ps.length → ps.length ≤ sizeLine → Paired (fun p q => p.1 = q.1 ∧ Rp (Cx.ck X) F p.2 q.2) kvs ps → Qd (.nd false (mergeD [] ps)) →
      Heap.DictOf (mixKind X.prog X.w) h' s.heap.objs.size (merged [] (kvs.zip prs |>.map fun z => (z.1.1, z.2.2))) → (∀ (b : Addr) (o : Obj), s.heap.get? b = some o → h'.get? b = some o) → EP X pins σ Q (.ref s.heap.objs.size) { heap := h', gens := s.gens, drawn := s.drawn, toks := tk, os := s.os } := by
    intro kvs prs ps h' tk hkv l1 hz pp q hd k
    have hm : (s.heap.objs.size == sysModules) = false := beq_eq_false_iff_ne.mpr (Nat.ne_of_gt I.big)
    have hlen : (mergeK [] kvs).length ≤ sizeLine := by
      refine Nat.le_trans (length_mergeK kvs []) ?_
      rw [List.length_nil, Nat.zero_add, l1]
      exact hz
    have hf := I.hok.fresh (Nat.le_refl s.heap.objs.size)
    refine ⟨.ref s.heap.objs.size, upd H s.heap.objs.size (.dK (mergeK [] kvs)), I.laid (t' := tk) k (Nat.le_refl _) (show ObjOk X.prog X.w _ _ _ (.dK (mergeK [] kvs)) from ⟨hlen, hm, _, KV.merge hkv .nil, hd⟩), rfl, ?_⟩
    exact p _ _ F _ q (Ext.own o.sub hf) (fun _ j => J.new j hf) ⟨_, .k (mergeK [] kvs), rfl, hf, fun m => o.mt _ m hf, o.sub.free hf, upd_same, rfl, rpk_merge pp RpK.nil⟩
  cases rx with
  | @lst a vs ds hr ra =>
    cases ru
    obtain ⟨ps, e, q⟩ := g
    obtain ⟨its, rvs, ⟨oo, n, ho, hcl, hd0, hd⟩, hz⟩ := I.list (Le.sqx o.sub hr).sql
    obtain ⟨as, kvs, prs, rfl, hkv, l1, l2, l3, pp, hh⟩ := pairs_at I o.sub ra rvs e
    have hz' : ps.length ≤ sizeLine := by rw [← l2]; have := rvs.length; rw [List.length_map] at this; omega
    refine call_dict_pairs (PairArg.list a _ (fun j => as.getD j 0) prs) (I.ok.hd hc) ⟨⟨oo, n, ho, hcl, hd0, hd⟩, ?_, fun j k v hj => ?_⟩ (knd := mixKind X.prog X.w) (kvs := kvs.zip prs |>.map fun z => (z.1.1, z.2.2)) ⟨?_, fun j k v hj => ?_⟩ ?_ fun h' tk hd' k => ?_
    · simp [l2, l3]
    · obtain ⟨a', kv, h1, h2, h3, h4⟩ := hh j k v hj
      exact ⟨by simp [h1, List.getD], .inl (by show s.heap.IsTuple (as.getD j 0) _; rw [List.getD_eq_getElem?_getD, h1]; exact h3)⟩
    · simp [l1, l3]
    · obtain ⟨a', kv, h1, h2, h3, h4⟩ := hh j k v hj
      exact ⟨kv.1, by simp [List.getElem?_zip_eq_some.mpr (show kvs[j]? = some (kv, (k, v)).1 ∧ prs[j]? = some (kv, (k, v)).2 from ⟨h2, hj⟩)], h4⟩
    · rw [l3]; exact hz'
    · exact fin h' tk hkv l1 hz' pp q hd' (fun b ob e => k b ob (by simp) e)
  | @tup a vs ds hr hk ra =>
    cases ru
    obtain ⟨ps, e, q⟩ := g
    obtain ⟨its, rvs, ⟨oo, ho, hcl, n, hd⟩, hz⟩ := I.tuple (Le.sqt o.sub hr)
    have hd0 : oo.dict = none := by
      rcases hk with ⟨hF, hn⟩ | ⟨o2, hF, hn⟩
      · exfalso
        obtain ⟨d, hd, hn⟩ := List.any_eq_true.mp hn
        have : ∀ (ds : List PyData) (ps : List (Key × PyData)), pairsOf ds = some ps → ∀ d ∈ ds, notT d = true → False := by
          intro ds
          induction ds with
          | nil => intro _ _ _ h; cases h
          | cons d ds ih =>
            intro ps e d' hd' hn
            obtain ⟨k, v, q, l, rfl, _, hl, _⟩ := pairsOf_cons e
            rcases List.mem_cons.mp hd' with rfl | h
            · cases hn
            · exact ih l hl d' h hn
        exact this ds ps e d hd hn
      · have := (I.hok a _ (o.sub _ _ hF)).1
        rw [ho] at this
        cases this
        exact hn
    obtain ⟨as, kvs, prs, rfl, hkv, l1, l2, l3, pp, hh⟩ := pairs_at I o.sub ra rvs e
    have hz' : ps.length ≤ sizeLine := by rw [← l2]; have := rvs.length; rw [List.length_map] at this; omega
    refine call_dict_pairs (PairArg.tuple a _ (fun j => as.getD j 0) prs) (I.ok.hd hc) ⟨⟨oo, n, ho, hcl, hd0, hd⟩, ?_, fun j k v hj => ?_⟩ (knd := mixKind X.prog X.w) (kvs := kvs.zip prs |>.map fun z => (z.1.1, z.2.2)) ⟨?_, fun j k v hj => ?_⟩ ?_ fun h' tk hd' k => ?_
    · simp [l2, l3]
    · obtain ⟨a', kv, h1, h2, h3, h4⟩ := hh j k v hj
      exact ⟨by simp [h1, List.getD], .inl (by show s.heap.IsTuple (as.getD j 0) _; rw [List.getD_eq_getElem?_getD, h1]; exact h3)⟩
    · simp [l1, l3]
    · obtain ⟨a', kv, h1, h2, h3, h4⟩ := hh j k v hj
      exact ⟨kv.1, by simp [List.getElem?_zip_eq_some.mpr (show kvs[j]? = some (kv, (k, v)).1 ∧ prs[j]? = some (kv, (k, v)).2 from ⟨h2, hj⟩)], h4⟩
    · rw [l3]; exact hz'
    · exact fin h' tk hkv l1 hz' pp q hd' (fun b ob e => k b ob (by simp) e)
  | _ => exact g.elim
end
end Fx

namespace Fx
open PySem L2

/-! ### sorted(d.items()) -/
def itemsV (p d : Addr) : HO := .ext fun h => h.IsItemsView p d
theorem itemsV_ok {P : Program} {w : World} {H : Hp} {h : Heap} {p d : Addr} (e : h.get? p = some { cls := .type "dict_items", data := .fields #[.ref d] }) : ObjOk P w H h p (itemsV p d) :=
  ⟨⟨_, e, rfl, rfl⟩, ⟨_, e⟩, fun h1 h2 x k => let ⟨o, ho, r⟩ := x; ⟨o, k o ho, r⟩⟩
def rItemsV : V → List V → Hp → VK → Prop := fun x xs H Q => ∃ (a : Addr) (kvs : List (Key × V)), x = .ref a ∧ xs = [] ∧ H a = some (.dK kvs) ∧ ∀ p, H p = none → Q (.ref p) (upd H p (itemsV p a))
def pairsD (ks : List (PyData × PyData)) : List PyData := ks.map fun p => .tuple [p.1, p.2]
open Classical in
noncomputable def oSorted (x : PyData) : Option RV := match x with
  | .list xs => if SortOk xs then some (.nl (sortD xs)) else none
  | .tuple xs => if SortOk xs then some (.nl (sortD xs)) else none
  | _ => none
theorem oSorted_of {xs : List PyData} {r : RV} (h : oSorted (.list xs) = some r) : SortOk xs ∧ r = .nl (sortD xs) := by
  unfold oSorted at h
  simp only at h
  split at h
  · cases h; exact ⟨‹_›, rfl⟩
  · cases h
theorem sorted_of {x : PyData} {r : RV} {Q : RV → Prop} (h : oSorted x = some r) (q : Q r) : gSorted x Q := by
  unfold oSorted at h
  split at h
  · split at h
    · cases h; exact ⟨‹_›, q⟩
    · cases h
  · split at h
    · cases h; exact ⟨‹_›, q⟩
    · cases h
  · cases h
theorem oSorted_eq {xs : List PyData} (h : SortOk xs) : oSorted (.list xs) = some (.nl (sortD xs)) := by
  unfold oSorted
  simp only [if_pos h]
theorem oSorted_eqT {xs : List PyData} (h : SortOk xs) : oSorted (.tuple xs) = some (.nl (sortD xs)) := by
  unfold oSorted
  simp only [if_pos h]
def rSI (K : Ck) : List V → Hp → VK → Prop := fun xs H Q => ∃ S F p a kvs ks Qd, xs = [V.ref p] ∧ Okh S F H ∧ H p = some (itemsV p a) ∧ H a = some (.dK kvs) ∧ RpK K F kvs ks ∧ SortOk (pairsD ks) ∧ ks.length ≤ sizeLine ∧ Qd (.nl (sortD (pairsD ks))) ∧ PostO K S F H Qd Q
section
open PySem.W PySem.Calls PyProof.Rows
variable {X : Cx}
theorem mt_itemsV : MtR X "dict.items" rItemsV := by
  intro pins s σ H x xs v us Q I rx rxs h
  obtain ⟨a, kvs, rfl, rfl, ha, q⟩ := h
  cases rx
  cases rxs
  obtain ⟨hz, hs0, vs, kv, hdo⟩ := I.hok a _ ha
  have hf : H s.heap.objs.size = none := I.hok.fresh (Nat.le_refl _)
  exact call_meetsIn PySem.F.slot_dict_items hdo.typeIs PySem.F.entry_dict_items (PySem.F.args_dict_items_1 _) (meets_dict_items (mixKind X.prog X.w) a hs0) ⟨⟨vs, hdo⟩,
    ⟨.ref s.heap.objs.size, upd H s.heap.objs.size (itemsV s.heap.objs.size a), I.laid (t' := s.toks) (fun b u e => Heap.get?_push_of_some _ e) (Nat.le_refl _) (itemsV_ok (Heap.get?_push_size _ rfl)), rfl, q _ hf⟩⟩
theorem keyD_kV {K : Ck} {F : Hp} (k : Key) : Rp K F (kV k) (keyD k) := by
  cases k with
  | inl i => exact .int i
  | inr i => exact .str i
theorem putT_rp {K : Ck} {F : Hp} : ∀ {as : List Addr} {kvs : List (Key × V)} {ks : List (PyData × PyData)}, Paired (fun (t : Addr) (p : Key × V) => F t = some (.tup [kV p.1, p.2])) as kvs → RpK K F kvs ks → RpA K F (as.map V.ref) (pairsD ks)
  | [], _, _, .nil, h => by cases h; exact .nil
  | a :: as, _, _, .cons e t, h => by
    cases h with
    | @cons k v _ d ds rv rr =>
      refine .cons (Rp.tup (.inl (.inl e)) (.inl ⟨e, ?_⟩) (.cons (keyD_kV k) (.cons rv .nil))) (putT_rp t rr)
      cases k <;> rfl
theorem cr_sortedIt (hc : X.calm = true) (hu : X.A.units + 80 < cLine) : CallR X (.builtin "sorted") (rSI (Cx.ck X)) := by
  intro pins s σ H xs us Q I r h
  obtain ⟨S, F, p, a, kvs, ks, Qd, rfl, o, hp, ha, rk, so, hz, q, P⟩ := h
  obtain rfl := Vals.ref1 r
  have view : s.heap.IsItemsView p a := (show ObjOk X.prog X.w H s.heap p (itemsV p a) from I.hok p _ hp).1
  obtain ⟨hz0, hs0, vs, kv, hdo⟩ := I.hok a _ ha
  obtain ⟨ep, hat⟩ := hdo.dictAt
  have lk : kvs.length = vs.length := Paired.length kv
  refine sorted_call (pins := pins) (σ := σ) (X := X) (PySem.W.kdx_collect (knd := mixKind X.prog X.w) (kvs := vs) (ep := ep) (I.ok.hd hc) view hat (by omega) fun h' tk as hk hl hG => ?_) hu
  have nd : as.Nodup := List.Pairwise.imp (fun {a b} (h : a < b) => Nat.ne_of_lt h) hG.rise
  have new : ∀ t ∈ as, H t = none := fun t ht => I.hok.fresh (Nat.le_of_lt (hG.above t ht))
  have newF : ∀ t ∈ as, F t = none := fun t ht => o.sub.free (new t ht)
  have atP := LiI.putT_at as kvs H (by omega) nd
  have atF := LiI.putT_at as kvs F (by omega) nd
  have off : ∀ b, b ∉ as → LiI.putT H as kvs b = H b := fun b h1 => LiI.putT_off as kvs _ h1
  have offF : ∀ b, b ∉ as → LiI.putT F as kvs b = F b := fun b h1 => LiI.putT_off as kvs _ h1
  have low : ∀ b o, s.heap.get? b = some o → b ∉ as := fun b o e z => absurd (Heap.lt_size e) (Nat.not_lt.mpr (Nat.le_of_lt (hG.above b z)))
  have kp : ∀ b u, H b = some u → LiI.putT H as kvs b = some u := fun b u e => by
    rw [off b (fun z => by rw [new b z] at e; cases e)]
    exact e
  have I1 : Inv X pins σ (LiI.putT H as kvs) { s with heap := h', toks := tk } := by
    refine I.call' (ch := []) rfl ⟨fun b o q _ _ _ => hk b o q, fun b o q _ _ _ => ⟨o.slots, hk b o q⟩, fun b o q n _ => ?_, fun b o q _ => ⟨o, hk b o q⟩, fun b xs q => kp b _ q, fun b o u q => kp b _ q, fun b ps q => ⟨#[], by rw [kp b _ q]; simp⟩⟩ (fun b u q => ?_) I.bare fun b z => by simp at z
    · rw [off b (low b o q)]
      exact n
    · by_cases hb : b ∈ as
      · obtain ⟨j, pk, e1, e2, e3⟩ := LiI.paired_ix atP hb
        rw [e3] at q
        cases q
        obtain ⟨key, k, x, f1, f2, f3⟩ := hG.pairs j b e1
        obtain ⟨qv, g1, g2, g3⟩ := LiI.paired_get kv e2
        rw [f1] at g1
        cases g1
        have rk : RelV (kV pk.1) key := by
          rw [g2]
          exact relV_key (show keyIs k key = true from f2)
        exact ⟨by show 2 ≤ sizeLine; decide, [key, x], .cons rk (.cons g3 .nil), ⟨_, f3, rfl, _, rfl⟩⟩
      · rw [off b hb] at q
        exact (I.hok b u q).stay (fun d v _ y => hk d v y) (fun d y => kp d _ y) fun d xs y => kp d _ y
  have le : Le F (LiI.putT F as kvs) := fun b u e => by
    rw [offF b (fun z => by rw [newF b z] at e; cases e)]
    exact e
  have sub : Sub (LiI.putT F as kvs) (LiI.putT H as kvs) := fun b u e => by
    by_cases hb : b ∈ as
    · obtain ⟨j, pk, e1, e2, e3⟩ := LiI.paired_ix atF hb
      obtain ⟨pk2, g1, g2⟩ := LiI.paired_get atP e1
      rw [e2] at g1
      cases g1
      rw [e3] at e
      rw [g2]
      exact e
    · rw [off b hb]; rw [offF b hb] at e; exact o.sub _ _ e
  have ra : RpA (Cx.ck X) (LiI.putT F as kvs) (as.map V.ref) (pairsD ks) := putT_rp atF (rk.mono le)
  refine ⟨_, LiI.putT F as kvs, as.map V.ref, pairsD ks, I1, sub, LiI.vals_refs as, ra, so, by simp [pairsD]; exact hz, fun s' pp ws hpp I2 rw2 => ?_⟩
  refine ⟨.ref pp, _, I2, rfl, P _ _ (LiI.putT F as kvs) _ q ⟨fun b u e m => ?_, fun b e => offF b fun z => e (new b z), le, fun b u e => ?_⟩ (fun g j => ?_) ⟨pp, ws, rfl, ?_, fun m => ?_, sub.free hpp, upd_same, rw2⟩⟩
  · have := kp b u e
    rw [upd_ne (ne_of_none this hpp)]
    exact this
  · have := sub b u e
    rw [upd_ne (ne_of_none this hpp)]
    exact this
  · refine S.ok _ _ _ j fun b m => ?_
    have hb := S.there _ _ _ j m
    cases e : H b with
    | none => exact absurd e hb
    | some u =>
      have := kp b u e
      rw [upd_ne (ne_of_none this hpp)]
      exact this
  · cases e : H pp with
    | none => rfl
    | some u => rw [kp pp u e] at hpp; cases hpp
  · have hb := o.mt pp m
    cases e : H pp with
    | none => exact hb e
    | some u => rw [kp pp u e] at hpp; cases hpp
end
def oSortIt (x : PyData) : Option (List PyData) := match x with
  | .dict ks => if (ks.all fun p => (dkey p.1).isSome) = true ∧ ks.length ≤ sizeLine then some (pairsD ks) else none
  | _ => none
noncomputable def fSortIt (fd : EF) : EF := fun ρ g => (fDat fd ρ g).bind fun x g1 => (R.ofO (oSortIt x) g1).bind fun ps g2 => R.ofO (oSorted (.list ps)) g2
section
variable {K : Ck} {W : WX}
theorem sm_sortIt {td : TE} {fd : EF} (h : Sm K W td fd) : Sm K W (tCB (rSI K) (tCons (tBM0 K "dict" rItemsV td) tNil)) (fSortIt fd) := by
  intro S B F0 F H ρ σ g Pd Xd Q E hf k kx
  refine h.dat E (R.wp_bind.mp hf) kx fun x g1 v F1 H1 q e E1 r => ?_
  obtain ⟨ps, o1, q⟩ := R.wp_ofO (R.wp_bind.mp q)
  obtain ⟨rr, o2, q⟩ := R.wp_ofO q
  cases r with
  | @dK a kvs ds hr rk =>
    simp only [oSortIt] at o1
    · split at o1
      · rename_i c
        cases o1
        obtain ⟨h2, rfl⟩ := oSorted_of o2
        refine ⟨.inr (.inr (.inl ⟨rfl, .inl ⟨_, E1.sub _ _ hr⟩⟩)), a, kvs, rfl, rfl, E1.sub _ _ hr, fun p hp => ?_⟩
        have n := Ext.own (S := S) (o := itemsV p a) E1.sub hp
        have E2 := E1.ext n (J.new E1.j hp)
        refine ⟨S, F1, p, a, kvs, ds, fun r => r = .nl (sortD (pairsD ds)), rfl, E2.okh, upd_same, by rw [upd_ne (ne_of_none (E1.sub _ _ hr) hp)]; exact E1.sub _ _ hr, rk, h2, c.2, rfl, fun r v F' H' q2 e' j rv => ?_⟩
        subst q2
        have e12 := e.trans n E1.j
        exact k _ g1 v F' H' q (e12.trans e' E2.j) (j _ E2.j) (rv.wide fun a ha => e12.free E2.j ha)
      · cases o1
  | @dT a kvs ds hr rk hn =>
    exfalso
    simp only [oSortIt] at o1
    split at o1
    · rename_i c
      cases rk with
      | nil => exact hn rfl
      | cons r t => exact absurd c.1 (by simp [dkey])
    · cases o1
  | obj _ _ _ _ =>
    exfalso
    simp only [oSortIt, objD] at o1
    split at o1
    · rename_i c
      exact absurd c.1 (by simp [dkey])
    · cases o1
  | _ => cases o1
end
/-! ### max(xs, default=d) -/
section
open PySem.Sem (wp)
variable {prog : Program} {w : World} {A : Around} {R : Result → Shared → Prop} {I : Addr} {fp wr : List Addr} {n : Nat} {P : Nat → Value → Prop} {St : Nat → Heap → Prop}
theorem codeAny_max_loopD (dv : Value) (W : Walks prog w A.in1 I fp wr n P St) (bt : Nat → Nat → Bool) (hcmp : CmpOf prog w A.in1 .Gt P bt) (S : Addr) (hSf : S ∉ fp) :
    ∀ (k j : Nat) (s : Shared) (vb : Value) (c : Nat), n - (j + 1) = k → j + 1 ≤ n → St (j + 1) s.heap → P (argBest bt j) vb →
    s.heap.get? S = some { cls := .type "list", dict := none, data := .seq #[vb, vb] c, slots := #[] } →
    (∀ v h' tk, P (argBest bt (n - 1)) v → (∀ b o, b ∉ wr → b ≠ S → s.heap.get? b = some o → h'.get? b = some o) → R (.ok (.ret v)) { s with heap := h', toks := tk }) →
    codeAny (model prog w) A (.builtin "max.loop" ⟨[.ref I, .none, .ref S], [(Str.ofString "default", dv)]⟩) R s := by
  have hSw : S ∉ wr := fun h => hSf (W.sub _ h)
  have hname : (toString "max" ++ toString ".loop" : String) = "max.loop" := by decide
  intro k
  induction k with
  | zero =>
    intro j s vb c hk hj hst hPb hS hR
    have hin : j + 1 = n := by omega
    refine codeAny_builtin F.entry_max_loop ?_
    rw [Around.under_plainId F.plain_max_loop _]
    show wpAny _ A.in1 (seqItems? (.ref S) >>= _) _ _ s
    refine wpAny_bind (wpAny_seqItems hS rfl ?_)
    show wpAny _ A.in1 (tryCatch (pyNext (.ref I)) _ >>= _) _ _ s
    refine wpAny_bind (wpAny_tryCatch (W.done s _ _ (hin ▸ hst) fun h' tk hk' => ?_))
    have hS' := hk' S _ hSw hS
    show wpAny _ A.in1 (updateSeq S (fun _ => #[]) >>= _) _ _ _
    refine wpAny_bind ?_
    refine wpAny_updateSeq hS' rfl (wpAny_bind (wpAny_letGo (wpAny_pure ?_)))
    refine hR vb _ tk (by rw [← hin]; exact hPb) fun b o hbw hbS e => (Heap.get?_update_other _ _ (Ne.symm hbS)).trans (hk' b o hbw e)
  | succ k ih =>
    intro j s vb c hk hj hst hPb hS hR
    have hlt : j + 1 < n := by omega
    refine codeAny_builtin F.entry_max_loop ?_
    rw [Around.under_plainId F.plain_max_loop _]
    show wpAny _ A.in1 (seqItems? (.ref S) >>= _) _ _ s
    refine wpAny_bind (wpAny_seqItems hS rfl ?_)
    show wpAny _ A.in1 (tryCatch (pyNext (.ref I)) _ >>= _) _ _ s
    refine wpAny_bind (wpAny_tryCatch (W.item (j + 1) s _ _ hlt hst fun v h' tk hP hst' hk' => ?_))
    have hS' := hk' S _ hSw hS
    show wpAny _ A.in1 (tryCatch (holding [v, v] (richCompare .Gt v vb >>= _)) _ >>= _) _ _ _
    refine wpAny_bind (wpAny_tryCatch (wpAny_holding (wpAny_bind (hcmp (j + 1) (argBest bt j) v vb _ _ _ hP hPb ?_))))
    refine wpAny_bind (wpAny_holding (wpAny_truthy_bool ?_))
    refine wpAny_bind (wpAny_letGo (wpAny_pure ?_))
    cases hb : bt (j + 1) (argBest bt j) with
    | true =>
      simp only [if_true]
      refine wpAny_bind ?_
      refine wpAny_updateSeq hS' rfl (wpAny_bind (wpAny_letGo ?_))
      rw [hname]
      refine wpAny_pure ⟨plainId_quiet F.plain_max_loop _, ih (j + 1) _ v _ (by omega) hlt (W.frame _ _ _ hst' fun b hbf o e => ?_) (by simp only [argBest, hb, if_true]; exact hP) (Heap.get?_update_self _ hS' rfl)
        fun v' h'' tk'' hP' hk'' => ?_⟩
      · exact (Heap.get?_update_other _ _ (fun h : S = b => hSf (by rw [h]; exact hbf))).trans e
      · exact hR v' h'' tk'' hP' fun b o hbw hbS e => hk'' b o hbw hbS ((Heap.get?_update_other _ _ (Ne.symm hbS)).trans (hk' b o hbw e))
    | false =>
      simp only [Bool.false_eq_true, if_false]
      refine wpAny_bind (wpAny_letGo ?_)
      rw [hname]
      refine wpAny_pure ⟨plainId_quiet F.plain_max_loop _, ih (j + 1) _ vb c (by omega) hlt hst' (by simp only [argBest, hb, Bool.false_eq_true, if_false]; exact hPb) hS' fun v' h'' tk'' hP' hk'' => ?_⟩
      exact hR v' h'' tk'' hP' fun b o hbw hbS e => hk'' b o hbw hbS (hk' b o hbw e)
theorem codeAny_max_loop_firstD (dv : Value) (W : Walks prog w A.in1 I fp wr n P St) (bt : Nat → Nat → Bool) (hcmp : CmpOf prog w A.in1 .Gt P bt) (S : Addr) (hSf : S ∉ fp) (hn : 0 < n) {s : Shared} {c : Nat} (hst : St 0 s.heap)
    (hS : s.heap.get? S = some { cls := .type "list", dict := none, data := .seq #[] c, slots := #[] })
    (hR : ∀ v h' tk, P (argBest bt (n - 1)) v → (∀ b o, b ∉ wr → b ≠ S → s.heap.get? b = some o → h'.get? b = some o) → R (.ok (.ret v)) { s with heap := h', toks := tk }) :
    codeAny (model prog w) A (.builtin "max.loop" ⟨[.ref I, .none, .ref S], [(Str.ofString "default", dv)]⟩) R s := by
  have hSw : S ∉ wr := fun h => hSf (W.sub _ h)
  have hname : (toString "max" ++ toString ".loop" : String) = "max.loop" := by decide
  refine codeAny_builtin F.entry_max_loop ?_
  rw [Around.under_plainId F.plain_max_loop _]
  show wpAny _ A.in1 (seqItems? (.ref S) >>= _) _ _ s
  refine wpAny_bind (wpAny_seqItems hS rfl ?_)
  show wpAny _ A.in1 (tryCatch (pyNext (.ref I)) _ >>= _) _ _ s
  refine wpAny_bind (wpAny_tryCatch (W.item 0 s _ _ hn hst fun v h' tk hP hst' hk' => ?_))
  have hS' := hk' S _ hSw hS
  show wpAny _ A.in1 (updateSeq S (fun _ => #[v, v]) >>= _) _ _ _
  refine wpAny_bind ?_
  refine wpAny_updateSeq hS' rfl ?_
  rw [hname]
  refine wpAny_pure ⟨plainId_quiet F.plain_max_loop _, codeAny_max_loopD dv W bt hcmp S hSf _ 0 _ v _ rfl hn (W.frame _ _ _ hst' fun b hbf o e => ?_) hP (Heap.get?_update_self _ hS' rfl) fun v' h'' tk'' hP' hk'' => ?_⟩
  · exact (Heap.get?_update_other _ _ (fun h : S = b => hSf (by rw [h]; exact hbf))).trans e
  · exact hR v' h'' tk'' hP' fun b o hbw hbS e => hk'' b o hbw hbS ((Heap.get?_update_other _ _ (Ne.symm hbS)).trans (hk' b o hbw e))
theorem codeAny_max_loop_none (dv : Value) (W : Walks prog w A.in1 I fp wr 0 P St) (S : Addr) (hSf : S ∉ fp) {s : Shared} {c : Nat} (hst : St 0 s.heap)
    (hS : s.heap.get? S = some { cls := .type "list", dict := none, data := .seq #[] c, slots := #[] })
    (hR : ∀ h' tk, (∀ b o, b ∉ wr → b ≠ S → s.heap.get? b = some o → h'.get? b = some o) → R (.ok (.ret dv)) { s with heap := h', toks := tk }) :
    codeAny (model prog w) A (.builtin "max.loop" ⟨[.ref I, .none, .ref S], [(Str.ofString "default", dv)]⟩) R s := by
  have hSw : S ∉ wr := fun h => hSf (W.sub _ h)
  refine codeAny_builtin F.entry_max_loop ?_
  rw [Around.under_plainId F.plain_max_loop _]
  show wpAny _ A.in1 (seqItems? (.ref S) >>= _) _ _ s
  refine wpAny_bind (wpAny_seqItems hS rfl ?_)
  show wpAny _ A.in1 (tryCatch (pyNext (.ref I)) _ >>= _) _ _ s
  refine wpAny_bind (wpAny_tryCatch (W.done s _ _ hst fun h' tk hk' => ?_))
  refine wpAny_bind (wpAny_rule ?_)
  exact wpAny_pure (hR h' tk fun b o hbw hbS e => hk' b o hbw e)
theorem call_function_tree_kw {E : Value → Shared → Prop} {s : Shared} {id : String} {b : Builtin} {args : List Value} {kw : List (Str × Value)} {Q : Value → Shared → Prop} (hk : builtinKind id = none) (hp : plainId id = true)
    (hb : entryFor table id = some b) (ha : argsOk id ⟨args, kw⟩)
    (hfin : wpAny (model prog w) A.in1 (b ⟨args, kw⟩) (fun fin s' => match fin with
      | .done f => (match (Except.ok f : Result) with | .ok (.ret v) => Q v s' | .ok _ => False | .error e => E e s')
      | .again c' => c'.quiet = true ∧ codeAny (model prog w) A c' (fun r s' => match r with | .ok (.ret v) => Q v s' | .ok _ => False | .error e => E e s') s') E s) : wpAny (model prog w) A (call (.builtin id) args kw) Q E s := by
  refine wpAny_call (codeAny_call_builtin hp hb ?_)
  simp only [checkBuiltinCall, hk]
  cases hsig : Manifest.signature? id with
  | none => exact wpAny_pure hfin
  | some sg =>
    have ha' : Bind.checkArgs id sg ⟨args, kw⟩ = pure () := by simpa only [argsOk, hsig] using ha
    simp only [ha']
    exact wpAny_pure hfin
theorem args_maxD (a b : Value) : argsOk "max" ⟨[a], [(Str.ofString "default", b)]⟩ := by unfold argsOk; kernel_rfl
theorem call_max_walkD {E : Value → Shared → Prop} {s : Shared} {x dv : Value} {Q : Value → Shared → Prop}
    (h : wpAny (model prog w) A.in1 (pyIter x) (fun it s₂ => ∃ I fp wr n P St bt, it = .ref I ∧ Walks prog w A.in1 I fp wr n P St ∧ St 0 s₂.heap ∧ (∀ b ∈ fp, b < s₂.heap.objs.size) ∧ CmpOf prog w A.in1 .Gt P bt ∧
      (0 < n → ∀ v h' tk, P (argBest bt (n - 1)) v → (∀ b o, b ∉ wr → s₂.heap.get? b = some o → h'.get? b = some o) → Q v { s₂ with heap := h', toks := tk }) ∧
      (n = 0 → ∀ h' tk, (∀ b o, b ∉ wr → s₂.heap.get? b = some o → h'.get? b = some o) → Q dv { s₂ with heap := h', toks := tk })) E s) :
    wpAny (model prog w) A (call (.builtin "max") [x] [(Str.ofString "default", dv)]) Q E s := by
  have hname : (toString "max" ++ toString ".loop" : String) = "max.loop" := by decide
  refine call_function_tree_kw F.kind_max F.plain_max F.entry_max (args_maxD _ _) ?_
  show wpAny _ A.in1 (Builtin.Builtins.bindParams "max" ["key", "default"] 0 ⟨[], [(Str.ofString "default", dv)]⟩ >>= _) _ _ s
  refine wpAny_bind (wpAny_of_eq (show Builtin.Builtins.bindParams "max" ["key", "default"] 0 ⟨[], [(Str.ofString "default", dv)]⟩ = pure [none, some dv] from rfl) ?_)
  refine wpAny_bind (wpAny_pure ?_)
  refine wpAny_bind (wpAny_mono h (fun it s₂ h₂ => ?_) fun _ _ e => e)
  obtain ⟨I, fp, wr, n, P, St, bt, rfl, W, hst, hfp, hcmp, hQ, hQ0⟩ := h₂
  refine wpAny_bind (wpAny_newObj_type ?_)
  have hSf : s₂.heap.objs.size ∉ fp := fun hm => Nat.lt_irrefl _ (hfp _ hm)
  rw [hname]
  cases n with
  | zero =>
    refine wpAny_pure ⟨plainId_quiet F.plain_max_loop _, codeAny_max_loop_none dv W s₂.heap.objs.size hSf (W.frame _ _ _ hst fun b _ o e => Heap.get?_push_of_some _ e) (Heap.get?_push_size _ rfl) fun h' tk hk => ?_⟩
    exact hQ0 rfl h' tk fun b o hbw e => hk b o hbw (Nat.ne_of_lt (Heap.lt_size e)) (Heap.get?_push_of_some _ e)
  | succ n =>
    refine wpAny_pure ⟨plainId_quiet F.plain_max_loop _, codeAny_max_loop_firstD dv W bt hcmp s₂.heap.objs.size hSf (Nat.succ_pos _) (W.frame _ _ _ hst fun b _ o e => Heap.get?_push_of_some _ e) (Heap.get?_push_size _ rfl) fun v h' tk hP hk => ?_⟩
    exact hQ (Nat.succ_pos _) v h' tk hP fun b o hbw e => hk b o hbw (Nat.ne_of_lt (Heap.lt_size e)) (Heap.get?_push_of_some _ e)
end
section
open PyProof.Rows
variable {X : Cx}
def gMaxD : PyData → PyData → (RV → Prop) → Prop := fun x z Q => match x with
  | .list xs => ∃ ns, intsD xs = some ns ∧ Q (.d (if ns = [] then z else .int (maxI ns)))
  | _ => False
def rMaxD (K : Ck) : List V → List V → Hp → VK → Prop := fun vs zs H Q => ∃ S F v z x y Qd, vs = [v] ∧ zs = [z] ∧ Okh S F H ∧ Rp K F v x ∧ Rp K F z y ∧ gMaxD x y Qd ∧ PostO K S F H Qd Q
theorem cr_maxD (hc : X.calm = true) : CallRK X (.builtin "max") [Str.ofString "default"] (rMaxD (Cx.ck X)) := by
  intro pins s σ H vs zs us ws Q I r rz h
  obtain ⟨S, F, v, z, x, y, Qd, rfl, rfl, o, rx, ry, g, p⟩ := h
  obtain ⟨u, rfl, ru⟩ := vals1 r
  obtain ⟨uz, rfl, ruz⟩ := vals1 rz
  cases rx with
  | @lst a vs ds hr ra =>
    obtain ⟨ns, e0, q⟩ := g
    have := intsD_rp ra e0
    subst this
    cases ru
    obtain ⟨its, rv, hl0, hz⟩ := I.list (Le.sqx o.sub hr).sql
    have hi := rv.ints
    have hl := hl0.isList
    obtain ⟨xs, e⟩ := hi.allInts.items
    have hn : numsOf (intItems xs).toList = ns := by rw [← e]; exact hi.numsOf
    rw [nums_intItems] at hn
    clear e0
    subst hn
    rw [e] at hl
    have hh := I.ok.hd hc
    refine call_max_walkD (iter_intList hl fun s₂ e2 st hfp hlI => ?_)
    subst e2
    refine ⟨_, _, _, _, _, _, _, rfl, Walks.list (A := X.A.in1) hh _ a hlI (intItems xs), st, hfp, CmpOf.ints_gt (numAt xs) (fun _ _ => intItems_at), fun hn v h' tk hP hk => ?_, fun hn h' tk hk => ?_⟩
    · have hsz : 0 < xs.size := by simpa [intItems] using hn
      have hv : (intItems xs)[argBest (fun i j => decide (numAt xs i > numAt xs j)) (xs.size - 1)]? = some v := by simpa [intItems] using hP
      obtain ⟨t, rfl⟩ := intItems_at hv
      obtain ⟨h1, h2⟩ := argBest_gt (numAt xs) (xs.size - 1)
      have ne : xs.toList.map (·.1) ≠ [] := by intro z; have := congrArg List.length z; rw [List.length_map, Array.length_toList, List.length_nil] at this; omega
      refine ⟨.int _, H, I.kept (t' := tk) (old_kept hk), ⟨t, rfl⟩, p.d o (Rp.int _) ?_⟩
      rw [if_neg ne] at q
      have m1 : numAt xs (argBest (fun i j => decide (numAt xs i > numAt xs j)) (xs.size - 1)) ∈ xs.toList.map (·.1) := by
        rw [numAt_eq]; refine PySem.getD_mem ?_; rw [List.length_map, Array.length_toList]; exact Nat.lt_of_le_of_lt h1 (by omega)
      have m2 : ∀ b ∈ xs.toList.map (·.1), b ≤ numAt xs (argBest (fun i j => decide (numAt xs i > numAt xs j)) (xs.size - 1)) := fun b hb => by
        obtain ⟨j, hj, rfl⟩ := mem_getD hb
        rw [List.length_map, Array.length_toList] at hj
        rw [← numAt_eq]; exact h2 j (by omega)
      have sp := maxI_spec ne
      have em := Int.le_antisymm (sp.2 _ m1) (m2 _ sp.1)
      rw [em]; exact q
    · have hsz : xs.size = 0 := by simpa [intItems] using hn
      have ne : xs.toList.map (·.1) = [] := by
        have : xs.toList = [] := List.length_eq_zero_iff.mp (by rw [Array.length_toList]; exact hsz)
        rw [this]; rfl
      rw [if_pos ne] at q
      exact ⟨z, H, I.kept (t' := tk) (old_kept hk), ruz, p.d o ry q⟩
  | _ => exact g.elim
end
def oMaxD (x y : PyData) : Option RV := match x with
  | .list xs => (intsD xs).map fun ns => .d (if ns = [] then y else .int (maxI ns))
  | _ => none
theorem maxD_of {x y : PyData} {r : RV} {Q : RV → Prop} (h : oMaxD x y = some r) (q : Q r) : gMaxD x y Q := by
  cases x <;> simp [oMaxD] at h
  obtain ⟨ns, h1, rfl⟩ := h
  exact ⟨ns, h1, q⟩
def fMaxD (fa fb : EF) : EF := fun ρ g => (fDat fa ρ g).bind fun x g1 => (fDat fb ρ g1).bind fun y g2 => R.ofO (oMaxD x y) g2
theorem sm_maxD {K : Ck} {W : WX} {ta tb : TE} {fa fb : EF} (ha : Sm K W ta fa) (hb : Sm K W tb fb) : Sm K W (tCKw (rMaxD K) (tCons ta tNil) (tCons tb tNil)) (fMaxD fa fb) := by
  intro S B F0 F H ρ σ g Pd Xd Q E h k kx
  refine ha.dat E (R.wp_bind.mp h) kx fun x g1 vx F1 H1 h1 e1 E1 r1 => ?_
  refine hb.dat E1 (R.wp_bind.mp h1) (XOk.ext kx e1 E1.j) fun y g2 vy F2 H2 h2 e2 E2 r2 => ?_
  obtain ⟨rr, o1, q⟩ := R.wp_ofO h2
  refine ⟨S, F2, vx, vy, x, y, fun r => r = rr, rfl, rfl, E2.okh, r1.mono e2.le, r2, maxD_of o1 rfl, fun r v F' H' q2 e j rv => ?_⟩
  subst q2
  exact k _ g2 v F' H' q ((e1.trans e2 E1.j).trans e E2.j) (j _ E2.j) (rv.wide fun a ha => (e1.trans e2 E1.j).free E2.j ha)
end Fx

namespace Fx
open PySem L2
noncomputable section
open Classical

/-! ### operations as functions -/
section
variable {K : Ck}
theorem opF_of {r : R2} {go : GO2} {o : O2} (h : OpD K r go) (k : ∀ x y rv (Q : RV → Prop), o x y = some rv → Q rv → go x y Q) : OpF K r o := fun S F H x y dx dy rv Q a b c d p => h S F H x y dx dy (fun r => r = rv) Q a b c (k _ _ _ _ d rfl) p
theorem op1F_of {r : V → Hp → VK → Prop} {go : GO1} {o : O1} (h : Op1D K r go) (k : ∀ x rv (Q : RV → Prop), o x = some rv → Q rv → go x Q) : Op1F K r o := fun S F H x dx rv Q a b d p => h S F H x dx (fun r => r = rv) Q a b (k _ _ _ d rfl) p
theorem opAF_of {r : List V → Hp → VK → Prop} {go : GOA} {o : OA} (h : OpAD K r go) (k : ∀ x rv (Q : RV → Prop), o x = some rv → Q rv → go x Q) : OpAF K r o := fun S F H x as rv Q a b d p => h S F H x as (fun r => r = rv) Q a b (k _ _ _ d rfl) p
end
def o1A (f : O1) : OA := fun as => match as with
  | [.d x] => f x
  | _ => none
def o2A (f : O2) : OA := fun as => match as with
  | [.d x, .d y] => f x y
  | _ => none
@[simp] theorem o1A_d (f : O1) (x : PyData) : o1A f [.d x] = f x := rfl
@[simp] theorem o2A_d (f : O2) (x y : PyData) : o2A f [.d x, .d y] = f x y := rfl
theorem o1A_of {f : O1} {go : GO1} (k : ∀ x rv (Q : RV → Prop), f x = some rv → Q rv → go x Q) : ∀ as rv (Q : RV → Prop), o1A f as = some rv → Q rv → g1 go as Q := by
  intro as rv Q h q
  unfold o1A at h
  split at h
  · exact k _ _ _ h q
  · cases h
theorem o2A_of {f : O2} {go : GO2} (k : ∀ x y rv (Q : RV → Prop), f x y = some rv → Q rv → go x y Q) : ∀ as rv (Q : RV → Prop), o2A f as = some rv → Q rv → g2 go as Q := by
  intro as rv Q h q
  unfold o2A at h
  split at h
  · exact k _ _ _ _ h q
  · cases h
/-! arithmetic -/
def oAdd : O2 := fun x y => match x, y with
  | .int i, .int j => some (.d (.int (i + j)))
  | .str i, .str j => if i.length + j.length ≤ sizeLine then some (.d (.str (i ++ j))) else none
  | .list xs, .list ys => if xs.length + ys.length ≤ sizeLine then some (.nl (xs ++ ys)) else none
  | .tuple xs, .tuple ys => if xs.length + ys.length ≤ sizeLine then some (.d (.tuple (xs ++ ys))) else none
  | _, _ => none
def oSub : O2 := fun x y => match x, y with
  | .int i, .int j => some (.d (.int (i - j)))
  | _, _ => none
def oMul : O2 := fun x y => match x, y with
  | .int i, .int j => if CMul i j ∨ CMulW i j then some (.d (.int (i * j))) else none
  | .list xs, .int k => if (-(2 ^ 63) ≤ k ∧ k < 2 ^ 63) ∧ xs.length * k.toNat ≤ sizeLine then some (.nl (List.replicate k.toNat xs).flatten) else none
  | _, _ => none
def oMod : O2 := fun x y => match x, y with
  | .int i, .int j => if 0 < j then some (.d (.int (i % j))) else none
  | _, _ => none
def oDiv : O2 := fun x y => match x, y with
  | .int i, .int j => if 0 < j ∧ j.natAbs.log2 < 9000 then some (.d (.int (i / j))) else none
  | _, _ => none
def oPow : O2 := fun x y => match x, y with
  | .int i, .int j => if 0 ≤ j ∧ (Builtin.Int.intBits i : Int) * j ≤ 2 ^ 27 then some (.d (.int (i ^ j.toNat))) else none
  | _, _ => none
def oNeg : O1 := fun x => match x with
  | .int i => some (.d (.int (-i)))
  | _ => none
/-! comparisons -/
def oEq : O2 := fun x y => if pl x = true ∧ pl y = true then some (.d (.bool (PyData.eqv x y))) else none
def oNe : O2 := fun x y => if pl x = true ∧ pl y = true then some (.d (.bool (!PyData.eqv x y))) else none
def oCmp (f : Int → Int → Bool) : O2 := fun x y => match x, y with
  | .int i, .int j => some (.d (.bool (f i j)))
  | _, _ => none
def oLt : O2 := fun x y => match x, y with
  | .int i, .int j => some (.d (.bool (decide (i < j))))
  | .str i, .str j => some (.d (.bool (decide (i.cps.toList < j.cps.toList))))
  | _, _ => none
def oLe : O2 := oCmp fun i j => decide (i ≤ j)
def oGt : O2 := oCmp fun i j => decide (j < i)
def oGe : O2 := oCmp fun i j => decide (j ≤ i)
def isNone : PyData → Bool
  | .none => true
  | _ => false
def oIsN : O2 := fun x y => match y with
  | .none => some (.d (.bool (isNone x)))
  | _ => none
def oNotN : O2 := fun x y => match y with
  | .none => some (.d (.bool (!isNone x)))
  | _ => none
def oIn (neg : Bool) : O2 := fun x y => match y with
  | .list ys => if pl x = true ∧ pl (.list ys) = true then some (.d (.bool (neg ^^ ys.any fun z => PyData.eqv z x))) else none
  | .tuple ys => if pl x = true ∧ pl (.tuple ys) = true then some (.d (.bool (neg ^^ ys.any fun z => PyData.eqv z x))) else none
  | .str z => (match x with
    | .str i => (match i.cps.toList with
      | [c] => some (.d (.bool (neg ^^ decide (c ∈ z.cps.toList))))
      | _ => none)
    | _ => none)
  | .dict ks => (match toDK x with
    | some k => if matchK ks k = true then some (.d (.bool (neg ^^ (dget ks k).isSome))) else none
    | none => none)
  | _ => none
def oIx : O2 := fun x y => match x with
  | .list xs => (match y with
    | .int i => (atI xs i).map .d
    | _ => none)
  | .tuple xs => (match y with
    | .int i => (atI xs i).map .d
    | _ => none)
  | .str z => (match y with
    | .int i => if z.length ≤ sizeLine then (atI z.cps.toList i).map fun c => .d (.str ⟨#[c]⟩) else none
    | _ => none)
  | .dict ks => (match toDK y with
    | some k => if matchK ks k = true then (dget ks k).map .d else none
    | none => none)
  | _ => none
/-! built-in functions -/
def oLen : O1 := fun x => match x with
  | .str z => if z.length ≤ sizeLine then some (.d (.int z.length)) else none
  | .list xs => some (.d (.int xs.length))
  | .tuple xs => some (.d (.int xs.length))
  | _ => none
def oInt : O1 := fun x => match x with
  | .int i => some (.d (.int i))
  | .bool b => some (.d (.int (if b then 1 else 0)))
  | _ => none
def oAbs : O1 := fun x => match x with
  | .int i => some (.d (.int (if i < 0 then -i else i)))
  | _ => none
def oList : O1 := fun x => match x with
  | .list xs => some (.nl xs)
  | .tuple xs => some (.nl xs)
  | _ => none
def oTuple : O1 := fun x => match x with
  | .list xs => some (.d (.tuple xs))
  | .tuple xs => some (.d (.tuple xs))
  | _ => none
def oAll : O1 := fun x => match x with
  | .list xs => (boolsD xs).map fun bs => .d (.bool (bs.all id))
  | _ => none
def oAny : O1 := fun x => match x with
  | .list xs => (boolsD xs).map fun bs => .d (.bool (bs.any id))
  | _ => none
def oMax2 : O2 := fun x y => match x, y with
  | .int i, .int j => some (.d (.int (if j > i then j else i)))
  | _, _ => none
def oMin2 : O2 := fun x y => match x, y with
  | .int i, .int j => some (.d (.int (if j < i then j else i)))
  | _, _ => none
def oMaxL : O1 := fun x => match x with
  | .list xs => (intsD xs).bind fun ns => if ns ≠ [] then some (.d (.int (maxI ns))) else none
  | _ => none
def oMinL : O1 := fun x => match x with
  | .list xs => (intsD xs).bind fun ns => if ns ≠ [] then some (.d (.int (minI ns))) else none
  | _ => none
def oDict : O1 := fun x => match x with
  | .list xs => (pairsOf xs).map fun ps => .nd false (mergeD [] ps)
  | .tuple xs => (pairsOf xs).map fun ps => .nd false (mergeD [] ps)
  | _ => none
/-! methods -/
def oJoin : OM := fun x as => match x with
  | .str a => (match as with
    | [.d (.list xs)] => (strsD xs).bind fun ys => if (ys.map (·.length)).sum + ys.length * a.length ≤ 16777216 then some (.d (.str (Txt.join a ys))) else none
    | _ => none)
  | _ => none
def oGet : OM := fun x as => match x with
  | .dict ks => (match as with
    | [.d y] => (match toDK y with
      | some k => if matchK ks k = true then some (.d ((dget ks k).getD .none)) else none
      | none => none)
    | [.d y, .d z] => (match toDK y with
      | some k => if matchK ks k = true then some (.d ((dget ks k).getD z)) else none
      | none => none)
    | _ => none)
  | _ => none
/-! ### they are what the rules ask -/
theorem add_of {x y : PyData} {rv : RV} {Q : RV → Prop} (h : oAdd x y = some rv) (q : Q rv) : gAdd x y Q := by
  cases x <;> cases y <;> simp [oAdd] at h
  · subst h; exact q
  · obtain ⟨h1, rfl⟩ := h; exact ⟨h1, q⟩
  · obtain ⟨h1, rfl⟩ := h; exact ⟨h1, q⟩
  · obtain ⟨h1, rfl⟩ := h; exact ⟨h1, q⟩
theorem sub_of {x y : PyData} {rv : RV} {Q : RV → Prop} (h : oSub x y = some rv) (q : Q rv) : gSub x y Q := by
  cases x <;> cases y <;> simp [oSub] at h
  subst h; exact q
theorem mul_of {x y : PyData} {rv : RV} {Q : RV → Prop} (h : oMul x y = some rv) (q : Q rv) : gMul x y Q := by
  cases x <;> cases y <;> simp only [oMul] at h <;> first | cases h | skip
  · split at h
    · cases h; exact ⟨‹_›, q⟩
    · cases h
  · split at h
    · rename_i c; cases h; exact ⟨c.1, c.2, q⟩
    · cases h
theorem mod_of {x y : PyData} {rv : RV} {Q : RV → Prop} (h : oMod x y = some rv) (q : Q rv) : gMod x y Q := by
  cases x <;> cases y <;> simp [oMod] at h
  obtain ⟨h1, rfl⟩ := h; exact ⟨h1, q⟩
theorem div_of {x y : PyData} {rv : RV} {Q : RV → Prop} (h : oDiv x y = some rv) (q : Q rv) : gDiv x y Q := by
  cases x <;> cases y <;> simp [oDiv] at h
  obtain ⟨h1, rfl⟩ := h; exact ⟨h1, q⟩
theorem pow_of {x y : PyData} {rv : RV} {Q : RV → Prop} (h : oPow x y = some rv) (q : Q rv) : gPow x y Q := by
  cases x <;> cases y <;> simp only [oPow] at h <;> first | cases h | skip
  split at h
  · rename_i c; cases h; exact ⟨c.1, c.2, q⟩
  · cases h
theorem neg_of {x : PyData} {rv : RV} {Q : RV → Prop} (h : oNeg x = some rv) (q : Q rv) : gNeg x Q := by
  cases x <;> simp [oNeg] at h
  subst h; exact q
theorem eq_of {x y : PyData} {rv : RV} {Q : RV → Prop} (h : oEq x y = some rv) (q : Q rv) : gEq x y Q := by
  unfold oEq at h
  split at h
  · rename_i c; cases h; exact ⟨c.1, c.2, q⟩
  · cases h
theorem ne_of' {x y : PyData} {rv : RV} {Q : RV → Prop} (h : oNe x y = some rv) (q : Q rv) : gNe x y Q := by
  unfold oNe at h
  split at h
  · rename_i c; cases h; exact ⟨c.1, c.2, q⟩
  · cases h
theorem cmp_of {f : Int → Int → Bool} {x y : PyData} {rv : RV} {Q : RV → Prop} (h : oCmp f x y = some rv) (q : Q rv) : gCmp f x y Q := by
  cases x <;> cases y <;> simp [oCmp] at h
  subst h; exact q
theorem lt_of {x y : PyData} {rv : RV} {Q : RV → Prop} (h : oLt x y = some rv) (q : Q rv) : gLt x y Q := by
  cases x <;> cases y <;> simp only [oLt] at h <;> first | cases h | skip
  · exact q
  · exact q
theorem isN_of {x y : PyData} {rv : RV} {Q : RV → Prop} (h : oIsN x y = some rv) (q : Q rv) : gIsN x y Q := by
  cases y <;> simp [oIsN] at h
  subst h
  cases x <;> exact q
theorem notN_of {x y : PyData} {rv : RV} {Q : RV → Prop} (h : oNotN x y = some rv) (q : Q rv) : gNotN x y Q := by
  cases y <;> simp [oNotN] at h
  subst h
  cases x <;> exact q
theorem in_of {neg : Bool} {x y : PyData} {rv : RV} {Q : RV → Prop} (h : oIn neg x y = some rv) (q : Q rv) : gIn neg x y Q := by
  cases y with
  | list ys =>
    simp only [oIn] at h
    split at h
    · rename_i c; cases h; exact ⟨c.1, c.2, q⟩
    · cases h
  | tuple ys =>
    simp only [oIn] at h
    split at h
    · rename_i c; cases h; exact ⟨c.1, c.2, q⟩
    · cases h
  | str z =>
    cases x with
    | str i =>
      simp only [oIn] at h
      split at h
      · rename_i c e
        cases h
        refine ⟨c, ?_, q⟩
        cases i with
        | mk cps =>
          have : cps = #[c] := Array.toList_inj.mp e
          rw [this]
      · cases h
    | _ => cases h
  | dict ks =>
    simp only [oIn] at h
    split at h
    · rename_i k e
      split at h
      · rename_i c; cases h; exact ⟨k, e, c, q⟩
      · cases h
    · cases h
  | _ => cases h
theorem ix_of {x y : PyData} {rv : RV} {Q : RV → Prop} (h : oIx x y = some rv) (q : Q rv) : gIx x y Q := by
  cases x with
  | list xs =>
    cases y with
    | int i =>
      obtain ⟨d, e, rfl⟩ := Option.map_eq_some_iff.mp (show (atI xs i).map RV.d = some rv from h)
      exact ⟨d, e, q⟩
    | _ => cases h
  | tuple xs =>
    cases y with
    | int i =>
      obtain ⟨d, e, rfl⟩ := Option.map_eq_some_iff.mp (show (atI xs i).map RV.d = some rv from h)
      exact ⟨d, e, q⟩
    | _ => cases h
  | str z =>
    cases y with
    | int i =>
      simp only [oIx] at h
      split at h
      · obtain ⟨d, e, rfl⟩ := Option.map_eq_some_iff.mp h
        exact ⟨‹_›, d, e, q⟩
      · cases h
    | _ => cases h
  | dict ks =>
    simp only [oIx] at h
    split at h
    · rename_i k e
      split at h
      · rename_i c
        obtain ⟨d, e2, rfl⟩ := Option.map_eq_some_iff.mp h
        exact ⟨k, d, e, c, e2, q⟩
      · cases h
    · cases h
  | _ => cases h
theorem len_of {x : PyData} {rv : RV} {Q : RV → Prop} (h : oLen x = some rv) (q : Q rv) : gLen x Q := by
  cases x <;> simp [oLen] at h
  · obtain ⟨h1, rfl⟩ := h; exact ⟨h1, q⟩
  · subst h; exact q
  · subst h; exact q
theorem int_of {x : PyData} {rv : RV} {Q : RV → Prop} (h : oInt x = some rv) (q : Q rv) : gInt x Q := by
  cases x <;> simp [oInt] at h
  · subst h; exact q
  · subst h; exact q
theorem abs_of {x : PyData} {rv : RV} {Q : RV → Prop} (h : oAbs x = some rv) (q : Q rv) : gAbs x Q := by
  cases x <;> simp [oAbs] at h
  subst h; exact q
theorem list_of {x : PyData} {rv : RV} {Q : RV → Prop} (h : oList x = some rv) (q : Q rv) : gList x Q := by
  cases x <;> simp [oList] at h
  · subst h; exact q
  · subst h; exact q
theorem tuple_of {x : PyData} {rv : RV} {Q : RV → Prop} (h : oTuple x = some rv) (q : Q rv) : gTuple x Q := by
  cases x <;> simp [oTuple] at h
  · subst h; exact q
  · subst h; exact q
theorem all_of {x : PyData} {rv : RV} {Q : RV → Prop} (h : oAll x = some rv) (q : Q rv) : gAll x Q := by
  cases x <;> simp [oAll] at h
  obtain ⟨bs, e, rfl⟩ := h; exact ⟨bs, e, by simpa using q⟩
theorem any_of {x : PyData} {rv : RV} {Q : RV → Prop} (h : oAny x = some rv) (q : Q rv) : gAny x Q := by
  cases x <;> simp [oAny] at h
  obtain ⟨bs, e, rfl⟩ := h; exact ⟨bs, e, by simpa using q⟩
theorem max2_of {x y : PyData} {rv : RV} {Q : RV → Prop} (h : oMax2 x y = some rv) (q : Q rv) : gMax2 x y Q := by
  cases x <;> cases y <;> simp only [oMax2] at h <;> first | cases h | skip
  exact q
theorem min2_of {x y : PyData} {rv : RV} {Q : RV → Prop} (h : oMin2 x y = some rv) (q : Q rv) : gMin2 x y Q := by
  cases x <;> cases y <;> simp only [oMin2] at h <;> first | cases h | skip
  exact q
theorem maxL_of {x : PyData} {rv : RV} {Q : RV → Prop} (h : oMaxL x = some rv) (q : Q rv) : gMaxL x Q := by
  cases x with
  | list xs =>
    obtain ⟨ns, e, h⟩ := Option.bind_eq_some_iff.mp (show (intsD xs).bind _ = some rv from h)
    split at h
    · rename_i c; cases h; exact ⟨ns, e, c, q⟩
    · cases h
  | _ => cases h
theorem minL_of {x : PyData} {rv : RV} {Q : RV → Prop} (h : oMinL x = some rv) (q : Q rv) : gMinL x Q := by
  cases x with
  | list xs =>
    obtain ⟨ns, e, h⟩ := Option.bind_eq_some_iff.mp (show (intsD xs).bind _ = some rv from h)
    split at h
    · rename_i c; cases h; exact ⟨ns, e, c, q⟩
    · cases h
  | _ => cases h
theorem dict_of {x : PyData} {rv : RV} {Q : RV → Prop} (h : oDict x = some rv) (q : Q rv) : gDict x Q := by
  cases x <;> simp [oDict] at h
  · obtain ⟨ps, e, rfl⟩ := h; exact ⟨ps, e, q⟩
  · obtain ⟨ps, e, rfl⟩ := h; exact ⟨ps, e, q⟩
theorem join_of {x : PyData} {as : List AV} {rv : RV} {Q : RV → Prop} (h : oJoin x as = some rv) (q : Q rv) : gJoin x as Q := by
  unfold oJoin at h
  split at h
  · split at h
    · obtain ⟨ys, e, h⟩ := Option.bind_eq_some_iff.mp h
      split at h
      · cases h; exact ⟨ys, e, ‹_›, q⟩
      · cases h
    · cases h
  · cases h
theorem get_of {x : PyData} {as : List AV} {rv : RV} {Q : RV → Prop} (h : oGet x as = some rv) (q : Q rv) : gGet x as Q := by
  unfold oGet at h
  split at h
  · split at h
    · split at h
      · rename_i k e
        split at h
        · cases h; exact ⟨k, e, ‹_›, q⟩
        · cases h
      · cases h
    · split at h
      · rename_i k e
        split at h
        · cases h; exact ⟨k, e, ‹_›, q⟩
        · cases h
      · cases h
    · cases h
  · cases h
end
end Fx

namespace Fx
open PySem L2

/-! ### the law's state -/
theorem EnvOk.law {K : Ck} {S : Sta} {B F0 F H : Hp} {ρ : List SD} {σ : St} {g : Gs} {d l c : Addr} (E : EnvOk K S B F0 F H ρ σ g) (hq : g.q = some (d, l, c)) : S = staOf (some (d, l, c)) ∧ LawAt d l c g.ls g.cs g.rest g.turn H := by
  obtain ⟨q, rfl⟩ := E.st
  have j := E.j
  cases q with
  | none =>
    have : g.q = none := j
    rw [hq] at this; cases this
  | some p =>
    obtain ⟨d', l', c'⟩ := p
    have h : g.q = some (d', l', c') := j.1
    rw [hq] at h
    cases h
    exact ⟨rfl, j.2⟩
/-- the state's objects change -/
theorem EnvOk.stUpd {K : Ck} {S : Sta} {B F0 F H H' : Hp} {ρ : List SD} {σ : St} {g g' : Gs} (E : EnvOk K S B F0 F H ρ σ g) (h : ∀ a, ¬ S.M a → H' a = H a) (j : S.J g' H') : EnvOk K S B F0 F H' ρ σ g' where
  st := E.st
  sub := fun a o e => by
    by_cases m : S.M a
    · rw [E.mF a m] at e; cases e
    · rw [h a m]; exact E.sub a o e
  mono := E.mono
  fz := E.fz
  keep := fun a o e m => by rw [h a m]; exact E.keep a o e m
  mF := E.mF
  j := j
  len := E.len
  sl := fun i s hs => by
    obtain ⟨v, h1, h2⟩ := E.sl i s hs
    refine ⟨v, h1, h2.to (Le.refl F) fun a hv ho => ?_⟩
    obtain ⟨b, hb, _, m, _, _⟩ := h2.at ho
    rw [hv] at hb
    cases hb
    exact ⟨rfl, h a m⟩
  dist := E.dist
def stv (l c : Addr) (rest turn : Int) : List (Key × V) := [(.inr "large", .ref l), (.inr "cells", .ref c), (.inr "rest", .int rest), (.inr "turn", .int turn)]
theorem ks_ne {a b : Str} (h : a ≠ b) : ¬ ((Sum.inr a : Key) = Sum.inr b) := fun z => by cases z; exact h rfl
theorem n_lc : ("large" : Str) ≠ "cells" := by decide +kernel
theorem n_lr : ("large" : Str) ≠ "rest" := by decide +kernel
theorem n_lt : ("large" : Str) ≠ "turn" := by decide +kernel
theorem n_cr : ("cells" : Str) ≠ "rest" := by decide +kernel
theorem n_ct : ("cells" : Str) ≠ "turn" := by decide +kernel
theorem n_rt : ("rest" : Str) ≠ "turn" := by decide +kernel
theorem stv_large {l c : Addr} {r t : Int} : valV (stv l c r t) (.inr "large" : Key) = some (.ref l) := valV_pos rfl
theorem stv_cells {l c : Addr} {r t : Int} : valV (stv l c r t) (.inr "cells" : Key) = some (.ref c) := (valV_neg (ks_ne n_lc)).trans (valV_pos rfl)
theorem stv_rest {l c : Addr} {r t : Int} : valV (stv l c r t) (.inr "rest" : Key) = some (.int r) := (valV_neg (ks_ne n_lr)).trans ((valV_neg (ks_ne n_cr)).trans (valV_pos rfl))
theorem stv_turn {l c : Addr} {r t : Int} : valV (stv l c r t) (.inr "turn" : Key) = some (.int t) := (valV_neg (ks_ne n_lt)).trans ((valV_neg (ks_ne n_ct)).trans ((valV_neg (ks_ne n_rt)).trans (valV_pos rfl)))
theorem stv_putRest {l c : Addr} {r t x : Int} : putK (stv l c r t) (.inr "rest" : Key) (.int x) = stv l c x t := by
  unfold putK stv
  simp only [List.any_cons, List.any_nil, List.map_cons, List.map_nil, if_neg (ks_ne n_lr), if_neg (ks_ne n_cr), if_neg (ks_ne (Ne.symm n_rt)), decide_eq_false (ks_ne n_lr), decide_eq_false (ks_ne n_cr), decide_true, if_true, Bool.or_true, Bool.true_or, Bool.false_or]
theorem stv_putTurn {l c : Addr} {r t x : Int} : putK (stv l c r t) (.inr "turn" : Key) (.int x) = stv l c r x := by
  unfold putK stv
  simp only [List.any_cons, List.any_nil, List.map_cons, List.map_nil, if_neg (ks_ne n_lt), if_neg (ks_ne n_ct), if_neg (ks_ne n_rt), decide_eq_false (ks_ne n_lt), decide_eq_false (ks_ne n_ct), decide_eq_false (ks_ne n_rt), decide_true, if_true, Bool.or_true, Bool.true_or, Bool.false_or]
/-- the state is in slot i -/
def StOk (ρ : List SD) (i : Nat) (g : Gs) : Prop := ∃ d l c, ρ[i]? = some (.o (.ref d)) ∧ g.q = some (d, l, c)
noncomputable section
open Classical
def stIf {α : Type} (ρ : List SD) (i : Nat) (g : Gs) (m : R α) : R α := if StOk ρ i g then m else .bad
theorem stIf_wp {α : Type} {ρ : List SD} {i : Nat} {g : Gs} {m : R α} {P : α → Gs → Prop} {X : PyData → Gs → Prop} (h : (stIf ρ i g m).wp P X) : ∃ d l c, ρ[i]? = some (.o (.ref d)) ∧ g.q = some (d, l, c) ∧ m.wp P X := by
  unfold stIf at h
  split at h
  · rename_i q; obtain ⟨d, l, c, h1, h2⟩ := q; exact ⟨d, l, c, h1, h2, h⟩
  · exact h.elim
theorem stIf_eq {α : Type} {ρ : List SD} {i : Nat} {g : Gs} (m : R α) (h : StOk ρ i g) : stIf ρ i g m = m := if_pos h
def fStRest (i : Nat) : EF := fun ρ g => stIf ρ i g (.ok (.d (.int g.rest)) g)
def fStTurn (i : Nat) : EF := fun ρ g => stIf ρ i g (.ok (.d (.int g.turn)) g)
def fStLargeNe (i : Nat) : EFt := fun ρ g => stIf ρ i g (.ok (!g.ls.isEmpty) g)
def fStCellsNe (i : Nat) : EFt := fun ρ g => stIf ρ i g (.ok (!g.cs.isEmpty) g)
def fStCellsLen (i : Nat) : EF := fun ρ g => stIf ρ i g (.ok (.d (.int g.cs.length)) g)
/-- no state is changed -/
def keepG {α : Type} (g : Gs) (m : R α) : R α := match m with
  | .ok a g1 => if g1 = g then .ok a g else .bad
  | _ => .bad
theorem keepG_wp {α : Type} {g : Gs} {m : R α} {P : α → Gs → Prop} {X : PyData → Gs → Prop} (h : (keepG g m).wp P X) : m.wp (fun a g1 => g1 = g ∧ P a g) NoX := by
  unfold keepG at h
  split at h
  · split at h
    · exact ⟨‹_›, h⟩
    · exact h.elim
  · exact h.elim
@[simp] theorem keepG_ok {α : Type} (g : Gs) (a : α) : keepG g (.ok a g) = .ok a g := if_pos rfl
def fStCell (i : Nat) (fe : EF) : EF := fun ρ g => stIf ρ i g ((keepG g ((fe ρ g).bind asIR)).bind fun k g1 => R.ofO ((atI g.cs k).map fun x => .d (.int x)) g1)
def fStPutRest (i : Nat) (fe : EF) : EFs := fun ρ g => (fe ρ g).stx ρ fun r g1 => (asIR r g1).stx ρ fun x g2 => stIf ρ i g2 (.ok (.nx ρ) { g2 with rest := x })
def fStPutTurn (i : Nat) (fe : EF) : EFs := fun ρ g => (fe ρ g).stx ρ fun r g1 => (asIR r g1).stx ρ fun x g2 => stIf ρ i g2 (.ok (.nx ρ) { g2 with turn := x })
def fStPop (i : Nat) : EFs := fun ρ g => stIf ρ i g (match g.ls with
  | x :: r => .ok (.nx ρ) { g with ls := r, rest := x }
  | [] => .bad)
end
section
variable {K : Ck} {W : WX} {S : Sta} {B F0 F H : Hp} {ρ : List SD} {σ : St} {g : Gs}
theorem st_get {i : Nat} {d l c : Addr} (E : EnvOk K S B F0 F H ρ σ g) (hi : ρ[i]? = some (.o (.ref d))) (hq : g.q = some (d, l, c)) : σ[i]? = some (some (.ref d)) ∧ S = staOf (some (d, l, c)) ∧ LawAt d l c g.ls g.cs g.rest g.turn H := by
  obtain ⟨v, h1, h2⟩ := E.sl i _ hi
  cases h2
  exact ⟨h1, E.law hq⟩
theorem st_dget {d l c : Addr} {ls cs : List Int} {r t : Int} {x : Str} {v : V} (L : LawAt d l c ls cs r t H) (h : valV (stv l c r t) (.inr x : Key) = some v) : DGet H d (.str x) (some v) := .inl ⟨_, .inr x, .inl L.hd, rfl, h.symm⟩
theorem sm_stRest (i : Nat) : Sm K W (tDGet (tVar i) (tC (.str "rest"))) (fStRest i) := by
  intro S B F0 F H ρ σ g Pd Xd Q E h k kx
  obtain ⟨d, l, c, hi, hq, h⟩ := stIf_wp h
  obtain ⟨h1, rfl, L⟩ := st_get E hi hq
  exact ⟨_, h1, d, _, rfl, st_dget L stv_rest, k _ _ _ _ _ h (Ext.refl E.sub) E.j (Rp.int _)⟩
theorem sm_stTurn (i : Nat) : Sm K W (tDGet (tVar i) (tC (.str "turn"))) (fStTurn i) := by
  intro S B F0 F H ρ σ g Pd Xd Q E h k kx
  obtain ⟨d, l, c, hi, hq, h⟩ := stIf_wp h
  obtain ⟨h1, rfl, L⟩ := st_get E hi hq
  exact ⟨_, h1, d, _, rfl, st_dget L stv_turn, k _ _ _ _ _ h (Ext.refl E.sub) E.j (Rp.int _)⟩
theorem rpa_ints {F : Hp} : ∀ (ns : List Int), RpA K F (ns.map V.int) (ns.map PyData.int)
  | [] => .nil
  | n :: ns => .cons (.int n) (rpa_ints ns)
/-- one list alone -/
def only (H : Hp) (a b : Addr) : Hp := fun x => if x = a ∨ x = b then H x else none
theorem only_sub (H : Hp) (a b : Addr) : Sub (only H a b) H := fun x o e => by
  unfold only at e
  split at e
  · exact e
  · cases e
theorem plainAll_ints : ∀ ns : List Int, PyData.plainAll (ns.map PyData.int) = true
  | [] => rfl
  | n :: ns => by
    show (PyData.plain (.int n) && PyData.plainAll (ns.map PyData.int)) = true
    rw [plainAll_ints ns]; rfl
theorem depthAll_ints : ∀ ns : List Int, PyData.depthAll (ns.map PyData.int) ≤ 1
  | [] => Nat.zero_le _
  | n :: ns => by
    have := depthAll_ints ns
    show max (PyData.depth (.int n)) (PyData.depthAll (ns.map PyData.int)) ≤ 1
    have h : PyData.depth (.int n) ≤ 1 := by simp [PyData.depth]
    omega
theorem shaped_ints (ns : List Int) : pl (.list (ns.map PyData.int)) = true := by
  unfold pl
  have h1 : PyData.plain (.list (ns.map PyData.int)) = true := by rw [PyData.plain]; exact plainAll_ints ns
  have h2 : PyData.depth (.list (ns.map PyData.int)) ≤ 64 := by
    have := depthAll_ints ns
    rw [PyData.depth]
    omega
  rw [h1, decide_eq_true h2]; rfl
theorem st_ne {a : Addr} {ns : List Int} {Qd : Bool → Gs → Prop} {Q : Bool → Hp → Prop} (E : EnvOk K S B F0 F H ρ σ g) (ha : H a = some (.lst (ns.map V.int))) (hs : pl (.list (ns.map .int)) = true) (q : Qd (!ns.isEmpty) g)
    (k : ∀ b g' F' H', Qd b g' → Ext S F H F' H' → S.J g' H' → Q b H') : ∀ p, H p = none → rB K gNe (.ref a) (.ref p) (upd H p (.lst [])) fun x H' => ∃ b, x = .bl b ∧ Q b H' := by
  intro p hp
  have hap : a ≠ p := ne_of_none ha hp
  have n := Ext.own (S := S) (o := .lst []) E.sub hp
  have j := J.new (o := .lst []) E.j hp
  refine ⟨staOf none, only (upd H p (.lst [])) a p, .list (ns.map .int), .list [], fun r => r = .d (.bool (!ns.isEmpty)), ⟨only_sub _ _ _, fun a h => h.elim⟩, ?_, ?_, ⟨hs, rfl, ?_⟩, ?_⟩
  · exact .lst (.inl <| .inl (by unfold only; rw [if_pos (.inl rfl), upd_ne hap]; exact ha)) (rpa_ints ns)
  · exact .lst (.inl <| .inl (by unfold only; rw [if_pos (.inr rfl), upd_same])) .nil
  · cases ns <;> rfl
  · intro r v F' H' hr e jj rv
    subst hr
    have rv : Rp K F' v _ := rv
    cases rv
    have hk : ∀ x o, upd H p (.lst []) x = some o → H' x = some o := fun x o h => e.keep x o h fun m => m
    refine ⟨_, rfl, k _ g F H' q ⟨fun x o h m => hk x o (n.keep x o h m), fun _ _ => rfl, Le.refl F, fun x o h => hk x o (n.sub x o h)⟩ (S.ok _ _ _ j fun x m => ?_)⟩
    cases e2 : upd H p (.lst []) x with
    | none => exact absurd e2 (S.there _ _ _ j m)
    | some o => exact hk x o e2
theorem smt_stLargeNe (i : Nat) : SmT K W (tTest (tOp (rB K gNe) (tDGet (tVar i) (tC (.str "large"))) (tLst tNil))) (fStLargeNe i) := by
  intro S B F0 F H ρ σ g Pd Xd Q E h k kx
  obtain ⟨d, l, c, hi, hq, h⟩ := stIf_wp h
  obtain ⟨h1, rfl, L⟩ := st_get E hi hq
  exact ⟨_, h1, d, _, rfl, st_dget L stv_large, Nat.zero_le _, st_ne E L.hl (shaped_ints g.ls) h k⟩
theorem smt_stCellsNe (i : Nat) : SmT K W (tTest (tOp (rB K gNe) (tDGet (tVar i) (tC (.str "cells"))) (tLst tNil))) (fStCellsNe i) := by
  intro S B F0 F H ρ σ g Pd Xd Q E h k kx
  obtain ⟨d, l, c, hi, hq, h⟩ := stIf_wp h
  obtain ⟨h1, rfl, L⟩ := st_get E hi hq
  exact ⟨_, h1, d, _, rfl, st_dget L stv_cells, Nat.zero_le _, st_ne E L.hc (shaped_ints g.cs) h k⟩
theorem sm_stCellsLen (i : Nat) : Sm K W (tCB (rLen K) (tCons (tDGet (tVar i) (tC (.str "cells"))) tNil)) (fStCellsLen i) := by
  intro S B F0 F H ρ σ g Pd Xd Q E h k kx
  obtain ⟨d, l, c, hi, hq, h⟩ := stIf_wp h
  obtain ⟨h1, rfl, L⟩ := st_get E hi hq
  refine ⟨_, h1, d, _, rfl, st_dget L stv_cells, _, g.cs.length, rfl, .inl ⟨_, .inl (.inl L.hc), by simp⟩, k _ _ _ _ _ h (Ext.refl E.sub) E.j (Rp.int _)⟩
theorem atI_map {α β : Type} (f : α → β) (xs : List α) (k : Int) {x : α} (h : atI xs k = some x) : atI (xs.map f) k = some (f x) := by
  unfold atI at h ⊢
  rw [List.length_map]
  cases e : ixN xs.length k with
  | none => rw [e] at h; cases h
  | some j =>
    rw [e] at h
    have h' : xs[j]? = some x := h
    show (xs.map f)[j]? = some (f x)
    rw [List.getElem?_map, h']; rfl
theorem sm_stCell (i : Nat) {te : TE} {fe : EF} (he : Sm K W0 te fe) : Sm K W (tOp (rB K gIx) (tDGet (tVar i) (tC (.str "cells"))) te) (fStCell i fe) := by
  intro S B F0 F H ρ σ g Pd Xd Q E h k kx
  obtain ⟨d, l, c, hi, hq, h⟩ := stIf_wp h
  obtain ⟨h1, rfl, L⟩ := st_get E hi hq
  refine ⟨_, h1, d, _, rfl, st_dget L stv_cells, ?_⟩
  refine he _ B F0 F H ρ σ g _ _ _ E (R.wp_bind.mp (keepG_wp (R.wp_bind.mp h))) (fun r g1 v F1 H1 q e j rv => ?_) (fun _ _ _ _ _ _ z _ _ _ => z.elim)
  obtain ⟨x, rfl, rfl, q⟩ := asI_inv q
  obtain ⟨rr, o1, q⟩ := R.wp_ofO q
  obtain ⟨y, hy, rfl⟩ := Option.map_eq_some_iff.mp o1
  have rv : Rp K F1 v (.int x) := rv
  cases rv
  have L1 : LawAt d l c g1.ls g1.cs g1.rest g1.turn H1 := j.2
  refine ⟨staOf none, only H1 c c, .list (g1.cs.map .int), .int x, fun r => r = .d (.int y), ⟨only_sub _ _ _, fun a h => h.elim⟩, .lst (.inl <| .inl (by unfold only; rw [if_pos (.inl rfl)]; exact L1.hc)) (rpa_ints _), .int _, ⟨_, atI_map _ _ _ hy, rfl⟩, ?_⟩
  intro r v F' H' hr e' jj rv
  subst hr
  have rv : Rp K F' v _ := rv
  cases rv
  have hk : ∀ x o, H1 x = some o → H' x = some o := fun x o h => e'.keep x o h fun m => m
  refine k _ g1 _ F1 H' q ⟨fun x o h m => hk x o (e.keep x o h m), e.grow, e.le, fun x o h => hk x o (e.sub x o h)⟩ ((staOf (some (d, l, c))).ok _ _ _ j fun x m => ?_) (Rp.int _)
  cases e2 : H1 x with
  | none => exact absurd e2 ((staOf (some (d, l, c))).there _ _ _ j m)
  | some o => exact hk x o e2
theorem st_put {d l c : Addr} {g2 : Gs} {o : HO} (E : EnvOk K S B F0 F H ρ σ g) (hS : S = staOf (some (d, l, c))) (j : (staOf (some (d, l, c))).J g2 (upd H d o)) : EnvOk K S B F0 F (upd H d o) ρ σ g2 := by
  subst hS
  exact E.stUpd (fun a m => upd_ne fun z => m (.inl z)) j
theorem sms_stPutRest (i : Nat) {te : TE} {fe : EF} (he : Sm K W te fe) : SmS K W (sDPut (tVar i) (tC (.str "rest")) te) (fStPutRest i fe) := by
  intro S B F0 F H ρ σ g D E hf
  refine he S B F0 F H ρ σ g _ _ _ E (stx_wp hf) (fun r g1 v F1 H1 q e j rv => ?_) (stx_x (t := True) (P := fun _ _ => True) E)
  obtain ⟨x, rfl, q⟩ := asI_inv (stx_wp q)
  obtain ⟨d, l, c, hi, hq, q⟩ := stIf_wp q
  have rv : Rp K F1 v (.int x) := rv
  cases rv
  have E1 := E.ext e j
  obtain ⟨h1, hS, L⟩ := st_get E1 hi hq
  refine ⟨_, h1, d, _, rfl, .inl ⟨_, .inr "rest", L.hd, rfl, by show 4 < sizeLine; rw [sizeLine_eq]; decide, rfl⟩, ?_⟩
  refine q _ _ _ (st_put E1 hS ⟨hq, ⟨L.dl, L.dc, L.lc, ?_, by rw [upd_ne L.dl.symm]; exact L.hl, by rw [upd_ne L.dc.symm]; exact L.hc⟩⟩)
  rw [upd_same]
  exact congrArg (fun z => some (HO.dK z)) stv_putRest
theorem sms_stPutTurn (i : Nat) {te : TE} {fe : EF} (he : Sm K W te fe) : SmS K W (sDPut (tVar i) (tC (.str "turn")) te) (fStPutTurn i fe) := by
  intro S B F0 F H ρ σ g D E hf
  refine he S B F0 F H ρ σ g _ _ _ E (stx_wp hf) (fun r g1 v F1 H1 q e j rv => ?_) (stx_x (t := True) (P := fun _ _ => True) E)
  obtain ⟨x, rfl, q⟩ := asI_inv (stx_wp q)
  obtain ⟨d, l, c, hi, hq, q⟩ := stIf_wp q
  have rv : Rp K F1 v (.int x) := rv
  cases rv
  have E1 := E.ext e j
  obtain ⟨h1, hS, L⟩ := st_get E1 hi hq
  refine ⟨_, h1, d, _, rfl, .inl ⟨_, .inr "turn", L.hd, rfl, by show 4 < sizeLine; rw [sizeLine_eq]; decide, rfl⟩, ?_⟩
  refine q _ _ _ (st_put E1 hS ⟨hq, ⟨L.dl, L.dc, L.lc, ?_, by rw [upd_ne L.dl.symm]; exact L.hl, by rw [upd_ne L.dc.symm]; exact L.hc⟩⟩)
  rw [upd_same]
  exact congrArg (fun z => some (HO.dK z)) stv_putTurn
theorem sms_stPop (i : Nat) : SmS K W (sDPut (tVar i) (tC (.str "rest")) (tBM K "list" rPopAt (tDGet (tVar i) (tC (.str "large"))) (tCons (tC (.int 0)) tNil))) (fStPop i) := by
  intro S B F0 F H ρ σ g D E h
  obtain ⟨d, l, c, hi, hq, h⟩ := stIf_wp h
  obtain ⟨h1, rfl, L⟩ := st_get E hi hq
  cases e : g.ls with
  | nil => rw [e] at h; exact h.elim
  | cons x r =>
    rw [e] at h
    have hl : H l = some (.lst (V.int x :: r.map V.int)) := by rw [L.hl, e]; rfl
    refine ⟨_, h1, d, _, rfl, st_dget L stv_large, .inl ⟨rfl, _, .inl (.inl hl)⟩, l, _, 0, 0, .int x, rfl, rfl, hl, by decide, by decide, ?_, rfl, ?_⟩
    · simp [seqIndex?]
    · have hd : upd H l (.lst (r.map V.int)) d = some (.dK (stv l c g.rest g.turn)) := by rw [upd_ne L.dl]; exact L.hd
      refine ⟨_, h1, d, _, rfl, .inl ⟨_, .inr "rest", hd, rfl, by show 4 < sizeLine; rw [sizeLine_eq]; decide, rfl⟩, ?_⟩
      refine h _ _ _ (E.stUpd (fun a m => ?_) ⟨hq, ⟨L.dl, L.dc, L.lc, ?_, ?_, ?_⟩⟩)
      · have n1 : a ≠ d := fun z => m (.inl z)
        have n2 : a ≠ l := fun z => m (.inr (.inl z))
        show upd (upd H l _) d _ a = H a
        rw [upd_ne n1, upd_ne n2]
      · show upd (upd H l _) d _ d = _
        rw [upd_same]; exact congrArg (fun z => some (HO.dK z)) stv_putRest
      · show upd (upd H l _) d _ l = _
        rw [upd_ne L.dl.symm, upd_same]; rfl
      · show upd (upd H l _) d _ c = _
        rw [upd_ne L.dc.symm, upd_ne L.lc.symm]; exact L.hc
end
end Fx

namespace Fx
open PySem L2 PySem.Spec PyProof.Rows

/-! ### comprehensions, evaluated -/
theorem cpStep_eq {α : Type} {fg : EFg} {ft : EFt} {fb : List SD → α → Gs → R α} {ρ ρ2 : List SD} {d : PyData} {acc : α} {g : Gs} (h1 : fg d ρ = some ρ2) : cpStep fg ft fb ρ d acc g = (ft ρ2 g).bind fun b g2 => if b = true then fb ρ2 acc g2 else .ok acc g2 := by
  unfold cpStep; rw [h1]
theorem cpR_lst {α : Type} {step : PyData → List PyData → Gs → R (List PyData)} {g : Gs} (f : α → PyData) (k : α → Option PyData) : ∀ (l : List α) (acc : List PyData), (∀ x ∈ l, ∀ acc : List PyData, step (f x) acc g = match k x with
    | some y => if acc.length < sizeLine then .ok (acc ++ [y]) g else .bad
    | none => .ok acc g) → acc.length + l.length ≤ sizeLine → cpR step (l.map f) acc g = .ok (acc ++ l.filterMap k) g
  | [], acc, _, _ => by simp [cpR]
  | x :: l, acc, h, hz => by
    have hz' : acc.length + (l.length + 1) ≤ sizeLine := hz
    rw [List.map_cons, cpR, h x (by simp)]
    cases e : k x with
    | none =>
      simp only [R.bind_ok]
      rw [cpR_lst f k l acc (fun y hy => h y (by simp [hy])) (by omega), List.filterMap_cons_none e]
    | some y =>
      simp only
      rw [if_pos (by omega)]
      simp only [R.bind_ok]
      rw [cpR_lst f k l (acc ++ [y]) (fun y hy => h y (by simp [hy])) (by rw [List.length_append]; simp; omega), List.filterMap_cons_some e, List.append_assoc]
      rfl
theorem fLc_eq {α : Type} {fi : EFi} {fg : EFg} {ft : EFt} {fe : EF} {vs : List Nat} {ρ : List SD} {g g1 : Gs} (l : List α) (f : α → PyData) (k : α → Option PyData) (hi : fi ρ g = .ok (l.map f) g1)
    (hs : ∀ x ∈ l, ∃ ρ2, fg (f x) (wipeD ρ vs) = some ρ2 ∧ (match k x with
      | some y => ft ρ2 g1 = .ok true g1 ∧ fDat fe ρ2 g1 = .ok y g1
      | none => ft ρ2 g1 = .ok false g1)) (hz : l.length ≤ sizeLine) : fLc fi fg ft fe vs ρ g = .ok (.nl (l.filterMap k)) g1 := by
  unfold fLc fCp
  rw [hi]
  simp only [R.bind_ok]
  rw [cpR_lst f k l [] (fun x hx acc => ?_) (by simpa using hz)]
  · simp
  · obtain ⟨ρ2, h1, h2⟩ := hs x hx
    rw [cpStep_eq h1]
    cases e : k x with
    | none =>
      rw [e] at h2
      rw [h2]; rfl
    | some y =>
      rw [e] at h2
      rw [h2.1]
      simp only [R.bind_ok, if_true]
      unfold bLst
      rw [h2.2]; rfl
/-- each item gives one -/
theorem fLc_map {α : Type} {fi : EFi} {fg : EFg} {ft : EFt} {fe : EF} {vs : List Nat} {ρ : List SD} {g g1 : Gs} (l : List α) (f : α → PyData) (k : α → PyData) (hi : fi ρ g = .ok (l.map f) g1)
    (hs : ∀ x ∈ l, ∃ ρ2, fg (f x) (wipeD ρ vs) = some ρ2 ∧ ft ρ2 g1 = .ok true g1 ∧ fDat fe ρ2 g1 = .ok (k x) g1) (hz : l.length ≤ sizeLine) : fLc fi fg ft fe vs ρ g = .ok (.nl (l.map k)) g1 := by
  rw [fLc_eq l f (fun x => some (k x)) hi hs hz]
  rw [show l.filterMap (fun x => some (k x)) = l.map k from by rw [List.filterMap_eq_map']]
/-- those for which a test is true -/
theorem fLc_filter {α : Type} {fi : EFi} {fg : EFg} {ft : EFt} {fe : EF} {vs : List Nat} {ρ : List SD} {g g1 : Gs} (l : List α) (f : α → PyData) (p : α → Bool) (k : α → PyData) (hi : fi ρ g = .ok (l.map f) g1)
    (hs : ∀ x ∈ l, ∃ ρ2, fg (f x) (wipeD ρ vs) = some ρ2 ∧ ft ρ2 g1 = .ok (p x) g1 ∧ (p x = true → fDat fe ρ2 g1 = .ok (k x) g1)) (hz : l.length ≤ sizeLine) : fLc fi fg ft fe vs ρ g = .ok (.nl ((l.filter p).map k)) g1 := by
  rw [fLc_eq l f (fun x => if p x = true then some (k x) else none) hi (fun x hx => ?_) hz]
  · congr 2
    induction l with
    | nil => rfl
    | cons x l ih =>
      by_cases c : p x = true
      · rw [List.filterMap_cons_some (b := k x) (by simp [c]), List.filter_cons_of_pos c, List.map_cons]
        have := fun a b c => ih a b c
        congr 1
        clear hi hs hz this ih c
        induction l with
        | nil => rfl
        | cons y l ih =>
          by_cases c : p y = true
          · rw [List.filterMap_cons_some (b := k y) (by simp [c]), List.filter_cons_of_pos c, List.map_cons, ih]
          · rw [List.filterMap_cons_none (by simp [c]), List.filter_cons_of_neg c, ih]
      · rw [List.filterMap_cons_none (by simp [c]), List.filter_cons_of_neg c]
        clear hi hs hz ih c
        induction l with
        | nil => rfl
        | cons y l ih =>
          by_cases c : p y = true
          · rw [List.filterMap_cons_some (b := k y) (by simp [c]), List.filter_cons_of_pos c, List.map_cons, ih]
          · rw [List.filterMap_cons_none (by simp [c]), List.filter_cons_of_neg c, ih]
  · obtain ⟨ρ2, h1, h2, h3⟩ := hs x hx
    refine ⟨ρ2, h1, ?_⟩
    by_cases c : p x = true
    · simp only [if_pos c]
      exact ⟨c ▸ h2, h3 c⟩
    · simp only [if_neg c]
      rw [h2]
      cases e : p x
      · rfl
      · exact absurd e c

/-! ### the law's beginning -/
theorem F_abs {K : Ck} : OpAF K rAbs (o1A oAbs) := opAF_of od_abs (o1A_of fun _ _ _ h q => abs_of h q)
theorem F_ge {K : Ck} : OpF K (rB K gGe) oGe := opF_of opd_rB fun _ _ _ _ h q => cmp_of h q
theorem F_pow {K : Ck} : OpF K (rB K gPow) oPow := opF_of opd_rB fun _ _ _ _ h q => pow_of h q
theorem F_sub {K : Ck} : OpF K (rB K gSub) oSub := opF_of opd_rB fun _ _ _ _ h q => sub_of h q
def tBegL1 (K : PySem.W.Frag) : TE := tLc (iSeq K (tVar 0)) (gName 2) tYes (tCB rAbs (tCons (tVar 2) tNil)) [2]
def fBegL1 : EF := fLc (iaSeq (fVar 0)) (agName 2) fYes (fCB (o1A oAbs) (aCons (fVar 2) aNil)) [2]
theorem sm_begL1 {K : Ck} {W : WX} : Sm K W (tBegL1 K) fBegL1 := sm_lc (smi_seq (sm_var 0)) (smg_name 2) smt_yes (sm_cb F_abs (sma_cons (sm_var 2) sma_nil)) (by decide)
def tBegL2 (K : Ck) : TE := tLc (iSeq K (tVar 1)) (gName 2) (tTest (tOp (rB K gGe) (tVar 2) (tOp (rB K gPow) (tC (.int 10)) (tC (.int 18))))) (tOp (rB K gSub) (tVar 2) (tOp (rB K gPow) (tC (.int 10)) (tC (.int 18)))) [2]
noncomputable def fBegL2 : EF := fBor 1 (fLc (iaSeq (fVar 1)) (agName 2) (fTest (fOp oGe (fVar 2) (fOp oPow (fC (.int 10)) (fC (.int 18))))) (fOp oSub (fVar 2) (fOp oPow (fC (.int 10)) (fC (.int 18)))) [2])
theorem sm_begL2 {K : Ck} {W : WX} : Sm K W (tBegL2 K) fBegL2 := sm_bor 1 (sm_lc (smi_seq (sm_var 1)) (smg_name 2) (smt_test (sm_op F_ge (sm_var 2) (sm_op F_pow sm_int sm_int))) (sm_op F_sub (sm_var 2) (sm_op F_pow sm_int sm_int)) (by decide))
def tBegun (K : Ck) : TS := tSeq (tAsg (tBegL1 K) (gName 1)) (tRet (tDisp [(tC (.str "large"), tBegL2 K), (tC (.str "cells"), tVar 1), (tC (.str "rest"), tC (.int 0)), (tC (.str "turn"), tC (.int 0))]))
def absI (i : Int) : Int := if i < 0 then -i else i
def bigs (ns : List Int) : List Int := ns.filterMap fun i => if i ≥ 10 ^ 18 then some (i - 10 ^ 18) else none
theorem begL1 (ns : List Int) (a b : SD) (hn : ns.length ≤ 63) (g : Gs) : fBegL1 [.d (.list (ns.map .int)), a, b] g = .ok (.nl ((ns.map absI).map .int)) g := by
  unfold fBegL1
  rw [fLc_map ns .int (fun i => .int (absI i)) rfl (fun x hx => ⟨_, rfl, rfl, rfl⟩) (by rw [sizeLine_eq]; omega), List.map_map]
  rfl
theorem oPow18 : oPow (.int 10) (.int 18) = some (.d (.int (10 ^ 18))) := by
  have p : (0 : Int) ≤ 18 ∧ ((Builtin.Int.intBits 10 : Nat) : Int) * 18 ≤ 2 ^ 27 := by decide +kernel
  unfold oPow
  simp only [if_pos p]
  rfl
theorem noLA_ints (ms : List Int) : noLA (ms.map PyData.int) = true := by
  induction ms with
  | nil => rfl
  | cons m ms ih => simp only [List.map_cons, noLA, noL, ih, Bool.and_self]
theorem begL2 (ns : List Int) (x b : SD) (hn : ns.length ≤ 63) (g : Gs) : fBegL2 [x, .own (ns.map .int), b] g = .ok (.nl ((bigs ns).map .int)) g := by
  unfold fBegL2 fBor
  show grd _ = _
  rw [fLc_eq ns .int (fun i => if i ≥ 10 ^ 18 then some (.int (i - 10 ^ 18)) else none) rfl (fun i hi => ⟨_, rfl, ?_⟩) (by rw [sizeLine_eq]; omega)]
  · have e : (ns.filterMap fun i => if i ≥ 10 ^ 18 then some (PyData.int (i - 10 ^ 18)) else none) = (bigs ns).map PyData.int := by
      unfold bigs
      rw [List.map_filterMap]
      congr 1
      funext i
      by_cases c : i ≥ 10 ^ 18
      · simp only [if_pos c, Option.map_some]
      · simp only [if_neg c, Option.map_none]
    rw [e]
    unfold grd
    simp only [plainRV, noLA_ints, if_true]
  · have t : fTest (fOp oGe (fVar 2) (fOp oPow (fC (.int 10)) (fC (.int 18)))) [x, .d (.list (ns.map .int)), .d (.int i)] g = .ok (decide (i ≥ 10 ^ 18)) g := by
      unfold fTest fOp fDat
      simp only [fVar, fC, List.getElem?_cons_succ, List.getElem?_cons_zero, rdSD_d, R.bind_ok, asDR_d, oPow18, R.ofO_some]
      rfl
    have t2 : fDat (fOp oSub (fVar 2) (fOp oPow (fC (.int 10)) (fC (.int 18)))) [x, .d (.list (ns.map .int)), .d (.int i)] g = .ok (.int (i - 10 ^ 18)) g := by
      unfold fOp fDat
      simp only [fVar, fC, List.getElem?_cons_succ, List.getElem?_cons_zero, rdSD_d, R.bind_ok, asDR_d, oPow18, R.ofO_some]
      rfl
    by_cases c : i ≥ 10 ^ 18
    · simp only [if_pos c]
      exact ⟨t.trans (by rw [decide_eq_true c]), t2⟩
    · simp only [if_neg c]
      exact t.trans (by rw [decide_eq_false c])
theorem merge_stv {l c : Addr} {r t : Int} : mergeK [] (stv l c r t) = stv l c r t := by
  show putK (putK (putK (putK [] (.inr "large" : Key) (.ref l)) (.inr "cells") (.ref c)) (.inr "rest") (.int r)) (.inr "turn") (.int t) = _
  rw [putK_new (kvs := []) _ rfl, List.nil_append, putK_new (kvs := [((.inr "large" : Key), V.ref l)]) _ ((valV_neg (ks_ne n_lc)).trans rfl), List.cons_append, List.nil_append, putK_new _ ((valV_neg (ks_ne n_lr)).trans ((valV_neg (ks_ne n_cr)).trans rfl)), List.cons_append, List.cons_append, List.nil_append, putK_new _ ((valV_neg (ks_ne n_lt)).trans ((valV_neg (ks_ne n_ct)).trans ((valV_neg (ks_ne n_rt)).trans rfl)))]
  rfl
def spBegun (K : Ck) : Sp := fun vs H Q _ => ∃ (a : Addr) (ns : List Int), vs = [.ref a] ∧ SqLx K H a (ns.map V.int) ∧ ns.length ≤ 63 ∧
  ∀ (H' : Hp) (d l c : Addr) (ls cs : List Int), (∀ b o, H b = some o → H' b = some o) → H d = none → H l = none → H c = none → LawAt d l c ls cs 0 0 H' → (∀ x ∈ ls, 0 ≤ x) → Q (.ref d) H'
theorem ints_back {K : Ck} {F : Hp} : ∀ {ns : List Int} {vs : List V}, RpA K F vs (ns.map .int) → vs = ns.map V.int
  | [], _, h => by cases h; rfl
  | n :: ns, _, h => by
    cases h with
    | cons r t => cases r; rw [ints_back t]; rfl
theorem begun_reads {n1 n2 n3 : Str} {K : Ck} {vs : List V} {H : Hp} {Q : VK} {E : XK} (h : spBegun K vs H Q E) : tBegun K { nx := fun _ H' => Q .non H', rt := Q } (L2.start [n1, n2, n3] vs) H := by
  obtain ⟨a, ns, rfl, hr, hn, k⟩ := h
  have hrd : SqLx K (only H a a) a (ns.map V.int) := by
    rcases hr with (hr | ⟨o, hr⟩) | hr
    · exact .inl (.inl (by unfold only; rw [if_pos (.inl rfl)]; exact hr))
    · exact .inl (.inr ⟨o, by unfold only; rw [if_pos (.inl rfl)]; exact hr⟩)
    · exact .inr hr
  have E0 : EnvOk K (staOf none) H (only H a a) (only H a a) H [.d (.list (ns.map .int)), .u, .u] (L2.start [n1, n2, n3] [.ref a]) ⟨none, [], [], 0, 0⟩ :=
    ⟨⟨none, rfl⟩, only_sub _ _ _, Le.refl _, fun _ _ => rfl, fun _ _ h _ => h, fun _ h => h.elim, rfl, rfl, fun i s hs => by
      match i, hs with
      | 0, hs => cases hs; exact ⟨_, rfl, _, rfl, .lst hrd (rpa_ints ns)⟩
      | 1, hs => cases hs; exact ⟨_, rfl, trivial⟩
      | 2, hs => cases hs; exact ⟨_, rfl, trivial⟩
      | i + 3, hs => simp at hs, fun i l s t h1 h2 o1 o2 _ => by
      match i, h1 with
      | 0, h1 => cases h1; cases o1
      | 1, h1 => cases h1; cases o1
      | 2, h1 => cases h1; cases o1
      | i + 3, h1 => simp at h1⟩
  refine sms_set (W := W0) 1 sm_begL1 _ H _ _ H _ _ _ _ E0 ?_
  unfold fSet
  rw [begL1 ns _ _ hn]
  intro σ1 F1 H1 E1
  have E1 : EnvOk K (staOf none) H (only H a a) F1 H1 [.d (.list (ns.map .int)), .own ((ns.map absI).map .int), .u] σ1 ⟨none, [], [], 0, 0⟩ := E1
  obtain ⟨v1, s1, c, rfl, c1, _, c3, vs1, c4, c5⟩ := E1.sl 1 _ rfl
  have := ints_back c5
  subst this
  intro p hp
  have n := Ext.own (S := staOf none) (o := .dK []) E1.sub hp
  have j1 : (staOf none).J ⟨none, [], [], 0, 0⟩ (upd H1 p (.dK [])) := J.new E1.j hp
  have E2 := E1.ext n j1
  have key : ∀ (Q2 : VK), (∀ v H3, (∃ (l : Addr) (ls : List Int), v = V.ref l ∧ H l = none ∧ l ≠ p ∧ l ≠ c ∧ H3 l = some (.lst (ls.map V.int)) ∧ (∀ x ∈ ls, (0 : Int) ≤ x) ∧ H3 p = some (.dK []) ∧ H3 c = some (.lst ((ns.map absI).map V.int)) ∧ ∀ b o, H b = some o → H3 b = some o) → Q2 v H3) → tBegL2 K σ1 (upd H1 p (.dK [])) Q2 := by
    intro Q2 k2
    refine sm_begL2 (W := W0) _ H _ _ _ _ _ _ (fun r _ => r = .nl ((bigs (ns.map absI)).map .int)) NoX _ E2 (by rw [begL2 (ns.map absI) _ _ (by rw [List.length_map]; exact hn)]; rfl) (fun r g' v F3 H3 hr e j rv => ?_) (fun _ _ _ _ _ _ z _ _ _ => z.elim)
    subst hr
    obtain ⟨l, vs, rfl, l1, _, l3, l4, l5⟩ := rv
    have := ints_back l5
    subst this
    have hpp : H3 p = some (.dK []) := e.keep p _ upd_same fun m => m
    have hcc : H3 c = some (.lst ((ns.map absI).map V.int)) := e.keep c _ (by rw [upd_ne (ne_of_none c4 hp)]; exact c4) fun m => m
    have keep : ∀ b o, H b = some o → H3 b = some o := fun b o hb => e.keep b o (n.keep b o (E1.keep b o hb fun m => m) fun m => m) fun m => m
    refine k2 _ _ ⟨l, bigs (ns.map absI), rfl, ?_, ?_, ?_, l4, ?_, hpp, hcc, keep⟩
    · cases q : H l with
      | none => rfl
      | some o => have := n.keep l o (E1.keep l o q fun m => m) fun m => m; rw [l1] at this; cases this
    · intro z; rw [z, upd_same] at l1; cases l1
    · intro z; rw [z, upd_ne (ne_of_none c4 hp), c4] at l1; cases l1
    · intro x hx
      unfold bigs at hx
      obtain ⟨y, _, hy⟩ := List.mem_filterMap.mp hx
      by_cases c : y ≥ 10 ^ 18
      · rw [if_pos c] at hy; cases hy; omega
      · rw [if_neg c] at hy; cases hy
  simp only [tPairs, tC]
  refine key _ fun v H3 ⟨l, ls, hv, l0, lp, lc, hl, hx, hpp, hcc, keep⟩ => ?_
  subst hv
  refine ⟨_, s1, ?_⟩
  refine ⟨hpp, stv l c 0 0, rfl, by show 4 ≤ 15; decide, ?_⟩
  rw [merge_stv]
  have hpn : H p = none := by
    cases q : H p with
    | none => rfl
    | some o => have := E1.keep p o q fun m => m; rw [hp] at this; cases this
  have hcp : c ≠ p := ne_of_none c4 hp
  exact k _ p l c ls (ns.map absI) (fun b o hb => by rw [upd_ne (fun z => by rw [z, hpn] at hb; cases hb)]; exact keep b o hb) hpn l0 c1 ⟨Ne.symm lp, Ne.symm hcp, lc, upd_same, by rw [upd_ne lp]; exact hl, by rw [upd_ne hcp]; exact hcc⟩ hx
/-! ### the law -/
def spLaw (K : Ck) : Sp := fun vs H Q E => ∃ (a : Addr) (ns : List Int), vs = [.ref a] ∧ SqLx K H a (ns.map V.int) ∧ ns.length ≤ 63 ∧ ∀ H', Q (.bl true) H'
/-- n draws may still be made -/
structure GOk (g : Gs) (n : Nat) : Prop where
  r0 : 0 ≤ g.rest
  l0 : ∀ x ∈ g.ls, 0 ≤ x
  t0 : 0 ≤ g.turn
  tn : g.turn + n ≤ 2 ^ 40
  q0 : g.q ≠ none
theorem GOk.le {g : Gs} {n m : Nat} (h : GOk g n) (e : m ≤ n) : GOk g m := ⟨h.r0, h.l0, h.t0, by have := h.tn; omega, h.q0⟩
/-- the law's slots behind its first statement -/
def lawSlots (m : Nat) (ns : List Int) (d : Addr) : List SD := .d (.list (ns.map .int)) :: .o (.ref d) :: List.replicate m .u
/-- the law's body behind its first statement is right -/
def LawRight (m : Nat) (b : EFs) : Prop := ∀ (ns : List Int) (d l c : Addr) (g : Gs), ns.length ≤ 63 → g.q = some (d, l, c) → GOk g (2 ^ 39) → ∃ g', b (lawSlots m ns d) g = .ok (.rt (.d (.bool true))) g'
theorem law_reads {K : Ck} {n0 n1 : Str} {Ns : List Str} {u : TS} {b : EFs} {E0 : XK} (hu : SmS K (WB E0) u b) (right : LawRight Ns.length b)
    {vs : List V} {H : Hp} {Q : VK} {E : XK} (h : spLaw K vs H Q E) : tSeq (tAsg (tCallSD (spBegun K) [] (WE (WB E0)) (tCons (tVar 0) tNil)) (gName 1)) u { nx := fun _ H' => Q .non H', rt := Q } (L2.start (n0 :: n1 :: Ns) vs) H := by
  obtain ⟨a, ns, rfl, hr, hn, k⟩ := h
  have es : L2.start (n0 :: n1 :: Ns) [.ref a] = some (.ref a) :: none :: List.replicate Ns.length none := by
    simp [L2.start, List.replicate_succ]
  rw [es]
  refine ⟨.ref a, rfl, a, ns, rfl, hr, hn, fun H' d l c ls cs keep hd hl hc L pos => ?_⟩
  have hF : ∃ F, Sub F H' ∧ (∀ x, (x = d ∨ x = l ∨ x = c) → F x = none) ∧ SqLx K F a (ns.map V.int) := by
    rcases hr with hr | hr
    · have ha : ∃ o, H a = some o ∧ Rd (only H' a a) a (.lst (ns.map V.int)) := by
        rcases hr with h | ⟨o, h⟩
        · exact ⟨_, h, .inl (by unfold only; rw [if_pos (.inl rfl)]; exact keep _ _ h)⟩
        · exact ⟨_, h, .inr ⟨o, by unfold only; rw [if_pos (.inl rfl)]; exact keep _ _ h⟩⟩
      obtain ⟨o, h0, h1⟩ := ha
      refine ⟨only H' a a, only_sub _ _ _, fun x hx => ?_, .inl h1⟩
      have : ¬ (x = a ∨ x = a) := by
        intro z
        have z : x = a := z.elim id id
        subst z
        rcases hx with rfl | rfl | rfl
        · rw [h0] at hd; cases hd
        · rw [h0] at hl; cases hl
        · rw [h0] at hc; cases hc
      unfold only
      rw [if_neg this]
    · exact ⟨fun _ => none, (fun x o e => by cases e), fun _ _ => rfl, .inr hr⟩
  obtain ⟨F, sub, mF, hS⟩ := hF
  obtain ⟨g', hb⟩ := right ns d l c ⟨some (d, l, c), ls, cs, 0, 0⟩ hn rfl ⟨Int.le_refl _, pos, Int.le_refl _, by show (0 : Int) + ((2 ^ 39 : Nat) : Int) ≤ 2 ^ 40; decide, fun z => by cases z⟩
  refine hu (staOf (some (d, l, c))) H' F F H' (lawSlots Ns.length ns d) _ ⟨some (d, l, c), ls, cs, 0, 0⟩ _ ?_ ?_
  · refine ⟨⟨_, rfl⟩, sub, Le.refl _, fun _ _ => rfl, fun _ _ h _ => h, mF, ⟨rfl, L⟩, by simp [lawSlots], fun i s hs => ?_, fun i j s t h1 h2 o1 o2 _ => ?_⟩
    · match i, hs with
      | 0, hs => cases hs; exact ⟨_, rfl, _, rfl, .lst hS (rpa_ints ns)⟩
      | 1, hs => cases hs; exact ⟨_, rfl, rfl⟩
      | i + 2, hs =>
        have hs : (List.replicate Ns.length SD.u)[i]? = some s := hs
        rw [List.getElem?_replicate] at hs
        split at hs
        · rename_i hlt
          cases hs
          exact ⟨none, (by show (List.replicate Ns.length (none : Option V))[i]? = some none; rw [List.getElem?_replicate, if_pos hlt]), trivial⟩
        · cases hs
    · exfalso
      match i, h1 with
      | 0, h1 => cases h1; cases o1
      | 1, h1 => cases h1; cases o1
      | i + 2, h1 =>
        have h1 : (List.replicate Ns.length SD.u)[i]? = some s := h1
        rw [List.getElem?_replicate] at h1
        split at h1
        · cases h1; cases o1
        · cases h1
  · rw [hb]
    intro v F' H2 R
    have rv : Rp K F' v (.bool true) := R.rv
    cases rv
    exact k H2
end Fx

namespace Fx
open PySem L2

/-! ### what an expression comes to is its reading -/
section
variable (K : Ck) (W : WX)
def tE (f : EF) : TE := fun σ H Q => ∃ (S : Sta) (B F0 F : Hp) (ρ : List SD) (g : Gs) (Xd : PyData → Gs → Prop), EnvOk K S B F0 F H ρ σ g ∧ (f ρ g).wp (fun r g' => ∀ v F' H', Ext S F H F' H' → S.J g' H' → RepRV K S H F' H' v r → Q v H') Xd ∧ XOk K W S F H σ Xd
def tT (f : EFt) : TT := fun σ H Q => ∃ (S : Sta) (B F0 F : Hp) (ρ : List SD) (g : Gs) (Xd : PyData → Gs → Prop), EnvOk K S B F0 F H ρ σ g ∧ (f ρ g).wp (fun r g' => ∀ F' H', Ext S F H F' H' → S.J g' H' → Q r H') Xd ∧ XOk K W S F H σ Xd
def tAf (f : EFa) : TA := fun σ H Q => ∃ (S : Sta) (B F0 F : Hp) (ρ : List SD) (g : Gs) (Xd : PyData → Gs → Prop), EnvOk K S B F0 F H ρ σ g ∧ (f ρ g).wp (fun as g' => ∀ vs F' H', Ext S F H F' H' → S.J g' H' → RepAVs K F' vs as → Q vs H') Xd ∧ XOk K W S F H σ Xd
def tI (w : Bool) (f : EFi) : TI := fun σ H Rr => ∃ (S : Sta) (B F0 F : Hp) (ρ : List SD) (g : Gs) (Xd : PyData → Gs → Prop), EnvOk K S B F0 F H ρ σ g ∧ (f ρ g).wp (fun ds g' => ∀ F' H' J, Ext S F H F' H' → S.J g' H' → ItOk w K S F' J ds → Rr J H') Xd ∧ XOk K W S F H σ Xd
def tOf (f : EFo) : TO := fun σ H Q => ∃ (S : Sta) (B F0 F : Hp) (ρ : List SD) (g : Gs) (Xd : PyData → Gs → Prop), EnvOk K S B F0 F H ρ σ g ∧ (f ρ g).wp (fun r g' => ∀ F' H', Ext S F H F' H' → S.J g' H' → Q r H') Xd ∧ XOk K W S F H σ Xd
def tSf (f : EFs) : TS := fun D σ H => ∃ (S : Sta) (B F0 F : Hp) (ρ : List SD) (g : Gs), EnvOk K S B F0 F H ρ σ g ∧ (f ρ g).wp (EndOk K W S B F0 D) NoX
end
section
variable {K : Ck} {W : WX}
theorem sm_s {f : EF} : Sm K W (tE K W f) f := fun S B F0 F H ρ σ g Pd Xd Q E h k kx => ⟨S, B, F0, F, ρ, g, Xd, E, R.wp_imp h (fun r g' q v F' H' a b c => k r g' v F' H' q a b c) fun _ _ z => z, kx⟩
theorem smt_s {f : EFt} : SmT K W (tT K W f) f := fun S B F0 F H ρ σ g Pd Xd Q E h k kx => ⟨S, B, F0, F, ρ, g, Xd, E, R.wp_imp h (fun r g' q F' H' a b => k r g' F' H' q a b) fun _ _ z => z, kx⟩
theorem sma_s {f : EFa} : SmA K W (tAf K W f) f := fun S B F0 F H ρ σ g Pd Xd Q E h k kx => ⟨S, B, F0, F, ρ, g, Xd, E, R.wp_imp h (fun r g' q v F' H' a b c => k r g' v F' H' q a b c) fun _ _ z => z, kx⟩
theorem smi_s {w : Bool} {f : EFi} : SmI w K W (tI K W w f) f := fun S B F0 F H ρ σ g Pd Xd Q E h k kx => ⟨S, B, F0, F, ρ, g, Xd, E, R.wp_imp h (fun r g' q F' H' J a b c => k r g' F' H' J q a b c) fun _ _ z => z, kx⟩
theorem smo_s {f : EFo} : SmO K W (tOf K W f) f := fun S B F0 F H ρ σ g Pd Xd Q E h k kx => ⟨S, B, F0, F, ρ, g, Xd, E, R.wp_imp h (fun r g' q F' H' a b => k r g' F' H' q a b) fun _ _ z => z, kx⟩
theorem sms_s {f : EFs} : SmS K W (tSf K W f) f := fun S B F0 F H ρ σ g D E h => ⟨S, B, F0, F, ρ, g, E, h⟩
end
section
variable {X : Cx} {C : Ck} {W : WX}
theorem xe {e : Expr} {t : TE} {f : EF} (h : PE X e t) (s : Sm C W t f) : PE X e (tE C W f) :=
  ⟨fun pins s' σ H Q I ⟨S, B, F0, F, ρ, g, Xd, E, hw, kx⟩ => h.run pins s' σ H Q I (s S B F0 F H ρ σ g _ Xd Q E hw (fun r g' v F' H' q a b c => q v F' H' a b c) kx)⟩
theorem xt {e : Expr} {t : TT} {f : EFt} (h : PT X e t) (s : SmT C W t f) : PT X e (tT C W f) :=
  ⟨fun pins s' σ H Q I ⟨S, B, F0, F, ρ, g, Xd, E, hw, kx⟩ => h.run pins s' σ H Q I (s S B F0 F H ρ σ g _ Xd Q E hw (fun r g' F' H' q a b => q F' H' a b) kx)⟩
theorem xw {e : Expr} {t : TT} {f : EFt} (h : PW X e t) (s : SmT C W t f) : PW X e (tT C W f) :=
  ⟨fun whole pins s' σ H Q I ⟨S, B, F0, F, ρ, g, Xd, E, hw, kx⟩ => h.run whole pins s' σ H Q I (s S B F0 F H ρ σ g _ Xd Q E hw (fun r g' F' H' q a b => q F' H' a b) kx)⟩
theorem xts {es : List Expr} {t : TT} {f : EFt} (h : PTs X es t) (s : SmT C W t f) : PTs X es (tT C W f) :=
  ⟨fun pins s' σ H Q I ⟨S, B, F0, F, ρ, g, Xd, E, hw, kx⟩ => h.run pins s' σ H Q I (s S B F0 F H ρ σ g _ Xd Q E hw (fun r g' F' H' q a b => q F' H' a b) kx)⟩
theorem xa {es : List Expr} {t : TA} {f : EFa} (h : PA X es t) (s : SmA C W t f) : PA X es (tAf C W f) :=
  ⟨fun pos pins s' σ H Q I ⟨S, B, F0, F, ρ, g, Xd, E, hw, kx⟩ => h.run pos pins s' σ H Q I (s S B F0 F H ρ σ g _ Xd Q E hw (fun r g' v F' H' q a b c => q v F' H' a b c) kx)⟩
theorem xk {es : List Keyword} {t : TA} {f : EFa} (h : PK X es t) (s : SmA C W t f) : PK X es (tAf C W f) :=
  ⟨fun pos pins s' σ H Q I ⟨S, B, F0, F, ρ, g, Xd, E, hw, kx⟩ => h.run pos pins s' σ H Q I (s S B F0 F H ρ σ g _ Xd Q E hw (fun r g' v F' H' q a b c => q v F' H' a b c) kx)⟩
theorem xi {w : Bool} {tg e : Expr} {t : TI} {f : EFi} (h : PI X tg e t) (s : SmI w C W t f) : PI X tg e (tI C W w f) :=
  ⟨fun pins s' σ H Q I ⟨S, B, F0, F, ρ, g, Xd, E, hw, kx⟩ => h.run pins s' σ H Q I (s S B F0 F H ρ σ g _ Xd Q E hw (fun r g' F' H' J q a b c => q F' H' J a b c) kx)⟩
theorem xs {st : Stmt} {t : TS} {f : EFs} (h : PS X st t) (s : SmS C W t f) : PS X st (tSf C W f) :=
  ⟨fun pins s' σ H D I ⟨S, B, F0, F, ρ, g, E, hw⟩ => h.run pins s' σ H D I (s S B F0 F H ρ σ g D E hw)⟩
theorem xss {st : List Stmt} {t : TS} {f : EFs} (h : PSs X st t) (s : SmS C W t f) : PSs X st (tSf C W f) :=
  ⟨fun pins s' σ H D I ⟨S, B, F0, F, ρ, g, E, hw⟩ => h.run pins s' σ H D I (s S B F0 F H ρ σ g D E hw)⟩
end
/-! ### the operations' facts -/
section
variable {K : Ck}
theorem F_add : OpF K (rB K gAdd) oAdd := opF_of opd_rB fun _ _ _ _ h q => add_of h q
theorem F_mul : OpF K (rB K gMul) oMul := opF_of opd_rB fun _ _ _ _ h q => mul_of h q
theorem F_mod : OpF K (rB K gMod) oMod := opF_of opd_rB fun _ _ _ _ h q => mod_of h q
theorem F_div : OpF K (rB K gDiv) oDiv := opF_of opd_rB fun _ _ _ _ h q => div_of h q
theorem F_neg : Op1F K (rN K gNeg) oNeg := op1F_of opd_rN fun _ _ _ h q => neg_of h q
theorem F_eq : OpF K (rB K gEq) oEq := opF_of opd_rB fun _ _ _ _ h q => eq_of h q
theorem F_ne : OpF K (rB K gNe) oNe := opF_of opd_rB fun _ _ _ _ h q => ne_of' h q
theorem F_lt : OpF K (rB K gLt) oLt := opF_of opd_rB fun _ _ _ _ h q => lt_of h q
theorem F_le : OpF K (rB K gLe) oLe := opF_of opd_rB fun _ _ _ _ h q => cmp_of h q
theorem F_gt : OpF K (rB K gGt) oGt := opF_of opd_rB fun _ _ _ _ h q => cmp_of h q
theorem F_isN : OpF K (rB K gIsN) oIsN := opF_of opd_rB fun _ _ _ _ h q => isN_of h q
theorem F_notN : OpF K (rB K gNotN) oNotN := opF_of opd_rB fun _ _ _ _ h q => notN_of h q
theorem F_in : OpF K (rB K (gIn false)) (oIn false) := opF_of opd_rB fun _ _ _ _ h q => in_of h q
theorem F_notIn : OpF K (rB K (gIn true)) (oIn true) := opF_of opd_rB fun _ _ _ _ h q => in_of h q
theorem F_ix : OpF K (rB K gIx) oIx := opF_of opd_rB fun _ _ _ _ h q => ix_of h q
theorem F_len : OpAF K (rLen K) (o1A oLen) := opAF_of od_len (o1A_of fun _ _ _ h q => len_of h q)
theorem F_int : OpAF K rInt (o1A oInt) := opAF_of od_int (o1A_of fun _ _ _ h q => int_of h q)
theorem F_list : OpAF K (rList K) (o1A oList) := opAF_of od_list (o1A_of fun _ _ _ h q => list_of h q)
theorem F_tuple : OpAF K (rTuple K) (o1A oTuple) := opAF_of od_tuple (o1A_of fun _ _ _ h q => tuple_of h q)
theorem F_all : OpAF K (rAll K) (o1A oAll) := opAF_of od_all (o1A_of fun _ _ _ h q => all_of h q)
theorem F_any : OpAF K (rAny K) (o1A oAny) := opAF_of od_any (o1A_of fun _ _ _ h q => any_of h q)
theorem F_max2 : OpAF K rMax2 (o2A oMax2) := opAF_of od_max2 (o2A_of fun _ _ _ _ h q => max2_of h q)
theorem F_min2 : OpAF K rMin2 (o2A oMin2) := opAF_of od_min2 (o2A_of fun _ _ _ _ h q => min2_of h q)
theorem F_maxL : OpAF K (rMax K) (o1A oMaxL) := opAF_of od_maxL (o1A_of fun _ _ _ h q => maxL_of h q)
theorem F_minL : OpAF K (rMin K) (o1A oMinL) := opAF_of od_minL (o1A_of fun _ _ _ h q => minL_of h q)
theorem F_sorted : OpAF K (rA K (g1 gSorted)) (o1A oSorted) := opAF_of opd_rA (o1A_of fun _ _ _ h q => sorted_of h q)
theorem F_dict : OpAF K (rA K (g1 gDict)) (o1A oDict) := opAF_of opd_rA (o1A_of fun _ _ _ h q => dict_of h q)
end
section
variable {X : Cx}
theorem mt_getF (hu : X.A.units + 1 < cLine) : MtR X "dict.get" (rM (Cx.ck X) (GMof oGet)) := fun pins s σ H x xs v us Q I rx rv ⟨S, F, dx, as, Qd, a, b, c, ⟨r, h, q⟩, p⟩ => mt_getP hu pins s σ H x xs v us Q I rx rv ⟨S, F, dx, as, Qd, a, b, c, get_of h q, p⟩
theorem mt_joinF : MtR X "str.join" (rM (Cx.ck X) (GMof oJoin)) := fun pins s σ H x xs v us Q I rx rv ⟨S, F, dx, as, Qd, a, b, c, ⟨r, h, q⟩, p⟩ => mt_joinP pins s σ H x xs v us Q I rx rv ⟨S, F, dx, as, Qd, a, b, c, join_of h q, p⟩
end
theorem huN {A : Around} {k n : Nat} (hr : Room k A) (h : n ≤ 200) : A.units + n < cLine := by
  have := hr.un
  omega
/-- a def of the top -/
structure DefAt (K : PySem.W.Frag) (mg : Str → Option Value) (name : Str) (st : Stmt) (ps : List Str) (f : Addr) (fd : FuncData) : Prop where
  F : Fun K name name st f fd
  g : mg name = some (.ref f)
  b : Binds K fd ps []
end Fx

namespace Fx
open PySem L2 PySem.Spec PyProof.Rows
/-! ### defs, where no repr is under way -/
structure FnG (P : Program) (w : World) (K : PySem.W.Frag) (mg : Str → Option Value) (bs : Heap) (k : Nat) (f : Addr) (fd : FuncData) (ps : List Str) (sp : Sp) : Prop where
  ln : ∀ vs H Q E, sp vs H Q E → vs.length = ps.length
  go : ∀ (A : Around) (fr : List Env) (s : Shared) (H : Hp) (args : Args) (us : List Value) (vs : List V) (Q : VK) (E : XK), A.guards = some [] → Room k A → Env0 P w K mg bs A fr s H → BindsTo s fd args (ps.zip us) → Vals vs us → sp vs H Q E →
    codeAny (model P w) A (.call (.ref f) args) (CR (L2.CX P w) fr P w H s Q E) s
theorem FnG.up {P : Program} {w : World} {K : PySem.W.Frag} {mg : Str → Option Value} {bs : Heap} {j k : Nat} {f : Addr} {fd : FuncData} {ps : List Str} {sp : Sp} (F : FnG P w K mg bs j f fd ps sp) (h : j ≤ k) : FnG P w K mg bs k f fd ps sp :=
  ⟨F.ln, fun A fr s H args us vs Q E hg hr => F.go A fr s H args us vs Q E hg (hr.mono h)⟩
theorem Fun.okG {P : Program} {w : World} {K : PySem.W.Frag} {mg : Str → Option Value} {bs : Heap} {x qual : Str} {st : Stmt} {f : Addr} {fd : FuncData} {N ps : List Str} {k : Nat} {sp : Sp} (F : L2.Fun K x qual st f fd) (S : FnScope N ps (defScope st)) (ln : ∀ vs H Q E, sp vs H Q E → vs.length = ps.length)
    (body : ∀ (cdv : Value) (A : Around) (fr : List Env) (s : Shared) (H : Hp) (vs : List V) (Q : VK) (E : XK), A.guards = some [] → Room k (A.deeper (envOfC qual (defScope st) s.heap.objs.size f cdv)) → sp vs H Q E →
      ∃ t, PSs (cxOf (L2.CX P w) P w K mg bs N qual (defScope st) f cdv A fr s H E) (defBody st) t ∧ t { nx := fun _ H' => Q .non H', rt := Q } (start N vs) H) : FnG P w K mg bs (k + 1) f fd ps sp := by
  obtain ⟨oc, od, kV, doc, pm, an, cdv, ct, osl, rfl, lk, hcd⟩ := F.ex
  refine ⟨ln, fun A fr s H args us vs Q E hg hr en hb r want => ?_⟩
  have inK : K.In s.heap := en.mod.kin.keeps fun b o e => (en.bs b o e).1
  have noL : s.heap.NoLimit := en.mod.nolimit.keeps fun b o e => (en.bs b o e).1
  have kinds : ∀ y ∈ ps.zip us, (defScope st).names.lookup y.1 = some .local ∨ ((defScope st).names.lookup y.1 = some .cell ∧ ((cellsFrom (s.heap.objs.size + 1) (defScope st).names []).lookup y.1).isSome = true) := fun ⟨n, v⟩ hy => by
    rcases S.par n (List.of_mem_zip hy).1 with q | q
    · exact Or.inl q
    · exact Or.inr ⟨q, PySem.W.cellsFrom_some _ _ _ (Or.inl q)⟩
  refine codeAny_call_function hr.depth (inK _ _ lk) rfl S.co S.gen rfl (PySem.W.codeRec_of inK hcd) (hb _ _ _ _ (wpAny_newFunctionEnv_cells S.kind kinds fun env he s1 x => ?_))
  subst he
  obtain ⟨t, ht, hq⟩ := body cdv A fr s H vs Q E hg (hr.deeper _) want
  have I0 : Inv (cxOf (L2.CX P w) P w K mg bs N qual (defScope st) f cdv A fr s H E) [] (start N vs) H s1 := inv_start S hr.hd en (ln _ _ _ _ want) r x
  refine ⟨noL.keeps x.toInCall.keep, codeAny_func (wpAny_mono (ht.run [] s1 (start N vs) H _ I0 hq) (fun fl s' out => ?_) fun e s' out => out)⟩
  have close : ∀ {σ' : L2.St} {H' : Hp} {v : V} {u : Value}, Inv (cxOf (L2.CX P w) P w K mg bs N qual (defScope st) f cdv A fr s H E) [] σ' H' s' → RelV v u → Q v H' → CE fr P w H s Q u s' :=
    fun {σ' H' v u} J rv q => ⟨v, H', J.os, J.bare, J.base, J.hok, rv, q⟩
  match fl, out with
  | .ret u, ⟨v, σ', H', J, rv, q⟩ => exact close J rv q
  | .next, ⟨σ', H', J, q⟩ => exact close (v := V.non) (u := Value.none) J rfl q
  | .brk, ⟨_, _, _, q⟩ => exact q.elim
  | .cont, ⟨_, _, _, q⟩ => exact q.elim
theorem xo {X : Cx} {C : Ck} {W : WX} {o : Option Expr} {t : TO} {f : EFo} (h : PO X o t) (s : SmO C W t f) : PO X o (tOf C W f) :=
  ⟨fun pins s' σ H Q I ⟨S, B, F0, F, ρ, g, Xd, E, hw, kx⟩ => h.run pins s' σ H Q I (s S B F0 F H ρ σ g _ Xd Q E hw (fun r g' F' H' q a b => q F' H' a b) kx)⟩
/-! ### calls with keywords -/
/-- the positional values and the keywords' ones, in the parameters' order -/
def perm (n m : Nat) (ix : List Nat) {α : Type} (us ws : List α) : List α := if us.length = n ∧ ws.length = m then ix.filterMap fun i => (us ++ ws)[i]? else []
theorem perm_rel {n m : Nat} {ix : List Nat} {vs : List V} {us : List Value} {zs : List V} {ws : List Value} (r1 : Vals vs us) (r2 : Vals zs ws) : Vals (perm n m ix vs zs) (perm n m ix us ws) := by
  unfold perm
  rw [r1.length, r2.length]
  split
  · have r := r1.append r2
    induction ix with
    | nil => exact .nil
    | cons i ix ih =>
      cases e : (vs ++ zs)[i]? with
      | none => rw [List.filterMap_cons_none e, List.filterMap_cons_none (r.none_of e)]; exact ih
      | some v =>
        obtain ⟨u, h1, h2⟩ := r.get e
        rw [List.filterMap_cons_some e, List.filterMap_cons_some h1]
        exact .cons h2 ih
  · exact .nil
theorem perm_av {K : Ck} {F : Hp} {n m : Nat} {ix : List Nat} {vs zs : List V} {as bs : List AV} (r1 : RepAVs K F vs as) (r2 : RepAVs K F zs bs) : RepAVs K F (perm n m ix vs zs) (perm n m ix as bs) := by
  have app : ∀ {vs : List V} {as : List AV}, RepAVs K F vs as → RepAVs K F (vs ++ zs) (as ++ bs) := by
    intro vs
    induction vs with
    | nil => intro as h; cases as with
      | nil => exact r2
      | cons _ _ => exact h.elim
    | cons v vs ih => intro as h; cases as with
      | nil => exact h.elim
      | cons a as => exact ⟨h.1, ih h.2⟩
  unfold perm
  rw [r1.length, r2.length]
  split
  · have r := app r1
    have hl := r.length
    induction ix with
    | nil => exact trivial
    | cons i ix ih =>
      cases e : (as ++ bs)[i]? with
      | none =>
        have e' : (vs ++ zs)[i]? = none := by
          rw [List.getElem?_eq_none_iff] at e ⊢
          omega
        rw [List.filterMap_cons_none e, List.filterMap_cons_none e']; exact ih
      | some a =>
        obtain ⟨v, h1, h2⟩ := repAVs_get r e
        rw [List.filterMap_cons_some e, List.filterMap_cons_some h1]
        exact ⟨h2, ih⟩
  · exact trivial
/-- how a def without defaults is bound by keywords -/
theorem kb_of {K : PySem.W.Frag} {x qual : Str} {st : Stmt} {f : Addr} {fd : FuncData} {ps ks : List Str} {n m : Nat} {ix : List Nat} (F : Fun K x qual st f fd) (hp : ps ≠ [])
    (h : ∀ (kV doc pm : Value) (an : Option Addr) (cdv ct : Value) (us ws : List Value), us.length = n → ws.length = m → bindArgs (PySem.W.fnOf x qual (defArgs st) (defBody st) (defScope st) .none kV doc pm an cdv ct) ⟨us, ks.zip ws⟩ = pure (ps.zip (perm n m ix us ws))) : KBinds K fd ps ks (perm n m ix) (perm n m ix) := by
  obtain ⟨oc, od, kV, doc, pm, an, cdv, ct, osl, rfl, lk, hcd⟩ := F.ex
  refine ⟨fun s us ws hK hl => ?_, perm_rel⟩
  by_cases c : us.length = n ∧ ws.length = m
  · exact .of_eq (h kV doc pm an cdv ct us ws c.1 c.2)
  · unfold perm at hl
    rw [if_neg c] at hl
    exact absurd (List.length_eq_zero_iff.mp hl.symm) hp
section
variable {X : Cx} {k : Nat} {f : Addr} {fd : FuncData} {ps ks : List Str} {sp : Sp} {E : L2.St → XK} {x : Str} {p pos : Pos} {e : Expr} {es : List Expr} {kws : List Keyword} {t tk : TA} {gg : List Value → List Value → List Value} {gV : List V → List V → List V}
def tCallKS (sp : Sp) (gV : List V → List V → List V) (E : L2.St → XK) (t tk : TA) : TE := fun σ H Q => t σ H fun vs H1 => tk σ H1 fun zs H2 => sp (gV vs zs) H2 Q (E σ)
def OutOk (X : Cx) (pins : List (Addr × Obj)) (σ : L2.St) (Q : VK) (r : Result) (s' : Shared) : Prop := match r with
  | .ok (.ret v) => EP X pins σ Q v s'
  | .ok _ => False
  | .error e => X.xe e s'
/-- what stands behind a call -/
theorem FnG.end_ {pins : List (Addr × Obj)} {σ : L2.St} {H : Hp} {s s' : Shared} {Q : VK} {r : Result} (hx : PassesAt (L2.CX X.prog X.w) X σ (E σ)) (I : Inv X pins σ H s) (c : CR (L2.CX X.prog X.w) X.stack X.prog X.w H s Q (E σ) r s') :
    OutOk X pins σ Q r s' := by
  match r, c with
  | .error e, c => exact hx pins H s e s' I c
  | .ok (.ret u), c => exact I.after c
  | .ok .next, c => exact c.elim
  | .ok .brk, c => exact c.elim
  | .ok .cont, c => exact c.elim
theorem FnG.run1 {pins : List (Addr × Obj)} {σ : L2.St} {H : Hp} {s : Shared} {Q : VK} {us : List Value} {vs : List V} (F : FnG X.prog X.w X.K X.mg X.base k f fd ps sp) (hg : X.A.guards = some []) (hr : Room k X.A) (hb : Binds X.K fd ps []) (hx : PassesAt (L2.CX X.prog X.w) X σ (E σ))
    (I : Inv X pins σ H s) (r : Vals vs us) (h : sp vs H Q (E σ)) : wpAny (model X.prog X.w) X.A (call (.ref f) us) (EP X pins σ Q) X.xe s := by
  have ll : us.length = ps.length := by rw [← r.length]; exact F.ln _ _ _ _ h
  have bb := hb s us I.kIn (by rw [List.append_nil]; exact ll)
  rw [List.append_nil] at bb
  exact wpAny_call (codeAny_mono (F.go X.A X.stack s H ⟨us, []⟩ us vs Q (E σ) hg hr I.env0 bb r h) fun r s' c => FnG.end_ hx I c)
theorem FnG.run2 {pins : List (Addr × Obj)} {σ : L2.St} {H : Hp} {s : Shared} {Q : VK} {us ws : List Value} {vs zs : List V} (F : FnG X.prog X.w X.K X.mg X.base k f fd ps sp) (hg : X.A.guards = some []) (hr : Room k X.A) (hb : KBinds X.K fd ps ks gg gV) (hx : PassesAt (L2.CX X.prog X.w) X σ (E σ))
    (I : Inv X pins σ H s) (r : Vals vs us) (rz : Vals zs ws) (h : sp (gV vs zs) H Q (E σ)) : wpAny (model X.prog X.w) X.A (call (.ref f) us (ks.zip ws)) (EP X pins σ Q) X.xe s := by
  have r2 := hb.rel r rz
  have ll : (gg us ws).length = ps.length := by rw [← r2.length]; exact F.ln _ _ _ _ h
  exact wpAny_call (codeAny_mono (F.go X.A X.stack s H ⟨us, ks.zip ws⟩ (gg us ws) (gV vs zs) Q (E σ) hg hr I.env0 (hb.to s us ws I.kIn ll) r2 h) fun r s' c => FnG.end_ hx I c)
/-- f(e, ..) -/
theorem pe_callG (F : FnG X.prog X.w X.K X.mg X.base k f fd ps sp) (hg : X.A.guards = some []) (hr : Room k X.A) (gl : Gl X x) (hm : X.mg x = some (.ref f)) (hk : PySem.W.keepIn X.K (.ref f) = true) (hb : Binds X.K fd ps []) (hx : ∀ σ, PassesAt (L2.CX X.prog X.w) X σ (E σ))
    (ha : PA X (e :: es) t) (hdb : (x == ("__debug__" : Str)) = false := by decide) (he : starEach (e :: es) X.env = (false, eval e X.env) :: starEach es X.env := by rfl) (hpl : (backTo pos (starEach es X.env)).any (·.1) = false := by rfl) :
    PE X (.Call (.Name x p) (e :: es) [] pos) (tCallSD sp [] E t) := by
  refine ⟨fun pins s σ H Q I h => wpAny_Call_Name_kw (ld_glob I gl hm ?_ hdb)⟩
  refine PySem.W.callWith_K (h₀ := X.base) I.ok.mod.kin hk (thn (ha.run pos pins s σ H _ I h) fun us s1 ⟨vs, H1, I1, r, q⟩ => ⟨I1.kIn, ?_⟩) he hpl
  have q : sp (vs ++ []) H1 Q (E σ) := q
  rw [List.append_nil] at q
  exact F.run1 hg hr hb (hx σ) I1 r q
/-- f() -/
theorem pe_callG0 (F : FnG X.prog X.w X.K X.mg X.base k f fd ps sp) (hg : X.A.guards = some []) (hr : Room k X.A) (gl : Gl X x) (hm : X.mg x = some (.ref f)) (hk : PySem.W.keepIn X.K (.ref f) = true) (hb : Binds X.K fd ps []) (hx : ∀ σ, PassesAt (L2.CX X.prog X.w) X σ (E σ))
    (hdb : (x == ("__debug__" : Str)) = false := by decide) : PE X (.Call (.Name x p) [] [] pos) (tCallSD sp [] E tNil) := by
  refine ⟨fun pins s σ H Q I h => wpAny_Call_Name_kw (ld_glob I gl hm ?_ hdb)⟩
  exact PySem.W.callWith_K0 I.kIn hk (F.run1 hg hr hb (hx σ) I (us := []) .nil h)
/-- f(e, .., k = v, ..) -/
theorem pe_callGK (F : FnG X.prog X.w X.K X.mg X.base k f fd ps sp) (hg : X.A.guards = some []) (hr : Room k X.A) (gl : Gl X x) (hm : X.mg x = some (.ref f)) (hk : PySem.W.keepIn X.K (.ref f) = true) (hb : KBinds X.K fd ps ks gg gV) (hx : ∀ σ, PassesAt (L2.CX X.prog X.w) X σ (E σ))
    (ha : PA X (e :: es) t) (hkw : PK X kws tk) (hall : (backToKw pos (keywordEach kws X.env)).all (·.1.isSome) = true := by rfl) (hks : (backToKw pos (keywordEach kws X.env)).filterMap (·.1) = ks := by rfl)
    (hdb : (x == ("__debug__" : Str)) = false := by decide) (he : starEach (e :: es) X.env = (false, eval e X.env) :: starEach es X.env := by rfl)
    (hpl : ((backTo pos (starEach (e :: es) X.env)).any (·.1) || (backToKw pos (keywordEach kws X.env)).any (·.1.isNone)) = false := by rfl) :
    PE X (.Call (.Name x p) (e :: es) kws pos) (tCallKS sp gV E t tk) := by
  refine ⟨fun pins s σ H Q I h => wpAny_Call_Name_kw (ld_glob I gl hm ?_ hdb)⟩
  refine PySem.W.callWith_KW (h₀ := X.base) I.ok.mod.kin hk hall (thn (ha.run pos pins s σ H _ I h) fun us s1 ⟨vs, H1, I1, r, q⟩ => ?_) hpl he
  refine thn (hkw.run pos pins s1 σ H1 _ I1 q) fun ws s2 ⟨zs, H2, I2, rz, q2⟩ => ⟨I2.kIn, ?_⟩
  rw [hks]
  exact F.run2 hg hr hb (hx σ) I2 r rz q2
theorem pe_callGK0 (F : FnG X.prog X.w X.K X.mg X.base k f fd ps sp) (hg : X.A.guards = some []) (hr : Room k X.A) (gl : Gl X x) (hm : X.mg x = some (.ref f)) (hk : PySem.W.keepIn X.K (.ref f) = true) (hb : KBinds X.K fd ps ks gg gV) (hx : ∀ σ, PassesAt (L2.CX X.prog X.w) X σ (E σ))
    (hkw : PK X kws tk) (hall : (backToKw pos (keywordEach kws X.env)).all (·.1.isSome) = true := by rfl) (hks : (backToKw pos (keywordEach kws X.env)).filterMap (·.1) = ks := by rfl)
    (hdb : (x == ("__debug__" : Str)) = false := by decide)
    (hpl : ((backTo pos (starEach [] X.env)).any (·.1) || (backToKw pos (keywordEach kws X.env)).any (·.1.isNone)) = false := by rfl) :
    PE X (.Call (.Name x p) [] kws pos) (tCallKS sp gV E tNil tk) := by
  refine ⟨fun pins s σ H Q I h => wpAny_Call_Name_kw (ld_glob I gl hm ?_ hdb)⟩
  refine PySem.W.callWith_KW0 (h₀ := X.base) I.ok.mod.kin hk hall (thn (hkw.run pos pins s σ H _ I h) fun ws s2 ⟨zs, H2, I2, rz, q2⟩ => ⟨I2.kIn, ?_⟩) hpl
  rw [hks]
  exact F.run2 hg hr hb (hx σ) I2 (us := []) .nil rz q2
end
def fCallK (n m : Nat) (ix : List Nat) (f : FnSp) (fa fk : EFa) : EF := fun ρ g => (fa ρ g).bind fun as g1 => (fk ρ g1).bind fun bs g2 => f (perm n m ix as bs) g2
theorem sm_callK {K : Ck} {W : WX} {n m : Nat} {ix : List Nat} {f : FnSp} {t tk : TA} {fa fk : EFa} (h : SmA K W t fa) (hk : SmA K W tk fk) : Sm K W (tCallKS (spF K f) (perm n m ix) (WE W) t tk) (fCallK n m ix f fa fk) := by
  intro S B F0 F H ρ σ g Pd Xd Q E hf k kx
  refine h S B F0 F H ρ σ g _ Xd _ E (R.wp_bind.mp hf) (fun as g1 vs F1 H1 q e j ra => ?_) kx
  have E1 := E.ext e j
  refine hk S B F0 F1 H1 ρ σ g1 _ Xd _ E1 (R.wp_bind.mp q) (fun bs g2 zs F2 H2 q2 e2 j2 rb => ?_) (XOk.ext kx e j)
  have E2 := E1.ext e2 j2
  have e12 := e.trans e2 j
  exact use_sp E2 (perm_av (ra.mono e2.le) rb) q2 (fun r g' v F' H' q' e' j' rv => k r g' v F' H' q' (e12.trans e' j2) j' (rv.wide fun a ha => e12.free j2 ha)) (XOk.ext kx e12 j2)
end Fx

namespace Fx
open PySem L2 PySem.Spec PyProof.Rows

/-! ### the law's head -/
theorem law_callG {P : Program} {w : World} {K : PySem.W.Frag} {mg mb : Str → Option Value} {k : Nat} {fa a : Addr} {fd : FuncData} {x : Str} {s₁ : Shared} {us : List Value} {ns : List Int}
    (inK : K.In s₁.heap) (nsG : s₁.heap.Ns mainGlobals mg) (nsB : s₁.heap.Ns builtinsNs mb) (boot : ∀ x : Str, x ≠ "__name__" → mb x = bootBuiltins x) (lim : s₁.heap.NoLimit) (gens : s₁.gens = #[])
    (ha : s₁.heap.get? a = some { cls := .type "list", data := .seq us.toArray }) (hi : IntsAre us ns) (hl : ns.length ≤ 63) (hr : Room k callerA)
    (F : ∀ base : Heap, K.In base → base.Ns mainGlobals mg → FnG P w K mg base k fa fd [x] (spLaw ⟨K, mg⟩)) (bind : ∀ (s : Shared) (u : Value), BindsTo s fd ⟨[u], []⟩ [(x, u)]) :
    codeAny (model P w) callerA (.call (.ref fa) ⟨[.ref a], []⟩) (fun r s' => r = .ok (.ret (.bool true)) ∧ OldK s₁.heap s'.heap ∧ s'.os = s₁.os ∧ AllBare s'.gens) s₁ := by
  have vals := vals_ints hi
  have cnt := hi.length
  have big : ns.length ≤ sizeLine := Nat.le_trans hl (by decide)
  have main : ∀ H : Hp, (∀ b, H b = none ∨ ∃ o xs, H b = some (.frz o (.lst xs))) → SqLx ⟨K, mg⟩ H a (ns.map V.int) → HOk P w H s₁.heap → (∀ b, H b ≠ none → b = a) → (H a ≠ none → K.lookup a = none) →
      codeAny (model P w) callerA (.call (.ref fa) ⟨[.ref a], []⟩) (fun r s' => r = .ok (.ret (.bool true)) ∧ OldK s₁.heap s'.heap ∧ s'.os = s₁.os ∧ AllBare s'.gens) s₁ := by
    intro H only sq ok alone notK
    have freeD : ∀ {b : Addr} {o : Obj} {es : Array DictEntry} {ep : Nat}, s₁.heap.get? b = some o → o.data = .dict es ep → H b = none := fun {b o es ep} e d => by
      cases q : H b with
      | none => rfl
      | some u =>
        obtain rfl := alone b (by rw [q]; exact fun z => by cases z)
        rw [ha] at e
        cases e
        exact nomatch (show Data.seq us.toArray _ = Data.dict es ep from d)
    have ns2 : ∀ {b : Addr} {m : Str → Option Value}, s₁.heap.Ns b m → (hidT s₁.heap H).Ns b m := fun {b m} ⟨o, es, ep, e, d, r⟩ => ⟨o, es, ep, hidT_get e (freeD e d), d, r⟩
    have K2 : K.In (hidT s₁.heap H) := fun b o e => hidT_get (inK b o e) (by
      cases q : H b with
      | none => rfl
      | some u =>
        obtain rfl := alone b (by rw [q]; exact fun z => by cases z)
        rw [notK (by rw [q]; exact fun z => by cases z)] at e
        cases e)
    have md : Mod K mg (hidT s₁.heap H) := ⟨K2, ns2 nsG, ⟨mb, ns2 nsB, boot⟩, let ⟨mc, h1, h2⟩ := lim; ⟨mc, ns2 h1, h2⟩⟩
    have en : Env0 P w K mg (hidT s₁.heap H) callerA [] s₁ H := ⟨rfl, md, fun b o e => of_hidT e, Nat.le_of_eq (hidT_size _ _), trivial, fun b hb => absurd (show b ∈ ([] : List Addr) from hb) (by simp), ok, .of_eq gens⟩
    refine codeAny_mono ((F _ K2 (ns2 nsG)).go callerA [] s₁ H ⟨[.ref a], []⟩ [.ref a] [.ref a] (fun v _ => v = .bl true) (fun _ _ _ => False) rfl hr en (bind s₁ (.ref a)) (.cons rfl .nil) ⟨a, ns, rfl, sq, hl, fun _ => rfl⟩) fun r s' out => ?_
    match r, out with
    | .error e, out =>
      obtain ⟨_, _, _, _, _, _, _, _, _, _, _, _, z⟩ := out
      exact z.elim
    | .ok .next, out => exact out.elim
    | .ok .brk, out => exact out.elim
    | .ok .cont, out => exact out.elim
    | .ok (.ret u), ⟨v, H', os, bare, un, ok', rv, q⟩ =>
      have q : v = .bl true := q
      subst q
      obtain rfl : u = Value.bool true := rv
      refine ⟨rfl, OldK.of_keep fun b o e => ?_, os, bare⟩
      cases q : H b with
      | none => exact un.keep b o e q (fun z => absurd (show b ∈ ([] : List Addr) from z) (by simp)) (by simp)
      | some u =>
        rcases only b with z | ⟨ob, xs, z⟩
        · rw [q] at z; cases z
        · have e1 := (ok b _ z).1
          have e2 := (ok' b _ (un.frzs b ob _ z)).1
          rw [e] at e1
          cases e1
          exact e2
  cases hk : K.lookup a with
  | some o =>
    have e := inK a o hk
    rw [ha] at e
    cases e
    exact main (fun _ => none) (fun _ => .inl rfl) (.inr ⟨us.toArray, _, hk, by rw [List.size_toArray, cnt]; exact big, by simpa using vals⟩) (fun b u z => nomatch (show (none : Option HO) = some u from z)) (fun b z => absurd rfl z) fun z => absurd rfl z
  | none =>
    have at_ : ∀ b u, (if b = a then some (HO.frz { cls := .type "list", data := .seq us.toArray } (.lst (ns.map V.int))) else none) = some u → b = a ∧ u = HO.frz { cls := .type "list", data := .seq us.toArray } (.lst (ns.map V.int)) := fun b u z => by
      split at z
      · cases z; exact ⟨‹_›, rfl⟩
      · cases z
    refine main (fun b => if b = a then some (.frz { cls := .type "list", data := .seq us.toArray } (.lst (ns.map V.int))) else none) (fun b => ?_) (.inl (.inr ⟨_, if_pos rfl⟩)) (fun b u z => ?_) (fun b z => ?_) fun _ => hk
    · by_cases hb : b = a
      · exact .inr ⟨_, _, if_pos hb⟩
      · exact .inl (if_neg hb)
    · obtain ⟨rfl, rfl⟩ := at_ b u z
      exact ⟨ha, by rw [List.length_map]; exact big, us, _, vals, ha⟩
    · cases e : (if b = a then some (HO.frz { cls := .type "list", data := .seq us.toArray } (.lst (ns.map V.int))) else none) with
      | none => exact absurd e z
      | some u => exact (at_ b u e).1
theorem walk_lawG {l : PySem.W.OpenLaw} {k : Nat} {q : Program} {loose : List Str} {XP : (Str → Option Value) → Heap → Prop} {YP : World → Heap → Prop} {d : DefRec} {K : Params → PySem.W.Frag} {x : Str}
    (hn : l.most = some 63) (hdf : d.params.defaults = []) (hr : Room k callerA)
    (hY : ∀ (w : World) (h : Heap), YP w h → (K w.params).In h)
    (F : ∀ (w : World) (mg : Str → Option Value) (fa : Addr) (h : Heap), (K w.params).In h → h.Ns mainGlobals mg → mg d.name = some (.ref fa) →
      ∃ fd : FuncData, (∀ (s : Shared) (u : Value), BindsTo s fd ⟨[u], []⟩ [(x, u)]) ∧
        ∀ base : Heap, (K w.params).In base → base.Ns mainGlobals mg → FnG l.prog w (K w.params) mg base k fa fd [x] (spLaw ⟨K w.params, mg⟩)) :
    PySem.W.WalkO q loose XP YP l.row.toRowW d [] (fun f vs => PySem.call f vs) := by
  refine Att.attach_call hn hdf fun w s₀ s₁ mg mb fa o pm cd doc a vs ns G Y ho hd hcd hmg hobj hints hlen hg => ?_
  obtain ⟨fd, hb, hF⟩ := F w mg fa _ (hY w _ Y) G.T.g hmg
  exact law_callG (hY w _ Y) G.T.g G.T.b G.T.builtins G.T.nolimit hg hobj hints hlen hr hF hb

/-! ### repr -/
def isRefD : PyData → Bool
  | .list _ => true
  | .tuple _ => true
  | _ => false
theorem noDict_plain : ∀ d : PyData, d.plain = true → d.hasDict = false := by
  intro d
  have key : ∀ n : Nat, (∀ d : PyData, d.depth ≤ n → d.plain = true → d.hasDict = false) := by
    intro n
    induction n with
    | zero => intro d hd; cases d <;> simp [PyData.depth] at hd <;> simp [PyData.hasDict]
    | succ n ih =>
      have all : ∀ ds : List PyData, PyData.depthAll ds ≤ n → PyData.plainAll ds = true → PyData.hasDictAll ds = false := by
        intro ds
        induction ds with
        | nil => intro _ _; simp [PyData.hasDictAll]
        | cons d ds ihd =>
          intro h1 h2
          have h1' : max d.depth (PyData.depthAll ds) ≤ n := by simpa [PyData.depthAll] using h1
          have h2' : d.plain = true ∧ PyData.plainAll ds = true := by simpa [PyData.plainAll] using h2
          have a := ih d (by omega) h2'.1
          have b := ihd (by omega) h2'.2
          simp [PyData.hasDictAll, a, b]
      intro d hd hp
      cases d with
      | list xs => simp only [PyData.hasDict]; exact all xs (by simp [PyData.depth] at hd; omega) (by simpa [PyData.plain] using hp)
      | tuple xs => simp only [PyData.hasDict]; exact all xs (by simp [PyData.depth] at hd; omega) (by simpa [PyData.plain] using hp)
      | dict ks => simp [PyData.plain] at hp
      | none => simp [PyData.hasDict]
      | bool b => simp [PyData.hasDict]
      | int i => simp [PyData.hasDict]
      | str x => simp [PyData.hasDict]
  exact key d.depth d (Nat.le_refl _)
def oRepr : O1 := fun x => if pl x = true ∧ x.showable = true ∧ x.shown.length ≤ sizeLine ∧ isRefD x = true then some (.d (.str x.shown)) else (match x with
  | .int i => if i.natAbs.log2 < 1920 then some (.d (.str (toString i))) else none
  | .bool b => some (.d (.str (if b then "True" else "False")))
  | .none => some (.d (.str "None"))
  | _ => none)
def gRepr : GO1 := fun x Q => ∃ r, oRepr x = some r ∧ Q r
theorem call_reprP {X : Cx} (hg : X.A.guards = some []) (hu : X.A.units + 70 < cLine) : CallR X (.builtin "repr") (rA (Cx.ck X) (g1 gRepr)) := cr_one fun pins s σ H v u S F x Qd Q I ru o rx g p => by
  obtain ⟨r, h, q⟩ := g
  unfold oRepr at h
  split at h
  · rename_i c
    cases h
    obtain ⟨h1, h2, h3, h4⟩ := c
    obtain ⟨as, rd⟩ := Dp.reads I x v u (rx.dp o.sub (pl1 h1)) ru
    have hd := pl2 h1
    have hnd := noDict_plain x (pl1 h1)
    have fin : ∀ b, u = .ref b → wpAny (model X.prog X.w) X.A (call (.builtin "repr") [u]) (EP X pins σ Q) X.xe s := by
      intro b hb
      subst hb
      refine repr_of_reads' rd h2 (fun z => by rw [hnd] at z; cases z) hg (by omega) (fun _ _ e => e) (fun h' t tk hk => ?_) h3
      exact ⟨.str _, H, I.kept (t' := tk) hk, ⟨_, rfl⟩, p.d o (Rp.str _) q⟩
    cases rx with
    | lst _ _ => cases ru; exact fin _ rfl
    | tup _ _ _ => cases ru; exact fin _ rfl
    | _ => cases h4
  · cases rx with
    | int i =>
      simp only at h
      split at h
      · cases h
        obtain ⟨t, rfl⟩ := ru
        exact P.repr_of_int ‹_› ⟨.str _, H, I.tok _, ⟨_, rfl⟩, p.d o (Rp.str _) q⟩
      · cases h
    | bl b =>
      cases h
      cases ru
      exact P.repr_of_bool ⟨.str _, H, I.tok _, ⟨_, rfl⟩, p.d o (Rp.str _) q⟩
    | non =>
      cases h
      cases ru
      exact P.repr_of_none ⟨.str _, H, I.tok _, ⟨_, rfl⟩, p.d o (Rp.str _) q⟩
    | _ => cases h
theorem F_repr {K : Ck} : OpAF K (rA K (g1 gRepr)) (o1A oRepr) := opAF_of opd_rA (o1A_of fun _ _ _ h q => ⟨_, h, q⟩)
end Fx

namespace Pg
open PySem L2 Fx

/-! ### names -/
def slt (a b : Str) : Bool := decide (a.cps.toList < b.cps.toList)
theorem slt_irrefl (a : Str) : slt a a = false := by
  unfold slt
  exact decide_eq_false (List.lt_irrefl _)
theorem slt_trans {a b c : Str} (h1 : slt a b = true) (h2 : slt b c = true) : slt a c = true := by
  unfold slt at *
  exact decide_eq_true (List.lt_trans (of_decide_eq_true h1) (of_decide_eq_true h2))
theorem str_ext {a b : Str} (h : a.cps.toList = b.cps.toList) : a = b := by
  cases a; cases b
  congr
  exact Array.toList_inj.mp h
theorem slt_conn {a b : Str} (h : a ≠ b) : slt a b = true ∨ slt b a = true := by
  unfold slt
  by_cases c : a.cps.toList < b.cps.toList
  · exact .inl (decide_eq_true c)
  · by_cases d : b.cps.toList < a.cps.toList
    · exact .inr (decide_eq_true d)
    · exact absurd (str_ext (List.le_antisymm (List.not_lt.mp d) (List.not_lt.mp c))) h
theorem slt_ne {a b : Str} (h : slt a b = true) : a ≠ b := by
  intro e
  subst e
  rw [slt_irrefl] at h
  cases h
theorem slt_asymm {a b : Str} (h : slt a b = true) : slt b a = false := by
  cases c : slt b a with
  | false => rfl
  | true =>
    have := slt_trans h c
    rw [slt_irrefl] at this
    cases this

/-! ### plans -/
abbrev Plan := List (Str × Int)
def Asc (p : Plan) : Prop := p.Pairwise fun a b => slt a.1 b.1 = true
def get : Plan → Str → Option Int
  | [], _ => none
  | x :: r, n => if x.1 = n then some x.2 else get r n
theorem get_cons (x : Str × Int) (r : Plan) (n : Str) : get (x :: r) n = if x.1 = n then some x.2 else get r n := rfl
theorem get_none {p : Plan} {n : Str} : get p n = none ↔ ∀ x ∈ p, x.1 ≠ n := by
  induction p with
  | nil => simp [get]
  | cons x r ih =>
    rw [get_cons]
    by_cases c : x.1 = n
    · rw [if_pos c]
      constructor
      · intro h; cases h
      · intro h; exact absurd c (h x (by simp))
    · rw [if_neg c, ih]
      constructor
      · intro h y hy
        rcases List.mem_cons.mp hy with rfl | hy
        · exact c
        · exact h y hy
      · intro h y hy; exact h y (by simp [hy])
theorem get_mem {p : Plan} {n : Str} {m : Int} (h : get p n = some m) : (n, m) ∈ p := by
  induction p with
  | nil => cases h
  | cons x r ih =>
    rw [get_cons] at h
    by_cases c : x.1 = n
    · rw [if_pos c] at h
      cases h
      cases c
      simp
    · rw [if_neg c] at h
      simp [ih h]
theorem mem_get {p : Plan} (hn : (p.map (·.1)).Nodup) {n : Str} {m : Int} (h : (n, m) ∈ p) : get p n = some m := by
  induction p with
  | nil => cases h
  | cons x r ih =>
    rw [List.map_cons, List.nodup_cons] at hn
    rw [get_cons]
    rcases List.mem_cons.mp h with h | h
    · subst h; simp
    · have : x.1 ≠ n := fun e => hn.1 (by rw [e]; exact List.mem_map.mpr ⟨_, h, rfl⟩)
      rw [if_neg this]
      exact ih hn.2 h
theorem Asc.nodup {p : Plan} (h : Asc p) : (p.map (·.1)).Nodup := by
  induction p with
  | nil => exact List.nodup_nil
  | cons x r ih =>
    have h' := List.pairwise_cons.mp h
    rw [List.map_cons, List.nodup_cons]
    refine ⟨fun hm => ?_, ih h'.2⟩
    obtain ⟨y, hy, e⟩ := List.mem_map.mp hm
    exact slt_ne (h'.1 y hy) e.symm
theorem Asc.tail {x : Str × Int} {p : Plan} (h : Asc (x :: p)) : Asc p := (List.pairwise_cons.mp h).2
theorem Asc.head {x : Str × Int} {p : Plan} (h : Asc (x :: p)) : ∀ y ∈ p, slt x.1 y.1 = true := (List.pairwise_cons.mp h).1
theorem asc_ext : ∀ {p q : Plan}, Asc p → Asc q → (∀ n, get p n = get q n) → p = q
  | [], [], _, _, _ => rfl
  | [], y :: q, _, _, h => by have := h y.1; simp [get] at this
  | x :: p, [], _, _, h => by have := h x.1; simp [get] at this
  | x :: p, y :: q, hp, hq, h => by
    have e : x.1 = y.1 := by
      by_cases c : x.1 = y.1
      · exact c
      · exfalso
        have h1 := h x.1
        have h2 := h y.1
        simp only [get, if_true, if_neg c, if_neg (Ne.symm c)] at h1 h2
        have m1 := get_mem h1.symm
        have m2 := get_mem h2
        have a1 := hq.head _ m1
        have a2 := hp.head _ m2
        rw [slt_asymm a1] at a2
        cases a2
    have v : x.2 = y.2 := by
      have h1 := h x.1
      simp only [get, if_true, if_pos e.symm] at h1
      exact Option.some.inj h1
    have t : p = q := asc_ext hp.tail hq.tail fun n => by
      by_cases c : x.1 = n
      · have n1 : get p n = none := get_none.mpr fun z hz => fun e2 => slt_ne (hp.head z hz) (c.trans e2.symm)
        have n2 : get q n = none := get_none.mpr fun z hz => fun e2 => slt_ne (hq.head z hz) (e.symm.trans (c.trans e2.symm))
        rw [n1, n2]
      · have h1 := h n
        simp only [get, if_neg c, if_neg (fun z => c (e.trans z))] at h1
        exact h1
    rw [t]
    congr 1
    exact Prod.ext e v

/-! ### put off -/
def putP (p : Plan) (k : Int) : Plan := p.map fun x => (x.1, x.2 + k)
theorem putP_get (p : Plan) (k : Int) (n : Str) : get (putP p k) n = (get p n).map (· + k) := by
  induction p with
  | nil => rfl
  | cons x r ih =>
    show (if x.1 = n then some (x.2 + k) else get (putP r k) n) = _
    rw [get_cons]
    by_cases c : x.1 = n
    · rw [if_pos c, if_pos c]; rfl
    · rw [if_neg c, if_neg c]; exact ih
theorem putP_asc {p : Plan} (h : Asc p) (k : Int) : Asc (putP p k) := by
  unfold Asc putP
  rw [List.pairwise_map]
  exact h
theorem putP_zero (p : Plan) : putP p 0 = p := by
  unfold putP
  have : (fun x : Str × Int => (x.1, x.2 + 0)) = id := by funext x; simp
  rw [this, List.map_id]
theorem putP_putP (p : Plan) (a b : Int) : putP (putP p a) b = putP p (a + b) := by
  unfold putP
  rw [List.map_map]
  congr 1
  funext x
  simp [Int.add_assoc]

/-! ### joined -/
def maxO : Option Int → Option Int → Option Int
  | none, b => b
  | some a, none => some a
  | some a, some b => some (max a b)
def minO : Option Int → Option Int → Option Int
  | some a, some b => some (min a b)
  | _, _ => none
theorem maxO_comm (a b : Option Int) : maxO a b = maxO b a := by cases a <;> cases b <;> simp [maxO, Int.max_comm]
theorem maxO_assoc (a b c : Option Int) : maxO (maxO a b) c = maxO a (maxO b c) := by cases a <;> cases b <;> cases c <;> simp [maxO, Int.max_assoc]
theorem maxO_self (a : Option Int) : maxO a a = a := by cases a <;> simp [maxO]
theorem maxO_none (a : Option Int) : maxO a none = a := by cases a <;> rfl
theorem none_maxO (a : Option Int) : maxO none a = a := by cases a <;> rfl
def insP : Plan → Str × Int → Plan
  | [], y => [y]
  | x :: r, y => if x.1 = y.1 then (x.1, max x.2 y.2) :: r else if slt y.1 x.1 = true then y :: x :: r else x :: insP r y
theorem insP_mem {p : Plan} {y z : Str × Int} (h : z ∈ insP p y) : z.1 = y.1 ∨ z ∈ p := by
  induction p with
  | nil => rw [insP, List.mem_singleton] at h; rw [h]; exact .inl rfl
  | cons x r ih =>
    unfold insP at h
    split at h
    · rename_i c
      rcases List.mem_cons.mp h with h | h
      · rw [h]; exact .inl c
      · exact .inr (by simp [h])
    · split at h
      · rcases List.mem_cons.mp h with h | h
        · rw [h]; exact .inl rfl
        · exact .inr h
      · rcases List.mem_cons.mp h with h | h
        · rw [h]; exact .inr (by simp)
        · exact (ih h).imp id fun h => by simp [h]
theorem insP_asc {p : Plan} (h : Asc p) (y : Str × Int) : Asc (insP p y) := by
  induction p with
  | nil => exact List.pairwise_singleton _ _
  | cons x r ih =>
    unfold insP
    split
    · exact List.pairwise_cons.mpr ⟨h.head, h.tail⟩
    · rename_i c
      split
      · rename_i d
        refine List.pairwise_cons.mpr ⟨fun z hz => ?_, h⟩
        rcases List.mem_cons.mp hz with rfl | hz
        · exact d
        · exact slt_trans d (h.head z hz)
      · rename_i d
        refine List.pairwise_cons.mpr ⟨fun z hz => ?_, ih h.tail⟩
        rcases insP_mem hz with e | hz
        · rw [e]; exact (slt_conn c).resolve_right d
        · exact h.head z hz
theorem insP_get {p : Plan} (h : Asc p) (y : Str × Int) (n : Str) : get (insP p y) n = if y.1 = n then maxO (get p n) (some y.2) else get p n := by
  induction p with
  | nil =>
    show (if y.1 = n then some y.2 else none) = _
    rfl
  | cons x r ih =>
    unfold insP
    split
    · rename_i c
      show (if x.1 = n then some (max x.2 y.2) else get r n) = _
      rw [get_cons]
      by_cases d : x.1 = n
      · rw [if_pos d, if_pos (c.symm.trans d), if_pos d]; rfl
      · rw [if_neg d, if_neg (fun z => d (c.trans z)), if_neg d]
    · rename_i c
      split
      · rename_i d
        show (if y.1 = n then some y.2 else get (x :: r) n) = _
        by_cases e : y.1 = n
        · rw [if_pos e, if_pos e]
          have : get (x :: r) n = none := get_none.mpr fun z hz => by
            rcases List.mem_cons.mp hz with rfl | hz
            · exact fun q => c (q.trans e.symm)
            · exact fun q => slt_ne (slt_trans d (h.head z hz)) (e.trans q.symm)
          rw [this]; rfl
        · rw [if_neg e, if_neg e]
      · show (if x.1 = n then some x.2 else get (insP r y) n) = _
        by_cases e : x.1 = n
        · rw [if_pos e, if_neg (fun z => c (e.trans z.symm))]
          rw [get_cons]
          rw [if_pos e]
        · rw [if_neg e, ih h.tail]
          show _ = if y.1 = n then maxO (if x.1 = n then some x.2 else get r n) (some y.2) else if x.1 = n then some x.2 else get r n
          rw [if_neg e]
def topP (l : Plan) (n : Str) : Option Int := l.foldl (fun o x => if x.1 = n then maxO o (some x.2) else o) none
theorem top_from (l : Plan) (n : Str) : ∀ o, l.foldl (fun o x => if x.1 = n then maxO o (some x.2) else o) o = maxO o (topP l n) := by
  induction l with
  | nil => intro o; exact (maxO_none o).symm
  | cons x r ih =>
    intro o
    show r.foldl _ (if x.1 = n then maxO o (some x.2) else o) = maxO o (r.foldl _ (if x.1 = n then maxO none (some x.2) else none))
    rw [ih, ih]
    by_cases c : x.1 = n
    · rw [if_pos c, if_pos c, ← maxO_assoc, none_maxO]
    · rw [if_neg c, if_neg c, none_maxO]
theorem top_app (l m : Plan) (n : Str) : topP (l ++ m) n = maxO (topP l n) (topP m n) := by
  unfold topP
  rw [List.foldl_append, top_from]
  rfl
theorem top_get {p : Plan} (h : (p.map (·.1)).Nodup) (n : Str) : topP p n = get p n := by
  induction p with
  | nil => rfl
  | cons x r ih =>
    rw [List.map_cons, List.nodup_cons] at h
    show r.foldl _ (if x.1 = n then maxO none (some x.2) else none) = _
    rw [top_from, ih h.2]
    rw [get_cons]
    by_cases c : x.1 = n
    · rw [if_pos c, if_pos c]
      have : get r n = none := get_none.mpr fun z hz e => h.1 (by rw [c, ← e]; exact List.mem_map.mpr ⟨z, hz, rfl⟩)
      rw [this]; rfl
    · rw [if_neg c, if_neg c, none_maxO]
def joinP (ps : List Plan) : Plan := ps.flatten.foldl insP []
theorem ins_fold (l : Plan) : ∀ p, Asc p → Asc (l.foldl insP p) ∧ ∀ n, get (l.foldl insP p) n = maxO (get p n) (topP l n) := by
  induction l with
  | nil => intro p h; exact ⟨h, fun n => (maxO_none _).symm⟩
  | cons x r ih =>
    intro p h
    obtain ⟨h1, h2⟩ := ih (insP p x) (insP_asc h x)
    refine ⟨h1, fun n => ?_⟩
    show get (r.foldl insP (insP p x)) n = maxO (get p n) (r.foldl _ (if x.1 = n then maxO none (some x.2) else none))
    rw [h2, insP_get h, top_from]
    by_cases c : x.1 = n
    · rw [if_pos c, if_pos c, none_maxO, maxO_assoc]
    · rw [if_neg c, if_neg c, none_maxO]
theorem joinP_asc (ps : List Plan) : Asc (joinP ps) := (ins_fold _ [] List.Pairwise.nil).1
theorem joinP_top (ps : List Plan) (n : Str) : get (joinP ps) n = topP ps.flatten n := ((ins_fold _ [] List.Pairwise.nil).2 n).trans (none_maxO _)
theorem joinP_get (ps : List Plan) (h : ∀ p ∈ ps, Asc p) (n : Str) : get (joinP ps) n = ps.foldr (fun p o => maxO (get p n) o) none := by
  rw [joinP_top]
  induction ps with
  | nil => rfl
  | cons p ps ih =>
    rw [List.flatten_cons, top_app, ih fun q hq => h q (by simp [hq]), top_get (h p (by simp)).nodup]
    rfl
theorem joinP_names (ps : List Plan) {x : Str × Int} (h : x ∈ joinP ps) : ∃ p ∈ ps, ∃ y ∈ p, y.1 = x.1 := by
  have h1 := mem_get (joinP_asc ps).nodup (n := x.1) (m := x.2) h
  rw [joinP_top] at h1
  have : ∀ l : Plan, topP l x.1 = some x.2 → ∃ y ∈ l, y.1 = x.1 := by
    intro l hl
    refine Classical.byContradiction fun hno => ?_
    have : ∀ l : Plan, (∀ y ∈ l, y.1 ≠ x.1) → topP l x.1 = none := by
      intro l
      induction l with
      | nil => intro _; rfl
      | cons y r ih =>
        intro hh
        show r.foldl _ (if y.1 = x.1 then maxO none (some y.2) else none) = _
        rw [if_neg (hh y (by simp)), top_from, none_maxO]
        exact ih fun z hz => hh z (by simp [hz])
    rw [this l fun y hy e => hno ⟨y, hy, e⟩] at hl
    cases hl
  obtain ⟨y, hy, e⟩ := this _ h1
  obtain ⟨p, hp, hy⟩ := List.mem_flatten.mp hy
  exact ⟨p, hp, y, hy, e⟩

/-! ### earlier, within, room, normal -/
def earlierP (p q : Plan) : Plan := p.filterMap fun x => (get q x.1).map fun k => (x.1, min x.2 k)
theorem earlier_asc {p : Plan} (h : Asc p) (q : Plan) : Asc (earlierP p q) := by
  unfold Asc earlierP
  rw [List.pairwise_filterMap]
  refine h.imp fun {a b} hab c hc d hd => ?_
  cases e1 : get q a.1 with
  | none => rw [e1] at hc; cases hc
  | some k =>
    cases e2 : get q b.1 with
    | none => rw [e2] at hd; cases hd
    | some l =>
      rw [e1] at hc; rw [e2] at hd
      cases hc; cases hd
      exact hab
theorem earlier_get {p : Plan} (h : (p.map (·.1)).Nodup) (q : Plan) (n : Str) : get (earlierP p q) n = minO (get p n) (get q n) := by
  induction p with
  | nil => rfl
  | cons x r ih =>
    rw [List.map_cons, List.nodup_cons] at h
    unfold earlierP
    rw [List.filterMap_cons]
    cases e : get q x.1 with
    | none =>
      show get (earlierP r q) n = _
      rw [ih h.2]
      rw [get_cons]
      by_cases c : x.1 = n
      · rw [if_pos c]
        have : get r n = none := get_none.mpr fun z hz e => h.1 (by rw [c, ← e]; exact List.mem_map.mpr ⟨z, hz, rfl⟩)
        rw [this, ← c]
        rw [e]; rfl
      · rw [if_neg c]
    | some k =>
      show (if x.1 = n then some (min x.2 k) else get (earlierP r q) n) = _
      rw [ih h.2]
      show _ = minO (if x.1 = n then some x.2 else get r n) (get q n)
      by_cases c : x.1 = n
      · rw [if_pos c, if_pos c, ← c, e]; rfl
      · rw [if_neg c, if_neg c]
theorem earlier_names {p q : Plan} {x : Str × Int} (h : x ∈ earlierP p q) : ∃ y ∈ p, y.1 = x.1 := by
  unfold earlierP at h
  obtain ⟨y, hy, e⟩ := List.mem_filterMap.mp h
  cases e1 : get q y.1 with
  | none => rw [e1] at e; cases e
  | some k => rw [e1] at e; cases e; exact ⟨y, hy, rfl⟩
def okIn (q : Plan) (x : Str × Int) : Bool := match get q x.1 with
  | some k => decide (x.2 ≤ k)
  | none => false
def isIn (p q : Plan) : Bool := p.all (okIn q)
def roomP (p q : Plan) : Option Int := if p = [] ∨ ¬ (p.all fun x => (get q x.1).isSome) = true then none else some (minI (p.map fun x => (get q x.1).getD 0 - x.2))
def lastP (p : Plan) : Int := if p = [] then 0 else maxI (p.map (·.2))
def normalP (p : Plan) : Plan := putP p (-(lastP p))

/-! ### plans as data -/
def pairD (x : Str × Int) : PyData := .tuple [.str x.1, .int x.2]
def planD (p : Plan) : PyData := .tuple (p.map pairD)
def optD : Option Int → PyData
  | none => .none
  | some i => .int i
def letters : Str := "abcdefghijklmnopqrstuvwxyz"
structure OkName (n : Str) : Prop where
  lo : 1 ≤ n.length
  hi : n.length ≤ 6
  al : ∀ c ∈ n.cps.toList, c ∈ letters.cps.toList
/-- words that may be things' names -/
structure Wd (W : List Str) : Prop where
  nm : ∀ n ∈ W, OkName n
  sz : W.length ≤ 1000
/-- a plan over the words W -/
structure Pl (W : List Str) (p : Plan) : Prop where
  w : Wd W
  asc : Asc p
  sub : ∀ x ∈ p, x.1 ∈ W
theorem Pl.nm {W : List Str} {p : Plan} (h : Pl W p) : ∀ x ∈ p, OkName x.1 := fun x hx => h.w.nm _ (h.sub x hx)
theorem nodup_len [DecidableEq α] : ∀ {l W : List α}, l.Nodup → (∀ x ∈ l, x ∈ W) → l.length ≤ W.length
  | [], W, _, _ => Nat.zero_le _
  | x :: l, W, hn, hs => by
    have hx := hs x (by simp)
    have hn' := List.nodup_cons.mp hn
    have := nodup_len (W := W.erase x) hn'.2 fun y hy => (List.mem_erase_of_ne (fun e : y = x => hn'.1 (by rw [← e]; exact hy))).mpr (hs y (by simp [hy]))
    rw [List.length_erase_of_mem hx] at this
    have : 0 < W.length := List.length_pos_of_mem hx
    simp only [List.length_cons]
    omega
theorem Pl.sz {W : List Str} {p : Plan} (h : Pl W p) : p.length ≤ 1000 := by
  have := nodup_len (l := p.map (·.1)) (W := W) h.asc.nodup fun n hn => by
    obtain ⟨x, hx, rfl⟩ := List.mem_map.mp hn
    exact h.sub x hx
  rw [List.length_map] at this
  exact Nat.le_trans this h.w.sz
theorem Pl.zl {W : List Str} {p : Plan} (h : Pl W p) : p.length ≤ sizeLine := Nat.le_trans h.sz (by decide)
theorem Pl.put {W : List Str} {p : Plan} (h : Pl W p) (k : Int) : Pl W (putP p k) := ⟨h.w, putP_asc h.asc k, fun x hx => by
  unfold putP at hx
  obtain ⟨y, hy, rfl⟩ := List.mem_map.mp hx
  exact h.sub y hy⟩
theorem Pl.join {W : List Str} {ps : List Plan} (w : Wd W) (h : ∀ p ∈ ps, Pl W p) : Pl W (joinP ps) := ⟨w, joinP_asc ps, fun x hx => by
  obtain ⟨p, hp, y, hy, e⟩ := joinP_names ps hx
  exact e ▸ (h p hp).sub y hy⟩
theorem Pl.join1 {W : List Str} {p : Plan} (h : Pl W p) : Pl W (joinP [p]) := .join h.w (by simp [h])
theorem Pl.join2 {W : List Str} {p q : Plan} (h : Pl W p) (h' : Pl W q) : Pl W (joinP [p, q]) := .join h.w (by simp [h, h'])
theorem Pl.join3 {W : List Str} {p q r : Plan} (h : Pl W p) (h' : Pl W q) (h'' : Pl W r) : Pl W (joinP [p, q, r]) := .join h.w (by simp [h, h', h''])
theorem Pl.early {W : List Str} {p q : Plan} (h : Pl W p) (h' : Pl W q) : Pl W (earlierP p q) := ⟨h.w, earlier_asc h.asc q, fun x hx => by
  obtain ⟨y, hy, e⟩ := earlier_names hx
  exact e ▸ h.sub y hy⟩
theorem Pl.normal {W : List Str} {p : Plan} (h : Pl W p) : Pl W (normalP p) := h.put _
theorem Pl.nil {W : List Str} (w : Wd W) : Pl W [] := ⟨w, List.Pairwise.nil, by simp⟩
theorem depth_pair (x : Str × Int) : (pairD x).depth ≤ 3 := by simp [pairD, PyData.depth, PyData.depthAll]
theorem plain_pair (x : Str × Int) : (pairD x).plain = true := by simp [pairD, PyData.plain, PyData.plainAll]
theorem plainAll_map {α : Type} (f : α → PyData) : ∀ l : List α, (∀ x ∈ l, (f x).plain = true) → PyData.plainAll (l.map f) = true
  | [], _ => rfl
  | x :: l, h => by
    show ((f x).plain && PyData.plainAll (l.map f)) = true
    rw [h x (by simp), plainAll_map f l fun y hy => h y (by simp [hy])]; rfl
theorem depthAll_map {α : Type} (f : α → PyData) (n : Nat) : ∀ l : List α, (∀ x ∈ l, (f x).depth ≤ n) → PyData.depthAll (l.map f) ≤ n
  | [], _ => Nat.zero_le _
  | x :: l, h => by
    show max (f x).depth (PyData.depthAll (l.map f)) ≤ n
    have h1 := h x (by simp)
    have h2 := depthAll_map f n l fun y hy => h y (by simp [hy])
    omega
theorem plain_plan (p : Plan) : (planD p).plain = true := by
  unfold planD
  rw [PyData.plain]
  exact plainAll_map _ _ fun x _ => plain_pair x
theorem depth_plan (p : Plan) : (planD p).depth ≤ 4 := by
  unfold planD
  rw [PyData.depth]
  have := depthAll_map pairD 3 p fun x _ => depth_pair x
  omega
theorem pl_plan (p : Plan) : pl (planD p) = true := by
  unfold pl
  have := depth_plan p
  rw [plain_plan, decide_eq_true (by omega)]; rfl
theorem pl_str (n : Str) : pl (.str n) = true := by simp [pl, PyData.plain, PyData.depth]
theorem pl_int (n : Int) : pl (.int n) = true := by simp [pl, PyData.plain, PyData.depth]
theorem pl_bool (n : Bool) : pl (.bool n) = true := by simp [pl, PyData.plain, PyData.depth]
theorem eqv_str (a b : Str) : PyData.eqv (.str a) (.str b) = decide (a = b) := by simp only [PyData.eqv]; by_cases c : a = b <;> simp [c]
theorem eqv_int (a b : Int) : PyData.eqv (.int a) (.int b) = decide (a = b) := by simp only [PyData.eqv]; by_cases c : a = b <;> simp [c]
theorem eqv_bool (a b : Bool) : PyData.eqv (.bool a) (.bool b) = decide (a = b) := by cases a <;> cases b <;> simp [PyData.eqv]
theorem eqvAll_map {α : Type} [DecidableEq α] (f : α → PyData) (h : ∀ x y, PyData.eqv (f x) (f y) = decide (x = y)) : ∀ l m : List α, PyData.eqvAll (l.map f) (m.map f) = decide (l = m)
  | [], [] => by simp [PyData.eqvAll]
  | [], y :: m => by simp [PyData.eqvAll]
  | x :: l, [] => by simp [PyData.eqvAll]
  | x :: l, y :: m => by
    show (PyData.eqvAll (f x :: l.map f) (f y :: m.map f)) = _
    rw [PyData.eqvAll, h, eqvAll_map f h l m]
    by_cases c : x = y <;> by_cases d : l = m <;> simp [c, d]
theorem eqv_pair (x y : Str × Int) : PyData.eqv (pairD x) (pairD y) = decide (x = y) := by
  obtain ⟨a, b⟩ := x
  obtain ⟨c, d⟩ := y
  simp only [pairD, PyData.eqv, PyData.eqvAll, Bool.and_true]
  by_cases h : a = c <;> by_cases k : b = d <;> simp [h, k]
theorem eqv_plan (p q : Plan) : PyData.eqv (planD p) (planD q) = decide (p = q) := by
  unfold planD
  rw [PyData.eqv]
  exact eqvAll_map pairD eqv_pair p q

theorem bools_true {α : Type} (l : List α) : boolsD (l.map fun _ => PyData.bool true) = some (l.map fun _ => true) := by
  induction l with
  | nil => rfl
  | cons x l ih => show (boolsD (l.map fun _ => PyData.bool true)).map (true :: ·) = _; rw [ih]; rfl
theorem boolsD_map {α : Type} (f : α → Bool) (l : List α) : boolsD (l.map fun x => PyData.bool (f x)) = some (l.map f) := by
  induction l with
  | nil => rfl
  | cons x l ih => show (boolsD (l.map fun x => PyData.bool (f x))).map (f x :: ·) = _; rw [ih]; rfl
theorem all_true {α : Type} (l : List α) : (l.map fun _ => true).all id = true := by
  induction l with
  | nil => rfl
  | cons x l ih => simpa using ih
/-! ### dicts of plans -/
def kvD (x : Str × Int) : PyData × PyData := (.str x.1, .int x.2)
def setP (p : Plan) (n : Str) (m : Int) : Plan := if (p.any fun x => decide (x.1 = n)) = true then p.map (fun x => if x.1 = n then (x.1, m) else x) else p ++ [(n, m)]
theorem toDK_name (n : Str) : toDK (.str n) = some (.f (.inr n)) := rfl
theorem dget_kv (p : Plan) (n : Str) : dget (p.map kvD) (.f (.inr n)) = (get p n).map .int := by
  induction p with
  | nil => rfl
  | cons x r ih =>
    rw [get_cons]
    by_cases c : x.1 = n
    · rw [if_pos c]
      unfold dget
      rw [List.map_cons, List.find?_cons_of_pos (by simp [kvD, toDK_name, c])]
      rfl
    · rw [if_neg c, ← ih]
      unfold dget
      rw [List.map_cons, List.find?_cons_of_neg (by simp [kvD, toDK_name, c])]
theorem match_kv (p : Plan) (n : Str) : matchK (p.map kvD) (.f (.inr n)) = true := by cases p <;> rfl
theorem dput_kv (p : Plan) (n : Str) (m : Int) : dput (p.map kvD) (.str n) (.f (.inr n)) (.int m) = (setP p n m).map kvD := by
  unfold dput setP
  have e1 : ((p.map kvD).any fun q => decide (toDK q.1 = some (.f (.inr n)))) = (p.any fun x => decide (x.1 = n)) := by
    rw [List.any_map]
    congr 1
    funext x
    simp [kvD, toDK_name]
  rw [e1]
  by_cases c : (p.any fun x => decide (x.1 = n)) = true
  · rw [if_pos c, if_pos c, List.map_map, List.map_map]
    congr 1
    funext x
    by_cases d : x.1 = n
    · simp [kvD, toDK_name, d]
    · simp [kvD, toDK_name, d]
  · rw [if_neg c, if_neg c, List.map_append]
    rfl
theorem setP_get (p : Plan) (n : Str) (m : Int) (k : Str) : get (setP p n m) k = if n = k then some m else get p k := by
  unfold setP
  by_cases c : (p.any fun x => decide (x.1 = n)) = true
  · rw [if_pos c]
    obtain ⟨y, hy, hn⟩ := List.any_eq_true.mp c
    have hn := of_decide_eq_true hn
    have : ∀ p : Plan, (∃ y ∈ p, y.1 = n) ∨ n ≠ k → get (p.map fun x => if x.1 = n then (x.1, m) else x) k = if n = k then some m else get p k := by
      intro p
      induction p with
      | nil =>
        intro h
        have : n ≠ k := h.resolve_left fun ⟨y, hy, _⟩ => by cases hy
        rw [if_neg this]; rfl
      | cons x r ih =>
        intro h
        rw [List.map_cons]
        by_cases d : x.1 = n
        · rw [if_pos d, get_cons]
          by_cases e : n = k
          · rw [if_pos e, if_pos (d.trans e)]
          · rw [if_neg e, if_neg (fun z => e (d.symm.trans z)), get_cons, if_neg (fun z => e (d.symm.trans z)), ih (.inr e), if_neg e]
        · rw [if_neg d, get_cons, get_cons]
          by_cases e : x.1 = k
          · have : n ≠ k := fun z => d (e.trans z.symm)
            rw [if_pos e, if_neg this, if_pos e]
          · rw [if_neg e, if_neg e]
            refine ih (h.imp (fun ⟨y, hy, hz⟩ => ?_) id)
            rcases List.mem_cons.mp hy with rfl | hy
            · exact absurd hz d
            · exact ⟨y, hy, hz⟩
    exact this p (.inl ⟨y, hy, hn⟩)
  · rw [if_neg c]
    have hno : ∀ x ∈ p, x.1 ≠ n := fun x hx e => c (List.any_eq_true.mpr ⟨x, hx, decide_eq_true e⟩)
    clear c
    induction p with
    | nil => rfl
    | cons x r ih =>
      rw [List.cons_append, get_cons, get_cons, ih fun y hy => hno y (by simp [hy])]
      have h1 := hno x (by simp)
      by_cases d : x.1 = k
      · rw [if_pos d, if_pos d, if_neg (fun z => h1 (d.trans z.symm))]
      · rw [if_neg d, if_neg d]
theorem setP_names (p : Plan) (n : Str) (m : Int) (h : (p.map (·.1)).Nodup) : ((setP p n m).map (·.1)).Nodup ∧ (setP p n m).length ≤ p.length + 1 := by
  unfold setP
  by_cases c : (p.any fun x => decide (x.1 = n)) = true
  · rw [if_pos c]
    refine ⟨?_, by rw [List.length_map]; omega⟩
    rw [List.map_map]
    have : ((fun x : Str × Int => x.1) ∘ fun x => if x.1 = n then (x.1, m) else x) = fun x => x.1 := by
      funext x
      by_cases d : x.1 = n <;> simp [d]
    rw [this]
    exact h
  · rw [if_neg c]
    refine ⟨?_, by simp⟩
    rw [List.map_append, List.nodup_append]
    refine ⟨h, by simp, ?_⟩
    rintro a ha b hb rfl
    obtain ⟨x, hx, e⟩ := List.mem_map.mp ha
    simp at hb
    exact c (List.any_eq_true.mpr ⟨x, hx, decide_eq_true (e.trans hb)⟩)
theorem setP_new (p : Plan) (n : Str) (m : Int) (h : ∀ x ∈ p, x.1 ≠ n) : setP p n m = p ++ [(n, m)] := by
  unfold setP
  rw [if_neg]
  intro c
  obtain ⟨x, hx, e⟩ := List.any_eq_true.mp c
  exact h x hx (of_decide_eq_true e)
theorem pairsOf_plan (p : Plan) : pairsOf (p.map pairD) = some (p.map fun x => (.inr x.1, .int x.2)) := by
  induction p with
  | nil => rfl
  | cons x r ih =>
    show (match dkey (.str x.1), pairsOf (r.map pairD) with
      | some q, some l => some ((q, PyData.int x.2) :: l)
      | _, _ => none) = _
    rw [ih]
    rfl
theorem merge_plan : ∀ (p acc : Plan), ((acc ++ p).map (·.1)).Nodup → mergeD (acc.map kvD) (p.map fun x => (.inr x.1, .int x.2)) = (acc ++ p).map kvD
  | [], acc, _ => by simp [mergeD]
  | x :: r, acc, h => by
    show mergeD (dput (acc.map kvD) (.str x.1) (.f (.inr x.1)) (.int x.2)) _ = _
    have hx : ∀ y ∈ acc, y.1 ≠ x.1 := by
      intro y hy e
      rw [List.map_append, List.nodup_append] at h
      exact h.2.2 y.1 (List.mem_map.mpr ⟨y, hy, rfl⟩) x.1 (by simp) e
    rw [dput_kv, setP_new _ _ _ hx, merge_plan r (acc ++ [(x.1, x.2)]) (by simpa using h)]
    simp
theorem dict_plan {p : Plan} (h : Asc p) : mergeD [] (p.map fun x => (.inr x.1, .int x.2)) = p.map kvD := merge_plan p [] (by simpa using h.nodup)

/-! ### sorted items -/
def unpairD : PyData → Str × Int
  | .tuple [.str n, .int m] => (n, m)
  | _ => ("", 0)
theorem alike_pair (x y : Str × Int) : PySem.W.alike (pairD x) (pairD y) = true := by simp [pairD, PySem.W.alike, PySem.W.alikeAll]
theorem lt_pair {x y : Str × Int} (h : x.1 ≠ y.1) : PySem.W.dataLt (pairD x) (pairD y) = slt x.1 y.1 := by
  unfold pairD
  rw [PySem.W.dataLt_tuple, PySem.W.dataLt_all_no (by simp [PySem.W.alike]) (by rw [eqv_str]; exact decide_eq_false h), PySem.W.dataLt_str]
  rfl
theorem sortOk_pairs (q : Plan) : SortOk (q.map pairD) where
  al := fun d hd d' hd' => by
    obtain ⟨x, _, rfl⟩ := List.mem_map.mp hd
    obtain ⟨y, _, rfl⟩ := List.mem_map.mp hd'
    exact alike_pair x y
  so := .inl fun d hd => by
    obtain ⟨x, _, rfl⟩ := List.mem_map.mp hd
    exact ⟨_, _, rfl⟩
  no := by
    induction q with
    | nil => rfl
    | cons x r ih => show (noL (pairD x) && noLA (r.map pairD)) = true; rw [ih]; rfl
  dp := fun d hd => by
    obtain ⟨x, _, rfl⟩ := List.mem_map.mp hd
    have := depth_pair x
    omega
theorem sort_pairs (q : Plan) (hn : (q.map (·.1)).Nodup) : ∃ q' : Plan, sortD (q.map pairD) = q'.map pairD ∧ Asc q' ∧ ∀ n, get q' n = get q n := by
  have hp := List.mergeSort_perm (q.map pairD) (PySem.W.dataLe false id)
  have hs := PySem.W.sort_pairwise (PySem.W.sortLe_total (PyProof.Rows.listOrd PyProof.Rows.itemOrd) false fun b : PyData => PySem.W.keyToks (id b)) (q.map pairD)
  refine ⟨(sortD (q.map pairD)).map unpairD, ?_, ?_, ?_⟩
  · rw [List.map_map]
    have : ∀ d ∈ sortD (q.map pairD), (pairD ∘ unpairD) d = d := fun d hd => by
      obtain ⟨x, _, rfl⟩ := List.mem_map.mp (hp.mem_iff.mp hd)
      rfl
    rw [List.map_congr_left this, List.map_id']
  all_goals
    have perm : ((sortD (q.map pairD)).map unpairD).Perm q := by
      have := hp.map unpairD
      rw [List.map_map] at this
      have e : (unpairD ∘ pairD) = id := rfl
      rw [e, List.map_id] at this
      exact this
    have hn' : (((sortD (q.map pairD)).map unpairD).map (·.1)).Nodup := (perm.map (·.1)).nodup_iff.mpr hn
  · unfold Asc
    rw [List.pairwise_map]
    have hne : (sortD (q.map pairD)).Pairwise fun a b => (unpairD a).1 ≠ (unpairD b).1 := by
      rw [List.map_map] at hn'
      exact List.pairwise_map.mp hn'
    refine (List.Pairwise.and hs hne).imp_of_mem fun {a b} ha hb h => ?_
    obtain ⟨x, _, rfl⟩ := List.mem_map.mp (hp.mem_iff.mp ha)
    obtain ⟨y, _, rfl⟩ := List.mem_map.mp (hp.mem_iff.mp hb)
    have ne : x.1 ≠ y.1 := h.2
    have le : (!PySem.W.dataLt (pairD y) (pairD x)) = true := h.1
    rw [lt_pair (Ne.symm ne)] at le
    show slt x.1 y.1 = true
    refine (slt_conn ne).resolve_right fun z => ?_
    rw [z] at le; cases le
  · intro n
    cases e : get q n with
    | some m => exact mem_get hn' (perm.mem_iff.mpr (get_mem e))
    | none =>
      refine get_none.mpr fun x hx => get_none.mp e x (perm.mem_iff.mp hx)
theorem sort_join (ps : List Plan) (q : Plan) (hn : (q.map (·.1)).Nodup) (h : ∀ n, get q n = topP ps.flatten n) : sortD (q.map pairD) = (joinP ps).map pairD := by
  obtain ⟨q', e, ha, hg⟩ := sort_pairs q hn
  rw [e, asc_ext ha (joinP_asc ps) fun n => by rw [hg, h, joinP_top]]

theorem pairs_kv (q : Plan) : pairsD (q.map kvD) = q.map pairD := by
  unfold pairsD
  rw [List.map_map]
  rfl
theorem get_max (o : Option Int) (m : Int) : (if m > o.getD m then m else o.getD m) = (maxO o (some m)).getD 0 := by
  cases o with
  | none => simp [maxO]
  | some k =>
    simp only [Option.getD_some, maxO]
    split <;> omega
theorem intsD_map {α : Type} (f : α → Int) (l : List α) : intsD (l.map fun x => PyData.int (f x)) = some (l.map f) := by
  induction l with
  | nil => rfl
  | cons x l ih => show (intsD (l.map fun x => PyData.int (f x))).map (f x :: ·) = _; rw [ih]; rfl
end Pg

namespace Pg
open PySem L2 Fx
noncomputable section
def b_is_number : EFs :=
    (fRet (fAndV (fIsi "int" (fVar 0)) (fNotV (fIsi "bool" (fVar 0)))))
def F_is_number : FnSp := fnR 1 1 b_is_number
def b_is_list : EFs :=
    (fRet (fIsi2 "list" "tuple" (fVar 0)))
def F_is_list : FnSp := fnR 1 1 b_is_list
def b_is_name : EFs :=
    (fSeq (fIfS (fOr (fNot (fTest (fIsi "str" (fVar 0)))) (fOr (fTest (fOp oLt (fCB (o1A oLen) (aCons (fVar 0) aNil)) (fC (.int 1)))) (fTest (fOp oGt (fCB (o1A oLen) (aCons (fVar 0) aNil)) (fC (.int 6))))))
    (fRet (fC (.bool false)))
    fNext)
    (fRet (fCB (o1A oAll) (aCons (fLc (iaSeq (fVar 0)) (agName 1) fYes (fOp (oIn false) (fVar 1) (fC (.str "abcdefghijklmnopqrstuvwxyz"))) [1]) aNil))))
def F_is_name : FnSp := fnR 1 2 b_is_name
def b_is_pair : EFs :=
    (fRet (fAndV (fIsi "tuple" (fVar 0)) (fAndV (fOp oEq (fCB (o1A oLen) (aCons (fVar 0) aNil)) (fC (.int 2))) (fAndV (fCall F_is_name (aCons (fOp oIx (fVar 0) (fC (.int 0))) aNil)) (fCall F_is_number (aCons (fOp oIx (fVar 0) (fC (.int 1))) aNil))))))
def F_is_pair : FnSp := fnR 1 1 b_is_pair
def b_are_pairs : EFs :=
    (fSeq (fIfS (fOr (fNot (fTest (fIsi "tuple" (fVar 0)))) (fNot (fTest (fCB (o1A oAll) (aCons (fLc (iaSeq (fVar 0)) (agName 3) fYes (fCall F_is_pair (aCons (fVar 3) aNil)) [3]) aNil)))))
    (fRet (fC (.bool false)))
    fNext)
    (fRet (fCB (o1A oAll) (aCons (fLc (iaZip (aCons (fVar 0) (aCons (fSl (fVar 0) (oS (fC (.int 1))) oN) aNil))) (agTup 2 (agCons (agName 1) (agCons (agName 2) agNil))) fYes (fOp oLt (fOp oIx (fVar 1) (fC (.int 0))) (fOp oIx (fVar 2) (fC (.int 0)))) [1, 2]) aNil))))
def F_are_pairs : FnSp := fnR 1 4 b_are_pairs
def b_need_plan : EFs :=
    (fIfS (fNot (fTest (fCall F_are_pairs (aCons (fVar 0) aNil))))
    fNever
    fNext)
def F_need_plan : FnSp := fnR 1 1 b_need_plan
def b_need_number : EFs :=
    (fIfS (fNot (fTest (fCall F_is_number (aCons (fVar 0) aNil))))
    fNever
    fNext)
def F_need_number : FnSp := fnR 1 1 b_need_number
def b_put_by : EFs :=
    (fRet (fCB (o1A oTuple) (aCons (fLc (iaSeq (fVar 0)) (agTup 2 (agCons (agName 2) (agCons (agName 3) agNil))) fYes (fTup (aCons (fVar 2) (aCons (fOp oAdd (fVar 3) (fVar 1)) aNil))) [2, 3]) aNil)))
def F_put_by : FnSp := fnR 2 4 b_put_by
def b_later : EFs :=
    (fSeq (fDrop (fCall F_need_plan (aCons (fVar 0) aNil)))
    (fSeq (fDrop (fCall F_need_number (aCons (fVar 1) aNil)))
    (fRet (fCall F_put_by (aCons (fVar 0) (aCons (fVar 1) aNil))))))
def F_later : FnSp := fnR 2 2 b_later
def b_join_of : EFs :=
    (fSeq (fSet 1 (fNewD false))
    (fSeq (fFor (iaSeq (fVar 0)) (agName 2)
    (fFor (iaSeq (fVar 2)) (agTup 2 (agCons (agName 3) (agCons (agName 4) agNil)))
    (fPut 1 (fVar 3) (fCB (o2A oMax2) (aCons (fBor 1 (fM "dict" oGet (fVar 1) (aCons (fVar 3) (aCons (fVar 4) aNil)))) (aCons (fVar 4) aNil))))))
    (fFz 1 (fRet (fCB (o1A oTuple) (aCons (fSortIt (fVar 1)) aNil))))))
def F_join_of : FnSp := fnR 1 5 b_join_of
def b_joined : EFs :=
    (fSeq (fIfS (fNot (fTest (fCall F_is_list (aCons (fVar 0) aNil))))
    fNever
    fNext)
    (fSeq (fFor (iaEnumA (aCons (fVar 0) aNil)) (agTup 2 (agCons (agName 1) (agCons (agName 2) agNil)))
    (fIfS (fNot (fTest (fCall F_are_pairs (aCons (fVar 2) aNil))))
    fNever
    fNext))
    (fRet (fCall F_join_of (aCons (fVar 0) aNil)))))
def F_joined : FnSp := fnR 1 3 b_joined
def b_need_two : EFs :=
    (fSeq (fDrop (fCall F_need_plan (aCons (fVar 0) aNil)))
    (fDrop (fCall F_need_plan (aCons (fVar 1) aNil))))
def F_need_two : FnSp := fnR 2 2 b_need_two
def b_earlier_of : EFs :=
    (fSeq (fAsg (fCB (o1A oDict) (aCons (fVar 1) aNil)) (agName 2))
    (fRet (fCB (o1A oTuple) (aCons (fLc (iaSeq (fVar 0)) (agTup 2 (agCons (agName 3) (agCons (agName 4) agNil))) (fTest (fOp (oIn false) (fVar 3) (fVar 2))) (fTup (aCons (fVar 3) (aCons (fCB (o2A oMin2) (aCons (fVar 4) (aCons (fOp oIx (fVar 2) (fVar 3)) aNil))) aNil))) [3, 4]) aNil))))
def F_earlier_of : FnSp := fnR 2 5 b_earlier_of
def b_earlier : EFs :=
    (fSeq (fDrop (fCall F_need_two (aCons (fVar 0) (aCons (fVar 1) aNil))))
    (fRet (fCall F_earlier_of (aCons (fVar 0) (aCons (fVar 1) aNil)))))
def F_earlier : FnSp := fnR 2 2 b_earlier
def b_is_in : EFs :=
    (fSeq (fAsg (fCB (o1A oDict) (aCons (fVar 1) aNil)) (agName 2))
    (fRet (fCB (o1A oAll) (aCons (fLc (iaSeq (fVar 0)) (agTup 2 (agCons (agName 3) (agCons (agName 4) agNil))) fYes (fAndV (fOp (oIn false) (fVar 3) (fVar 2)) (fOp oLe (fVar 4) (fOp oIx (fVar 2) (fVar 3)))) [3, 4]) aNil))))
def F_is_in : FnSp := fnR 2 5 b_is_in
def b_is_within : EFs :=
    (fSeq (fDrop (fCall F_need_two (aCons (fVar 0) (aCons (fVar 1) aNil))))
    (fRet (fCall F_is_in (aCons (fVar 0) (aCons (fVar 1) aNil)))))
def F_is_within : FnSp := fnR 2 2 b_is_within
def b_room_in : EFs :=
    (fSeq (fAsg (fCB (o1A oDict) (aCons (fVar 1) aNil)) (agName 2))
    (fSeq (fIfS (fOr (fTest (fOp oEq (fCB (o1A oLen) (aCons (fVar 0) aNil)) (fC (.int 0)))) (fNot (fTest (fCB (o1A oAll) (aCons (fLc (iaSeq (fVar 0)) (agTup 2 (agCons (agName 3) (agCons (agName 4) agNil))) fYes (fOp (oIn false) (fVar 3) (fVar 2)) [3, 4]) aNil)))))
    (fRet (fC .none))
    fNext)
    (fRet (fCB (o1A oMinL) (aCons (fLc (iaSeq (fVar 0)) (agTup 2 (agCons (agName 3) (agCons (agName 4) agNil))) fYes (fOp oSub (fOp oIx (fVar 2) (fVar 3)) (fVar 4)) [3, 4]) aNil)))))
def F_room_in : FnSp := fnR 2 5 b_room_in
def b_room : EFs :=
    (fSeq (fDrop (fCall F_need_two (aCons (fVar 0) (aCons (fVar 1) aNil))))
    (fRet (fCall F_room_in (aCons (fVar 0) (aCons (fVar 1) aNil)))))
def F_room : FnSp := fnR 2 2 b_room
def b_normal_of : EFs :=
    (fRet (fCall F_put_by (aCons (fVar 0) (aCons (fUn oNeg (fMaxD (fLc (iaSeq (fVar 0)) (agTup 2 (agCons (agName 1) (agCons (agName 2) agNil))) fYes (fVar 2) [1, 2]) (fC (.int 0)))) aNil))))
def F_normal_of : FnSp := fnR 1 3 b_normal_of
def b_normal : EFs :=
    (fSeq (fDrop (fCall F_need_plan (aCons (fVar 0) aNil)))
    (fRet (fCall F_normal_of (aCons (fVar 0) aNil))))
def F_normal : FnSp := fnR 1 1 b_normal
def b__law_draw : EFs :=
    (fSeq (fWhile (fAnd (fTest (fOp oEq (fStRest 0) (fC (.int 0)))) (fStLargeNe 0))
    (fStPop 0))
    (fSeq (fIfS (fTest (fOp oGt (fStRest 0) (fC (.int 0))))
    (fSeq (fAsg (fOp oMod (fCB (o1A oInt) (aCons (fStRest 0) aNil)) (fVar 1)) (agName 5))
    (fSeq (fStPutRest 0 (fOp oDiv (fStRest 0) (fVar 1)))
    (fRetV 5)))
    fNext)
    (fSeq (fAsg (fOp oAdd (fStTurn 0) (fC (.int 1))) (agName 2))
    (fSeq (fStPutTurn 0 (fVar 2))
    (fSeq (fAsg (fIf (fStCellsNe 0) (fStCell 0 (fOp oMod (fCB (o1A oInt) (aCons (fVar 2) aNil)) (fStCellsLen 0))) (fC (.int 0))) (agName 3))
    (fSeq (fAsg (fOp oMod (fCB (o1A oInt) (aCons (fOp oPow (fOp oAdd (fOp oAdd (fOp oMod (fCB (o1A oInt) (aCons (fVar 3) aNil)) (fC (.int 2147483629))) (fOp oMul (fC (.int 48271)) (fVar 2))) (fC (.int 13579))) (fC (.int 3))) aNil)) (fC (.int 2147483647))) (agName 4))
    (fRet (fOp oMod (fCB (o1A oInt) (aCons (fOp oDiv (fOp oMod (fCB (o1A oInt) (aCons (fOp oPow (fOp oAdd (fVar 4) (fOp oMul (fC (.int 99991)) (fVar 2))) (fC (.int 5))) aNil)) (fC (.int 2147483587))) (fC (.int 23))) aNil)) (fVar 1)))))))))
def F__law_draw : FnSp := fnR 2 6 b__law_draw
def b__law_pick : EFs :=
    (fRet (fOp oIx (fVar 1) (fCall F__law_draw (aCons (fVar 0) (aCons (fCB (o1A oLen) (aCons (fVar 1) aNil)) aNil)))))
def F__law_pick : FnSp := fnR 2 2 b__law_pick
def b__law_words : EFs :=
    (fSeq (fPar 2 3 (fC (.str "abcdefghijklmnopqrstuvwxyz")) (fLst aNil))
    (fFz 2 (fSeq (fWhile (fTest (fOp oLt (fBor 3 (fCB (o1A oLen) (aCons (fVar 3) aNil))) (fVar 1)))
    (fSeq (fAsg (fM "str" oJoin (fC (.str "")) (aCons (fLc (iaRng1 (aCons (fOp oAdd (fC (.int 1)) (fCall F__law_draw (aCons (fVar 0) (aCons (fC (.int 6)) aNil)))) aNil)) (agName 7) fYes (fCall F__law_pick (aCons (fVar 0) (aCons (fVar 2) aNil))) [7]) aNil)) (agName 4))
    (fSeq (fAsg (fCall F__law_pick (aCons (fVar 0) (aCons (fLst (aCons (fC (.str "a")) (aCons (fC (.str "b")) (aCons (fC (.str "c")) (aCons (fC (.str "aa")) (aCons (fC (.str "none")) (aCons (fC (.str "things")) (aCons (fC (.str "zzzzzz")) (aCons (fVar 4) (aCons (fVar 4) aNil)))))))))) aNil))) (agName 5))
    (fSeq (fAsg (fOp oAdd (fLst (aCons (fVar 5) aNil)) (fLc (iaSeq (fVar 2)) (agName 8) fYes (fOp oAdd (fSl (fVar 5) oN (oS (fC (.int 5)))) (fVar 8)) [8])) (agName 6))
    (fApp 3 (fOp oIx (fLc (iaSeq (fVar 6)) (agName 9) (fBorT 3 (fTest (fOp (oIn true) (fVar 9) (fVar 3)))) (fVar 9) [9]) (fC (.int 0))))))))
    (fFz 3 (fRet (fCB (o1A oSorted) (aCons (fVar 3) aNil)))))))
def F__law_words : FnSp := fnR 2 10 b__law_words
def b__law_row : EFs :=
    (fSeq (fPar 4 5 (fLst aNil) (fCall F__law_pick (aCons (fVar 0) (aCons (fLst (aCons (fC (.int 0)) (aCons (fC (.int 0)) (aCons (fC (.int 0)) (aCons (fC (.int 0)) (aCons (fC (.int 0)) (aCons (fOp oPow (fC (.int 10)) (fC (.int 9))) aNil))))))) aNil))))
    (fFz 5 (fSeq (fFor (iaSeq (fVar 1)) (agName 3)
    (fIfS (fTest (fOp oGt (fCall F__law_draw (aCons (fVar 0) (aCons (fC (.int 4)) aNil))) (fC (.int 0))))
    (fApp 4 (fTup (aCons (fVar 3) (aCons (fOp oAdd (fOp oSub (fCall F__law_draw (aCons (fVar 0) (aCons (fOp oAdd (fOp oMul (fC (.int 2)) (fVar 2)) (fC (.int 1))) aNil))) (fVar 2)) (fVar 5)) aNil))))
    fNext))
    (fFz 4 (fRet (fCB (o1A oTuple) (aCons (fVar 4) aNil)))))))
def F__law_row : FnSp := fnR 3 6 b__law_row
def b__law_put : EFs :=
    (fRet (fCB (o1A oTuple) (aCons (fLc (iaSeq (fVar 0)) (agTup 2 (agCons (agName 2) (agCons (agName 3) agNil))) fYes (fTup (aCons (fVar 2) (aCons (fOp oAdd (fVar 3) (fVar 1)) aNil))) [2, 3]) aNil)))
def F__law_put : FnSp := fnR 2 4 b__law_put
def b__law_join : EFs :=
    (fSeq (fSet 1 (fNewD false))
    (fSeq (fFor (iaSeq (fVar 0)) (agName 2)
    (fFor (iaSeq (fVar 2)) (agTup 2 (agCons (agName 3) (agCons (agName 4) agNil)))
    (fPut 1 (fVar 3) (fCB (o2A oMax2) (aCons (fBor 1 (fM "dict" oGet (fVar 1) (aCons (fVar 3) (aCons (fVar 4) aNil)))) (aCons (fVar 4) aNil))))))
    (fFz 1 (fRet (fCB (o1A oTuple) (aCons (fSortIt (fVar 1)) aNil))))))
def F__law_join : FnSp := fnR 1 5 b__law_join
def b__law_norm : EFs :=
    (fRet (fIf (fTest (fOp oNe (fVar 0) (fTup aNil))) (fCall F__law_put (aCons (fVar 0) (aCons (fOp oSub (fC (.int 0)) (fCB (o1A oMaxL) (aCons (fLc (iaSeq (fVar 0)) (agTup 2 (agCons (agName 1) (agCons (agName 2) agNil))) fYes (fVar 2) [1, 2]) aNil))) aNil))) (fTup aNil)))
def F__law_norm : FnSp := fnR 1 3 b__law_norm
def b__law_rows : EFs :=
    (fRet (fLc (iaRng1 (aCons (fCall F__law_draw (aCons (fVar 0) (aCons (fOp oAdd (fVar 2) (fC (.int 1))) aNil))) aNil)) (agName 4) fYes (fCall F__law_row (aCons (fVar 0) (aCons (fVar 1) (aCons (fVar 3) aNil)))) [4]))
def F__law_rows : FnSp := fnR 4 5 b__law_rows
def b__law_within : EFs :=
    (fSeq (fAsg (fCB (o1A oDict) (aCons (fVar 1) aNil)) (agName 2))
    (fRet (fOp oEq (fLc (iaSeq (fVar 0)) (agTup 2 (agCons (agName 3) (agCons (agName 4) agNil))) (fOr (fTest (fOp (oIn true) (fVar 3) (fVar 2))) (fTest (fOp oLt (fOp oIx (fVar 2) (fVar 3)) (fVar 4)))) (fVar 3) [3, 4]) (fLst aNil))))
def F__law_within : FnSp := fnR 2 5 b__law_within
def b__law_two_right : EFs :=
    (fSeq (fAsg (fCB (o1A oDict) (aCons (fVar 1) aNil)) (agName 2))
    (fSeq (fAsg (fCB (o1A oTuple) (aCons (fLc (iaSeq (fVar 0)) (agTup 2 (agCons (agName 5) (agCons (agName 6) agNil))) (fTest (fOp (oIn false) (fVar 5) (fVar 2))) (fTup (aCons (fVar 5) (aCons (fCB (o2A oMin2) (aCons (fVar 6) (aCons (fOp oIx (fVar 2) (fVar 5)) aNil))) aNil))) [5, 6]) aNil)) (agName 3))
    (fSeq (fIfS (fOr (fTest (fOp oNe (fCB (o1A oRepr) (aCons (fCall F_earlier (aCons (fVar 0) (aCons (fVar 1) aNil))) aNil)) (fCB (o1A oRepr) (aCons (fVar 3) aNil)))) (fTest (fOp oNe (fCB (o1A oRepr) (aCons (fCall F_is_within (aCons (fVar 0) (aCons (fVar 1) aNil))) aNil)) (fCB (o1A oRepr) (aCons (fCall F__law_within (aCons (fVar 0) (aCons (fVar 1) aNil))) aNil)))))
    (fRet (fC (.bool false)))
    fNext)
    (fSeq (fAsg (fCall F_room (aCons (fVar 0) (aCons (fVar 1) aNil))) (agName 4))
    (fSeq (fIfS (fTest (fOp oIsN (fVar 4) (fC .none)))
    (fRet (fOrV (fOp oEq (fVar 0) (fTup aNil)) (fOp oNe (fLc (iaSeq (fVar 0)) (agTup 2 (agCons (agName 5) (agCons (agName 6) agNil))) (fTest (fOp (oIn true) (fVar 5) (fVar 2))) (fVar 5) [5, 6]) (fLst aNil))))
    fNext)
    (fSeq (fIfS (fOr (fTest (fIsi "bool" (fVar 4))) (fOr (fTest (fOp oEq (fVar 0) (fTup aNil))) (fNot (fTest (fCall F__law_within (aCons (fCall F__law_put (aCons (fVar 0) (aCons (fVar 4) aNil))) (aCons (fVar 1) aNil)))))))
    (fRet (fC (.bool false)))
    fNext)
    (fRet (fAndV (fNotV (fCall F__law_within (aCons (fCall F__law_put (aCons (fVar 0) (aCons (fOp oAdd (fVar 4) (fC (.int 1))) aNil))) (aCons (fVar 1) aNil)))) (fOp oEq (fCallK 0 2 [1, 0] F_room aNil (aCons (fVar 1) (aCons (fVar 0) aNil))) (fVar 4))))))))))
def F__law_two_right : FnSp := fnR 2 7 b__law_two_right
def b_law : EFs :=
    (fSeq (fFor (iaRng1 (aCons (fOp oAdd (fC (.int 6)) (fCB (o2A oMin2) (aCons (fCB (o1A oLen) (aCons (fVar 0) aNil)) (aCons (fC (.int 20)) aNil)))) aNil)) (agName 2)
    (fSeq (fAsg (fCall F__law_words (aCons (fVar 1) (aCons (fOp oAdd (fC (.int 1)) (fCall F__law_draw (aCons (fVar 1) (aCons (fC (.int 5)) aNil)))) aNil))) (agName 3))
    (fSeq (fAsg (fCall F__law_rows (aCons (fVar 1) (aCons (fVar 3) (aCons (fC (.int 6)) (aCons (fCall F__law_pick (aCons (fVar 1) (aCons (fLst (aCons (fC (.int 1)) (aCons (fC (.int 4)) (aCons (fOp oPow (fC (.int 10)) (fC (.int 6))) aNil)))) aNil))) aNil))))) (agName 4))
    (fSeq (fAsg (fOp oAdd (fVar 4) (fLst (aCons (fCB (o1A oTuple) (aCons (fLc (iaSeq (fVar 3)) (agName 10) fYes (fTup (aCons (fVar 10) (aCons (fOp oSub (fOp oPow (fC (.int 10)) (fC (.int 12))) (fCall F__law_draw (aCons (fVar 1) (aCons (fC (.int 99)) aNil)))) aNil))) [10]) aNil)) aNil))) (agName 4))
    (fSeq (fPar 6 7 (fCB (o1A oList) (aCons (fVar 4) aNil)) (fCB (o1A oRepr) (aCons (fVar 4) aNil)))
    (fFz 6 (fSeq (fIfS (fOr (fTest (fOp oNe (fCB (o1A oRepr) (aCons (fCall F_joined (aCons (fVar 6) aNil)) aNil)) (fCB (o1A oRepr) (aCons (fCall F__law_join (aCons (fVar 4) aNil)) aNil)))) (fTest (fOp oNe (fCallK 0 1 [0] F_joined aNil (aCons (fCB (o1A oTuple) (aCons (fVar 6) aNil)) aNil)) (fCall F__law_join (aCons (fVar 4) aNil)))))
    (fRet (fC (.bool false)))
    fNext)
    (fSeq (fFor (iaSeq (fOp oAdd (fVar 4) (fLst (aCons (fTup aNil) aNil)))) (agName 5)
    (fSeq (fAsg (fCall F__law_pick (aCons (fVar 1) (aCons (fLst (aCons (fC (.int 0)) (aCons (fC (.int 1)) (aCons (fUn oNeg (fC (.int 1))) (aCons (fOp oPow (fC (.int 10)) (fC (.int 12))) (aCons (fOp oSub (fC (.int 0)) (fOp oPow (fC (.int 10)) (fC (.int 12)))) (aCons (fCall F__law_draw (aCons (fVar 1) (aCons (fC (.int 99)) aNil))) aNil))))))) aNil))) (agName 8))
    (fSeq (fIfS (fOr (fTest (fOp oNe (fCB (o1A oRepr) (aCons (fCall F_later (aCons (fVar 5) (aCons (fVar 8) aNil))) aNil)) (fCB (o1A oRepr) (aCons (fCall F__law_put (aCons (fVar 5) (aCons (fVar 8) aNil))) aNil)))) (fTest (fOp oNe (fCallK 0 2 [1, 0] F_later aNil (aCons (fVar 8) (aCons (fVar 5) aNil))) (fCall F__law_put (aCons (fVar 5) (aCons (fVar 8) aNil))))))
    (fRet (fC (.bool false)))
    fNext)
    (fSeq (fIfS (fTest (fOp oNe (fCB (o1A oRepr) (aCons (fLst (aCons (fCall F_normal (aCons (fVar 5) aNil)) (aCons (fCallK 0 1 [0] F_normal aNil (aCons (fVar 5) aNil)) aNil))) aNil)) (fCB (o1A oRepr) (aCons (fOp oMul (fLst (aCons (fCall F__law_norm (aCons (fVar 5) aNil)) aNil)) (fC (.int 2))) aNil))))
    (fRet (fC (.bool false)))
    fNext)
    (fFor (iaSeq (fOp oAdd (fSl (fVar 4) oN (oS (fC (.int 3)))) (fLst (aCons (fTup aNil) (aCons (fVar 5) (aCons (fCall F__law_join (aCons (fVar 4) aNil)) aNil)))))) (agName 9)
    (fSeq (fIfS (fOr (fNot (fTest (fCall F__law_two_right (aCons (fVar 5) (aCons (fVar 9) aNil))))) (fTest (fOp oNe (fCallK 0 2 [1, 0] F_earlier aNil (aCons (fVar 9) (aCons (fVar 5) aNil))) (fCall F_earlier (aCons (fVar 5) (aCons (fVar 9) aNil))))))
    (fRet (fC (.bool false)))
    fNext)
    (fIfS (fTest (fOp oNe (fCallK 0 2 [1, 0] F_is_within aNil (aCons (fVar 9) (aCons (fVar 5) aNil))) (fCall F_is_within (aCons (fVar 5) (aCons (fVar 9) aNil)))))
    (fRet (fC (.bool false)))
    fNext)))))))
    (fFz 7 (fIfS (fTest (fOp oNe (fCB (o1A oRepr) (aCons (fVar 6) aNil)) (fVar 7)))
    (fRet (fC (.bool false)))
    fNext))))))))))
    (fRet (fC (.bool true))))
end
end Pg
namespace Pg
open PySem L2 Fx

/-! ### what a def comes to -/
theorem fn_rt {np n : Nat} {b : EFs} {as : List AV} {g g' : Gs} {r : RV} (hl : as.length = np) (h : b (slots n as) g = .ok (.rt r) g') : fnR np n b as g = .ok r g' := by
  unfold fnR; rw [if_pos hl, h]; rfl
theorem fn_nx {np n : Nat} {b : EFs} {as : List AV} {g g' : Gs} {ρ : List SD} (hl : as.length = np) (h : b (slots n as) g = .ok (.nx ρ) g') : fnR np n b as g = .ok (.d .none) g' := by
  unfold fnR; rw [if_pos hl, h]; rfl
theorem sl1 : (1 ≤ sizeLine) = True := eq_true (by decide)
theorem sl2 : (2 ≤ sizeLine) = True := eq_true (by decide)
theorem sl3 : (3 ≤ sizeLine) = True := eq_true (by decide)
theorem sl4 : (4 ≤ sizeLine) = True := eq_true (by decide)
theorem sl5 : (5 ≤ sizeLine) = True := eq_true (by decide)
theorem sl6 : (6 ≤ sizeLine) = True := eq_true (by decide)
theorem sl7 : (7 ≤ sizeLine) = True := eq_true (by decide)
theorem sl8 : (8 ≤ sizeLine) = True := eq_true (by decide)
theorem sl9 : (9 ≤ sizeLine) = True := eq_true (by decide)
theorem sl10 : (10 ≤ sizeLine) = True := eq_true (by decide)
theorem sl11 : (11 ≤ sizeLine) = True := eq_true (by decide)
theorem sl12 : (12 ≤ sizeLine) = True := eq_true (by decide)
theorem sl13 : (13 ≤ sizeLine) = True := eq_true (by decide)
theorem sl14 : (14 ≤ sizeLine) = True := eq_true (by decide)
theorem sl15 : (15 ≤ sizeLine) = True := eq_true (by decide)
theorem sl16 : (16 ≤ sizeLine) = True := eq_true (by decide)
theorem sl17 : (17 ≤ sizeLine) = True := eq_true (by decide)
theorem sl18 : (18 ≤ sizeLine) = True := eq_true (by decide)
theorem sl19 : (19 ≤ sizeLine) = True := eq_true (by decide)
theorem sl20 : (20 ≤ sizeLine) = True := eq_true (by decide)
theorem sl21 : (21 ≤ sizeLine) = True := eq_true (by decide)
theorem sl22 : (22 ≤ sizeLine) = True := eq_true (by decide)
theorem sl23 : (23 ≤ sizeLine) = True := eq_true (by decide)
theorem sl24 : (24 ≤ sizeLine) = True := eq_true (by decide)
theorem sl25 : (25 ≤ sizeLine) = True := eq_true (by decide)
theorem sl26 : (26 ≤ sizeLine) = True := eq_true (by decide)
theorem sl27 : (27 ≤ sizeLine) = True := eq_true (by decide)
theorem sl28 : (28 ≤ sizeLine) = True := eq_true (by decide)
theorem sl29 : (29 ≤ sizeLine) = True := eq_true (by decide)
theorem sl30 : (30 ≤ sizeLine) = True := eq_true (by decide)
theorem R.bind_cg {α β : Type} {m m' : R α} (k : α → Gs → R β) (h : m = m') : m.bind k = m'.bind k := by rw [h]
theorem oLen_str {n : Str} (h : n.length ≤ sizeLine) : oLen (.str n) = some (.d (.int n.length)) := if_pos h
theorem oLen_list (xs : List PyData) : oLen (.list xs) = some (.d (.int xs.length)) := rfl
theorem oLen_tup (xs : List PyData) : oLen (.tuple xs) = some (.d (.int xs.length)) := rfl
theorem oEq_int (a b : Int) : oEq (.int a) (.int b) = some (.d (.bool (decide (a = b)))) := by unfold oEq; rw [if_pos ⟨pl_int a, pl_int b⟩, eqv_int]
theorem oEq_str (a b : Str) : oEq (.str a) (.str b) = some (.d (.bool (decide (a = b)))) := by unfold oEq; rw [if_pos ⟨pl_str a, pl_str b⟩, eqv_str]
theorem oEq_bool (a b : Bool) : oEq (.bool a) (.bool b) = some (.d (.bool (decide (a = b)))) := by unfold oEq; rw [if_pos ⟨pl_bool a, pl_bool b⟩, eqv_bool]
theorem oEq_plan (p q : Plan) : oEq (planD p) (planD q) = some (.d (.bool (decide (p = q)))) := by unfold oEq; rw [if_pos ⟨pl_plan p, pl_plan q⟩, eqv_plan]
theorem oNe_int (a b : Int) : oNe (.int a) (.int b) = some (.d (.bool (decide (a ≠ b)))) := by unfold oNe; rw [if_pos ⟨pl_int a, pl_int b⟩, eqv_int, decide_not]
theorem oNe_str (a b : Str) : oNe (.str a) (.str b) = some (.d (.bool (decide (a ≠ b)))) := by unfold oNe; rw [if_pos ⟨pl_str a, pl_str b⟩, eqv_str, decide_not]
theorem oNe_bool (a b : Bool) : oNe (.bool a) (.bool b) = some (.d (.bool (decide (a ≠ b)))) := by unfold oNe; rw [if_pos ⟨pl_bool a, pl_bool b⟩, eqv_bool, decide_not]
theorem oNe_plan (p q : Plan) : oNe (planD p) (planD q) = some (.d (.bool (decide (p ≠ q)))) := by unfold oNe; rw [if_pos ⟨pl_plan p, pl_plan q⟩, eqv_plan, decide_not]
theorem planD_nil : PyData.tuple [] = planD [] := rfl

theorem is_number_eq (x : PyData) (g : Gs) : F_is_number [.d x] g = .ok (.d (.bool (isD "int" x && !isD "bool" x))) g := by
  refine fn_rt rfl ?_
  unfold b_is_number
  simp only [fVar, fC, fDat, fOp, fUn, fTest, fAnd, fOr, fNot, fAndV, fOrV, fNotV, fIf, aNil, aCons, allDR, allD, fTup, fLst, fCB, fCall, fSeq, fAsg, fSet, fRet, fRetV, fRetN, fIfS, fDrop, fNext, fIsi, fIsi2, fM, fSl, oS, oN, agName, sdRV, R.bind_ok, R.ofO_some, R.stx_ok, rdSD_d, rdSD_o, asDR_d, asDR_nl, asAR_d, asAR_nl, asAR_o, asBR_b, seqO_nx, seqO_rt, o1A_d, o2A_d, asIR_i, rtSD_d, List.getElem?_cons_zero, List.getElem?_cons_succ, List.set_cons_zero, List.set_cons_succ, if_true, if_false, Bool.false_eq_true, reduceIte, Bool.not_true, Bool.not_false, slots, List.map_cons, List.map_nil, avS, List.length_cons, List.length_nil, List.replicate_succ, List.replicate_zero, List.cons_append, List.nil_append, Nat.reduceAdd, Nat.reduceSub, Nat.reduceLeDiff, sl1, sl2, sl3, sl4, sl5, sl6, sl7, sl8, sl9, sl10, sl11, sl12, sl13, sl14, sl15, sl16, sl17, sl18, sl19, sl20, sl21, sl22, sl23, sl24, sl25, sl26, sl27, sl28, sl29, sl30, Nat.zero_le, R.bind_cg, Nat.zero_add, Option.map_some, Option.map_none]
  cases isD "int" x <;> rfl
theorem is_number_int (k : Int) (g : Gs) : F_is_number [.d (.int k)] g = .ok (.d (.bool true)) g := (is_number_eq _ g).trans rfl
theorem is_list_eq (x : PyData) (g : Gs) : F_is_list [.d x] g = .ok (.d (.bool (isD "list" x || isD "tuple" x))) g := by
  refine fn_rt rfl ?_
  unfold b_is_list
  simp only [fVar, fC, fDat, fOp, fUn, fTest, fAnd, fOr, fNot, fAndV, fOrV, fNotV, fIf, aNil, aCons, allDR, allD, fTup, fLst, fCB, fCall, fSeq, fAsg, fSet, fRet, fRetV, fRetN, fIfS, fDrop, fNext, fIsi, fIsi2, fM, fSl, oS, oN, agName, sdRV, R.bind_ok, R.ofO_some, R.stx_ok, rdSD_d, rdSD_o, asDR_d, asDR_nl, asAR_d, asAR_nl, asAR_o, asBR_b, seqO_nx, seqO_rt, o1A_d, o2A_d, asIR_i, rtSD_d, List.getElem?_cons_zero, List.getElem?_cons_succ, List.set_cons_zero, List.set_cons_succ, if_true, if_false, Bool.false_eq_true, reduceIte, Bool.not_true, Bool.not_false, slots, List.map_cons, List.map_nil, avS, List.length_cons, List.length_nil, List.replicate_succ, List.replicate_zero, List.cons_append, List.nil_append, Nat.reduceAdd, Nat.reduceSub, Nat.reduceLeDiff, sl1, sl2, sl3, sl4, sl5, sl6, sl7, sl8, sl9, sl10, sl11, sl12, sl13, sl14, sl15, sl16, sl17, sl18, sl19, sl20, sl21, sl22, sl23, sl24, sl25, sl26, sl27, sl28, sl29, sl30, Nat.zero_le, R.bind_cg, Nat.zero_add, Option.map_some, Option.map_none]
theorem oAll_map {α : Type} (f : α → Bool) (l : List α) : oAll (.list (l.map fun x => .bool (f x))) = some (.d (.bool (l.all f))) := by
  unfold oAll
  simp only [boolsD_map, Option.map_some, List.all_map]
  rfl
def okName (n : Str) : Bool := decide (1 ≤ n.length) && decide (n.length ≤ 6) && n.cps.toList.all fun c => decide (c ∈ letters.cps.toList)
theorem okName_iff (n : Str) : okName n = true ↔ OkName n := by
  unfold okName
  simp only [Bool.and_eq_true, decide_eq_true_eq, List.all_eq_true]
  exact ⟨fun h => ⟨h.1.1, h.1.2, h.2⟩, fun h => ⟨⟨h.lo, h.hi⟩, h.al⟩⟩
theorem is_name_eq (n : Str) (hz : n.length ≤ sizeLine) (g : Gs) : F_is_name [.d (.str n)] g = .ok (.d (.bool (okName n))) g := by
  refine fn_rt rfl ?_
  unfold b_is_name
  have h0 : isD "str" (.str n) = true := rfl
  simp only [fVar, fC, fDat, fOp, fUn, fTest, fAnd, fOr, fNot, fAndV, fOrV, fNotV, fIf, aNil, aCons, allDR, allD, fTup, fLst, fCB, fCall, fSeq, fAsg, fSet, fRet, fRetV, fRetN, fIfS, fDrop, fNext, fIsi, fIsi2, fM, fSl, oS, oN, agName, sdRV, R.bind_ok, R.ofO_some, R.stx_ok, rdSD_d, rdSD_o, asDR_d, asDR_nl, asAR_d, asAR_nl, asAR_o, asBR_b, seqO_nx, seqO_rt, o1A_d, o2A_d, asIR_i, rtSD_d, List.getElem?_cons_zero, List.getElem?_cons_succ, List.set_cons_zero, List.set_cons_succ, if_true, if_false, Bool.false_eq_true, reduceIte, Bool.not_true, Bool.not_false, slots, List.map_cons, List.map_nil, avS, List.length_cons, List.length_nil, List.replicate_succ, List.replicate_zero, List.cons_append, List.nil_append, Nat.reduceAdd, Nat.reduceSub, Nat.reduceLeDiff, sl1, sl2, sl3, sl4, sl5, sl6, sl7, sl8, sl9, sl10, sl11, sl12, sl13, sl14, sl15, sl16, sl17, sl18, sl19, sl20, sl21, sl22, sl23, sl24, sl25, sl26, sl27, sl28, sl29, sl30, Nat.zero_le, R.bind_cg, Nat.zero_add, Option.map_some, Option.map_none, h0, oLen_str hz, oLt, oGt, oCmp]
  by_cases h1 : 1 ≤ n.length
  · rw [decide_eq_false (by omega : ¬ ((n.length : Nat) : Int) < 1)]
    by_cases h2 : n.length ≤ 6
    · rw [decide_eq_false (by omega : ¬ 6 < ((n.length : Nat) : Int))]
      simp only [fVar, fC, fDat, fOp, fUn, fTest, fAnd, fOr, fNot, fAndV, fOrV, fNotV, fIf, aNil, aCons, allDR, allD, fTup, fLst, fCB, fCall, fSeq, fAsg, fSet, fRet, fRetV, fRetN, fIfS, fDrop, fNext, fIsi, fIsi2, fM, fSl, oS, oN, agName, sdRV, R.bind_ok, R.ofO_some, R.stx_ok, rdSD_d, rdSD_o, asDR_d, asDR_nl, asAR_d, asAR_nl, asAR_o, asBR_b, seqO_nx, seqO_rt, o1A_d, o2A_d, asIR_i, rtSD_d, List.getElem?_cons_zero, List.getElem?_cons_succ, List.set_cons_zero, List.set_cons_succ, if_true, if_false, Bool.false_eq_true, reduceIte, Bool.not_true, Bool.not_false, slots, List.map_cons, List.map_nil, avS, List.length_cons, List.length_nil, List.replicate_succ, List.replicate_zero, List.cons_append, List.nil_append, Nat.reduceAdd, Nat.reduceSub, Nat.reduceLeDiff, sl1, sl2, sl3, sl4, sl5, sl6, sl7, sl8, sl9, sl10, sl11, sl12, sl13, sl14, sl15, sl16, sl17, sl18, sl19, sl20, sl21, sl22, sl23, sl24, sl25, sl26, sl27, sl28, sl29, sl30, Nat.zero_le, R.bind_cg, Nat.zero_add, Option.map_some, Option.map_none]
      rw [fLc_map n.cps.toList (fun c => .str ⟨#[c]⟩) (fun c => .bool (false ^^ decide (c ∈ letters.cps.toList))) rfl (fun c hc => ⟨_, rfl, rfl, rfl⟩) hz]
      simp only [fVar, fC, fDat, fOp, fUn, fTest, fAnd, fOr, fNot, fAndV, fOrV, fNotV, fIf, aNil, aCons, allDR, allD, fTup, fLst, fCB, fCall, fSeq, fAsg, fSet, fRet, fRetV, fRetN, fIfS, fDrop, fNext, fIsi, fIsi2, fM, fSl, oS, oN, agName, sdRV, R.bind_ok, R.ofO_some, R.stx_ok, rdSD_d, rdSD_o, asDR_d, asDR_nl, asAR_d, asAR_nl, asAR_o, asBR_b, seqO_nx, seqO_rt, o1A_d, o2A_d, asIR_i, rtSD_d, List.getElem?_cons_zero, List.getElem?_cons_succ, List.set_cons_zero, List.set_cons_succ, if_true, if_false, Bool.false_eq_true, reduceIte, Bool.not_true, Bool.not_false, slots, List.map_cons, List.map_nil, avS, List.length_cons, List.length_nil, List.replicate_succ, List.replicate_zero, List.cons_append, List.nil_append, Nat.reduceAdd, Nat.reduceSub, Nat.reduceLeDiff, sl1, sl2, sl3, sl4, sl5, sl6, sl7, sl8, sl9, sl10, sl11, sl12, sl13, sl14, sl15, sl16, sl17, sl18, sl19, sl20, sl21, sl22, sl23, sl24, sl25, sl26, sl27, sl28, sl29, sl30, Nat.zero_le, R.bind_cg, Nat.zero_add, Option.map_some, Option.map_none]
      rw [oAll_map]
      simp only [fVar, fC, fDat, fOp, fUn, fTest, fAnd, fOr, fNot, fAndV, fOrV, fNotV, fIf, aNil, aCons, allDR, allD, fTup, fLst, fCB, fCall, fSeq, fAsg, fSet, fRet, fRetV, fRetN, fIfS, fDrop, fNext, fIsi, fIsi2, fM, fSl, oS, oN, agName, sdRV, R.bind_ok, R.ofO_some, R.stx_ok, rdSD_d, rdSD_o, asDR_d, asDR_nl, asAR_d, asAR_nl, asAR_o, asBR_b, seqO_nx, seqO_rt, o1A_d, o2A_d, asIR_i, rtSD_d, List.getElem?_cons_zero, List.getElem?_cons_succ, List.set_cons_zero, List.set_cons_succ, if_true, if_false, Bool.false_eq_true, reduceIte, Bool.not_true, Bool.not_false, slots, List.map_cons, List.map_nil, avS, List.length_cons, List.length_nil, List.replicate_succ, List.replicate_zero, List.cons_append, List.nil_append, Nat.reduceAdd, Nat.reduceSub, Nat.reduceLeDiff, sl1, sl2, sl3, sl4, sl5, sl6, sl7, sl8, sl9, sl10, sl11, sl12, sl13, sl14, sl15, sl16, sl17, sl18, sl19, sl20, sl21, sl22, sl23, sl24, sl25, sl26, sl27, sl28, sl29, sl30, Nat.zero_le, R.bind_cg, Nat.zero_add, Option.map_some, Option.map_none]
      unfold okName
      simp only [h1, h2, decide_true, Bool.true_and, Bool.false_xor]
    · rw [decide_eq_true (by omega : 6 < ((n.length : Nat) : Int))]
      unfold okName
      simp only [fVar, fC, fDat, fOp, fUn, fTest, fAnd, fOr, fNot, fAndV, fOrV, fNotV, fIf, aNil, aCons, allDR, allD, fTup, fLst, fCB, fCall, fSeq, fAsg, fSet, fRet, fRetV, fRetN, fIfS, fDrop, fNext, fIsi, fIsi2, fM, fSl, oS, oN, agName, sdRV, R.bind_ok, R.ofO_some, R.stx_ok, rdSD_d, rdSD_o, asDR_d, asDR_nl, asAR_d, asAR_nl, asAR_o, asBR_b, seqO_nx, seqO_rt, o1A_d, o2A_d, asIR_i, rtSD_d, List.getElem?_cons_zero, List.getElem?_cons_succ, List.set_cons_zero, List.set_cons_succ, if_true, if_false, Bool.false_eq_true, reduceIte, Bool.not_true, Bool.not_false, slots, List.map_cons, List.map_nil, avS, List.length_cons, List.length_nil, List.replicate_succ, List.replicate_zero, List.cons_append, List.nil_append, Nat.reduceAdd, Nat.reduceSub, Nat.reduceLeDiff, sl1, sl2, sl3, sl4, sl5, sl6, sl7, sl8, sl9, sl10, sl11, sl12, sl13, sl14, sl15, sl16, sl17, sl18, sl19, sl20, sl21, sl22, sl23, sl24, sl25, sl26, sl27, sl28, sl29, sl30, Nat.zero_le, R.bind_cg, Nat.zero_add, Option.map_some, Option.map_none, h2, decide_false, Bool.and_false, Bool.false_and]
  · rw [decide_eq_true (by omega : ((n.length : Nat) : Int) < 1)]
    unfold okName
    simp only [fVar, fC, fDat, fOp, fUn, fTest, fAnd, fOr, fNot, fAndV, fOrV, fNotV, fIf, aNil, aCons, allDR, allD, fTup, fLst, fCB, fCall, fSeq, fAsg, fSet, fRet, fRetV, fRetN, fIfS, fDrop, fNext, fIsi, fIsi2, fM, fSl, oS, oN, agName, sdRV, R.bind_ok, R.ofO_some, R.stx_ok, rdSD_d, rdSD_o, asDR_d, asDR_nl, asAR_d, asAR_nl, asAR_o, asBR_b, seqO_nx, seqO_rt, o1A_d, o2A_d, asIR_i, rtSD_d, List.getElem?_cons_zero, List.getElem?_cons_succ, List.set_cons_zero, List.set_cons_succ, if_true, if_false, Bool.false_eq_true, reduceIte, Bool.not_true, Bool.not_false, slots, List.map_cons, List.map_nil, avS, List.length_cons, List.length_nil, List.replicate_succ, List.replicate_zero, List.cons_append, List.nil_append, Nat.reduceAdd, Nat.reduceSub, Nat.reduceLeDiff, sl1, sl2, sl3, sl4, sl5, sl6, sl7, sl8, sl9, sl10, sl11, sl12, sl13, sl14, sl15, sl16, sl17, sl18, sl19, sl20, sl21, sl22, sl23, sl24, sl25, sl26, sl27, sl28, sl29, sl30, Nat.zero_le, R.bind_cg, Nat.zero_add, Option.map_some, Option.map_none, h1, decide_false, Bool.false_and]
theorem is_name_ok {n : Str} (h : OkName n) (g : Gs) : F_is_name [.d (.str n)] g = .ok (.d (.bool true)) g := by
  rw [is_name_eq n (Nat.le_trans h.hi (by decide)), (okName_iff n).mpr h]
theorem is_pair_ok {x : Str × Int} (h : OkName x.1) (g : Gs) : F_is_pair [.d (pairD x)] g = .ok (.d (.bool true)) g := by
  refine fn_rt rfl ?_
  unfold b_is_pair
  have h0 : isD "tuple" (pairD x) = true := rfl
  have h1 : oLen (pairD x) = some (.d (.int 2)) := rfl
  have h2 : oIx (pairD x) (.int 0) = some (.d (.str x.1)) := rfl
  have h3 : oIx (pairD x) (.int 1) = some (.d (.int x.2)) := rfl
  simp only [fVar, fC, fDat, fOp, fUn, fTest, fAnd, fOr, fNot, fAndV, fOrV, fNotV, fIf, aNil, aCons, allDR, allD, fTup, fLst, fCB, fCall, fSeq, fAsg, fSet, fRet, fRetV, fRetN, fIfS, fDrop, fNext, fIsi, fIsi2, fM, fSl, oS, oN, agName, sdRV, R.bind_ok, R.ofO_some, R.stx_ok, rdSD_d, rdSD_o, asDR_d, asDR_nl, asAR_d, asAR_nl, asAR_o, asBR_b, seqO_nx, seqO_rt, o1A_d, o2A_d, asIR_i, rtSD_d, List.getElem?_cons_zero, List.getElem?_cons_succ, List.set_cons_zero, List.set_cons_succ, if_true, if_false, Bool.false_eq_true, reduceIte, Bool.not_true, Bool.not_false, slots, List.map_cons, List.map_nil, avS, List.length_cons, List.length_nil, List.replicate_succ, List.replicate_zero, List.cons_append, List.nil_append, Nat.reduceAdd, Nat.reduceSub, Nat.reduceLeDiff, sl1, sl2, sl3, sl4, sl5, sl6, sl7, sl8, sl9, sl10, sl11, sl12, sl13, sl14, sl15, sl16, sl17, sl18, sl19, sl20, sl21, sl22, sl23, sl24, sl25, sl26, sl27, sl28, sl29, sl30, Nat.zero_le, R.bind_cg, Nat.zero_add, Option.map_some, Option.map_none, h0, h1, h2, h3, oEq_int, decide_true, is_name_ok h, is_number_int]
theorem are_pairs_ok {W : List Str} {p : Plan} (h : Pl W p) (g : Gs) : F_are_pairs [.d (planD p)] g = .ok (.d (.bool true)) g := by
  refine fn_rt rfl ?_
  unfold b_are_pairs
  have h0 : isD "tuple" (planD p) = true := rfl
  simp only [fVar, fC, fDat, fOp, fUn, fTest, fAnd, fOr, fNot, fAndV, fOrV, fNotV, fIf, aNil, aCons, allDR, allD, fTup, fLst, fCB, fCall, fSeq, fAsg, fSet, fRet, fRetV, fRetN, fIfS, fDrop, fNext, fIsi, fIsi2, fM, fSl, oS, oN, agName, sdRV, R.bind_ok, R.ofO_some, R.stx_ok, rdSD_d, rdSD_o, asDR_d, asDR_nl, asAR_d, asAR_nl, asAR_o, asBR_b, seqO_nx, seqO_rt, o1A_d, o2A_d, asIR_i, rtSD_d, List.getElem?_cons_zero, List.getElem?_cons_succ, List.set_cons_zero, List.set_cons_succ, if_true, if_false, Bool.false_eq_true, reduceIte, Bool.not_true, Bool.not_false, slots, List.map_cons, List.map_nil, avS, List.length_cons, List.length_nil, List.replicate_succ, List.replicate_zero, List.cons_append, List.nil_append, Nat.reduceAdd, Nat.reduceSub, Nat.reduceLeDiff, sl1, sl2, sl3, sl4, sl5, sl6, sl7, sl8, sl9, sl10, sl11, sl12, sl13, sl14, sl15, sl16, sl17, sl18, sl19, sl20, sl21, sl22, sl23, sl24, sl25, sl26, sl27, sl28, sl29, sl30, Nat.zero_le, R.bind_cg, Nat.zero_add, Option.map_some, Option.map_none, h0]
  rw [fLc_map p pairD (fun _ => .bool true) rfl (fun x hx => ⟨_, rfl, rfl, ?_⟩) h.zl]
  · simp only [fVar, fC, fDat, fOp, fUn, fTest, fAnd, fOr, fNot, fAndV, fOrV, fNotV, fIf, aNil, aCons, allDR, allD, fTup, fLst, fCB, fCall, fSeq, fAsg, fSet, fRet, fRetV, fRetN, fIfS, fDrop, fNext, fIsi, fIsi2, fM, fSl, oS, oN, agName, sdRV, R.bind_ok, R.ofO_some, R.stx_ok, rdSD_d, rdSD_o, asDR_d, asDR_nl, asAR_d, asAR_nl, asAR_o, asBR_b, seqO_nx, seqO_rt, o1A_d, o2A_d, asIR_i, rtSD_d, List.getElem?_cons_zero, List.getElem?_cons_succ, List.set_cons_zero, List.set_cons_succ, if_true, if_false, Bool.false_eq_true, reduceIte, Bool.not_true, Bool.not_false, slots, List.map_cons, List.map_nil, avS, List.length_cons, List.length_nil, List.replicate_succ, List.replicate_zero, List.cons_append, List.nil_append, Nat.reduceAdd, Nat.reduceSub, Nat.reduceLeDiff, sl1, sl2, sl3, sl4, sl5, sl6, sl7, sl8, sl9, sl10, sl11, sl12, sl13, sl14, sl15, sl16, sl17, sl18, sl19, sl20, sl21, sl22, sl23, sl24, sl25, sl26, sl27, sl28, sl29, sl30, Nat.zero_le, R.bind_cg, Nat.zero_add, Option.map_some, Option.map_none, oAll_map (fun _ => true) p, List.all_eq_true, implies_true]
    have ec : cutD (p.map pairD) (some 1) none = (p.drop 1).map pairD := by
      unfold cutD
      rw [List.length_map]
      show (List.drop (min 1 p.length) (p.map pairD)).take (p.length - min 1 p.length) = _
      cases p with
      | nil => rfl
      | cons x r =>
        have : min 1 (x :: r).length = 1 := by simp
        rw [this]
        simp
        exact List.take_of_length_le (by simp)
    have e1 : (p.all fun _ => true) = true := by simp
    simp only [e1, fVar, fC, fDat, fOp, fUn, fTest, fAnd, fOr, fNot, fAndV, fOrV, fNotV, fIf, aNil, aCons, allDR, allD, fTup, fLst, fCB, fCall, fSeq, fAsg, fSet, fRet, fRetV, fRetN, fIfS, fDrop, fNext, fIsi, fIsi2, fM, fSl, oS, oN, agName, sdRV, R.bind_ok, R.ofO_some, R.stx_ok, rdSD_d, rdSD_o, asDR_d, asDR_nl, asAR_d, asAR_nl, asAR_o, asBR_b, seqO_nx, seqO_rt, o1A_d, o2A_d, asIR_i, rtSD_d, List.getElem?_cons_zero, List.getElem?_cons_succ, List.set_cons_zero, List.set_cons_succ, if_true, if_false, Bool.false_eq_true, reduceIte, Bool.not_true, Bool.not_false, slots, List.map_cons, List.map_nil, avS, List.length_cons, List.length_nil, List.replicate_succ, List.replicate_zero, List.cons_append, List.nil_append, Nat.reduceAdd, Nat.reduceSub, Nat.reduceLeDiff, sl1, sl2, sl3, sl4, sl5, sl6, sl7, sl8, sl9, sl10, sl11, sl12, sl13, sl14, sl15, sl16, sl17, sl18, sl19, sl20, sl21, sl22, sl23, sl24, sl25, sl26, sl27, sl28, sl29, sl30, Nat.zero_le, R.bind_cg, Nat.zero_add, Option.map_some, Option.map_none]
    rw [fLc_map (p.zip (p.drop 1)) (fun z => .tuple [pairD z.1, pairD z.2]) (fun z => .bool (slt z.1.1 z.2.1)) ?_ (fun z hz => ⟨_, rfl, rfl, rfl⟩) (by rw [List.length_zip]; exact Nat.le_trans (Nat.min_le_left _ _) h.zl)]
    · simp only [fVar, fC, fDat, fOp, fUn, fTest, fAnd, fOr, fNot, fAndV, fOrV, fNotV, fIf, aNil, aCons, allDR, allD, fTup, fLst, fCB, fCall, fSeq, fAsg, fSet, fRet, fRetV, fRetN, fIfS, fDrop, fNext, fIsi, fIsi2, fM, fSl, oS, oN, agName, sdRV, R.bind_ok, R.ofO_some, R.stx_ok, rdSD_d, rdSD_o, asDR_d, asDR_nl, asAR_d, asAR_nl, asAR_o, asBR_b, seqO_nx, seqO_rt, o1A_d, o2A_d, asIR_i, rtSD_d, List.getElem?_cons_zero, List.getElem?_cons_succ, List.set_cons_zero, List.set_cons_succ, if_true, if_false, Bool.false_eq_true, reduceIte, Bool.not_true, Bool.not_false, slots, List.map_cons, List.map_nil, avS, List.length_cons, List.length_nil, List.replicate_succ, List.replicate_zero, List.cons_append, List.nil_append, Nat.reduceAdd, Nat.reduceSub, Nat.reduceLeDiff, sl1, sl2, sl3, sl4, sl5, sl6, sl7, sl8, sl9, sl10, sl11, sl12, sl13, sl14, sl15, sl16, sl17, sl18, sl19, sl20, sl21, sl22, sl23, sl24, sl25, sl26, sl27, sl28, sl29, sl30, Nat.zero_le, R.bind_cg, Nat.zero_add, Option.map_some, Option.map_none, oAll_map]
      rw [List.all_eq_true.mpr]
      intro y hy
      have hp := h.asc
      clear ec h h0 e1
      induction p with
      | nil => cases hy
      | cons x r ih =>
        cases r with
        | nil => cases hy
        | cons w r =>
          have hy' : y = (x, w) ∨ y ∈ (w :: r).zip r := List.mem_cons.mp hy
          rcases hy' with rfl | hy'
          · exact hp.head w (by simp)
          · exact ih hy' hp.tail
    · have e2 : oSl (planD p) (some 1) none = some (.d (.tuple ((p.drop 1).map pairD))) := by
        show some (RV.d (.tuple (cutD (p.map pairD) (some 1) none))) = _
        rw [ec]
      simp only [iaZip, iaB, fVar, fC, fDat, fOp, fUn, fTest, fAnd, fOr, fNot, fAndV, fOrV, fNotV, fIf, aNil, aCons, allDR, allD, fTup, fLst, fCB, fCall, fSeq, fAsg, fSet, fRet, fRetV, fRetN, fIfS, fDrop, fNext, fIsi, fIsi2, fM, fSl, oS, oN, agName, sdRV, R.bind_ok, R.ofO_some, R.stx_ok, rdSD_d, rdSD_o, asDR_d, asDR_nl, asAR_d, asAR_nl, asAR_o, asBR_b, seqO_nx, seqO_rt, o1A_d, o2A_d, asIR_i, rtSD_d, List.getElem?_cons_zero, List.getElem?_cons_succ, List.set_cons_zero, List.set_cons_succ, if_true, if_false, Bool.false_eq_true, reduceIte, Bool.not_true, Bool.not_false, slots, List.map_cons, List.map_nil, avS, List.length_cons, List.length_nil, List.replicate_succ, List.replicate_zero, List.cons_append, List.nil_append, Nat.reduceAdd, Nat.reduceSub, Nat.reduceLeDiff, sl1, sl2, sl3, sl4, sl5, sl6, sl7, sl8, sl9, sl10, sl11, sl12, sl13, sl14, sl15, sl16, sl17, sl18, sl19, sl20, sl21, sl22, sl23, sl24, sl25, sl26, sl27, sl28, sl29, sl30, Nat.zero_le, R.bind_cg, Nat.zero_add, Option.map_some, Option.map_none, e2]
      unfold oZip
      simp only [fVar, fC, fDat, fOp, fUn, fTest, fAnd, fOr, fNot, fAndV, fOrV, fNotV, fIf, aNil, aCons, allDR, allD, fTup, fLst, fCB, fCall, fSeq, fAsg, fSet, fRet, fRetV, fRetN, fIfS, fDrop, fNext, fIsi, fIsi2, fM, fSl, oS, oN, agName, sdRV, R.bind_ok, R.ofO_some, R.stx_ok, rdSD_d, rdSD_o, asDR_d, asDR_nl, asAR_d, asAR_nl, asAR_o, asBR_b, seqO_nx, seqO_rt, o1A_d, o2A_d, asIR_i, rtSD_d, List.getElem?_cons_zero, List.getElem?_cons_succ, List.set_cons_zero, List.set_cons_succ, if_true, if_false, Bool.false_eq_true, reduceIte, Bool.not_true, Bool.not_false, slots, List.map_cons, List.map_nil, avS, List.length_cons, List.length_nil, List.replicate_succ, List.replicate_zero, List.cons_append, List.nil_append, Nat.reduceAdd, Nat.reduceSub, Nat.reduceLeDiff, sl1, sl2, sl3, sl4, sl5, sl6, sl7, sl8, sl9, sl10, sl11, sl12, sl13, sl14, sl15, sl16, sl17, sl18, sl19, sl20, sl21, sl22, sl23, sl24, sl25, sl26, sl27, sl28, sl29, sl30, Nat.zero_le, R.bind_cg, Nat.zero_add, Option.map_some, Option.map_none]
      show R.ofO (some (((p.map pairD).zip ((p.drop 1).map pairD)).map _)) g = _
      rw [List.zip_map, List.map_map]
      rfl
  · simp only [fVar, fC, fDat, fOp, fUn, fTest, fAnd, fOr, fNot, fAndV, fOrV, fNotV, fIf, aNil, aCons, allDR, allD, fTup, fLst, fCB, fCall, fSeq, fAsg, fSet, fRet, fRetV, fRetN, fIfS, fDrop, fNext, fIsi, fIsi2, fM, fSl, oS, oN, agName, sdRV, R.bind_ok, R.ofO_some, R.stx_ok, rdSD_d, rdSD_o, asDR_d, asDR_nl, asAR_d, asAR_nl, asAR_o, asBR_b, seqO_nx, seqO_rt, o1A_d, o2A_d, asIR_i, rtSD_d, List.getElem?_cons_zero, List.getElem?_cons_succ, List.set_cons_zero, List.set_cons_succ, if_true, if_false, Bool.false_eq_true, reduceIte, Bool.not_true, Bool.not_false, slots, List.map_cons, List.map_nil, avS, List.length_cons, List.length_nil, List.replicate_succ, List.replicate_zero, List.cons_append, List.nil_append, Nat.reduceAdd, Nat.reduceSub, Nat.reduceLeDiff, sl1, sl2, sl3, sl4, sl5, sl6, sl7, sl8, sl9, sl10, sl11, sl12, sl13, sl14, sl15, sl16, sl17, sl18, sl19, sl20, sl21, sl22, sl23, sl24, sl25, sl26, sl27, sl28, sl29, sl30, Nat.zero_le, R.bind_cg, Nat.zero_add, Option.map_some, Option.map_none, wipeD, is_pair_ok (h.nm x hx)]
theorem need_plan_ok {W : List Str} {p : Plan} (h : Pl W p) (g : Gs) : F_need_plan [.d (planD p)] g = .ok (.d .none) g := by
  refine fn_nx (ρ := [.d (planD p)]) rfl ?_
  unfold b_need_plan
  simp only [fVar, fC, fDat, fOp, fUn, fTest, fAnd, fOr, fNot, fAndV, fOrV, fNotV, fIf, aNil, aCons, allDR, allD, fTup, fLst, fCB, fCall, fSeq, fAsg, fSet, fRet, fRetV, fRetN, fIfS, fDrop, fNext, fIsi, fIsi2, fM, fSl, oS, oN, agName, sdRV, R.bind_ok, R.ofO_some, R.stx_ok, rdSD_d, rdSD_o, asDR_d, asDR_nl, asAR_d, asAR_nl, asAR_o, asBR_b, seqO_nx, seqO_rt, o1A_d, o2A_d, asIR_i, rtSD_d, List.getElem?_cons_zero, List.getElem?_cons_succ, List.set_cons_zero, List.set_cons_succ, if_true, if_false, Bool.false_eq_true, reduceIte, Bool.not_true, Bool.not_false, slots, List.map_cons, List.map_nil, avS, List.length_cons, List.length_nil, List.replicate_succ, List.replicate_zero, List.cons_append, List.nil_append, Nat.reduceAdd, Nat.reduceSub, Nat.reduceLeDiff, sl1, sl2, sl3, sl4, sl5, sl6, sl7, sl8, sl9, sl10, sl11, sl12, sl13, sl14, sl15, sl16, sl17, sl18, sl19, sl20, sl21, sl22, sl23, sl24, sl25, sl26, sl27, sl28, sl29, sl30, Nat.zero_le, R.bind_cg, Nat.zero_add, Option.map_some, Option.map_none, are_pairs_ok h]
theorem need_number_ok (k : Int) (g : Gs) : F_need_number [.d (.int k)] g = .ok (.d .none) g := by
  refine fn_nx (ρ := [.d (.int k)]) rfl ?_
  unfold b_need_number
  simp only [fVar, fC, fDat, fOp, fUn, fTest, fAnd, fOr, fNot, fAndV, fOrV, fNotV, fIf, aNil, aCons, allDR, allD, fTup, fLst, fCB, fCall, fSeq, fAsg, fSet, fRet, fRetV, fRetN, fIfS, fDrop, fNext, fIsi, fIsi2, fM, fSl, oS, oN, agName, sdRV, R.bind_ok, R.ofO_some, R.stx_ok, rdSD_d, rdSD_o, asDR_d, asDR_nl, asAR_d, asAR_nl, asAR_o, asBR_b, seqO_nx, seqO_rt, o1A_d, o2A_d, asIR_i, rtSD_d, List.getElem?_cons_zero, List.getElem?_cons_succ, List.set_cons_zero, List.set_cons_succ, if_true, if_false, Bool.false_eq_true, reduceIte, Bool.not_true, Bool.not_false, slots, List.map_cons, List.map_nil, avS, List.length_cons, List.length_nil, List.replicate_succ, List.replicate_zero, List.cons_append, List.nil_append, Nat.reduceAdd, Nat.reduceSub, Nat.reduceLeDiff, sl1, sl2, sl3, sl4, sl5, sl6, sl7, sl8, sl9, sl10, sl11, sl12, sl13, sl14, sl15, sl16, sl17, sl18, sl19, sl20, sl21, sl22, sl23, sl24, sl25, sl26, sl27, sl28, sl29, sl30, Nat.zero_le, R.bind_cg, Nat.zero_add, Option.map_some, Option.map_none, is_number_int]
theorem put_by_eq {W : List Str} {p : Plan} (h : Pl W p) (k : Int) (g : Gs) : F_put_by [.d (planD p), .d (.int k)] g = .ok (.d (planD (putP p k))) g := by
  refine fn_rt rfl ?_
  unfold b_put_by
  simp only [fVar, fC, fDat, fOp, fUn, fTest, fAnd, fOr, fNot, fAndV, fOrV, fNotV, fIf, aNil, aCons, allDR, allD, fTup, fLst, fCB, fCall, fSeq, fAsg, fSet, fRet, fRetV, fRetN, fIfS, fDrop, fNext, fIsi, fIsi2, fM, fSl, oS, oN, agName, sdRV, R.bind_ok, R.ofO_some, R.stx_ok, rdSD_d, rdSD_o, asDR_d, asDR_nl, asAR_d, asAR_nl, asAR_o, asBR_b, seqO_nx, seqO_rt, o1A_d, o2A_d, asIR_i, rtSD_d, List.getElem?_cons_zero, List.getElem?_cons_succ, List.set_cons_zero, List.set_cons_succ, if_true, if_false, Bool.false_eq_true, reduceIte, Bool.not_true, Bool.not_false, slots, List.map_cons, List.map_nil, avS, List.length_cons, List.length_nil, List.replicate_succ, List.replicate_zero, List.cons_append, List.nil_append, Nat.reduceAdd, Nat.reduceSub, Nat.reduceLeDiff, sl1, sl2, sl3, sl4, sl5, sl6, sl7, sl8, sl9, sl10, sl11, sl12, sl13, sl14, sl15, sl16, sl17, sl18, sl19, sl20, sl21, sl22, sl23, sl24, sl25, sl26, sl27, sl28, sl29, sl30, Nat.zero_le, R.bind_cg, Nat.zero_add, Option.map_some, Option.map_none]
  rw [fLc_map p pairD (fun x => pairD (x.1, x.2 + k)) rfl (fun x hx => ⟨_, rfl, rfl, ?_⟩) h.zl]
  · simp only [fVar, fC, fDat, fOp, fUn, fTest, fAnd, fOr, fNot, fAndV, fOrV, fNotV, fIf, aNil, aCons, allDR, allD, fTup, fLst, fCB, fCall, fSeq, fAsg, fSet, fRet, fRetV, fRetN, fIfS, fDrop, fNext, fIsi, fIsi2, fM, fSl, oS, oN, agName, sdRV, R.bind_ok, R.ofO_some, R.stx_ok, rdSD_d, rdSD_o, asDR_d, asDR_nl, asAR_d, asAR_nl, asAR_o, asBR_b, seqO_nx, seqO_rt, o1A_d, o2A_d, asIR_i, rtSD_d, List.getElem?_cons_zero, List.getElem?_cons_succ, List.set_cons_zero, List.set_cons_succ, if_true, if_false, Bool.false_eq_true, reduceIte, Bool.not_true, Bool.not_false, slots, List.map_cons, List.map_nil, avS, List.length_cons, List.length_nil, List.replicate_succ, List.replicate_zero, List.cons_append, List.nil_append, Nat.reduceAdd, Nat.reduceSub, Nat.reduceLeDiff, sl1, sl2, sl3, sl4, sl5, sl6, sl7, sl8, sl9, sl10, sl11, sl12, sl13, sl14, sl15, sl16, sl17, sl18, sl19, sl20, sl21, sl22, sl23, sl24, sl25, sl26, sl27, sl28, sl29, sl30, Nat.zero_le, R.bind_cg, Nat.zero_add, Option.map_some, Option.map_none, oTuple]
    unfold putP planD
    rw [List.map_map]
    rfl
  · simp only [fVar, fC, fDat, fOp, fUn, fTest, fAnd, fOr, fNot, fAndV, fOrV, fNotV, fIf, aNil, aCons, allDR, allD, fTup, fLst, fCB, fCall, fSeq, fAsg, fSet, fRet, fRetV, fRetN, fIfS, fDrop, fNext, fIsi, fIsi2, fM, fSl, oS, oN, agName, sdRV, R.bind_ok, R.ofO_some, R.stx_ok, rdSD_d, rdSD_o, asDR_d, asDR_nl, asAR_d, asAR_nl, asAR_o, asBR_b, seqO_nx, seqO_rt, o1A_d, o2A_d, asIR_i, rtSD_d, List.getElem?_cons_zero, List.getElem?_cons_succ, List.set_cons_zero, List.set_cons_succ, if_true, if_false, Bool.false_eq_true, reduceIte, Bool.not_true, Bool.not_false, slots, List.map_cons, List.map_nil, avS, List.length_cons, List.length_nil, List.replicate_succ, List.replicate_zero, List.cons_append, List.nil_append, Nat.reduceAdd, Nat.reduceSub, Nat.reduceLeDiff, sl1, sl2, sl3, sl4, sl5, sl6, sl7, sl8, sl9, sl10, sl11, sl12, sl13, sl14, sl15, sl16, sl17, sl18, sl19, sl20, sl21, sl22, sl23, sl24, sl25, sl26, sl27, sl28, sl29, sl30, Nat.zero_le, R.bind_cg, Nat.zero_add, Option.map_some, Option.map_none, wipeD, oAdd]
    rfl
theorem later_eq {W : List Str} {p : Plan} (h : Pl W p) (k : Int) (g : Gs) : F_later [.d (planD p), .d (.int k)] g = .ok (.d (planD (putP p k))) g := by
  refine fn_rt rfl ?_
  unfold b_later
  simp only [fVar, fC, fDat, fOp, fUn, fTest, fAnd, fOr, fNot, fAndV, fOrV, fNotV, fIf, aNil, aCons, allDR, allD, fTup, fLst, fCB, fCall, fSeq, fAsg, fSet, fRet, fRetV, fRetN, fIfS, fDrop, fNext, fIsi, fIsi2, fM, fSl, oS, oN, agName, sdRV, R.bind_ok, R.ofO_some, R.stx_ok, rdSD_d, rdSD_o, asDR_d, asDR_nl, asAR_d, asAR_nl, asAR_o, asBR_b, seqO_nx, seqO_rt, o1A_d, o2A_d, asIR_i, rtSD_d, List.getElem?_cons_zero, List.getElem?_cons_succ, List.set_cons_zero, List.set_cons_succ, if_true, if_false, Bool.false_eq_true, reduceIte, Bool.not_true, Bool.not_false, slots, List.map_cons, List.map_nil, avS, List.length_cons, List.length_nil, List.replicate_succ, List.replicate_zero, List.cons_append, List.nil_append, Nat.reduceAdd, Nat.reduceSub, Nat.reduceLeDiff, sl1, sl2, sl3, sl4, sl5, sl6, sl7, sl8, sl9, sl10, sl11, sl12, sl13, sl14, sl15, sl16, sl17, sl18, sl19, sl20, sl21, sl22, sl23, sl24, sl25, sl26, sl27, sl28, sl29, sl30, Nat.zero_le, R.bind_cg, Nat.zero_add, Option.map_some, Option.map_none, need_plan_ok h, need_number_ok, put_by_eq h]
theorem need_two_ok {W W' : List Str} {p q : Plan} (h : Pl W p) (h' : Pl W' q) (g : Gs) : F_need_two [.d (planD p), .d (planD q)] g = .ok (.d .none) g := by
  refine fn_nx (ρ := [.d (planD p), .d (planD q)]) rfl ?_
  unfold b_need_two
  simp only [fVar, fC, fDat, fOp, fUn, fTest, fAnd, fOr, fNot, fAndV, fOrV, fNotV, fIf, aNil, aCons, allDR, allD, fTup, fLst, fCB, fCall, fSeq, fAsg, fSet, fRet, fRetV, fRetN, fIfS, fDrop, fNext, fIsi, fIsi2, fM, fSl, oS, oN, agName, sdRV, R.bind_ok, R.ofO_some, R.stx_ok, rdSD_d, rdSD_o, asDR_d, asDR_nl, asAR_d, asAR_nl, asAR_o, asBR_b, seqO_nx, seqO_rt, o1A_d, o2A_d, asIR_i, rtSD_d, List.getElem?_cons_zero, List.getElem?_cons_succ, List.set_cons_zero, List.set_cons_succ, if_true, if_false, Bool.false_eq_true, reduceIte, Bool.not_true, Bool.not_false, slots, List.map_cons, List.map_nil, avS, List.length_cons, List.length_nil, List.replicate_succ, List.replicate_zero, List.cons_append, List.nil_append, Nat.reduceAdd, Nat.reduceSub, Nat.reduceLeDiff, sl1, sl2, sl3, sl4, sl5, sl6, sl7, sl8, sl9, sl10, sl11, sl12, sl13, sl14, sl15, sl16, sl17, sl18, sl19, sl20, sl21, sl22, sl23, sl24, sl25, sl26, sl27, sl28, sl29, sl30, Nat.zero_le, R.bind_cg, Nat.zero_add, Option.map_some, Option.map_none, need_plan_ok h, need_plan_ok h']
end Pg

namespace Pg
open PySem L2 Fx
theorem join_inner (s0 s2 : SD) (g : Gs) : ∀ (r q : Plan) (s3 s4 : SD), (q.map (·.1)).Nodup → q.length + r.length < sizeLine →
    ∃ (q' : Plan) (t3 t4 : SD), forR (agTup 2 (agCons (agName 3) (agCons (agName 4) agNil))) (fPut 1 (fVar 3) (fCB (o2A oMax2) (aCons (fBor 1 (fM "dict" oGet (fVar 1) (aCons (fVar 3) (aCons (fVar 4) aNil)))) (aCons (fVar 4) aNil))))
      (r.map pairD) [s0, .dic false (q.map kvD), s2, s3, s4] g = .ok (.nx [s0, .dic false (q'.map kvD), s2, t3, t4]) g ∧ (q'.map (·.1)).Nodup ∧ (∀ n, get q' n = maxO (get q n) (topP r n)) ∧ q'.length ≤ q.length + r.length
  | [], q, s3, s4, hn, hz => ⟨q, s3, s4, rfl, hn, fun n => (maxO_none _).symm, Nat.le_add_right _ _⟩
  | x :: r, q, s3, s4, hn, hz => by
    have e : (dget (q.map kvD) (.f (.inr x.1))).getD (.int x.2) = .int ((get q x.1).getD x.2) := by
      rw [dget_kv]
      cases get q x.1 <;> rfl
    have hz' : q.length + (r.length + 1) < sizeLine := hz
    obtain ⟨n1, n2⟩ := setP_names q x.1 (if x.2 > (get q x.1).getD x.2 then x.2 else (get q x.1).getD x.2) hn
    obtain ⟨q', t3, t4, h1, h2, h3, h4⟩ := join_inner s0 s2 g r _ (.d (.str x.1)) (.d (.int x.2)) n1 (by omega)
    refine ⟨q', t3, t4, ?_, h2, fun n => ?_, by show q'.length ≤ q.length + (r.length + 1); omega⟩
    · have e0 : agTup 2 (agCons (agName 3) (agCons (agName 4) agNil)) (pairD x) [s0, .dic false (q.map kvD), s2, s3, s4] = some [s0, .dic false (q.map kvD), s2, .d (.str x.1), .d (.int x.2)] := rfl
      have eg : oGet (.dict (q.map kvD)) [.d (.str x.1), .d (.int x.2)] = some (.d (.int ((get q x.1).getD x.2))) := by
        show (if matchK (q.map kvD) (.f (.inr x.1)) = true then some (RV.d ((dget (q.map kvD) (.f (.inr x.1))).getD (.int x.2))) else none) = _
        rw [if_pos (match_kv _ _), e]
      have eb : fBor 1 (fM "dict" oGet (fVar 1) (aCons (fVar 3) (aCons (fVar 4) aNil))) [s0, .dic false (q.map kvD), s2, .d (.str x.1), .d (.int x.2)] g = .ok (.d (.int ((get q x.1).getD x.2))) g := by
        unfold fBor
        have : fzSD ([s0, SD.dic false (q.map kvD), s2, .d (.str x.1), .d (.int x.2)][1]?) = some (some (.d (.dict (q.map kvD)))) := rfl
        rw [this]
        have ht : tyD (.dict (q.map kvD)) = "dict" := by cases q <;> rfl
        simp only [fVar, fC, fDat, fOp, fUn, fTest, fAnd, fOr, fNot, fAndV, fOrV, fNotV, fIf, aNil, aCons, allDR, allD, fTup, fLst, fCB, fCall, fSeq, fAsg, fSet, fRet, fRetV, fRetN, fIfS, fDrop, fNext, fIsi, fIsi2, fM, fSl, oS, oN, agName, sdRV, R.bind_ok, R.ofO_some, R.stx_ok, rdSD_d, rdSD_o, asDR_d, asDR_nl, asAR_d, asAR_nl, asAR_o, asBR_b, seqO_nx, seqO_rt, o1A_d, o2A_d, asIR_i, rtSD_d, List.getElem?_cons_zero, List.getElem?_cons_succ, List.set_cons_zero, List.set_cons_succ, if_true, if_false, Bool.false_eq_true, reduceIte, Bool.not_true, Bool.not_false, slots, List.map_cons, List.map_nil, avS, List.length_cons, List.length_nil, List.replicate_succ, List.replicate_zero, List.cons_append, List.nil_append, Nat.reduceAdd, Nat.reduceSub, Nat.reduceLeDiff, sl1, sl2, sl3, sl4, sl5, sl6, sl7, sl8, sl9, sl10, sl11, sl12, sl13, sl14, sl15, sl16, sl17, sl18, sl19, sl20, sl21, sl22, sl23, sl24, sl25, sl26, sl27, sl28, sl29, sl30, Nat.zero_le, R.bind_cg, Nat.zero_add, Option.map_some, Option.map_none, ht, eg]
        rfl
      have ep : oPut false (q.map kvD) (.str x.1) (.int (if x.2 > (get q x.1).getD x.2 then x.2 else (get q x.1).getD x.2)) = some ((setP q x.1 (if x.2 > (get q x.1).getD x.2 then x.2 else (get q x.1).getD x.2)).map kvD) := by
        unfold oPut
        rw [toDK_name]
        have hc : kindK (.f (.inr x.1)) = false ∧ false = false ∧ (q.map kvD).length < sizeLine := ⟨rfl, rfl, by rw [List.length_map]; omega⟩
        show (if kindK (.f (.inr x.1)) = false ∧ false = false ∧ (q.map kvD).length < sizeLine then _ else _) = _
        rw [if_pos hc, dput_kv]
      rw [List.map_cons, forR, e0]
      simp only [fVar, fC, fDat, fOp, fUn, fTest, fAnd, fOr, fNot, fAndV, fOrV, fNotV, fIf, aNil, aCons, allDR, allD, fTup, fLst, fCB, fCall, fSeq, fAsg, fSet, fRet, fRetV, fRetN, fIfS, fDrop, fNext, fIsi, fIsi2, fM, fSl, oS, oN, agName, sdRV, R.bind_ok, R.ofO_some, R.stx_ok, rdSD_d, rdSD_o, asDR_d, asDR_nl, asAR_d, asAR_nl, asAR_o, asBR_b, seqO_nx, seqO_rt, o1A_d, o2A_d, asIR_i, rtSD_d, List.getElem?_cons_zero, List.getElem?_cons_succ, List.set_cons_zero, List.set_cons_succ, if_true, if_false, Bool.false_eq_true, reduceIte, Bool.not_true, Bool.not_false, slots, List.map_cons, List.map_nil, avS, List.length_cons, List.length_nil, List.replicate_succ, List.replicate_zero, List.cons_append, List.nil_append, Nat.reduceAdd, Nat.reduceSub, Nat.reduceLeDiff, sl1, sl2, sl3, sl4, sl5, sl6, sl7, sl8, sl9, sl10, sl11, sl12, sl13, sl14, sl15, sl16, sl17, sl18, sl19, sl20, sl21, sl22, sl23, sl24, sl25, sl26, sl27, sl28, sl29, sl30, Nat.zero_le, R.bind_cg, Nat.zero_add, Option.map_some, Option.map_none, fPut, dicSD_dic, eb, oMax2, ep, forO_nx]
      exact h1
    · rw [h3, setP_get]
      show _ = maxO (get q n) (r.foldl _ (if x.1 = n then maxO none (some x.2) else none))
      rw [top_from]
      by_cases c : x.1 = n
      · rw [if_pos c, if_pos c, get_max, none_maxO, ← maxO_assoc, c]
        cases get q n <;> rfl
      · rw [if_neg c, if_neg c, none_maxO]
theorem join_outer (s0 : SD) (g : Gs) : ∀ (ps : List Plan) (q : Plan) (s2 s3 s4 : SD), (q.map (·.1)).Nodup → (∀ p ∈ ps, p.length ≤ 1000) → q.length + 1000 * ps.length < sizeLine →
    ∃ (q' : Plan) (t2 t3 t4 : SD), forR (agName 2) (fFor (iaSeq (fVar 2)) (agTup 2 (agCons (agName 3) (agCons (agName 4) agNil))) (fPut 1 (fVar 3) (fCB (o2A oMax2) (aCons (fBor 1 (fM "dict" oGet (fVar 1) (aCons (fVar 3) (aCons (fVar 4) aNil)))) (aCons (fVar 4) aNil)))))
      (ps.map planD) [s0, .dic false (q.map kvD), s2, s3, s4] g = .ok (.nx [s0, .dic false (q'.map kvD), t2, t3, t4]) g ∧ (q'.map (·.1)).Nodup ∧ (∀ n, get q' n = maxO (get q n) (topP ps.flatten n)) ∧ q'.length ≤ q.length + 1000 * ps.length
  | [], q, s2, s3, s4, hn, _, hz => ⟨q, s2, s3, s4, rfl, hn, fun n => (maxO_none _).symm, Nat.le_add_right _ _⟩
  | p :: ps, q, s2, s3, s4, hn, hl, hz => by
    have hp := hl p (by simp)
    have hz' : q.length + 1000 * (ps.length + 1) < sizeLine := hz
    obtain ⟨q1, t3, t4, h1, h2, h3, h4⟩ := join_inner s0 (.d (planD p)) g p q s3 s4 hn (by omega)
    obtain ⟨q2, u2, u3, u4, k1, k2, k3, k4⟩ := join_outer s0 g ps q1 (.d (planD p)) t3 t4 h2 (fun p hp => hl p (by simp [hp])) (by omega)
    refine ⟨q2, u2, u3, u4, ?_, k2, fun n => ?_, by show q2.length ≤ q.length + 1000 * (ps.length + 1); omega⟩
    · have e0 : agName 2 (planD p) [s0, .dic false (q.map kvD), s2, s3, s4] = some [s0, .dic false (q.map kvD), .d (planD p), s3, s4] := rfl
      have e1 : fFor (iaSeq (fVar 2)) (agTup 2 (agCons (agName 3) (agCons (agName 4) agNil))) (fPut 1 (fVar 3) (fCB (o2A oMax2) (aCons (fBor 1 (fM "dict" oGet (fVar 1) (aCons (fVar 3) (aCons (fVar 4) aNil)))) (aCons (fVar 4) aNil)))) [s0, .dic false (q.map kvD), .d (planD p), s3, s4] g = .ok (.nx [s0, .dic false (q1.map kvD), .d (planD p), t3, t4]) g := h1
      rw [List.map_cons, forR, e0]
      simp only
      rw [e1]
      exact k1
    · rw [k3, h3, List.flatten_cons, top_app, maxO_assoc]
theorem join_end {ps : List Plan} {q' : Plan} {g : Gs} {s0 s2 s3 s4 : SD} (h1 : (q'.map (·.1)).Nodup) (h2 : ∀ n, get q' n = maxO none (topP ps.flatten n)) (h3 : q'.length ≤ sizeLine) :
    fFz 1 (fRet (fCB (o1A oTuple) (aCons (fSortIt (fVar 1)) aNil))) [s0, .dic false (q'.map kvD), s2, s3, s4] g = .ok (.rt (.d (planD (joinP ps)))) g := by
  unfold fFz
  have e : fzSD ([s0, SD.dic false (q'.map kvD), s2, s3, s4][1]?) = some (some (.d (.dict (q'.map kvD)))) := rfl
  rw [e]
  have e1 : oSortIt (.dict (q'.map kvD)) = some (q'.map pairD) := by
    unfold oSortIt
    simp only
    rw [if_pos ⟨List.all_eq_true.mpr fun p hp => by obtain ⟨x, _, rfl⟩ := List.mem_map.mp hp; rfl, by rw [List.length_map]; exact h3⟩, pairs_kv]
  have e2 : oSorted (.list (q'.map pairD)) = some (.nl ((joinP ps).map pairD)) := by
    rw [oSorted_eq (sortOk_pairs q'), sort_join ps q' h1 fun n => by rw [h2]; exact none_maxO _]
  simp only [fVar, fC, fDat, fOp, fUn, fTest, fAnd, fOr, fNot, fAndV, fOrV, fNotV, fIf, aNil, aCons, allDR, allD, fTup, fLst, fCB, fCall, fSeq, fAsg, fSet, fRet, fRetV, fRetN, fIfS, fDrop, fNext, fIsi, fIsi2, fM, fSl, oS, oN, agName, sdRV, R.bind_ok, R.ofO_some, R.stx_ok, rdSD_d, rdSD_o, asDR_d, asDR_nl, asAR_d, asAR_nl, asAR_o, asBR_b, seqO_nx, seqO_rt, o1A_d, o2A_d, asIR_i, rtSD_d, List.getElem?_cons_zero, List.getElem?_cons_succ, List.set_cons_zero, List.set_cons_succ, if_true, if_false, Bool.false_eq_true, reduceIte, Bool.not_true, Bool.not_false, slots, List.map_cons, List.map_nil, avS, List.length_cons, List.length_nil, List.replicate_succ, List.replicate_zero, List.cons_append, List.nil_append, Nat.reduceAdd, Nat.reduceSub, Nat.reduceLeDiff, sl1, sl2, sl3, sl4, sl5, sl6, sl7, sl8, sl9, sl10, sl11, sl12, sl13, sl14, sl15, sl16, sl17, sl18, sl19, sl20, sl21, sl22, sl23, sl24, sl25, sl26, sl27, sl28, sl29, sl30, Nat.zero_le, R.bind_cg, Nat.zero_add, Option.map_some, Option.map_none, fSortIt, e1, e2, oTuple]
  rfl
theorem join_of_eq {W : List Str} {ps : List Plan} (h : ∀ p ∈ ps, Pl W p) (hz : ps.length ≤ 1000) (g : Gs) : F_join_of [.d (.list (ps.map planD))] g = .ok (.d (planD (joinP ps))) g := by
  refine fn_rt rfl ?_
  unfold b_join_of
  obtain ⟨q, t2, t3, t4, h1, h2, h3, h4⟩ := join_outer (.d (.list (ps.map planD))) g ps [] .u .u .u List.nodup_nil (fun p hp => (h p hp).sz) (by rw [sizeLine_eq]; simp; omega)
  have e1 : fFor (iaSeq (fVar 0)) (agName 2) (fFor (iaSeq (fVar 2)) (agTup 2 (agCons (agName 3) (agCons (agName 4) agNil))) (fPut 1 (fVar 3) (fCB (o2A oMax2) (aCons (fBor 1 (fM "dict" oGet (fVar 1) (aCons (fVar 3) (aCons (fVar 4) aNil)))) (aCons (fVar 4) aNil))))) [.d (.list (ps.map planD)), .dic false [], .u, .u, .u] g = .ok (.nx [.d (.list (ps.map planD)), .dic false (q.map kvD), t2, t3, t4]) g := h1
  simp only [fVar, fC, fDat, fOp, fUn, fTest, fAnd, fOr, fNot, fAndV, fOrV, fNotV, fIf, aNil, aCons, allDR, allD, fTup, fLst, fCB, fCall, fSeq, fAsg, fSet, fRet, fRetV, fRetN, fIfS, fDrop, fNext, fIsi, fIsi2, fM, fSl, oS, oN, agName, sdRV, R.bind_ok, R.ofO_some, R.stx_ok, rdSD_d, rdSD_o, asDR_d, asDR_nl, asAR_d, asAR_nl, asAR_o, asBR_b, seqO_nx, seqO_rt, o1A_d, o2A_d, asIR_i, rtSD_d, List.getElem?_cons_zero, List.getElem?_cons_succ, List.set_cons_zero, List.set_cons_succ, if_true, if_false, Bool.false_eq_true, reduceIte, Bool.not_true, Bool.not_false, slots, List.map_cons, List.map_nil, avS, List.length_cons, List.length_nil, List.replicate_succ, List.replicate_zero, List.cons_append, List.nil_append, Nat.reduceAdd, Nat.reduceSub, Nat.reduceLeDiff, sl1, sl2, sl3, sl4, sl5, sl6, sl7, sl8, sl9, sl10, sl11, sl12, sl13, sl14, sl15, sl16, sl17, sl18, sl19, sl20, sl21, sl22, sl23, sl24, sl25, sl26, sl27, sl28, sl29, sl30, Nat.zero_le, R.bind_cg, Nat.zero_add, Option.map_some, Option.map_none, fNewD, e1]
  exact join_end h2 h3 (by have h4 : q.length ≤ 0 + 1000 * ps.length := h4; rw [sizeLine_eq]; omega)
theorem joined_eq {W : List Str} {ps : List Plan} (h : ∀ p ∈ ps, Pl W p) (hz : ps.length ≤ 1000) (g : Gs) : F_joined [.d (.list (ps.map planD))] g = .ok (.d (planD (joinP ps))) g := by
  refine fn_rt rfl ?_
  unfold b_joined
  have h0 : (isD "list" (.list (ps.map planD)) || isD "tuple" (.list (ps.map planD))) = true := rfl
  have key : ∀ (l : List (Plan × Nat)) (s1 s2 : SD), (∀ z ∈ l, Pl W z.1) → ∃ t1 t2, forR (agTup 2 (agCons (agName 1) (agCons (agName 2) agNil))) (fIfS (fNot (fTest (fCall F_are_pairs (aCons (fVar 2) aNil)))) fNever fNext)
      (l.map fun z => .tuple [.int (z.2 : Int), planD z.1]) [.d (.list (ps.map planD)), s1, s2] g = .ok (.nx [.d (.list (ps.map planD)), t1, t2]) g := by
    intro l
    induction l with
    | nil => intro s1 s2 _; exact ⟨s1, s2, rfl⟩
    | cons z l ih =>
      intro s1 s2 hl
      obtain ⟨t1, t2, e⟩ := ih (.d (.int (z.2 : Int))) (.d (planD z.1)) fun y hy => hl y (by simp [hy])
      refine ⟨t1, t2, ?_⟩
      have e0 : agTup 2 (agCons (agName 1) (agCons (agName 2) agNil)) (.tuple [.int (z.2 : Int), planD z.1]) [.d (.list (ps.map planD)), s1, s2] = some [.d (.list (ps.map planD)), .d (.int (z.2 : Int)), .d (planD z.1)] := rfl
      rw [List.map_cons, forR, e0]
      simp only [fVar, fC, fDat, fOp, fUn, fTest, fAnd, fOr, fNot, fAndV, fOrV, fNotV, fIf, aNil, aCons, allDR, allD, fTup, fLst, fCB, fCall, fSeq, fAsg, fSet, fRet, fRetV, fRetN, fIfS, fDrop, fNext, fIsi, fIsi2, fM, fSl, oS, oN, agName, sdRV, R.bind_ok, R.ofO_some, R.stx_ok, rdSD_d, rdSD_o, asDR_d, asDR_nl, asAR_d, asAR_nl, asAR_o, asBR_b, seqO_nx, seqO_rt, o1A_d, o2A_d, asIR_i, rtSD_d, List.getElem?_cons_zero, List.getElem?_cons_succ, List.set_cons_zero, List.set_cons_succ, if_true, if_false, Bool.false_eq_true, reduceIte, Bool.not_true, Bool.not_false, slots, List.map_cons, List.map_nil, avS, List.length_cons, List.length_nil, List.replicate_succ, List.replicate_zero, List.cons_append, List.nil_append, Nat.reduceAdd, Nat.reduceSub, Nat.reduceLeDiff, sl1, sl2, sl3, sl4, sl5, sl6, sl7, sl8, sl9, sl10, sl11, sl12, sl13, sl14, sl15, sl16, sl17, sl18, sl19, sl20, sl21, sl22, sl23, sl24, sl25, sl26, sl27, sl28, sl29, sl30, Nat.zero_le, R.bind_cg, Nat.zero_add, Option.map_some, Option.map_none, are_pairs_ok (hl z (by simp)), forO_nx]
      exact e
  have e : ((ps.map planD).zipIdx.map fun p => PyData.tuple [.int (p.2 : Int), p.1]) = ps.zipIdx.map fun z => .tuple [.int (z.2 : Int), planD z.1] := by
    rw [List.zipIdx_map, List.map_map]
    rfl
  obtain ⟨t1, t2, ek⟩ := key ps.zipIdx .u .u fun z hz => h z.1 (by
    exact List.mem_of_getElem? (List.mem_zipIdx_iff_getElem?.mp hz))
  have ef : fFor (iaEnumA (aCons (fVar 0) aNil)) (agTup 2 (agCons (agName 1) (agCons (agName 2) agNil))) (fIfS (fNot (fTest (fCall F_are_pairs (aCons (fVar 2) aNil)))) fNever fNext) [.d (.list (ps.map planD)), .u, .u] g = .ok (.nx [.d (.list (ps.map planD)), t1, t2]) g := by
    show forR _ _ ((ps.map planD).zipIdx.map fun p => PyData.tuple [.int (p.2 : Int), p.1]) _ _ = _
    rw [e]
    exact ek
  simp only [fVar, fC, fDat, fOp, fUn, fTest, fAnd, fOr, fNot, fAndV, fOrV, fNotV, fIf, aNil, aCons, allDR, allD, fTup, fLst, fCB, fCall, fSeq, fAsg, fSet, fRet, fRetV, fRetN, fIfS, fDrop, fNext, fIsi, fIsi2, fM, fSl, oS, oN, agName, sdRV, R.bind_ok, R.ofO_some, R.stx_ok, rdSD_d, rdSD_o, asDR_d, asDR_nl, asAR_d, asAR_nl, asAR_o, asBR_b, seqO_nx, seqO_rt, o1A_d, o2A_d, asIR_i, rtSD_d, List.getElem?_cons_zero, List.getElem?_cons_succ, List.set_cons_zero, List.set_cons_succ, if_true, if_false, Bool.false_eq_true, reduceIte, Bool.not_true, Bool.not_false, slots, List.map_cons, List.map_nil, avS, List.length_cons, List.length_nil, List.replicate_succ, List.replicate_zero, List.cons_append, List.nil_append, Nat.reduceAdd, Nat.reduceSub, Nat.reduceLeDiff, sl1, sl2, sl3, sl4, sl5, sl6, sl7, sl8, sl9, sl10, sl11, sl12, sl13, sl14, sl15, sl16, sl17, sl18, sl19, sl20, sl21, sl22, sl23, sl24, sl25, sl26, sl27, sl28, sl29, sl30, Nat.zero_le, R.bind_cg, Nat.zero_add, Option.map_some, Option.map_none, is_list_eq, h0, ef, join_of_eq h hz]
theorem join_of_eqT {W : List Str} {ps : List Plan} (h : ∀ p ∈ ps, Pl W p) (hz : ps.length ≤ 1000) (g : Gs) : F_join_of [.d (.tuple (ps.map planD))] g = .ok (.d (planD (joinP ps))) g := by
  refine fn_rt rfl ?_
  unfold b_join_of
  obtain ⟨q, t2, t3, t4, h1, h2, h3, h4⟩ := join_outer (.d (.tuple (ps.map planD))) g ps [] .u .u .u List.nodup_nil (fun p hp => (h p hp).sz) (by rw [sizeLine_eq]; simp; omega)
  have e1 : fFor (iaSeq (fVar 0)) (agName 2) (fFor (iaSeq (fVar 2)) (agTup 2 (agCons (agName 3) (agCons (agName 4) agNil))) (fPut 1 (fVar 3) (fCB (o2A oMax2) (aCons (fBor 1 (fM "dict" oGet (fVar 1) (aCons (fVar 3) (aCons (fVar 4) aNil)))) (aCons (fVar 4) aNil))))) [.d (.tuple (ps.map planD)), .dic false [], .u, .u, .u] g = .ok (.nx [.d (.tuple (ps.map planD)), .dic false (q.map kvD), t2, t3, t4]) g := h1
  simp only [fVar, fC, fDat, fOp, fUn, fTest, fAnd, fOr, fNot, fAndV, fOrV, fNotV, fIf, aNil, aCons, allDR, allD, fTup, fLst, fCB, fCall, fSeq, fAsg, fSet, fRet, fRetV, fRetN, fIfS, fDrop, fNext, fIsi, fIsi2, fM, fSl, oS, oN, agName, sdRV, R.bind_ok, R.ofO_some, R.stx_ok, rdSD_d, rdSD_o, asDR_d, asDR_nl, asAR_d, asAR_nl, asAR_o, asBR_b, seqO_nx, seqO_rt, o1A_d, o2A_d, asIR_i, rtSD_d, List.getElem?_cons_zero, List.getElem?_cons_succ, List.set_cons_zero, List.set_cons_succ, if_true, if_false, Bool.false_eq_true, reduceIte, Bool.not_true, Bool.not_false, slots, List.map_cons, List.map_nil, avS, List.length_cons, List.length_nil, List.replicate_succ, List.replicate_zero, List.cons_append, List.nil_append, Nat.reduceAdd, Nat.reduceSub, Nat.reduceLeDiff, sl1, sl2, sl3, sl4, sl5, sl6, sl7, sl8, sl9, sl10, sl11, sl12, sl13, sl14, sl15, sl16, sl17, sl18, sl19, sl20, sl21, sl22, sl23, sl24, sl25, sl26, sl27, sl28, sl29, sl30, Nat.zero_le, R.bind_cg, Nat.zero_add, Option.map_some, Option.map_none, fNewD, e1]
  exact join_end h2 h3 (by have h4 : q.length ≤ 0 + 1000 * ps.length := h4; rw [sizeLine_eq]; omega)
theorem joined_eqT {W : List Str} {ps : List Plan} (h : ∀ p ∈ ps, Pl W p) (hz : ps.length ≤ 1000) (g : Gs) : F_joined [.d (.tuple (ps.map planD))] g = .ok (.d (planD (joinP ps))) g := by
  refine fn_rt rfl ?_
  unfold b_joined
  have h0 : (isD "list" (.tuple (ps.map planD)) || isD "tuple" (.tuple (ps.map planD))) = true := rfl
  have key : ∀ (l : List (Plan × Nat)) (s1 s2 : SD), (∀ z ∈ l, Pl W z.1) → ∃ t1 t2, forR (agTup 2 (agCons (agName 1) (agCons (agName 2) agNil))) (fIfS (fNot (fTest (fCall F_are_pairs (aCons (fVar 2) aNil)))) fNever fNext)
      (l.map fun z => .tuple [.int (z.2 : Int), planD z.1]) [.d (.tuple (ps.map planD)), s1, s2] g = .ok (.nx [.d (.tuple (ps.map planD)), t1, t2]) g := by
    intro l
    induction l with
    | nil => intro s1 s2 _; exact ⟨s1, s2, rfl⟩
    | cons z l ih =>
      intro s1 s2 hl
      obtain ⟨t1, t2, e⟩ := ih (.d (.int (z.2 : Int))) (.d (planD z.1)) fun y hy => hl y (by simp [hy])
      refine ⟨t1, t2, ?_⟩
      have e0 : agTup 2 (agCons (agName 1) (agCons (agName 2) agNil)) (.tuple [.int (z.2 : Int), planD z.1]) [.d (.tuple (ps.map planD)), s1, s2] = some [.d (.tuple (ps.map planD)), .d (.int (z.2 : Int)), .d (planD z.1)] := rfl
      rw [List.map_cons, forR, e0]
      simp only [fVar, fC, fDat, fOp, fUn, fTest, fAnd, fOr, fNot, fAndV, fOrV, fNotV, fIf, aNil, aCons, allDR, allD, fTup, fLst, fCB, fCall, fSeq, fAsg, fSet, fRet, fRetV, fRetN, fIfS, fDrop, fNext, fIsi, fIsi2, fM, fSl, oS, oN, agName, sdRV, R.bind_ok, R.ofO_some, R.stx_ok, rdSD_d, rdSD_o, asDR_d, asDR_nl, asAR_d, asAR_nl, asAR_o, asBR_b, seqO_nx, seqO_rt, o1A_d, o2A_d, asIR_i, rtSD_d, List.getElem?_cons_zero, List.getElem?_cons_succ, List.set_cons_zero, List.set_cons_succ, if_true, if_false, Bool.false_eq_true, reduceIte, Bool.not_true, Bool.not_false, slots, List.map_cons, List.map_nil, avS, List.length_cons, List.length_nil, List.replicate_succ, List.replicate_zero, List.cons_append, List.nil_append, Nat.reduceAdd, Nat.reduceSub, Nat.reduceLeDiff, sl1, sl2, sl3, sl4, sl5, sl6, sl7, sl8, sl9, sl10, sl11, sl12, sl13, sl14, sl15, sl16, sl17, sl18, sl19, sl20, sl21, sl22, sl23, sl24, sl25, sl26, sl27, sl28, sl29, sl30, Nat.zero_le, R.bind_cg, Nat.zero_add, Option.map_some, Option.map_none, are_pairs_ok (hl z (by simp)), forO_nx]
      exact e
  have e : ((ps.map planD).zipIdx.map fun p => PyData.tuple [.int (p.2 : Int), p.1]) = ps.zipIdx.map fun z => .tuple [.int (z.2 : Int), planD z.1] := by
    rw [List.zipIdx_map, List.map_map]
    rfl
  obtain ⟨t1, t2, ek⟩ := key ps.zipIdx .u .u fun z hz => h z.1 (by
    exact List.mem_of_getElem? (List.mem_zipIdx_iff_getElem?.mp hz))
  have ef : fFor (iaEnumA (aCons (fVar 0) aNil)) (agTup 2 (agCons (agName 1) (agCons (agName 2) agNil))) (fIfS (fNot (fTest (fCall F_are_pairs (aCons (fVar 2) aNil)))) fNever fNext) [.d (.tuple (ps.map planD)), .u, .u] g = .ok (.nx [.d (.tuple (ps.map planD)), t1, t2]) g := by
    show forR _ _ ((ps.map planD).zipIdx.map fun p => PyData.tuple [.int (p.2 : Int), p.1]) _ _ = _
    rw [e]
    exact ek
  simp only [fVar, fC, fDat, fOp, fUn, fTest, fAnd, fOr, fNot, fAndV, fOrV, fNotV, fIf, aNil, aCons, allDR, allD, fTup, fLst, fCB, fCall, fSeq, fAsg, fSet, fRet, fRetV, fRetN, fIfS, fDrop, fNext, fIsi, fIsi2, fM, fSl, oS, oN, agName, sdRV, R.bind_ok, R.ofO_some, R.stx_ok, rdSD_d, rdSD_o, asDR_d, asDR_nl, asAR_d, asAR_nl, asAR_o, asBR_b, seqO_nx, seqO_rt, o1A_d, o2A_d, asIR_i, rtSD_d, List.getElem?_cons_zero, List.getElem?_cons_succ, List.set_cons_zero, List.set_cons_succ, if_true, if_false, Bool.false_eq_true, reduceIte, Bool.not_true, Bool.not_false, slots, List.map_cons, List.map_nil, avS, List.length_cons, List.length_nil, List.replicate_succ, List.replicate_zero, List.cons_append, List.nil_append, Nat.reduceAdd, Nat.reduceSub, Nat.reduceLeDiff, sl1, sl2, sl3, sl4, sl5, sl6, sl7, sl8, sl9, sl10, sl11, sl12, sl13, sl14, sl15, sl16, sl17, sl18, sl19, sl20, sl21, sl22, sl23, sl24, sl25, sl26, sl27, sl28, sl29, sl30, Nat.zero_le, R.bind_cg, Nat.zero_add, Option.map_some, Option.map_none, is_list_eq, h0, ef, join_of_eqT h hz]
theorem joined1 {W : List Str} {p : Plan} (h : Pl W p) (g : Gs) : F_joined [.d (.list [planD p])] g = .ok (.d (planD (joinP [p]))) g := joined_eq (ps := [p]) (W := W) (by simp [h]) (by simp) g
theorem joined2 {W : List Str} {p q : Plan} (h : Pl W p) (h' : Pl W q) (g : Gs) : F_joined [.d (.list [planD p, planD q])] g = .ok (.d (planD (joinP [p, q]))) g := joined_eq (ps := [p, q]) (W := W) (by simp [h, h']) (by simp) g
theorem joined3 {W : List Str} {p q r : Plan} (h : Pl W p) (h' : Pl W q) (h'' : Pl W r) (g : Gs) : F_joined [.d (.list [planD p, planD q, planD r])] g = .ok (.d (planD (joinP [p, q, r]))) g := joined_eq (ps := [p, q, r]) (W := W) (by simp [h, h', h'']) (by simp) g
theorem oDict_plan {W : List Str} {p : Plan} (h : Pl W p) : oDict (planD p) = some (.nd false (p.map kvD)) := by
  show (pairsOf (p.map pairD)).map (fun ps => RV.nd false (mergeD [] ps)) = _
  rw [pairsOf_plan, Option.map_some, dict_plan h.asc]
theorem oIn_kv (q : Plan) (n : Str) : oIn false (.str n) (.dict (q.map kvD)) = some (.d (.bool (get q n).isSome)) := by
  show (if matchK (q.map kvD) (.f (.inr n)) = true then some (RV.d (.bool (false ^^ (dget (q.map kvD) (.f (.inr n))).isSome))) else none) = _
  rw [if_pos (match_kv _ _), dget_kv]
  cases get q n <;> rfl
theorem oIx_kv {q : Plan} {n : Str} {k : Int} (h : get q n = some k) : oIx (.dict (q.map kvD)) (.str n) = some (.d (.int k)) := by
  show (if matchK (q.map kvD) (.f (.inr n)) = true then (dget (q.map kvD) (.f (.inr n))).map RV.d else none) = _
  rw [if_pos (match_kv _ _), dget_kv, h]
  rfl
theorem earlier_of_eq {W W' : List Str} {p r : Plan} (h : Pl W p) (h' : Pl W' r) (g : Gs) : F_earlier_of [.d (planD p), .d (planD r)] g = .ok (.d (planD (earlierP p r))) g := by
  refine fn_rt rfl ?_
  unfold b_earlier_of
  simp only [fVar, fC, fDat, fOp, fUn, fTest, fAnd, fOr, fNot, fAndV, fOrV, fNotV, fIf, aNil, aCons, allDR, allD, fTup, fLst, fCB, fCall, fSeq, fAsg, fSet, fRet, fRetV, fRetN, fIfS, fDrop, fNext, fIsi, fIsi2, fM, fSl, oS, oN, agName, sdRV, R.bind_ok, R.ofO_some, R.stx_ok, rdSD_d, rdSD_o, asDR_d, asDR_nl, asAR_d, asAR_nl, asAR_o, asBR_b, seqO_nx, seqO_rt, o1A_d, o2A_d, asIR_i, rtSD_d, List.getElem?_cons_zero, List.getElem?_cons_succ, List.set_cons_zero, List.set_cons_succ, if_true, if_false, Bool.false_eq_true, reduceIte, Bool.not_true, Bool.not_false, slots, List.map_cons, List.map_nil, avS, List.length_cons, List.length_nil, List.replicate_succ, List.replicate_zero, List.cons_append, List.nil_append, Nat.reduceAdd, Nat.reduceSub, Nat.reduceLeDiff, sl1, sl2, sl3, sl4, sl5, sl6, sl7, sl8, sl9, sl10, sl11, sl12, sl13, sl14, sl15, sl16, sl17, sl18, sl19, sl20, sl21, sl22, sl23, sl24, sl25, sl26, sl27, sl28, sl29, sl30, Nat.zero_le, R.bind_cg, Nat.zero_add, Option.map_some, Option.map_none, oDict_plan h', asDR_nd]
  rw [fLc_eq p pairD (fun x => (get r x.1).map fun k => pairD (x.1, min x.2 k)) rfl (fun x hx => ⟨_, rfl, ?_⟩) h.zl]
  · simp only [fVar, fC, fDat, fOp, fUn, fTest, fAnd, fOr, fNot, fAndV, fOrV, fNotV, fIf, aNil, aCons, allDR, allD, fTup, fLst, fCB, fCall, fSeq, fAsg, fSet, fRet, fRetV, fRetN, fIfS, fDrop, fNext, fIsi, fIsi2, fM, fSl, oS, oN, agName, sdRV, R.bind_ok, R.ofO_some, R.stx_ok, rdSD_d, rdSD_o, asDR_d, asDR_nl, asAR_d, asAR_nl, asAR_o, asBR_b, seqO_nx, seqO_rt, o1A_d, o2A_d, asIR_i, rtSD_d, List.getElem?_cons_zero, List.getElem?_cons_succ, List.set_cons_zero, List.set_cons_succ, if_true, if_false, Bool.false_eq_true, reduceIte, Bool.not_true, Bool.not_false, slots, List.map_cons, List.map_nil, avS, List.length_cons, List.length_nil, List.replicate_succ, List.replicate_zero, List.cons_append, List.nil_append, Nat.reduceAdd, Nat.reduceSub, Nat.reduceLeDiff, sl1, sl2, sl3, sl4, sl5, sl6, sl7, sl8, sl9, sl10, sl11, sl12, sl13, sl14, sl15, sl16, sl17, sl18, sl19, sl20, sl21, sl22, sl23, sl24, sl25, sl26, sl27, sl28, sl29, sl30, Nat.zero_le, R.bind_cg, Nat.zero_add, Option.map_some, Option.map_none, oTuple]
    unfold earlierP planD
    rw [List.map_filterMap]
    have : (fun x : Str × Int => ((get r x.1).map fun k => (x.1, min x.2 k)).map pairD) = fun x => (get r x.1).map fun k => pairD (x.1, min x.2 k) := by
      funext x
      cases get r x.1 <;> rfl
    rw [this]
  · cases e : get r x.1 with
    | none => simp only [fVar, fC, fDat, fOp, fUn, fTest, fAnd, fOr, fNot, fAndV, fOrV, fNotV, fIf, aNil, aCons, allDR, allD, fTup, fLst, fCB, fCall, fSeq, fAsg, fSet, fRet, fRetV, fRetN, fIfS, fDrop, fNext, fIsi, fIsi2, fM, fSl, oS, oN, agName, sdRV, R.bind_ok, R.ofO_some, R.stx_ok, rdSD_d, rdSD_o, asDR_d, asDR_nl, asAR_d, asAR_nl, asAR_o, asBR_b, seqO_nx, seqO_rt, o1A_d, o2A_d, asIR_i, rtSD_d, List.getElem?_cons_zero, List.getElem?_cons_succ, List.set_cons_zero, List.set_cons_succ, if_true, if_false, Bool.false_eq_true, reduceIte, Bool.not_true, Bool.not_false, slots, List.map_cons, List.map_nil, avS, List.length_cons, List.length_nil, List.replicate_succ, List.replicate_zero, List.cons_append, List.nil_append, Nat.reduceAdd, Nat.reduceSub, Nat.reduceLeDiff, sl1, sl2, sl3, sl4, sl5, sl6, sl7, sl8, sl9, sl10, sl11, sl12, sl13, sl14, sl15, sl16, sl17, sl18, sl19, sl20, sl21, sl22, sl23, sl24, sl25, sl26, sl27, sl28, sl29, sl30, Nat.zero_le, R.bind_cg, Nat.zero_add, Option.map_some, Option.map_none, wipeD, oIn_kv, e, Option.isSome_none]
    | some k =>
      simp only [fVar, fC, fDat, fOp, fUn, fTest, fAnd, fOr, fNot, fAndV, fOrV, fNotV, fIf, aNil, aCons, allDR, allD, fTup, fLst, fCB, fCall, fSeq, fAsg, fSet, fRet, fRetV, fRetN, fIfS, fDrop, fNext, fIsi, fIsi2, fM, fSl, oS, oN, agName, sdRV, R.bind_ok, R.ofO_some, R.stx_ok, rdSD_d, rdSD_o, asDR_d, asDR_nl, asAR_d, asAR_nl, asAR_o, asBR_b, seqO_nx, seqO_rt, o1A_d, o2A_d, asIR_i, rtSD_d, List.getElem?_cons_zero, List.getElem?_cons_succ, List.set_cons_zero, List.set_cons_succ, if_true, if_false, Bool.false_eq_true, reduceIte, Bool.not_true, Bool.not_false, slots, List.map_cons, List.map_nil, avS, List.length_cons, List.length_nil, List.replicate_succ, List.replicate_zero, List.cons_append, List.nil_append, Nat.reduceAdd, Nat.reduceSub, Nat.reduceLeDiff, sl1, sl2, sl3, sl4, sl5, sl6, sl7, sl8, sl9, sl10, sl11, sl12, sl13, sl14, sl15, sl16, sl17, sl18, sl19, sl20, sl21, sl22, sl23, sl24, sl25, sl26, sl27, sl28, sl29, sl30, Nat.zero_le, R.bind_cg, Nat.zero_add, Option.map_some, Option.map_none, wipeD, oIn_kv, e, Option.isSome_some, oIx_kv e, oMin2]
      have : (if k < x.2 then k else x.2) = min x.2 k := by split <;> omega
      rw [this]
      exact ⟨trivial, rfl⟩
theorem earlier_eq {W W' : List Str} {p r : Plan} (h : Pl W p) (h' : Pl W' r) (g : Gs) : F_earlier [.d (planD p), .d (planD r)] g = .ok (.d (planD (earlierP p r))) g := by
  refine fn_rt rfl ?_
  unfold b_earlier
  simp only [fVar, fC, fDat, fOp, fUn, fTest, fAnd, fOr, fNot, fAndV, fOrV, fNotV, fIf, aNil, aCons, allDR, allD, fTup, fLst, fCB, fCall, fSeq, fAsg, fSet, fRet, fRetV, fRetN, fIfS, fDrop, fNext, fIsi, fIsi2, fM, fSl, oS, oN, agName, sdRV, R.bind_ok, R.ofO_some, R.stx_ok, rdSD_d, rdSD_o, asDR_d, asDR_nl, asAR_d, asAR_nl, asAR_o, asBR_b, seqO_nx, seqO_rt, o1A_d, o2A_d, asIR_i, rtSD_d, List.getElem?_cons_zero, List.getElem?_cons_succ, List.set_cons_zero, List.set_cons_succ, if_true, if_false, Bool.false_eq_true, reduceIte, Bool.not_true, Bool.not_false, slots, List.map_cons, List.map_nil, avS, List.length_cons, List.length_nil, List.replicate_succ, List.replicate_zero, List.cons_append, List.nil_append, Nat.reduceAdd, Nat.reduceSub, Nat.reduceLeDiff, sl1, sl2, sl3, sl4, sl5, sl6, sl7, sl8, sl9, sl10, sl11, sl12, sl13, sl14, sl15, sl16, sl17, sl18, sl19, sl20, sl21, sl22, sl23, sl24, sl25, sl26, sl27, sl28, sl29, sl30, Nat.zero_le, R.bind_cg, Nat.zero_add, Option.map_some, Option.map_none, need_two_ok h h', earlier_of_eq h h']
theorem is_in_eq {W W' : List Str} {p r : Plan} (h : Pl W p) (h' : Pl W' r) (g : Gs) : F_is_in [.d (planD p), .d (planD r)] g = .ok (.d (.bool (isIn p r))) g := by
  refine fn_rt rfl ?_
  unfold b_is_in
  simp only [fVar, fC, fDat, fOp, fUn, fTest, fAnd, fOr, fNot, fAndV, fOrV, fNotV, fIf, aNil, aCons, allDR, allD, fTup, fLst, fCB, fCall, fSeq, fAsg, fSet, fRet, fRetV, fRetN, fIfS, fDrop, fNext, fIsi, fIsi2, fM, fSl, oS, oN, agName, sdRV, R.bind_ok, R.ofO_some, R.stx_ok, rdSD_d, rdSD_o, asDR_d, asDR_nl, asAR_d, asAR_nl, asAR_o, asBR_b, seqO_nx, seqO_rt, o1A_d, o2A_d, asIR_i, rtSD_d, List.getElem?_cons_zero, List.getElem?_cons_succ, List.set_cons_zero, List.set_cons_succ, if_true, if_false, Bool.false_eq_true, reduceIte, Bool.not_true, Bool.not_false, slots, List.map_cons, List.map_nil, avS, List.length_cons, List.length_nil, List.replicate_succ, List.replicate_zero, List.cons_append, List.nil_append, Nat.reduceAdd, Nat.reduceSub, Nat.reduceLeDiff, sl1, sl2, sl3, sl4, sl5, sl6, sl7, sl8, sl9, sl10, sl11, sl12, sl13, sl14, sl15, sl16, sl17, sl18, sl19, sl20, sl21, sl22, sl23, sl24, sl25, sl26, sl27, sl28, sl29, sl30, Nat.zero_le, R.bind_cg, Nat.zero_add, Option.map_some, Option.map_none, oDict_plan h', asDR_nd]
  rw [fLc_map p pairD (fun x => .bool (okIn r x)) rfl (fun x hx => ⟨_, rfl, rfl, ?_⟩) h.zl]
  · simp only [fVar, fC, fDat, fOp, fUn, fTest, fAnd, fOr, fNot, fAndV, fOrV, fNotV, fIf, aNil, aCons, allDR, allD, fTup, fLst, fCB, fCall, fSeq, fAsg, fSet, fRet, fRetV, fRetN, fIfS, fDrop, fNext, fIsi, fIsi2, fM, fSl, oS, oN, agName, sdRV, R.bind_ok, R.ofO_some, R.stx_ok, rdSD_d, rdSD_o, asDR_d, asDR_nl, asAR_d, asAR_nl, asAR_o, asBR_b, seqO_nx, seqO_rt, o1A_d, o2A_d, asIR_i, rtSD_d, List.getElem?_cons_zero, List.getElem?_cons_succ, List.set_cons_zero, List.set_cons_succ, if_true, if_false, Bool.false_eq_true, reduceIte, Bool.not_true, Bool.not_false, slots, List.map_cons, List.map_nil, avS, List.length_cons, List.length_nil, List.replicate_succ, List.replicate_zero, List.cons_append, List.nil_append, Nat.reduceAdd, Nat.reduceSub, Nat.reduceLeDiff, sl1, sl2, sl3, sl4, sl5, sl6, sl7, sl8, sl9, sl10, sl11, sl12, sl13, sl14, sl15, sl16, sl17, sl18, sl19, sl20, sl21, sl22, sl23, sl24, sl25, sl26, sl27, sl28, sl29, sl30, Nat.zero_le, R.bind_cg, Nat.zero_add, Option.map_some, Option.map_none, oAll_map]
    rfl
  · unfold okIn
    cases e : get r x.1 with
    | none => simp only [fVar, fC, fDat, fOp, fUn, fTest, fAnd, fOr, fNot, fAndV, fOrV, fNotV, fIf, aNil, aCons, allDR, allD, fTup, fLst, fCB, fCall, fSeq, fAsg, fSet, fRet, fRetV, fRetN, fIfS, fDrop, fNext, fIsi, fIsi2, fM, fSl, oS, oN, agName, sdRV, R.bind_ok, R.ofO_some, R.stx_ok, rdSD_d, rdSD_o, asDR_d, asDR_nl, asAR_d, asAR_nl, asAR_o, asBR_b, seqO_nx, seqO_rt, o1A_d, o2A_d, asIR_i, rtSD_d, List.getElem?_cons_zero, List.getElem?_cons_succ, List.set_cons_zero, List.set_cons_succ, if_true, if_false, Bool.false_eq_true, reduceIte, Bool.not_true, Bool.not_false, slots, List.map_cons, List.map_nil, avS, List.length_cons, List.length_nil, List.replicate_succ, List.replicate_zero, List.cons_append, List.nil_append, Nat.reduceAdd, Nat.reduceSub, Nat.reduceLeDiff, sl1, sl2, sl3, sl4, sl5, sl6, sl7, sl8, sl9, sl10, sl11, sl12, sl13, sl14, sl15, sl16, sl17, sl18, sl19, sl20, sl21, sl22, sl23, sl24, sl25, sl26, sl27, sl28, sl29, sl30, Nat.zero_le, R.bind_cg, Nat.zero_add, Option.map_some, Option.map_none, wipeD, oIn_kv, e, Option.isSome_none]
    | some k => simp only [fVar, fC, fDat, fOp, fUn, fTest, fAnd, fOr, fNot, fAndV, fOrV, fNotV, fIf, aNil, aCons, allDR, allD, fTup, fLst, fCB, fCall, fSeq, fAsg, fSet, fRet, fRetV, fRetN, fIfS, fDrop, fNext, fIsi, fIsi2, fM, fSl, oS, oN, agName, sdRV, R.bind_ok, R.ofO_some, R.stx_ok, rdSD_d, rdSD_o, asDR_d, asDR_nl, asAR_d, asAR_nl, asAR_o, asBR_b, seqO_nx, seqO_rt, o1A_d, o2A_d, asIR_i, rtSD_d, List.getElem?_cons_zero, List.getElem?_cons_succ, List.set_cons_zero, List.set_cons_succ, if_true, if_false, Bool.false_eq_true, reduceIte, Bool.not_true, Bool.not_false, slots, List.map_cons, List.map_nil, avS, List.length_cons, List.length_nil, List.replicate_succ, List.replicate_zero, List.cons_append, List.nil_append, Nat.reduceAdd, Nat.reduceSub, Nat.reduceLeDiff, sl1, sl2, sl3, sl4, sl5, sl6, sl7, sl8, sl9, sl10, sl11, sl12, sl13, sl14, sl15, sl16, sl17, sl18, sl19, sl20, sl21, sl22, sl23, sl24, sl25, sl26, sl27, sl28, sl29, sl30, Nat.zero_le, R.bind_cg, Nat.zero_add, Option.map_some, Option.map_none, wipeD, oIn_kv, e, Option.isSome_some, oIx_kv e, oLe, oCmp]
theorem is_within_eq {W W' : List Str} {p r : Plan} (h : Pl W p) (h' : Pl W' r) (g : Gs) : F_is_within [.d (planD p), .d (planD r)] g = .ok (.d (.bool (isIn p r))) g := by
  refine fn_rt rfl ?_
  unfold b_is_within
  simp only [fVar, fC, fDat, fOp, fUn, fTest, fAnd, fOr, fNot, fAndV, fOrV, fNotV, fIf, aNil, aCons, allDR, allD, fTup, fLst, fCB, fCall, fSeq, fAsg, fSet, fRet, fRetV, fRetN, fIfS, fDrop, fNext, fIsi, fIsi2, fM, fSl, oS, oN, agName, sdRV, R.bind_ok, R.ofO_some, R.stx_ok, rdSD_d, rdSD_o, asDR_d, asDR_nl, asAR_d, asAR_nl, asAR_o, asBR_b, seqO_nx, seqO_rt, o1A_d, o2A_d, asIR_i, rtSD_d, List.getElem?_cons_zero, List.getElem?_cons_succ, List.set_cons_zero, List.set_cons_succ, if_true, if_false, Bool.false_eq_true, reduceIte, Bool.not_true, Bool.not_false, slots, List.map_cons, List.map_nil, avS, List.length_cons, List.length_nil, List.replicate_succ, List.replicate_zero, List.cons_append, List.nil_append, Nat.reduceAdd, Nat.reduceSub, Nat.reduceLeDiff, sl1, sl2, sl3, sl4, sl5, sl6, sl7, sl8, sl9, sl10, sl11, sl12, sl13, sl14, sl15, sl16, sl17, sl18, sl19, sl20, sl21, sl22, sl23, sl24, sl25, sl26, sl27, sl28, sl29, sl30, Nat.zero_le, R.bind_cg, Nat.zero_add, Option.map_some, Option.map_none, need_two_ok h h', is_in_eq h h']
theorem room_in_eq {W W' : List Str} {p r : Plan} (h : Pl W p) (h' : Pl W' r) (g : Gs) : F_room_in [.d (planD p), .d (planD r)] g = .ok (.d (optD (roomP p r))) g := by
  refine fn_rt rfl ?_
  unfold b_room_in
  have hl : oLen (planD p) = some (.d (.int p.length)) := by show some (RV.d (.int ((p.map pairD).length : Nat))) = _; rw [List.length_map]
  simp only [fVar, fC, fDat, fOp, fUn, fTest, fAnd, fOr, fNot, fAndV, fOrV, fNotV, fIf, aNil, aCons, allDR, allD, fTup, fLst, fCB, fCall, fSeq, fAsg, fSet, fRet, fRetV, fRetN, fIfS, fDrop, fNext, fIsi, fIsi2, fM, fSl, oS, oN, agName, sdRV, R.bind_ok, R.ofO_some, R.stx_ok, rdSD_d, rdSD_o, asDR_d, asDR_nl, asAR_d, asAR_nl, asAR_o, asBR_b, seqO_nx, seqO_rt, o1A_d, o2A_d, asIR_i, rtSD_d, List.getElem?_cons_zero, List.getElem?_cons_succ, List.set_cons_zero, List.set_cons_succ, if_true, if_false, Bool.false_eq_true, reduceIte, Bool.not_true, Bool.not_false, slots, List.map_cons, List.map_nil, avS, List.length_cons, List.length_nil, List.replicate_succ, List.replicate_zero, List.cons_append, List.nil_append, Nat.reduceAdd, Nat.reduceSub, Nat.reduceLeDiff, sl1, sl2, sl3, sl4, sl5, sl6, sl7, sl8, sl9, sl10, sl11, sl12, sl13, sl14, sl15, sl16, sl17, sl18, sl19, sl20, sl21, sl22, sl23, sl24, sl25, sl26, sl27, sl28, sl29, sl30, Nat.zero_le, R.bind_cg, Nat.zero_add, Option.map_some, Option.map_none, oDict_plan h', asDR_nd, hl, oEq_int]
  by_cases c : p = []
  · subst c
    have : roomP [] r = none := if_pos (.inl rfl)
    rw [this]
    rfl
  · have hc : decide (((p.length : Nat) : Int) = 0) = false := decide_eq_false (by
      intro e
      exact c (List.length_eq_zero_iff.mp (by omega)))
    rw [hc]
    simp only [fVar, fC, fDat, fOp, fUn, fTest, fAnd, fOr, fNot, fAndV, fOrV, fNotV, fIf, aNil, aCons, allDR, allD, fTup, fLst, fCB, fCall, fSeq, fAsg, fSet, fRet, fRetV, fRetN, fIfS, fDrop, fNext, fIsi, fIsi2, fM, fSl, oS, oN, agName, sdRV, R.bind_ok, R.ofO_some, R.stx_ok, rdSD_d, rdSD_o, asDR_d, asDR_nl, asAR_d, asAR_nl, asAR_o, asBR_b, seqO_nx, seqO_rt, o1A_d, o2A_d, asIR_i, rtSD_d, List.getElem?_cons_zero, List.getElem?_cons_succ, List.set_cons_zero, List.set_cons_succ, if_true, if_false, Bool.false_eq_true, reduceIte, Bool.not_true, Bool.not_false, slots, List.map_cons, List.map_nil, avS, List.length_cons, List.length_nil, List.replicate_succ, List.replicate_zero, List.cons_append, List.nil_append, Nat.reduceAdd, Nat.reduceSub, Nat.reduceLeDiff, sl1, sl2, sl3, sl4, sl5, sl6, sl7, sl8, sl9, sl10, sl11, sl12, sl13, sl14, sl15, sl16, sl17, sl18, sl19, sl20, sl21, sl22, sl23, sl24, sl25, sl26, sl27, sl28, sl29, sl30, Nat.zero_le, R.bind_cg, Nat.zero_add, Option.map_some, Option.map_none]
    rw [fLc_map p pairD (fun x => .bool (get r x.1).isSome) rfl (fun x hx => ⟨_, rfl, rfl, ?_⟩) h.zl]
    · simp only [fVar, fC, fDat, fOp, fUn, fTest, fAnd, fOr, fNot, fAndV, fOrV, fNotV, fIf, aNil, aCons, allDR, allD, fTup, fLst, fCB, fCall, fSeq, fAsg, fSet, fRet, fRetV, fRetN, fIfS, fDrop, fNext, fIsi, fIsi2, fM, fSl, oS, oN, agName, sdRV, R.bind_ok, R.ofO_some, R.stx_ok, rdSD_d, rdSD_o, asDR_d, asDR_nl, asAR_d, asAR_nl, asAR_o, asBR_b, seqO_nx, seqO_rt, o1A_d, o2A_d, asIR_i, rtSD_d, List.getElem?_cons_zero, List.getElem?_cons_succ, List.set_cons_zero, List.set_cons_succ, if_true, if_false, Bool.false_eq_true, reduceIte, Bool.not_true, Bool.not_false, slots, List.map_cons, List.map_nil, avS, List.length_cons, List.length_nil, List.replicate_succ, List.replicate_zero, List.cons_append, List.nil_append, Nat.reduceAdd, Nat.reduceSub, Nat.reduceLeDiff, sl1, sl2, sl3, sl4, sl5, sl6, sl7, sl8, sl9, sl10, sl11, sl12, sl13, sl14, sl15, sl16, sl17, sl18, sl19, sl20, sl21, sl22, sl23, sl24, sl25, sl26, sl27, sl28, sl29, sl30, Nat.zero_le, R.bind_cg, Nat.zero_add, Option.map_some, Option.map_none, oAll_map]
      cases d : p.all fun x => (get r x.1).isSome with
      | false =>
        have : roomP p r = none := if_pos (.inr (by rw [d]; exact Bool.false_ne_true))
        simp only [fVar, fC, fDat, fOp, fUn, fTest, fAnd, fOr, fNot, fAndV, fOrV, fNotV, fIf, aNil, aCons, allDR, allD, fTup, fLst, fCB, fCall, fSeq, fAsg, fSet, fRet, fRetV, fRetN, fIfS, fDrop, fNext, fIsi, fIsi2, fM, fSl, oS, oN, agName, sdRV, R.bind_ok, R.ofO_some, R.stx_ok, rdSD_d, rdSD_o, asDR_d, asDR_nl, asAR_d, asAR_nl, asAR_o, asBR_b, seqO_nx, seqO_rt, o1A_d, o2A_d, asIR_i, rtSD_d, List.getElem?_cons_zero, List.getElem?_cons_succ, List.set_cons_zero, List.set_cons_succ, if_true, if_false, Bool.false_eq_true, reduceIte, Bool.not_true, Bool.not_false, slots, List.map_cons, List.map_nil, avS, List.length_cons, List.length_nil, List.replicate_succ, List.replicate_zero, List.cons_append, List.nil_append, Nat.reduceAdd, Nat.reduceSub, Nat.reduceLeDiff, sl1, sl2, sl3, sl4, sl5, sl6, sl7, sl8, sl9, sl10, sl11, sl12, sl13, sl14, sl15, sl16, sl17, sl18, sl19, sl20, sl21, sl22, sl23, sl24, sl25, sl26, sl27, sl28, sl29, sl30, Nat.zero_le, R.bind_cg, Nat.zero_add, Option.map_some, Option.map_none, this, optD]
      | true =>
        have hr : roomP p r = some (minI (p.map fun x => (get r x.1).getD 0 - x.2)) := if_neg (by rw [d]; simp [c])
        simp only [fVar, fC, fDat, fOp, fUn, fTest, fAnd, fOr, fNot, fAndV, fOrV, fNotV, fIf, aNil, aCons, allDR, allD, fTup, fLst, fCB, fCall, fSeq, fAsg, fSet, fRet, fRetV, fRetN, fIfS, fDrop, fNext, fIsi, fIsi2, fM, fSl, oS, oN, agName, sdRV, R.bind_ok, R.ofO_some, R.stx_ok, rdSD_d, rdSD_o, asDR_d, asDR_nl, asAR_d, asAR_nl, asAR_o, asBR_b, seqO_nx, seqO_rt, o1A_d, o2A_d, asIR_i, rtSD_d, List.getElem?_cons_zero, List.getElem?_cons_succ, List.set_cons_zero, List.set_cons_succ, if_true, if_false, Bool.false_eq_true, reduceIte, Bool.not_true, Bool.not_false, slots, List.map_cons, List.map_nil, avS, List.length_cons, List.length_nil, List.replicate_succ, List.replicate_zero, List.cons_append, List.nil_append, Nat.reduceAdd, Nat.reduceSub, Nat.reduceLeDiff, sl1, sl2, sl3, sl4, sl5, sl6, sl7, sl8, sl9, sl10, sl11, sl12, sl13, sl14, sl15, sl16, sl17, sl18, sl19, sl20, sl21, sl22, sl23, sl24, sl25, sl26, sl27, sl28, sl29, sl30, Nat.zero_le, R.bind_cg, Nat.zero_add, Option.map_some, Option.map_none, hr, optD]
        rw [fLc_map p pairD (fun x => .int ((get r x.1).getD 0 - x.2)) rfl (fun x hx => ⟨_, rfl, rfl, ?_⟩) h.zl]
        · simp only [fVar, fC, fDat, fOp, fUn, fTest, fAnd, fOr, fNot, fAndV, fOrV, fNotV, fIf, aNil, aCons, allDR, allD, fTup, fLst, fCB, fCall, fSeq, fAsg, fSet, fRet, fRetV, fRetN, fIfS, fDrop, fNext, fIsi, fIsi2, fM, fSl, oS, oN, agName, sdRV, R.bind_ok, R.ofO_some, R.stx_ok, rdSD_d, rdSD_o, asDR_d, asDR_nl, asAR_d, asAR_nl, asAR_o, asBR_b, seqO_nx, seqO_rt, o1A_d, o2A_d, asIR_i, rtSD_d, List.getElem?_cons_zero, List.getElem?_cons_succ, List.set_cons_zero, List.set_cons_succ, if_true, if_false, Bool.false_eq_true, reduceIte, Bool.not_true, Bool.not_false, slots, List.map_cons, List.map_nil, avS, List.length_cons, List.length_nil, List.replicate_succ, List.replicate_zero, List.cons_append, List.nil_append, Nat.reduceAdd, Nat.reduceSub, Nat.reduceLeDiff, sl1, sl2, sl3, sl4, sl5, sl6, sl7, sl8, sl9, sl10, sl11, sl12, sl13, sl14, sl15, sl16, sl17, sl18, sl19, sl20, sl21, sl22, sl23, sl24, sl25, sl26, sl27, sl28, sl29, sl30, Nat.zero_le, R.bind_cg, Nat.zero_add, Option.map_some, Option.map_none, oMinL, intsD_map, Option.bind_some]
          rw [if_pos (by simp [c])]
          rfl
        · have hs := List.all_eq_true.mp d x hx
          obtain ⟨k, e⟩ := Option.isSome_iff_exists.mp hs
          simp only [fVar, fC, fDat, fOp, fUn, fTest, fAnd, fOr, fNot, fAndV, fOrV, fNotV, fIf, aNil, aCons, allDR, allD, fTup, fLst, fCB, fCall, fSeq, fAsg, fSet, fRet, fRetV, fRetN, fIfS, fDrop, fNext, fIsi, fIsi2, fM, fSl, oS, oN, agName, sdRV, R.bind_ok, R.ofO_some, R.stx_ok, rdSD_d, rdSD_o, asDR_d, asDR_nl, asAR_d, asAR_nl, asAR_o, asBR_b, seqO_nx, seqO_rt, o1A_d, o2A_d, asIR_i, rtSD_d, List.getElem?_cons_zero, List.getElem?_cons_succ, List.set_cons_zero, List.set_cons_succ, if_true, if_false, Bool.false_eq_true, reduceIte, Bool.not_true, Bool.not_false, slots, List.map_cons, List.map_nil, avS, List.length_cons, List.length_nil, List.replicate_succ, List.replicate_zero, List.cons_append, List.nil_append, Nat.reduceAdd, Nat.reduceSub, Nat.reduceLeDiff, sl1, sl2, sl3, sl4, sl5, sl6, sl7, sl8, sl9, sl10, sl11, sl12, sl13, sl14, sl15, sl16, sl17, sl18, sl19, sl20, sl21, sl22, sl23, sl24, sl25, sl26, sl27, sl28, sl29, sl30, Nat.zero_le, R.bind_cg, Nat.zero_add, Option.map_some, Option.map_none, wipeD, oIx_kv e, e, oSub, Option.getD_some]
    · simp only [fVar, fC, fDat, fOp, fUn, fTest, fAnd, fOr, fNot, fAndV, fOrV, fNotV, fIf, aNil, aCons, allDR, allD, fTup, fLst, fCB, fCall, fSeq, fAsg, fSet, fRet, fRetV, fRetN, fIfS, fDrop, fNext, fIsi, fIsi2, fM, fSl, oS, oN, agName, sdRV, R.bind_ok, R.ofO_some, R.stx_ok, rdSD_d, rdSD_o, asDR_d, asDR_nl, asAR_d, asAR_nl, asAR_o, asBR_b, seqO_nx, seqO_rt, o1A_d, o2A_d, asIR_i, rtSD_d, List.getElem?_cons_zero, List.getElem?_cons_succ, List.set_cons_zero, List.set_cons_succ, if_true, if_false, Bool.false_eq_true, reduceIte, Bool.not_true, Bool.not_false, slots, List.map_cons, List.map_nil, avS, List.length_cons, List.length_nil, List.replicate_succ, List.replicate_zero, List.cons_append, List.nil_append, Nat.reduceAdd, Nat.reduceSub, Nat.reduceLeDiff, sl1, sl2, sl3, sl4, sl5, sl6, sl7, sl8, sl9, sl10, sl11, sl12, sl13, sl14, sl15, sl16, sl17, sl18, sl19, sl20, sl21, sl22, sl23, sl24, sl25, sl26, sl27, sl28, sl29, sl30, Nat.zero_le, R.bind_cg, Nat.zero_add, Option.map_some, Option.map_none, wipeD, oIn_kv]
theorem room_eq {W W' : List Str} {p r : Plan} (h : Pl W p) (h' : Pl W' r) (g : Gs) : F_room [.d (planD p), .d (planD r)] g = .ok (.d (optD (roomP p r))) g := by
  refine fn_rt rfl ?_
  unfold b_room
  simp only [fVar, fC, fDat, fOp, fUn, fTest, fAnd, fOr, fNot, fAndV, fOrV, fNotV, fIf, aNil, aCons, allDR, allD, fTup, fLst, fCB, fCall, fSeq, fAsg, fSet, fRet, fRetV, fRetN, fIfS, fDrop, fNext, fIsi, fIsi2, fM, fSl, oS, oN, agName, sdRV, R.bind_ok, R.ofO_some, R.stx_ok, rdSD_d, rdSD_o, asDR_d, asDR_nl, asAR_d, asAR_nl, asAR_o, asBR_b, seqO_nx, seqO_rt, o1A_d, o2A_d, asIR_i, rtSD_d, List.getElem?_cons_zero, List.getElem?_cons_succ, List.set_cons_zero, List.set_cons_succ, if_true, if_false, Bool.false_eq_true, reduceIte, Bool.not_true, Bool.not_false, slots, List.map_cons, List.map_nil, avS, List.length_cons, List.length_nil, List.replicate_succ, List.replicate_zero, List.cons_append, List.nil_append, Nat.reduceAdd, Nat.reduceSub, Nat.reduceLeDiff, sl1, sl2, sl3, sl4, sl5, sl6, sl7, sl8, sl9, sl10, sl11, sl12, sl13, sl14, sl15, sl16, sl17, sl18, sl19, sl20, sl21, sl22, sl23, sl24, sl25, sl26, sl27, sl28, sl29, sl30, Nat.zero_le, R.bind_cg, Nat.zero_add, Option.map_some, Option.map_none, need_two_ok h h', room_in_eq h h']
theorem normal_of_eq {W : List Str} {p : Plan} (h : Pl W p) (g : Gs) : F_normal_of [.d (planD p)] g = .ok (.d (planD (normalP p))) g := by
  refine fn_rt rfl ?_
  unfold b_normal_of
  simp only [fVar, fC, fDat, fOp, fUn, fTest, fAnd, fOr, fNot, fAndV, fOrV, fNotV, fIf, aNil, aCons, allDR, allD, fTup, fLst, fCB, fCall, fSeq, fAsg, fSet, fRet, fRetV, fRetN, fIfS, fDrop, fNext, fIsi, fIsi2, fM, fSl, oS, oN, agName, sdRV, R.bind_ok, R.ofO_some, R.stx_ok, rdSD_d, rdSD_o, asDR_d, asDR_nl, asAR_d, asAR_nl, asAR_o, asBR_b, seqO_nx, seqO_rt, o1A_d, o2A_d, asIR_i, rtSD_d, List.getElem?_cons_zero, List.getElem?_cons_succ, List.set_cons_zero, List.set_cons_succ, if_true, if_false, Bool.false_eq_true, reduceIte, Bool.not_true, Bool.not_false, slots, List.map_cons, List.map_nil, avS, List.length_cons, List.length_nil, List.replicate_succ, List.replicate_zero, List.cons_append, List.nil_append, Nat.reduceAdd, Nat.reduceSub, Nat.reduceLeDiff, sl1, sl2, sl3, sl4, sl5, sl6, sl7, sl8, sl9, sl10, sl11, sl12, sl13, sl14, sl15, sl16, sl17, sl18, sl19, sl20, sl21, sl22, sl23, sl24, sl25, sl26, sl27, sl28, sl29, sl30, Nat.zero_le, R.bind_cg, Nat.zero_add, Option.map_some, Option.map_none, fMaxD]
  rw [fLc_map p pairD (fun x => .int x.2) rfl (fun x hx => ⟨_, rfl, rfl, rfl⟩) h.zl]
  have e : oMaxD (.list (p.map fun x => PyData.int x.2)) (.int 0) = some (.d (.int (lastP p))) := by
    unfold oMaxD
    simp only [intsD_map, Option.map_some]
    unfold lastP
    by_cases c : p = []
    · rw [if_pos c, if_pos (by rw [c]; rfl)]
    · rw [if_neg c, if_neg (by simpa using c)]
  simp only [fVar, fC, fDat, fOp, fUn, fTest, fAnd, fOr, fNot, fAndV, fOrV, fNotV, fIf, aNil, aCons, allDR, allD, fTup, fLst, fCB, fCall, fSeq, fAsg, fSet, fRet, fRetV, fRetN, fIfS, fDrop, fNext, fIsi, fIsi2, fM, fSl, oS, oN, agName, sdRV, R.bind_ok, R.ofO_some, R.stx_ok, rdSD_d, rdSD_o, asDR_d, asDR_nl, asAR_d, asAR_nl, asAR_o, asBR_b, seqO_nx, seqO_rt, o1A_d, o2A_d, asIR_i, rtSD_d, List.getElem?_cons_zero, List.getElem?_cons_succ, List.set_cons_zero, List.set_cons_succ, if_true, if_false, Bool.false_eq_true, reduceIte, Bool.not_true, Bool.not_false, slots, List.map_cons, List.map_nil, avS, List.length_cons, List.length_nil, List.replicate_succ, List.replicate_zero, List.cons_append, List.nil_append, Nat.reduceAdd, Nat.reduceSub, Nat.reduceLeDiff, sl1, sl2, sl3, sl4, sl5, sl6, sl7, sl8, sl9, sl10, sl11, sl12, sl13, sl14, sl15, sl16, sl17, sl18, sl19, sl20, sl21, sl22, sl23, sl24, sl25, sl26, sl27, sl28, sl29, sl30, Nat.zero_le, R.bind_cg, Nat.zero_add, Option.map_some, Option.map_none, e, oNeg, put_by_eq h]
  rfl
theorem normal_eq {W : List Str} {p : Plan} (h : Pl W p) (g : Gs) : F_normal [.d (planD p)] g = .ok (.d (planD (normalP p))) g := by
  refine fn_rt rfl ?_
  unfold b_normal
  simp only [fVar, fC, fDat, fOp, fUn, fTest, fAnd, fOr, fNot, fAndV, fOrV, fNotV, fIf, aNil, aCons, allDR, allD, fTup, fLst, fCB, fCall, fSeq, fAsg, fSet, fRet, fRetV, fRetN, fIfS, fDrop, fNext, fIsi, fIsi2, fM, fSl, oS, oN, agName, sdRV, R.bind_ok, R.ofO_some, R.stx_ok, rdSD_d, rdSD_o, asDR_d, asDR_nl, asAR_d, asAR_nl, asAR_o, asBR_b, seqO_nx, seqO_rt, o1A_d, o2A_d, asIR_i, rtSD_d, List.getElem?_cons_zero, List.getElem?_cons_succ, List.set_cons_zero, List.set_cons_succ, if_true, if_false, Bool.false_eq_true, reduceIte, Bool.not_true, Bool.not_false, slots, List.map_cons, List.map_nil, avS, List.length_cons, List.length_nil, List.replicate_succ, List.replicate_zero, List.cons_append, List.nil_append, Nat.reduceAdd, Nat.reduceSub, Nat.reduceLeDiff, sl1, sl2, sl3, sl4, sl5, sl6, sl7, sl8, sl9, sl10, sl11, sl12, sl13, sl14, sl15, sl16, sl17, sl18, sl19, sl20, sl21, sl22, sl23, sl24, sl25, sl26, sl27, sl28, sl29, sl30, Nat.zero_le, R.bind_cg, Nat.zero_add, Option.map_some, Option.map_none, need_plan_ok h, normal_of_eq h]
end Pg

namespace Pg
open PySem L2 Fx
/-- the law's state is at d; n draws may still be made -/
structure GD (d : Addr) (n : Nat) (g : Gs) : Prop where
  q : ∃ l c, g.q = some (d, l, c)
  ok : GOk g n
theorem GD.le {d : Addr} {n m : Nat} {g : Gs} (h : GD d n g) (e : m ≤ n) : GD d m g := ⟨h.q, h.ok.le e⟩
theorem GD.st {d : Addr} {n : Nat} {g : Gs} (h : GD d n g) (ρ : List SD) : StOk (.o (.ref d) :: ρ) 0 g := by
  obtain ⟨l, c, e⟩ := h.q
  exact ⟨d, l, c, rfl, e⟩
theorem bits60 {i : Int} (h0 : 0 ≤ i) (h : i < 2 ^ 60) : Builtin.Int.intBits i ≤ 60 := by
  unfold Builtin.Int.intBits
  split
  · omega
  · have : i.natAbs.log2 < 60 := (Nat.log2_lt (by intro e; rename_i c; apply c; simp; omega)).mpr (by omega)
    omega
theorem oPow_ok {i : Int} {k : Int} (h0 : 0 ≤ i) (h : i < 2 ^ 60) (k0 : 0 ≤ k) (k1 : k ≤ 100) : oPow (.int i) (.int k) = some (.d (.int (i ^ k.toNat))) := by
  unfold oPow
  have := bits60 h0 h
  refine if_pos ⟨k0, ?_⟩
  have h1 : ((Builtin.Int.intBits i : Nat) : Int) * k ≤ 60 * 100 := Int.mul_le_mul (by omega) k1 k0 (by omega)
  exact Int.le_trans h1 (by decide)
theorem pop_loop (d : Addr) (ρ : List SD) (n : Nat) : ∀ (ls : List Int) (g : Gs), g.ls = ls → GD d n g →
    ∃ m g', whR (fAnd (fTest (fOp oEq (fStRest 0) (fC (.int 0)))) (fStLargeNe 0)) (fStPop 0) m (.o (.ref d) :: ρ) g = .ok (.nx (.o (.ref d) :: ρ)) g' ∧ GD d n g' := by
  intro ls
  induction ls with
  | nil =>
    intro g hl h
    refine ⟨1, g, ?_, h⟩
    have : fAnd (fTest (fOp oEq (fStRest 0) (fC (.int 0)))) (fStLargeNe 0) (.o (.ref d) :: ρ) g = .ok false g := by
      simp only [fVar, fC, fDat, fOp, fUn, fTest, fAnd, fOr, fNot, fAndV, fOrV, fNotV, fIf, aNil, aCons, allDR, allD, fTup, fLst, fCB, fCall, fSeq, fAsg, fSet, fRet, fRetV, fRetN, fIfS, fDrop, fNext, fIsi, fIsi2, fM, fSl, oS, oN, agName, sdRV, R.bind_ok, R.ofO_some, R.stx_ok, rdSD_d, rdSD_o, asDR_d, asDR_nl, asAR_d, asAR_nl, asAR_o, asBR_b, seqO_nx, seqO_rt, o1A_d, o2A_d, asIR_i, rtSD_d, List.getElem?_cons_zero, List.getElem?_cons_succ, List.set_cons_zero, List.set_cons_succ, if_true, if_false, Bool.false_eq_true, reduceIte, Bool.not_true, Bool.not_false, slots, List.map_cons, List.map_nil, avS, List.length_cons, List.length_nil, List.replicate_succ, List.replicate_zero, List.cons_append, List.nil_append, Nat.reduceAdd, Nat.reduceSub, Nat.reduceLeDiff, sl1, sl2, sl3, sl4, sl5, sl6, sl7, sl8, sl9, sl10, sl11, sl12, sl13, sl14, sl15, sl16, sl17, sl18, sl19, sl20, sl21, sl22, sl23, sl24, sl25, sl26, sl27, sl28, sl29, sl30, Nat.zero_le, R.bind_cg, Nat.zero_add, Option.map_some, Option.map_none, fStRest, fStLargeNe, stIf_eq _ (h.st ρ), oEq_int, hl]
      by_cases c : g.rest = 0 <;> simp [c]
    rw [whR, this]
    rfl
  | cons x r ih =>
    intro g hl h
    by_cases c : g.rest = 0
    · have h' : GD d n { g with ls := r, rest := x } := ⟨h.q, ⟨h.ok.l0 x (by rw [hl]; simp), fun y hy => h.ok.l0 y (by rw [hl]; simp [hy]), h.ok.t0, h.ok.tn, h.ok.q0⟩⟩
      obtain ⟨m, g', e, k⟩ := ih _ rfl h'
      refine ⟨m + 1, g', ?_, k⟩
      have e1 : fAnd (fTest (fOp oEq (fStRest 0) (fC (.int 0)))) (fStLargeNe 0) (.o (.ref d) :: ρ) g = .ok true g := by
        simp only [fVar, fC, fDat, fOp, fUn, fTest, fAnd, fOr, fNot, fAndV, fOrV, fNotV, fIf, aNil, aCons, allDR, allD, fTup, fLst, fCB, fCall, fSeq, fAsg, fSet, fRet, fRetV, fRetN, fIfS, fDrop, fNext, fIsi, fIsi2, fM, fSl, oS, oN, agName, sdRV, R.bind_ok, R.ofO_some, R.stx_ok, rdSD_d, rdSD_o, asDR_d, asDR_nl, asAR_d, asAR_nl, asAR_o, asBR_b, seqO_nx, seqO_rt, o1A_d, o2A_d, asIR_i, rtSD_d, List.getElem?_cons_zero, List.getElem?_cons_succ, List.set_cons_zero, List.set_cons_succ, if_true, if_false, Bool.false_eq_true, reduceIte, Bool.not_true, Bool.not_false, slots, List.map_cons, List.map_nil, avS, List.length_cons, List.length_nil, List.replicate_succ, List.replicate_zero, List.cons_append, List.nil_append, Nat.reduceAdd, Nat.reduceSub, Nat.reduceLeDiff, sl1, sl2, sl3, sl4, sl5, sl6, sl7, sl8, sl9, sl10, sl11, sl12, sl13, sl14, sl15, sl16, sl17, sl18, sl19, sl20, sl21, sl22, sl23, sl24, sl25, sl26, sl27, sl28, sl29, sl30, Nat.zero_le, R.bind_cg, Nat.zero_add, Option.map_some, Option.map_none, fStRest, fStLargeNe, stIf_eq _ (h.st ρ), oEq_int, hl, c, decide_true]
        rfl
      have e2 : fStPop 0 (.o (.ref d) :: ρ) g = .ok (.nx (.o (.ref d) :: ρ)) { g with ls := r, rest := x } := by
        unfold fStPop
        rw [stIf_eq _ (h.st ρ), hl]
      rw [whR, e1]
      simp only [fVar, fC, fDat, fOp, fUn, fTest, fAnd, fOr, fNot, fAndV, fOrV, fNotV, fIf, aNil, aCons, allDR, allD, fTup, fLst, fCB, fCall, fSeq, fAsg, fSet, fRet, fRetV, fRetN, fIfS, fDrop, fNext, fIsi, fIsi2, fM, fSl, oS, oN, agName, sdRV, R.bind_ok, R.ofO_some, R.stx_ok, rdSD_d, rdSD_o, asDR_d, asDR_nl, asAR_d, asAR_nl, asAR_o, asBR_b, seqO_nx, seqO_rt, o1A_d, o2A_d, asIR_i, rtSD_d, List.getElem?_cons_zero, List.getElem?_cons_succ, List.set_cons_zero, List.set_cons_succ, if_true, if_false, Bool.false_eq_true, reduceIte, Bool.not_true, Bool.not_false, slots, List.map_cons, List.map_nil, avS, List.length_cons, List.length_nil, List.replicate_succ, List.replicate_zero, List.cons_append, List.nil_append, Nat.reduceAdd, Nat.reduceSub, Nat.reduceLeDiff, sl1, sl2, sl3, sl4, sl5, sl6, sl7, sl8, sl9, sl10, sl11, sl12, sl13, sl14, sl15, sl16, sl17, sl18, sl19, sl20, sl21, sl22, sl23, sl24, sl25, sl26, sl27, sl28, sl29, sl30, Nat.zero_le, R.bind_cg, Nat.zero_add, Option.map_some, Option.map_none, e2, forO_nx]
      exact e
    · refine ⟨1, g, ?_, h⟩
      have : fAnd (fTest (fOp oEq (fStRest 0) (fC (.int 0)))) (fStLargeNe 0) (.o (.ref d) :: ρ) g = .ok false g := by
        simp only [fVar, fC, fDat, fOp, fUn, fTest, fAnd, fOr, fNot, fAndV, fOrV, fNotV, fIf, aNil, aCons, allDR, allD, fTup, fLst, fCB, fCall, fSeq, fAsg, fSet, fRet, fRetV, fRetN, fIfS, fDrop, fNext, fIsi, fIsi2, fM, fSl, oS, oN, agName, sdRV, R.bind_ok, R.ofO_some, R.stx_ok, rdSD_d, rdSD_o, asDR_d, asDR_nl, asAR_d, asAR_nl, asAR_o, asBR_b, seqO_nx, seqO_rt, o1A_d, o2A_d, asIR_i, rtSD_d, List.getElem?_cons_zero, List.getElem?_cons_succ, List.set_cons_zero, List.set_cons_succ, if_true, if_false, Bool.false_eq_true, reduceIte, Bool.not_true, Bool.not_false, slots, List.map_cons, List.map_nil, avS, List.length_cons, List.length_nil, List.replicate_succ, List.replicate_zero, List.cons_append, List.nil_append, Nat.reduceAdd, Nat.reduceSub, Nat.reduceLeDiff, sl1, sl2, sl3, sl4, sl5, sl6, sl7, sl8, sl9, sl10, sl11, sl12, sl13, sl14, sl15, sl16, sl17, sl18, sl19, sl20, sl21, sl22, sl23, sl24, sl25, sl26, sl27, sl28, sl29, sl30, Nat.zero_le, R.bind_cg, Nat.zero_add, Option.map_some, Option.map_none, fStRest, fStLargeNe, stIf_eq _ (h.st ρ), oEq_int, c, decide_false]
      rw [whR, this]
      rfl
theorem atI_in {α : Type} (xs : List α) {i : Int} (h0 : 0 ≤ i) (h1 : i < xs.length) : ∃ x ∈ xs, atI xs i = some x := by
  have hi : i.toNat < xs.length := by omega
  refine ⟨xs[i.toNat], List.getElem_mem hi, ?_⟩
  show (ixN xs.length i).bind (fun j => xs[j]?) = _
  unfold ixN
  rw [if_pos h0, if_pos h1]
  exact List.getElem?_eq_getElem hi
theorem draw_ok {d : Addr} {n : Nat} {g : Gs} (h : GD d n g) (hn : 1 ≤ n) {k : Int} (hk : 0 < k) (hk2 : k < 2 ^ 40) :
    ∃ v g', F__law_draw [.o (.ref d), .d (.int k)] g = .ok (.d (.int v)) g' ∧ 0 ≤ v ∧ v < k ∧ GD d (n - 1) g' := by
  obtain ⟨m, g1, e, h1⟩ := pop_loop d [.d (.int k), .u, .u, .u, .u] n g.ls g rfl h
  have ew := fWhile_eq e (fun z => by cases z)
  by_cases c : g1.rest > 0
  · refine ⟨g1.rest % k, { g1 with rest := g1.rest / k }, fn_rt rfl ?_, Int.emod_nonneg _ (by omega), Int.emod_lt_of_pos _ hk, h1.q, ⟨Int.ediv_nonneg (by omega) (by omega), h1.ok.l0, h1.ok.t0, by have := h1.ok.tn; show g1.turn + ((n - 1 : Nat) : Int) ≤ _; omega, h1.ok.q0⟩⟩
    unfold b__law_draw
    have st := h1.st
    have lk : k.natAbs.log2 < 9000 := by
      have : k.natAbs.log2 < 40 := (Nat.log2_lt (by omega)).mpr (by omega)
      omega
    simp only [fVar, fC, fDat, fOp, fUn, fTest, fAnd, fOr, fNot, fAndV, fOrV, fNotV, fIf, aNil, aCons, allDR, allD, fTup, fLst, fCB, fCall, fSeq, fAsg, fSet, fRet, fRetV, fRetN, fIfS, fDrop, fNext, fIsi, fIsi2, fM, fSl, oS, oN, agName, sdRV, R.bind_ok, R.ofO_some, R.stx_ok, rdSD_d, rdSD_o, asDR_d, asDR_nl, asAR_d, asAR_nl, asAR_o, asBR_b, seqO_nx, seqO_rt, o1A_d, o2A_d, asIR_i, rtSD_d, List.getElem?_cons_zero, List.getElem?_cons_succ, List.set_cons_zero, List.set_cons_succ, if_true, if_false, Bool.false_eq_true, reduceIte, Bool.not_true, Bool.not_false, slots, List.map_cons, List.map_nil, avS, List.length_cons, List.length_nil, List.replicate_succ, List.replicate_zero, List.cons_append, List.nil_append, Nat.reduceAdd, Nat.reduceSub, Nat.reduceLeDiff, sl1, sl2, sl3, sl4, sl5, sl6, sl7, sl8, sl9, sl10, sl11, sl12, sl13, sl14, sl15, sl16, sl17, sl18, sl19, sl20, sl21, sl22, sl23, sl24, sl25, sl26, sl27, sl28, sl29, sl30, Nat.zero_le, R.bind_cg, Nat.zero_add, Option.map_some, Option.map_none, ew, fStRest, stIf_eq _ (st _), oGt, oCmp, c, decide_true, oInt, oMod, hk, fStPutRest, oDiv, lk, and_self]
  · have e0 : g1.rest = 0 := by have := h1.ok.r0; omega
    have st := h1.st
    have t1 := h1.ok.t0
    have tn := h1.ok.tn
    have ht : GD d (n - 1) { g1 with turn := g1.turn + 1 } := ⟨h1.q, ⟨h1.ok.r0, h1.ok.l0, by show 0 ≤ g1.turn + 1; omega, by show g1.turn + 1 + ((n - 1 : Nat) : Int) ≤ _; omega, h1.ok.q0⟩⟩
    have hcell : ∃ z : Int, fIf (fStCellsNe 0) (fStCell 0 (fOp oMod (fCB (o1A oInt) (aCons (fVar 2) aNil)) (fStCellsLen 0))) (fC (.int 0)) [.o (.ref d), .d (.int k), .d (.int (g1.turn + 1)), .u, .u, .u] { g1 with turn := g1.turn + 1 } = .ok (.d (.int z)) { g1 with turn := g1.turn + 1 } := by
      by_cases ce : g1.cs = []
      · refine ⟨0, ?_⟩
        have ie : g1.cs.isEmpty = true := by rw [ce]; rfl
        simp only [fVar, fC, fDat, fOp, fUn, fTest, fAnd, fOr, fNot, fAndV, fOrV, fNotV, fIf, aNil, aCons, allDR, allD, fTup, fLst, fCB, fCall, fSeq, fAsg, fSet, fRet, fRetV, fRetN, fIfS, fDrop, fNext, fIsi, fIsi2, fM, fSl, oS, oN, agName, sdRV, R.bind_ok, R.ofO_some, R.stx_ok, rdSD_d, rdSD_o, asDR_d, asDR_nl, asAR_d, asAR_nl, asAR_o, asBR_b, seqO_nx, seqO_rt, o1A_d, o2A_d, asIR_i, rtSD_d, List.getElem?_cons_zero, List.getElem?_cons_succ, List.set_cons_zero, List.set_cons_succ, if_true, if_false, Bool.false_eq_true, reduceIte, Bool.not_true, Bool.not_false, slots, List.map_cons, List.map_nil, avS, List.length_cons, List.length_nil, List.replicate_succ, List.replicate_zero, List.cons_append, List.nil_append, Nat.reduceAdd, Nat.reduceSub, Nat.reduceLeDiff, sl1, sl2, sl3, sl4, sl5, sl6, sl7, sl8, sl9, sl10, sl11, sl12, sl13, sl14, sl15, sl16, sl17, sl18, sl19, sl20, sl21, sl22, sl23, sl24, sl25, sl26, sl27, sl28, sl29, sl30, Nat.zero_le, R.bind_cg, Nat.zero_add, Option.map_some, Option.map_none, fStCellsNe, stIf_eq _ (ht.st _), ie]
      · have hp : (0 : Int) < g1.cs.length := by have := List.length_pos_iff.mpr ce; omega
        obtain ⟨z, _, hz⟩ := atI_in g1.cs (i := (g1.turn + 1) % (g1.cs.length : Int)) (Int.emod_nonneg _ (by omega)) (Int.emod_lt_of_pos _ hp)
        have ie : g1.cs.isEmpty = false := by cases hc : g1.cs with
          | nil => exact absurd hc ce
          | cons _ _ => rfl
        refine ⟨z, ?_⟩
        simp only [fVar, fC, fDat, fOp, fUn, fTest, fAnd, fOr, fNot, fAndV, fOrV, fNotV, fIf, aNil, aCons, allDR, allD, fTup, fLst, fCB, fCall, fSeq, fAsg, fSet, fRet, fRetV, fRetN, fIfS, fDrop, fNext, fIsi, fIsi2, fM, fSl, oS, oN, agName, sdRV, R.bind_ok, R.ofO_some, R.stx_ok, rdSD_d, rdSD_o, asDR_d, asDR_nl, asAR_d, asAR_nl, asAR_o, asBR_b, seqO_nx, seqO_rt, o1A_d, o2A_d, asIR_i, rtSD_d, List.getElem?_cons_zero, List.getElem?_cons_succ, List.set_cons_zero, List.set_cons_succ, if_true, if_false, Bool.false_eq_true, reduceIte, Bool.not_true, Bool.not_false, slots, List.map_cons, List.map_nil, avS, List.length_cons, List.length_nil, List.replicate_succ, List.replicate_zero, List.cons_append, List.nil_append, Nat.reduceAdd, Nat.reduceSub, Nat.reduceLeDiff, sl1, sl2, sl3, sl4, sl5, sl6, sl7, sl8, sl9, sl10, sl11, sl12, sl13, sl14, sl15, sl16, sl17, sl18, sl19, sl20, sl21, sl22, sl23, sl24, sl25, sl26, sl27, sl28, sl29, sl30, Nat.zero_le, R.bind_cg, Nat.zero_add, Option.map_some, Option.map_none, fStCellsNe, stIf_eq _ (ht.st _), ie, fStCell, fStCellsLen, oInt, oMod, hp, keepG_ok, hz]
    obtain ⟨z, hz⟩ := hcell
    have z0 : 0 ≤ z % 2147483629 := Int.emod_nonneg _ (by omega)
    have z1 : z % 2147483629 < 2147483629 := Int.emod_lt_of_pos _ (by omega)
    have q1 : oPow (.int (z % 2147483629 + 48271 * (g1.turn + 1) + 13579)) (.int 3) = some (.d (.int ((z % 2147483629 + 48271 * (g1.turn + 1) + 13579) ^ (3 : Int).toNat))) := oPow_ok (by omega) (by omega) (by omega) (by omega)
    have m1 : ∀ a b : Int, 0 ≤ a → a < 2 ^ 60 → oMul (.int a) (.int b) = some (.d (.int (a * b))) := fun a b ha hb => if_pos (.inl (.inl ⟨by omega, by omega⟩))
    generalize hx : (z % 2147483629 + 48271 * (g1.turn + 1) + 13579) ^ (3 : Int).toNat = X at q1
    have x0 : 0 ≤ X % 2147483647 := Int.emod_nonneg _ (by omega)
    have x1 : X % 2147483647 < 2147483647 := Int.emod_lt_of_pos _ (by omega)
    have q2 : oPow (.int (X % 2147483647 + 99991 * (g1.turn + 1))) (.int 5) = some (.d (.int ((X % 2147483647 + 99991 * (g1.turn + 1)) ^ (5 : Int).toNat))) := oPow_ok (by omega) (by omega) (by omega) (by omega)
    generalize hy : (X % 2147483647 + 99991 * (g1.turn + 1)) ^ (5 : Int).toNat = Y at q2
    have d1 : oDiv (.int (Y % 2147483587)) (.int 23) = some (.d (.int (Y % 2147483587 / 23))) := by
      have hc : (0 : Int) < 23 ∧ (23 : Int).natAbs.log2 < 9000 := ⟨by omega, by decide⟩
      show (if (0 : Int) < 23 ∧ (23 : Int).natAbs.log2 < 9000 then some (RV.d (.int (Y % 2147483587 / 23))) else none) = _
      rw [if_pos hc]
    refine ⟨Y % 2147483587 / 23 % k, { g1 with turn := g1.turn + 1 }, fn_rt rfl ?_, Int.emod_nonneg _ (by omega), Int.emod_lt_of_pos _ hk, ht⟩
    unfold b__law_draw
    have n1 : (0 : Int) < 2147483629 := by omega
    have n2 : (0 : Int) < 2147483647 := by omega
    have n3 : (0 : Int) < 2147483587 := by omega
    have m2 := m1 48271 (g1.turn + 1) (by omega) (by omega)
    have m3 := m1 99991 (g1.turn + 1) (by omega) (by omega)
    have e0d : decide (0 < g1.rest) = false := decide_eq_false c
    simp only [fVar, fC, fDat, fOp, fUn, fTest, fAnd, fOr, fNot, fAndV, fOrV, fNotV, aNil, aCons, allDR, allD, fTup, fLst, fCB, fCall, fSeq, fAsg, fSet, fRet, fRetV, fRetN, fIfS, fDrop, fNext, fIsi, fIsi2, fM, fSl, oS, oN, agName, sdRV, R.bind_ok, R.ofO_some, R.stx_ok, rdSD_d, rdSD_o, asDR_d, asDR_nl, asAR_d, asAR_nl, asAR_o, asBR_b, seqO_nx, seqO_rt, o1A_d, o2A_d, asIR_i, rtSD_d, List.getElem?_cons_zero, List.getElem?_cons_succ, List.set_cons_zero, List.set_cons_succ, if_true, if_false, Bool.false_eq_true, reduceIte, Bool.not_true, Bool.not_false, slots, List.map_cons, List.map_nil, avS, List.length_cons, List.length_nil, List.replicate_succ, List.replicate_zero, List.cons_append, List.nil_append, Nat.reduceAdd, Nat.reduceSub, Nat.reduceLeDiff, sl1, sl2, sl3, sl4, sl5, sl6, sl7, sl8, sl9, sl10, sl11, sl12, sl13, sl14, sl15, sl16, sl17, sl18, sl19, sl20, sl21, sl22, sl23, sl24, sl25, sl26, sl27, sl28, sl29, sl30, Nat.zero_le, R.bind_cg, Nat.zero_add, Option.map_some, Option.map_none, ew, fStRest, fStTurn, stIf_eq _ (st _), oGt, oCmp, e0d, oAdd, fStPutTurn, hz, oInt, oMod, n1, n2, n3, m2, q1, m3, q2, d1, hk]
theorem pick_ok {d : Addr} {n : Nat} {g : Gs} (h : GD d n g) (hn : 1 ≤ n) (xs : List PyData) (hx : xs ≠ []) (hl : xs.length ≤ 1000) :
    ∃ x ∈ xs, ∃ g', F__law_pick [.o (.ref d), .d (.list xs)] g = .ok (.d x) g' ∧ GD d (n - 1) g' := by
  have hp := List.length_pos_iff.mpr hx
  obtain ⟨v, g', e, v0, v1, h'⟩ := draw_ok h hn (k := (xs.length : Int)) (by omega) (by omega)
  obtain ⟨x, hm, ex⟩ := atI_in xs v0 v1
  refine ⟨x, hm, g', fn_rt rfl ?_, h'⟩
  unfold b__law_pick
  have : oIx (.list xs) (.int v) = some (.d x) := by show (atI xs v).map RV.d = _; rw [ex]; rfl
  simp only [fVar, fC, fDat, fOp, fUn, fTest, fAnd, fOr, fNot, fAndV, fOrV, fNotV, fIf, aNil, aCons, allDR, allD, fTup, fLst, fCB, fCall, fSeq, fAsg, fSet, fRet, fRetV, fRetN, fIfS, fDrop, fNext, fIsi, fIsi2, fM, fSl, oS, oN, agName, sdRV, R.bind_ok, R.ofO_some, R.stx_ok, rdSD_d, rdSD_o, asDR_d, asDR_nl, asAR_d, asAR_nl, asAR_o, asBR_b, seqO_nx, seqO_rt, o1A_d, o2A_d, asIR_i, rtSD_d, List.getElem?_cons_zero, List.getElem?_cons_succ, List.set_cons_zero, List.set_cons_succ, if_true, if_false, Bool.false_eq_true, reduceIte, Bool.not_true, Bool.not_false, slots, List.map_cons, List.map_nil, avS, List.length_cons, List.length_nil, List.replicate_succ, List.replicate_zero, List.cons_append, List.nil_append, Nat.reduceAdd, Nat.reduceSub, Nat.reduceLeDiff, sl1, sl2, sl3, sl4, sl5, sl6, sl7, sl8, sl9, sl10, sl11, sl12, sl13, sl14, sl15, sl16, sl17, sl18, sl19, sl20, sl21, sl22, sl23, sl24, sl25, sl26, sl27, sl28, sl29, sl30, Nat.zero_le, R.bind_cg, Nat.zero_add, Option.map_some, Option.map_none, oLen_list, e, this]
theorem pickS_ok {d : Addr} {n : Nat} {g : Gs} (h : GD d n g) (hn : 1 ≤ n) (z : Str) (hz : 1 ≤ z.length) (hl : z.length ≤ 1000) :
    ∃ c ∈ z.cps.toList, ∃ g', F__law_pick [.o (.ref d), .d (.str z)] g = .ok (.d (.str ⟨#[c]⟩)) g' ∧ GD d (n - 1) g' := by
  obtain ⟨v, g', e, v0, v1, h'⟩ := draw_ok h hn (k := (z.length : Int)) (by omega) (by omega)
  obtain ⟨x, hm, ex⟩ := atI_in z.cps.toList v0 v1
  have hs : z.length ≤ sizeLine := Nat.le_trans hl (by decide)
  refine ⟨x, hm, g', fn_rt rfl ?_, h'⟩
  unfold b__law_pick
  have : oIx (.str z) (.int v) = some (.d (.str ⟨#[x]⟩)) := by show (if z.length ≤ sizeLine then (atI z.cps.toList v).map _ else none) = _; rw [if_pos hs, ex]; rfl
  simp only [fVar, fC, fDat, fOp, fUn, fTest, fAnd, fOr, fNot, fAndV, fOrV, fNotV, fIf, aNil, aCons, allDR, allD, fTup, fLst, fCB, fCall, fSeq, fAsg, fSet, fRet, fRetV, fRetN, fIfS, fDrop, fNext, fIsi, fIsi2, fM, fSl, oS, oN, agName, sdRV, R.bind_ok, R.ofO_some, R.stx_ok, rdSD_d, rdSD_o, asDR_d, asDR_nl, asAR_d, asAR_nl, asAR_o, asBR_b, seqO_nx, seqO_rt, o1A_d, o2A_d, asIR_i, rtSD_d, List.getElem?_cons_zero, List.getElem?_cons_succ, List.set_cons_zero, List.set_cons_succ, if_true, if_false, Bool.false_eq_true, reduceIte, Bool.not_true, Bool.not_false, slots, List.map_cons, List.map_nil, avS, List.length_cons, List.length_nil, List.replicate_succ, List.replicate_zero, List.cons_append, List.nil_append, Nat.reduceAdd, Nat.reduceSub, Nat.reduceLeDiff, sl1, sl2, sl3, sl4, sl5, sl6, sl7, sl8, sl9, sl10, sl11, sl12, sl13, sl14, sl15, sl16, sl17, sl18, sl19, sl20, sl21, sl22, sl23, sl24, sl25, sl26, sl27, sl28, sl29, sl30, Nat.zero_le, R.bind_cg, Nat.zero_add, Option.map_some, Option.map_none, oLen_str hs, e, this]
end Pg

namespace Pg
open PySem L2 Fx
/-! ### comprehensions that draw -/
theorem cpR_st {step : PyData → List PyData → Gs → R (List PyData)} (Inv : Nat → Gs → Prop) (Pr : PyData → Prop) : ∀ (ds : List PyData) (acc : List PyData) (g : Gs), Inv ds.length g → acc.length + ds.length ≤ sizeLine →
    (∀ x ∈ ds, ∀ (m : Nat) (acc : List PyData) (g : Gs), Inv (m + 1) g → acc.length < sizeLine → ∃ y g', step x acc g = .ok (acc ++ [y]) g' ∧ Pr y ∧ Inv m g') →
    ∃ ys g', cpR step ds acc g = .ok (acc ++ ys) g' ∧ ys.length = ds.length ∧ (∀ y ∈ ys, Pr y) ∧ Inv 0 g'
  | [], acc, g, h, _, _ => ⟨[], g, by simp [cpR], rfl, by simp, h⟩
  | x :: ds, acc, g, h, hz, hs => by
    have hz' : acc.length + (ds.length + 1) ≤ sizeLine := hz
    obtain ⟨y, g1, e, py, i1⟩ := hs x (by simp) ds.length acc g h (by omega)
    obtain ⟨ys, g2, e2, l2, p2, i2⟩ := cpR_st Inv Pr ds (acc ++ [y]) g1 i1 (by simp; omega) fun z hz => hs z (by simp [hz])
    refine ⟨y :: ys, g2, ?_, by simp [l2], fun z hz => ?_, i2⟩
    · rw [cpR, e]
      simp only [R.bind_ok]
      rw [e2, List.append_assoc]
      rfl
    · rcases List.mem_cons.mp hz with rfl | hz
      · exact py
      · exact p2 z hz
theorem fLc_st {fi : EFi} {fg : EFg} {fe : EF} {vs : List Nat} {ρ : List SD} {g g1 : Gs} {ds : List PyData} (Inv : Nat → Gs → Prop) (Pr : PyData → Prop) (hi : fi ρ g = .ok ds g1) (h0 : Inv ds.length g1) (hz : ds.length ≤ sizeLine)
    (hs : ∀ x ∈ ds, ∀ (m : Nat) (g : Gs), Inv (m + 1) g → ∃ ρ2 y g', fg x (wipeD ρ vs) = some ρ2 ∧ fDat fe ρ2 g = .ok y g' ∧ Pr y ∧ Inv m g') :
    ∃ ys g', fLc fi fg fYes fe vs ρ g = .ok (.nl ys) g' ∧ ys.length = ds.length ∧ (∀ y ∈ ys, Pr y) ∧ Inv 0 g' := by
  obtain ⟨ys, g', e, l, p, i⟩ := cpR_st (step := cpStep fg fYes (bLst fe) (wipeD ρ vs)) Inv Pr ds [] g1 h0 (by simpa using hz) (fun x hx m acc g h ha => by
    obtain ⟨ρ2, y, g', h1, h2, h3, h4⟩ := hs x hx m g h
    refine ⟨y, g', ?_, h3, h4⟩
    rw [cpStep_eq h1]
    unfold fYes bLst
    simp only [R.bind_ok, if_true, h2]
    rw [if_pos ha])
  refine ⟨ys, g', ?_, l, p, i⟩
  unfold fLc fCp
  rw [hi]
  simp only [R.bind_ok, e, List.nil_append, R.nox_ok]
/-! ### names -/
theorem join_cps : ∀ cs : List Nat, (Txt.join (Str.ofString "") (cs.map fun c => (⟨#[c]⟩ : Str))).cps.toList = cs := by
  intro cs
  have key : ∀ cs : List Nat, (Str.join (Str.ofString "") (cs.map fun c => (⟨#[c]⟩ : Str))).cps.toList = cs := by
    intro cs
    induction cs with
    | nil => rfl
    | cons c r ih =>
      cases r with
      | nil => rfl
      | cons d r =>
        show ((⟨#[c]⟩ : Str) ++ Str.ofString "" ++ Str.join (Str.ofString "") ((d :: r).map fun c => (⟨#[c]⟩ : Str))).cps.toList = _
        have e : ∀ a b : Str, (a ++ b).cps.toList = a.cps.toList ++ b.cps.toList := fun a b => by
          show (a.cps ++ b.cps).toList = _
          simp
        rw [e, e, ih]
        rfl
  show (Builtin.Str.glued (Str.ofString "") _).cps.toList = _
  rw [StrLaws.glued_eq_join]
  exact key cs
theorem strsD_map {α : Type} (f : α → Str) (l : List α) : strsD (l.map fun x => PyData.str (f x)) = some (l.map f) := by
  induction l with
  | nil => rfl
  | cons x l ih => show (strsD (l.map fun x => PyData.str (f x))).map (f x :: ·) = _; rw [ih]; rfl
theorem len_cps (n : Str) : n.length = n.cps.toList.length := rfl
theorem okName_of {n : Str} (h : okName n = true) : OkName n := (okName_iff n).mp h
/-! ### sorted names -/
theorem sortOk_strs (q : List Str) : SortOk (q.map .str) where
  al := fun d hd d' hd' => by
    obtain ⟨x, _, rfl⟩ := List.mem_map.mp hd
    obtain ⟨y, _, rfl⟩ := List.mem_map.mp hd'
    simp [PySem.W.alike]
  so := .inr fun d hd => by
    obtain ⟨x, _, rfl⟩ := List.mem_map.mp hd
    exact And.intro (fun z => nomatch z) (fun ys z => nomatch z)
  no := by
    induction q with
    | nil => rfl
    | cons x r ih => show (noL (.str x) && noLA (r.map PyData.str)) = true; rw [ih]; rfl
  dp := fun d hd => by
    obtain ⟨x, _, rfl⟩ := List.mem_map.mp hd
    simp [PyData.depth]
def unstr : PyData → Str
  | .str n => n
  | _ => ""
theorem sort_strs (q : List Str) (hn : q.Nodup) : ∃ q' : List Str, sortD (q.map .str) = q'.map .str ∧ q'.Perm q ∧ q'.Pairwise fun a b => slt a b = true := by
  have hp := List.mergeSort_perm (q.map PyData.str) (PySem.W.dataLe false id)
  have hs := PySem.W.sort_pairwise (PySem.W.sortLe_total (PyProof.Rows.listOrd PyProof.Rows.itemOrd) false fun b : PyData => PySem.W.keyToks (id b)) (q.map PyData.str)
  have perm : ((sortD (q.map PyData.str)).map unstr).Perm q := by
    have := hp.map unstr
    rw [List.map_map] at this
    have e : (unstr ∘ PyData.str) = id := rfl
    rw [e, List.map_id] at this
    exact this
  refine ⟨(sortD (q.map PyData.str)).map unstr, ?_, perm, ?_⟩
  · rw [List.map_map]
    have : ∀ d ∈ sortD (q.map PyData.str), (PyData.str ∘ unstr) d = d := fun d hd => by
      obtain ⟨x, _, rfl⟩ := List.mem_map.mp (hp.mem_iff.mp hd)
      rfl
    rw [List.map_congr_left this, List.map_id']
  · rw [List.pairwise_map]
    have hne : (sortD (q.map PyData.str)).Pairwise fun a b => unstr a ≠ unstr b := List.pairwise_map.mp (perm.nodup_iff.mpr hn)
    refine (List.Pairwise.and hs hne).imp_of_mem fun {a b} ha hb h => ?_
    obtain ⟨x, _, rfl⟩ := List.mem_map.mp (hp.mem_iff.mp ha)
    obtain ⟨y, _, rfl⟩ := List.mem_map.mp (hp.mem_iff.mp hb)
    have le : (!PySem.W.dataLt (.str y) (.str x)) = true := h.1
    rw [PySem.W.dataLt_str] at le
    show slt x y = true
    refine (slt_conn h.2).resolve_right fun z => ?_
    have z : decide (y.cps.toList < x.cps.toList) = true := z
    rw [z] at le; cases le
/-! ### the law's words -/
theorem letters_len : letters.length = 26 := by decide +kernel
theorem drawn_ok {d : Addr} {n : Nat} {g : Gs} (h : GD d n g) (hn : 7 ≤ n) (ρ : List SD) (hs : ρ = .o (.ref d) :: ρ.tail) (h2 : ρ[2]? = some (.d (.str letters))) (h7 : 7 < ρ.length) :
    ∃ w g', fM "str" oJoin (fC (.str "")) (aCons (fLc (iaRng1 (aCons (fOp oAdd (fC (.int 1)) (fCall F__law_draw (aCons (fVar 0) (aCons (fC (.int 6)) aNil)))) aNil)) (agName 7) fYes (fCall F__law_pick (aCons (fVar 0) (aCons (fVar 2) aNil))) [7]) aNil) ρ g = .ok (.d (.str w)) g' ∧ OkName w ∧ GD d (n - 7) g' := by
  have h0 : ρ[0]? = some (.o (.ref d)) := by rw [hs]; rfl
  obtain ⟨v, g1, e1, v0, v1, i1⟩ := draw_ok h (by omega) (k := 6) (by omega) (by omega)
  have hi : iaRng1 (aCons (fOp oAdd (fC (.int 1)) (fCall F__law_draw (aCons (fVar 0) (aCons (fC (.int 6)) aNil)))) aNil) ρ g = .ok (rngD 0 (1 + v).toNat) g1 := by
    unfold iaRng1 iaB
    simp only [fVar, fC, fDat, fOp, fUn, fTest, fAnd, fOr, fNot, fAndV, fOrV, fNotV, fIf, aNil, aCons, allDR, allD, fTup, fLst, fCB, fCall, fSeq, fAsg, fSet, fRet, fRetV, fRetN, fIfS, fDrop, fNext, fIsi, fIsi2, fM, fSl, oS, oN, agName, sdRV, R.bind_ok, R.ofO_some, R.stx_ok, rdSD_d, rdSD_o, asDR_d, asDR_nl, asAR_d, asAR_nl, asAR_o, asBR_b, seqO_nx, seqO_rt, o1A_d, o2A_d, asIR_i, rtSD_d, List.getElem?_cons_zero, List.getElem?_cons_succ, List.set_cons_zero, List.set_cons_succ, if_true, if_false, Bool.false_eq_true, reduceIte, Bool.not_true, Bool.not_false, slots, List.map_cons, List.map_nil, avS, List.length_cons, List.length_nil, List.replicate_succ, List.replicate_zero, List.cons_append, List.nil_append, Nat.reduceAdd, Nat.reduceSub, Nat.reduceLeDiff, sl1, sl2, sl3, sl4, sl5, sl6, sl7, sl8, sl9, sl10, sl11, sl12, sl13, sl14, sl15, sl16, sl17, sl18, sl19, sl20, sl21, sl22, sl23, sl24, sl25, sl26, sl27, sl28, sl29, sl30, Nat.zero_le, R.bind_cg, Nat.zero_add, Option.map_some, Option.map_none, h0, e1, oAdd]
    have : oRng1 [.d (.int (1 + v))] = some (rngD 0 (1 + v).toNat) := by
      show (if -(2 ^ 62) ≤ 1 + v ∧ 1 + v < 2 ^ 62 then some (rngD 0 (1 + v).toNat) else none) = _
      rw [if_pos ⟨by omega, by omega⟩]
    rw [this]
    rfl
  have hl : (rngD 0 (1 + v).toNat).length = (1 + v).toNat := by unfold rngD; simp
  obtain ⟨ys, g2, e2, l2, p2, i2⟩ := fLc_st (fg := agName 7) (fe := fCall F__law_pick (aCons (fVar 0) (aCons (fVar 2) aNil))) (vs := [7]) (fun m g => GD d (n - 7 + m) g) (fun y => ∃ c ∈ letters.cps.toList, y = .str ⟨#[c]⟩) hi
    (i1.le (by rw [hl]; omega)) (by rw [hl, sizeLine_eq]; omega) (fun x hx m g hg => by
      obtain ⟨c, hc, g', e, i⟩ := pickS_ok hg (by omega) letters (by rw [letters_len]; omega) (by rw [letters_len]; omega)
      refine ⟨_, _, g', rfl, ?_, ⟨c, hc, rfl⟩, i.le (by omega)⟩
      have q0 : ((wipeD ρ [7]).set 7 (.d x))[0]? = some (.o (.ref d)) := by
        show ((ρ.set 7 .u).set 7 (.d x))[0]? = _
        rw [List.getElem?_set_ne (by omega), List.getElem?_set_ne (by omega), h0]
      have q2 : ((wipeD ρ [7]).set 7 (.d x))[2]? = some (.d (.str letters)) := by
        show ((ρ.set 7 .u).set 7 (.d x))[2]? = _
        rw [List.getElem?_set_ne (by omega), List.getElem?_set_ne (by omega), h2]
      simp only [fVar, fC, fDat, fOp, fUn, fTest, fAnd, fOr, fNot, fAndV, fOrV, fNotV, fIf, aNil, aCons, allDR, allD, fTup, fLst, fCB, fCall, fSeq, fAsg, fSet, fRet, fRetV, fRetN, fIfS, fDrop, fNext, fIsi, fIsi2, fM, fSl, oS, oN, agName, sdRV, R.bind_ok, R.ofO_some, R.stx_ok, rdSD_d, rdSD_o, asDR_d, asDR_nl, asAR_d, asAR_nl, asAR_o, asBR_b, seqO_nx, seqO_rt, o1A_d, o2A_d, asIR_i, rtSD_d, List.getElem?_cons_zero, List.getElem?_cons_succ, List.set_cons_zero, List.set_cons_succ, if_true, if_false, Bool.false_eq_true, reduceIte, Bool.not_true, Bool.not_false, slots, List.map_cons, List.map_nil, avS, List.length_cons, List.length_nil, List.replicate_succ, List.replicate_zero, List.cons_append, List.nil_append, Nat.reduceAdd, Nat.reduceSub, Nat.reduceLeDiff, sl1, sl2, sl3, sl4, sl5, sl6, sl7, sl8, sl9, sl10, sl11, sl12, sl13, sl14, sl15, sl16, sl17, sl18, sl19, sl20, sl21, sl22, sl23, sl24, sl25, sl26, sl27, sl28, sl29, sl30, Nat.zero_le, R.bind_cg, Nat.zero_add, Option.map_some, Option.map_none, q0, q2, e])
  obtain ⟨cs, hcs, hy⟩ : ∃ cs : List Nat, (∀ c ∈ cs, c ∈ letters.cps.toList) ∧ ys = cs.map fun c => PyData.str ⟨#[c]⟩ := by
    clear e2 l2 i2
    induction ys with
    | nil => exact ⟨[], by simp, rfl⟩
    | cons y r ih =>
      obtain ⟨c, hc, rfl⟩ := p2 y (by simp)
      obtain ⟨cs, h1, rfl⟩ := ih fun y hy => p2 y (by simp [hy])
      exact ⟨c :: cs, fun z hz => (List.mem_cons.mp hz).elim (fun e => e ▸ hc) (h1 z), rfl⟩
  have hlen : cs.length = (1 + v).toNat := by rw [← hl, ← l2, hy, List.length_map]
  have ej : oJoin (.str "") [.d (.list ys)] = some (.d (.str (Txt.join (Str.ofString "") (cs.map fun c => ⟨#[c]⟩)))) := by
    show (strsD ys).bind _ = _
    rw [hy, strsD_map (fun c : Nat => (⟨#[c]⟩ : Str))]
    show (if ((cs.map fun c => (⟨#[c]⟩ : Str)).map (·.length)).sum + (cs.map fun c => (⟨#[c]⟩ : Str)).length * (Str.ofString "").length ≤ 16777216 then _ else _) = _
    rw [if_pos]
    have z : (Str.ofString "").length = 0 := by decide
    rw [z, Nat.mul_zero, Nat.add_zero, List.map_map]
    have : ∀ cs : List Nat, (cs.map ((fun x : Str => x.length) ∘ fun c => (⟨#[c]⟩ : Str))).sum = cs.length := by
      intro cs
      induction cs with
      | nil => rfl
      | cons c r ih => rw [List.map_cons, List.sum_cons, ih]; show 1 + r.length = r.length + 1; omega
    rw [this, hlen]; omega
  have ht : tyD (.str "") = "str" := rfl
  have ewr : (Txt.join (Str.ofString "") (cs.map fun c => (⟨#[c]⟩ : Str))).length = cs.length := by rw [len_cps, join_cps]
  refine ⟨_, g2, ?_, ⟨by rw [ewr, hlen]; omega, by rw [ewr, hlen]; omega, fun c hc => hcs c (by rw [join_cps] at hc; exact hc)⟩, i2⟩
  simp only [fVar, fC, fDat, fOp, fUn, fTest, fAnd, fOr, fNot, fAndV, fOrV, fNotV, fIf, aNil, aCons, allDR, allD, fTup, fLst, fCB, fCall, fSeq, fAsg, fSet, fRet, fRetV, fRetN, fIfS, fDrop, fNext, fIsi, fIsi2, fM, fSl, oS, oN, agName, sdRV, R.bind_ok, R.ofO_some, R.stx_ok, rdSD_d, rdSD_o, asDR_d, asDR_nl, asAR_d, asAR_nl, asAR_o, asBR_b, seqO_nx, seqO_rt, o1A_d, o2A_d, asIR_i, rtSD_d, List.getElem?_cons_zero, List.getElem?_cons_succ, List.set_cons_zero, List.set_cons_succ, if_true, if_false, Bool.false_eq_true, reduceIte, Bool.not_true, Bool.not_false, slots, List.map_cons, List.map_nil, avS, List.length_cons, List.length_nil, List.replicate_succ, List.replicate_zero, List.cons_append, List.nil_append, Nat.reduceAdd, Nat.reduceSub, Nat.reduceLeDiff, sl1, sl2, sl3, sl4, sl5, sl6, sl7, sl8, sl9, sl10, sl11, sl12, sl13, sl14, sl15, sl16, sl17, sl18, sl19, sl20, sl21, sl22, sl23, sl24, sl25, sl26, sl27, sl28, sl29, sl30, Nat.zero_le, R.bind_cg, Nat.zero_add, Option.map_some, Option.map_none, ht, e2, ej]
theorem cut5_len (w : Str) : (cutS w none (some 5)).cps.toList = w.cps.toList.take 5 := by
  unfold cutS
  show ((w.cps.toList.drop (HT.sIx w.length 0 none)).take (HT.sIx w.length w.length (some ((5 : Nat) : Int)) - HT.sIx w.length 0 none)) = _
  rw [HT.sIx_nat, HT.sIx_none, List.drop_zero, Nat.sub_zero, len_cps]
  by_cases c : 5 ≤ w.cps.toList.length
  · rw [Nat.min_eq_left c]
  · rw [Nat.min_eq_right (by omega), List.take_of_length_le (Nat.le_refl _), List.take_of_length_le (by omega)]
def spare (w : Str) : List Str := w :: letters.cps.toList.map fun c => cutS w none (some 5) ++ ⟨#[c]⟩
theorem app_cps (a b : Str) : (a ++ b).cps.toList = a.cps.toList ++ b.cps.toList := by
  show (a.cps ++ b.cps).toList = _
  simp
theorem spare_ok {w : Str} (h : OkName w) : ∀ x ∈ spare w, OkName x := by
  intro x hx
  rcases List.mem_cons.mp hx with rfl | hx
  · exact h
  · obtain ⟨c, hc, rfl⟩ := List.mem_map.mp hx
    have hl : (cutS w none (some 5) ++ (⟨#[c]⟩ : Str)).cps.toList = w.cps.toList.take 5 ++ [c] := by rw [app_cps, cut5_len]
    refine ⟨by rw [len_cps, hl]; simp, by rw [len_cps, hl]; simp; omega, fun z hz => ?_⟩
    rw [hl] at hz
    rcases List.mem_append.mp hz with hz | hz
    · exact h.al z (List.mem_of_mem_take hz)
    · rw [List.mem_singleton.mp hz]; exact hc
theorem spare_new (w : Str) (found : List Str) (hf : found.length < 26) : ∃ x ∈ spare w, x ∉ found := by
  refine Classical.byContradiction fun hc => ?_
  have hall : ∀ x ∈ spare w, x ∈ found := fun x hx => Classical.byContradiction fun z => hc ⟨x, hx, z⟩
  have hn : (letters.cps.toList.map fun c => cutS w none (some 5) ++ (⟨#[c]⟩ : Str)).Nodup := by
    rw [List.nodup_iff_pairwise_ne, List.pairwise_map]
    have h0 : letters.cps.toList.Nodup := by decide +kernel
    refine List.Pairwise.imp (fun {a b} hab e => ?_) (List.nodup_iff_pairwise_ne.mp h0)
    have := congrArg (fun s : Str => s.cps.toList) e
    simp only [app_cps] at this
    have := List.append_cancel_left this
    simp at this
    exact hab this
  have := nodup_len hn fun x hx => hall x (List.mem_cons_of_mem _ hx)
  rw [List.length_map] at this
  have h26 : letters.cps.toList.length = 26 := letters_len
  omega
theorem noLA_strs (ms : List Str) : noLA (ms.map PyData.str) = true := by
  induction ms with
  | nil => rfl
  | cons m ms ih => simp only [List.map_cons, noLA, noL, ih, Bool.and_self]
theorem pl_strs (l : List Str) : pl (.list (l.map .str)) = true := by
  unfold pl
  have h1 : PyData.plain (.list (l.map PyData.str)) = true := by rw [PyData.plain]; exact plainAll_map _ _ fun x _ => by simp [PyData.plain]
  have h2 : PyData.depth (.list (l.map PyData.str)) ≤ 64 := by
    have := depthAll_map PyData.str 1 l fun x _ => by simp [PyData.depth]
    rw [PyData.depth]
    omega
  rw [h1, decide_eq_true h2]; rfl
theorem any_strs (l : List Str) (n : Str) : ((l.map PyData.str).any fun z => PyData.eqv z (.str n)) = decide (n ∈ l) := by
  induction l with
  | nil => simp
  | cons x l ih =>
    rw [List.map_cons, List.any_cons, ih, eqv_str]
    by_cases c : x = n
    · simp [c]
    · simp [c, Ne.symm c]
theorem atI_zero {α : Type} (x : α) (r : List α) : atI (x :: r) 0 = some x := by
  show (ixN (r.length + 1) 0).bind (fun j => (x :: r)[j]?) = _
  unfold ixN
  rw [if_pos (by omega), if_pos (by omega)]
  rfl
theorem oIx_zero (x : PyData) (r : List PyData) : oIx (.list (x :: r)) (.int 0) = some (.d x) := by
  show (atI (x :: r) 0).map RV.d = _
  rw [atI_zero]
  rfl
theorem words_turn {d : Addr} {n : Nat} {g : Gs} (h : GD d n g) (hn : 8 ≤ n) (found : List Str) (hf : found.length < 26) (m : Int) (s4 s5 s6 : SD) :
    ∃ (w : Str) (t4 t5 t6 : SD) (g' : Gs), (fSeq (fAsg (fM "str" oJoin (fC (.str "")) (aCons (fLc (iaRng1 (aCons (fOp oAdd (fC (.int 1)) (fCall F__law_draw (aCons (fVar 0) (aCons (fC (.int 6)) aNil)))) aNil)) (agName 7) fYes (fCall F__law_pick (aCons (fVar 0) (aCons (fVar 2) aNil))) [7]) aNil)) (agName 4))
    (fSeq (fAsg (fCall F__law_pick (aCons (fVar 0) (aCons (fLst (aCons (fC (.str "a")) (aCons (fC (.str "b")) (aCons (fC (.str "c")) (aCons (fC (.str "aa")) (aCons (fC (.str "none")) (aCons (fC (.str "things")) (aCons (fC (.str "zzzzzz")) (aCons (fVar 4) (aCons (fVar 4) aNil)))))))))) aNil))) (agName 5))
    (fSeq (fAsg (fOp oAdd (fLst (aCons (fVar 5) aNil)) (fLc (iaSeq (fVar 2)) (agName 8) fYes (fOp oAdd (fSl (fVar 5) oN (oS (fC (.int 5)))) (fVar 8)) [8])) (agName 6))
    (fApp 3 (fOp oIx (fLc (iaSeq (fVar 6)) (agName 9) (fBorT 3 (fTest (fOp (oIn true) (fVar 9) (fVar 3)))) (fVar 9) [9]) (fC (.int 0))))))) [.o (.ref d), .d (.int m), .d (.str letters), .own (found.map .str), s4, s5, s6, .u, .u, .u] g
      = .ok (.nx [.o (.ref d), .d (.int m), .d (.str letters), .own ((found ++ [w]).map .str), t4, t5, t6, .u, .u, .u]) g' ∧ OkName w ∧ w ∉ found ∧ GD d (n - 8) g' := by
  obtain ⟨w0, g1, e1, k1, i1⟩ := drawn_ok h (by omega) [.o (.ref d), .d (.int m), .d (.str letters), .own (found.map .str), s4, s5, s6, .u, .u, .u] rfl rfl (by simp)
  obtain ⟨y, hy, g2, e2, i2⟩ := pick_ok i1 (by omega) [.str "a", .str "b", .str "c", .str "aa", .str "none", .str "things", .str "zzzzzz", .str w0, .str w0] (by simp) (by simp)
  obtain ⟨w, ew, kw⟩ : ∃ w, y = .str w ∧ OkName w := by
    simp only [List.mem_cons, List.not_mem_nil, or_false] at hy
    have k : ∀ n : Str, okName n = true → OkName n := fun n h => okName_of h
    rcases hy with rfl | rfl | rfl | rfl | rfl | rfl | rfl | rfl | rfl
    · exact ⟨_, rfl, k _ (by decide +kernel)⟩
    · exact ⟨_, rfl, k _ (by decide +kernel)⟩
    · exact ⟨_, rfl, k _ (by decide +kernel)⟩
    · exact ⟨_, rfl, k _ (by decide +kernel)⟩
    · exact ⟨_, rfl, k _ (by decide +kernel)⟩
    · exact ⟨_, rfl, k _ (by decide +kernel)⟩
    · exact ⟨_, rfl, k _ (by decide +kernel)⟩
    · exact ⟨_, rfl, k1⟩
    · exact ⟨_, rfl, k1⟩
  subst ew
  have wz : w.length ≤ sizeLine := Nat.le_trans kw.hi (by decide)
  have e3 : ∀ ρ : List SD, ρ[2]? = some (.d (.str letters)) → ρ[5]? = some (.d (.str w)) → 8 < ρ.length → fLc (iaSeq (fVar 2)) (agName 8) fYes (fOp oAdd (fSl (fVar 5) oN (oS (fC (.int 5)))) (fVar 8)) [8] ρ g2 = .ok (.nl ((letters.cps.toList.map fun c => cutS w none (some 5) ++ (⟨#[c]⟩ : Str)).map .str)) g2 := by
    intro ρ r2 r5 r8
    rw [fLc_map letters.cps.toList (fun c => .str ⟨#[c]⟩) (fun c => .str (cutS w none (some 5) ++ ⟨#[c]⟩)) (g1 := g2) (by simp only [iaSeq, fVar, fC, fDat, fOp, fUn, fTest, fAnd, fOr, fNot, fAndV, fOrV, fNotV, fIf, aNil, aCons, allDR, allD, fTup, fLst, fCB, fCall, fSeq, fAsg, fSet, fRet, fRetV, fRetN, fIfS, fDrop, fNext, fIsi, fIsi2, fM, fSl, oS, oN, agName, sdRV, R.bind_ok, R.ofO_some, R.stx_ok, rdSD_d, rdSD_o, asDR_d, asDR_nl, asAR_d, asAR_nl, asAR_o, asBR_b, seqO_nx, seqO_rt, o1A_d, o2A_d, asIR_i, rtSD_d, List.getElem?_cons_zero, List.getElem?_cons_succ, List.set_cons_zero, List.set_cons_succ, if_true, if_false, Bool.false_eq_true, reduceIte, Bool.not_true, Bool.not_false, slots, List.map_cons, List.map_nil, avS, List.length_cons, List.length_nil, List.replicate_succ, List.replicate_zero, List.cons_append, List.nil_append, Nat.reduceAdd, Nat.reduceSub, Nat.reduceLeDiff, sl1, sl2, sl3, sl4, sl5, sl6, sl7, sl8, sl9, sl10, sl11, sl12, sl13, sl14, sl15, sl16, sl17, sl18, sl19, sl20, sl21, sl22, sl23, sl24, sl25, sl26, sl27, sl28, sl29, sl30, Nat.zero_le, R.bind_cg, Nat.zero_add, Option.map_some, Option.map_none, r2, itemsOf]) (fun c hc => ⟨_, rfl, rfl, ?_⟩) (by rw [show letters.cps.toList.length = 26 from letters_len, sizeLine_eq]; omega), List.map_map]
    · rfl
    · have q5 : ((wipeD ρ [8]).set 8 (.d (.str ⟨#[c]⟩)))[5]? = some (.d (.str w)) := by
        show ((ρ.set 8 .u).set 8 _)[5]? = _
        rw [List.getElem?_set_ne (by omega), List.getElem?_set_ne (by omega), r5]
      have q8 : ((wipeD ρ [8]).set 8 (.d (.str ⟨#[c]⟩)))[8]? = some (.d (.str ⟨#[c]⟩)) := by
        show ((ρ.set 8 .u).set 8 _)[8]? = _
        rw [List.getElem?_set_self (by simpa using r8)]
      have qs : oSl (.str w) none (some 5) = some (.d (.str (cutS w none (some 5)))) := if_pos wz
      have qa : oAdd (.str (cutS w none (some 5))) (.str ⟨#[c]⟩) = some (.d (.str (cutS w none (some 5) ++ ⟨#[c]⟩))) := if_pos (by
        have : (cutS w none (some 5)).length ≤ 5 := by rw [len_cps, cut5_len]; simp; omega
        rw [sizeLine_eq]
        show _ + 1 ≤ _
        omega)
      simp only [fVar, fC, fDat, fOp, fUn, fTest, fAnd, fOr, fNot, fAndV, fOrV, fNotV, fIf, aNil, aCons, allDR, allD, fTup, fLst, fCB, fCall, fSeq, fAsg, fSet, fRet, fRetV, fRetN, fIfS, fDrop, fNext, fIsi, fIsi2, fM, fSl, oS, oN, agName, sdRV, R.bind_ok, R.ofO_some, R.stx_ok, rdSD_d, rdSD_o, asDR_d, asDR_nl, asAR_d, asAR_nl, asAR_o, asBR_b, seqO_nx, seqO_rt, o1A_d, o2A_d, asIR_i, rtSD_d, List.getElem?_cons_zero, List.getElem?_cons_succ, List.set_cons_zero, List.set_cons_succ, if_true, if_false, Bool.false_eq_true, reduceIte, Bool.not_true, Bool.not_false, slots, List.map_cons, List.map_nil, avS, List.length_cons, List.length_nil, List.replicate_succ, List.replicate_zero, List.cons_append, List.nil_append, Nat.reduceAdd, Nat.reduceSub, Nat.reduceLeDiff, sl1, sl2, sl3, sl4, sl5, sl6, sl7, sl8, sl9, sl10, sl11, sl12, sl13, sl14, sl15, sl16, sl17, sl18, sl19, sl20, sl21, sl22, sl23, sl24, sl25, sl26, sl27, sl28, sl29, sl30, Nat.zero_le, R.bind_cg, Nat.zero_add, Option.map_some, Option.map_none, q5, q8, qs, qa]
  have ea : oAdd (.list [.str w]) (.list ((letters.cps.toList.map fun c => cutS w none (some 5) ++ (⟨#[c]⟩ : Str)).map .str)) = some (.nl ((spare w).map .str)) := by
    unfold oAdd
    simp only
    rw [if_pos (by simp only [List.length_map, List.length_cons, List.length_nil, show letters.cps.toList.length = 26 from letters_len, sizeLine_eq]; omega)]
    rfl
  obtain ⟨x0, hx0, hx1⟩ := spare_new w found hf
  have hne : (spare w).filter (fun x => !decide (x ∈ found)) ≠ [] := fun z => by
    have : x0 ∈ (spare w).filter (fun x => !decide (x ∈ found)) := List.mem_filter.mpr ⟨hx0, by rw [decide_eq_false hx1]; rfl⟩
    rw [z] at this
    cases this
  obtain ⟨x, r, hxr⟩ := List.exists_cons_of_ne_nil hne
  have hx := List.mem_filter.mp (hxr ▸ List.mem_cons_self (a := x) (l := r))
  have e4 : ∀ ρ : List SD, ρ[3]? = some (.own (found.map .str)) → ρ[6]? = some (.d (.list ((spare w).map .str))) → 9 < ρ.length → fLc (iaSeq (fVar 6)) (agName 9) (fBorT 3 (fTest (fOp (oIn true) (fVar 9) (fVar 3)))) (fVar 9) [9] ρ g2 = .ok (.nl ((x :: r).map .str)) g2 := by
    intro ρ r3 r6 r9
    rw [← hxr, fLc_filter (spare w) .str (fun x => !decide (x ∈ found)) .str (g1 := g2) (by simp only [iaSeq, fVar, fC, fDat, fOp, fUn, fTest, fAnd, fOr, fNot, fAndV, fOrV, fNotV, fIf, aNil, aCons, allDR, allD, fTup, fLst, fCB, fCall, fSeq, fAsg, fSet, fRet, fRetV, fRetN, fIfS, fDrop, fNext, fIsi, fIsi2, fM, fSl, oS, oN, agName, sdRV, R.bind_ok, R.ofO_some, R.stx_ok, rdSD_d, rdSD_o, asDR_d, asDR_nl, asAR_d, asAR_nl, asAR_o, asBR_b, seqO_nx, seqO_rt, o1A_d, o2A_d, asIR_i, rtSD_d, List.getElem?_cons_zero, List.getElem?_cons_succ, List.set_cons_zero, List.set_cons_succ, if_true, if_false, Bool.false_eq_true, reduceIte, Bool.not_true, Bool.not_false, slots, List.map_cons, List.map_nil, avS, List.length_cons, List.length_nil, List.replicate_succ, List.replicate_zero, List.cons_append, List.nil_append, Nat.reduceAdd, Nat.reduceSub, Nat.reduceLeDiff, sl1, sl2, sl3, sl4, sl5, sl6, sl7, sl8, sl9, sl10, sl11, sl12, sl13, sl14, sl15, sl16, sl17, sl18, sl19, sl20, sl21, sl22, sl23, sl24, sl25, sl26, sl27, sl28, sl29, sl30, Nat.zero_le, R.bind_cg, Nat.zero_add, Option.map_some, Option.map_none, r6, itemsOf]) (fun c hc => ⟨_, rfl, ?_, ?_⟩) (by unfold spare; simp only [List.length_map, List.length_cons, show letters.cps.toList.length = 26 from letters_len, sizeLine_eq]; omega)]
    · have q3 : ((wipeD ρ [9]).set 9 (.d (.str c)))[3]? = some (.own (found.map .str)) := by
        show ((ρ.set 9 .u).set 9 _)[3]? = _
        rw [List.getElem?_set_ne (by omega), List.getElem?_set_ne (by omega), r3]
      have q33 : (((wipeD ρ [9]).set 9 (.d (.str c))).set 3 (.d (.list (found.map .str))))[3]? = some (.d (.list (found.map .str))) := by
        rw [List.getElem?_set_self (by show 3 < ((ρ.set 9 .u).set 9 (.d (.str c))).length; rw [List.length_set, List.length_set]; omega)]
      have q39 : (((wipeD ρ [9]).set 9 (.d (.str c))).set 3 (.d (.list (found.map .str))))[9]? = some (.d (.str c)) := by
        rw [List.getElem?_set_ne (by omega)]
        show ((ρ.set 9 .u).set 9 _)[9]? = _
        rw [List.getElem?_set_self (by simpa using r9)]
      have qi : oIn true (.str c) (.list (found.map .str)) = some (.d (.bool (!decide (c ∈ found)))) := by
        show (if _ then some (RV.d (.bool (true ^^ ((found.map PyData.str).any fun z => PyData.eqv z (.str c))))) else none) = _
        rw [if_pos ⟨pl_str c, pl_strs found⟩, any_strs, Bool.true_xor]
      unfold fBorT
      rw [q3]
      simp only [fzSD, fVar, fC, fDat, fOp, fUn, fTest, fAnd, fOr, fNot, fAndV, fOrV, fNotV, fIf, aNil, aCons, allDR, allD, fTup, fLst, fCB, fCall, fSeq, fAsg, fSet, fRet, fRetV, fRetN, fIfS, fDrop, fNext, fIsi, fIsi2, fM, fSl, oS, oN, agName, sdRV, R.bind_ok, R.ofO_some, R.stx_ok, rdSD_d, rdSD_o, asDR_d, asDR_nl, asAR_d, asAR_nl, asAR_o, asBR_b, seqO_nx, seqO_rt, o1A_d, o2A_d, asIR_i, rtSD_d, List.getElem?_cons_zero, List.getElem?_cons_succ, List.set_cons_zero, List.set_cons_succ, if_true, if_false, Bool.false_eq_true, reduceIte, Bool.not_true, Bool.not_false, slots, List.map_cons, List.map_nil, avS, List.length_cons, List.length_nil, List.replicate_succ, List.replicate_zero, List.cons_append, List.nil_append, Nat.reduceAdd, Nat.reduceSub, Nat.reduceLeDiff, sl1, sl2, sl3, sl4, sl5, sl6, sl7, sl8, sl9, sl10, sl11, sl12, sl13, sl14, sl15, sl16, sl17, sl18, sl19, sl20, sl21, sl22, sl23, sl24, sl25, sl26, sl27, sl28, sl29, sl30, Nat.zero_le, R.bind_cg, Nat.zero_add, Option.map_some, Option.map_none, q33, q39, qi, R.nox_ok]
    · intro _
      have q9 : ((wipeD ρ [9]).set 9 (.d (.str c)))[9]? = some (.d (.str c)) := by
        show ((ρ.set 9 .u).set 9 _)[9]? = _
        rw [List.getElem?_set_self (by simpa using r9)]
      simp only [fVar, fC, fDat, fOp, fUn, fTest, fAnd, fOr, fNot, fAndV, fOrV, fNotV, fIf, aNil, aCons, allDR, allD, fTup, fLst, fCB, fCall, fSeq, fAsg, fSet, fRet, fRetV, fRetN, fIfS, fDrop, fNext, fIsi, fIsi2, fM, fSl, oS, oN, agName, sdRV, R.bind_ok, R.ofO_some, R.stx_ok, rdSD_d, rdSD_o, asDR_d, asDR_nl, asAR_d, asAR_nl, asAR_o, asBR_b, seqO_nx, seqO_rt, o1A_d, o2A_d, asIR_i, rtSD_d, List.getElem?_cons_zero, List.getElem?_cons_succ, List.set_cons_zero, List.set_cons_succ, if_true, if_false, Bool.false_eq_true, reduceIte, Bool.not_true, Bool.not_false, slots, List.map_cons, List.map_nil, avS, List.length_cons, List.length_nil, List.replicate_succ, List.replicate_zero, List.cons_append, List.nil_append, Nat.reduceAdd, Nat.reduceSub, Nat.reduceLeDiff, sl1, sl2, sl3, sl4, sl5, sl6, sl7, sl8, sl9, sl10, sl11, sl12, sl13, sl14, sl15, sl16, sl17, sl18, sl19, sl20, sl21, sl22, sl23, sl24, sl25, sl26, sl27, sl28, sl29, sl30, Nat.zero_le, R.bind_cg, Nat.zero_add, Option.map_some, Option.map_none, q9]
  have ei := oIx_zero (.str x) (r.map .str)
  have hz : (found.map PyData.str).length < sizeLine := by rw [List.length_map, sizeLine_eq]; omega
  have e3' := e3 [.o (.ref d), .d (.int m), .d (.str letters), .own (found.map .str), .d (.str w0), .d (.str w), s6, .u, .u, .u] rfl rfl (by simp)
  have e4' := e4 [.o (.ref d), .d (.int m), .d (.str letters), .own (found.map .str), .d (.str w0), .d (.str w), .d (.list ((spare w).map .str)), .u, .u, .u] rfl rfl (by simp)
  refine ⟨x, .d (.str w0), .d (.str w), .d (.list ((spare w).map .str)), g2, ?_, spare_ok kw x hx.1, by simpa using hx.2, i2.le (by omega)⟩
  simp only [fSeq, fAsg, fDat, e1, R.bind_ok, asDR_d, R.stx_ok, agName, R.ofO_some, seqO_nx]
  simp only [fVar, fC, fDat, fOp, fUn, fTest, fAnd, fOr, fNot, fAndV, fOrV, fNotV, fIf, aNil, aCons, allDR, allD, fTup, fLst, fCB, fCall, fSeq, fAsg, fSet, fRet, fRetV, fRetN, fIfS, fDrop, fNext, fIsi, fIsi2, fM, fSl, oS, oN, agName, sdRV, R.bind_ok, R.ofO_some, R.stx_ok, rdSD_d, rdSD_o, asDR_d, asDR_nl, asAR_d, asAR_nl, asAR_o, asBR_b, seqO_nx, seqO_rt, o1A_d, o2A_d, asIR_i, rtSD_d, List.getElem?_cons_zero, List.getElem?_cons_succ, List.set_cons_zero, List.set_cons_succ, if_true, if_false, Bool.false_eq_true, reduceIte, Bool.not_true, Bool.not_false, slots, List.map_cons, List.map_nil, avS, List.length_cons, List.length_nil, List.replicate_succ, List.replicate_zero, List.cons_append, List.nil_append, Nat.reduceAdd, Nat.reduceSub, Nat.reduceLeDiff, sl1, sl2, sl3, sl4, sl5, sl6, sl7, sl8, sl9, sl10, sl11, sl12, sl13, sl14, sl15, sl16, sl17, sl18, sl19, sl20, sl21, sl22, sl23, sl24, sl25, sl26, sl27, sl28, sl29, sl30, Nat.zero_le, R.bind_cg, Nat.zero_add, Option.map_some, Option.map_none, e2, e3', ea, fApp, ownSD_own, e4', ei, hz, List.map_append]
def Words (W : List Str) : Prop := Wd W ∧ W.Pairwise fun a b => slt a b = true
theorem words_ok {d : Addr} {n : Nat} {g : Gs} (h : GD d n g) (m : Nat) (hm : m ≤ 20) (hn : 8 * m ≤ n) :
    ∃ (W : List Str) (g' : Gs), F__law_words [.o (.ref d), .d (.int m)] g = .ok (.nl (W.map .str)) g' ∧ Words W ∧ W.length = m ∧ GD d (n - 8 * m) g' := by
  have key : ∀ (k : Nat) (found : List Str) (n : Nat) (g : Gs) (s4 s5 s6 : SD), GD d n g → 8 * k ≤ n → found.length + k = m → found.Nodup → (∀ x ∈ found, OkName x) →
      ∃ (W : List Str) (g' : Gs) (t4 t5 t6 : SD) (j : Nat), whR (fTest (fOp oLt (fBor 3 (fCB (o1A oLen) (aCons (fVar 3) aNil))) (fVar 1))) (fSeq (fAsg (fM "str" oJoin (fC (.str "")) (aCons (fLc (iaRng1 (aCons (fOp oAdd (fC (.int 1)) (fCall F__law_draw (aCons (fVar 0) (aCons (fC (.int 6)) aNil)))) aNil)) (agName 7) fYes (fCall F__law_pick (aCons (fVar 0) (aCons (fVar 2) aNil))) [7]) aNil)) (agName 4))
    (fSeq (fAsg (fCall F__law_pick (aCons (fVar 0) (aCons (fLst (aCons (fC (.str "a")) (aCons (fC (.str "b")) (aCons (fC (.str "c")) (aCons (fC (.str "aa")) (aCons (fC (.str "none")) (aCons (fC (.str "things")) (aCons (fC (.str "zzzzzz")) (aCons (fVar 4) (aCons (fVar 4) aNil)))))))))) aNil))) (agName 5))
    (fSeq (fAsg (fOp oAdd (fLst (aCons (fVar 5) aNil)) (fLc (iaSeq (fVar 2)) (agName 8) fYes (fOp oAdd (fSl (fVar 5) oN (oS (fC (.int 5)))) (fVar 8)) [8])) (agName 6))
    (fApp 3 (fOp oIx (fLc (iaSeq (fVar 6)) (agName 9) (fBorT 3 (fTest (fOp (oIn true) (fVar 9) (fVar 3)))) (fVar 9) [9]) (fC (.int 0))))))) j [.o (.ref d), .d (.int m), .d (.str letters), .own (found.map .str), s4, s5, s6, .u, .u, .u] g
        = .ok (.nx [.o (.ref d), .d (.int m), .d (.str letters), .own (W.map .str), t4, t5, t6, .u, .u, .u]) g' ∧ W.length = m ∧ W.Nodup ∧ (∀ x ∈ W, OkName x) ∧ GD d (n - 8 * k) g' := by
    have ht : ∀ (found : List Str) (g : Gs) (s4 s5 s6 : SD), fTest (fOp oLt (fBor 3 (fCB (o1A oLen) (aCons (fVar 3) aNil))) (fVar 1)) [.o (.ref d), .d (.int m), .d (.str letters), .own (found.map .str), s4, s5, s6, .u, .u, .u] g = .ok (decide ((found.length : Int) < m)) g := by
      intro found g s4 s5 s6
      have e : fBor 3 (fCB (o1A oLen) (aCons (fVar 3) aNil)) [.o (.ref d), .d (.int m), .d (.str letters), .own (found.map .str), s4, s5, s6, .u, .u, .u] g = .ok (.d (.int found.length)) g := by
        unfold fBor
        simp only [fVar, fC, fDat, fOp, fUn, fTest, fAnd, fOr, fNot, fAndV, fOrV, fNotV, fIf, aNil, aCons, allDR, allD, fTup, fLst, fCB, fCall, fSeq, fAsg, fSet, fRet, fRetV, fRetN, fIfS, fDrop, fNext, fIsi, fIsi2, fM, fSl, oS, oN, agName, sdRV, R.bind_ok, R.ofO_some, R.stx_ok, rdSD_d, rdSD_o, asDR_d, asDR_nl, asAR_d, asAR_nl, asAR_o, asBR_b, seqO_nx, seqO_rt, o1A_d, o2A_d, asIR_i, rtSD_d, List.getElem?_cons_zero, List.getElem?_cons_succ, List.set_cons_zero, List.set_cons_succ, if_true, if_false, Bool.false_eq_true, reduceIte, Bool.not_true, Bool.not_false, slots, List.map_cons, List.map_nil, avS, List.length_cons, List.length_nil, List.replicate_succ, List.replicate_zero, List.cons_append, List.nil_append, Nat.reduceAdd, Nat.reduceSub, Nat.reduceLeDiff, sl1, sl2, sl3, sl4, sl5, sl6, sl7, sl8, sl9, sl10, sl11, sl12, sl13, sl14, sl15, sl16, sl17, sl18, sl19, sl20, sl21, sl22, sl23, sl24, sl25, sl26, sl27, sl28, sl29, sl30, Nat.zero_le, R.bind_cg, Nat.zero_add, Option.map_some, Option.map_none, fzSD, oLen_list, List.length_map]
        rfl
      simp only [fVar, fC, fDat, fOp, fUn, fTest, fAnd, fOr, fNot, fAndV, fOrV, fNotV, fIf, aNil, aCons, allDR, allD, fTup, fLst, fCB, fCall, fSeq, fAsg, fSet, fRet, fRetV, fRetN, fIfS, fDrop, fNext, fIsi, fIsi2, fM, fSl, oS, oN, agName, sdRV, R.bind_ok, R.ofO_some, R.stx_ok, rdSD_d, rdSD_o, asDR_d, asDR_nl, asAR_d, asAR_nl, asAR_o, asBR_b, seqO_nx, seqO_rt, o1A_d, o2A_d, asIR_i, rtSD_d, List.getElem?_cons_zero, List.getElem?_cons_succ, List.set_cons_zero, List.set_cons_succ, if_true, if_false, Bool.false_eq_true, reduceIte, Bool.not_true, Bool.not_false, slots, List.map_cons, List.map_nil, avS, List.length_cons, List.length_nil, List.replicate_succ, List.replicate_zero, List.cons_append, List.nil_append, Nat.reduceAdd, Nat.reduceSub, Nat.reduceLeDiff, sl1, sl2, sl3, sl4, sl5, sl6, sl7, sl8, sl9, sl10, sl11, sl12, sl13, sl14, sl15, sl16, sl17, sl18, sl19, sl20, sl21, sl22, sl23, sl24, sl25, sl26, sl27, sl28, sl29, sl30, Nat.zero_le, R.bind_cg, Nat.zero_add, Option.map_some, Option.map_none, e, oLt]
    intro k
    induction k with
    | zero =>
      intro found n g s4 s5 s6 h _ hl hn ho
      refine ⟨found, g, s4, s5, s6, 1, ?_, by omega, hn, ho, h⟩
      rw [whR, ht, decide_eq_false (by omega)]
      rfl
    | succ k ih =>
      intro found n g s4 s5 s6 h hk hl hn ho
      obtain ⟨w, t4, t5, t6, g1, e, kw, kf, i1⟩ := words_turn h (by omega) found (by omega) m s4 s5 s6
      obtain ⟨W, g2, u4, u5, u6, j, e2, l2, n2, o2, i2⟩ := ih (found ++ [w]) (n - 8) g1 t4 t5 t6 i1 (by omega) (by simp; omega) (by
        rw [List.nodup_append]
        exact ⟨hn, by simp, fun a ha b hb => by rw [List.mem_singleton.mp hb]; exact fun z => kf (z ▸ ha)⟩) (fun x hx => (List.mem_append.mp hx).elim (ho x) fun hx => by rw [List.mem_singleton.mp hx]; exact kw)
      refine ⟨W, g2, u4, u5, u6, j + 1, ?_, l2, n2, o2, i2.le (by omega)⟩
      rw [whR, ht, decide_eq_true (by omega)]
      simp only [R.stx_ok, if_true]
      rw [e]
      exact e2
  obtain ⟨W, g', t4, t5, t6, j, e, l, hn, ho, i⟩ := key m [] n g .u .u .u h hn (by simp) List.nodup_nil (by simp)
  obtain ⟨W', e1, pm, pw⟩ := sort_strs W hn
  refine ⟨W', g', fn_rt rfl ?_, ⟨⟨fun x hx => ho x (pm.mem_iff.mp hx), by rw [pm.length_eq]; omega⟩, pw⟩, by rw [pm.length_eq]; exact l, i⟩
  have ew := fWhile_eq e (fun z => by cases z)
  have es : oSorted (.list (W.map .str)) = some (.nl (W'.map .str)) := by rw [oSorted_eq (sortOk_strs W), e1]
  have e0 : ∀ f : EFs, fFz 2 f [.o (.ref d), .d (.int m), .d (.str letters), .own [], .u, .u, .u, .u, .u, .u] g = f [.o (.ref d), .d (.int m), .d (.str letters), .own [], .u, .u, .u, .u, .u, .u] g := fun f => rfl
  have e3 : ∀ (f : EFs), fFz 3 f [.o (.ref d), .d (.int m), .d (.str letters), .own (W.map .str), t4, t5, t6, .u, .u, .u] g' = f [.o (.ref d), .d (.int m), .d (.str letters), .d (.list (W.map .str)), t4, t5, t6, .u, .u, .u] g' := fun f => rfl
  have ew : fWhile _ _ [.o (.ref d), .d (.int m), .d (.str letters), .own [], .u, .u, .u, .u, .u, .u] g = _ := ew
  unfold b__law_words
  rw [show slots 10 [.o (.ref d), .d (.int m)] = [.o (.ref d), .d (.int m), .u, .u, .u, .u, .u, .u, .u, .u] from rfl, fSeq]
  have ep : fPar 2 3 (fC (.str "abcdefghijklmnopqrstuvwxyz")) (fLst aNil) [.o (.ref d), .d (.int m), .u, .u, .u, .u, .u, .u, .u, .u] g = .ok (.nx [.o (.ref d), .d (.int m), .d (.str letters), .own [], .u, .u, .u, .u, .u, .u]) g := by
    unfold fPar
    simp only [fVar, fC, fDat, fOp, fUn, fTest, fAnd, fOr, fNot, fAndV, fOrV, fNotV, fIf, aNil, aCons, allDR, allD, fTup, fLst, fCB, fCall, fSeq, fAsg, fSet, fRet, fRetV, fRetN, fIfS, fDrop, fNext, fIsi, fIsi2, fM, fSl, oS, oN, agName, sdRV, R.bind_ok, R.ofO_some, R.stx_ok, rdSD_d, rdSD_o, asDR_d, asDR_nl, asAR_d, asAR_nl, asAR_o, asBR_b, seqO_nx, seqO_rt, o1A_d, o2A_d, asIR_i, rtSD_d, List.getElem?_cons_zero, List.getElem?_cons_succ, List.set_cons_zero, List.set_cons_succ, if_true, if_false, Bool.false_eq_true, reduceIte, Bool.not_true, Bool.not_false, slots, List.map_cons, List.map_nil, avS, List.length_cons, List.length_nil, List.replicate_succ, List.replicate_zero, List.cons_append, List.nil_append, Nat.reduceAdd, Nat.reduceSub, Nat.reduceLeDiff, sl1, sl2, sl3, sl4, sl5, sl6, sl7, sl8, sl9, sl10, sl11, sl12, sl13, sl14, sl15, sl16, sl17, sl18, sl19, sl20, sl21, sl22, sl23, sl24, sl25, sl26, sl27, sl28, sl29, sl30, Nat.zero_le, R.bind_cg, Nat.zero_add, Option.map_some, Option.map_none]
    rfl
  rw [ep]
  simp only [R.bind_ok, seqO_nx]
  rw [e0, fSeq, ew]
  simp only [R.bind_ok, seqO_nx, e3]
  simp only [fVar, fC, fDat, fOp, fUn, fTest, fAnd, fOr, fNot, fAndV, fOrV, fNotV, fIf, aNil, aCons, allDR, allD, fTup, fLst, fCB, fCall, fSeq, fAsg, fSet, fRet, fRetV, fRetN, fIfS, fDrop, fNext, fIsi, fIsi2, fM, fSl, oS, oN, agName, sdRV, R.bind_ok, R.ofO_some, R.stx_ok, rdSD_d, rdSD_o, asDR_d, asDR_nl, asAR_d, asAR_nl, asAR_o, asBR_b, seqO_nx, seqO_rt, o1A_d, o2A_d, asIR_i, rtSD_d, List.getElem?_cons_zero, List.getElem?_cons_succ, List.set_cons_zero, List.set_cons_succ, if_true, if_false, Bool.false_eq_true, reduceIte, Bool.not_true, Bool.not_false, slots, List.map_cons, List.map_nil, avS, List.length_cons, List.length_nil, List.replicate_succ, List.replicate_zero, List.cons_append, List.nil_append, Nat.reduceAdd, Nat.reduceSub, Nat.reduceLeDiff, sl1, sl2, sl3, sl4, sl5, sl6, sl7, sl8, sl9, sl10, sl11, sl12, sl13, sl14, sl15, sl16, sl17, sl18, sl19, sl20, sl21, sl22, sl23, sl24, sl25, sl26, sl27, sl28, sl29, sl30, Nat.zero_le, R.bind_cg, Nat.zero_add, Option.map_some, Option.map_none, es]
theorem row_ok {d : Addr} {n : Nat} {g : Gs} (h : GD d n g) {W : List Str} (hW : Words W) {wide : Int} (w0 : 0 ≤ wide) (w1 : wide ≤ 2 ^ 30) (hn : 1 + 2 * W.length ≤ n) :
    ∃ (p : Plan) (g' : Gs), F__law_row [.o (.ref d), .d (.list (W.map .str)), .d (.int wide)] g = .ok (.d (planD p)) g' ∧ Pl W p ∧ (∀ x ∈ p, -wide ≤ x.2 ∧ x.2 ≤ 10 ^ 9 + wide) ∧ GD d (n - (1 + 2 * W.length)) g' := by
  have p9 : oPow (.int 10) (.int 9) = some (.d (.int (10 ^ 9))) := oPow_ok (by omega) (by omega) (by omega) (by omega)
  obtain ⟨y, hy, g1, e1, i1⟩ := pick_ok h (by omega) [.int 0, .int 0, .int 0, .int 0, .int 0, .int (10 ^ 9)] (by simp) (by simp)
  obtain ⟨far, ef, f0⟩ : ∃ far : Int, y = .int far ∧ 0 ≤ far ∧ far ≤ 10 ^ 9 := by
    simp only [List.mem_cons, List.not_mem_nil, or_false] at hy
    rcases hy with rfl | rfl | rfl | rfl | rfl | rfl
    iterate 5 exact ⟨0, rfl, by omega, by omega⟩
    exact ⟨10 ^ 9, rfl, by omega, by omega⟩
  subst ef
  have key : ∀ (ws : List Str) (n : Nat) (g : Gs) (p : Plan) (s3 : SD), GD d n g → 2 * ws.length ≤ n → ws.Pairwise (fun a b => slt a b = true) → (∀ x ∈ ws, x ∈ W) → Asc p → (∀ x ∈ p, x.1 ∈ W ∧ ∀ y ∈ ws, slt x.1 y = true) → (∀ x ∈ p, -wide ≤ x.2 ∧ x.2 ≤ 10 ^ 9 + wide) → p.length + ws.length ≤ 1000 →
      ∃ (q : Plan) (g' : Gs) (t3 : SD), forR (agName 3) (fIfS (fTest (fOp oGt (fCall F__law_draw (aCons (fVar 0) (aCons (fC (.int 4)) aNil))) (fC (.int 0))))
    (fApp 4 (fTup (aCons (fVar 3) (aCons (fOp oAdd (fOp oSub (fCall F__law_draw (aCons (fVar 0) (aCons (fOp oAdd (fOp oMul (fC (.int 2)) (fVar 2)) (fC (.int 1))) aNil))) (fVar 2)) (fVar 5)) aNil))))
    fNext) (ws.map .str) [.o (.ref d), .d (.list (W.map .str)), .d (.int wide), s3, .own (p.map pairD), .d (.int far)] g
        = .ok (.nx [.o (.ref d), .d (.list (W.map .str)), .d (.int wide), t3, .own (q.map pairD), .d (.int far)]) g' ∧ Asc q ∧ (∀ x ∈ q, x.1 ∈ W) ∧ (∀ x ∈ q, -wide ≤ x.2 ∧ x.2 ≤ 10 ^ 9 + wide) ∧ GD d (n - 2 * ws.length) g' := by
    intro ws
    induction ws with
    | nil => intro n g p s3 h _ _ _ ha hp hb _; exact ⟨p, g, s3, rfl, ha, fun x hx => (hp x hx).1, hb, h⟩
    | cons w ws ih =>
      intro n g p s3 h hn hpw hw ha hp hb hl
      have hl' : p.length + (ws.length + 1) ≤ 1000 := hl
      have hn' : 2 * (ws.length + 1) ≤ n := hn
      have hpw' := List.pairwise_cons.mp hpw
      obtain ⟨v, g1, e1, v0, v1, i1⟩ := draw_ok h (by omega) (k := 4) (by omega) (by omega)
      have ea : agName 3 (.str w) [.o (.ref d), .d (.list (W.map .str)), .d (.int wide), s3, .own (p.map pairD), .d (.int far)] = some [.o (.ref d), .d (.list (W.map .str)), .d (.int wide), .d (.str w), .own (p.map pairD), .d (.int far)] := rfl
      by_cases c : 0 < v
      · obtain ⟨u, g2, e2, u0, u1, i2⟩ := draw_ok i1 (by omega) (k := 2 * wide + 1) (by omega) (by omega)
        obtain ⟨q, g3, t3, e3, q1, q2, q3, q4⟩ := ih (n - 2) g2 (p ++ [(w, u - wide + far)]) (.d (.str w)) (i2.le (by omega)) (by omega) hpw'.2 (fun x hx => hw x (by simp [hx])) (by
          unfold Asc
          rw [List.pairwise_append]
          exact ⟨ha, by simp, fun a ha b hb => by rw [List.mem_singleton.mp hb]; exact (hp a ha).2 w (by simp)⟩) (fun x hx => (List.mem_append.mp hx).elim (fun hx => ⟨(hp x hx).1, fun y hy => (hp x hx).2 y (by simp [hy])⟩) fun hx => by
            rw [List.mem_singleton.mp hx]
            exact ⟨hw w (by simp), fun y hy => hpw'.1 y hy⟩) (fun x hx => (List.mem_append.mp hx).elim (hb x) fun hx => by rw [List.mem_singleton.mp hx]; show -wide ≤ u - wide + far ∧ u - wide + far ≤ _; omega) (by simp; omega)
        refine ⟨q, g3, t3, ?_, q1, q2, q3, q4.le (by show n - 2 * (ws.length + 1) ≤ _; omega)⟩
        have m2 : oMul (.int 2) (.int wide) = some (.d (.int (2 * wide))) := if_pos (.inl (.inl ⟨by omega, by omega⟩))
        have hz : (p.map pairD).length < sizeLine := by rw [List.length_map, sizeLine_eq]; omega
        rw [List.map_cons, forR, ea]
        simp only [fVar, fC, fDat, fOp, fUn, fTest, fAnd, fOr, fNot, fAndV, fOrV, fNotV, fIf, aNil, aCons, allDR, allD, fTup, fLst, fCB, fCall, fSeq, fAsg, fSet, fRet, fRetV, fRetN, fIfS, fDrop, fNext, fIsi, fIsi2, fM, fSl, oS, oN, agName, sdRV, R.bind_ok, R.ofO_some, R.stx_ok, rdSD_d, rdSD_o, asDR_d, asDR_nl, asAR_d, asAR_nl, asAR_o, asBR_b, seqO_nx, seqO_rt, o1A_d, o2A_d, asIR_i, rtSD_d, List.getElem?_cons_zero, List.getElem?_cons_succ, List.set_cons_zero, List.set_cons_succ, if_true, if_false, Bool.false_eq_true, reduceIte, Bool.not_true, Bool.not_false, slots, List.map_cons, List.map_nil, avS, List.length_cons, List.length_nil, List.replicate_succ, List.replicate_zero, List.cons_append, List.nil_append, Nat.reduceAdd, Nat.reduceSub, Nat.reduceLeDiff, sl1, sl2, sl3, sl4, sl5, sl6, sl7, sl8, sl9, sl10, sl11, sl12, sl13, sl14, sl15, sl16, sl17, sl18, sl19, sl20, sl21, sl22, sl23, sl24, sl25, sl26, sl27, sl28, sl29, sl30, Nat.zero_le, R.bind_cg, Nat.zero_add, Option.map_some, Option.map_none, e1, oGt, oCmp, c, decide_true, fApp, ownSD_own, m2, oAdd, e2, oSub, hz, forO_nx]
        rw [show p.map pairD ++ [PyData.tuple [.str w, .int (u - wide + far)]] = (p ++ [(w, u - wide + far)]).map pairD from by rw [List.map_append]; rfl]
        exact e3
      · obtain ⟨q, g3, t3, e3, q1, q2, q3, q4⟩ := ih (n - 2) g1 p (.d (.str w)) (i1.le (by omega)) (by omega) hpw'.2 (fun x hx => hw x (by simp [hx])) ha (fun x hx => ⟨(hp x hx).1, fun y hy => (hp x hx).2 y (by simp [hy])⟩) hb (by omega)
        refine ⟨q, g3, t3, ?_, q1, q2, q3, q4.le (by show n - 2 * (ws.length + 1) ≤ _; omega)⟩
        rw [List.map_cons, forR, ea]
        simp only [fVar, fC, fDat, fOp, fUn, fTest, fAnd, fOr, fNot, fAndV, fOrV, fNotV, fIf, aNil, aCons, allDR, allD, fTup, fLst, fCB, fCall, fSeq, fAsg, fSet, fRet, fRetV, fRetN, fIfS, fDrop, fNext, fIsi, fIsi2, fM, fSl, oS, oN, agName, sdRV, R.bind_ok, R.ofO_some, R.stx_ok, rdSD_d, rdSD_o, asDR_d, asDR_nl, asAR_d, asAR_nl, asAR_o, asBR_b, seqO_nx, seqO_rt, o1A_d, o2A_d, asIR_i, rtSD_d, List.getElem?_cons_zero, List.getElem?_cons_succ, List.set_cons_zero, List.set_cons_succ, if_true, if_false, Bool.false_eq_true, reduceIte, Bool.not_true, Bool.not_false, slots, List.map_cons, List.map_nil, avS, List.length_cons, List.length_nil, List.replicate_succ, List.replicate_zero, List.cons_append, List.nil_append, Nat.reduceAdd, Nat.reduceSub, Nat.reduceLeDiff, sl1, sl2, sl3, sl4, sl5, sl6, sl7, sl8, sl9, sl10, sl11, sl12, sl13, sl14, sl15, sl16, sl17, sl18, sl19, sl20, sl21, sl22, sl23, sl24, sl25, sl26, sl27, sl28, sl29, sl30, Nat.zero_le, R.bind_cg, Nat.zero_add, Option.map_some, Option.map_none, e1, oGt, oCmp, c, decide_false, forO_nx]
        exact e3
  obtain ⟨q, g2, t3, e2, q1, q2, q3, q4⟩ := key W (n - 1) g1 [] .u i1 (by omega) hW.2 (fun x hx => hx) List.Pairwise.nil (by simp) (by simp) (by simpa using hW.1.sz)
  refine ⟨q, g2, fn_rt rfl ?_, ⟨hW.1, q1, q2⟩, q3, q4.le (by omega)⟩
  have ep : fPar 4 5 (fLst aNil) (fCall F__law_pick (aCons (fVar 0) (aCons (fLst (aCons (fC (.int 0)) (aCons (fC (.int 0)) (aCons (fC (.int 0)) (aCons (fC (.int 0)) (aCons (fC (.int 0)) (aCons (fOp oPow (fC (.int 10)) (fC (.int 9))) aNil))))))) aNil))) [.o (.ref d), .d (.list (W.map .str)), .d (.int wide), .u, .u, .u] g = .ok (.nx [.o (.ref d), .d (.list (W.map .str)), .d (.int wide), .u, .own [], .d (.int far)]) g1 := by
    unfold fPar
    simp only [fVar, fC, fDat, fOp, fUn, fTest, fAnd, fOr, fNot, fAndV, fOrV, fNotV, fIf, aNil, aCons, allDR, allD, fTup, fLst, fCB, fCall, fSeq, fAsg, fSet, fRet, fRetV, fRetN, fIfS, fDrop, fNext, fIsi, fIsi2, fM, fSl, oS, oN, agName, sdRV, R.bind_ok, R.ofO_some, R.stx_ok, rdSD_d, rdSD_o, asDR_d, asDR_nl, asAR_d, asAR_nl, asAR_o, asBR_b, seqO_nx, seqO_rt, o1A_d, o2A_d, asIR_i, rtSD_d, List.getElem?_cons_zero, List.getElem?_cons_succ, List.set_cons_zero, List.set_cons_succ, if_true, if_false, Bool.false_eq_true, reduceIte, Bool.not_true, Bool.not_false, slots, List.map_cons, List.map_nil, avS, List.length_cons, List.length_nil, List.replicate_succ, List.replicate_zero, List.cons_append, List.nil_append, Nat.reduceAdd, Nat.reduceSub, Nat.reduceLeDiff, sl1, sl2, sl3, sl4, sl5, sl6, sl7, sl8, sl9, sl10, sl11, sl12, sl13, sl14, sl15, sl16, sl17, sl18, sl19, sl20, sl21, sl22, sl23, sl24, sl25, sl26, sl27, sl28, sl29, sl30, Nat.zero_le, R.bind_cg, Nat.zero_add, Option.map_some, Option.map_none, p9, e1]
  have ef : fFor (iaSeq (fVar 1)) (agName 3)
    (fIfS (fTest (fOp oGt (fCall F__law_draw (aCons (fVar 0) (aCons (fC (.int 4)) aNil))) (fC (.int 0))))
    (fApp 4 (fTup (aCons (fVar 3) (aCons (fOp oAdd (fOp oSub (fCall F__law_draw (aCons (fVar 0) (aCons (fOp oAdd (fOp oMul (fC (.int 2)) (fVar 2)) (fC (.int 1))) aNil))) (fVar 2)) (fVar 5)) aNil))))
    fNext) [.o (.ref d), .d (.list (W.map .str)), .d (.int wide), .u, .own [], .d (.int far)] g1 = .ok (.nx [.o (.ref d), .d (.list (W.map .str)), .d (.int wide), t3, .own (q.map pairD), .d (.int far)]) g2 := e2
  have e5 : ∀ f : EFs, fFz 5 f [.o (.ref d), .d (.list (W.map .str)), .d (.int wide), .u, .own [], .d (.int far)] g1 = f [.o (.ref d), .d (.list (W.map .str)), .d (.int wide), .u, .own [], .d (.int far)] g1 := fun f => rfl
  have e4 : ∀ f : EFs, fFz 4 f [.o (.ref d), .d (.list (W.map .str)), .d (.int wide), t3, .own (q.map pairD), .d (.int far)] g2 = f [.o (.ref d), .d (.list (W.map .str)), .d (.int wide), t3, .d (.list (q.map pairD)), .d (.int far)] g2 := fun f => rfl
  show (fPar 4 5 _ _ [.o (.ref d), .d (.list (W.map .str)), .d (.int wide), .u, .u, .u] g).bind _ = _
  rw [ep]
  simp only [R.bind_ok, seqO_nx]
  rw [e5]
  simp only [fSeq]
  rw [ef]
  simp only [R.bind_ok, seqO_nx, e4]
  simp only [fVar, fC, fDat, fOp, fUn, fTest, fAnd, fOr, fNot, fAndV, fOrV, fNotV, fIf, aNil, aCons, allDR, allD, fTup, fLst, fCB, fCall, fSeq, fAsg, fSet, fRet, fRetV, fRetN, fIfS, fDrop, fNext, fIsi, fIsi2, fM, fSl, oS, oN, agName, sdRV, R.bind_ok, R.ofO_some, R.stx_ok, rdSD_d, rdSD_o, asDR_d, asDR_nl, asAR_d, asAR_nl, asAR_o, asBR_b, seqO_nx, seqO_rt, o1A_d, o2A_d, asIR_i, rtSD_d, List.getElem?_cons_zero, List.getElem?_cons_succ, List.set_cons_zero, List.set_cons_succ, if_true, if_false, Bool.false_eq_true, reduceIte, Bool.not_true, Bool.not_false, slots, List.map_cons, List.map_nil, avS, List.length_cons, List.length_nil, List.replicate_succ, List.replicate_zero, List.cons_append, List.nil_append, Nat.reduceAdd, Nat.reduceSub, Nat.reduceLeDiff, sl1, sl2, sl3, sl4, sl5, sl6, sl7, sl8, sl9, sl10, sl11, sl12, sl13, sl14, sl15, sl16, sl17, sl18, sl19, sl20, sl21, sl22, sl23, sl24, sl25, sl26, sl27, sl28, sl29, sl30, Nat.zero_le, R.bind_cg, Nat.zero_add, Option.map_some, Option.map_none, oTuple]
  rfl
end Pg

namespace Pg
open PySem L2 Fx
/-! ### plans: the plain laws -/
def leO (a b : Option Int) : Prop := ∀ m, a = some m → ∃ k, b = some k ∧ m ≤ k
theorem isIn_iff {p q : Plan} (h : Asc p) : isIn p q = true ↔ ∀ n, leO (get p n) (get q n) := by
  unfold isIn
  rw [List.all_eq_true]
  constructor
  · intro ha n m e
    have := ha _ (get_mem e)
    unfold okIn at this
    simp only at this
    split at this
    · rename_i k ek; exact ⟨k, ek, of_decide_eq_true this⟩
    · cases this
  · intro ha x hx
    obtain ⟨k, e, l⟩ := ha x.1 x.2 (mem_get h.nodup hx)
    unfold okIn
    rw [e]
    exact decide_eq_true l
theorem leO_max {a b : Option Int} : leO a b ↔ maxO a b = b := by
  unfold leO maxO
  cases a <;> cases b <;> simp <;> omega
theorem leO_min {a b : Option Int} : leO a b ↔ minO a b = a := by
  unfold leO minO
  cases a <;> cases b <;> simp <;> omega
theorem join2_get {p q : Plan} (hp : Asc p) (hq : Asc q) (n : Str) : get (joinP [p, q]) n = maxO (get p n) (get q n) := by
  rw [joinP_get _ (by simp [hp, hq])]
  simp only [List.foldr_cons, List.foldr_nil, maxO_none]
theorem join3_get {p q r : Plan} (hp : Asc p) (hq : Asc q) (hr : Asc r) (n : Str) : get (joinP [p, q, r]) n = maxO (get p n) (maxO (get q n) (get r n)) := by
  rw [joinP_get _ (by simp [hp, hq, hr])]
  simp only [List.foldr_cons, List.foldr_nil, maxO_none]
theorem join1 {p : Plan} (hp : Asc p) : joinP [p] = p := asc_ext (joinP_asc _) hp fun n => by
  rw [joinP_get _ (by simp [hp])]
  simp only [List.foldr_cons, List.foldr_nil, maxO_none]
theorem join2_comm {p q : Plan} (hp : Asc p) (hq : Asc q) : joinP [p, q] = joinP [q, p] := asc_ext (joinP_asc _) (joinP_asc _) fun n => by
  rw [join2_get hp hq, join2_get hq hp, maxO_comm]
theorem join3_back {p q : Plan} (hp : Asc p) (hq : Asc q) : joinP [p, q] = joinP [p, q, p] := asc_ext (joinP_asc _) (joinP_asc _) fun n => by
  rw [join2_get hp hq, join3_get hp hq hp, maxO_comm (get q n), ← maxO_assoc, maxO_self]
theorem join_assoc {p q r : Plan} (hp : Asc p) (hq : Asc q) (hr : Asc r) : joinP [joinP [p, q], r] = joinP [p, joinP [q, r]] := asc_ext (joinP_asc _) (joinP_asc _) fun n => by
  rw [join2_get (joinP_asc _) hr, join2_get hp (joinP_asc _), join2_get hp hq, join2_get hq hr, maxO_assoc]
theorem in_join {p q : Plan} (hp : Asc p) (hq : Asc q) : isIn p (joinP [p, q]) = true := (isIn_iff hp).mpr fun n => by
  rw [join2_get hp hq]
  exact leO_max.mpr (by rw [← maxO_assoc, maxO_self])
theorem minO_comm (a b : Option Int) : minO a b = minO b a := by cases a <;> cases b <;> simp [minO, Int.min_comm]
theorem minO_assoc (a b c : Option Int) : minO (minO a b) c = minO a (minO b c) := by cases a <;> cases b <;> cases c <;> simp [minO, Int.min_assoc]
theorem minO_self (a : Option Int) : minO a a = a := by cases a <;> simp [minO]
theorem early_get {p : Plan} (hp : Asc p) (q : Plan) (n : Str) : get (earlierP p q) n = minO (get p n) (get q n) := earlier_get hp.nodup q n
theorem early_in {p q : Plan} (hp : Asc p) : isIn (earlierP p q) p = true := (isIn_iff (earlier_asc hp q)).mpr fun n => by
  rw [early_get hp]
  exact leO_min.mpr (by rw [minO_comm (get p n), minO_assoc, minO_self])
theorem early_comm {p q : Plan} (hp : Asc p) (hq : Asc q) : earlierP p q = earlierP q p := asc_ext (earlier_asc hp _) (earlier_asc hq _) fun n => by
  rw [early_get hp, early_get hq, minO_comm]
theorem in_iff_join {p q : Plan} (hp : Asc p) (hq : Asc q) : isIn p q = true ↔ joinP [p, q] = q := by
  rw [isIn_iff hp]
  constructor
  · intro h
    exact asc_ext (joinP_asc _) hq fun n => by rw [join2_get hp hq]; exact leO_max.mp (h n)
  · intro h n
    refine leO_max.mpr ?_
    rw [← join2_get hp hq, h]
theorem in_iff_early {p q : Plan} (hp : Asc p) : isIn p q = true ↔ earlierP p q = p := by
  rw [isIn_iff hp]
  constructor
  · intro h
    exact asc_ext (earlier_asc hp _) hp fun n => by rw [early_get hp]; exact leO_min.mp (h n)
  · intro h n
    refine leO_min.mpr ?_
    rw [← early_get hp, h]
theorem dec_join {p q : Plan} (hp : Asc p) (hq : Asc q) : isIn p q = decide (joinP [p, q] = q) := by
  rw [Bool.eq_iff_iff, in_iff_join hp hq, decide_eq_true_iff]
theorem dec_early {p q : Plan} (hp : Asc p) : isIn p q = decide (earlierP p q = p) := by
  rw [Bool.eq_iff_iff, in_iff_early hp, decide_eq_true_iff]
theorem join_in {p q r : Plan} (hp : Asc p) (hq : Asc q) (h1 : isIn p r = true) (h2 : isIn q r = true) : isIn (joinP [p, q]) r = true := by
  rw [isIn_iff (joinP_asc _)]
  intro n
  have a := leO_max.mp ((isIn_iff hp).mp h1 n)
  have b := leO_max.mp ((isIn_iff hq).mp h2 n)
  rw [join2_get hp hq]
  exact leO_max.mpr (by rw [maxO_assoc, b, a])
theorem in_early {p q r : Plan} (hp : Asc p) (hr : Asc r) (h1 : isIn r p = true) (h2 : isIn r q = true) : isIn r (earlierP p q) = true := by
  rw [isIn_iff hr]
  intro n
  have a := leO_min.mp ((isIn_iff hr).mp h1 n)
  have b := leO_min.mp ((isIn_iff hr).mp h2 n)
  rw [early_get hp]
  exact leO_min.mpr (by rw [← minO_assoc, a, b])
theorem absorb_join {p q : Plan} (hp : Asc p) : joinP [earlierP p q, p] = p := (in_iff_join (earlier_asc hp q) hp).mp (early_in hp)
theorem absorb_early {p q : Plan} (hp : Asc p) (hq : Asc q) : earlierP (joinP [p, q]) p = p := by
  rw [early_comm (joinP_asc _) hp]
  exact (in_iff_early hp).mp (in_join hp hq)
theorem put_join {p q : Plan} (hp : Asc p) (hq : Asc q) (k : Int) : putP (joinP [p, q]) k = joinP [putP p k, putP q k] := asc_ext (putP_asc (joinP_asc _) k) (joinP_asc _) fun n => by
  rw [join2_get (putP_asc hp k) (putP_asc hq k), putP_get, putP_get, putP_get, join2_get hp hq]
  cases get p n <;> cases get q n <;> simp [maxO] <;> omega
theorem put_early {p q : Plan} (hp : Asc p) (k : Int) : putP (earlierP p q) k = earlierP (putP p k) (putP q k) := asc_ext (putP_asc (earlier_asc hp q) k) (earlier_asc (putP_asc hp k) _) fun n => by
  rw [early_get (putP_asc hp k), putP_get, putP_get, putP_get, early_get hp]
  cases get p n <;> cases get q n <;> simp [minO] <;> omega
theorem put_back (p : Plan) (k : Int) : putP (putP p k) (0 - k) = p := by
  rw [putP_putP, show k + (0 - k) = 0 from by omega, putP_zero]
/-! rooms -/
theorem room_some {p q : Plan} {f : Int} (h : roomP p q = some f) : p ≠ [] ∧ (∀ x ∈ p, ∃ k, get q x.1 = some k ∧ f ≤ k - x.2) ∧ ∃ x ∈ p, ∃ k, get q x.1 = some k ∧ f = k - x.2 := by
  unfold roomP at h
  split at h
  · cases h
  · rename_i c
    have c1 : p ≠ [] := fun e => c (.inl e)
    have c2 : (p.all fun x => (get q x.1).isSome) = true := by
      cases e : p.all fun x => (get q x.1).isSome with
      | true => rfl
      | false => exact absurd (Or.inr (by rw [e]; exact Bool.false_ne_true)) c
    cases h
    have hne : (p.map fun x => (get q x.1).getD 0 - x.2) ≠ [] := by simpa using c1
    obtain ⟨m1, m2⟩ := minI_spec hne
    have some_ : ∀ x ∈ p, ∃ k, get q x.1 = some k := fun x hx => Option.isSome_iff_exists.mp (List.all_eq_true.mp c2 x hx)
    refine ⟨c1, fun x hx => ?_, ?_⟩
    · obtain ⟨k, e⟩ := some_ x hx
      have := m2 _ (List.mem_map.mpr ⟨x, hx, rfl⟩)
      rw [e] at this
      exact ⟨k, e, this⟩
    · obtain ⟨x, hx, e⟩ := List.mem_map.mp m1
      obtain ⟨k, ek⟩ := some_ x hx
      rw [ek] at e
      exact ⟨x, hx, k, ek, e.symm⟩
theorem room_of {p q : Plan} {f : Int} (h0 : p ≠ []) (h1 : ∀ x ∈ p, ∃ k, get q x.1 = some k ∧ f ≤ k - x.2) (h2 : ∃ x ∈ p, ∃ k, get q x.1 = some k ∧ f = k - x.2) : roomP p q = some f := by
  unfold roomP
  have c2 : (p.all fun x => (get q x.1).isSome) = true := List.all_eq_true.mpr fun x hx => by
    obtain ⟨k, e, _⟩ := h1 x hx
    rw [e]; rfl
  rw [if_neg (fun z => z.elim h0 (fun z => z c2))]
  have hne : (p.map fun x => (get q x.1).getD 0 - x.2) ≠ [] := by simpa using h0
  obtain ⟨m1, m2⟩ := minI_spec hne
  congr 1
  obtain ⟨x, hx, k, ek, ef⟩ := h2
  have a := m2 _ (List.mem_map.mpr ⟨x, hx, rfl⟩)
  rw [ek] at a
  obtain ⟨y, hy, ey⟩ := List.mem_map.mp m1
  obtain ⟨j, ej, lj⟩ := h1 y hy
  rw [ej] at ey
  have a : minI _ ≤ k - x.2 := a
  have ey : j - y.2 = minI _ := ey
  omega
theorem put_mem {p : Plan} {k : Int} {x : Str × Int} (h : x ∈ putP p k) : ∃ y ∈ p, x = (y.1, y.2 + k) := by
  unfold putP at h
  obtain ⟨y, hy, rfl⟩ := List.mem_map.mp h
  exact ⟨y, hy, rfl⟩
theorem mem_put {p : Plan} (k : Int) {y : Str × Int} (h : y ∈ p) : (y.1, y.2 + k) ∈ putP p k := List.mem_map.mpr ⟨y, h, rfl⟩
theorem put_ne {p : Plan} {k : Int} : putP p k = [] ↔ p = [] := by unfold putP; exact List.map_eq_nil_iff
theorem room_in {p q : Plan} {f : Int} (hp : Asc p) (h : roomP p q = some f) : isIn (putP p f) q = true := by
  obtain ⟨_, h1, _⟩ := room_some h
  unfold isIn
  rw [List.all_eq_true]
  intro x hx
  obtain ⟨y, hy, rfl⟩ := put_mem hx
  obtain ⟨k, e, l⟩ := h1 y hy
  unfold okIn
  rw [e]
  exact decide_eq_true (by show y.2 + f ≤ k; omega)
theorem room_out {p q : Plan} {f : Int} (h : roomP p q = some f) : isIn (putP p (f + 1)) q = false := by
  obtain ⟨_, _, x, hx, k, e, rfl⟩ := room_some h
  cases c : isIn (putP p (k - x.2 + 1)) q with
  | false => rfl
  | true =>
    have := List.all_eq_true.mp c _ (mem_put _ hx)
    unfold okIn at this
    rw [e] at this
    have := of_decide_eq_true this
    have this : x.2 + (k - x.2 + 1) ≤ k := this
    omega
theorem room_put_l {p q : Plan} {f : Int} (k : Int) (h : roomP p q = some f) : roomP (putP p k) q = some (f - k) := by
  obtain ⟨h0, h1, x, hx, m, e, hf⟩ := room_some h
  refine room_of (fun z => h0 (put_ne.mp z)) (fun y hy => ?_) ⟨_, mem_put k hx, m, e, by show f - k = m - (x.2 + k); omega⟩
  obtain ⟨z, hz, rfl⟩ := put_mem hy
  obtain ⟨j, ej, l⟩ := h1 z hz
  exact ⟨j, ej, by show f - k ≤ j - (z.2 + k); omega⟩
theorem room_put_r {p q : Plan} {f : Int} (k : Int) (h : roomP p q = some f) : roomP p (putP q k) = some (f + k) := by
  obtain ⟨h0, h1, x, hx, m, e, hf⟩ := room_some h
  refine room_of h0 (fun y hy => ?_) ⟨x, hx, m + k, by rw [putP_get, e]; rfl, by omega⟩
  obtain ⟨j, ej, l⟩ := h1 y hy
  exact ⟨j + k, by rw [putP_get, ej]; rfl, by omega⟩
theorem room_none {p q : Plan} (h : roomP p q = none) (h0 : p ≠ []) : ∃ x ∈ p, get q x.1 = none := by
  unfold roomP at h
  split at h
  · rename_i c
    rcases c with c | c
    · exact absurd c h0
    · refine Classical.byContradiction fun z => c (List.all_eq_true.mpr fun x hx => ?_)
      cases e : get q x.1 with
      | some k => rfl
      | none => exact absurd ⟨x, hx, e⟩ z
  · cases h
/-! normal plans -/
theorem last_spec {p : Plan} (h : p ≠ []) : (∃ x ∈ p, x.2 = lastP p) ∧ ∀ x ∈ p, x.2 ≤ lastP p := by
  unfold lastP
  rw [if_neg h]
  obtain ⟨m1, m2⟩ := maxI_spec (ns := p.map (·.2)) (by simpa using h)
  exact ⟨List.mem_map.mp m1, fun x hx => m2 _ (List.mem_map.mpr ⟨x, hx, rfl⟩)⟩
theorem last_put {p : Plan} (h : p ≠ []) (k : Int) : lastP (putP p k) = lastP p + k := by
  obtain ⟨⟨x, hx, ex⟩, m⟩ := last_spec h
  obtain ⟨⟨y, hy, ey⟩, m'⟩ := last_spec (p := putP p k) (fun z => h (put_ne.mp z))
  have a := m' _ (mem_put k hx)
  obtain ⟨z, hz, rfl⟩ := put_mem hy
  have b := m z hz
  have a : x.2 + k ≤ _ := a
  have ey : z.2 + k = _ := ey
  omega
theorem normal_put (p : Plan) (k : Int) : normalP (putP p k) = normalP p := by
  unfold normalP
  by_cases h : p = []
  · subst h; rfl
  · rw [last_put h, putP_putP, show k + -(lastP p + k) = -lastP p from by omega]
theorem normal_le (p : Plan) : ∀ x ∈ normalP p, x.2 ≤ 0 := by
  intro x hx
  obtain ⟨y, hy, rfl⟩ := put_mem hx
  have := (last_spec (p := p) (fun z => by rw [z] at hy; cases hy)).2 y hy
  show y.2 + -(lastP p) ≤ 0
  omega
theorem normal_zero {p : Plan} (h : p ≠ []) : ∃ x ∈ normalP p, x.2 = 0 := by
  obtain ⟨⟨x, hx, ex⟩, m⟩ := last_spec h
  exact ⟨_, mem_put _ hx, by show x.2 + -(lastP p) = 0; omega⟩
theorem get_of_mem {p : Plan} (hp : Asc p) {x : Str × Int} (h : x ∈ p) : get p x.1 = some x.2 := mem_get hp.nodup h
end Pg

namespace Pg
open PySem L2 Fx
def R.to {α : Type} (m : R α) (P : α → Gs → Prop) : Prop := ∃ a g, m = .ok a g ∧ P a g
theorem R.to_ok {α : Type} (a : α) (g : Gs) (P : α → Gs → Prop) : R.to (.ok a g) P = P a g := propext ⟨fun ⟨_, _, e, h⟩ => by cases e; exact h, fun h => ⟨a, g, rfl, h⟩⟩
theorem for_to {fg : EFg} {fb : EFs} (I : Nat → List SD → Gs → Prop) : ∀ (ds : List PyData) (ρ : List SD) (g : Gs), I ds.length ρ g → (∀ x ∈ ds, ∀ m ρ g, I (m + 1) ρ g → ∃ ρ1, fg x ρ = some ρ1 ∧ R.to (fb ρ1 g) fun o g2 => ∃ ρ2, o = .nx ρ2 ∧ I m ρ2 g2) →
    ∃ ρ' g', forR fg fb ds ρ g = .ok (.nx ρ') g' ∧ I 0 ρ' g'
  | [], ρ, g, h, _ => ⟨ρ, g, rfl, h⟩
  | x :: ds, ρ, g, h, hs => by
    obtain ⟨ρ1, e1, o, g2, e2, ρ2, rfl, i⟩ := hs x (by simp) ds.length ρ g h
    obtain ⟨ρ', g', e3, i3⟩ := for_to I ds ρ2 g2 i fun y hy => hs y (by simp [hy])
    refine ⟨ρ', g', ?_, i3⟩
    rw [forR, e1]
    simp only [e2, R.bind_ok, forO_nx]
    exact e3
theorem gd_of {d l c : Addr} {g : Gs} {n : Nat} (h : GOk g n) (q : g.q = some (d, l, c)) : GD d n g := ⟨⟨l, c, q⟩, h⟩
theorem oRng1_eq (k : Int) (h0 : 0 ≤ k) (h1 : k < 2 ^ 60) : oRng1 [.d (.int k)] = some (rngD 0 k.toNat) := by
  show (if -(2 ^ 62) ≤ k ∧ k < 2 ^ 62 then some (rngD 0 k.toNat) else none) = _
  rw [if_pos ⟨by omega, by omega⟩]
theorem iaRng1_eq {fe : EF} {ρ : List SD} {g g1 : Gs} {k : Int} (h : fe ρ g = .ok (.d (.int k)) g1) (h0 : 0 ≤ k) (h1 : k < 2 ^ 60) : iaRng1 (aCons fe aNil) ρ g = .ok (rngD 0 k.toNat) g1 := by
  unfold iaRng1 iaB aCons
  rw [h]
  simp only [R.bind_ok, asAR_d, aNil, oRng1_eq k h0 h1, R.ofO_some]
/-- the rows of a law -/
theorem rows_ok {d : Addr} {n : Nat} {g : Gs} (h : GD d n g) {W : List Str} (hW : Words W) {ρ : List SD} {fe : EF} {v : Nat} (k : Nat) (z : Int) (hz : z = k) (c : Nat) (hk : k ≤ 100) (hn : c * k ≤ n)
    (hs : ∀ x m g, GD d (m + c) g → ∃ p g', fDat fe ((ρ.set v .u).set v (.d x)) g = .ok (planD p) g' ∧ Pl W p ∧ GD d m g') :
    ∃ (ps : List Plan) (g' : Gs), fLc (iaRng1 (aCons (fC (.int z)) aNil)) (agName v) fYes fe [v] ρ g = .ok (.nl (ps.map planD)) g' ∧ ps.length = k ∧ (∀ p ∈ ps, Pl W p) ∧ GD d (n - c * k) g' := by
  subst hz
  have hi : iaRng1 (aCons (fC (.int k)) aNil) ρ g = .ok (rngD 0 k) g := by
    have := iaRng1_eq (fe := fC (.int (k : Int))) (ρ := ρ) (g := g) (g1 := g) (k := (k : Int)) rfl (by omega) (by omega)
    rw [Int.toNat_natCast] at this
    exact this
  have hl : (rngD 0 k).length = k := by unfold rngD; simp
  obtain ⟨ys, g', e, l, p, i⟩ := fLc_st (fg := agName v) (fe := fe) (vs := [v]) (fun m g => GD d (n - c * k + c * m) g) (fun y => ∃ p, y = planD p ∧ Pl W p) hi (by rw [hl]; exact h.le (by omega)) (by rw [hl, sizeLine_eq]; omega) (fun x _ m g hg => by
    obtain ⟨p, g', e, hp, i⟩ := hs x (n - c * k + c * m) g (by rw [Nat.mul_add, Nat.mul_one] at hg; exact hg.le (by omega))
    exact ⟨_, _, g', rfl, e, ⟨p, rfl, hp⟩, i⟩)
  obtain ⟨ps, rfl, hp⟩ : ∃ ps : List Plan, ys = ps.map planD ∧ ∀ p ∈ ps, Pl W p := by
    clear e l i
    induction ys with
    | nil => exact ⟨[], rfl, by simp⟩
    | cons y r ih =>
      obtain ⟨q, rfl, hq⟩ := p y (by simp)
      obtain ⟨ps, rfl, h1⟩ := ih fun y hy => p y (by simp [hy])
      exact ⟨q :: ps, rfl, fun z hz => (List.mem_cons.mp hz).elim (fun e => e ▸ hq) (h1 z)⟩
  exact ⟨ps, g', e, by rw [List.length_map] at l; omega, hp, i⟩
theorem words_int {d : Addr} {n : Nat} {g : Gs} (h : GD d n g) {k : Int} (k0 : 0 ≤ k) (k1 : k ≤ 20) (hn : 160 ≤ n) :
    ∃ (W : List Str) (g' : Gs), F__law_words [.o (.ref d), .d (.int k)] g = .ok (.nl (W.map .str)) g' ∧ Words W ∧ (W.length : Int) = k ∧ GD d (n - 160) g' := by
  obtain ⟨W, g', e, hW, hl, i⟩ := words_ok h k.toNat (by omega) (by omega)
  rw [show ((k.toNat : Nat) : Int) = k from by omega] at e
  exact ⟨W, g', e, hW, by omega, i.le (by omega)⟩
theorem law_for {fi : EFi} {fg : EFg} {fb r : EFs} {ρ : List SD} {g : Gs} {ds : List PyData} {o : Out} (I : Nat → List SD → Gs → Prop) (hi : fi ρ g = .ok ds g) (h0 : I ds.length ρ g)
    (hs : ∀ x ∈ ds, ∀ m ρ g, I (m + 1) ρ g → ∃ ρ1, fg x ρ = some ρ1 ∧ R.to (fb ρ1 g) fun o g2 => ∃ ρ2, o = .nx ρ2 ∧ I m ρ2 g2) (hr : ∀ ρ g, I 0 ρ g → ∃ g2, r ρ g = .ok o g2) :
    ∃ g2, fSeq (fFor fi fg fb) r ρ g = .ok o g2 := by
  obtain ⟨ρ', g', e, i⟩ := for_to I ds ρ g h0 hs
  obtain ⟨g2, e2⟩ := hr ρ' g' i
  refine ⟨g2, ?_⟩
  unfold fSeq fFor
  rw [hi]
  simp only [R.stx_ok, e, R.bind_ok, seqO_nx]
  exact e2
theorem oEq_lstr (a b : List Str) : oEq (.list (a.map .str)) (.list (b.map .str)) = some (.d (.bool (decide (a = b)))) := by
  unfold oEq
  rw [if_pos ⟨pl_strs a, pl_strs b⟩, PyData.eqv, eqvAll_map PyData.str eqv_str]
theorem oEq_lstr0 (a : List Str) : oEq (.list (a.map .str)) (.list []) = some (.d (.bool (decide (a = [])))) := oEq_lstr a []
theorem oNe_lstr (a b : List Str) : oNe (.list (a.map .str)) (.list (b.map .str)) = some (.d (.bool (decide (a ≠ b)))) := by
  unfold oNe
  rw [if_pos ⟨pl_strs a, pl_strs b⟩, PyData.eqv, eqvAll_map PyData.str eqv_str, decide_not]
theorem oNe_tup0 (p : Plan) : oNe (planD p) (.tuple []) = some (.d (.bool (decide (p ≠ [])))) := oNe_plan p []
theorem oEq_tup0 (p : Plan) : oEq (planD p) (.tuple []) = some (.d (.bool (decide (p = [])))) := oEq_plan p []
theorem oAdd_int (i j : Int) : oAdd (.int i) (.int j) = some (.d (.int (i + j))) := rfl
theorem oNotN_int (i : Int) : oNotN (.int i) .none = some (.d (.bool true)) := rfl
theorem oIsN_int (i : Int) : oIsN (.int i) .none = some (.d (.bool false)) := rfl
theorem oNotN_opt (o : Option Int) : oNotN (optD o) .none = some (.d (.bool o.isSome)) := by cases o <;> rfl
theorem oIsN_opt (o : Option Int) : oIsN (optD o) .none = some (.d (.bool o.isNone)) := by cases o <;> rfl
end Pg

namespace Pg
open PySem L2 Fx
/-! ### what can be shown -/
structure Sh (n : Nat) (d : PyData) : Prop where
  pl : pl d = true
  sh : d.showable = true
  lv : d.leavesShort 41 = true
  bk : d.bulk ≤ n
theorem Sh.le {n m : Nat} {d : PyData} (h : Sh n d) (e : n ≤ m) : Sh m d := ⟨h.pl, h.sh, h.lv, Nat.le_trans h.bk e⟩
theorem oRepr_ok {n : Nat} {d : PyData} (h : Sh n d) (hn : n ≤ 300000) (hr : isRefD d = true) : oRepr d = some (.d (.str d.shown)) := by
  unfold oRepr
  have := PyData.shown_le_bulk 41 (by decide) d h.lv
  have hb := h.bk
  rw [if_pos ⟨h.pl, h.sh, by rw [sizeLine_eq]; omega, hr⟩]
def BigI (i : Int) : Prop := -(10 ^ 39) ≤ i ∧ i ≤ 10 ^ 39
theorem big_short {i : Int} (h : BigI i) : PyData.leavesShort 41 (.int i) = true := by
  obtain ⟨h1, h2⟩ := h
  have e := int_text_length_le10 (a := i) (k := 40) (by decide) (by omega)
  have : (PyData.shown (.int i)).length ≤ 41 := by
    show (Str.ofString (toString i)).length ≤ 41
    rw [ofString_length]; exact e
  simp only [PyData.leavesShort]
  exact decide_eq_true this
theorem big_show {i : Int} (h : BigI i) : PyData.showable (.int i) = true := by
  obtain ⟨h1, h2⟩ := h
  simp only [PyData.showable]
  refine decide_eq_true ?_
  by_cases c : i.natAbs = 0
  · rw [c]; decide
  · have : i.natAbs.log2 < 200 := (Nat.log2_lt c).mpr (by omega)
    omega
theorem name_short {x : Str} (h : OkName x) : PyData.leavesShort 41 (.str x) = true := by
  simp only [PyData.leavesShort, List.all_eq_true, decide_eq_true_eq]
  intro c hc
  have : letters.cps.toList.all fun c => decide (c < 16 ^ 8) := by decide +kernel
  exact of_decide_eq_true (List.all_eq_true.mp this c (h.al c hc))
theorem showAll_map {α : Type} (f : α → PyData) : ∀ l : List α, (∀ x ∈ l, (f x).showable = true) → PyData.showableAll (l.map f) = true
  | [], _ => rfl
  | x :: l, h => by
    show ((f x).showable && PyData.showableAll (l.map f)) = true
    rw [h x (by simp), showAll_map f l fun y hy => h y (by simp [hy])]; rfl
theorem leavesAll_map {α : Type} (f : α → PyData) : ∀ l : List α, (∀ x ∈ l, (f x).leavesShort 41 = true) → PyData.leavesShortAll 41 (l.map f) = true
  | [], _ => rfl
  | x :: l, h => by
    show ((f x).leavesShort 41 && PyData.leavesShortAll 41 (l.map f)) = true
    rw [h x (by simp), leavesAll_map f l fun y hy => h y (by simp [hy])]; rfl
theorem bulkAll_map {α : Type} (f : α → PyData) (n : Nat) : ∀ l : List α, (∀ x ∈ l, (f x).bulk ≤ n) → PyData.bulkAll (l.map f) ≤ (n + 1) * l.length
  | [], _ => Nat.zero_le _
  | x :: l, h => by
    show (f x).bulk + 1 + PyData.bulkAll (l.map f) ≤ (n + 1) * (l.length + 1)
    have h1 := h x (by simp)
    have h2 := bulkAll_map f n l fun y hy => h y (by simp [hy])
    rw [Nat.mul_add]
    omega
theorem sh_pair {x : Str × Int} (h : OkName x.1) (hi : BigI x.2) : Sh 8 (pairD x) where
  pl := by
    unfold Fx.pl
    have := depth_pair x
    rw [plain_pair, decide_eq_true (by omega)]; rfl
  sh := by
    show (PyData.showable (.str x.1) && (PyData.showable (.int x.2) && true)) = true
    rw [big_show hi]; rfl
  lv := by
    show (PyData.leavesShort 41 (.str x.1) && (PyData.leavesShort 41 (.int x.2) && true)) = true
    rw [big_short hi, name_short h]; rfl
  bk := by
    show x.1.cps.size + 1 + (0 + 1 + 0) ≤ 8
    have : x.1.cps.size ≤ 6 := h.hi
    omega
/-- a plan that can be shown -/
def PB (p : Plan) : Prop := ∀ x ∈ p, BigI x.2
theorem sh_plan {W : List Str} {p : Plan} (h : Pl W p) (hb : PB p) : Sh 9000 (planD p) where
  pl := pl_plan p
  sh := showAll_map pairD p fun x hx => (sh_pair (h.nm x hx) (hb x hx)).sh
  lv := leavesAll_map pairD p fun x hx => (sh_pair (h.nm x hx) (hb x hx)).lv
  bk := by
    have := bulkAll_map pairD 8 p fun x hx => (sh_pair (h.nm x hx) (hb x hx)).bk
    have hz := h.sz
    show PyData.bulkAll (p.map pairD) ≤ 9000
    omega
theorem sh_list {α : Type} (f : α → PyData) (n : Nat) (l : List α) (h : ∀ x ∈ l, Sh n (f x)) (hd : ∀ x ∈ l, (f x).depth ≤ 60) : Sh ((n + 1) * l.length) (.list (l.map f)) where
  pl := by
    unfold Fx.pl
    have h1 : PyData.plain (.list (l.map f)) = true := by
      rw [PyData.plain]
      exact plainAll_map _ _ fun x hx => by
        have := (h x hx).pl
        unfold Fx.pl at this
        simp only [Bool.and_eq_true] at this
        exact this.1
    have h2 : PyData.depth (.list (l.map f)) ≤ 64 := by
      have := depthAll_map f 60 l hd
      rw [PyData.depth]
      omega
    rw [h1, decide_eq_true h2]; rfl
  sh := showAll_map f l fun x hx => (h x hx).sh
  lv := leavesAll_map f l fun x hx => (h x hx).lv
  bk := bulkAll_map f n l fun x hx => (h x hx).bk
theorem repr_plan {W : List Str} {p : Plan} (h : Pl W p) (hb : PB p) : oRepr (planD p) = some (.d (.str (planD p).shown)) := oRepr_ok (sh_plan h hb) (by decide) rfl
theorem repr_plans {W : List Str} (l : List Plan) (h : ∀ p ∈ l, Pl W p ∧ PB p) (hl : l.length ≤ 30) : oRepr (.list (l.map planD)) = some (.d (.str (PyData.list (l.map planD)).shown)) :=
  oRepr_ok (sh_list planD 9000 l (fun p hp => sh_plan (h p hp).1 (h p hp).2) (fun p _ => by have := depth_plan p; omega)) (by omega) rfl
def boolS (b : Bool) : Str := if b = true then "True" else "False"
theorem repr_bool (b : Bool) : oRepr (.bool b) = some (.d (.str (boolS b))) := by
  cases b <;> (unfold oRepr; rw [if_neg (fun z => by cases z.2.2.2)]; rfl)
theorem PB.put {p : Plan} {k : Int} {B : Int} (h : ∀ x ∈ p, -B ≤ x.2 ∧ x.2 ≤ B) (hk : -B ≤ k ∧ k ≤ B) (hB : B ≤ 10 ^ 38) : PB (putP p k) := fun x hx => by
  obtain ⟨y, hy, rfl⟩ := put_mem hx
  have := h y hy
  constructor
  · show -(10 ^ 39) ≤ y.2 + k
    omega
  · show y.2 + k ≤ 10 ^ 39
    omega
end Pg

namespace Pg
open PySem L2 Fx
theorem lput_eq {W : List Str} {p : Plan} (h : Pl W p) (k : Int) (g : Gs) : F__law_put [.d (planD p), .d (.int k)] g = .ok (.d (planD (putP p k))) g := put_by_eq h k g
theorem ljoin_eq {W : List Str} {ps : List Plan} (h : ∀ p ∈ ps, Pl W p) (hz : ps.length ≤ 1000) (g : Gs) : F__law_join [.d (.list (ps.map planD))] g = .ok (.d (planD (joinP ps))) g := join_of_eq h hz g
theorem lnorm_eq {W : List Str} {p : Plan} (h : Pl W p) (g : Gs) : F__law_norm [.d (planD p)] g = .ok (.d (planD (normalP p))) g := by
  refine fn_rt rfl ?_
  unfold b__law_norm
  by_cases c : p = []
  · subst c
    simp only [fVar, fC, fDat, fOp, fUn, fTest, fAnd, fOr, fNot, fAndV, fOrV, fNotV, fIf, aNil, aCons, allDR, allD, fTup, fLst, fCB, fCall, fSeq, fAsg, fSet, fRet, fRetV, fRetN, fIfS, fDrop, fNext, fIsi, fIsi2, fM, fSl, oS, oN, agName, sdRV, R.bind_ok, R.ofO_some, R.stx_ok, rdSD_d, rdSD_o, asDR_d, asDR_nl, asAR_d, asAR_nl, asAR_o, asBR_b, seqO_nx, seqO_rt, o1A_d, o2A_d, asIR_i, rtSD_d, List.getElem?_cons_zero, List.getElem?_cons_succ, List.set_cons_zero, List.set_cons_succ, if_true, if_false, Bool.false_eq_true, reduceIte, Bool.not_true, Bool.not_false, slots, List.map_cons, List.map_nil, avS, List.length_cons, List.length_nil, List.replicate_succ, List.replicate_zero, List.cons_append, List.nil_append, Nat.reduceAdd, Nat.reduceSub, Nat.reduceLeDiff, sl1, sl2, sl3, sl4, sl5, sl6, sl7, sl8, sl9, sl10, sl11, sl12, sl13, sl14, sl15, sl16, sl17, sl18, sl19, sl20, sl21, sl22, sl23, sl24, sl25, sl26, sl27, sl28, sl29, sl30, Nat.zero_le, R.bind_cg, Nat.zero_add, Option.map_some, Option.map_none, oNe_tup0, ne_eq, not_true_eq_false, decide_false]
    rfl
  · have e : fLc (iaSeq (fVar 0)) (agTup 2 (agCons (agName 1) (agCons (agName 2) agNil))) fYes (fVar 2) [1, 2] [.d (planD p), .u, .u] g = .ok (.nl (p.map fun x => .int x.2)) g := fLc_map p pairD (fun x => .int x.2) rfl (fun x hx => ⟨_, rfl, rfl, rfl⟩) h.zl
    have e2 : oMaxL (.list (p.map fun x => PyData.int x.2)) = some (.d (.int (lastP p))) := by
      unfold oMaxL lastP
      simp only [intsD_map, Option.bind_some]
      rw [if_pos (by simpa using c), if_neg c]
    have e3 : normalP p = putP p (0 - lastP p) := by unfold normalP; rw [Int.zero_sub]
    simp only [fVar, fC, fDat, fOp, fUn, fTest, fAnd, fOr, fNot, fAndV, fOrV, fNotV, fIf, aNil, aCons, allDR, allD, fTup, fLst, fCB, fCall, fSeq, fAsg, fSet, fRet, fRetV, fRetN, fIfS, fDrop, fNext, fIsi, fIsi2, fM, fSl, oS, oN, agName, sdRV, R.bind_ok, R.ofO_some, R.stx_ok, rdSD_d, rdSD_o, asDR_d, asDR_nl, asAR_d, asAR_nl, asAR_o, asBR_b, seqO_nx, seqO_rt, o1A_d, o2A_d, asIR_i, rtSD_d, List.getElem?_cons_zero, List.getElem?_cons_succ, List.set_cons_zero, List.set_cons_succ, if_true, if_false, Bool.false_eq_true, reduceIte, Bool.not_true, Bool.not_false, slots, List.map_cons, List.map_nil, avS, List.length_cons, List.length_nil, List.replicate_succ, List.replicate_zero, List.cons_append, List.nil_append, Nat.reduceAdd, Nat.reduceSub, Nat.reduceLeDiff, sl1, sl2, sl3, sl4, sl5, sl6, sl7, sl8, sl9, sl10, sl11, sl12, sl13, sl14, sl15, sl16, sl17, sl18, sl19, sl20, sl21, sl22, sl23, sl24, sl25, sl26, sl27, sl28, sl29, sl30, Nat.zero_le, R.bind_cg, Nat.zero_add, Option.map_some, Option.map_none, oNe_tup0, ne_eq, c, not_false_eq_true, decide_true, e, e2, oSub, lput_eq h, e3]
theorem lwithin_eq {W W' : List Str} {p r : Plan} (h : Pl W p) (h' : Pl W' r) (g : Gs) : F__law_within [.d (planD p), .d (planD r)] g = .ok (.d (.bool (isIn p r))) g := by
  refine fn_rt rfl ?_
  unfold b__law_within
  have oInT : ∀ n : Str, oIn true (.str n) (.dict (r.map kvD)) = some (.d (.bool (!(get r n).isSome))) := fun n => by
    show (if matchK (r.map kvD) (.f (.inr n)) = true then some (RV.d (.bool (true ^^ (dget (r.map kvD) (.f (.inr n))).isSome))) else none) = _
    rw [if_pos (match_kv _ _), dget_kv]
    cases get r n <;> rfl
  have e : fLc (iaSeq (fVar 0)) (agTup 2 (agCons (agName 3) (agCons (agName 4) agNil))) (fOr (fTest (fOp (oIn true) (fVar 3) (fVar 2))) (fTest (fOp oLt (fOp oIx (fVar 2) (fVar 3)) (fVar 4)))) (fVar 3) [3, 4] [.d (planD p), .d (planD r), .d (.dict (r.map kvD)), .u, .u] g = .ok (.nl ((p.filter fun x => !okIn r x).map fun x => .str x.1)) g := by
    refine fLc_filter p pairD (fun x => !okIn r x) (fun x => .str x.1) rfl (fun x hx => ⟨_, rfl, ?_, fun _ => rfl⟩) h.zl
    unfold okIn
    cases eg : get r x.1 with
    | none => simp only [fVar, fC, fDat, fOp, fUn, fTest, fAnd, fOr, fNot, fAndV, fOrV, fNotV, fIf, aNil, aCons, allDR, allD, fTup, fLst, fCB, fCall, fSeq, fAsg, fSet, fRet, fRetV, fRetN, fIfS, fDrop, fNext, fIsi, fIsi2, fM, fSl, oS, oN, agName, sdRV, R.bind_ok, R.ofO_some, R.stx_ok, rdSD_d, rdSD_o, asDR_d, asDR_nl, asAR_d, asAR_nl, asAR_o, asBR_b, seqO_nx, seqO_rt, o1A_d, o2A_d, asIR_i, rtSD_d, List.getElem?_cons_zero, List.getElem?_cons_succ, List.set_cons_zero, List.set_cons_succ, if_true, if_false, Bool.false_eq_true, reduceIte, Bool.not_true, Bool.not_false, slots, List.map_cons, List.map_nil, avS, List.length_cons, List.length_nil, List.replicate_succ, List.replicate_zero, List.cons_append, List.nil_append, Nat.reduceAdd, Nat.reduceSub, Nat.reduceLeDiff, sl1, sl2, sl3, sl4, sl5, sl6, sl7, sl8, sl9, sl10, sl11, sl12, sl13, sl14, sl15, sl16, sl17, sl18, sl19, sl20, sl21, sl22, sl23, sl24, sl25, sl26, sl27, sl28, sl29, sl30, Nat.zero_le, R.bind_cg, Nat.zero_add, Option.map_some, Option.map_none, wipeD, oInT, eg, Option.isSome_none]
    | some k =>
      have : decide (k < x.2) = !decide (x.2 ≤ k) := by by_cases c : x.2 ≤ k <;> simp [c] <;> omega
      simp only [fVar, fC, fDat, fOp, fUn, fTest, fAnd, fOr, fNot, fAndV, fOrV, fNotV, fIf, aNil, aCons, allDR, allD, fTup, fLst, fCB, fCall, fSeq, fAsg, fSet, fRet, fRetV, fRetN, fIfS, fDrop, fNext, fIsi, fIsi2, fM, fSl, oS, oN, agName, sdRV, R.bind_ok, R.ofO_some, R.stx_ok, rdSD_d, rdSD_o, asDR_d, asDR_nl, asAR_d, asAR_nl, asAR_o, asBR_b, seqO_nx, seqO_rt, o1A_d, o2A_d, asIR_i, rtSD_d, List.getElem?_cons_zero, List.getElem?_cons_succ, List.set_cons_zero, List.set_cons_succ, if_true, if_false, Bool.false_eq_true, reduceIte, Bool.not_true, Bool.not_false, slots, List.map_cons, List.map_nil, avS, List.length_cons, List.length_nil, List.replicate_succ, List.replicate_zero, List.cons_append, List.nil_append, Nat.reduceAdd, Nat.reduceSub, Nat.reduceLeDiff, sl1, sl2, sl3, sl4, sl5, sl6, sl7, sl8, sl9, sl10, sl11, sl12, sl13, sl14, sl15, sl16, sl17, sl18, sl19, sl20, sl21, sl22, sl23, sl24, sl25, sl26, sl27, sl28, sl29, sl30, Nat.zero_le, R.bind_cg, Nat.zero_add, Option.map_some, Option.map_none, wipeD, oInT, eg, Option.isSome_some, oIx_kv eg, oLt, this]
  have e2 : (p.filter fun x => !okIn r x).map (fun x => PyData.str x.1) = ((p.filter fun x => !okIn r x).map (·.1)).map .str := by rw [List.map_map]; rfl
  have e3 : decide (((p.filter fun x => !okIn r x).map (·.1)) = []) = isIn p r := by
    unfold isIn
    rw [Bool.eq_iff_iff, decide_eq_true_iff, List.all_eq_true, List.map_eq_nil_iff, List.filter_eq_nil_iff]
    exact ⟨fun h x hx => by have := h x hx; simpa using this, fun h x hx => by rw [h x hx]; simp⟩
  simp only [fVar, fC, fDat, fOp, fUn, fTest, fAnd, fOr, fNot, fAndV, fOrV, fNotV, fIf, aNil, aCons, allDR, allD, fTup, fLst, fCB, fCall, fSeq, fAsg, fSet, fRet, fRetV, fRetN, fIfS, fDrop, fNext, fIsi, fIsi2, fM, fSl, oS, oN, agName, sdRV, R.bind_ok, R.ofO_some, R.stx_ok, rdSD_d, rdSD_o, asDR_d, asDR_nl, asAR_d, asAR_nl, asAR_o, asBR_b, seqO_nx, seqO_rt, o1A_d, o2A_d, asIR_i, rtSD_d, List.getElem?_cons_zero, List.getElem?_cons_succ, List.set_cons_zero, List.set_cons_succ, if_true, if_false, Bool.false_eq_true, reduceIte, Bool.not_true, Bool.not_false, slots, List.map_cons, List.map_nil, avS, List.length_cons, List.length_nil, List.replicate_succ, List.replicate_zero, List.cons_append, List.nil_append, Nat.reduceAdd, Nat.reduceSub, Nat.reduceLeDiff, sl1, sl2, sl3, sl4, sl5, sl6, sl7, sl8, sl9, sl10, sl11, sl12, sl13, sl14, sl15, sl16, sl17, sl18, sl19, sl20, sl21, sl22, sl23, sl24, sl25, sl26, sl27, sl28, sl29, sl30, Nat.zero_le, R.bind_cg, Nat.zero_add, Option.map_some, Option.map_none, oDict_plan h', asDR_nd, e, e2, oEq_lstr0, e3]
theorem two_ok {W : List Str} {p r : Plan} (h : Pl W p) (h' : Pl W r) (bp : PB p) (br : PB r) (g : Gs) : F__law_two_right [.d (planD p), .d (planD r)] g = .ok (.d (.bool true)) g := by
  refine fn_rt rfl ?_
  unfold b__law_two_right
  have be : PB (earlierP p r) := fun x hx => by
    have hg := get_of_mem (earlier_asc h.asc r) hx
    rw [early_get h.asc] at hg
    cases e1 : get p x.1 with
    | none => rw [e1] at hg; cases hg
    | some a =>
      cases e2 : get r x.1 with
      | none => rw [e1, e2] at hg; cases hg
      | some b =>
        rw [e1, e2] at hg
        have hg : min a b = x.2 := Option.some.inj hg
        have h1 := bp _ (get_mem e1)
        have h2 := br _ (get_mem e2)
        unfold BigI at h1 h2 ⊢
        simp only at h1 h2
        rw [← hg]
        omega
  have he : Pl W (earlierP p r) := h.early h'
  have hr : oRepr (planD (earlierP p r)) = some (.d (.str (planD (earlierP p r)).shown)) := repr_plan he be
  have oInT : ∀ n : Str, oIn true (.str n) (.dict (r.map kvD)) = some (.d (.bool (!(get r n).isSome))) := fun n => by
    show (if matchK (r.map kvD) (.f (.inr n)) = true then some (RV.d (.bool (true ^^ (dget (r.map kvD) (.f (.inr n))).isSome))) else none) = _
    rw [if_pos (match_kv _ _), dget_kv]
    cases get r n <;> rfl
  have e1 : fLc (iaSeq (fVar 0)) (agTup 2 (agCons (agName 5) (agCons (agName 6) agNil))) (fTest (fOp (oIn false) (fVar 5) (fVar 2))) (fTup (aCons (fVar 5) (aCons (fCB (o2A oMin2) (aCons (fVar 6) (aCons (fOp oIx (fVar 2) (fVar 5)) aNil))) aNil))) [5, 6] [.d (planD p), .d (planD r), .d (.dict (r.map kvD)), .u, .u, .u, .u] g = .ok (.nl ((earlierP p r).map pairD)) g := by
    rw [fLc_eq p pairD (fun x => (get r x.1).map fun k => pairD (x.1, min x.2 k)) rfl (fun x hx => ⟨_, rfl, ?_⟩) h.zl]
    · unfold earlierP
      rw [List.map_filterMap]
      have : (fun x : Str × Int => ((get r x.1).map fun k => (x.1, min x.2 k)).map pairD) = fun x => (get r x.1).map fun k => pairD (x.1, min x.2 k) := by
        funext x
        cases get r x.1 <;> rfl
      rw [this]
    · cases e : get r x.1 with
      | none => simp only [fVar, fC, fDat, fOp, fUn, fTest, fAnd, fOr, fNot, fAndV, fOrV, fNotV, fIf, aNil, aCons, allDR, allD, fTup, fLst, fCB, fCall, fSeq, fAsg, fSet, fRet, fRetV, fRetN, fIfS, fDrop, fNext, fIsi, fIsi2, fM, fSl, oS, oN, agName, sdRV, R.bind_ok, R.ofO_some, R.stx_ok, rdSD_d, rdSD_o, asDR_d, asDR_nl, asAR_d, asAR_nl, asAR_o, asBR_b, seqO_nx, seqO_rt, o1A_d, o2A_d, asIR_i, rtSD_d, List.getElem?_cons_zero, List.getElem?_cons_succ, List.set_cons_zero, List.set_cons_succ, if_true, if_false, Bool.false_eq_true, reduceIte, Bool.not_true, Bool.not_false, slots, List.map_cons, List.map_nil, avS, List.length_cons, List.length_nil, List.replicate_succ, List.replicate_zero, List.cons_append, List.nil_append, Nat.reduceAdd, Nat.reduceSub, Nat.reduceLeDiff, sl1, sl2, sl3, sl4, sl5, sl6, sl7, sl8, sl9, sl10, sl11, sl12, sl13, sl14, sl15, sl16, sl17, sl18, sl19, sl20, sl21, sl22, sl23, sl24, sl25, sl26, sl27, sl28, sl29, sl30, Nat.zero_le, R.bind_cg, Nat.zero_add, Option.map_some, Option.map_none, wipeD, oIn_kv, e, Option.isSome_none]
      | some k =>
        simp only [fVar, fC, fDat, fOp, fUn, fTest, fAnd, fOr, fNot, fAndV, fOrV, fNotV, fIf, aNil, aCons, allDR, allD, fTup, fLst, fCB, fCall, fSeq, fAsg, fSet, fRet, fRetV, fRetN, fIfS, fDrop, fNext, fIsi, fIsi2, fM, fSl, oS, oN, agName, sdRV, R.bind_ok, R.ofO_some, R.stx_ok, rdSD_d, rdSD_o, asDR_d, asDR_nl, asAR_d, asAR_nl, asAR_o, asBR_b, seqO_nx, seqO_rt, o1A_d, o2A_d, asIR_i, rtSD_d, List.getElem?_cons_zero, List.getElem?_cons_succ, List.set_cons_zero, List.set_cons_succ, if_true, if_false, Bool.false_eq_true, reduceIte, Bool.not_true, Bool.not_false, slots, List.map_cons, List.map_nil, avS, List.length_cons, List.length_nil, List.replicate_succ, List.replicate_zero, List.cons_append, List.nil_append, Nat.reduceAdd, Nat.reduceSub, Nat.reduceLeDiff, sl1, sl2, sl3, sl4, sl5, sl6, sl7, sl8, sl9, sl10, sl11, sl12, sl13, sl14, sl15, sl16, sl17, sl18, sl19, sl20, sl21, sl22, sl23, sl24, sl25, sl26, sl27, sl28, sl29, sl30, Nat.zero_le, R.bind_cg, Nat.zero_add, Option.map_some, Option.map_none, wipeD, oIn_kv, e, Option.isSome_some, oIx_kv e, oMin2]
        have : (if k < x.2 then k else x.2) = min x.2 k := by split <;> omega
        rw [this]
        exact ⟨trivial, rfl⟩
  have et : oTuple (.list ((earlierP p r).map pairD)) = some (.d (planD (earlierP p r))) := rfl
  have x1 : decide ((planD (earlierP p r)).shown ≠ (planD (earlierP p r)).shown) = false := decide_eq_false fun z => z rfl
  have x2 : decide (boolS (isIn p r) ≠ boolS (isIn p r)) = false := decide_eq_false fun z => z rfl
  cases rf : roomP p r with
  | none =>
    have n1 : fLc (iaSeq (fVar 0)) (agTup 2 (agCons (agName 5) (agCons (agName 6) agNil))) (fTest (fOp (oIn true) (fVar 5) (fVar 2))) (fVar 5) [5, 6] [.d (planD p), .d (planD r), .d (.dict (r.map kvD)), .d (planD (earlierP p r)), .d .none, .u, .u] g = .ok (.nl (((p.filter fun x => !(get r x.1).isSome).map (·.1)).map .str)) g := by
      rw [fLc_filter p pairD (fun x => !(get r x.1).isSome) (fun x => .str x.1) rfl (fun x hx => ⟨_, rfl, by simp only [fVar, fC, fDat, fOp, fUn, fTest, fAnd, fOr, fNot, fAndV, fOrV, fNotV, fIf, aNil, aCons, allDR, allD, fTup, fLst, fCB, fCall, fSeq, fAsg, fSet, fRet, fRetV, fRetN, fIfS, fDrop, fNext, fIsi, fIsi2, fM, fSl, oS, oN, agName, sdRV, R.bind_ok, R.ofO_some, R.stx_ok, rdSD_d, rdSD_o, asDR_d, asDR_nl, asAR_d, asAR_nl, asAR_o, asBR_b, seqO_nx, seqO_rt, o1A_d, o2A_d, asIR_i, rtSD_d, List.getElem?_cons_zero, List.getElem?_cons_succ, List.set_cons_zero, List.set_cons_succ, if_true, if_false, Bool.false_eq_true, reduceIte, Bool.not_true, Bool.not_false, slots, List.map_cons, List.map_nil, avS, List.length_cons, List.length_nil, List.replicate_succ, List.replicate_zero, List.cons_append, List.nil_append, Nat.reduceAdd, Nat.reduceSub, Nat.reduceLeDiff, sl1, sl2, sl3, sl4, sl5, sl6, sl7, sl8, sl9, sl10, sl11, sl12, sl13, sl14, sl15, sl16, sl17, sl18, sl19, sl20, sl21, sl22, sl23, sl24, sl25, sl26, sl27, sl28, sl29, sl30, Nat.zero_le, R.bind_cg, Nat.zero_add, Option.map_some, Option.map_none, wipeD, oInT], fun _ => rfl⟩) h.zl, List.map_map]
      rfl
    have nl : ∀ l : List Str, oNe (.list (l.map .str)) (.list []) = some (.d (.bool (decide (l ≠ [])))) := fun l => oNe_lstr l []
    have c : (if decide (p = []) = true then (R.ok (RV.d (.bool true)) g : R RV) else R.ok (RV.d (.bool (decide (((p.filter fun x => !(get r x.1).isSome).map (·.1)) ≠ [])))) g) = R.ok (RV.d (.bool true)) g := by
      by_cases c : p = []
      · rw [if_pos (decide_eq_true c)]
      · obtain ⟨z, hz, e⟩ := room_none rf c
        rw [if_neg (by simp [c]), decide_eq_true]
        intro z'
        have hm : z ∈ p.filter fun x => !(get r x.1).isSome := List.mem_filter.mpr ⟨hz, by rw [e]; rfl⟩
        have := List.mem_map_of_mem (f := fun x : Str × Int => x.1) hm
        rw [z'] at this; cases this
    simp only [fVar, fC, fDat, fOp, fUn, fTest, fAnd, fOr, fNot, fAndV, fOrV, fNotV, fIf, aNil, aCons, allDR, allD, fTup, fLst, fCB, fCall, fSeq, fAsg, fSet, fRet, fRetV, fRetN, fIfS, fDrop, fNext, fIsi, fIsi2, fM, fSl, oS, oN, agName, sdRV, R.bind_ok, R.ofO_some, R.stx_ok, rdSD_d, rdSD_o, asDR_d, asDR_nl, asAR_d, asAR_nl, asAR_o, asBR_b, seqO_nx, seqO_rt, o1A_d, o2A_d, asIR_i, rtSD_d, List.getElem?_cons_zero, List.getElem?_cons_succ, List.set_cons_zero, List.set_cons_succ, if_true, if_false, Bool.false_eq_true, reduceIte, Bool.not_true, Bool.not_false, slots, List.map_cons, List.map_nil, avS, List.length_cons, List.length_nil, List.replicate_succ, List.replicate_zero, List.cons_append, List.nil_append, Nat.reduceAdd, Nat.reduceSub, Nat.reduceLeDiff, sl1, sl2, sl3, sl4, sl5, sl6, sl7, sl8, sl9, sl10, sl11, sl12, sl13, sl14, sl15, sl16, sl17, sl18, sl19, sl20, sl21, sl22, sl23, sl24, sl25, sl26, sl27, sl28, sl29, sl30, Nat.zero_le, R.bind_cg, Nat.zero_add, Option.map_some, Option.map_none, oDict_plan h', asDR_nd, e1, et, earlier_eq h h', hr, oNe_str, x1, is_within_eq h h', lwithin_eq h h', repr_bool, x2, room_eq h h', rf, optD, oIsN, isNone, oEq_tup0, n1, nl, c]
  | some f =>
    have d1 := room_in h.asc rf
    have d2 := room_out rf
    have d3 := (room_some rf).1
    have i0 : isD "bool" (.int f) = false := rfl
    have hk : fCallK 0 2 [1, 0] F_room aNil (aCons (fVar 1) (aCons (fVar 0) aNil)) [.d (planD p), .d (planD r), .d (.dict (r.map kvD)), .d (planD (earlierP p r)), .d (.int f), .u, .u] g = .ok (.d (.int f)) g := by
      have := room_eq h h' g
      rw [rf] at this
      exact this
    simp only [fVar, fC, fDat, fOp, fUn, fTest, fAnd, fOr, fNot, fAndV, fOrV, fNotV, fIf, aNil, aCons, allDR, allD, fTup, fLst, fCB, fCall, fSeq, fAsg, fSet, fRet, fRetV, fRetN, fIfS, fDrop, fNext, fIsi, fIsi2, fM, fSl, oS, oN, agName, sdRV, R.bind_ok, R.ofO_some, R.stx_ok, rdSD_d, rdSD_o, asDR_d, asDR_nl, asAR_d, asAR_nl, asAR_o, asBR_b, seqO_nx, seqO_rt, o1A_d, o2A_d, asIR_i, rtSD_d, List.getElem?_cons_zero, List.getElem?_cons_succ, List.set_cons_zero, List.set_cons_succ, if_true, if_false, Bool.false_eq_true, reduceIte, Bool.not_true, Bool.not_false, slots, List.map_cons, List.map_nil, avS, List.length_cons, List.length_nil, List.replicate_succ, List.replicate_zero, List.cons_append, List.nil_append, Nat.reduceAdd, Nat.reduceSub, Nat.reduceLeDiff, sl1, sl2, sl3, sl4, sl5, sl6, sl7, sl8, sl9, sl10, sl11, sl12, sl13, sl14, sl15, sl16, sl17, sl18, sl19, sl20, sl21, sl22, sl23, sl24, sl25, sl26, sl27, sl28, sl29, sl30, Nat.zero_le, R.bind_cg, Nat.zero_add, Option.map_some, Option.map_none, oDict_plan h', asDR_nd, e1, et, earlier_eq h h', hr, oNe_str, x1, is_within_eq h h', lwithin_eq h h', repr_bool, x2, room_eq h h', rf, optD, oIsN_int, i0, oEq_tup0, d3, decide_false, lput_eq h, lwithin_eq (h.put f) h', lwithin_eq (h.put (f + 1)) h', d1, oAdd_int, d2, hk, oEq_int, decide_true]
theorem lrows_ok {d : Addr} {n : Nat} {g : Gs} (h : GD d n g) {W : List Str} (hW : Words W) (hl : W.length ≤ 20) {wide : Int} (w0 : 0 ≤ wide) (w1 : wide ≤ 2 ^ 30) (hn : 400 ≤ n) :
    ∃ (ps : List Plan) (g' : Gs), F__law_rows [.o (.ref d), .d (.list (W.map .str)), .d (.int 6), .d (.int wide)] g = .ok (.nl (ps.map planD)) g' ∧ ps.length ≤ 6 ∧ (∀ p ∈ ps, Pl W p ∧ ∀ x ∈ p, -(2 ^ 41) ≤ x.2 ∧ x.2 ≤ 2 ^ 41) ∧ GD d (n - 400) g' := by
  obtain ⟨v, g1, e1, v0, v1, i1⟩ := draw_ok h (by omega) (k := 7) (by omega) (by omega)
  have hi : iaRng1 (aCons (fCall F__law_draw (aCons (fVar 0) (aCons (fOp oAdd (fVar 2) (fC (.int 1))) aNil))) aNil) [.o (.ref d), .d (.list (W.map .str)), .d (.int 6), .d (.int wide), .u] g = .ok (rngD 0 v.toNat) g1 :=
    iaRng1_eq (by simp only [fVar, fC, fDat, fOp, fUn, fTest, fAnd, fOr, fNot, fAndV, fOrV, fNotV, fIf, aNil, aCons, allDR, allD, fTup, fLst, fCB, fCall, fSeq, fAsg, fSet, fRet, fRetV, fRetN, fIfS, fDrop, fNext, fIsi, fIsi2, fM, fSl, oS, oN, agName, sdRV, R.bind_ok, R.ofO_some, R.stx_ok, rdSD_d, rdSD_o, asDR_d, asDR_nl, asAR_d, asAR_nl, asAR_o, asBR_b, seqO_nx, seqO_rt, o1A_d, o2A_d, asIR_i, rtSD_d, List.getElem?_cons_zero, List.getElem?_cons_succ, List.set_cons_zero, List.set_cons_succ, if_true, if_false, Bool.false_eq_true, reduceIte, Bool.not_true, Bool.not_false, slots, List.map_cons, List.map_nil, avS, List.length_cons, List.length_nil, List.replicate_succ, List.replicate_zero, List.cons_append, List.nil_append, Nat.reduceAdd, Nat.reduceSub, Nat.reduceLeDiff, sl1, sl2, sl3, sl4, sl5, sl6, sl7, sl8, sl9, sl10, sl11, sl12, sl13, sl14, sl15, sl16, sl17, sl18, sl19, sl20, sl21, sl22, sl23, sl24, sl25, sl26, sl27, sl28, sl29, sl30, Nat.zero_le, R.bind_cg, Nat.zero_add, Option.map_some, Option.map_none, oAdd_int, Int.reduceAdd, e1]) v0 (by omega)
  have hlen : (rngD 0 v.toNat).length = v.toNat := by unfold rngD; simp
  obtain ⟨ys, g2, e2, l2, p2, i2⟩ := fLc_st (fg := agName 4) (fe := fCall F__law_row (aCons (fVar 0) (aCons (fVar 1) (aCons (fVar 3) aNil)))) (vs := [4]) (fun m g => GD d (n - 400 + 50 * m) g) (fun y => ∃ p, y = planD p ∧ Pl W p ∧ ∀ x ∈ p, -(2 ^ 41) ≤ x.2 ∧ x.2 ≤ 2 ^ 41) hi (by rw [hlen]; exact i1.le (by omega)) (by rw [hlen, sizeLine_eq]; omega) (fun x _ m g hg => by
    obtain ⟨p, g', e, hp, hb, i⟩ := row_ok hg hW w0 w1 (by omega)
    exact ⟨_, _, g', rfl, by simp only [wipeD, fVar, fC, fDat, fOp, fUn, fTest, fAnd, fOr, fNot, fAndV, fOrV, fNotV, fIf, aNil, aCons, allDR, allD, fTup, fLst, fCB, fCall, fSeq, fAsg, fSet, fRet, fRetV, fRetN, fIfS, fDrop, fNext, fIsi, fIsi2, fM, fSl, oS, oN, agName, sdRV, R.bind_ok, R.ofO_some, R.stx_ok, rdSD_d, rdSD_o, asDR_d, asDR_nl, asAR_d, asAR_nl, asAR_o, asBR_b, seqO_nx, seqO_rt, o1A_d, o2A_d, asIR_i, rtSD_d, List.getElem?_cons_zero, List.getElem?_cons_succ, List.set_cons_zero, List.set_cons_succ, if_true, if_false, Bool.false_eq_true, reduceIte, Bool.not_true, Bool.not_false, slots, List.map_cons, List.map_nil, avS, List.length_cons, List.length_nil, List.replicate_succ, List.replicate_zero, List.cons_append, List.nil_append, Nat.reduceAdd, Nat.reduceSub, Nat.reduceLeDiff, sl1, sl2, sl3, sl4, sl5, sl6, sl7, sl8, sl9, sl10, sl11, sl12, sl13, sl14, sl15, sl16, sl17, sl18, sl19, sl20, sl21, sl22, sl23, sl24, sl25, sl26, sl27, sl28, sl29, sl30, Nat.zero_le, R.bind_cg, Nat.zero_add, Option.map_some, Option.map_none, e], ⟨p, rfl, hp, fun x hx => by have := hb x hx; omega⟩, i.le (by omega)⟩)
  obtain ⟨ps, rfl, hp⟩ : ∃ ps : List Plan, ys = ps.map planD ∧ ∀ p ∈ ps, Pl W p ∧ ∀ x ∈ p, -(2 ^ 41) ≤ x.2 ∧ x.2 ≤ 2 ^ 41 := by
    clear e2 l2 i2
    induction ys with
    | nil => exact ⟨[], rfl, by simp⟩
    | cons y r ih =>
      obtain ⟨q, rfl, hq⟩ := p2 y (by simp)
      obtain ⟨ps, rfl, h1⟩ := ih fun y hy => p2 y (by simp [hy])
      exact ⟨q :: ps, rfl, fun z hz => (List.mem_cons.mp hz).elim (fun e => e ▸ hq) (h1 z)⟩
  refine ⟨ps, g2, fn_rt rfl ?_, by rw [List.length_map] at l2; omega, hp, i2⟩
  unfold b__law_rows
  simp only [fVar, fC, fDat, fOp, fUn, fTest, fAnd, fOr, fNot, fAndV, fOrV, fNotV, fIf, aNil, aCons, allDR, allD, fTup, fLst, fCB, fCall, fSeq, fAsg, fSet, fRet, fRetV, fRetN, fIfS, fDrop, fNext, fIsi, fIsi2, fM, fSl, oS, oN, agName, sdRV, R.bind_ok, R.ofO_some, R.stx_ok, rdSD_d, rdSD_o, asDR_d, asDR_nl, asAR_d, asAR_nl, asAR_o, asBR_b, seqO_nx, seqO_rt, o1A_d, o2A_d, asIR_i, rtSD_d, List.getElem?_cons_zero, List.getElem?_cons_succ, List.set_cons_zero, List.set_cons_succ, if_true, if_false, Bool.false_eq_true, reduceIte, Bool.not_true, Bool.not_false, slots, List.map_cons, List.map_nil, avS, List.length_cons, List.length_nil, List.replicate_succ, List.replicate_zero, List.cons_append, List.nil_append, Nat.reduceAdd, Nat.reduceSub, Nat.reduceLeDiff, sl1, sl2, sl3, sl4, sl5, sl6, sl7, sl8, sl9, sl10, sl11, sl12, sl13, sl14, sl15, sl16, sl17, sl18, sl19, sl20, sl21, sl22, sl23, sl24, sl25, sl26, sl27, sl28, sl29, sl30, Nat.zero_le, R.bind_cg, Nat.zero_add, Option.map_some, Option.map_none, e2]
/-- the row of all words -/
theorem lall_ok {d : Addr} {n : Nat} {g : Gs} (h : GD d n g) {W : List Str} (hW : Words W) (hl : W.length ≤ 20) (hn : 50 ≤ n) {ρ : List SD} (h1 : ρ[1]? = some (.o (.ref d))) (h3 : ρ[3]? = some (.d (.list (W.map .str)))) (hz : 10 < ρ.length) :
    ∃ (p : Plan) (g' : Gs), fLc (iaSeq (fVar 3)) (agName 10) fYes (fTup (aCons (fVar 10) (aCons (fOp oSub (fOp oPow (fC (.int 10)) (fC (.int 12))) (fCall F__law_draw (aCons (fVar 1) (aCons (fC (.int 99)) aNil)))) aNil))) [10] ρ g = .ok (.nl (p.map pairD)) g' ∧ Pl W p ∧ (∀ x ∈ p, -(2 ^ 41) ≤ x.2 ∧ x.2 ≤ 2 ^ 41) ∧ GD d (n - 50) g' := by
  have p12 : oPow (.int 10) (.int 12) = some (.d (.int (10 ^ 12))) := oPow_ok (by omega) (by omega) (by omega) (by omega)
  have key : ∀ (ws : List Str) (acc : Plan) (n : Nat) (g : Gs), GD d n g → ws.length ≤ n → (∀ x ∈ acc, -(2 ^ 41) ≤ x.2 ∧ x.2 ≤ 2 ^ 41) → acc.length + ws.length ≤ 40 →
      ∃ (q : Plan) (g' : Gs), cpR (cpStep (agName 10) fYes (bLst (fTup (aCons (fVar 10) (aCons (fOp oSub (fOp oPow (fC (.int 10)) (fC (.int 12))) (fCall F__law_draw (aCons (fVar 1) (aCons (fC (.int 99)) aNil)))) aNil)))) (wipeD ρ [10])) (ws.map .str) (acc.map pairD) g = .ok (q.map pairD) g' ∧ q.map (·.1) = acc.map (·.1) ++ ws ∧ (∀ x ∈ q, -(2 ^ 41) ≤ x.2 ∧ x.2 ≤ 2 ^ 41) ∧ GD d (n - ws.length) g' := by
    intro ws
    induction ws with
    | nil => intro acc n g h _ hb _; exact ⟨acc, g, rfl, by simp, hb, h⟩
    | cons w ws ih =>
      intro acc n g h hn hb hs
      have hn' : ws.length + 1 ≤ n := hn
      have hs' : acc.length + (ws.length + 1) ≤ 40 := hs
      obtain ⟨v, g1, e1, v0, v1, i1⟩ := draw_ok h (by omega) (k := 99) (by omega) (by omega)
      obtain ⟨q, g2, e2, q1, q2, q3⟩ := ih (acc ++ [(w, 10 ^ 12 - v)]) (n - 1) g1 i1 (by omega) (fun x hx => (List.mem_append.mp hx).elim (hb x) fun hx => by rw [List.mem_singleton.mp hx]; show -(2 ^ 41) ≤ 10 ^ 12 - v ∧ 10 ^ 12 - v ≤ 2 ^ 41; omega) (by simp; omega)
      refine ⟨q, g2, ?_, by rw [q1]; simp, q2, q3.le (by show n - (ws.length + 1) ≤ _; omega)⟩
      have r1 : ((wipeD ρ [10]).set 10 (.d (.str w)))[1]? = some (.o (.ref d)) := by
        show ((ρ.set 10 .u).set 10 _)[1]? = _
        rw [List.getElem?_set_ne (by omega), List.getElem?_set_ne (by omega), h1]
      have r2 : ((wipeD ρ [10]).set 10 (.d (.str w)))[10]? = some (.d (.str w)) := by
        show ((ρ.set 10 .u).set 10 _)[10]? = _
        rw [List.getElem?_set_self (by simpa using hz)]
      have hzz : (acc.map pairD).length < sizeLine := by rw [List.length_map, sizeLine_eq]; omega
      rw [List.map_cons, cpR, cpStep_eq (show agName 10 (.str w) (wipeD ρ [10]) = some _ from rfl)]
      simp only [fYes, bLst, fVar, fC, fDat, fOp, fUn, fTest, fAnd, fOr, fNot, fAndV, fOrV, fNotV, fIf, aNil, aCons, allDR, allD, fTup, fLst, fCB, fCall, fSeq, fAsg, fSet, fRet, fRetV, fRetN, fIfS, fDrop, fNext, fIsi, fIsi2, fM, fSl, oS, oN, agName, sdRV, R.bind_ok, R.ofO_some, R.stx_ok, rdSD_d, rdSD_o, asDR_d, asDR_nl, asAR_d, asAR_nl, asAR_o, asBR_b, seqO_nx, seqO_rt, o1A_d, o2A_d, asIR_i, rtSD_d, List.getElem?_cons_zero, List.getElem?_cons_succ, List.set_cons_zero, List.set_cons_succ, if_true, if_false, Bool.false_eq_true, reduceIte, Bool.not_true, Bool.not_false, slots, List.map_cons, List.map_nil, avS, List.length_cons, List.length_nil, List.replicate_succ, List.replicate_zero, List.cons_append, List.nil_append, Nat.reduceAdd, Nat.reduceSub, Nat.reduceLeDiff, sl1, sl2, sl3, sl4, sl5, sl6, sl7, sl8, sl9, sl10, sl11, sl12, sl13, sl14, sl15, sl16, sl17, sl18, sl19, sl20, sl21, sl22, sl23, sl24, sl25, sl26, sl27, sl28, sl29, sl30, Nat.zero_le, R.bind_cg, Nat.zero_add, Option.map_some, Option.map_none, r1, r2, p12, e1, oSub, hzz]
      rw [show acc.map pairD ++ [PyData.tuple [.str w, .int (10 ^ 12 - v)]] = (acc ++ [(w, 10 ^ 12 - v)]).map pairD from by rw [List.map_append]; rfl]
      exact e2
  obtain ⟨q, g', e, q1, q2, q3⟩ := key W [] n g h (by omega) (fun x hx => nomatch hx) (by show 0 + W.length ≤ 40; omega)
  refine ⟨q, g', ?_, ⟨hW.1, ?_, fun x hx => ?_⟩, q2, q3.le (by omega)⟩
  · unfold fLc fCp
    rw [show iaSeq (fVar 3) ρ g = .ok (W.map .str) g from by simp only [iaSeq, fVar, fC, fDat, fOp, fUn, fTest, fAnd, fOr, fNot, fAndV, fOrV, fNotV, fIf, aNil, aCons, allDR, allD, fTup, fLst, fCB, fCall, fSeq, fAsg, fSet, fRet, fRetV, fRetN, fIfS, fDrop, fNext, fIsi, fIsi2, fM, fSl, oS, oN, agName, sdRV, R.bind_ok, R.ofO_some, R.stx_ok, rdSD_d, rdSD_o, asDR_d, asDR_nl, asAR_d, asAR_nl, asAR_o, asBR_b, seqO_nx, seqO_rt, o1A_d, o2A_d, asIR_i, rtSD_d, List.getElem?_cons_zero, List.getElem?_cons_succ, List.set_cons_zero, List.set_cons_succ, if_true, if_false, Bool.false_eq_true, reduceIte, Bool.not_true, Bool.not_false, slots, List.map_cons, List.map_nil, avS, List.length_cons, List.length_nil, List.replicate_succ, List.replicate_zero, List.cons_append, List.nil_append, Nat.reduceAdd, Nat.reduceSub, Nat.reduceLeDiff, sl1, sl2, sl3, sl4, sl5, sl6, sl7, sl8, sl9, sl10, sl11, sl12, sl13, sl14, sl15, sl16, sl17, sl18, sl19, sl20, sl21, sl22, sl23, sl24, sl25, sl26, sl27, sl28, sl29, sl30, Nat.zero_le, R.bind_cg, Nat.zero_add, Option.map_some, Option.map_none, h3, itemsOf]]
    simp only [R.bind_ok]
    rw [show ([] : List PyData) = ([] : Plan).map pairD from rfl, e]
    rfl
  · have q1 : q.map (·.1) = W := by simpa using q1
    unfold Asc
    have := hW.2
    rw [← q1, List.pairwise_map] at this
    exact this
  · have q1 : q.map (·.1) = W := by simpa using q1
    rw [← q1]
    exact List.mem_map_of_mem (f := fun x : Str × Int => x.1) hx
theorem foldr_max (ps : List Plan) (n : Str) (m : Int) (h : ps.foldr (fun p o => maxO (get p n) o) none = some m) : ∃ p ∈ ps, get p n = some m := by
  induction ps with
  | nil => cases h
  | cons p ps ih =>
    rw [List.foldr_cons] at h
    cases e1 : get p n with
    | none =>
      rw [e1, none_maxO] at h
      obtain ⟨q, hq, e⟩ := ih h
      exact ⟨q, by simp [hq], e⟩
    | some a =>
      cases e2 : ps.foldr (fun p o => maxO (get p n) o) none with
      | none => rw [e1, e2, maxO_none] at h; exact ⟨p, by simp, by rw [e1, h]⟩
      | some b =>
        rw [e1, e2] at h
        have h : max a b = m := Option.some.inj h
        by_cases c : a ≤ b
        · obtain ⟨q, hq, e⟩ := ih (by rw [e2, show b = m from by omega])
          exact ⟨q, by simp [hq], e⟩
        · exact ⟨p, by simp, by rw [e1, show a = m from by omega]⟩
def NB (p : Plan) : Prop := ∀ x ∈ p, -(2 ^ 41) ≤ x.2 ∧ x.2 ≤ 2 ^ 41
theorem NB.pb {p : Plan} (h : NB p) : PB p := fun x hx => by have := h x hx; unfold BigI; omega
theorem NB.join {ps : List Plan} (ha : ∀ p ∈ ps, Asc p) (h : ∀ p ∈ ps, NB p) : NB (joinP ps) := fun x hx => by
  have e := get_of_mem (joinP_asc ps) hx
  rw [joinP_get ps ha] at e
  obtain ⟨p, hp, e⟩ := foldr_max ps _ _ e
  exact h p hp _ (get_mem e)
theorem NB.putB {p : Plan} {k : Int} (h : NB p) (hk : -(2 ^ 41) ≤ k ∧ k ≤ 2 ^ 41) : PB (putP p k) := PB.put (B := 2 ^ 41) h hk (by omega)
theorem NB.norm {p : Plan} (h : NB p) : PB (normalP p) := by
  refine h.putB ?_
  by_cases c : p = []
  · subst c
    have : lastP ([] : Plan) = 0 := rfl
    omega
  · obtain ⟨⟨x, hx, e⟩, _⟩ := last_spec c
    have := h x hx
    omega
theorem NB.nil : NB [] := fun x hx => nomatch hx
theorem cut3 (l : List PyData) : cutD l none (some 3) = l.take 3 := by
  unfold cutD
  show (l.drop (HT.sIx l.length 0 none)).take (HT.sIx l.length l.length (some ((3 : Nat) : Int)) - HT.sIx l.length 0 none) = _
  rw [HT.sIx_nat, HT.sIx_none, List.drop_zero, Nat.sub_zero]
  by_cases c : 3 ≤ l.length
  · rw [Nat.min_eq_left c]
  · rw [Nat.min_eq_right (by omega), List.take_of_length_le (Nat.le_refl _), List.take_of_length_le (by omega)]
theorem for_in {fi : EFi} {fg : EFg} {fb r : EFs} {ρ : List SD} {g : Gs} {ds : List PyData} {P : Out → Gs → Prop} (I : Nat → List SD → Gs → Prop) (hi : fi ρ g = .ok ds g) (h0 : I ds.length ρ g)
    (hs : ∀ x ∈ ds, ∀ m ρ g, I (m + 1) ρ g → ∃ ρ1, fg x ρ = some ρ1 ∧ R.to (fb ρ1 g) fun o g2 => ∃ ρ2, o = .nx ρ2 ∧ I m ρ2 g2) (hr : ∀ ρ g, I 0 ρ g → R.to (r ρ g) P) :
    R.to ((fFor fi fg fb ρ g).bind (seqO r)) P := by
  obtain ⟨ρ', g', e, i⟩ := for_to I ds ρ g h0 hs
  unfold fFor
  rw [hi]
  simp only [R.stx_ok, e, R.bind_ok, seqO_nx]
  exact hr ρ' g' i
theorem for_last {fi : EFi} {fg : EFg} {fb : EFs} {ρ : List SD} {g : Gs} {ds : List PyData} {P : Out → Gs → Prop} (I : Nat → List SD → Gs → Prop) (hi : fi ρ g = .ok ds g) (h0 : I ds.length ρ g)
    (hs : ∀ x ∈ ds, ∀ m ρ g, I (m + 1) ρ g → ∃ ρ1, fg x ρ = some ρ1 ∧ R.to (fb ρ1 g) fun o g2 => ∃ ρ2, o = .nx ρ2 ∧ I m ρ2 g2) (hr : ∀ ρ g, I 0 ρ g → P (.nx ρ) g) :
    R.to (fFor fi fg fb ρ g) P := by
  obtain ⟨ρ', g', e, i⟩ := for_to I ds ρ g h0 hs
  unfold fFor
  rw [hi]
  exact ⟨_, _, e, hr ρ' g' i⟩
theorem right : LawRight 9 b_law := by
  intro ns d l c g hn hq hg
  have hG := gd_of hg hq
  have p6 : oPow (.int 10) (.int 6) = some (.d (.int (10 ^ 6))) := oPow_ok (by omega) (by omega) (by omega) (by omega)
  have p12 : oPow (.int 10) (.int 12) = some (.d (.int (10 ^ 12))) := oPow_ok (by omega) (by omega) (by omega) (by omega)
  unfold b_law
  refine law_for (fun m ρ g => GD d (m * 10000) g ∧ ∃ s2 s3 s4 s5 s6 s7 s8 s9 s10, ρ = [.d (.list (ns.map .int)), .o (.ref d), s2, s3, s4, s5, s6, s7, s8, s9, s10])
    (ds := rngD 0 (6 + (if (20 : Int) < (ns.length : Int) then 20 else (ns.length : Int))).toNat) (iaRng1_eq (by simp only [lawSlots, fVar, fC, fDat, fOp, fUn, fTest, fAnd, fOr, fNot, fAndV, fOrV, fNotV, fIf, aNil, aCons, allDR, allD, fTup, fLst, fCB, fCall, fSeq, fAsg, fSet, fRet, fRetV, fRetN, fIfS, fDrop, fNext, fIsi, fIsi2, fM, fSl, oS, oN, agName, sdRV, R.bind_ok, R.ofO_some, R.stx_ok, rdSD_d, rdSD_o, asDR_d, asDR_nl, asAR_d, asAR_nl, asAR_o, asBR_b, seqO_nx, seqO_rt, o1A_d, o2A_d, asIR_i, rtSD_d, List.getElem?_cons_zero, List.getElem?_cons_succ, List.set_cons_zero, List.set_cons_succ, if_true, if_false, Bool.false_eq_true, reduceIte, Bool.not_true, Bool.not_false, slots, List.map_cons, List.map_nil, avS, List.length_cons, List.length_nil, List.replicate_succ, List.replicate_zero, List.cons_append, List.nil_append, Nat.reduceAdd, Nat.reduceSub, Nat.reduceLeDiff, sl1, sl2, sl3, sl4, sl5, sl6, sl7, sl8, sl9, sl10, sl11, sl12, sl13, sl14, sl15, sl16, sl17, sl18, sl19, sl20, sl21, sl22, sl23, sl24, sl25, sl26, sl27, sl28, sl29, sl30, Nat.zero_le, R.bind_cg, Nat.zero_add, Option.map_some, Option.map_none, oLen_list, List.length_map, oMin2, oAdd_int]) (by split <;> omega) (by split <;> omega)) ⟨hG.le ?_, _, _, _, _, _, _, _, _, _, rfl⟩ ?_ ?_
  · have : (rngD 0 (6 + (if (20 : Int) < (ns.length : Int) then 20 else (ns.length : Int))).toNat).length ≤ 40 := by
      unfold rngD
      simp only [List.length_map, List.length_range]
      split <;> omega
    omega
  · rintro x hx m ρ g ⟨hg, s2, s3, s4, s5, s6, s7, s8, s9, s10, rfl⟩
    refine ⟨_, rfl, ?_⟩
    obtain ⟨v, g1, e1, v0, v1, i1⟩ := draw_ok hg (by omega) (k := 5) (by omega) (by omega)
    obtain ⟨W, g2, e2, hW, lW, i2⟩ := words_int i1 (k := 1 + v) (by omega) (by omega) (by omega)
    obtain ⟨y, hy, g3, e3, i3⟩ := pick_ok i2 (by omega) [.int 1, .int 4, .int (10 ^ 6)] (by simp) (by simp)
    obtain ⟨w, ew, w0, w1⟩ : ∃ w : Int, y = .int w ∧ 0 ≤ w ∧ w ≤ 2 ^ 30 := by
      simp only [List.mem_cons, List.not_mem_nil, or_false] at hy
      rcases hy with rfl | rfl | rfl
      · exact ⟨1, rfl, by omega, by omega⟩
      · exact ⟨4, rfl, by omega, by omega⟩
      · exact ⟨10 ^ 6, rfl, by omega, by omega⟩
    subst ew
    obtain ⟨rs, g4, e4, lr, hrs, i4⟩ := lrows_ok i3 hW (by omega) w0 w1 (by omega)
    obtain ⟨a, g5, e5, ha, ba, i5⟩ := lall_ok i4 hW (by omega) (by omega) (ρ := [.d (.list (ns.map .int)), .o (.ref d), .d x, .d (.list (W.map .str)), .d (.list (rs.map planD)), s5, s6, s7, s8, s9, s10]) rfl rfl (by simp)
    have hW' := hW.1
    generalize hqs : rs ++ [a] = qs
    have hq : ∀ p ∈ qs, Pl W p ∧ NB p := by
      rw [← hqs]
      intro p hp
      rcases List.mem_append.mp hp with hp | hp
      · exact hrs p hp
      · rw [List.mem_singleton.mp hp]; exact ⟨ha, ba⟩
    have lq : qs.length ≤ 7 := by rw [← hqs]; simp; omega
    have ea : oAdd (.list (rs.map planD)) (.list [planD a]) = some (.nl (qs.map planD)) := by
      unfold oAdd
      simp only
      rw [if_pos (by simp only [List.length_map, List.length_cons, List.length_nil, sizeLine_eq]; omega), ← hqs, List.map_append]
      rfl
    have et : oTuple (.list (a.map pairD)) = some (.d (planD a)) := rfl
    have hj : Pl W (joinP qs) := .join hW' fun p hp => (hq p hp).1
    have nj : NB (joinP qs) := .join (fun p hp => (hq p hp).1.asc) fun p hp => (hq p hp).2
    have rj := repr_plan hj nj.pb
    have rq := repr_plans qs (fun p hp => ⟨(hq p hp).1, (hq p hp).2.pb⟩) (by omega)
    have j1 := fun g => joined_eq (fun p hp => (hq p hp).1) (by omega : qs.length ≤ 1000) g
    have j2 := fun g => joined_eqT (fun p hp => (hq p hp).1) (by omega : qs.length ≤ 1000) g
    have j3 := fun g => ljoin_eq (fun p hp => (hq p hp).1) (by omega : qs.length ≤ 1000) g
    have c1 : ∀ s : Str, decide (s ≠ s) = false := fun s => decide_eq_false fun z => z rfl
    have c2 : ∀ s : Plan, decide (s ≠ s) = false := fun s => decide_eq_false fun z => z rfl
    have k1 : fCallK 0 1 [0] F_joined aNil (aCons (fCB (o1A oTuple) (aCons (fVar 6) aNil)) aNil) [.d (.list (ns.map .int)), .o (.ref d), .d x, .d (.list (W.map .str)), .d (.list (qs.map planD)), s5, .d (.list (qs.map planD)), .d (.str (PyData.list (qs.map planD)).shown), s8, s9, s10] g5 = .ok (.d (planD (joinP qs))) g5 := j2 g5
    have fz : ∀ s5 s8 s9 (f : EFs) g, fFz 6 f [.d (.list (ns.map .int)), .o (.ref d), .d x, .d (.list (W.map .str)), .d (.list (qs.map planD)), s5, .own (qs.map planD), .d (.str (PyData.list (qs.map planD)).shown), s8, s9, s10] g = f [.d (.list (ns.map .int)), .o (.ref d), .d x, .d (.list (W.map .str)), .d (.list (qs.map planD)), s5, .d (.list (qs.map planD)), .d (.str (PyData.list (qs.map planD)).shown), s8, s9, s10] g := fun _ _ _ f g => rfl
    have fz7 : ∀ s5 s8 s9 (f : EFs) g, fFz 7 f [.d (.list (ns.map .int)), .o (.ref d), .d x, .d (.list (W.map .str)), .d (.list (qs.map planD)), s5, .d (.list (qs.map planD)), .d (.str (PyData.list (qs.map planD)).shown), s8, s9, s10] g = f [.d (.list (ns.map .int)), .o (.ref d), .d x, .d (.list (W.map .str)), .d (.list (qs.map planD)), s5, .d (.list (qs.map planD)), .d (.str (PyData.list (qs.map planD)).shown), s8, s9, s10] g := fun _ _ _ f g => rfl
    have ol : oList (.list (qs.map planD)) = some (.nl (qs.map planD)) := rfl
    simp only [fVar, fC, fDat, fOp, fUn, fTest, fAnd, fOr, fNot, fAndV, fOrV, fNotV, fIf, aNil, aCons, allDR, allD, fTup, fLst, fCB, fCall, fSeq, fAsg, fSet, fRet, fRetV, fRetN, fIfS, fDrop, fNext, fIsi, fIsi2, fM, fSl, oS, oN, agName, sdRV, R.bind_ok, R.ofO_some, R.stx_ok, rdSD_d, rdSD_o, asDR_d, asDR_nl, asAR_d, asAR_nl, asAR_o, asBR_b, seqO_nx, seqO_rt, o1A_d, o2A_d, asIR_i, rtSD_d, List.getElem?_cons_zero, List.getElem?_cons_succ, List.set_cons_zero, List.set_cons_succ, if_true, if_false, Bool.false_eq_true, reduceIte, Bool.not_true, Bool.not_false, slots, List.map_cons, List.map_nil, avS, List.length_cons, List.length_nil, List.replicate_succ, List.replicate_zero, List.cons_append, List.nil_append, Nat.reduceAdd, Nat.reduceSub, Nat.reduceLeDiff, sl1, sl2, sl3, sl4, sl5, sl6, sl7, sl8, sl9, sl10, sl11, sl12, sl13, sl14, sl15, sl16, sl17, sl18, sl19, sl20, sl21, sl22, sl23, sl24, sl25, sl26, sl27, sl28, sl29, sl30, Nat.zero_le, R.bind_cg, Nat.zero_add, Option.map_some, Option.map_none, e1, oAdd_int, e2, p6, e3, e4, e5, et, ea, fPar, ol, rq, fz, j1, j3, rj, oNe_str, c1, k1, oNe_plan, c2]
    have ez : oAdd (.list (qs.map planD)) (.list [.tuple []]) = some (.nl ((qs ++ [[]]).map planD)) := by
      unfold oAdd
      simp only
      rw [if_pos (by simp only [List.length_map, List.length_cons, List.length_nil, sizeLine_eq]; omega), List.map_append]
      rfl
    refine for_in (fun k ρ g => GD d (m * 10000 + k * 10) g ∧ ∃ s5 s8 s9 s10, ρ = [.d (.list (ns.map .int)), .o (.ref d), .d x, .d (.list (W.map .str)), .d (.list (qs.map planD)), s5, .d (.list (qs.map planD)), .d (.str (PyData.list (qs.map planD)).shown), s8, s9, s10])
      (ds := (qs ++ [[]]).map planD) (by simp only [iaSeq, fVar, fC, fDat, fOp, fUn, fTest, fAnd, fOr, fNot, fAndV, fOrV, fNotV, fIf, aNil, aCons, allDR, allD, fTup, fLst, fCB, fCall, fSeq, fAsg, fSet, fRet, fRetV, fRetN, fIfS, fDrop, fNext, fIsi, fIsi2, fM, fSl, oS, oN, agName, sdRV, R.bind_ok, R.ofO_some, R.stx_ok, rdSD_d, rdSD_o, asDR_d, asDR_nl, asAR_d, asAR_nl, asAR_o, asBR_b, seqO_nx, seqO_rt, o1A_d, o2A_d, asIR_i, rtSD_d, List.getElem?_cons_zero, List.getElem?_cons_succ, List.set_cons_zero, List.set_cons_succ, if_true, if_false, Bool.false_eq_true, reduceIte, Bool.not_true, Bool.not_false, slots, List.map_cons, List.map_nil, avS, List.length_cons, List.length_nil, List.replicate_succ, List.replicate_zero, List.cons_append, List.nil_append, Nat.reduceAdd, Nat.reduceSub, Nat.reduceLeDiff, sl1, sl2, sl3, sl4, sl5, sl6, sl7, sl8, sl9, sl10, sl11, sl12, sl13, sl14, sl15, sl16, sl17, sl18, sl19, sl20, sl21, sl22, sl23, sl24, sl25, sl26, sl27, sl28, sl29, sl30, Nat.zero_le, R.bind_cg, Nat.zero_add, Option.map_some, Option.map_none, ez, itemsOf]) ⟨i5.le (by simp only [List.length_map, List.length_append, List.length_cons, List.length_nil]; omega), _, _, _, _, rfl⟩ ?_ ?_
    · rintro z hz k ρ g ⟨hg, t5, t8, t9, t10, rfl⟩
      obtain ⟨p, hp', rfl⟩ := List.mem_map.mp hz
      obtain ⟨hp, bp⟩ : Pl W p ∧ NB p := by
        rcases List.mem_append.mp hp' with h | h
        · exact hq p h
        · rw [List.mem_singleton.mp h]; exact ⟨.nil hW', NB.nil⟩
      refine ⟨_, rfl, ?_⟩
      obtain ⟨u, g6, e6, u0, u1, i6⟩ := draw_ok hg (by omega) (k := 99) (by omega) (by omega)
      obtain ⟨y, hy, g7, e7, i7⟩ := pick_ok i6 (by omega) [.int 0, .int 1, .int (-1), .int (10 ^ 12), .int (0 - 10 ^ 12), .int u] (by simp) (by simp)
      obtain ⟨j, ej, b1, b2⟩ : ∃ j : Int, y = .int j ∧ -(2 ^ 41) ≤ j ∧ j ≤ 2 ^ 41 := by
        simp only [List.mem_cons, List.not_mem_nil, or_false] at hy
        rcases hy with rfl | rfl | rfl | rfl | rfl | rfl
        · exact ⟨_, rfl, by omega, by omega⟩
        · exact ⟨_, rfl, by omega, by omega⟩
        · exact ⟨_, rfl, by omega, by omega⟩
        · exact ⟨_, rfl, by omega, by omega⟩
        · exact ⟨_, rfl, by omega, by omega⟩
        · exact ⟨_, rfl, by omega, by omega⟩
      subst ej
      have r1 := repr_plan (hp.put j) (bp.putB ⟨b1, b2⟩)
      have r2 : oRepr (.list [planD (normalP p), planD (normalP p)]) = some (.d (.str (PyData.list [planD (normalP p), planD (normalP p)]).shown)) := repr_plans [normalP p, normalP p] (fun q hq => by
        have : q = normalP p := by simpa using hq
        rw [this]; exact ⟨hp.normal, bp.norm⟩) (by simp)
      have m2 : oMul (.list [planD (normalP p)]) (.int 2) = some (.nl [planD (normalP p), planD (normalP p)]) := by
        unfold oMul
        simp only
        rw [if_pos ⟨⟨by decide, by decide⟩, by rw [sizeLine_eq]; show 1 * 2 ≤ 16777216; omega⟩]
        rfl
      have kl : fCallK 0 2 [1, 0] F_later aNil (aCons (fVar 8) (aCons (fVar 5) aNil)) [.d (.list (ns.map .int)), .o (.ref d), .d x, .d (.list (W.map .str)), .d (.list (qs.map planD)), .d (planD p), .d (.list (qs.map planD)), .d (.str (PyData.list (qs.map planD)).shown), .d (.int j), t9, t10] g7 = .ok (.d (planD (putP p j))) g7 := later_eq hp j g7
      have kn : fCallK 0 1 [0] F_normal aNil (aCons (fVar 5) aNil) [.d (.list (ns.map .int)), .o (.ref d), .d x, .d (.list (W.map .str)), .d (.list (qs.map planD)), .d (planD p), .d (.list (qs.map planD)), .d (.str (PyData.list (qs.map planD)).shown), .d (.int j), t9, t10] g7 = .ok (.d (planD (normalP p))) g7 := normal_eq hp g7
      have es : oSl (.list (qs.map planD)) none (some 3) = some (.nl ((qs.take 3).map planD)) := by
        show some (RV.nl (cutD (qs.map planD) none (some 3))) = _
        rw [cut3, List.map_take]
      have ew : oAdd (.list ((qs.take 3).map planD)) (.list [.tuple [], planD p, planD (joinP qs)]) = some (.nl ((qs.take 3 ++ [[], p, joinP qs]).map planD)) := by
        unfold oAdd
        simp only
        rw [if_pos (by simp only [List.length_map, List.length_take, List.length_cons, List.length_nil, sizeLine_eq]; omega), List.map_append]
        rfl
      simp only [fVar, fC, fDat, fOp, fUn, fTest, fAnd, fOr, fNot, fAndV, fOrV, fNotV, fIf, aNil, aCons, allDR, allD, fTup, fLst, fCB, fCall, fSeq, fAsg, fSet, fRet, fRetV, fRetN, fIfS, fDrop, fNext, fIsi, fIsi2, fM, fSl, oS, oN, agName, sdRV, R.bind_ok, R.ofO_some, R.stx_ok, rdSD_d, rdSD_o, asDR_d, asDR_nl, asAR_d, asAR_nl, asAR_o, asBR_b, seqO_nx, seqO_rt, o1A_d, o2A_d, asIR_i, rtSD_d, List.getElem?_cons_zero, List.getElem?_cons_succ, List.set_cons_zero, List.set_cons_succ, if_true, if_false, Bool.false_eq_true, reduceIte, Bool.not_true, Bool.not_false, slots, List.map_cons, List.map_nil, avS, List.length_cons, List.length_nil, List.replicate_succ, List.replicate_zero, List.cons_append, List.nil_append, Nat.reduceAdd, Nat.reduceSub, Nat.reduceLeDiff, sl1, sl2, sl3, sl4, sl5, sl6, sl7, sl8, sl9, sl10, sl11, sl12, sl13, sl14, sl15, sl16, sl17, sl18, sl19, sl20, sl21, sl22, sl23, sl24, sl25, sl26, sl27, sl28, sl29, sl30, Nat.zero_le, R.bind_cg, Nat.zero_add, Option.map_some, Option.map_none, p12, oSub, oNeg, e6, e7, later_eq (W := W), lput_eq (W := W), hp, r1, oNe_str, c1, kl, oNe_plan, c2, normal_eq (W := W), kn, r2, lnorm_eq (W := W), m2]
      refine for_last (fun _ ρ g => g = g7 ∧ ∃ s9, ρ = [.d (.list (ns.map .int)), .o (.ref d), .d x, .d (.list (W.map .str)), .d (.list (qs.map planD)), .d (planD p), .d (.list (qs.map planD)), .d (.str (PyData.list (qs.map planD)).shown), .d (.int j), s9, t10])
        (ds := (qs.take 3 ++ [[], p, joinP qs]).map planD) (by simp only [iaSeq, fVar, fC, fDat, fOp, fUn, fTest, fAnd, fOr, fNot, fAndV, fOrV, fNotV, fIf, aNil, aCons, allDR, allD, fTup, fLst, fCB, fCall, fSeq, fAsg, fSet, fRet, fRetV, fRetN, fIfS, fDrop, fNext, fIsi, fIsi2, fM, fSl, oS, oN, agName, sdRV, R.bind_ok, R.ofO_some, R.stx_ok, rdSD_d, rdSD_o, asDR_d, asDR_nl, asAR_d, asAR_nl, asAR_o, asBR_b, seqO_nx, seqO_rt, o1A_d, o2A_d, asIR_i, rtSD_d, List.getElem?_cons_zero, List.getElem?_cons_succ, List.set_cons_zero, List.set_cons_succ, if_true, if_false, Bool.false_eq_true, reduceIte, Bool.not_true, Bool.not_false, slots, List.map_cons, List.map_nil, avS, List.length_cons, List.length_nil, List.replicate_succ, List.replicate_zero, List.cons_append, List.nil_append, Nat.reduceAdd, Nat.reduceSub, Nat.reduceLeDiff, sl1, sl2, sl3, sl4, sl5, sl6, sl7, sl8, sl9, sl10, sl11, sl12, sl13, sl14, sl15, sl16, sl17, sl18, sl19, sl20, sl21, sl22, sl23, sl24, sl25, sl26, sl27, sl28, sl29, sl30, Nat.zero_le, R.bind_cg, Nat.zero_add, Option.map_some, Option.map_none, es, j3, ew, itemsOf]) ⟨rfl, _, rfl⟩ ?_ ?_
      · rintro z hz k' ρ g ⟨rfl, t9, rfl⟩
        obtain ⟨q, hq', rfl⟩ := List.mem_map.mp hz
        obtain ⟨hq1, bq⟩ : Pl W q ∧ NB q := by
          rcases List.mem_append.mp hq' with h | h
          · exact hq q (List.mem_of_mem_take h)
          · simp only [List.mem_cons, List.not_mem_nil, or_false] at h
            rcases h with rfl | rfl | rfl
            · exact ⟨.nil hW', NB.nil⟩
            · exact ⟨hp, bp⟩
            · exact ⟨hj, nj⟩
        refine ⟨_, rfl, ?_⟩
        have q1 := two_ok hp hq1 bp.pb bq.pb g
        have q2 : fCallK 0 2 [1, 0] F_earlier aNil (aCons (fVar 9) (aCons (fVar 5) aNil)) [.d (.list (ns.map .int)), .o (.ref d), .d x, .d (.list (W.map .str)), .d (.list (qs.map planD)), .d (planD p), .d (.list (qs.map planD)), .d (.str (PyData.list (qs.map planD)).shown), .d (.int j), .d (planD q), t10] g = .ok (.d (planD (earlierP p q))) g := earlier_eq hp hq1 g
        have q3 : fCallK 0 2 [1, 0] F_is_within aNil (aCons (fVar 9) (aCons (fVar 5) aNil)) [.d (.list (ns.map .int)), .o (.ref d), .d x, .d (.list (W.map .str)), .d (.list (qs.map planD)), .d (planD p), .d (.list (qs.map planD)), .d (.str (PyData.list (qs.map planD)).shown), .d (.int j), .d (planD q), t10] g = .ok (.d (.bool (isIn p q))) g := is_within_eq hp hq1 g
        have c3 : ∀ b : Bool, decide (b ≠ b) = false := fun b => decide_eq_false fun z => z rfl
        simp only [fVar, fC, fDat, fOp, fUn, fTest, fAnd, fOr, fNot, fAndV, fOrV, fNotV, fIf, aNil, aCons, allDR, allD, fTup, fLst, fCB, fCall, fSeq, fAsg, fSet, fRet, fRetV, fRetN, fIfS, fDrop, fNext, fIsi, fIsi2, fM, fSl, oS, oN, agName, sdRV, R.bind_ok, R.ofO_some, R.stx_ok, rdSD_d, rdSD_o, asDR_d, asDR_nl, asAR_d, asAR_nl, asAR_o, asBR_b, seqO_nx, seqO_rt, o1A_d, o2A_d, asIR_i, rtSD_d, List.getElem?_cons_zero, List.getElem?_cons_succ, List.set_cons_zero, List.set_cons_succ, if_true, if_false, Bool.false_eq_true, reduceIte, Bool.not_true, Bool.not_false, slots, List.map_cons, List.map_nil, avS, List.length_cons, List.length_nil, List.replicate_succ, List.replicate_zero, List.cons_append, List.nil_append, Nat.reduceAdd, Nat.reduceSub, Nat.reduceLeDiff, sl1, sl2, sl3, sl4, sl5, sl6, sl7, sl8, sl9, sl10, sl11, sl12, sl13, sl14, sl15, sl16, sl17, sl18, sl19, sl20, sl21, sl22, sl23, sl24, sl25, sl26, sl27, sl28, sl29, sl30, Nat.zero_le, R.bind_cg, Nat.zero_add, Option.map_some, Option.map_none, q1, q2, q3, earlier_eq hp hq1, is_within_eq hp hq1, oNe_plan, c2, oNe_bool, c3, R.to_ok]
        exact ⟨_, rfl, trivial, _, rfl⟩
      · rintro ρ g ⟨rfl, t9, rfl⟩
        exact ⟨_, rfl, i7.le (by omega), _, _, _, _, rfl⟩
    · rintro ρ g ⟨hg, t5, t8, t9, t10, rfl⟩
      have fz8 : ∀ (f : EFs), fFz 7 f [.d (.list (ns.map .int)), .o (.ref d), .d x, .d (.list (W.map .str)), .d (.list (qs.map planD)), t5, .d (.list (qs.map planD)), .d (.str (PyData.list (qs.map planD)).shown), t8, t9, t10] g = f [.d (.list (ns.map .int)), .o (.ref d), .d x, .d (.list (W.map .str)), .d (.list (qs.map planD)), t5, .d (.list (qs.map planD)), .d (.str (PyData.list (qs.map planD)).shown), t8, t9, t10] g := fun f => rfl
      rw [fz8]
      simp only [fVar, fC, fDat, fOp, fUn, fTest, fAnd, fOr, fNot, fAndV, fOrV, fNotV, fIf, aNil, aCons, allDR, allD, fTup, fLst, fCB, fCall, fSeq, fAsg, fSet, fRet, fRetV, fRetN, fIfS, fDrop, fNext, fIsi, fIsi2, fM, fSl, oS, oN, agName, sdRV, R.bind_ok, R.ofO_some, R.stx_ok, rdSD_d, rdSD_o, asDR_d, asDR_nl, asAR_d, asAR_nl, asAR_o, asBR_b, seqO_nx, seqO_rt, o1A_d, o2A_d, asIR_i, rtSD_d, List.getElem?_cons_zero, List.getElem?_cons_succ, List.set_cons_zero, List.set_cons_succ, if_true, if_false, Bool.false_eq_true, reduceIte, Bool.not_true, Bool.not_false, slots, List.map_cons, List.map_nil, avS, List.length_cons, List.length_nil, List.replicate_succ, List.replicate_zero, List.cons_append, List.nil_append, Nat.reduceAdd, Nat.reduceSub, Nat.reduceLeDiff, sl1, sl2, sl3, sl4, sl5, sl6, sl7, sl8, sl9, sl10, sl11, sl12, sl13, sl14, sl15, sl16, sl17, sl18, sl19, sl20, sl21, sl22, sl23, sl24, sl25, sl26, sl27, sl28, sl29, sl30, Nat.zero_le, R.bind_cg, Nat.zero_add, Option.map_some, Option.map_none, rq, oNe_str, c1, R.to_ok]
      exact ⟨_, rfl, hg.le (by omega), _, _, _, _, _, _, _, _, _, rfl⟩
  · rintro ρ g ⟨hg, s2, s3, s4, s5, s6, s7, s8, s9, s10, rfl⟩
    exact ⟨g, rfl⟩
end Pg

namespace Pg
open PySem L2 Fx
noncomputable section
def top (i : Nat) : Stmt := PySem.Challenge.pw_lastmakers_k03_plans_put_off_and_joined.main.body.getD i (.Pass ⟨0, 0, 0, 0⟩)
structure Txt (K : PySem.W.Frag) (mg : Str → Option Value) : Prop where
  A : AllCls ⟨K, mg⟩
  b_abs : mg "abs" = none
  b_all : mg "all" = none
  b_bool : mg "bool" = none
  b_dict : mg "dict" = none
  b_enumerate : mg "enumerate" = none
  b_int : mg "int" = none
  b_isinstance : mg "isinstance" = none
  b_len : mg "len" = none
  b_list : mg "list" = none
  b_max : mg "max" = none
  b_min : mg "min" = none
  b_range : mg "range" = none
  b_repr : mg "repr" = none
  b_sorted : mg "sorted" = none
  b_str : mg "str" = none
  b_tuple : mg "tuple" = none
  b_zip : mg "zip" = none
  g_LETTERS : ∃ u, mg "LETTERS" = some u ∧ RelV (.str "abcdefghijklmnopqrstuvwxyz") u
  g_MOST_LETTERS : ∃ u, mg "MOST_LETTERS" = some u ∧ RelV (.int 6) u
section
variable {P : Program} {w : World} {K : PySem.W.Frag} {mg : Str → Option Value} {base : Heap}

abbrev s__law_begun : Stmt := top 29
abbrev s_is_number : Stmt := top 8
abbrev s_is_list : Stmt := top 9
abbrev s_is_name : Stmt := top 10
abbrev s_is_pair : Stmt := top 11
abbrev s_are_pairs : Stmt := top 12
abbrev s_need_plan : Stmt := top 13
abbrev s_need_number : Stmt := top 14
abbrev s_put_by : Stmt := top 15
abbrev s_later : Stmt := top 16
abbrev s_join_of : Stmt := top 17
abbrev s_joined : Stmt := top 18
abbrev s_need_two : Stmt := top 19
abbrev s_earlier_of : Stmt := top 20
abbrev s_earlier : Stmt := top 21
abbrev s_is_in : Stmt := top 22
abbrev s_is_within : Stmt := top 23
abbrev s_room_in : Stmt := top 24
abbrev s_room : Stmt := top 25
abbrev s_normal_of : Stmt := top 26
abbrev s_normal : Stmt := top 27
abbrev s__law_draw : Stmt := top 30
abbrev s__law_pick : Stmt := top 31
abbrev s__law_words : Stmt := top 32
abbrev s__law_row : Stmt := top 33
abbrev s__law_put : Stmt := top 34
abbrev s__law_join : Stmt := top 35
abbrev s__law_norm : Stmt := top 36
abbrev s__law_rows : Stmt := top 37
abbrev s__law_within : Stmt := top 38
abbrev s__law_two_right : Stmt := top 39
abbrev s_law : Stmt := top 40
theorem sc__law_begun : FnScope ["_law_script", "_law_cells", "_law_cell"] ["_law_script"] (defScope s__law_begun) := ⟨rfl, rfl, rfl, by decide +kernel, rfl, by decide +kernel, by decide +kernel⟩
theorem ok__law_begun {f : Addr} {fd : FuncData} (D : DefAt K mg "_law_begun" s__law_begun ["_law_script"] f fd) (T : Txt K mg) :
    FnG P w K mg base 1 f fd ["_law_script"] (spBegun ⟨K, mg⟩) := by
  refine Fun.okG D.F sc__law_begun (fun vs H Q E h => by obtain ⟨a, ns, rfl, _⟩ := h; rfl) (fun cdv A fr s H vs Q E hgd hr h => ?_)
  exact ⟨_, pss_cons (ps_setLc (i := 1) (own := [("_law_cell", 2)]) (g := gName 2) (tt := tYes) (te := tCB rAbs (tCons (tVar 2) tNil)) rfl sc__law_begun.nd rfl rfl (sw_true rfl rfl rfl (by decide +kernel)) (pi_seq (pv 0)) (blkOk_by (by kernel_rfl)) (fun _ _ _ _ _ => pg_name (i := 2) sc__law_begun.nd rfl (Or.inl rfl)) (fun _ _ _ _ _ => pts_nil) (fun _ _ _ _ _ => pe_callB call_abs (by rfl) T.b_abs (by rfl) (pa_cons (pv 2) pa_nil)))
    (pss_one (ps_ret (pe_disp (pps_cons pe_str (pe_lc (own := [("_law_cell", 2)]) (g := gName 2) (tt := tTest (tOp (rB ⟨K, mg⟩ gGe) (tVar 2) (tOp (rB ⟨K, mg⟩ gPow) (tC (.int 10)) (tC (.int 18))))) (te := tOp (rB ⟨K, mg⟩ gSub) (tVar 2) (tOp (rB ⟨K, mg⟩ gPow) (tC (.int 10)) (tC (.int 18)))) rfl sc__law_begun.nd (pi_seq (pv 1)) (blkOk_by (by kernel_rfl)) (fun _ _ _ _ _ => pg_name (i := 2) sc__law_begun.nd rfl (Or.inl rfl)) (fun _ _ _ _ _ => pts_one (pt_cmpR op_geP (pv 2) (pe_op op_powP pe_int pe_int) (nomark _))) (fun _ _ _ _ _ => pe_op op_subP (pv 2) (pe_op op_powP pe_int pe_int)))
      (pps_cons pe_str (pv 1) (pps_cons pe_str pe_int (pps_cons pe_str pe_int pps_nil)))) (by rfl) (by rfl) (fun z => by cases z) (by decide)))),
    begun_reads (n1 := "_law_script") (n2 := "_law_cells") (n3 := "_law_cell") h⟩
theorem sc_is_number : FnScope ["thing"] ["thing"] (defScope s_is_number) := ⟨rfl, rfl, rfl, by decide +kernel, rfl, by decide +kernel, by decide +kernel⟩
theorem ok_is_number {f : Addr} {fd : FuncData} (D : DefAt K mg "is_number" s_is_number ["thing"] f fd) (T : Txt K mg) :
    FnG P w K mg base 1 f fd ["thing"] (spF ⟨K, mg⟩ F_is_number) := by
  refine Fun.okG D.F sc_is_number spF_len (fun cdv A fr s H vs Q E hgd hr h => ?_)
  have tk := takes_of (X := cxOf (L2.CX P w) P w K mg base ["thing"] "is_number" (defScope s_is_number) f cdv A fr s H E) (E := E) rfl rfl rfl rfl
  exact ⟨tSf ⟨K, mg⟩ (WB E) b_is_number, (xss (pss_one (xs (ps_ret (xe (pe_and (xe (pe_callB call_isi (by rfl) T.b_isinstance (by rfl) (pa_cons (xe (pv 0) (sm_var 0)) (pa_cons (pe_bltn (v := .ty "int") (u := .type "int") (by rfl) T.b_int (by rfl) rfl) pa_nil))) (sm_isi T.A (by decide) sm_s)) (pe_one (xe (pe_not (xe (pe_callB call_isi (by rfl) T.b_isinstance (by rfl) (pa_cons (xe (pv 0) (sm_var 0)) (pa_cons (pe_bltn (v := .ty "bool") (u := .type "bool") (by rfl) T.b_bool (by rfl) rfl) pa_nil))) (sm_isi T.A (by decide) sm_s))) (sm_notV sm_s)))) (sm_andV sm_s sm_s))) (sms_ret sm_s))) sms_s),
    body_ok sms_s h⟩
theorem sc_is_list : FnScope ["thing"] ["thing"] (defScope s_is_list) := ⟨rfl, rfl, rfl, by decide +kernel, rfl, by decide +kernel, by decide +kernel⟩
theorem ok_is_list {f : Addr} {fd : FuncData} (D : DefAt K mg "is_list" s_is_list ["thing"] f fd) (T : Txt K mg) :
    FnG P w K mg base 1 f fd ["thing"] (spF ⟨K, mg⟩ F_is_list) := by
  refine Fun.okG D.F sc_is_list spF_len (fun cdv A fr s H vs Q E hgd hr h => ?_)
  have tk := takes_of (X := cxOf (L2.CX P w) P w K mg base ["thing"] "is_list" (defScope s_is_list) f cdv A fr s H E) (E := E) rfl rfl rfl rfl
  exact ⟨tSf ⟨K, mg⟩ (WB E) b_is_list, (xss (pss_one (xs (ps_ret (xe (pe_callB call_isiT (by rfl) T.b_isinstance (by rfl) (pa_cons (xe (pv 0) (sm_var 0)) (pa_cons (pe_tup (pa_cons (pe_bltn (v := .ty "list") (u := .type "list") (by rfl) T.b_list (by rfl) rfl) (pa_cons (pe_bltn (v := .ty "tuple") (u := .type "tuple") (by rfl) T.b_tuple (by rfl) rfl) pa_nil))) pa_nil))) (sm_isi2 T.A (by decide) (by decide) sm_s))) (sms_ret sm_s))) sms_s),
    body_ok sms_s h⟩
theorem sc_is_name : FnScope ["thing", "sign"] ["thing"] (defScope s_is_name) := ⟨rfl, rfl, rfl, by decide +kernel, rfl, by decide +kernel, by decide +kernel⟩
theorem ok_is_name {f : Addr} {fd : FuncData} (D : DefAt K mg "is_name" s_is_name ["thing"] f fd) (T : Txt K mg) :
    FnG P w K mg base 1 f fd ["thing"] (spF ⟨K, mg⟩ F_is_name) := by
  obtain ⟨u_LETTERS, g_LETTERS, r_LETTERS⟩ := T.g_LETTERS
  obtain ⟨u_MOST_LETTERS, g_MOST_LETTERS, r_MOST_LETTERS⟩ := T.g_MOST_LETTERS
  refine Fun.okG D.F sc_is_name spF_len (fun cdv A fr s H vs Q E hgd hr h => ?_)
  have tk := takes_of (X := cxOf (L2.CX P w) P w K mg base ["thing", "sign"] "is_name" (defScope s_is_name) f cdv A fr s H E) (E := E) rfl rfl rfl rfl
  exact ⟨tSf ⟨K, mg⟩ (WB E) b_is_name, (xss (pss_cons (xs (ps_if (xt ((pw_or (xt (pt_not (xt (pt_val (xe (pe_callB call_isi (by rfl) T.b_isinstance (by rfl) (pa_cons (xe (pv 0) (sm_var 0)) (pa_cons (pe_bltn (v := .ty "str") (u := .type "str") (by rfl) T.b_str (by rfl) rfl) pa_nil))) (sm_isi T.A (by decide) sm_s))) (smt_test sm_s))) (smt_not smt_s)) (pw_or (xt (pt_cmpR op_ltP (xe (pe_callB call_len (by rfl) T.b_len (by rfl) (xa (pa_cons (xe (pv 0) (sm_var 0)) (xa pa_nil sma_nil)) (sma_cons sm_s sma_s))) (sm_cb F_len sma_s)) (xe pe_int sm_int) (nomark _)) (smt_test (sm_op F_lt sm_s sm_s))) (pw_or1 (xt (pt_cmpR op_gtP (xe (pe_callB call_len (by rfl) T.b_len (by rfl) (xa (pa_cons (xe (pv 0) (sm_var 0)) (xa pa_nil sma_nil)) (sma_cons sm_s sma_s))) (sm_cb F_len sma_s)) (xe (pe_glob (by rfl) g_MOST_LETTERS r_MOST_LETTERS) sm_int) (nomark _)) (smt_test (sm_op F_gt sm_s sm_s))))))).pt (smt_or smt_s (smt_or smt_s smt_s)))
    (xss (pss_one (xs (ps_ret (xe pe_bl sm_bl)) (sms_ret sm_s))) sms_s)
    (xss pss_nil sms_next)) (sms_if smt_s sms_s sms_s))
    (xss (pss_one (xs (ps_ret (xe (pe_callB (cr_all rfl) (by rfl) T.b_all (by rfl) (xa (pa_cons (xe (pe_lc (own := [("sign", 1)]) (g := (gName 1)) (tt := tT ⟨K, mg⟩ W0 fYes) (te := tE ⟨K, mg⟩ W0 (fOp (oIn false) (fVar 1) (fC (.str "abcdefghijklmnopqrstuvwxyz")))) rfl sc_is_name.nd (xi (pi_seq (xe (pv 0) (sm_var 0))) (smi_seq sm_s)) (blkOk_by (by kernel_rfl)) (fun _ _ _ _ _ => (pg_name (i := 1) sc_is_name.nd rfl (Or.inl rfl))) (fun _ _ _ _ _ => (xts pts_nil smt_yes)) (fun _ _ _ _ _ => (xe (pe_cmpR (op_inP (huN hr (by decide))) (xe (pv 1) (sm_var 1)) (xe (pe_glob (by rfl) g_LETTERS r_LETTERS) sm_str) (by rfl)) (sm_op F_in sm_s sm_s)))) (sm_lc (w := false) smi_s (smg_name 1) smt_s sm_s (by decide))) (xa pa_nil sma_nil)) (sma_cons sm_s sma_s))) (sm_cb F_all sma_s))) (sms_ret sm_s))) sms_s)) (sms_seq sms_s sms_s)),
    body_ok sms_s h⟩
theorem sc_is_pair : FnScope ["thing"] ["thing"] (defScope s_is_pair) := ⟨rfl, rfl, rfl, by decide +kernel, rfl, by decide +kernel, by decide +kernel⟩
theorem ok_is_pair {f : Addr} {fd : FuncData} (D : DefAt K mg "is_pair" s_is_pair ["thing"] f fd) (T : Txt K mg) {f_is_name : Addr} {fd_is_name : FuncData} (D_is_name : DefAt K mg "is_name" s_is_name ["thing"] f_is_name fd_is_name) (G_is_name : FnG P w K mg base 1 f_is_name fd_is_name ["thing"] (spF ⟨K, mg⟩ F_is_name)) {f_is_number : Addr} {fd_is_number : FuncData} (D_is_number : DefAt K mg "is_number" s_is_number ["thing"] f_is_number fd_is_number) (G_is_number : FnG P w K mg base 1 f_is_number fd_is_number ["thing"] (spF ⟨K, mg⟩ F_is_number)) :
    FnG P w K mg base 2 f fd ["thing"] (spF ⟨K, mg⟩ F_is_pair) := by
  refine Fun.okG D.F sc_is_pair spF_len (fun cdv A fr s H vs Q E hgd hr h => ?_)
  have tk := takes_of (X := cxOf (L2.CX P w) P w K mg base ["thing"] "is_pair" (defScope s_is_pair) f cdv A fr s H E) (E := E) rfl rfl rfl rfl
  exact ⟨tSf ⟨K, mg⟩ (WB E) b_is_pair, (xss (pss_one (xs (ps_ret (xe (pe_and (xe (pe_callB call_isi (by rfl) T.b_isinstance (by rfl) (pa_cons (xe (pv 0) (sm_var 0)) (pa_cons (pe_bltn (v := .ty "tuple") (u := .type "tuple") (by rfl) T.b_tuple (by rfl) rfl) pa_nil))) (sm_isi T.A (by decide) sm_s)) (pe_and (xe (pe_cmpR (op_eqP (huN hr (by decide))) (xe (pe_callB call_len (by rfl) T.b_len (by rfl) (xa (pa_cons (xe (pv 0) (sm_var 0)) (xa pa_nil sma_nil)) (sma_cons sm_s sma_s))) (sm_cb F_len sma_s)) (xe pe_int sm_int) (nomark _)) (sm_op F_eq sm_s sm_s)) (pe_and (xe (pe_callG G_is_name hgd (hr.mono (by decide)) (by rfl) D_is_name.g D_is_name.F.kp D_is_name.b (fun σ => passAt (W := WB E) tk σ) (xa (pa_cons (xe (pe_ix (ix_anyP (huN hr (by decide))) (xe (pv 0) (sm_var 0)) (xe pe_int sm_int) (fun _ _ => rfl)) (sm_op F_ix sm_s sm_s)) (xa pa_nil sma_nil)) (sma_cons sm_s sma_s))) (sm_call sma_s)) (pe_one (xe (pe_callG G_is_number hgd (hr.mono (by decide)) (by rfl) D_is_number.g D_is_number.F.kp D_is_number.b (fun σ => passAt (W := WB E) tk σ) (xa (pa_cons (xe (pe_ix (ix_anyP (huN hr (by decide))) (xe (pv 0) (sm_var 0)) (xe pe_int sm_int) (fun _ _ => rfl)) (sm_op F_ix sm_s sm_s)) (xa pa_nil sma_nil)) (sma_cons sm_s sma_s))) (sm_call sma_s)))))) (sm_andV sm_s (sm_andV sm_s (sm_andV sm_s sm_s))))) (sms_ret sm_s))) sms_s),
    body_ok sms_s h⟩
theorem sc_are_pairs : FnScope ["thing", "one", "other", "pair"] ["thing"] (defScope s_are_pairs) := ⟨rfl, rfl, rfl, by decide +kernel, rfl, by decide +kernel, by decide +kernel⟩
theorem ok_are_pairs {f : Addr} {fd : FuncData} (D : DefAt K mg "are_pairs" s_are_pairs ["thing"] f fd) (T : Txt K mg) {f_is_pair : Addr} {fd_is_pair : FuncData} (D_is_pair : DefAt K mg "is_pair" s_is_pair ["thing"] f_is_pair fd_is_pair) (G_is_pair : FnG P w K mg base 2 f_is_pair fd_is_pair ["thing"] (spF ⟨K, mg⟩ F_is_pair)) :
    FnG P w K mg base 3 f fd ["thing"] (spF ⟨K, mg⟩ F_are_pairs) := by
  refine Fun.okG D.F sc_are_pairs spF_len (fun cdv A fr s H vs Q E hgd hr h => ?_)
  have tk := takes_of (X := cxOf (L2.CX P w) P w K mg base ["thing", "one", "other", "pair"] "are_pairs" (defScope s_are_pairs) f cdv A fr s H E) (E := E) rfl rfl rfl rfl
  exact ⟨tSf ⟨K, mg⟩ (WB E) b_are_pairs, (xss (pss_cons (xs (ps_if (xt ((pw_or (xt (pt_not (xt (pt_val (xe (pe_callB call_isi (by rfl) T.b_isinstance (by rfl) (pa_cons (xe (pv 0) (sm_var 0)) (pa_cons (pe_bltn (v := .ty "tuple") (u := .type "tuple") (by rfl) T.b_tuple (by rfl) rfl) pa_nil))) (sm_isi T.A (by decide) sm_s))) (smt_test sm_s))) (smt_not smt_s)) (pw_or1 (xt (pt_not (xt (pt_val (xe (pe_callB (cr_all rfl) (by rfl) T.b_all (by rfl) (xa (pa_cons (xe (pe_lc (own := [("pair", 3)]) (g := (gName 3)) (tt := tT ⟨K, mg⟩ W0 fYes) (te := tE ⟨K, mg⟩ W0 (fCall F_is_pair (aCons (fVar 3) aNil))) rfl sc_are_pairs.nd (xi (pi_seq (xe (pv 0) (sm_var 0))) (smi_seq sm_s)) (blkOk_by (by kernel_rfl)) (fun _ _ _ _ _ => (pg_name (i := 3) sc_are_pairs.nd rfl (Or.inl rfl))) (fun _ _ _ _ _ => (xts pts_nil smt_yes)) (fun _ _ _ _ _ => (xe (pe_callG G_is_pair hgd (hr.mono (by decide)) (by rfl) D_is_pair.g D_is_pair.F.kp D_is_pair.b (fun σ => passAt (W := W0) takes0 σ) (xa (pa_cons (xe (pv 3) (sm_var 3)) (xa pa_nil sma_nil)) (sma_cons sm_s sma_s))) (sm_call sma_s)))) (sm_lc (w := false) smi_s (smg_name 3) smt_s sm_s (by decide))) (xa pa_nil sma_nil)) (sma_cons sm_s sma_s))) (sm_cb F_all sma_s))) (smt_test sm_s))) (smt_not smt_s))))).pt (smt_or smt_s smt_s))
    (xss (pss_one (xs (ps_ret (xe pe_bl sm_bl)) (sms_ret sm_s))) sms_s)
    (xss pss_nil sms_next)) (sms_if smt_s sms_s sms_s))
    (xss (pss_one (xs (ps_ret (xe (pe_callB (cr_all rfl) (by rfl) T.b_all (by rfl) (xa (pa_cons (xe (pe_lc (own := [("one", 1), ("other", 2)]) (g := (gTup K 2 (gCons (gName 1) (gCons (gName 2) gNil)))) (tt := tT ⟨K, mg⟩ W0 fYes) (te := tE ⟨K, mg⟩ W0 (fOp oLt (fOp oIx (fVar 1) (fC (.int 0))) (fOp oIx (fVar 2) (fC (.int 0))))) rfl sc_are_pairs.nd (xi (RZ.pi_zipA (by rfl) T.b_zip (xa (pa_cons (xe (pv 0) (sm_var 0)) (xa (pa_cons (xe (pe_slice sl_anyP (xe (pv 0) (sm_var 0)) (xo (po_some (xe pe_int sm_int)) (smo_some sm_s)) (xo po_none smo_none)) (sm_sl sm_s smo_s smo_s)) (xa pa_nil sma_nil)) (sma_cons sm_s sma_s))) (sma_cons sm_s sma_s))) (smi_zip sma_s)) (blkOk_by (by kernel_rfl)) (fun _ _ _ _ _ => (pg_tup rfl (pgs_cons (pg_name (i := 1) sc_are_pairs.nd rfl (Or.inl rfl)) (pgs_cons (pg_name (i := 2) sc_are_pairs.nd rfl (Or.inl rfl)) pgs_nil)))) (fun _ _ _ _ _ => (xts pts_nil smt_yes)) (fun _ _ _ _ _ => (xe (pe_cmpR op_ltP (xe (pe_ix (ix_anyP (huN hr (by decide))) (xe (pv 1) (sm_var 1)) (xe pe_int sm_int) (fun _ _ => rfl)) (sm_op F_ix sm_s sm_s)) (xe (pe_ix (ix_anyP (huN hr (by decide))) (xe (pv 2) (sm_var 2)) (xe pe_int sm_int) (fun _ _ => rfl)) (sm_op F_ix sm_s sm_s)) (nomark _)) (sm_op F_lt sm_s sm_s)))) (sm_lc (w := true) smi_s (smg_tup (smgs_cons (smg_name 1) (smgs_cons (smg_name 2) smgs_nil))) smt_s sm_s (by decide))) (xa pa_nil sma_nil)) (sma_cons sm_s sma_s))) (sm_cb F_all sma_s))) (sms_ret sm_s))) sms_s)) (sms_seq sms_s sms_s)),
    body_ok sms_s h⟩
theorem sc_need_plan : FnScope ["plan"] ["plan"] (defScope s_need_plan) := ⟨rfl, rfl, rfl, by decide +kernel, rfl, by decide +kernel, by decide +kernel⟩
theorem ok_need_plan {f : Addr} {fd : FuncData} (D : DefAt K mg "need_plan" s_need_plan ["plan"] f fd) (T : Txt K mg) {f_are_pairs : Addr} {fd_are_pairs : FuncData} (D_are_pairs : DefAt K mg "are_pairs" s_are_pairs ["thing"] f_are_pairs fd_are_pairs) (G_are_pairs : FnG P w K mg base 3 f_are_pairs fd_are_pairs ["thing"] (spF ⟨K, mg⟩ F_are_pairs)) :
    FnG P w K mg base 4 f fd ["plan"] (spF ⟨K, mg⟩ F_need_plan) := by
  refine Fun.okG D.F sc_need_plan spF_len (fun cdv A fr s H vs Q E hgd hr h => ?_)
  have tk := takes_of (X := cxOf (L2.CX P w) P w K mg base ["plan"] "need_plan" (defScope s_need_plan) f cdv A fr s H E) (E := E) rfl rfl rfl rfl
  exact ⟨tSf ⟨K, mg⟩ (WB E) b_need_plan, (xss (pss_one (xs (ps_if (xt (pt_not (xt (pt_val (xe (pe_callG G_are_pairs hgd (hr.mono (by decide)) (by rfl) D_are_pairs.g D_are_pairs.F.kp D_are_pairs.b (fun σ => passAt (W := WB E) tk σ) (xa (pa_cons (xe (pv 0) (sm_var 0)) (xa pa_nil sma_nil)) (sma_cons sm_s sma_s))) (sm_call sma_s))) (smt_test sm_s))) (smt_not smt_s))
    (xss pss_never sms_never)
    (xss pss_nil sms_next)) (sms_if smt_s sms_s sms_s))) sms_s),
    body_ok sms_s h⟩
theorem sc_need_number : FnScope ["number"] ["number"] (defScope s_need_number) := ⟨rfl, rfl, rfl, by decide +kernel, rfl, by decide +kernel, by decide +kernel⟩
theorem ok_need_number {f : Addr} {fd : FuncData} (D : DefAt K mg "need_number" s_need_number ["number"] f fd) (T : Txt K mg) {f_is_number : Addr} {fd_is_number : FuncData} (D_is_number : DefAt K mg "is_number" s_is_number ["thing"] f_is_number fd_is_number) (G_is_number : FnG P w K mg base 1 f_is_number fd_is_number ["thing"] (spF ⟨K, mg⟩ F_is_number)) :
    FnG P w K mg base 2 f fd ["number"] (spF ⟨K, mg⟩ F_need_number) := by
  refine Fun.okG D.F sc_need_number spF_len (fun cdv A fr s H vs Q E hgd hr h => ?_)
  have tk := takes_of (X := cxOf (L2.CX P w) P w K mg base ["number"] "need_number" (defScope s_need_number) f cdv A fr s H E) (E := E) rfl rfl rfl rfl
  exact ⟨tSf ⟨K, mg⟩ (WB E) b_need_number, (xss (pss_one (xs (ps_if (xt (pt_not (xt (pt_val (xe (pe_callG G_is_number hgd (hr.mono (by decide)) (by rfl) D_is_number.g D_is_number.F.kp D_is_number.b (fun σ => passAt (W := WB E) tk σ) (xa (pa_cons (xe (pv 0) (sm_var 0)) (xa pa_nil sma_nil)) (sma_cons sm_s sma_s))) (sm_call sma_s))) (smt_test sm_s))) (smt_not smt_s))
    (xss pss_never sms_never)
    (xss pss_nil sms_next)) (sms_if smt_s sms_s sms_s))) sms_s),
    body_ok sms_s h⟩
theorem sc_put_by : FnScope ["plan", "number", "name", "moment"] ["plan", "number"] (defScope s_put_by) := ⟨rfl, rfl, rfl, by decide +kernel, rfl, by decide +kernel, by decide +kernel⟩
theorem ok_put_by {f : Addr} {fd : FuncData} (D : DefAt K mg "put_by" s_put_by ["plan", "number"] f fd) (T : Txt K mg) :
    FnG P w K mg base 1 f fd ["plan", "number"] (spF ⟨K, mg⟩ F_put_by) := by
  refine Fun.okG D.F sc_put_by spF_len (fun cdv A fr s H vs Q E hgd hr h => ?_)
  have tk := takes_of (X := cxOf (L2.CX P w) P w K mg base ["plan", "number", "name", "moment"] "put_by" (defScope s_put_by) f cdv A fr s H E) (E := E) rfl rfl rfl rfl
  exact ⟨tSf ⟨K, mg⟩ (WB E) b_put_by, (xss (pss_one (xs (ps_ret (xe (pe_callTy call_tupleP (by rfl) T.b_tuple (by rfl) (xa (pa_cons (xe (pe_lc (own := [("name", 2), ("moment", 3)]) (g := (gTup K 2 (gCons (gName 2) (gCons (gName 3) gNil)))) (tt := tT ⟨K, mg⟩ W0 fYes) (te := tE ⟨K, mg⟩ W0 (fTup (aCons (fVar 2) (aCons (fOp oAdd (fVar 3) (fVar 1)) aNil)))) rfl sc_put_by.nd (xi (pi_seq (xe (pv 0) (sm_var 0))) (smi_seq sm_s)) (blkOk_by (by kernel_rfl)) (fun _ _ _ _ _ => (pg_tup rfl (pgs_cons (pg_name (i := 2) sc_put_by.nd rfl (Or.inl rfl)) (pgs_cons (pg_name (i := 3) sc_put_by.nd rfl (Or.inl rfl)) pgs_nil)))) (fun _ _ _ _ _ => (xts pts_nil smt_yes)) (fun _ _ _ _ _ => (xe (pe_tupF (xa (pa_cons (xe (pv 2) (sm_var 2)) (xa (pa_cons (xe (pe_op op_addP (xe (pv 3) (sm_var 3)) (xe (pv 1) (sm_var 1))) (sm_op F_add sm_s sm_s)) (xa pa_nil sma_nil)) (sma_cons sm_s sma_s))) (sma_cons sm_s sma_s))) (sm_tup sma_s)))) (sm_lc (w := false) smi_s (smg_tup (smgs_cons (smg_name 2) (smgs_cons (smg_name 3) smgs_nil))) smt_s sm_s (by decide))) (xa pa_nil sma_nil)) (sma_cons sm_s sma_s))) (sm_cb F_tuple sma_s))) (sms_ret sm_s))) sms_s),
    body_ok sms_s h⟩
theorem sc_later : FnScope ["plan", "number"] ["plan", "number"] (defScope s_later) := ⟨rfl, rfl, rfl, by decide +kernel, rfl, by decide +kernel, by decide +kernel⟩
theorem ok_later {f : Addr} {fd : FuncData} (D : DefAt K mg "later" s_later ["plan", "number"] f fd) (T : Txt K mg) {f_need_plan : Addr} {fd_need_plan : FuncData} (D_need_plan : DefAt K mg "need_plan" s_need_plan ["plan"] f_need_plan fd_need_plan) (G_need_plan : FnG P w K mg base 4 f_need_plan fd_need_plan ["plan"] (spF ⟨K, mg⟩ F_need_plan)) {f_need_number : Addr} {fd_need_number : FuncData} (D_need_number : DefAt K mg "need_number" s_need_number ["number"] f_need_number fd_need_number) (G_need_number : FnG P w K mg base 2 f_need_number fd_need_number ["number"] (spF ⟨K, mg⟩ F_need_number)) {f_put_by : Addr} {fd_put_by : FuncData} (D_put_by : DefAt K mg "put_by" s_put_by ["plan", "number"] f_put_by fd_put_by) (G_put_by : FnG P w K mg base 1 f_put_by fd_put_by ["plan", "number"] (spF ⟨K, mg⟩ F_put_by)) :
    FnG P w K mg base 5 f fd ["plan", "number"] (spF ⟨K, mg⟩ F_later) := by
  refine Fun.okG D.F sc_later spF_len (fun cdv A fr s H vs Q E hgd hr h => ?_)
  have tk := takes_of (X := cxOf (L2.CX P w) P w K mg base ["plan", "number"] "later" (defScope s_later) f cdv A fr s H E) (E := E) rfl rfl rfl rfl
  exact ⟨tSf ⟨K, mg⟩ (WB E) b_later, (xss (pss_cons (xs (ps_expr (xe (pe_callG G_need_plan hgd (hr.mono (by decide)) (by rfl) D_need_plan.g D_need_plan.F.kp D_need_plan.b (fun σ => passAt (W := WB E) tk σ) (xa (pa_cons (xe (pv 0) (sm_var 0)) (xa pa_nil sma_nil)) (sma_cons sm_s sma_s))) (sm_call sma_s))) (sms_drop sm_s))
    (xss (pss_cons (xs (ps_expr (xe (pe_callG G_need_number hgd (hr.mono (by decide)) (by rfl) D_need_number.g D_need_number.F.kp D_need_number.b (fun σ => passAt (W := WB E) tk σ) (xa (pa_cons (xe (pv 1) (sm_var 1)) (xa pa_nil sma_nil)) (sma_cons sm_s sma_s))) (sm_call sma_s))) (sms_drop sm_s))
    (xss (pss_one (xs (ps_ret (xe (pe_callG G_put_by hgd (hr.mono (by decide)) (by rfl) D_put_by.g D_put_by.F.kp D_put_by.b (fun σ => passAt (W := WB E) tk σ) (xa (pa_cons (xe (pv 0) (sm_var 0)) (xa (pa_cons (xe (pv 1) (sm_var 1)) (xa pa_nil sma_nil)) (sma_cons sm_s sma_s))) (sma_cons sm_s sma_s))) (sm_call sma_s))) (sms_ret sm_s))) sms_s)) (sms_seq sms_s sms_s))) (sms_seq sms_s sms_s)),
    body_ok sms_s h⟩
theorem sc_join_of : FnScope ["plans", "found", "plan", "name", "moment"] ["plans"] (defScope s_join_of) := ⟨rfl, rfl, rfl, by decide +kernel, rfl, by decide +kernel, by decide +kernel⟩
theorem ok_join_of {f : Addr} {fd : FuncData} (D : DefAt K mg "join_of" s_join_of ["plans"] f fd) (T : Txt K mg) :
    FnG P w K mg base 1 f fd ["plans"] (spF ⟨K, mg⟩ F_join_of) := by
  refine Fun.okG D.F sc_join_of spF_len (fun cdv A fr s H vs Q E hgd hr h => ?_)
  have tk := takes_of (X := cxOf (L2.CX P w) P w K mg base ["plans", "found", "plan", "name", "moment"] "join_of" (defScope s_join_of) f cdv A fr s H E) (E := E) rfl rfl rfl rfl
  exact ⟨tSf ⟨K, mg⟩ (WB E) b_join_of, (xss (pss_cons (xs (ps_set (i := 1) sc_join_of.nd rfl (Or.inl rfl) (xe pe_dnewK sm_newK)) (sms_set 1 sm_s))
    (xss (pss_cons (xs (ps_for (passes_of rfl) rfl (xi (pi_seq (xe (pv 0) (sm_var 0))) (smi_seq sm_s)) (pg_name (i := 2) sc_join_of.nd rfl (Or.inl rfl))
    (xss (pss_one (xs (ps_for (passes_of rfl) rfl (xi (pi_seq (xe (pv 2) (sm_var 2))) (smi_seq sm_s)) (pg_tup rfl (pgs_cons (pg_name (i := 3) sc_join_of.nd rfl (Or.inl rfl)) (pgs_cons (pg_name (i := 4) sc_join_of.nd rfl (Or.inl rfl)) pgs_nil)))
    (xss (pss_one (xs (ps_dput (huN hr (by decide)) (pv 1) (xe (pv 3) (sm_var 3)) (xe (pe_callB (call_max2 rfl) (by rfl) T.b_max (by rfl) (xa (pa_cons (xe (xe (pe_bm PySem.F.plainAttrs_dict PySem.F.slot_dict_get PySem.F.type_dict_get (mt_getF (huN hr (by decide))) (xe (pv 1) (sm_var 1)) (xa (pa_cons (xe (pv 3) (sm_var 3)) (xa (pa_cons (xe (pv 4) (sm_var 4)) (xa pa_nil sma_nil)) (sma_cons sm_s sma_s))) (sma_cons sm_s sma_s))) (sm_m (.inr (.inl rfl)) sm_s sma_s)) (sm_bor 1 sm_s)) (xa (pa_cons (xe (pv 4) (sm_var 4)) (xa pa_nil sma_nil)) (sma_cons sm_s sma_s))) (sma_cons sm_s sma_s))) (sm_cb F_max2 sma_s)) rfl) (sms_put 1 sm_s sm_s))) sms_s)) (sms_for (w := false) smi_s (smg_tup (smgs_cons (smg_name 3) (smgs_cons (smg_name 4) smgs_nil))) sms_s))) sms_s)) (sms_for (w := false) smi_s (smg_name 2) sms_s))
    (xss (xss (pss_one (xs (ps_ret (xe (pe_callTy call_tupleP (by rfl) T.b_tuple (by rfl) (xa (pa_cons (xe (pe_callB (cr_sortedIt rfl (huN hr (by decide))) (by rfl) T.b_sorted (by rfl) (pa_cons (pe_bm0 PySem.F.plainAttrs_dict PySem.F.slot_dict_items PySem.F.type_dict_items mt_itemsV (xe (pv 1) (sm_var 1))) pa_nil)) (sm_sortIt sm_s)) (xa pa_nil sma_nil)) (sma_cons sm_s sma_s))) (sm_cb F_tuple sma_s))) (sms_ret sm_s))) sms_s) (sms_fz 1 sms_s))) (sms_seq sms_s sms_s))) (sms_seq sms_s sms_s)),
    body_ok sms_s h⟩
theorem sc_joined : FnScope ["plans", "at", "plan"] ["plans"] (defScope s_joined) := ⟨rfl, rfl, rfl, by decide +kernel, rfl, by decide +kernel, by decide +kernel⟩
theorem ok_joined {f : Addr} {fd : FuncData} (D : DefAt K mg "joined" s_joined ["plans"] f fd) (T : Txt K mg) {f_is_list : Addr} {fd_is_list : FuncData} (D_is_list : DefAt K mg "is_list" s_is_list ["thing"] f_is_list fd_is_list) (G_is_list : FnG P w K mg base 1 f_is_list fd_is_list ["thing"] (spF ⟨K, mg⟩ F_is_list)) {f_are_pairs : Addr} {fd_are_pairs : FuncData} (D_are_pairs : DefAt K mg "are_pairs" s_are_pairs ["thing"] f_are_pairs fd_are_pairs) (G_are_pairs : FnG P w K mg base 3 f_are_pairs fd_are_pairs ["thing"] (spF ⟨K, mg⟩ F_are_pairs)) {f_join_of : Addr} {fd_join_of : FuncData} (D_join_of : DefAt K mg "join_of" s_join_of ["plans"] f_join_of fd_join_of) (G_join_of : FnG P w K mg base 1 f_join_of fd_join_of ["plans"] (spF ⟨K, mg⟩ F_join_of)) :
    FnG P w K mg base 4 f fd ["plans"] (spF ⟨K, mg⟩ F_joined) := by
  refine Fun.okG D.F sc_joined spF_len (fun cdv A fr s H vs Q E hgd hr h => ?_)
  have tk := takes_of (X := cxOf (L2.CX P w) P w K mg base ["plans", "at", "plan"] "joined" (defScope s_joined) f cdv A fr s H E) (E := E) rfl rfl rfl rfl
  exact ⟨tSf ⟨K, mg⟩ (WB E) b_joined, (xss (pss_cons (xs (ps_if (xt (pt_not (xt (pt_val (xe (pe_callG G_is_list hgd (hr.mono (by decide)) (by rfl) D_is_list.g D_is_list.F.kp D_is_list.b (fun σ => passAt (W := WB E) tk σ) (xa (pa_cons (xe (pv 0) (sm_var 0)) (xa pa_nil sma_nil)) (sma_cons sm_s sma_s))) (sm_call sma_s))) (smt_test sm_s))) (smt_not smt_s))
    (xss pss_never sms_never)
    (xss pss_nil sms_next)) (sms_if smt_s sms_s sms_s))
    (xss (pss_cons (xs (ps_for (passes_of rfl) rfl (xi (pi_enumA (by rfl) T.b_enumerate (xa (pa_cons (xe (pv 0) (sm_var 0)) (xa pa_nil sma_nil)) (sma_cons sm_s sma_s))) (smi_enumA sma_s)) (pg_tup rfl (pgs_cons (pg_name (i := 1) sc_joined.nd rfl (Or.inl rfl)) (pgs_cons (pg_name (i := 2) sc_joined.nd rfl (Or.inl rfl)) pgs_nil)))
    (xss (pss_one (xs (ps_if (xt (pt_not (xt (pt_val (xe (pe_callG G_are_pairs hgd (hr.mono (by decide)) (by rfl) D_are_pairs.g D_are_pairs.F.kp D_are_pairs.b (fun σ => passAt (W := WB E) tk σ) (xa (pa_cons (xe (pv 2) (sm_var 2)) (xa pa_nil sma_nil)) (sma_cons sm_s sma_s))) (sm_call sma_s))) (smt_test sm_s))) (smt_not smt_s))
    (xss pss_never sms_never)
    (xss pss_nil sms_next)) (sms_if smt_s sms_s sms_s))) sms_s)) (sms_for (w := true) smi_s (smg_tup (smgs_cons (smg_name 1) (smgs_cons (smg_name 2) smgs_nil))) sms_s))
    (xss (pss_one (xs (ps_ret (xe (pe_callG G_join_of hgd (hr.mono (by decide)) (by rfl) D_join_of.g D_join_of.F.kp D_join_of.b (fun σ => passAt (W := WB E) tk σ) (xa (pa_cons (xe (pv 0) (sm_var 0)) (xa pa_nil sma_nil)) (sma_cons sm_s sma_s))) (sm_call sma_s))) (sms_ret sm_s))) sms_s)) (sms_seq sms_s sms_s))) (sms_seq sms_s sms_s)),
    body_ok sms_s h⟩
theorem sc_need_two : FnScope ["one", "other"] ["one", "other"] (defScope s_need_two) := ⟨rfl, rfl, rfl, by decide +kernel, rfl, by decide +kernel, by decide +kernel⟩
theorem ok_need_two {f : Addr} {fd : FuncData} (D : DefAt K mg "need_two" s_need_two ["one", "other"] f fd) (T : Txt K mg) {f_need_plan : Addr} {fd_need_plan : FuncData} (D_need_plan : DefAt K mg "need_plan" s_need_plan ["plan"] f_need_plan fd_need_plan) (G_need_plan : FnG P w K mg base 4 f_need_plan fd_need_plan ["plan"] (spF ⟨K, mg⟩ F_need_plan)) :
    FnG P w K mg base 5 f fd ["one", "other"] (spF ⟨K, mg⟩ F_need_two) := by
  refine Fun.okG D.F sc_need_two spF_len (fun cdv A fr s H vs Q E hgd hr h => ?_)
  have tk := takes_of (X := cxOf (L2.CX P w) P w K mg base ["one", "other"] "need_two" (defScope s_need_two) f cdv A fr s H E) (E := E) rfl rfl rfl rfl
  exact ⟨tSf ⟨K, mg⟩ (WB E) b_need_two, (xss (pss_cons (xs (ps_expr (xe (pe_callG G_need_plan hgd (hr.mono (by decide)) (by rfl) D_need_plan.g D_need_plan.F.kp D_need_plan.b (fun σ => passAt (W := WB E) tk σ) (xa (pa_cons (xe (pv 0) (sm_var 0)) (xa pa_nil sma_nil)) (sma_cons sm_s sma_s))) (sm_call sma_s))) (sms_drop sm_s))
    (xss (pss_one (xs (ps_expr (xe (pe_callG G_need_plan hgd (hr.mono (by decide)) (by rfl) D_need_plan.g D_need_plan.F.kp D_need_plan.b (fun σ => passAt (W := WB E) tk σ) (xa (pa_cons (xe (pv 1) (sm_var 1)) (xa pa_nil sma_nil)) (sma_cons sm_s sma_s))) (sm_call sma_s))) (sms_drop sm_s))) sms_s)) (sms_seq sms_s sms_s)),
    body_ok sms_s h⟩
theorem sc_earlier_of : FnScope ["one", "other", "moments", "name", "moment"] ["one", "other"] (defScope s_earlier_of) := ⟨rfl, rfl, rfl, by decide +kernel, rfl, by decide +kernel, by decide +kernel⟩
theorem ok_earlier_of {f : Addr} {fd : FuncData} (D : DefAt K mg "earlier_of" s_earlier_of ["one", "other"] f fd) (T : Txt K mg) :
    FnG P w K mg base 1 f fd ["one", "other"] (spF ⟨K, mg⟩ F_earlier_of) := by
  refine Fun.okG D.F sc_earlier_of spF_len (fun cdv A fr s H vs Q E hgd hr h => ?_)
  have tk := takes_of (X := cxOf (L2.CX P w) P w K mg base ["one", "other", "moments", "name", "moment"] "earlier_of" (defScope s_earlier_of) f cdv A fr s H E) (E := E) rfl rfl rfl rfl
  exact ⟨tSf ⟨K, mg⟩ (WB E) b_earlier_of, (xss (pss_cons (xs (ps_set (i := 2) sc_earlier_of.nd rfl (Or.inr rfl) (xe (pe_callTy (cr_dictP rfl) (by rfl) T.b_dict (by rfl) (xa (pa_cons (xe (pv 1) (sm_var 1)) (xa pa_nil sma_nil)) (sma_cons sm_s sma_s))) (sm_cb F_dict sma_s))) (sms_asg sm_s (smg_name 2)))
    (xss (pss_one (xs (ps_ret (xe (pe_callTy call_tupleP (by rfl) T.b_tuple (by rfl) (xa (pa_cons (xe (pe_lc (own := [("name", 3), ("moment", 4)]) (g := (gTup K 2 (gCons (gName 3) (gCons (gName 4) gNil)))) (tt := tT ⟨K, mg⟩ W0 (fTest (fOp (oIn false) (fVar 3) (fVar 2)))) (te := tE ⟨K, mg⟩ W0 (fTup (aCons (fVar 3) (aCons (fCB (o2A oMin2) (aCons (fVar 4) (aCons (fOp oIx (fVar 2) (fVar 3)) aNil))) aNil)))) rfl sc_earlier_of.nd (xi (pi_seq (xe (pv 0) (sm_var 0))) (smi_seq sm_s)) (blkOk_by (by kernel_rfl)) (fun _ _ _ _ _ => (pg_tup rfl (pgs_cons (pg_name (i := 3) sc_earlier_of.nd rfl (Or.inl rfl)) (pgs_cons (pg_name (i := 4) sc_earlier_of.nd rfl (Or.inl rfl)) pgs_nil)))) (fun _ _ _ _ _ => (xts (pts_one (xt (pt_cmpR (op_inP (huN hr (by decide))) (xe (pv 3) (sm_var 3)) (xe (pv 2) (sm_var 2)) (by rfl)) (smt_test (sm_op F_in sm_s sm_s)))) smt_s)) (fun _ _ _ _ _ => (xe (pe_tupF (xa (pa_cons (xe (pv 3) (sm_var 3)) (xa (pa_cons (xe (pe_callB (call_min2 rfl) (by rfl) T.b_min (by rfl) (xa (pa_cons (xe (pv 4) (sm_var 4)) (xa (pa_cons (xe (pe_ix (ix_anyP (huN hr (by decide))) (xe (pv 2) (sm_var 2)) (xe (pv 3) (sm_var 3)) (fun _ _ => rfl)) (sm_op F_ix sm_s sm_s)) (xa pa_nil sma_nil)) (sma_cons sm_s sma_s))) (sma_cons sm_s sma_s))) (sm_cb F_min2 sma_s)) (xa pa_nil sma_nil)) (sma_cons sm_s sma_s))) (sma_cons sm_s sma_s))) (sm_tup sma_s)))) (sm_lc (w := false) smi_s (smg_tup (smgs_cons (smg_name 3) (smgs_cons (smg_name 4) smgs_nil))) smt_s sm_s (by decide))) (xa pa_nil sma_nil)) (sma_cons sm_s sma_s))) (sm_cb F_tuple sma_s))) (sms_ret sm_s))) sms_s)) (sms_seq sms_s sms_s)),
    body_ok sms_s h⟩
theorem sc_earlier : FnScope ["one", "other"] ["one", "other"] (defScope s_earlier) := ⟨rfl, rfl, rfl, by decide +kernel, rfl, by decide +kernel, by decide +kernel⟩
theorem ok_earlier {f : Addr} {fd : FuncData} (D : DefAt K mg "earlier" s_earlier ["one", "other"] f fd) (T : Txt K mg) {f_need_two : Addr} {fd_need_two : FuncData} (D_need_two : DefAt K mg "need_two" s_need_two ["one", "other"] f_need_two fd_need_two) (G_need_two : FnG P w K mg base 5 f_need_two fd_need_two ["one", "other"] (spF ⟨K, mg⟩ F_need_two)) {f_earlier_of : Addr} {fd_earlier_of : FuncData} (D_earlier_of : DefAt K mg "earlier_of" s_earlier_of ["one", "other"] f_earlier_of fd_earlier_of) (G_earlier_of : FnG P w K mg base 1 f_earlier_of fd_earlier_of ["one", "other"] (spF ⟨K, mg⟩ F_earlier_of)) :
    FnG P w K mg base 6 f fd ["one", "other"] (spF ⟨K, mg⟩ F_earlier) := by
  refine Fun.okG D.F sc_earlier spF_len (fun cdv A fr s H vs Q E hgd hr h => ?_)
  have tk := takes_of (X := cxOf (L2.CX P w) P w K mg base ["one", "other"] "earlier" (defScope s_earlier) f cdv A fr s H E) (E := E) rfl rfl rfl rfl
  exact ⟨tSf ⟨K, mg⟩ (WB E) b_earlier, (xss (pss_cons (xs (ps_expr (xe (pe_callG G_need_two hgd (hr.mono (by decide)) (by rfl) D_need_two.g D_need_two.F.kp D_need_two.b (fun σ => passAt (W := WB E) tk σ) (xa (pa_cons (xe (pv 0) (sm_var 0)) (xa (pa_cons (xe (pv 1) (sm_var 1)) (xa pa_nil sma_nil)) (sma_cons sm_s sma_s))) (sma_cons sm_s sma_s))) (sm_call sma_s))) (sms_drop sm_s))
    (xss (pss_one (xs (ps_ret (xe (pe_callG G_earlier_of hgd (hr.mono (by decide)) (by rfl) D_earlier_of.g D_earlier_of.F.kp D_earlier_of.b (fun σ => passAt (W := WB E) tk σ) (xa (pa_cons (xe (pv 0) (sm_var 0)) (xa (pa_cons (xe (pv 1) (sm_var 1)) (xa pa_nil sma_nil)) (sma_cons sm_s sma_s))) (sma_cons sm_s sma_s))) (sm_call sma_s))) (sms_ret sm_s))) sms_s)) (sms_seq sms_s sms_s)),
    body_ok sms_s h⟩
theorem sc_is_in : FnScope ["one", "other", "moments", "name", "moment"] ["one", "other"] (defScope s_is_in) := ⟨rfl, rfl, rfl, by decide +kernel, rfl, by decide +kernel, by decide +kernel⟩
theorem ok_is_in {f : Addr} {fd : FuncData} (D : DefAt K mg "is_in" s_is_in ["one", "other"] f fd) (T : Txt K mg) :
    FnG P w K mg base 1 f fd ["one", "other"] (spF ⟨K, mg⟩ F_is_in) := by
  refine Fun.okG D.F sc_is_in spF_len (fun cdv A fr s H vs Q E hgd hr h => ?_)
  have tk := takes_of (X := cxOf (L2.CX P w) P w K mg base ["one", "other", "moments", "name", "moment"] "is_in" (defScope s_is_in) f cdv A fr s H E) (E := E) rfl rfl rfl rfl
  exact ⟨tSf ⟨K, mg⟩ (WB E) b_is_in, (xss (pss_cons (xs (ps_set (i := 2) sc_is_in.nd rfl (Or.inr rfl) (xe (pe_callTy (cr_dictP rfl) (by rfl) T.b_dict (by rfl) (xa (pa_cons (xe (pv 1) (sm_var 1)) (xa pa_nil sma_nil)) (sma_cons sm_s sma_s))) (sm_cb F_dict sma_s))) (sms_asg sm_s (smg_name 2)))
    (xss (pss_one (xs (ps_ret (xe (pe_callB (cr_all rfl) (by rfl) T.b_all (by rfl) (xa (pa_cons (xe (pe_lc (own := [("name", 3), ("moment", 4)]) (g := (gTup K 2 (gCons (gName 3) (gCons (gName 4) gNil)))) (tt := tT ⟨K, mg⟩ W0 fYes) (te := tE ⟨K, mg⟩ W0 (fAndV (fOp (oIn false) (fVar 3) (fVar 2)) (fOp oLe (fVar 4) (fOp oIx (fVar 2) (fVar 3))))) rfl sc_is_in.nd (xi (pi_seq (xe (pv 0) (sm_var 0))) (smi_seq sm_s)) (blkOk_by (by kernel_rfl)) (fun _ _ _ _ _ => (pg_tup rfl (pgs_cons (pg_name (i := 3) sc_is_in.nd rfl (Or.inl rfl)) (pgs_cons (pg_name (i := 4) sc_is_in.nd rfl (Or.inl rfl)) pgs_nil)))) (fun _ _ _ _ _ => (xts pts_nil smt_yes)) (fun _ _ _ _ _ => (xe (pe_and (xe (pe_cmpR (op_inP (huN hr (by decide))) (xe (pv 3) (sm_var 3)) (xe (pv 2) (sm_var 2)) (by rfl)) (sm_op F_in sm_s sm_s)) (pe_one (xe (pe_cmpR op_leP (xe (pv 4) (sm_var 4)) (xe (pe_ix (ix_anyP (huN hr (by decide))) (xe (pv 2) (sm_var 2)) (xe (pv 3) (sm_var 3)) (fun _ _ => rfl)) (sm_op F_ix sm_s sm_s)) (nomark _)) (sm_op F_le sm_s sm_s)))) (sm_andV sm_s sm_s)))) (sm_lc (w := false) smi_s (smg_tup (smgs_cons (smg_name 3) (smgs_cons (smg_name 4) smgs_nil))) smt_s sm_s (by decide))) (xa pa_nil sma_nil)) (sma_cons sm_s sma_s))) (sm_cb F_all sma_s))) (sms_ret sm_s))) sms_s)) (sms_seq sms_s sms_s)),
    body_ok sms_s h⟩
theorem sc_is_within : FnScope ["one", "other"] ["one", "other"] (defScope s_is_within) := ⟨rfl, rfl, rfl, by decide +kernel, rfl, by decide +kernel, by decide +kernel⟩
theorem ok_is_within {f : Addr} {fd : FuncData} (D : DefAt K mg "is_within" s_is_within ["one", "other"] f fd) (T : Txt K mg) {f_need_two : Addr} {fd_need_two : FuncData} (D_need_two : DefAt K mg "need_two" s_need_two ["one", "other"] f_need_two fd_need_two) (G_need_two : FnG P w K mg base 5 f_need_two fd_need_two ["one", "other"] (spF ⟨K, mg⟩ F_need_two)) {f_is_in : Addr} {fd_is_in : FuncData} (D_is_in : DefAt K mg "is_in" s_is_in ["one", "other"] f_is_in fd_is_in) (G_is_in : FnG P w K mg base 1 f_is_in fd_is_in ["one", "other"] (spF ⟨K, mg⟩ F_is_in)) :
    FnG P w K mg base 6 f fd ["one", "other"] (spF ⟨K, mg⟩ F_is_within) := by
  refine Fun.okG D.F sc_is_within spF_len (fun cdv A fr s H vs Q E hgd hr h => ?_)
  have tk := takes_of (X := cxOf (L2.CX P w) P w K mg base ["one", "other"] "is_within" (defScope s_is_within) f cdv A fr s H E) (E := E) rfl rfl rfl rfl
  exact ⟨tSf ⟨K, mg⟩ (WB E) b_is_within, (xss (pss_cons (xs (ps_expr (xe (pe_callG G_need_two hgd (hr.mono (by decide)) (by rfl) D_need_two.g D_need_two.F.kp D_need_two.b (fun σ => passAt (W := WB E) tk σ) (xa (pa_cons (xe (pv 0) (sm_var 0)) (xa (pa_cons (xe (pv 1) (sm_var 1)) (xa pa_nil sma_nil)) (sma_cons sm_s sma_s))) (sma_cons sm_s sma_s))) (sm_call sma_s))) (sms_drop sm_s))
    (xss (pss_one (xs (ps_ret (xe (pe_callG G_is_in hgd (hr.mono (by decide)) (by rfl) D_is_in.g D_is_in.F.kp D_is_in.b (fun σ => passAt (W := WB E) tk σ) (xa (pa_cons (xe (pv 0) (sm_var 0)) (xa (pa_cons (xe (pv 1) (sm_var 1)) (xa pa_nil sma_nil)) (sma_cons sm_s sma_s))) (sma_cons sm_s sma_s))) (sm_call sma_s))) (sms_ret sm_s))) sms_s)) (sms_seq sms_s sms_s)),
    body_ok sms_s h⟩
theorem sc_room_in : FnScope ["one", "other", "moments", "name", "moment"] ["one", "other"] (defScope s_room_in) := ⟨rfl, rfl, rfl, by decide +kernel, rfl, by decide +kernel, by decide +kernel⟩
theorem ok_room_in {f : Addr} {fd : FuncData} (D : DefAt K mg "room_in" s_room_in ["one", "other"] f fd) (T : Txt K mg) :
    FnG P w K mg base 1 f fd ["one", "other"] (spF ⟨K, mg⟩ F_room_in) := by
  refine Fun.okG D.F sc_room_in spF_len (fun cdv A fr s H vs Q E hgd hr h => ?_)
  have tk := takes_of (X := cxOf (L2.CX P w) P w K mg base ["one", "other", "moments", "name", "moment"] "room_in" (defScope s_room_in) f cdv A fr s H E) (E := E) rfl rfl rfl rfl
  exact ⟨tSf ⟨K, mg⟩ (WB E) b_room_in, (xss (pss_cons (xs (ps_set (i := 2) sc_room_in.nd rfl (Or.inr rfl) (xe (pe_callTy (cr_dictP rfl) (by rfl) T.b_dict (by rfl) (xa (pa_cons (xe (pv 1) (sm_var 1)) (xa pa_nil sma_nil)) (sma_cons sm_s sma_s))) (sm_cb F_dict sma_s))) (sms_asg sm_s (smg_name 2)))
    (xss (pss_cons (xs (ps_if (xt ((pw_or (xt (pt_cmpR (op_eqP (huN hr (by decide))) (xe (pe_callB call_len (by rfl) T.b_len (by rfl) (xa (pa_cons (xe (pv 0) (sm_var 0)) (xa pa_nil sma_nil)) (sma_cons sm_s sma_s))) (sm_cb F_len sma_s)) (xe pe_int sm_int) (nomark _)) (smt_test (sm_op F_eq sm_s sm_s))) (pw_or1 (xt (pt_not (xt (pt_val (xe (pe_callB (cr_all rfl) (by rfl) T.b_all (by rfl) (xa (pa_cons (xe (pe_lc (own := [("name", 3), ("moment", 4)]) (g := (gTup K 2 (gCons (gName 3) (gCons (gName 4) gNil)))) (tt := tT ⟨K, mg⟩ W0 fYes) (te := tE ⟨K, mg⟩ W0 (fOp (oIn false) (fVar 3) (fVar 2))) rfl sc_room_in.nd (xi (pi_seq (xe (pv 0) (sm_var 0))) (smi_seq sm_s)) (blkOk_by (by kernel_rfl)) (fun _ _ _ _ _ => (pg_tup rfl (pgs_cons (pg_name (i := 3) sc_room_in.nd rfl (Or.inl rfl)) (pgs_cons (pg_name (i := 4) sc_room_in.nd rfl (Or.inl rfl)) pgs_nil)))) (fun _ _ _ _ _ => (xts pts_nil smt_yes)) (fun _ _ _ _ _ => (xe (pe_cmpR (op_inP (huN hr (by decide))) (xe (pv 3) (sm_var 3)) (xe (pv 2) (sm_var 2)) (by rfl)) (sm_op F_in sm_s sm_s)))) (sm_lc (w := false) smi_s (smg_tup (smgs_cons (smg_name 3) (smgs_cons (smg_name 4) smgs_nil))) smt_s sm_s (by decide))) (xa pa_nil sma_nil)) (sma_cons sm_s sma_s))) (sm_cb F_all sma_s))) (smt_test sm_s))) (smt_not smt_s))))).pt (smt_or smt_s smt_s))
    (xss (pss_one (xs (ps_ret (xe pe_non sm_non)) (sms_ret sm_s))) sms_s)
    (xss pss_nil sms_next)) (sms_if smt_s sms_s sms_s))
    (xss (pss_one (xs (ps_ret (xe (pe_callB (cr_min rfl) (by rfl) T.b_min (by rfl) (xa (pa_cons (xe (pe_lc (own := [("name", 3), ("moment", 4)]) (g := (gTup K 2 (gCons (gName 3) (gCons (gName 4) gNil)))) (tt := tT ⟨K, mg⟩ W0 fYes) (te := tE ⟨K, mg⟩ W0 (fOp oSub (fOp oIx (fVar 2) (fVar 3)) (fVar 4))) rfl sc_room_in.nd (xi (pi_seq (xe (pv 0) (sm_var 0))) (smi_seq sm_s)) (blkOk_by (by kernel_rfl)) (fun _ _ _ _ _ => (pg_tup rfl (pgs_cons (pg_name (i := 3) sc_room_in.nd rfl (Or.inl rfl)) (pgs_cons (pg_name (i := 4) sc_room_in.nd rfl (Or.inl rfl)) pgs_nil)))) (fun _ _ _ _ _ => (xts pts_nil smt_yes)) (fun _ _ _ _ _ => (xe (pe_op op_subP (xe (pe_ix (ix_anyP (huN hr (by decide))) (xe (pv 2) (sm_var 2)) (xe (pv 3) (sm_var 3)) (fun _ _ => rfl)) (sm_op F_ix sm_s sm_s)) (xe (pv 4) (sm_var 4))) (sm_op F_sub sm_s sm_s)))) (sm_lc (w := false) smi_s (smg_tup (smgs_cons (smg_name 3) (smgs_cons (smg_name 4) smgs_nil))) smt_s sm_s (by decide))) (xa pa_nil sma_nil)) (sma_cons sm_s sma_s))) (sm_cb F_minL sma_s))) (sms_ret sm_s))) sms_s)) (sms_seq sms_s sms_s))) (sms_seq sms_s sms_s)),
    body_ok sms_s h⟩
theorem sc_room : FnScope ["one", "other"] ["one", "other"] (defScope s_room) := ⟨rfl, rfl, rfl, by decide +kernel, rfl, by decide +kernel, by decide +kernel⟩
theorem ok_room {f : Addr} {fd : FuncData} (D : DefAt K mg "room" s_room ["one", "other"] f fd) (T : Txt K mg) {f_need_two : Addr} {fd_need_two : FuncData} (D_need_two : DefAt K mg "need_two" s_need_two ["one", "other"] f_need_two fd_need_two) (G_need_two : FnG P w K mg base 5 f_need_two fd_need_two ["one", "other"] (spF ⟨K, mg⟩ F_need_two)) {f_room_in : Addr} {fd_room_in : FuncData} (D_room_in : DefAt K mg "room_in" s_room_in ["one", "other"] f_room_in fd_room_in) (G_room_in : FnG P w K mg base 1 f_room_in fd_room_in ["one", "other"] (spF ⟨K, mg⟩ F_room_in)) :
    FnG P w K mg base 6 f fd ["one", "other"] (spF ⟨K, mg⟩ F_room) := by
  refine Fun.okG D.F sc_room spF_len (fun cdv A fr s H vs Q E hgd hr h => ?_)
  have tk := takes_of (X := cxOf (L2.CX P w) P w K mg base ["one", "other"] "room" (defScope s_room) f cdv A fr s H E) (E := E) rfl rfl rfl rfl
  exact ⟨tSf ⟨K, mg⟩ (WB E) b_room, (xss (pss_cons (xs (ps_expr (xe (pe_callG G_need_two hgd (hr.mono (by decide)) (by rfl) D_need_two.g D_need_two.F.kp D_need_two.b (fun σ => passAt (W := WB E) tk σ) (xa (pa_cons (xe (pv 0) (sm_var 0)) (xa (pa_cons (xe (pv 1) (sm_var 1)) (xa pa_nil sma_nil)) (sma_cons sm_s sma_s))) (sma_cons sm_s sma_s))) (sm_call sma_s))) (sms_drop sm_s))
    (xss (pss_one (xs (ps_ret (xe (pe_callG G_room_in hgd (hr.mono (by decide)) (by rfl) D_room_in.g D_room_in.F.kp D_room_in.b (fun σ => passAt (W := WB E) tk σ) (xa (pa_cons (xe (pv 0) (sm_var 0)) (xa (pa_cons (xe (pv 1) (sm_var 1)) (xa pa_nil sma_nil)) (sma_cons sm_s sma_s))) (sma_cons sm_s sma_s))) (sm_call sma_s))) (sms_ret sm_s))) sms_s)) (sms_seq sms_s sms_s)),
    body_ok sms_s h⟩
theorem sc_normal_of : FnScope ["plan", "name", "moment"] ["plan"] (defScope s_normal_of) := ⟨rfl, rfl, rfl, by decide +kernel, rfl, by decide +kernel, by decide +kernel⟩
theorem ok_normal_of {f : Addr} {fd : FuncData} (D : DefAt K mg "normal_of" s_normal_of ["plan"] f fd) (T : Txt K mg) {f_put_by : Addr} {fd_put_by : FuncData} (D_put_by : DefAt K mg "put_by" s_put_by ["plan", "number"] f_put_by fd_put_by) (G_put_by : FnG P w K mg base 1 f_put_by fd_put_by ["plan", "number"] (spF ⟨K, mg⟩ F_put_by)) :
    FnG P w K mg base 2 f fd ["plan"] (spF ⟨K, mg⟩ F_normal_of) := by
  refine Fun.okG D.F sc_normal_of spF_len (fun cdv A fr s H vs Q E hgd hr h => ?_)
  have tk := takes_of (X := cxOf (L2.CX P w) P w K mg base ["plan", "name", "moment"] "normal_of" (defScope s_normal_of) f cdv A fr s H E) (E := E) rfl rfl rfl rfl
  exact ⟨tSf ⟨K, mg⟩ (WB E) b_normal_of, (xss (pss_one (xs (ps_ret (xe (pe_callG G_put_by hgd (hr.mono (by decide)) (by rfl) D_put_by.g D_put_by.F.kp D_put_by.b (fun σ => passAt (W := WB E) tk σ) (xa (pa_cons (xe (pv 0) (sm_var 0)) (xa (pa_cons (xe (pe_un un_negP (xe (pe_callBK (cr_maxD rfl) (by rfl) T.b_max (by rfl) (pa_cons (xe (pe_lc (own := [("name", 1), ("moment", 2)]) (g := (gTup K 2 (gCons (gName 1) (gCons (gName 2) gNil)))) (tt := tT ⟨K, mg⟩ W0 fYes) (te := tE ⟨K, mg⟩ W0 (fVar 2)) rfl sc_normal_of.nd (xi (pi_seq (xe (pv 0) (sm_var 0))) (smi_seq sm_s)) (blkOk_by (by kernel_rfl)) (fun _ _ _ _ _ => (pg_tup rfl (pgs_cons (pg_name (i := 1) sc_normal_of.nd rfl (Or.inl rfl)) (pgs_cons (pg_name (i := 2) sc_normal_of.nd rfl (Or.inl rfl)) pgs_nil)))) (fun _ _ _ _ _ => (xts pts_nil smt_yes)) (fun _ _ _ _ _ => (xe (pv 2) (sm_var 2)))) (sm_lc (w := false) smi_s (smg_tup (smgs_cons (smg_name 1) (smgs_cons (smg_name 2) smgs_nil))) smt_s sm_s (by decide))) pa_nil) (pk_cons (xe pe_int sm_int) pk_nil)) (sm_maxD sm_s sm_s))) (sm_un F_neg sm_s)) (xa pa_nil sma_nil)) (sma_cons sm_s sma_s))) (sma_cons sm_s sma_s))) (sm_call sma_s))) (sms_ret sm_s))) sms_s),
    body_ok sms_s h⟩
theorem sc_normal : FnScope ["plan"] ["plan"] (defScope s_normal) := ⟨rfl, rfl, rfl, by decide +kernel, rfl, by decide +kernel, by decide +kernel⟩
theorem ok_normal {f : Addr} {fd : FuncData} (D : DefAt K mg "normal" s_normal ["plan"] f fd) (T : Txt K mg) {f_need_plan : Addr} {fd_need_plan : FuncData} (D_need_plan : DefAt K mg "need_plan" s_need_plan ["plan"] f_need_plan fd_need_plan) (G_need_plan : FnG P w K mg base 4 f_need_plan fd_need_plan ["plan"] (spF ⟨K, mg⟩ F_need_plan)) {f_normal_of : Addr} {fd_normal_of : FuncData} (D_normal_of : DefAt K mg "normal_of" s_normal_of ["plan"] f_normal_of fd_normal_of) (G_normal_of : FnG P w K mg base 2 f_normal_of fd_normal_of ["plan"] (spF ⟨K, mg⟩ F_normal_of)) :
    FnG P w K mg base 5 f fd ["plan"] (spF ⟨K, mg⟩ F_normal) := by
  refine Fun.okG D.F sc_normal spF_len (fun cdv A fr s H vs Q E hgd hr h => ?_)
  have tk := takes_of (X := cxOf (L2.CX P w) P w K mg base ["plan"] "normal" (defScope s_normal) f cdv A fr s H E) (E := E) rfl rfl rfl rfl
  exact ⟨tSf ⟨K, mg⟩ (WB E) b_normal, (xss (pss_cons (xs (ps_expr (xe (pe_callG G_need_plan hgd (hr.mono (by decide)) (by rfl) D_need_plan.g D_need_plan.F.kp D_need_plan.b (fun σ => passAt (W := WB E) tk σ) (xa (pa_cons (xe (pv 0) (sm_var 0)) (xa pa_nil sma_nil)) (sma_cons sm_s sma_s))) (sm_call sma_s))) (sms_drop sm_s))
    (xss (pss_one (xs (ps_ret (xe (pe_callG G_normal_of hgd (hr.mono (by decide)) (by rfl) D_normal_of.g D_normal_of.F.kp D_normal_of.b (fun σ => passAt (W := WB E) tk σ) (xa (pa_cons (xe (pv 0) (sm_var 0)) (xa pa_nil sma_nil)) (sma_cons sm_s sma_s))) (sm_call sma_s))) (sms_ret sm_s))) sms_s)) (sms_seq sms_s sms_s)),
    body_ok sms_s h⟩
theorem sc__law_draw : FnScope ["_law_state", "_law_size", "_law_turn", "_law_cell", "_law_mixed", "_law_found"] ["_law_state", "_law_size"] (defScope s__law_draw) := ⟨rfl, rfl, rfl, by decide +kernel, rfl, by decide +kernel, by decide +kernel⟩
theorem ok__law_draw {f : Addr} {fd : FuncData} (D : DefAt K mg "_law_draw" s__law_draw ["_law_state", "_law_size"] f fd) (T : Txt K mg) :
    FnG P w K mg base 1 f fd ["_law_state", "_law_size"] (spF ⟨K, mg⟩ F__law_draw) := by
  refine Fun.okG D.F sc__law_draw spF_len (fun cdv A fr s H vs Q E hgd hr h => ?_)
  have tk := takes_of (X := cxOf (L2.CX P w) P w K mg base ["_law_state", "_law_size", "_law_turn", "_law_cell", "_law_mixed", "_law_found"] "_law_draw" (defScope s__law_draw) f cdv A fr s H E) (E := E) rfl rfl rfl rfl
  exact ⟨tSf ⟨K, mg⟩ (WB E) b__law_draw, (xss (pss_cons (xs (ps_while (passes_of rfl) (xt ((pw_and (xt (pt_cmpR (op_eqP (huN hr (by decide))) (xe (pe_dget (huN hr (by decide)) (pv 0) pe_str (fun _ _ => rfl)) (sm_stRest 0)) (xe pe_int sm_int) (nomark _)) (smt_test (sm_op F_eq sm_s sm_s))) (pw_and1 (xt (pt_cmpR (op_neP (huN hr (by decide))) (pe_dget (huN hr (by decide)) (pv 0) pe_str (fun _ _ => rfl)) (pe_lst pa_nil) (nomark _)) (smt_stLargeNe 0))))).pt (smt_and smt_s smt_s))
    (xss (pss_one (xs (ps_dput (huN hr (by decide)) (pv 0) pe_str (pe_bm PySem.F.plainAttrs_list PySem.F.slot_list_pop PySem.F.type_list_pop mt_popAt (pe_dget (huN hr (by decide)) (pv 0) pe_str (fun _ _ => rfl)) (pa_cons pe_int pa_nil)) rfl) (sms_stPop 0))) sms_s)) (sms_while smt_s sms_s))
    (xss (pss_cons (xs (ps_if (xt (pt_cmpR op_gtP (xe (pe_dget (huN hr (by decide)) (pv 0) pe_str (fun _ _ => rfl)) (sm_stRest 0)) (xe pe_int sm_int) (nomark _)) (smt_test (sm_op F_gt sm_s sm_s)))
    (xss (pss_cons (xs (ps_set (i := 5) sc__law_draw.nd rfl (Or.inl rfl) (xe (pe_op op_modP (xe (pe_callTy call_int1 (by rfl) T.b_int (by rfl) (xa (pa_cons (xe (pe_dget (huN hr (by decide)) (pv 0) pe_str (fun _ _ => rfl)) (sm_stRest 0)) (xa pa_nil sma_nil)) (sma_cons sm_s sma_s))) (sm_cb F_int sma_s)) (xe (pv 1) (sm_var 1))) (sm_op F_mod sm_s sm_s))) (sms_asg sm_s (smg_name 5)))
    (xss (pss_cons (xs (ps_dput (huN hr (by decide)) (pv 0) pe_str (xe (pe_op op_divP (xe (pe_dget (huN hr (by decide)) (pv 0) pe_str (fun _ _ => rfl)) (sm_stRest 0)) (xe (pv 1) (sm_var 1))) (sm_op F_div sm_s sm_s)) rfl) (sms_stPutRest 0 sm_s))
    (xss (pss_one (xs (ps_ret (pv 5)) (sms_retV 5))) sms_s)) (sms_seq sms_s sms_s))) (sms_seq sms_s sms_s))
    (xss pss_nil sms_next)) (sms_if smt_s sms_s sms_s))
    (xss (pss_cons (xs (ps_set (i := 2) sc__law_draw.nd rfl (Or.inl rfl) (xe (pe_op op_addP (xe (pe_dget (huN hr (by decide)) (pv 0) pe_str (fun _ _ => rfl)) (sm_stTurn 0)) (xe pe_int sm_int)) (sm_op F_add sm_s sm_s))) (sms_asg sm_s (smg_name 2)))
    (xss (pss_cons (xs (ps_dput (huN hr (by decide)) (pv 0) pe_str (xe (pv 2) (sm_var 2)) rfl) (sms_stPutTurn 0 sm_s))
    (xss (pss_cons (xs (ps_set (i := 3) sc__law_draw.nd rfl (Or.inl rfl) (xe (pe_ifExp (xt (pt_cmpR (op_neP (huN hr (by decide))) (pe_dget (huN hr (by decide)) (pv 0) pe_str (fun _ _ => rfl)) (pe_lst pa_nil) (nomark _)) (smt_stCellsNe 0)) (xe (pe_ix (ix_anyP (huN hr (by decide))) (pe_dget (huN hr (by decide)) (pv 0) pe_str (fun _ _ => rfl)) (xe (pe_op op_modP (xe (pe_callTy call_int1 (by rfl) T.b_int (by rfl) (xa (pa_cons (xe (pv 2) (sm_var 2)) (xa pa_nil sma_nil)) (sma_cons sm_s sma_s))) (sm_cb F_int sma_s)) (xe (pe_callB call_len (by rfl) T.b_len (by rfl) (pa_cons (pe_dget (huN hr (by decide)) (pv 0) pe_str (fun _ _ => rfl)) pa_nil)) (sm_stCellsLen 0))) (sm_op F_mod sm_s sm_s)) (fun _ _ => rfl)) (sm_stCell 0 sm_s)) (xe pe_int sm_int)) (sm_if smt_s sm_s sm_s))) (sms_asg sm_s (smg_name 3)))
    (xss (pss_cons (xs (ps_set (i := 4) sc__law_draw.nd rfl (Or.inl rfl) (xe (pe_op op_modP (xe (pe_callTy call_int1 (by rfl) T.b_int (by rfl) (xa (pa_cons (xe (pe_op op_powP (xe (pe_op op_addP (xe (pe_op op_addP (xe (pe_op op_modP (xe (pe_callTy call_int1 (by rfl) T.b_int (by rfl) (xa (pa_cons (xe (pv 3) (sm_var 3)) (xa pa_nil sma_nil)) (sma_cons sm_s sma_s))) (sm_cb F_int sma_s)) (xe pe_int sm_int)) (sm_op F_mod sm_s sm_s)) (xe (pe_op op_mulP (xe pe_int sm_int) (xe (pv 2) (sm_var 2))) (sm_op F_mul sm_s sm_s))) (sm_op F_add sm_s sm_s)) (xe pe_int sm_int)) (sm_op F_add sm_s sm_s)) (xe pe_int sm_int)) (sm_op F_pow sm_s sm_s)) (xa pa_nil sma_nil)) (sma_cons sm_s sma_s))) (sm_cb F_int sma_s)) (xe pe_int sm_int)) (sm_op F_mod sm_s sm_s))) (sms_asg sm_s (smg_name 4)))
    (xss (pss_one (xs (ps_ret (xe (pe_op op_modP (xe (pe_callTy call_int1 (by rfl) T.b_int (by rfl) (xa (pa_cons (xe (pe_op op_divP (xe (pe_op op_modP (xe (pe_callTy call_int1 (by rfl) T.b_int (by rfl) (xa (pa_cons (xe (pe_op op_powP (xe (pe_op op_addP (xe (pv 4) (sm_var 4)) (xe (pe_op op_mulP (xe pe_int sm_int) (xe (pv 2) (sm_var 2))) (sm_op F_mul sm_s sm_s))) (sm_op F_add sm_s sm_s)) (xe pe_int sm_int)) (sm_op F_pow sm_s sm_s)) (xa pa_nil sma_nil)) (sma_cons sm_s sma_s))) (sm_cb F_int sma_s)) (xe pe_int sm_int)) (sm_op F_mod sm_s sm_s)) (xe pe_int sm_int)) (sm_op F_div sm_s sm_s)) (xa pa_nil sma_nil)) (sma_cons sm_s sma_s))) (sm_cb F_int sma_s)) (xe (pv 1) (sm_var 1))) (sm_op F_mod sm_s sm_s))) (sms_ret sm_s))) sms_s)) (sms_seq sms_s sms_s))) (sms_seq sms_s sms_s))) (sms_seq sms_s sms_s))) (sms_seq sms_s sms_s))) (sms_seq sms_s sms_s))) (sms_seq sms_s sms_s)),
    body_ok sms_s h⟩
theorem sc__law_pick : FnScope ["_law_state", "_law_several"] ["_law_state", "_law_several"] (defScope s__law_pick) := ⟨rfl, rfl, rfl, by decide +kernel, rfl, by decide +kernel, by decide +kernel⟩
theorem ok__law_pick {f : Addr} {fd : FuncData} (D : DefAt K mg "_law_pick" s__law_pick ["_law_state", "_law_several"] f fd) (T : Txt K mg) {f__law_draw : Addr} {fd__law_draw : FuncData} (D__law_draw : DefAt K mg "_law_draw" s__law_draw ["_law_state", "_law_size"] f__law_draw fd__law_draw) (G__law_draw : FnG P w K mg base 1 f__law_draw fd__law_draw ["_law_state", "_law_size"] (spF ⟨K, mg⟩ F__law_draw)) :
    FnG P w K mg base 2 f fd ["_law_state", "_law_several"] (spF ⟨K, mg⟩ F__law_pick) := by
  refine Fun.okG D.F sc__law_pick spF_len (fun cdv A fr s H vs Q E hgd hr h => ?_)
  have tk := takes_of (X := cxOf (L2.CX P w) P w K mg base ["_law_state", "_law_several"] "_law_pick" (defScope s__law_pick) f cdv A fr s H E) (E := E) rfl rfl rfl rfl
  exact ⟨tSf ⟨K, mg⟩ (WB E) b__law_pick, (xss (pss_one (xs (ps_ret (xe (pe_ix (ix_anyP (huN hr (by decide))) (xe (pv 1) (sm_var 1)) (xe (pe_callG G__law_draw hgd (hr.mono (by decide)) (by rfl) D__law_draw.g D__law_draw.F.kp D__law_draw.b (fun σ => passAt (W := WB E) tk σ) (xa (pa_cons (xe (pv 0) (sm_var 0)) (xa (pa_cons (xe (pe_callB call_len (by rfl) T.b_len (by rfl) (xa (pa_cons (xe (pv 1) (sm_var 1)) (xa pa_nil sma_nil)) (sma_cons sm_s sma_s))) (sm_cb F_len sma_s)) (xa pa_nil sma_nil)) (sma_cons sm_s sma_s))) (sma_cons sm_s sma_s))) (sm_call sma_s)) (fun _ _ => rfl)) (sm_op F_ix sm_s sm_s))) (sms_ret sm_s))) sms_s),
    body_ok sms_s h⟩
theorem sc__law_words : FnScope ["_law_state", "_law_many", "_law_letters", "_law_found", "_law_drawn", "_law_word", "_law_spare", "_law_sign", "_law_letter", "_law_each"] ["_law_state", "_law_many"] (defScope s__law_words) := ⟨rfl, rfl, rfl, by decide +kernel, rfl, by decide +kernel, by decide +kernel⟩
theorem ok__law_words {f : Addr} {fd : FuncData} (D : DefAt K mg "_law_words" s__law_words ["_law_state", "_law_many"] f fd) (T : Txt K mg) {f__law_draw : Addr} {fd__law_draw : FuncData} (D__law_draw : DefAt K mg "_law_draw" s__law_draw ["_law_state", "_law_size"] f__law_draw fd__law_draw) (G__law_draw : FnG P w K mg base 1 f__law_draw fd__law_draw ["_law_state", "_law_size"] (spF ⟨K, mg⟩ F__law_draw)) {f__law_pick : Addr} {fd__law_pick : FuncData} (D__law_pick : DefAt K mg "_law_pick" s__law_pick ["_law_state", "_law_several"] f__law_pick fd__law_pick) (G__law_pick : FnG P w K mg base 2 f__law_pick fd__law_pick ["_law_state", "_law_several"] (spF ⟨K, mg⟩ F__law_pick)) :
    FnG P w K mg base 3 f fd ["_law_state", "_law_many"] (spF ⟨K, mg⟩ F__law_words) := by
  refine Fun.okG D.F sc__law_words spF_len (fun cdv A fr s H vs Q E hgd hr h => ?_)
  have tk := takes_of (X := cxOf (L2.CX P w) P w K mg base ["_law_state", "_law_many", "_law_letters", "_law_found", "_law_drawn", "_law_word", "_law_spare", "_law_sign", "_law_letter", "_law_each"] "_law_words" (defScope s__law_words) f cdv A fr s H E) (E := E) rfl rfl rfl rfl
  exact ⟨tSf ⟨K, mg⟩ (WB E) b__law_words, (xss (pss_cons (xs (ps_asg (pe_tup (pa_cons (xe pe_str sm_str) (pa_cons (xe (pe_lst (xa pa_nil sma_nil)) (sm_lst sma_s)) pa_nil))) (pg_tup rfl (pgs_cons (pg_name (i := 2) sc__law_words.nd rfl (Or.inr rfl)) (pgs_cons (pg_name (i := 3) sc__law_words.nd rfl (Or.inr rfl)) pgs_nil)))) (sms_parT 2 3 sm_s sm_s))
    (xss (xss (pss_cons (xs (ps_while (passes_of rfl) (xt (pt_cmpR op_ltP (xe (xe (pe_callB call_len (by rfl) T.b_len (by rfl) (xa (pa_cons (xe (pv 3) (sm_var 3)) (xa pa_nil sma_nil)) (sma_cons sm_s sma_s))) (sm_cb F_len sma_s)) (sm_bor 3 sm_s)) (xe (pv 1) (sm_var 1)) (nomark _)) (smt_test (sm_op F_lt sm_s sm_s)))
    (xss (pss_cons (xs (ps_set (i := 4) sc__law_words.nd rfl (Or.inl rfl) (xe (pe_bm PySem.F.plainAttrs_str PySem.F.slot_str_join PySem.F.type_str_join mt_joinF (xe pe_str sm_str) (xa (pa_cons (xe (pe_lc (own := [("_law_sign", 7)]) (g := (gName 7)) (tt := tT ⟨K, mg⟩ W0 fYes) (te := tE ⟨K, mg⟩ W0 (fCall F__law_pick (aCons (fVar 0) (aCons (fVar 2) aNil)))) rfl sc__law_words.nd (xi (pi_range1 (by rfl) T.b_range (xa (pa_cons (xe (pe_op op_addP (xe pe_int sm_int) (xe (pe_callG G__law_draw hgd (hr.mono (by decide)) (by rfl) D__law_draw.g D__law_draw.F.kp D__law_draw.b (fun σ => passAt (W := WB E) tk σ) (xa (pa_cons (xe (pv 0) (sm_var 0)) (xa (pa_cons (xe pe_int sm_int) (xa pa_nil sma_nil)) (sma_cons sm_s sma_s))) (sma_cons sm_s sma_s))) (sm_call sma_s))) (sm_op F_add sm_s sm_s)) (xa pa_nil sma_nil)) (sma_cons sm_s sma_s))) (smi_rng1 sma_s)) (blkOk_by (by kernel_rfl)) (fun _ _ _ _ _ => (pg_name (i := 7) sc__law_words.nd rfl (Or.inl rfl))) (fun _ _ _ _ _ => (xts pts_nil smt_yes)) (fun _ _ _ _ _ => (xe (pe_callG G__law_pick hgd (hr.mono (by decide)) (by rfl) D__law_pick.g D__law_pick.F.kp D__law_pick.b (fun σ => passAt (W := W0) takes0 σ) (xa (pa_cons (xe (pv 0) (sm_var 0)) (xa (pa_cons (xe (pv 2) (sm_var 2)) (xa pa_nil sma_nil)) (sma_cons sm_s sma_s))) (sma_cons sm_s sma_s))) (sm_call sma_s)))) (sm_lc (w := false) smi_s (smg_name 7) smt_s sm_s (by decide))) (xa pa_nil sma_nil)) (sma_cons sm_s sma_s))) (sm_m (.inl rfl) sm_s sma_s))) (sms_asg sm_s (smg_name 4)))
    (xss (pss_cons (xs (ps_set (i := 5) sc__law_words.nd rfl (Or.inr rfl) (xe (pe_callG G__law_pick hgd (hr.mono (by decide)) (by rfl) D__law_pick.g D__law_pick.F.kp D__law_pick.b (fun σ => passAt (W := WB E) tk σ) (xa (pa_cons (xe (pv 0) (sm_var 0)) (xa (pa_cons (xe (pe_lst (xa (pa_cons (xe pe_str sm_str) (xa (pa_cons (xe pe_str sm_str) (xa (pa_cons (xe pe_str sm_str) (xa (pa_cons (xe pe_str sm_str) (xa (pa_cons (xe pe_str sm_str) (xa (pa_cons (xe pe_str sm_str) (xa (pa_cons (xe pe_str sm_str) (xa (pa_cons (xe (pv 4) (sm_var 4)) (xa (pa_cons (xe (pv 4) (sm_var 4)) (xa pa_nil sma_nil)) (sma_cons sm_s sma_s))) (sma_cons sm_s sma_s))) (sma_cons sm_s sma_s))) (sma_cons sm_s sma_s))) (sma_cons sm_s sma_s))) (sma_cons sm_s sma_s))) (sma_cons sm_s sma_s))) (sma_cons sm_s sma_s))) (sma_cons sm_s sma_s))) (sm_lst sma_s)) (xa pa_nil sma_nil)) (sma_cons sm_s sma_s))) (sma_cons sm_s sma_s))) (sm_call sma_s))) (sms_asg sm_s (smg_name 5)))
    (xss (pss_cons (xs (ps_set (i := 6) sc__law_words.nd rfl (Or.inl rfl) (xe (pe_op op_addP (xe (pe_lst (xa (pa_cons (xe (pv 5) (sm_var 5)) (xa pa_nil sma_nil)) (sma_cons sm_s sma_s))) (sm_lst sma_s)) (xe (pe_lc (own := [("_law_letter", 8)]) (g := (gName 8)) (tt := tT ⟨K, mg⟩ W0 fYes) (te := tE ⟨K, mg⟩ W0 (fOp oAdd (fSl (fVar 5) oN (oS (fC (.int 5)))) (fVar 8))) rfl sc__law_words.nd (xi (pi_seq (xe (pv 2) (sm_var 2))) (smi_seq sm_s)) (blkOk_by (by kernel_rfl)) (fun _ _ _ _ _ => (pg_name (i := 8) sc__law_words.nd rfl (Or.inl rfl))) (fun _ _ _ _ _ => (xts pts_nil smt_yes)) (fun _ _ _ _ _ => (xe (pe_op op_addP (xe (pe_slice sl_anyP (xe (pv 5) (sm_var 5)) (xo po_none smo_none) (xo (po_some (xe pe_int sm_int)) (smo_some sm_s))) (sm_sl sm_s smo_s smo_s)) (xe (pv 8) (sm_var 8))) (sm_op F_add sm_s sm_s)))) (sm_lc (w := false) smi_s (smg_name 8) smt_s sm_s (by decide)))) (sm_op F_add sm_s sm_s))) (sms_asg sm_s (smg_name 6)))
    (xss (pss_one (xs (ps_expr (pe_bm PySem.F.plainAttrs_list PySem.F.slot_list_append PySem.F.type_list_append mt_append (pv 3) (pa_cons (xe (pe_ix (ix_anyP (huN hr (by decide))) (xe (pe_lc (own := [("_law_each", 9)]) (g := (gName 9)) (tt := tT ⟨K, mg⟩ W0 (fBorT 3 (fTest (fOp (oIn true) (fVar 9) (fVar 3))))) (te := tE ⟨K, mg⟩ W0 (fVar 9)) rfl sc__law_words.nd (xi (pi_seq (xe (pv 6) (sm_var 6))) (smi_seq sm_s)) (blkOk_by (by kernel_rfl)) (fun _ _ _ _ _ => (pg_name (i := 9) sc__law_words.nd rfl (Or.inl rfl))) (fun _ _ _ _ _ => (xts (pts_one (xt (xt (pt_cmpR (op_notInP (huN hr (by decide))) (xe (pv 9) (sm_var 9)) (xe (pv 3) (sm_var 3)) (by rfl)) (smt_test (sm_op F_notIn sm_s sm_s))) (smt_bor 3 smt_s))) smt_s)) (fun _ _ _ _ _ => (xe (pv 9) (sm_var 9)))) (sm_lc (w := false) smi_s (smg_name 9) smt_s sm_s (by decide))) (xe pe_int sm_int) (fun _ _ => rfl)) (sm_op F_ix sm_s sm_s)) pa_nil))) (sms_app 3 sm_s))) sms_s)) (sms_seq sms_s sms_s))) (sms_seq sms_s sms_s))) (sms_seq sms_s sms_s))) (sms_while smt_s sms_s))
    (xss (xss (pss_one (xs (ps_ret (xe (pe_callB (cr_sortedP (huN hr (by decide))) (by rfl) T.b_sorted (by rfl) (xa (pa_cons (xe (pv 3) (sm_var 3)) (xa pa_nil sma_nil)) (sma_cons sm_s sma_s))) (sm_cb F_sorted sma_s))) (sms_ret sm_s))) sms_s) (sms_fz 3 sms_s))) (sms_seq sms_s sms_s)) (sms_fz 2 sms_s))) (sms_seq sms_s sms_s)),
    body_ok sms_s h⟩
theorem sc__law_row : FnScope ["_law_state", "_law_words_here", "_law_wide", "_law_word", "_law_found", "_law_far"] ["_law_state", "_law_words_here", "_law_wide"] (defScope s__law_row) := ⟨rfl, rfl, rfl, by decide +kernel, rfl, by decide +kernel, by decide +kernel⟩
theorem ok__law_row {f : Addr} {fd : FuncData} (D : DefAt K mg "_law_row" s__law_row ["_law_state", "_law_words_here", "_law_wide"] f fd) (T : Txt K mg) {f__law_pick : Addr} {fd__law_pick : FuncData} (D__law_pick : DefAt K mg "_law_pick" s__law_pick ["_law_state", "_law_several"] f__law_pick fd__law_pick) (G__law_pick : FnG P w K mg base 2 f__law_pick fd__law_pick ["_law_state", "_law_several"] (spF ⟨K, mg⟩ F__law_pick)) {f__law_draw : Addr} {fd__law_draw : FuncData} (D__law_draw : DefAt K mg "_law_draw" s__law_draw ["_law_state", "_law_size"] f__law_draw fd__law_draw) (G__law_draw : FnG P w K mg base 1 f__law_draw fd__law_draw ["_law_state", "_law_size"] (spF ⟨K, mg⟩ F__law_draw)) :
    FnG P w K mg base 3 f fd ["_law_state", "_law_words_here", "_law_wide"] (spF ⟨K, mg⟩ F__law_row) := by
  refine Fun.okG D.F sc__law_row spF_len (fun cdv A fr s H vs Q E hgd hr h => ?_)
  have tk := takes_of (X := cxOf (L2.CX P w) P w K mg base ["_law_state", "_law_words_here", "_law_wide", "_law_word", "_law_found", "_law_far"] "_law_row" (defScope s__law_row) f cdv A fr s H E) (E := E) rfl rfl rfl rfl
  exact ⟨tSf ⟨K, mg⟩ (WB E) b__law_row, (xss (pss_cons (xs (ps_par (i := 4) (j := 5) rfl sc__law_row.nd rfl rfl (by decide) rfl rfl (pa_cons (xe (pe_lst (xa pa_nil sma_nil)) (sm_lst sma_s)) (pa_cons (xe (pe_callG G__law_pick hgd (hr.mono (by decide)) (by rfl) D__law_pick.g D__law_pick.F.kp D__law_pick.b (fun σ => passAt (W := WB E) tk σ) (xa (pa_cons (xe (pv 0) (sm_var 0)) (xa (pa_cons (xe (pe_lst (xa (pa_cons (xe pe_int sm_int) (xa (pa_cons (xe pe_int sm_int) (xa (pa_cons (xe pe_int sm_int) (xa (pa_cons (xe pe_int sm_int) (xa (pa_cons (xe pe_int sm_int) (xa (pa_cons (xe (pe_op op_powP (xe pe_int sm_int) (xe pe_int sm_int)) (sm_op F_pow sm_s sm_s)) (xa pa_nil sma_nil)) (sma_cons sm_s sma_s))) (sma_cons sm_s sma_s))) (sma_cons sm_s sma_s))) (sma_cons sm_s sma_s))) (sma_cons sm_s sma_s))) (sma_cons sm_s sma_s))) (sm_lst sma_s)) (xa pa_nil sma_nil)) (sma_cons sm_s sma_s))) (sma_cons sm_s sma_s))) (sm_call sma_s)) pa_nil)) rfl) (sms_par 4 5 sm_s sm_s))
    (xss (xss (pss_cons (xs (ps_for (passes_of rfl) rfl (xi (pi_seq (xe (pv 1) (sm_var 1))) (smi_seq sm_s)) (pg_name (i := 3) sc__law_row.nd rfl (Or.inl rfl))
    (xss (pss_one (xs (ps_if (xt (pt_cmpR op_gtP (xe (pe_callG G__law_draw hgd (hr.mono (by decide)) (by rfl) D__law_draw.g D__law_draw.F.kp D__law_draw.b (fun σ => passAt (W := WB E) tk σ) (xa (pa_cons (xe (pv 0) (sm_var 0)) (xa (pa_cons (xe pe_int sm_int) (xa pa_nil sma_nil)) (sma_cons sm_s sma_s))) (sma_cons sm_s sma_s))) (sm_call sma_s)) (xe pe_int sm_int) (nomark _)) (smt_test (sm_op F_gt sm_s sm_s)))
    (xss (pss_one (xs (ps_expr (pe_bm PySem.F.plainAttrs_list PySem.F.slot_list_append PySem.F.type_list_append mt_append (pv 4) (pa_cons (xe (pe_tupF (xa (pa_cons (xe (pv 3) (sm_var 3)) (xa (pa_cons (xe (pe_op op_addP (xe (pe_op op_subP (xe (pe_callG G__law_draw hgd (hr.mono (by decide)) (by rfl) D__law_draw.g D__law_draw.F.kp D__law_draw.b (fun σ => passAt (W := WB E) tk σ) (xa (pa_cons (xe (pv 0) (sm_var 0)) (xa (pa_cons (xe (pe_op op_addP (xe (pe_op op_mulP (xe pe_int sm_int) (xe (pv 2) (sm_var 2))) (sm_op F_mul sm_s sm_s)) (xe pe_int sm_int)) (sm_op F_add sm_s sm_s)) (xa pa_nil sma_nil)) (sma_cons sm_s sma_s))) (sma_cons sm_s sma_s))) (sm_call sma_s)) (xe (pv 2) (sm_var 2))) (sm_op F_sub sm_s sm_s)) (xe (pv 5) (sm_var 5))) (sm_op F_add sm_s sm_s)) (xa pa_nil sma_nil)) (sma_cons sm_s sma_s))) (sma_cons sm_s sma_s))) (sm_tup sma_s)) pa_nil))) (sms_app 4 sm_s))) sms_s)
    (xss pss_nil sms_next)) (sms_if smt_s sms_s sms_s))) sms_s)) (sms_for (w := false) smi_s (smg_name 3) sms_s))
    (xss (xss (pss_one (xs (ps_ret (xe (pe_callTy call_tupleP (by rfl) T.b_tuple (by rfl) (xa (pa_cons (xe (pv 4) (sm_var 4)) (xa pa_nil sma_nil)) (sma_cons sm_s sma_s))) (sm_cb F_tuple sma_s))) (sms_ret sm_s))) sms_s) (sms_fz 4 sms_s))) (sms_seq sms_s sms_s)) (sms_fz 5 sms_s))) (sms_seq sms_s sms_s)),
    body_ok sms_s h⟩
theorem sc__law_put : FnScope ["_law_row_here", "_law_num", "_law_word", "_law_spot"] ["_law_row_here", "_law_num"] (defScope s__law_put) := ⟨rfl, rfl, rfl, by decide +kernel, rfl, by decide +kernel, by decide +kernel⟩
theorem ok__law_put {f : Addr} {fd : FuncData} (D : DefAt K mg "_law_put" s__law_put ["_law_row_here", "_law_num"] f fd) (T : Txt K mg) :
    FnG P w K mg base 1 f fd ["_law_row_here", "_law_num"] (spF ⟨K, mg⟩ F__law_put) := by
  refine Fun.okG D.F sc__law_put spF_len (fun cdv A fr s H vs Q E hgd hr h => ?_)
  have tk := takes_of (X := cxOf (L2.CX P w) P w K mg base ["_law_row_here", "_law_num", "_law_word", "_law_spot"] "_law_put" (defScope s__law_put) f cdv A fr s H E) (E := E) rfl rfl rfl rfl
  exact ⟨tSf ⟨K, mg⟩ (WB E) b__law_put, (xss (pss_one (xs (ps_ret (xe (pe_callTy call_tupleP (by rfl) T.b_tuple (by rfl) (xa (pa_cons (xe (pe_lc (own := [("_law_word", 2), ("_law_spot", 3)]) (g := (gTup K 2 (gCons (gName 2) (gCons (gName 3) gNil)))) (tt := tT ⟨K, mg⟩ W0 fYes) (te := tE ⟨K, mg⟩ W0 (fTup (aCons (fVar 2) (aCons (fOp oAdd (fVar 3) (fVar 1)) aNil)))) rfl sc__law_put.nd (xi (pi_seq (xe (pv 0) (sm_var 0))) (smi_seq sm_s)) (blkOk_by (by kernel_rfl)) (fun _ _ _ _ _ => (pg_tup rfl (pgs_cons (pg_name (i := 2) sc__law_put.nd rfl (Or.inl rfl)) (pgs_cons (pg_name (i := 3) sc__law_put.nd rfl (Or.inl rfl)) pgs_nil)))) (fun _ _ _ _ _ => (xts pts_nil smt_yes)) (fun _ _ _ _ _ => (xe (pe_tupF (xa (pa_cons (xe (pv 2) (sm_var 2)) (xa (pa_cons (xe (pe_op op_addP (xe (pv 3) (sm_var 3)) (xe (pv 1) (sm_var 1))) (sm_op F_add sm_s sm_s)) (xa pa_nil sma_nil)) (sma_cons sm_s sma_s))) (sma_cons sm_s sma_s))) (sm_tup sma_s)))) (sm_lc (w := false) smi_s (smg_tup (smgs_cons (smg_name 2) (smgs_cons (smg_name 3) smgs_nil))) smt_s sm_s (by decide))) (xa pa_nil sma_nil)) (sma_cons sm_s sma_s))) (sm_cb F_tuple sma_s))) (sms_ret sm_s))) sms_s),
    body_ok sms_s h⟩
theorem sc__law_join : FnScope ["_law_rows_here", "_law_found", "_law_row_here", "_law_word", "_law_spot"] ["_law_rows_here"] (defScope s__law_join) := ⟨rfl, rfl, rfl, by decide +kernel, rfl, by decide +kernel, by decide +kernel⟩
theorem ok__law_join {f : Addr} {fd : FuncData} (D : DefAt K mg "_law_join" s__law_join ["_law_rows_here"] f fd) (T : Txt K mg) :
    FnG P w K mg base 1 f fd ["_law_rows_here"] (spF ⟨K, mg⟩ F__law_join) := by
  refine Fun.okG D.F sc__law_join spF_len (fun cdv A fr s H vs Q E hgd hr h => ?_)
  have tk := takes_of (X := cxOf (L2.CX P w) P w K mg base ["_law_rows_here", "_law_found", "_law_row_here", "_law_word", "_law_spot"] "_law_join" (defScope s__law_join) f cdv A fr s H E) (E := E) rfl rfl rfl rfl
  exact ⟨tSf ⟨K, mg⟩ (WB E) b__law_join, (xss (pss_cons (xs (ps_set (i := 1) sc__law_join.nd rfl (Or.inl rfl) (xe pe_dnewK sm_newK)) (sms_set 1 sm_s))
    (xss (pss_cons (xs (ps_for (passes_of rfl) rfl (xi (pi_seq (xe (pv 0) (sm_var 0))) (smi_seq sm_s)) (pg_name (i := 2) sc__law_join.nd rfl (Or.inl rfl))
    (xss (pss_one (xs (ps_for (passes_of rfl) rfl (xi (pi_seq (xe (pv 2) (sm_var 2))) (smi_seq sm_s)) (pg_tup rfl (pgs_cons (pg_name (i := 3) sc__law_join.nd rfl (Or.inl rfl)) (pgs_cons (pg_name (i := 4) sc__law_join.nd rfl (Or.inl rfl)) pgs_nil)))
    (xss (pss_one (xs (ps_dput (huN hr (by decide)) (pv 1) (xe (pv 3) (sm_var 3)) (xe (pe_callB (call_max2 rfl) (by rfl) T.b_max (by rfl) (xa (pa_cons (xe (xe (pe_bm PySem.F.plainAttrs_dict PySem.F.slot_dict_get PySem.F.type_dict_get (mt_getF (huN hr (by decide))) (xe (pv 1) (sm_var 1)) (xa (pa_cons (xe (pv 3) (sm_var 3)) (xa (pa_cons (xe (pv 4) (sm_var 4)) (xa pa_nil sma_nil)) (sma_cons sm_s sma_s))) (sma_cons sm_s sma_s))) (sm_m (.inr (.inl rfl)) sm_s sma_s)) (sm_bor 1 sm_s)) (xa (pa_cons (xe (pv 4) (sm_var 4)) (xa pa_nil sma_nil)) (sma_cons sm_s sma_s))) (sma_cons sm_s sma_s))) (sm_cb F_max2 sma_s)) rfl) (sms_put 1 sm_s sm_s))) sms_s)) (sms_for (w := false) smi_s (smg_tup (smgs_cons (smg_name 3) (smgs_cons (smg_name 4) smgs_nil))) sms_s))) sms_s)) (sms_for (w := false) smi_s (smg_name 2) sms_s))
    (xss (xss (pss_one (xs (ps_ret (xe (pe_callTy call_tupleP (by rfl) T.b_tuple (by rfl) (xa (pa_cons (xe (pe_callB (cr_sortedIt rfl (huN hr (by decide))) (by rfl) T.b_sorted (by rfl) (pa_cons (pe_bm0 PySem.F.plainAttrs_dict PySem.F.slot_dict_items PySem.F.type_dict_items mt_itemsV (xe (pv 1) (sm_var 1))) pa_nil)) (sm_sortIt sm_s)) (xa pa_nil sma_nil)) (sma_cons sm_s sma_s))) (sm_cb F_tuple sma_s))) (sms_ret sm_s))) sms_s) (sms_fz 1 sms_s))) (sms_seq sms_s sms_s))) (sms_seq sms_s sms_s)),
    body_ok sms_s h⟩
theorem sc__law_norm : FnScope ["_law_row_here", "_law_word", "_law_spot"] ["_law_row_here"] (defScope s__law_norm) := ⟨rfl, rfl, rfl, by decide +kernel, rfl, by decide +kernel, by decide +kernel⟩
theorem ok__law_norm {f : Addr} {fd : FuncData} (D : DefAt K mg "_law_norm" s__law_norm ["_law_row_here"] f fd) (T : Txt K mg) {f__law_put : Addr} {fd__law_put : FuncData} (D__law_put : DefAt K mg "_law_put" s__law_put ["_law_row_here", "_law_num"] f__law_put fd__law_put) (G__law_put : FnG P w K mg base 1 f__law_put fd__law_put ["_law_row_here", "_law_num"] (spF ⟨K, mg⟩ F__law_put)) :
    FnG P w K mg base 2 f fd ["_law_row_here"] (spF ⟨K, mg⟩ F__law_norm) := by
  refine Fun.okG D.F sc__law_norm spF_len (fun cdv A fr s H vs Q E hgd hr h => ?_)
  have tk := takes_of (X := cxOf (L2.CX P w) P w K mg base ["_law_row_here", "_law_word", "_law_spot"] "_law_norm" (defScope s__law_norm) f cdv A fr s H E) (E := E) rfl rfl rfl rfl
  exact ⟨tSf ⟨K, mg⟩ (WB E) b__law_norm, (xss (pss_one (xs (ps_ret (xe (pe_ifExp (xt (pt_cmpR (op_neP (huN hr (by decide))) (xe (pv 0) (sm_var 0)) (xe (pe_tupF (xa pa_nil sma_nil)) (sm_tup sma_s)) (nomark _)) (smt_test (sm_op F_ne sm_s sm_s))) (xe (pe_callG G__law_put hgd (hr.mono (by decide)) (by rfl) D__law_put.g D__law_put.F.kp D__law_put.b (fun σ => passAt (W := WB E) tk σ) (xa (pa_cons (xe (pv 0) (sm_var 0)) (xa (pa_cons (xe (pe_op op_subP (xe pe_int sm_int) (xe (pe_callB (cr_max rfl) (by rfl) T.b_max (by rfl) (xa (pa_cons (xe (pe_lc (own := [("_law_word", 1), ("_law_spot", 2)]) (g := (gTup K 2 (gCons (gName 1) (gCons (gName 2) gNil)))) (tt := tT ⟨K, mg⟩ W0 fYes) (te := tE ⟨K, mg⟩ W0 (fVar 2)) rfl sc__law_norm.nd (xi (pi_seq (xe (pv 0) (sm_var 0))) (smi_seq sm_s)) (blkOk_by (by kernel_rfl)) (fun _ _ _ _ _ => (pg_tup rfl (pgs_cons (pg_name (i := 1) sc__law_norm.nd rfl (Or.inl rfl)) (pgs_cons (pg_name (i := 2) sc__law_norm.nd rfl (Or.inl rfl)) pgs_nil)))) (fun _ _ _ _ _ => (xts pts_nil smt_yes)) (fun _ _ _ _ _ => (xe (pv 2) (sm_var 2)))) (sm_lc (w := false) smi_s (smg_tup (smgs_cons (smg_name 1) (smgs_cons (smg_name 2) smgs_nil))) smt_s sm_s (by decide))) (xa pa_nil sma_nil)) (sma_cons sm_s sma_s))) (sm_cb F_maxL sma_s))) (sm_op F_sub sm_s sm_s)) (xa pa_nil sma_nil)) (sma_cons sm_s sma_s))) (sma_cons sm_s sma_s))) (sm_call sma_s)) (xe (pe_tupF (xa pa_nil sma_nil)) (sm_tup sma_s))) (sm_if smt_s sm_s sm_s))) (sms_ret sm_s))) sms_s),
    body_ok sms_s h⟩
theorem sc__law_rows : FnScope ["_law_state", "_law_words_here", "_law_most", "_law_wide", "_law_turn"] ["_law_state", "_law_words_here", "_law_most", "_law_wide"] (defScope s__law_rows) := ⟨rfl, rfl, rfl, by decide +kernel, rfl, by decide +kernel, by decide +kernel⟩
theorem ok__law_rows {f : Addr} {fd : FuncData} (D : DefAt K mg "_law_rows" s__law_rows ["_law_state", "_law_words_here", "_law_most", "_law_wide"] f fd) (T : Txt K mg) {f__law_draw : Addr} {fd__law_draw : FuncData} (D__law_draw : DefAt K mg "_law_draw" s__law_draw ["_law_state", "_law_size"] f__law_draw fd__law_draw) (G__law_draw : FnG P w K mg base 1 f__law_draw fd__law_draw ["_law_state", "_law_size"] (spF ⟨K, mg⟩ F__law_draw)) {f__law_row : Addr} {fd__law_row : FuncData} (D__law_row : DefAt K mg "_law_row" s__law_row ["_law_state", "_law_words_here", "_law_wide"] f__law_row fd__law_row) (G__law_row : FnG P w K mg base 3 f__law_row fd__law_row ["_law_state", "_law_words_here", "_law_wide"] (spF ⟨K, mg⟩ F__law_row)) :
    FnG P w K mg base 4 f fd ["_law_state", "_law_words_here", "_law_most", "_law_wide"] (spF ⟨K, mg⟩ F__law_rows) := by
  refine Fun.okG D.F sc__law_rows spF_len (fun cdv A fr s H vs Q E hgd hr h => ?_)
  have tk := takes_of (X := cxOf (L2.CX P w) P w K mg base ["_law_state", "_law_words_here", "_law_most", "_law_wide", "_law_turn"] "_law_rows" (defScope s__law_rows) f cdv A fr s H E) (E := E) rfl rfl rfl rfl
  exact ⟨tSf ⟨K, mg⟩ (WB E) b__law_rows, (xss (pss_one (xs (ps_ret (xe (pe_lc (own := [("_law_turn", 4)]) (g := (gName 4)) (tt := tT ⟨K, mg⟩ W0 fYes) (te := tE ⟨K, mg⟩ W0 (fCall F__law_row (aCons (fVar 0) (aCons (fVar 1) (aCons (fVar 3) aNil))))) rfl sc__law_rows.nd (xi (pi_range1 (by rfl) T.b_range (xa (pa_cons (xe (pe_callG G__law_draw hgd (hr.mono (by decide)) (by rfl) D__law_draw.g D__law_draw.F.kp D__law_draw.b (fun σ => passAt (W := WB E) tk σ) (xa (pa_cons (xe (pv 0) (sm_var 0)) (xa (pa_cons (xe (pe_op op_addP (xe (pv 2) (sm_var 2)) (xe pe_int sm_int)) (sm_op F_add sm_s sm_s)) (xa pa_nil sma_nil)) (sma_cons sm_s sma_s))) (sma_cons sm_s sma_s))) (sm_call sma_s)) (xa pa_nil sma_nil)) (sma_cons sm_s sma_s))) (smi_rng1 sma_s)) (blkOk_by (by kernel_rfl)) (fun _ _ _ _ _ => (pg_name (i := 4) sc__law_rows.nd rfl (Or.inl rfl))) (fun _ _ _ _ _ => (xts pts_nil smt_yes)) (fun _ _ _ _ _ => (xe (pe_callG G__law_row hgd (hr.mono (by decide)) (by rfl) D__law_row.g D__law_row.F.kp D__law_row.b (fun σ => passAt (W := W0) takes0 σ) (xa (pa_cons (xe (pv 0) (sm_var 0)) (xa (pa_cons (xe (pv 1) (sm_var 1)) (xa (pa_cons (xe (pv 3) (sm_var 3)) (xa pa_nil sma_nil)) (sma_cons sm_s sma_s))) (sma_cons sm_s sma_s))) (sma_cons sm_s sma_s))) (sm_call sma_s)))) (sm_lc (w := false) smi_s (smg_name 4) smt_s sm_s (by decide)))) (sms_ret sm_s))) sms_s),
    body_ok sms_s h⟩
theorem sc__law_within : FnScope ["_law_one", "_law_two", "_law_held", "_law_word", "_law_num"] ["_law_one", "_law_two"] (defScope s__law_within) := ⟨rfl, rfl, rfl, by decide +kernel, rfl, by decide +kernel, by decide +kernel⟩
theorem ok__law_within {f : Addr} {fd : FuncData} (D : DefAt K mg "_law_within" s__law_within ["_law_one", "_law_two"] f fd) (T : Txt K mg) :
    FnG P w K mg base 1 f fd ["_law_one", "_law_two"] (spF ⟨K, mg⟩ F__law_within) := by
  refine Fun.okG D.F sc__law_within spF_len (fun cdv A fr s H vs Q E hgd hr h => ?_)
  have tk := takes_of (X := cxOf (L2.CX P w) P w K mg base ["_law_one", "_law_two", "_law_held", "_law_word", "_law_num"] "_law_within" (defScope s__law_within) f cdv A fr s H E) (E := E) rfl rfl rfl rfl
  exact ⟨tSf ⟨K, mg⟩ (WB E) b__law_within, (xss (pss_cons (xs (ps_set (i := 2) sc__law_within.nd rfl (Or.inr rfl) (xe (pe_callTy (cr_dictP rfl) (by rfl) T.b_dict (by rfl) (xa (pa_cons (xe (pv 1) (sm_var 1)) (xa pa_nil sma_nil)) (sma_cons sm_s sma_s))) (sm_cb F_dict sma_s))) (sms_asg sm_s (smg_name 2)))
    (xss (pss_one (xs (ps_ret (xe (pe_cmpR (op_eqP (huN hr (by decide))) (xe (pe_lc (own := [("_law_word", 3), ("_law_num", 4)]) (g := (gTup K 2 (gCons (gName 3) (gCons (gName 4) gNil)))) (tt := tT ⟨K, mg⟩ W0 (fOr (fTest (fOp (oIn true) (fVar 3) (fVar 2))) (fTest (fOp oLt (fOp oIx (fVar 2) (fVar 3)) (fVar 4))))) (te := tE ⟨K, mg⟩ W0 (fVar 3)) rfl sc__law_within.nd (xi (pi_seq (xe (pv 0) (sm_var 0))) (smi_seq sm_s)) (blkOk_by (by kernel_rfl)) (fun _ _ _ _ _ => (pg_tup rfl (pgs_cons (pg_name (i := 3) sc__law_within.nd rfl (Or.inl rfl)) (pgs_cons (pg_name (i := 4) sc__law_within.nd rfl (Or.inl rfl)) pgs_nil)))) (fun _ _ _ _ _ => (xts (pts_one (xt ((pw_or (xt (pt_cmpR (op_notInP (huN hr (by decide))) (xe (pv 3) (sm_var 3)) (xe (pv 2) (sm_var 2)) (by rfl)) (smt_test (sm_op F_notIn sm_s sm_s))) (pw_or1 (xt (pt_cmpR op_ltP (xe (pe_ix (ix_anyP (huN hr (by decide))) (xe (pv 2) (sm_var 2)) (xe (pv 3) (sm_var 3)) (fun _ _ => rfl)) (sm_op F_ix sm_s sm_s)) (xe (pv 4) (sm_var 4)) (nomark _)) (smt_test (sm_op F_lt sm_s sm_s)))))).pt (smt_or smt_s smt_s))) smt_s)) (fun _ _ _ _ _ => (xe (pv 3) (sm_var 3)))) (sm_lc (w := false) smi_s (smg_tup (smgs_cons (smg_name 3) (smgs_cons (smg_name 4) smgs_nil))) smt_s sm_s (by decide))) (xe (pe_lst (xa pa_nil sma_nil)) (sm_lst sma_s)) (nomark _)) (sm_op F_eq sm_s sm_s))) (sms_ret sm_s))) sms_s)) (sms_seq sms_s sms_s)),
    body_ok sms_s h⟩
theorem sc__law_two_right : FnScope ["_law_one", "_law_two", "_law_held", "_law_due", "_law_found", "_law_word", "_law_num"] ["_law_one", "_law_two"] (defScope s__law_two_right) := ⟨rfl, rfl, rfl, by decide +kernel, rfl, by decide +kernel, by decide +kernel⟩
theorem ok__law_two_right {f : Addr} {fd : FuncData} (D : DefAt K mg "_law_two_right" s__law_two_right ["_law_one", "_law_two"] f fd) (T : Txt K mg) {f_earlier : Addr} {fd_earlier : FuncData} (D_earlier : DefAt K mg "earlier" s_earlier ["one", "other"] f_earlier fd_earlier) (G_earlier : FnG P w K mg base 6 f_earlier fd_earlier ["one", "other"] (spF ⟨K, mg⟩ F_earlier)) {f_is_within : Addr} {fd_is_within : FuncData} (D_is_within : DefAt K mg "is_within" s_is_within ["one", "other"] f_is_within fd_is_within) (G_is_within : FnG P w K mg base 6 f_is_within fd_is_within ["one", "other"] (spF ⟨K, mg⟩ F_is_within)) {f__law_within : Addr} {fd__law_within : FuncData} (D__law_within : DefAt K mg "_law_within" s__law_within ["_law_one", "_law_two"] f__law_within fd__law_within) (G__law_within : FnG P w K mg base 1 f__law_within fd__law_within ["_law_one", "_law_two"] (spF ⟨K, mg⟩ F__law_within)) {f_room : Addr} {fd_room : FuncData} (D_room : DefAt K mg "room" s_room ["one", "other"] f_room fd_room) (G_room : FnG P w K mg base 6 f_room fd_room ["one", "other"] (spF ⟨K, mg⟩ F_room)) {f__law_put : Addr} {fd__law_put : FuncData} (D__law_put : DefAt K mg "_law_put" s__law_put ["_law_row_here", "_law_num"] f__law_put fd__law_put) (G__law_put : FnG P w K mg base 1 f__law_put fd__law_put ["_law_row_here", "_law_num"] (spF ⟨K, mg⟩ F__law_put)) :
    FnG P w K mg base 7 f fd ["_law_one", "_law_two"] (spF ⟨K, mg⟩ F__law_two_right) := by
  refine Fun.okG D.F sc__law_two_right spF_len (fun cdv A fr s H vs Q E hgd hr h => ?_)
  have tk := takes_of (X := cxOf (L2.CX P w) P w K mg base ["_law_one", "_law_two", "_law_held", "_law_due", "_law_found", "_law_word", "_law_num"] "_law_two_right" (defScope s__law_two_right) f cdv A fr s H E) (E := E) rfl rfl rfl rfl
  exact ⟨tSf ⟨K, mg⟩ (WB E) b__law_two_right, (xss (pss_cons (xs (ps_set (i := 2) sc__law_two_right.nd rfl (Or.inr rfl) (xe (pe_callTy (cr_dictP rfl) (by rfl) T.b_dict (by rfl) (xa (pa_cons (xe (pv 1) (sm_var 1)) (xa pa_nil sma_nil)) (sma_cons sm_s sma_s))) (sm_cb F_dict sma_s))) (sms_asg sm_s (smg_name 2)))
    (xss (pss_cons (xs (ps_set (i := 3) sc__law_two_right.nd rfl (Or.inl rfl) (xe (pe_callTy call_tupleP (by rfl) T.b_tuple (by rfl) (xa (pa_cons (xe (pe_lc (own := [("_law_word", 5), ("_law_num", 6)]) (g := (gTup K 2 (gCons (gName 5) (gCons (gName 6) gNil)))) (tt := tT ⟨K, mg⟩ W0 (fTest (fOp (oIn false) (fVar 5) (fVar 2)))) (te := tE ⟨K, mg⟩ W0 (fTup (aCons (fVar 5) (aCons (fCB (o2A oMin2) (aCons (fVar 6) (aCons (fOp oIx (fVar 2) (fVar 5)) aNil))) aNil)))) rfl sc__law_two_right.nd (xi (pi_seq (xe (pv 0) (sm_var 0))) (smi_seq sm_s)) (blkOk_by (by kernel_rfl)) (fun _ _ _ _ _ => (pg_tup rfl (pgs_cons (pg_name (i := 5) sc__law_two_right.nd rfl (Or.inl rfl)) (pgs_cons (pg_name (i := 6) sc__law_two_right.nd rfl (Or.inl rfl)) pgs_nil)))) (fun _ _ _ _ _ => (xts (pts_one (xt (pt_cmpR (op_inP (huN hr (by decide))) (xe (pv 5) (sm_var 5)) (xe (pv 2) (sm_var 2)) (by rfl)) (smt_test (sm_op F_in sm_s sm_s)))) smt_s)) (fun _ _ _ _ _ => (xe (pe_tupF (xa (pa_cons (xe (pv 5) (sm_var 5)) (xa (pa_cons (xe (pe_callB (call_min2 rfl) (by rfl) T.b_min (by rfl) (xa (pa_cons (xe (pv 6) (sm_var 6)) (xa (pa_cons (xe (pe_ix (ix_anyP (huN hr (by decide))) (xe (pv 2) (sm_var 2)) (xe (pv 5) (sm_var 5)) (fun _ _ => rfl)) (sm_op F_ix sm_s sm_s)) (xa pa_nil sma_nil)) (sma_cons sm_s sma_s))) (sma_cons sm_s sma_s))) (sm_cb F_min2 sma_s)) (xa pa_nil sma_nil)) (sma_cons sm_s sma_s))) (sma_cons sm_s sma_s))) (sm_tup sma_s)))) (sm_lc (w := false) smi_s (smg_tup (smgs_cons (smg_name 5) (smgs_cons (smg_name 6) smgs_nil))) smt_s sm_s (by decide))) (xa pa_nil sma_nil)) (sma_cons sm_s sma_s))) (sm_cb F_tuple sma_s))) (sms_asg sm_s (smg_name 3)))
    (xss (pss_cons (xs (ps_if (xt ((pw_or (xt (pt_cmpR (op_neP (huN hr (by decide))) (xe (pe_callB (call_reprP hgd (huN hr (by decide))) (by rfl) T.b_repr (by rfl) (xa (pa_cons (xe (pe_callG G_earlier hgd (hr.mono (by decide)) (by rfl) D_earlier.g D_earlier.F.kp D_earlier.b (fun σ => passAt (W := WB E) tk σ) (xa (pa_cons (xe (pv 0) (sm_var 0)) (xa (pa_cons (xe (pv 1) (sm_var 1)) (xa pa_nil sma_nil)) (sma_cons sm_s sma_s))) (sma_cons sm_s sma_s))) (sm_call sma_s)) (xa pa_nil sma_nil)) (sma_cons sm_s sma_s))) (sm_cb F_repr sma_s)) (xe (pe_callB (call_reprP hgd (huN hr (by decide))) (by rfl) T.b_repr (by rfl) (xa (pa_cons (xe (pv 3) (sm_var 3)) (xa pa_nil sma_nil)) (sma_cons sm_s sma_s))) (sm_cb F_repr sma_s)) (nomark _)) (smt_test (sm_op F_ne sm_s sm_s))) (pw_or1 (xt (pt_cmpR (op_neP (huN hr (by decide))) (xe (pe_callB (call_reprP hgd (huN hr (by decide))) (by rfl) T.b_repr (by rfl) (xa (pa_cons (xe (pe_callG G_is_within hgd (hr.mono (by decide)) (by rfl) D_is_within.g D_is_within.F.kp D_is_within.b (fun σ => passAt (W := WB E) tk σ) (xa (pa_cons (xe (pv 0) (sm_var 0)) (xa (pa_cons (xe (pv 1) (sm_var 1)) (xa pa_nil sma_nil)) (sma_cons sm_s sma_s))) (sma_cons sm_s sma_s))) (sm_call sma_s)) (xa pa_nil sma_nil)) (sma_cons sm_s sma_s))) (sm_cb F_repr sma_s)) (xe (pe_callB (call_reprP hgd (huN hr (by decide))) (by rfl) T.b_repr (by rfl) (xa (pa_cons (xe (pe_callG G__law_within hgd (hr.mono (by decide)) (by rfl) D__law_within.g D__law_within.F.kp D__law_within.b (fun σ => passAt (W := WB E) tk σ) (xa (pa_cons (xe (pv 0) (sm_var 0)) (xa (pa_cons (xe (pv 1) (sm_var 1)) (xa pa_nil sma_nil)) (sma_cons sm_s sma_s))) (sma_cons sm_s sma_s))) (sm_call sma_s)) (xa pa_nil sma_nil)) (sma_cons sm_s sma_s))) (sm_cb F_repr sma_s)) (nomark _)) (smt_test (sm_op F_ne sm_s sm_s)))))).pt (smt_or smt_s smt_s))
    (xss (pss_one (xs (ps_ret (xe pe_bl sm_bl)) (sms_ret sm_s))) sms_s)
    (xss pss_nil sms_next)) (sms_if smt_s sms_s sms_s))
    (xss (pss_cons (xs (ps_set (i := 4) sc__law_two_right.nd rfl (Or.inl rfl) (xe (pe_callG G_room hgd (hr.mono (by decide)) (by rfl) D_room.g D_room.F.kp D_room.b (fun σ => passAt (W := WB E) tk σ) (xa (pa_cons (xe (pv 0) (sm_var 0)) (xa (pa_cons (xe (pv 1) (sm_var 1)) (xa pa_nil sma_nil)) (sma_cons sm_s sma_s))) (sma_cons sm_s sma_s))) (sm_call sma_s))) (sms_asg sm_s (smg_name 4)))
    (xss (pss_cons (xs (ps_if (xt (pt_cmpR op_isNP (xe (pv 4) (sm_var 4)) (xe pe_non sm_non) (nomark _)) (smt_test (sm_op F_isN sm_s sm_s)))
    (xss (pss_one (xs (ps_ret (xe (pe_or (xe (pe_cmpR (op_eqP (huN hr (by decide))) (xe (pv 0) (sm_var 0)) (xe (pe_tupF (xa pa_nil sma_nil)) (sm_tup sma_s)) (nomark _)) (sm_op F_eq sm_s sm_s)) (pe_one (xe (pe_cmpR (op_neP (huN hr (by decide))) (xe (pe_lc (own := [("_law_word", 5), ("_law_num", 6)]) (g := (gTup K 2 (gCons (gName 5) (gCons (gName 6) gNil)))) (tt := tT ⟨K, mg⟩ W0 (fTest (fOp (oIn true) (fVar 5) (fVar 2)))) (te := tE ⟨K, mg⟩ W0 (fVar 5)) rfl sc__law_two_right.nd (xi (pi_seq (xe (pv 0) (sm_var 0))) (smi_seq sm_s)) (blkOk_by (by kernel_rfl)) (fun _ _ _ _ _ => (pg_tup rfl (pgs_cons (pg_name (i := 5) sc__law_two_right.nd rfl (Or.inl rfl)) (pgs_cons (pg_name (i := 6) sc__law_two_right.nd rfl (Or.inl rfl)) pgs_nil)))) (fun _ _ _ _ _ => (xts (pts_one (xt (pt_cmpR (op_notInP (huN hr (by decide))) (xe (pv 5) (sm_var 5)) (xe (pv 2) (sm_var 2)) (by rfl)) (smt_test (sm_op F_notIn sm_s sm_s)))) smt_s)) (fun _ _ _ _ _ => (xe (pv 5) (sm_var 5)))) (sm_lc (w := false) smi_s (smg_tup (smgs_cons (smg_name 5) (smgs_cons (smg_name 6) smgs_nil))) smt_s sm_s (by decide))) (xe (pe_lst (xa pa_nil sma_nil)) (sm_lst sma_s)) (nomark _)) (sm_op F_ne sm_s sm_s)))) (sm_orV sm_s sm_s))) (sms_ret sm_s))) sms_s)
    (xss pss_nil sms_next)) (sms_if smt_s sms_s sms_s))
    (xss (pss_cons (xs (ps_if (xt ((pw_or (xt (pt_val (xe (pe_callB call_isi (by rfl) T.b_isinstance (by rfl) (pa_cons (xe (pv 4) (sm_var 4)) (pa_cons (pe_bltn (v := .ty "bool") (u := .type "bool") (by rfl) T.b_bool (by rfl) rfl) pa_nil))) (sm_isi T.A (by decide) sm_s))) (smt_test sm_s)) (pw_or (xt (pt_cmpR (op_eqP (huN hr (by decide))) (xe (pv 0) (sm_var 0)) (xe (pe_tupF (xa pa_nil sma_nil)) (sm_tup sma_s)) (nomark _)) (smt_test (sm_op F_eq sm_s sm_s))) (pw_or1 (xt (pt_not (xt (pt_val (xe (pe_callG G__law_within hgd (hr.mono (by decide)) (by rfl) D__law_within.g D__law_within.F.kp D__law_within.b (fun σ => passAt (W := WB E) tk σ) (xa (pa_cons (xe (pe_callG G__law_put hgd (hr.mono (by decide)) (by rfl) D__law_put.g D__law_put.F.kp D__law_put.b (fun σ => passAt (W := WB E) tk σ) (xa (pa_cons (xe (pv 0) (sm_var 0)) (xa (pa_cons (xe (pv 4) (sm_var 4)) (xa pa_nil sma_nil)) (sma_cons sm_s sma_s))) (sma_cons sm_s sma_s))) (sm_call sma_s)) (xa (pa_cons (xe (pv 1) (sm_var 1)) (xa pa_nil sma_nil)) (sma_cons sm_s sma_s))) (sma_cons sm_s sma_s))) (sm_call sma_s))) (smt_test sm_s))) (smt_not smt_s)))))).pt (smt_or smt_s (smt_or smt_s smt_s)))
    (xss (pss_one (xs (ps_ret (xe pe_bl sm_bl)) (sms_ret sm_s))) sms_s)
    (xss pss_nil sms_next)) (sms_if smt_s sms_s sms_s))
    (xss (pss_one (xs (ps_ret (xe (pe_and (xe (pe_not (xe (pe_callG G__law_within hgd (hr.mono (by decide)) (by rfl) D__law_within.g D__law_within.F.kp D__law_within.b (fun σ => passAt (W := WB E) tk σ) (xa (pa_cons (xe (pe_callG G__law_put hgd (hr.mono (by decide)) (by rfl) D__law_put.g D__law_put.F.kp D__law_put.b (fun σ => passAt (W := WB E) tk σ) (xa (pa_cons (xe (pv 0) (sm_var 0)) (xa (pa_cons (xe (pe_op op_addP (xe (pv 4) (sm_var 4)) (xe pe_int sm_int)) (sm_op F_add sm_s sm_s)) (xa pa_nil sma_nil)) (sma_cons sm_s sma_s))) (sma_cons sm_s sma_s))) (sm_call sma_s)) (xa (pa_cons (xe (pv 1) (sm_var 1)) (xa pa_nil sma_nil)) (sma_cons sm_s sma_s))) (sma_cons sm_s sma_s))) (sm_call sma_s))) (sm_notV sm_s)) (pe_one (xe (pe_cmpR (op_eqP (huN hr (by decide))) (xe (pe_callGK0 G_room hgd (hr.mono (by decide)) (by rfl) D_room.g D_room.F.kp (kb_of (n := 0) (m := 2) (ix := [1, 0]) D_room.F (by decide) (fun _ _ _ _ _ _ us ws hu hw => match us, ws, hu, hw with | [], [_, _], _, _ => rfl)) (fun σ => passAt (W := WB E) tk σ) (xk (pk_cons (xe (pv 1) (sm_var 1)) (xk (pk_cons (xe (pv 0) (sm_var 0)) (xk pk_nil sma_nil)) (sma_cons sm_s sma_s))) (sma_cons sm_s sma_s))) (sm_callK sma_nil sma_s)) (xe (pv 4) (sm_var 4)) (nomark _)) (sm_op F_eq sm_s sm_s)))) (sm_andV sm_s sm_s))) (sms_ret sm_s))) sms_s)) (sms_seq sms_s sms_s))) (sms_seq sms_s sms_s))) (sms_seq sms_s sms_s))) (sms_seq sms_s sms_s))) (sms_seq sms_s sms_s))) (sms_seq sms_s sms_s)),
    body_ok sms_s h⟩
theorem sc_law : FnScope ["_law_script", "_law_state", "_law_turn", "_law_words_here", "_law_rows_here", "_law_one", "_law_passed", "_law_shown", "_law_num", "_law_two", "_law_word"] ["_law_script"] (defScope s_law) := ⟨rfl, rfl, rfl, by decide +kernel, rfl, by decide +kernel, by decide +kernel⟩
theorem ok_law {f : Addr} {fd : FuncData} (D : DefAt K mg "law" s_law ["_law_script"] f fd) (T : Txt K mg) {f_b : Addr} {fd_b : FuncData} (D_b : DefAt K mg "_law_begun" s__law_begun ["_law_script"] f_b fd_b) (G_b : FnG P w K mg base 1 f_b fd_b ["_law_script"] (spBegun ⟨K, mg⟩)) (right : LawRight 9 b_law) {f__law_words : Addr} {fd__law_words : FuncData} (D__law_words : DefAt K mg "_law_words" s__law_words ["_law_state", "_law_many"] f__law_words fd__law_words) (G__law_words : FnG P w K mg base 3 f__law_words fd__law_words ["_law_state", "_law_many"] (spF ⟨K, mg⟩ F__law_words)) {f__law_draw : Addr} {fd__law_draw : FuncData} (D__law_draw : DefAt K mg "_law_draw" s__law_draw ["_law_state", "_law_size"] f__law_draw fd__law_draw) (G__law_draw : FnG P w K mg base 1 f__law_draw fd__law_draw ["_law_state", "_law_size"] (spF ⟨K, mg⟩ F__law_draw)) {f__law_rows : Addr} {fd__law_rows : FuncData} (D__law_rows : DefAt K mg "_law_rows" s__law_rows ["_law_state", "_law_words_here", "_law_most", "_law_wide"] f__law_rows fd__law_rows) (G__law_rows : FnG P w K mg base 4 f__law_rows fd__law_rows ["_law_state", "_law_words_here", "_law_most", "_law_wide"] (spF ⟨K, mg⟩ F__law_rows)) {f__law_pick : Addr} {fd__law_pick : FuncData} (D__law_pick : DefAt K mg "_law_pick" s__law_pick ["_law_state", "_law_several"] f__law_pick fd__law_pick) (G__law_pick : FnG P w K mg base 2 f__law_pick fd__law_pick ["_law_state", "_law_several"] (spF ⟨K, mg⟩ F__law_pick)) {f_joined : Addr} {fd_joined : FuncData} (D_joined : DefAt K mg "joined" s_joined ["plans"] f_joined fd_joined) (G_joined : FnG P w K mg base 4 f_joined fd_joined ["plans"] (spF ⟨K, mg⟩ F_joined)) {f__law_join : Addr} {fd__law_join : FuncData} (D__law_join : DefAt K mg "_law_join" s__law_join ["_law_rows_here"] f__law_join fd__law_join) (G__law_join : FnG P w K mg base 1 f__law_join fd__law_join ["_law_rows_here"] (spF ⟨K, mg⟩ F__law_join)) {f_later : Addr} {fd_later : FuncData} (D_later : DefAt K mg "later" s_later ["plan", "number"] f_later fd_later) (G_later : FnG P w K mg base 5 f_later fd_later ["plan", "number"] (spF ⟨K, mg⟩ F_later)) {f__law_put : Addr} {fd__law_put : FuncData} (D__law_put : DefAt K mg "_law_put" s__law_put ["_law_row_here", "_law_num"] f__law_put fd__law_put) (G__law_put : FnG P w K mg base 1 f__law_put fd__law_put ["_law_row_here", "_law_num"] (spF ⟨K, mg⟩ F__law_put)) {f_normal : Addr} {fd_normal : FuncData} (D_normal : DefAt K mg "normal" s_normal ["plan"] f_normal fd_normal) (G_normal : FnG P w K mg base 5 f_normal fd_normal ["plan"] (spF ⟨K, mg⟩ F_normal)) {f__law_norm : Addr} {fd__law_norm : FuncData} (D__law_norm : DefAt K mg "_law_norm" s__law_norm ["_law_row_here"] f__law_norm fd__law_norm) (G__law_norm : FnG P w K mg base 2 f__law_norm fd__law_norm ["_law_row_here"] (spF ⟨K, mg⟩ F__law_norm)) {f__law_two_right : Addr} {fd__law_two_right : FuncData} (D__law_two_right : DefAt K mg "_law_two_right" s__law_two_right ["_law_one", "_law_two"] f__law_two_right fd__law_two_right) (G__law_two_right : FnG P w K mg base 7 f__law_two_right fd__law_two_right ["_law_one", "_law_two"] (spF ⟨K, mg⟩ F__law_two_right)) {f_earlier : Addr} {fd_earlier : FuncData} (D_earlier : DefAt K mg "earlier" s_earlier ["one", "other"] f_earlier fd_earlier) (G_earlier : FnG P w K mg base 6 f_earlier fd_earlier ["one", "other"] (spF ⟨K, mg⟩ F_earlier)) {f_is_within : Addr} {fd_is_within : FuncData} (D_is_within : DefAt K mg "is_within" s_is_within ["one", "other"] f_is_within fd_is_within) (G_is_within : FnG P w K mg base 6 f_is_within fd_is_within ["one", "other"] (spF ⟨K, mg⟩ F_is_within)) :
    FnG P w K mg base 8 f fd ["_law_script"] (spLaw ⟨K, mg⟩) := by
  refine Fun.okG D.F sc_law (fun vs H Q E h => by obtain ⟨a, ns, rfl, _⟩ := h; rfl) (fun cdv A fr s H vs Q E hgd hr h => ?_)
  have tk := takes_of (X := cxOf (L2.CX P w) P w K mg base ["_law_script", "_law_state", "_law_turn", "_law_words_here", "_law_rows_here", "_law_one", "_law_passed", "_law_shown", "_law_num", "_law_two", "_law_word"] "law" (defScope s_law) f cdv A fr s H E) (E := E) rfl rfl rfl rfl
  exact ⟨_, pss_cons (ps_set (i := 1) sc_law.nd rfl (Or.inr rfl) (pe_callG G_b hgd (hr.mono (by decide)) (by rfl) D_b.g D_b.F.kp D_b.b (fun σ => passAt (W := WB E) tk σ) (pa_cons (pv 0) pa_nil)))
    (xss (pss_cons (xs (ps_for (passes_of rfl) rfl (xi (pi_range1 (by rfl) T.b_range (xa (pa_cons (xe (pe_op op_addP (xe pe_int sm_int) (xe (pe_callB (call_min2 rfl) (by rfl) T.b_min (by rfl) (xa (pa_cons (xe (pe_callB call_len (by rfl) T.b_len (by rfl) (xa (pa_cons (xe (pv 0) (sm_var 0)) (xa pa_nil sma_nil)) (sma_cons sm_s sma_s))) (sm_cb F_len sma_s)) (xa (pa_cons (xe pe_int sm_int) (xa pa_nil sma_nil)) (sma_cons sm_s sma_s))) (sma_cons sm_s sma_s))) (sm_cb F_min2 sma_s))) (sm_op F_add sm_s sm_s)) (xa pa_nil sma_nil)) (sma_cons sm_s sma_s))) (smi_rng1 sma_s)) (pg_name (i := 2) sc_law.nd rfl (Or.inl rfl))
    (xss (pss_cons (xs (ps_set (i := 3) sc_law.nd rfl (Or.inl rfl) (xe (pe_callG G__law_words hgd (hr.mono (by decide)) (by rfl) D__law_words.g D__law_words.F.kp D__law_words.b (fun σ => passAt (W := WB E) tk σ) (xa (pa_cons (xe (pv 1) (sm_var 1)) (xa (pa_cons (xe (pe_op op_addP (xe pe_int sm_int) (xe (pe_callG G__law_draw hgd (hr.mono (by decide)) (by rfl) D__law_draw.g D__law_draw.F.kp D__law_draw.b (fun σ => passAt (W := WB E) tk σ) (xa (pa_cons (xe (pv 1) (sm_var 1)) (xa (pa_cons (xe pe_int sm_int) (xa pa_nil sma_nil)) (sma_cons sm_s sma_s))) (sma_cons sm_s sma_s))) (sm_call sma_s))) (sm_op F_add sm_s sm_s)) (xa pa_nil sma_nil)) (sma_cons sm_s sma_s))) (sma_cons sm_s sma_s))) (sm_call sma_s))) (sms_asg sm_s (smg_name 3)))
    (xss (pss_cons (xs (ps_set (i := 4) sc_law.nd rfl (Or.inl rfl) (xe (pe_callG G__law_rows hgd (hr.mono (by decide)) (by rfl) D__law_rows.g D__law_rows.F.kp D__law_rows.b (fun σ => passAt (W := WB E) tk σ) (xa (pa_cons (xe (pv 1) (sm_var 1)) (xa (pa_cons (xe (pv 3) (sm_var 3)) (xa (pa_cons (xe pe_int sm_int) (xa (pa_cons (xe (pe_callG G__law_pick hgd (hr.mono (by decide)) (by rfl) D__law_pick.g D__law_pick.F.kp D__law_pick.b (fun σ => passAt (W := WB E) tk σ) (xa (pa_cons (xe (pv 1) (sm_var 1)) (xa (pa_cons (xe (pe_lst (xa (pa_cons (xe pe_int sm_int) (xa (pa_cons (xe pe_int sm_int) (xa (pa_cons (xe (pe_op op_powP (xe pe_int sm_int) (xe pe_int sm_int)) (sm_op F_pow sm_s sm_s)) (xa pa_nil sma_nil)) (sma_cons sm_s sma_s))) (sma_cons sm_s sma_s))) (sma_cons sm_s sma_s))) (sm_lst sma_s)) (xa pa_nil sma_nil)) (sma_cons sm_s sma_s))) (sma_cons sm_s sma_s))) (sm_call sma_s)) (xa pa_nil sma_nil)) (sma_cons sm_s sma_s))) (sma_cons sm_s sma_s))) (sma_cons sm_s sma_s))) (sma_cons sm_s sma_s))) (sm_call sma_s))) (sms_asg sm_s (smg_name 4)))
    (xss (pss_cons (xs (ps_set (i := 4) sc_law.nd rfl (Or.inl rfl) (xe (pe_op op_addP (xe (pv 4) (sm_var 4)) (xe (pe_lst (xa (pa_cons (xe (pe_callTy call_tupleP (by rfl) T.b_tuple (by rfl) (xa (pa_cons (xe (pe_lc (own := [("_law_word", 10)]) (g := (gName 10)) (tt := tT ⟨K, mg⟩ W0 fYes) (te := tE ⟨K, mg⟩ W0 (fTup (aCons (fVar 10) (aCons (fOp oSub (fOp oPow (fC (.int 10)) (fC (.int 12))) (fCall F__law_draw (aCons (fVar 1) (aCons (fC (.int 99)) aNil)))) aNil)))) rfl sc_law.nd (xi (pi_seq (xe (pv 3) (sm_var 3))) (smi_seq sm_s)) (blkOk_by (by kernel_rfl)) (fun _ _ _ _ _ => (pg_name (i := 10) sc_law.nd rfl (Or.inl rfl))) (fun _ _ _ _ _ => (xts pts_nil smt_yes)) (fun _ _ _ _ _ => (xe (pe_tupF (xa (pa_cons (xe (pv 10) (sm_var 10)) (xa (pa_cons (xe (pe_op op_subP (xe (pe_op op_powP (xe pe_int sm_int) (xe pe_int sm_int)) (sm_op F_pow sm_s sm_s)) (xe (pe_callG G__law_draw hgd (hr.mono (by decide)) (by rfl) D__law_draw.g D__law_draw.F.kp D__law_draw.b (fun σ => passAt (W := W0) takes0 σ) (xa (pa_cons (xe (pv 1) (sm_var 1)) (xa (pa_cons (xe pe_int sm_int) (xa pa_nil sma_nil)) (sma_cons sm_s sma_s))) (sma_cons sm_s sma_s))) (sm_call sma_s))) (sm_op F_sub sm_s sm_s)) (xa pa_nil sma_nil)) (sma_cons sm_s sma_s))) (sma_cons sm_s sma_s))) (sm_tup sma_s)))) (sm_lc (w := false) smi_s (smg_name 10) smt_s sm_s (by decide))) (xa pa_nil sma_nil)) (sma_cons sm_s sma_s))) (sm_cb F_tuple sma_s)) (xa pa_nil sma_nil)) (sma_cons sm_s sma_s))) (sm_lst sma_s))) (sm_op F_add sm_s sm_s))) (sms_asg sm_s (smg_name 4)))
    (xss (pss_cons (xs (ps_par (i := 6) (j := 7) rfl sc_law.nd rfl rfl (by decide) rfl rfl (pa_cons (xe (pe_callTy call_list_of (by rfl) T.b_list (by rfl) (xa (pa_cons (xe (pv 4) (sm_var 4)) (xa pa_nil sma_nil)) (sma_cons sm_s sma_s))) (sm_cb F_list sma_s)) (pa_cons (xe (pe_callB (call_reprP hgd (huN hr (by decide))) (by rfl) T.b_repr (by rfl) (xa (pa_cons (xe (pv 4) (sm_var 4)) (xa pa_nil sma_nil)) (sma_cons sm_s sma_s))) (sm_cb F_repr sma_s)) pa_nil)) rfl) (sms_par 6 7 sm_s sm_s))
    (xss (xss (pss_cons (xs (ps_if (xt ((pw_or (xt (pt_cmpR (op_neP (huN hr (by decide))) (xe (pe_callB (call_reprP hgd (huN hr (by decide))) (by rfl) T.b_repr (by rfl) (xa (pa_cons (xe (pe_callG G_joined hgd (hr.mono (by decide)) (by rfl) D_joined.g D_joined.F.kp D_joined.b (fun σ => passAt (W := WB E) tk σ) (xa (pa_cons (xe (pv 6) (sm_var 6)) (xa pa_nil sma_nil)) (sma_cons sm_s sma_s))) (sm_call sma_s)) (xa pa_nil sma_nil)) (sma_cons sm_s sma_s))) (sm_cb F_repr sma_s)) (xe (pe_callB (call_reprP hgd (huN hr (by decide))) (by rfl) T.b_repr (by rfl) (xa (pa_cons (xe (pe_callG G__law_join hgd (hr.mono (by decide)) (by rfl) D__law_join.g D__law_join.F.kp D__law_join.b (fun σ => passAt (W := WB E) tk σ) (xa (pa_cons (xe (pv 4) (sm_var 4)) (xa pa_nil sma_nil)) (sma_cons sm_s sma_s))) (sm_call sma_s)) (xa pa_nil sma_nil)) (sma_cons sm_s sma_s))) (sm_cb F_repr sma_s)) (nomark _)) (smt_test (sm_op F_ne sm_s sm_s))) (pw_or1 (xt (pt_cmpR (op_neP (huN hr (by decide))) (xe (pe_callGK0 G_joined hgd (hr.mono (by decide)) (by rfl) D_joined.g D_joined.F.kp (kb_of (n := 0) (m := 1) (ix := [0]) D_joined.F (by decide) (fun _ _ _ _ _ _ us ws hu hw => match us, ws, hu, hw with | [], [_], _, _ => rfl)) (fun σ => passAt (W := WB E) tk σ) (xk (pk_cons (xe (pe_callTy call_tupleP (by rfl) T.b_tuple (by rfl) (xa (pa_cons (xe (pv 6) (sm_var 6)) (xa pa_nil sma_nil)) (sma_cons sm_s sma_s))) (sm_cb F_tuple sma_s)) (xk pk_nil sma_nil)) (sma_cons sm_s sma_s))) (sm_callK sma_nil sma_s)) (xe (pe_callG G__law_join hgd (hr.mono (by decide)) (by rfl) D__law_join.g D__law_join.F.kp D__law_join.b (fun σ => passAt (W := WB E) tk σ) (xa (pa_cons (xe (pv 4) (sm_var 4)) (xa pa_nil sma_nil)) (sma_cons sm_s sma_s))) (sm_call sma_s)) (nomark _)) (smt_test (sm_op F_ne sm_s sm_s)))))).pt (smt_or smt_s smt_s))
    (xss (pss_one (xs (ps_ret (xe pe_bl sm_bl)) (sms_ret sm_s))) sms_s)
    (xss pss_nil sms_next)) (sms_if smt_s sms_s sms_s))
    (xss (pss_cons (xs (ps_for (passes_of rfl) rfl (xi (pi_seq (xe (pe_op op_addP (xe (pv 4) (sm_var 4)) (xe (pe_lst (xa (pa_cons (xe (pe_tupF (xa pa_nil sma_nil)) (sm_tup sma_s)) (xa pa_nil sma_nil)) (sma_cons sm_s sma_s))) (sm_lst sma_s))) (sm_op F_add sm_s sm_s))) (smi_seq sm_s)) (pg_name (i := 5) sc_law.nd rfl (Or.inl rfl))
    (xss (pss_cons (xs (ps_set (i := 8) sc_law.nd rfl (Or.inl rfl) (xe (pe_callG G__law_pick hgd (hr.mono (by decide)) (by rfl) D__law_pick.g D__law_pick.F.kp D__law_pick.b (fun σ => passAt (W := WB E) tk σ) (xa (pa_cons (xe (pv 1) (sm_var 1)) (xa (pa_cons (xe (pe_lst (xa (pa_cons (xe pe_int sm_int) (xa (pa_cons (xe pe_int sm_int) (xa (pa_cons (xe (pe_un un_negP (xe pe_int sm_int)) (sm_un F_neg sm_s)) (xa (pa_cons (xe (pe_op op_powP (xe pe_int sm_int) (xe pe_int sm_int)) (sm_op F_pow sm_s sm_s)) (xa (pa_cons (xe (pe_op op_subP (xe pe_int sm_int) (xe (pe_op op_powP (xe pe_int sm_int) (xe pe_int sm_int)) (sm_op F_pow sm_s sm_s))) (sm_op F_sub sm_s sm_s)) (xa (pa_cons (xe (pe_callG G__law_draw hgd (hr.mono (by decide)) (by rfl) D__law_draw.g D__law_draw.F.kp D__law_draw.b (fun σ => passAt (W := WB E) tk σ) (xa (pa_cons (xe (pv 1) (sm_var 1)) (xa (pa_cons (xe pe_int sm_int) (xa pa_nil sma_nil)) (sma_cons sm_s sma_s))) (sma_cons sm_s sma_s))) (sm_call sma_s)) (xa pa_nil sma_nil)) (sma_cons sm_s sma_s))) (sma_cons sm_s sma_s))) (sma_cons sm_s sma_s))) (sma_cons sm_s sma_s))) (sma_cons sm_s sma_s))) (sma_cons sm_s sma_s))) (sm_lst sma_s)) (xa pa_nil sma_nil)) (sma_cons sm_s sma_s))) (sma_cons sm_s sma_s))) (sm_call sma_s))) (sms_asg sm_s (smg_name 8)))
    (xss (pss_cons (xs (ps_if (xt ((pw_or (xt (pt_cmpR (op_neP (huN hr (by decide))) (xe (pe_callB (call_reprP hgd (huN hr (by decide))) (by rfl) T.b_repr (by rfl) (xa (pa_cons (xe (pe_callG G_later hgd (hr.mono (by decide)) (by rfl) D_later.g D_later.F.kp D_later.b (fun σ => passAt (W := WB E) tk σ) (xa (pa_cons (xe (pv 5) (sm_var 5)) (xa (pa_cons (xe (pv 8) (sm_var 8)) (xa pa_nil sma_nil)) (sma_cons sm_s sma_s))) (sma_cons sm_s sma_s))) (sm_call sma_s)) (xa pa_nil sma_nil)) (sma_cons sm_s sma_s))) (sm_cb F_repr sma_s)) (xe (pe_callB (call_reprP hgd (huN hr (by decide))) (by rfl) T.b_repr (by rfl) (xa (pa_cons (xe (pe_callG G__law_put hgd (hr.mono (by decide)) (by rfl) D__law_put.g D__law_put.F.kp D__law_put.b (fun σ => passAt (W := WB E) tk σ) (xa (pa_cons (xe (pv 5) (sm_var 5)) (xa (pa_cons (xe (pv 8) (sm_var 8)) (xa pa_nil sma_nil)) (sma_cons sm_s sma_s))) (sma_cons sm_s sma_s))) (sm_call sma_s)) (xa pa_nil sma_nil)) (sma_cons sm_s sma_s))) (sm_cb F_repr sma_s)) (nomark _)) (smt_test (sm_op F_ne sm_s sm_s))) (pw_or1 (xt (pt_cmpR (op_neP (huN hr (by decide))) (xe (pe_callGK0 G_later hgd (hr.mono (by decide)) (by rfl) D_later.g D_later.F.kp (kb_of (n := 0) (m := 2) (ix := [1, 0]) D_later.F (by decide) (fun _ _ _ _ _ _ us ws hu hw => match us, ws, hu, hw with | [], [_, _], _, _ => rfl)) (fun σ => passAt (W := WB E) tk σ) (xk (pk_cons (xe (pv 8) (sm_var 8)) (xk (pk_cons (xe (pv 5) (sm_var 5)) (xk pk_nil sma_nil)) (sma_cons sm_s sma_s))) (sma_cons sm_s sma_s))) (sm_callK sma_nil sma_s)) (xe (pe_callG G__law_put hgd (hr.mono (by decide)) (by rfl) D__law_put.g D__law_put.F.kp D__law_put.b (fun σ => passAt (W := WB E) tk σ) (xa (pa_cons (xe (pv 5) (sm_var 5)) (xa (pa_cons (xe (pv 8) (sm_var 8)) (xa pa_nil sma_nil)) (sma_cons sm_s sma_s))) (sma_cons sm_s sma_s))) (sm_call sma_s)) (nomark _)) (smt_test (sm_op F_ne sm_s sm_s)))))).pt (smt_or smt_s smt_s))
    (xss (pss_one (xs (ps_ret (xe pe_bl sm_bl)) (sms_ret sm_s))) sms_s)
    (xss pss_nil sms_next)) (sms_if smt_s sms_s sms_s))
    (xss (pss_cons (xs (ps_if (xt (pt_cmpR (op_neP (huN hr (by decide))) (xe (pe_callB (call_reprP hgd (huN hr (by decide))) (by rfl) T.b_repr (by rfl) (xa (pa_cons (xe (pe_lst (xa (pa_cons (xe (pe_callG G_normal hgd (hr.mono (by decide)) (by rfl) D_normal.g D_normal.F.kp D_normal.b (fun σ => passAt (W := WB E) tk σ) (xa (pa_cons (xe (pv 5) (sm_var 5)) (xa pa_nil sma_nil)) (sma_cons sm_s sma_s))) (sm_call sma_s)) (xa (pa_cons (xe (pe_callGK0 G_normal hgd (hr.mono (by decide)) (by rfl) D_normal.g D_normal.F.kp (kb_of (n := 0) (m := 1) (ix := [0]) D_normal.F (by decide) (fun _ _ _ _ _ _ us ws hu hw => match us, ws, hu, hw with | [], [_], _, _ => rfl)) (fun σ => passAt (W := WB E) tk σ) (xk (pk_cons (xe (pv 5) (sm_var 5)) (xk pk_nil sma_nil)) (sma_cons sm_s sma_s))) (sm_callK sma_nil sma_s)) (xa pa_nil sma_nil)) (sma_cons sm_s sma_s))) (sma_cons sm_s sma_s))) (sm_lst sma_s)) (xa pa_nil sma_nil)) (sma_cons sm_s sma_s))) (sm_cb F_repr sma_s)) (xe (pe_callB (call_reprP hgd (huN hr (by decide))) (by rfl) T.b_repr (by rfl) (xa (pa_cons (xe (pe_op op_mulP (xe (pe_lst (xa (pa_cons (xe (pe_callG G__law_norm hgd (hr.mono (by decide)) (by rfl) D__law_norm.g D__law_norm.F.kp D__law_norm.b (fun σ => passAt (W := WB E) tk σ) (xa (pa_cons (xe (pv 5) (sm_var 5)) (xa pa_nil sma_nil)) (sma_cons sm_s sma_s))) (sm_call sma_s)) (xa pa_nil sma_nil)) (sma_cons sm_s sma_s))) (sm_lst sma_s)) (xe pe_int sm_int)) (sm_op F_mul sm_s sm_s)) (xa pa_nil sma_nil)) (sma_cons sm_s sma_s))) (sm_cb F_repr sma_s)) (nomark _)) (smt_test (sm_op F_ne sm_s sm_s)))
    (xss (pss_one (xs (ps_ret (xe pe_bl sm_bl)) (sms_ret sm_s))) sms_s)
    (xss pss_nil sms_next)) (sms_if smt_s sms_s sms_s))
    (xss (pss_one (xs (ps_for (passes_of rfl) rfl (xi (pi_seq (xe (pe_op op_addP (xe (pe_slice sl_anyP (xe (pv 4) (sm_var 4)) (xo po_none smo_none) (xo (po_some (xe pe_int sm_int)) (smo_some sm_s))) (sm_sl sm_s smo_s smo_s)) (xe (pe_lst (xa (pa_cons (xe (pe_tupF (xa pa_nil sma_nil)) (sm_tup sma_s)) (xa (pa_cons (xe (pv 5) (sm_var 5)) (xa (pa_cons (xe (pe_callG G__law_join hgd (hr.mono (by decide)) (by rfl) D__law_join.g D__law_join.F.kp D__law_join.b (fun σ => passAt (W := WB E) tk σ) (xa (pa_cons (xe (pv 4) (sm_var 4)) (xa pa_nil sma_nil)) (sma_cons sm_s sma_s))) (sm_call sma_s)) (xa pa_nil sma_nil)) (sma_cons sm_s sma_s))) (sma_cons sm_s sma_s))) (sma_cons sm_s sma_s))) (sm_lst sma_s))) (sm_op F_add sm_s sm_s))) (smi_seq sm_s)) (pg_name (i := 9) sc_law.nd rfl (Or.inl rfl))
    (xss (pss_cons (xs (ps_if (xt ((pw_or (xt (pt_not (xt (pt_val (xe (pe_callG G__law_two_right hgd (hr.mono (by decide)) (by rfl) D__law_two_right.g D__law_two_right.F.kp D__law_two_right.b (fun σ => passAt (W := WB E) tk σ) (xa (pa_cons (xe (pv 5) (sm_var 5)) (xa (pa_cons (xe (pv 9) (sm_var 9)) (xa pa_nil sma_nil)) (sma_cons sm_s sma_s))) (sma_cons sm_s sma_s))) (sm_call sma_s))) (smt_test sm_s))) (smt_not smt_s)) (pw_or1 (xt (pt_cmpR (op_neP (huN hr (by decide))) (xe (pe_callGK0 G_earlier hgd (hr.mono (by decide)) (by rfl) D_earlier.g D_earlier.F.kp (kb_of (n := 0) (m := 2) (ix := [1, 0]) D_earlier.F (by decide) (fun _ _ _ _ _ _ us ws hu hw => match us, ws, hu, hw with | [], [_, _], _, _ => rfl)) (fun σ => passAt (W := WB E) tk σ) (xk (pk_cons (xe (pv 9) (sm_var 9)) (xk (pk_cons (xe (pv 5) (sm_var 5)) (xk pk_nil sma_nil)) (sma_cons sm_s sma_s))) (sma_cons sm_s sma_s))) (sm_callK sma_nil sma_s)) (xe (pe_callG G_earlier hgd (hr.mono (by decide)) (by rfl) D_earlier.g D_earlier.F.kp D_earlier.b (fun σ => passAt (W := WB E) tk σ) (xa (pa_cons (xe (pv 5) (sm_var 5)) (xa (pa_cons (xe (pv 9) (sm_var 9)) (xa pa_nil sma_nil)) (sma_cons sm_s sma_s))) (sma_cons sm_s sma_s))) (sm_call sma_s)) (nomark _)) (smt_test (sm_op F_ne sm_s sm_s)))))).pt (smt_or smt_s smt_s))
    (xss (pss_one (xs (ps_ret (xe pe_bl sm_bl)) (sms_ret sm_s))) sms_s)
    (xss pss_nil sms_next)) (sms_if smt_s sms_s sms_s))
    (xss (pss_one (xs (ps_if (xt (pt_cmpR (op_neP (huN hr (by decide))) (xe (pe_callGK0 G_is_within hgd (hr.mono (by decide)) (by rfl) D_is_within.g D_is_within.F.kp (kb_of (n := 0) (m := 2) (ix := [1, 0]) D_is_within.F (by decide) (fun _ _ _ _ _ _ us ws hu hw => match us, ws, hu, hw with | [], [_, _], _, _ => rfl)) (fun σ => passAt (W := WB E) tk σ) (xk (pk_cons (xe (pv 9) (sm_var 9)) (xk (pk_cons (xe (pv 5) (sm_var 5)) (xk pk_nil sma_nil)) (sma_cons sm_s sma_s))) (sma_cons sm_s sma_s))) (sm_callK sma_nil sma_s)) (xe (pe_callG G_is_within hgd (hr.mono (by decide)) (by rfl) D_is_within.g D_is_within.F.kp D_is_within.b (fun σ => passAt (W := WB E) tk σ) (xa (pa_cons (xe (pv 5) (sm_var 5)) (xa (pa_cons (xe (pv 9) (sm_var 9)) (xa pa_nil sma_nil)) (sma_cons sm_s sma_s))) (sma_cons sm_s sma_s))) (sm_call sma_s)) (nomark _)) (smt_test (sm_op F_ne sm_s sm_s)))
    (xss (pss_one (xs (ps_ret (xe pe_bl sm_bl)) (sms_ret sm_s))) sms_s)
    (xss pss_nil sms_next)) (sms_if smt_s sms_s sms_s))) sms_s)) (sms_seq sms_s sms_s))) (sms_for (w := false) smi_s (smg_name 9) sms_s))) sms_s)) (sms_seq sms_s sms_s))) (sms_seq sms_s sms_s))) (sms_seq sms_s sms_s))) (sms_for (w := false) smi_s (smg_name 5) sms_s))
    (xss (xss (pss_one (xs (ps_if (xt (pt_cmpR (op_neP (huN hr (by decide))) (xe (pe_callB (call_reprP hgd (huN hr (by decide))) (by rfl) T.b_repr (by rfl) (xa (pa_cons (xe (pv 6) (sm_var 6)) (xa pa_nil sma_nil)) (sma_cons sm_s sma_s))) (sm_cb F_repr sma_s)) (xe (pv 7) (sm_var 7)) (nomark _)) (smt_test (sm_op F_ne sm_s sm_s)))
    (xss (pss_one (xs (ps_ret (xe pe_bl sm_bl)) (sms_ret sm_s))) sms_s)
    (xss pss_nil sms_next)) (sms_if smt_s sms_s sms_s))) sms_s) (sms_fz 7 sms_s))) (sms_seq sms_s sms_s))) (sms_seq sms_s sms_s)) (sms_fz 6 sms_s))) (sms_seq sms_s sms_s))) (sms_seq sms_s sms_s))) (sms_seq sms_s sms_s))) (sms_seq sms_s sms_s))) (sms_for (w := false) smi_s (smg_name 2) sms_s))
    (xss (pss_one (xs (ps_ret (xe pe_bl sm_bl)) (sms_ret sm_s))) sms_s)) (sms_seq sms_s sms_s)),
    law_reads (n0 := "_law_script") (n1 := "_law_state") (Ns := ["_law_turn", "_law_words_here", "_law_rows_here", "_law_one", "_law_passed", "_law_shown", "_law_num", "_law_two", "_law_word"]) sms_s right h⟩
end
theorem all_mk {l : PySem.W.OpenLaw} {w : World} {K : PySem.W.Frag} {h : Heap} {mg : Str → Option Value} {fa : Addr} (X : K.In h) (G : h.Ns mainGlobals mg) (hfa : mg "law" = some (.ref fa))
    {f0 : Addr} {od0 an0 : Option Addr} {sl0 : Array (Option Value)} {oc0 kV0 dc0 pm0 cd0 ct0 : Value}
    {f1 : Addr} {od1 an1 : Option Addr} {sl1 : Array (Option Value)} {oc1 kV1 dc1 pm1 cd1 ct1 : Value}
    {f2 : Addr} {od2 an2 : Option Addr} {sl2 : Array (Option Value)} {oc2 kV2 dc2 pm2 cd2 ct2 : Value}
    {f3 : Addr} {od3 an3 : Option Addr} {sl3 : Array (Option Value)} {oc3 kV3 dc3 pm3 cd3 ct3 : Value}
    {f4 : Addr} {od4 an4 : Option Addr} {sl4 : Array (Option Value)} {oc4 kV4 dc4 pm4 cd4 ct4 : Value}
    {f5 : Addr} {od5 an5 : Option Addr} {sl5 : Array (Option Value)} {oc5 kV5 dc5 pm5 cd5 ct5 : Value}
    {f6 : Addr} {od6 an6 : Option Addr} {sl6 : Array (Option Value)} {oc6 kV6 dc6 pm6 cd6 ct6 : Value}
    {f7 : Addr} {od7 an7 : Option Addr} {sl7 : Array (Option Value)} {oc7 kV7 dc7 pm7 cd7 ct7 : Value}
    {f8 : Addr} {od8 an8 : Option Addr} {sl8 : Array (Option Value)} {oc8 kV8 dc8 pm8 cd8 ct8 : Value}
    {f9 : Addr} {od9 an9 : Option Addr} {sl9 : Array (Option Value)} {oc9 kV9 dc9 pm9 cd9 ct9 : Value}
    {f10 : Addr} {od10 an10 : Option Addr} {sl10 : Array (Option Value)} {oc10 kV10 dc10 pm10 cd10 ct10 : Value}
    {f11 : Addr} {od11 an11 : Option Addr} {sl11 : Array (Option Value)} {oc11 kV11 dc11 pm11 cd11 ct11 : Value}
    {f12 : Addr} {od12 an12 : Option Addr} {sl12 : Array (Option Value)} {oc12 kV12 dc12 pm12 cd12 ct12 : Value}
    {f13 : Addr} {od13 an13 : Option Addr} {sl13 : Array (Option Value)} {oc13 kV13 dc13 pm13 cd13 ct13 : Value}
    {f14 : Addr} {od14 an14 : Option Addr} {sl14 : Array (Option Value)} {oc14 kV14 dc14 pm14 cd14 ct14 : Value}
    {f15 : Addr} {od15 an15 : Option Addr} {sl15 : Array (Option Value)} {oc15 kV15 dc15 pm15 cd15 ct15 : Value}
    {f16 : Addr} {od16 an16 : Option Addr} {sl16 : Array (Option Value)} {oc16 kV16 dc16 pm16 cd16 ct16 : Value}
    {f17 : Addr} {od17 an17 : Option Addr} {sl17 : Array (Option Value)} {oc17 kV17 dc17 pm17 cd17 ct17 : Value}
    {f18 : Addr} {od18 an18 : Option Addr} {sl18 : Array (Option Value)} {oc18 kV18 dc18 pm18 cd18 ct18 : Value}
    {f19 : Addr} {od19 an19 : Option Addr} {sl19 : Array (Option Value)} {oc19 kV19 dc19 pm19 cd19 ct19 : Value}
    {f20 : Addr} {od20 an20 : Option Addr} {sl20 : Array (Option Value)} {oc20 kV20 dc20 pm20 cd20 ct20 : Value}
    {f21 : Addr} {od21 an21 : Option Addr} {sl21 : Array (Option Value)} {oc21 kV21 dc21 pm21 cd21 ct21 : Value}
    {f22 : Addr} {od22 an22 : Option Addr} {sl22 : Array (Option Value)} {oc22 kV22 dc22 pm22 cd22 ct22 : Value}
    {f23 : Addr} {od23 an23 : Option Addr} {sl23 : Array (Option Value)} {oc23 kV23 dc23 pm23 cd23 ct23 : Value}
    {f24 : Addr} {od24 an24 : Option Addr} {sl24 : Array (Option Value)} {oc24 kV24 dc24 pm24 cd24 ct24 : Value}
    {f25 : Addr} {od25 an25 : Option Addr} {sl25 : Array (Option Value)} {oc25 kV25 dc25 pm25 cd25 ct25 : Value}
    {f26 : Addr} {od26 an26 : Option Addr} {sl26 : Array (Option Value)} {oc26 kV26 dc26 pm26 cd26 ct26 : Value}
    {f27 : Addr} {od27 an27 : Option Addr} {sl27 : Array (Option Value)} {oc27 kV27 dc27 pm27 cd27 ct27 : Value}
    {f28 : Addr} {od28 an28 : Option Addr} {sl28 : Array (Option Value)} {oc28 kV28 dc28 pm28 cd28 ct28 : Value}
    {f29 : Addr} {od29 an29 : Option Addr} {sl29 : Array (Option Value)} {oc29 kV29 dc29 pm29 cd29 ct29 : Value}
    {f30 : Addr} {od30 an30 : Option Addr} {sl30 : Array (Option Value)} {oc30 kV30 dc30 pm30 cd30 ct30 : Value}
    {f31 : Addr} {od31 an31 : Option Addr} {sl31 : Array (Option Value)} {oc31 kV31 dc31 pm31 cd31 ct31 : Value}
    {t_LETTERS : Tok}
    {t_MOST_LETTERS : Tok}
    (a0 : PySem.W.nsIn K mainGlobals "_law_begun" = some (some (.ref f0))) (l0 : K.lookup f0 = some ⟨oc0, od0, .func (PySem.W.fnOf "_law_begun" "_law_begun" (defArgs s__law_begun) (defBody s__law_begun) (defScope s__law_begun) .none kV0 dc0 pm0 an0 cd0 ct0), sl0⟩) (c0 : PySem.W.codeIn K cd0 "_law_begun" = true) (k0 : PySem.W.keepIn K (.ref f0) = true)
    (a1 : PySem.W.nsIn K mainGlobals "is_number" = some (some (.ref f1))) (l1 : K.lookup f1 = some ⟨oc1, od1, .func (PySem.W.fnOf "is_number" "is_number" (defArgs s_is_number) (defBody s_is_number) (defScope s_is_number) .none kV1 dc1 pm1 an1 cd1 ct1), sl1⟩) (c1 : PySem.W.codeIn K cd1 "is_number" = true) (k1 : PySem.W.keepIn K (.ref f1) = true)
    (a2 : PySem.W.nsIn K mainGlobals "is_list" = some (some (.ref f2))) (l2 : K.lookup f2 = some ⟨oc2, od2, .func (PySem.W.fnOf "is_list" "is_list" (defArgs s_is_list) (defBody s_is_list) (defScope s_is_list) .none kV2 dc2 pm2 an2 cd2 ct2), sl2⟩) (c2 : PySem.W.codeIn K cd2 "is_list" = true) (k2 : PySem.W.keepIn K (.ref f2) = true)
    (a3 : PySem.W.nsIn K mainGlobals "is_name" = some (some (.ref f3))) (l3 : K.lookup f3 = some ⟨oc3, od3, .func (PySem.W.fnOf "is_name" "is_name" (defArgs s_is_name) (defBody s_is_name) (defScope s_is_name) .none kV3 dc3 pm3 an3 cd3 ct3), sl3⟩) (c3 : PySem.W.codeIn K cd3 "is_name" = true) (k3 : PySem.W.keepIn K (.ref f3) = true)
    (a4 : PySem.W.nsIn K mainGlobals "is_pair" = some (some (.ref f4))) (l4 : K.lookup f4 = some ⟨oc4, od4, .func (PySem.W.fnOf "is_pair" "is_pair" (defArgs s_is_pair) (defBody s_is_pair) (defScope s_is_pair) .none kV4 dc4 pm4 an4 cd4 ct4), sl4⟩) (c4 : PySem.W.codeIn K cd4 "is_pair" = true) (k4 : PySem.W.keepIn K (.ref f4) = true)
    (a5 : PySem.W.nsIn K mainGlobals "are_pairs" = some (some (.ref f5))) (l5 : K.lookup f5 = some ⟨oc5, od5, .func (PySem.W.fnOf "are_pairs" "are_pairs" (defArgs s_are_pairs) (defBody s_are_pairs) (defScope s_are_pairs) .none kV5 dc5 pm5 an5 cd5 ct5), sl5⟩) (c5 : PySem.W.codeIn K cd5 "are_pairs" = true) (k5 : PySem.W.keepIn K (.ref f5) = true)
    (a6 : PySem.W.nsIn K mainGlobals "need_plan" = some (some (.ref f6))) (l6 : K.lookup f6 = some ⟨oc6, od6, .func (PySem.W.fnOf "need_plan" "need_plan" (defArgs s_need_plan) (defBody s_need_plan) (defScope s_need_plan) .none kV6 dc6 pm6 an6 cd6 ct6), sl6⟩) (c6 : PySem.W.codeIn K cd6 "need_plan" = true) (k6 : PySem.W.keepIn K (.ref f6) = true)
    (a7 : PySem.W.nsIn K mainGlobals "need_number" = some (some (.ref f7))) (l7 : K.lookup f7 = some ⟨oc7, od7, .func (PySem.W.fnOf "need_number" "need_number" (defArgs s_need_number) (defBody s_need_number) (defScope s_need_number) .none kV7 dc7 pm7 an7 cd7 ct7), sl7⟩) (c7 : PySem.W.codeIn K cd7 "need_number" = true) (k7 : PySem.W.keepIn K (.ref f7) = true)
    (a8 : PySem.W.nsIn K mainGlobals "put_by" = some (some (.ref f8))) (l8 : K.lookup f8 = some ⟨oc8, od8, .func (PySem.W.fnOf "put_by" "put_by" (defArgs s_put_by) (defBody s_put_by) (defScope s_put_by) .none kV8 dc8 pm8 an8 cd8 ct8), sl8⟩) (c8 : PySem.W.codeIn K cd8 "put_by" = true) (k8 : PySem.W.keepIn K (.ref f8) = true)
    (a9 : PySem.W.nsIn K mainGlobals "later" = some (some (.ref f9))) (l9 : K.lookup f9 = some ⟨oc9, od9, .func (PySem.W.fnOf "later" "later" (defArgs s_later) (defBody s_later) (defScope s_later) .none kV9 dc9 pm9 an9 cd9 ct9), sl9⟩) (c9 : PySem.W.codeIn K cd9 "later" = true) (k9 : PySem.W.keepIn K (.ref f9) = true)
    (a10 : PySem.W.nsIn K mainGlobals "join_of" = some (some (.ref f10))) (l10 : K.lookup f10 = some ⟨oc10, od10, .func (PySem.W.fnOf "join_of" "join_of" (defArgs s_join_of) (defBody s_join_of) (defScope s_join_of) .none kV10 dc10 pm10 an10 cd10 ct10), sl10⟩) (c10 : PySem.W.codeIn K cd10 "join_of" = true) (k10 : PySem.W.keepIn K (.ref f10) = true)
    (a11 : PySem.W.nsIn K mainGlobals "joined" = some (some (.ref f11))) (l11 : K.lookup f11 = some ⟨oc11, od11, .func (PySem.W.fnOf "joined" "joined" (defArgs s_joined) (defBody s_joined) (defScope s_joined) .none kV11 dc11 pm11 an11 cd11 ct11), sl11⟩) (c11 : PySem.W.codeIn K cd11 "joined" = true) (k11 : PySem.W.keepIn K (.ref f11) = true)
    (a12 : PySem.W.nsIn K mainGlobals "need_two" = some (some (.ref f12))) (l12 : K.lookup f12 = some ⟨oc12, od12, .func (PySem.W.fnOf "need_two" "need_two" (defArgs s_need_two) (defBody s_need_two) (defScope s_need_two) .none kV12 dc12 pm12 an12 cd12 ct12), sl12⟩) (c12 : PySem.W.codeIn K cd12 "need_two" = true) (k12 : PySem.W.keepIn K (.ref f12) = true)
    (a13 : PySem.W.nsIn K mainGlobals "earlier_of" = some (some (.ref f13))) (l13 : K.lookup f13 = some ⟨oc13, od13, .func (PySem.W.fnOf "earlier_of" "earlier_of" (defArgs s_earlier_of) (defBody s_earlier_of) (defScope s_earlier_of) .none kV13 dc13 pm13 an13 cd13 ct13), sl13⟩) (c13 : PySem.W.codeIn K cd13 "earlier_of" = true) (k13 : PySem.W.keepIn K (.ref f13) = true)
    (a14 : PySem.W.nsIn K mainGlobals "earlier" = some (some (.ref f14))) (l14 : K.lookup f14 = some ⟨oc14, od14, .func (PySem.W.fnOf "earlier" "earlier" (defArgs s_earlier) (defBody s_earlier) (defScope s_earlier) .none kV14 dc14 pm14 an14 cd14 ct14), sl14⟩) (c14 : PySem.W.codeIn K cd14 "earlier" = true) (k14 : PySem.W.keepIn K (.ref f14) = true)
    (a15 : PySem.W.nsIn K mainGlobals "is_in" = some (some (.ref f15))) (l15 : K.lookup f15 = some ⟨oc15, od15, .func (PySem.W.fnOf "is_in" "is_in" (defArgs s_is_in) (defBody s_is_in) (defScope s_is_in) .none kV15 dc15 pm15 an15 cd15 ct15), sl15⟩) (c15 : PySem.W.codeIn K cd15 "is_in" = true) (k15 : PySem.W.keepIn K (.ref f15) = true)
    (a16 : PySem.W.nsIn K mainGlobals "is_within" = some (some (.ref f16))) (l16 : K.lookup f16 = some ⟨oc16, od16, .func (PySem.W.fnOf "is_within" "is_within" (defArgs s_is_within) (defBody s_is_within) (defScope s_is_within) .none kV16 dc16 pm16 an16 cd16 ct16), sl16⟩) (c16 : PySem.W.codeIn K cd16 "is_within" = true) (k16 : PySem.W.keepIn K (.ref f16) = true)
    (a17 : PySem.W.nsIn K mainGlobals "room_in" = some (some (.ref f17))) (l17 : K.lookup f17 = some ⟨oc17, od17, .func (PySem.W.fnOf "room_in" "room_in" (defArgs s_room_in) (defBody s_room_in) (defScope s_room_in) .none kV17 dc17 pm17 an17 cd17 ct17), sl17⟩) (c17 : PySem.W.codeIn K cd17 "room_in" = true) (k17 : PySem.W.keepIn K (.ref f17) = true)
    (a18 : PySem.W.nsIn K mainGlobals "room" = some (some (.ref f18))) (l18 : K.lookup f18 = some ⟨oc18, od18, .func (PySem.W.fnOf "room" "room" (defArgs s_room) (defBody s_room) (defScope s_room) .none kV18 dc18 pm18 an18 cd18 ct18), sl18⟩) (c18 : PySem.W.codeIn K cd18 "room" = true) (k18 : PySem.W.keepIn K (.ref f18) = true)
    (a19 : PySem.W.nsIn K mainGlobals "normal_of" = some (some (.ref f19))) (l19 : K.lookup f19 = some ⟨oc19, od19, .func (PySem.W.fnOf "normal_of" "normal_of" (defArgs s_normal_of) (defBody s_normal_of) (defScope s_normal_of) .none kV19 dc19 pm19 an19 cd19 ct19), sl19⟩) (c19 : PySem.W.codeIn K cd19 "normal_of" = true) (k19 : PySem.W.keepIn K (.ref f19) = true)
    (a20 : PySem.W.nsIn K mainGlobals "normal" = some (some (.ref f20))) (l20 : K.lookup f20 = some ⟨oc20, od20, .func (PySem.W.fnOf "normal" "normal" (defArgs s_normal) (defBody s_normal) (defScope s_normal) .none kV20 dc20 pm20 an20 cd20 ct20), sl20⟩) (c20 : PySem.W.codeIn K cd20 "normal" = true) (k20 : PySem.W.keepIn K (.ref f20) = true)
    (a21 : PySem.W.nsIn K mainGlobals "_law_draw" = some (some (.ref f21))) (l21 : K.lookup f21 = some ⟨oc21, od21, .func (PySem.W.fnOf "_law_draw" "_law_draw" (defArgs s__law_draw) (defBody s__law_draw) (defScope s__law_draw) .none kV21 dc21 pm21 an21 cd21 ct21), sl21⟩) (c21 : PySem.W.codeIn K cd21 "_law_draw" = true) (k21 : PySem.W.keepIn K (.ref f21) = true)
    (a22 : PySem.W.nsIn K mainGlobals "_law_pick" = some (some (.ref f22))) (l22 : K.lookup f22 = some ⟨oc22, od22, .func (PySem.W.fnOf "_law_pick" "_law_pick" (defArgs s__law_pick) (defBody s__law_pick) (defScope s__law_pick) .none kV22 dc22 pm22 an22 cd22 ct22), sl22⟩) (c22 : PySem.W.codeIn K cd22 "_law_pick" = true) (k22 : PySem.W.keepIn K (.ref f22) = true)
    (a23 : PySem.W.nsIn K mainGlobals "_law_words" = some (some (.ref f23))) (l23 : K.lookup f23 = some ⟨oc23, od23, .func (PySem.W.fnOf "_law_words" "_law_words" (defArgs s__law_words) (defBody s__law_words) (defScope s__law_words) .none kV23 dc23 pm23 an23 cd23 ct23), sl23⟩) (c23 : PySem.W.codeIn K cd23 "_law_words" = true) (k23 : PySem.W.keepIn K (.ref f23) = true)
    (a24 : PySem.W.nsIn K mainGlobals "_law_row" = some (some (.ref f24))) (l24 : K.lookup f24 = some ⟨oc24, od24, .func (PySem.W.fnOf "_law_row" "_law_row" (defArgs s__law_row) (defBody s__law_row) (defScope s__law_row) .none kV24 dc24 pm24 an24 cd24 ct24), sl24⟩) (c24 : PySem.W.codeIn K cd24 "_law_row" = true) (k24 : PySem.W.keepIn K (.ref f24) = true)
    (a25 : PySem.W.nsIn K mainGlobals "_law_put" = some (some (.ref f25))) (l25 : K.lookup f25 = some ⟨oc25, od25, .func (PySem.W.fnOf "_law_put" "_law_put" (defArgs s__law_put) (defBody s__law_put) (defScope s__law_put) .none kV25 dc25 pm25 an25 cd25 ct25), sl25⟩) (c25 : PySem.W.codeIn K cd25 "_law_put" = true) (k25 : PySem.W.keepIn K (.ref f25) = true)
    (a26 : PySem.W.nsIn K mainGlobals "_law_join" = some (some (.ref f26))) (l26 : K.lookup f26 = some ⟨oc26, od26, .func (PySem.W.fnOf "_law_join" "_law_join" (defArgs s__law_join) (defBody s__law_join) (defScope s__law_join) .none kV26 dc26 pm26 an26 cd26 ct26), sl26⟩) (c26 : PySem.W.codeIn K cd26 "_law_join" = true) (k26 : PySem.W.keepIn K (.ref f26) = true)
    (a27 : PySem.W.nsIn K mainGlobals "_law_norm" = some (some (.ref f27))) (l27 : K.lookup f27 = some ⟨oc27, od27, .func (PySem.W.fnOf "_law_norm" "_law_norm" (defArgs s__law_norm) (defBody s__law_norm) (defScope s__law_norm) .none kV27 dc27 pm27 an27 cd27 ct27), sl27⟩) (c27 : PySem.W.codeIn K cd27 "_law_norm" = true) (k27 : PySem.W.keepIn K (.ref f27) = true)
    (a28 : PySem.W.nsIn K mainGlobals "_law_rows" = some (some (.ref f28))) (l28 : K.lookup f28 = some ⟨oc28, od28, .func (PySem.W.fnOf "_law_rows" "_law_rows" (defArgs s__law_rows) (defBody s__law_rows) (defScope s__law_rows) .none kV28 dc28 pm28 an28 cd28 ct28), sl28⟩) (c28 : PySem.W.codeIn K cd28 "_law_rows" = true) (k28 : PySem.W.keepIn K (.ref f28) = true)
    (a29 : PySem.W.nsIn K mainGlobals "_law_within" = some (some (.ref f29))) (l29 : K.lookup f29 = some ⟨oc29, od29, .func (PySem.W.fnOf "_law_within" "_law_within" (defArgs s__law_within) (defBody s__law_within) (defScope s__law_within) .none kV29 dc29 pm29 an29 cd29 ct29), sl29⟩) (c29 : PySem.W.codeIn K cd29 "_law_within" = true) (k29 : PySem.W.keepIn K (.ref f29) = true)
    (a30 : PySem.W.nsIn K mainGlobals "_law_two_right" = some (some (.ref f30))) (l30 : K.lookup f30 = some ⟨oc30, od30, .func (PySem.W.fnOf "_law_two_right" "_law_two_right" (defArgs s__law_two_right) (defBody s__law_two_right) (defScope s__law_two_right) .none kV30 dc30 pm30 an30 cd30 ct30), sl30⟩) (c30 : PySem.W.codeIn K cd30 "_law_two_right" = true) (k30 : PySem.W.keepIn K (.ref f30) = true)
    (a31 : PySem.W.nsIn K mainGlobals "law" = some (some (.ref f31))) (l31 : K.lookup f31 = some ⟨oc31, od31, .func (PySem.W.fnOf "law" "law" (defArgs s_law) (defBody s_law) (defScope s_law) .none kV31 dc31 pm31 an31 cd31 ct31), sl31⟩) (c31 : PySem.W.codeIn K cd31 "law" = true) (k31 : PySem.W.keepIn K (.ref f31) = true)
    (b_abs : PySem.W.nsIn K mainGlobals "abs" = some none)
    (b_all : PySem.W.nsIn K mainGlobals "all" = some none)
    (b_bool : PySem.W.nsIn K mainGlobals "bool" = some none)
    (b_dict : PySem.W.nsIn K mainGlobals "dict" = some none)
    (b_enumerate : PySem.W.nsIn K mainGlobals "enumerate" = some none)
    (b_int : PySem.W.nsIn K mainGlobals "int" = some none)
    (b_isinstance : PySem.W.nsIn K mainGlobals "isinstance" = some none)
    (b_len : PySem.W.nsIn K mainGlobals "len" = some none)
    (b_list : PySem.W.nsIn K mainGlobals "list" = some none)
    (b_max : PySem.W.nsIn K mainGlobals "max" = some none)
    (b_min : PySem.W.nsIn K mainGlobals "min" = some none)
    (b_range : PySem.W.nsIn K mainGlobals "range" = some none)
    (b_repr : PySem.W.nsIn K mainGlobals "repr" = some none)
    (b_sorted : PySem.W.nsIn K mainGlobals "sorted" = some none)
    (b_str : PySem.W.nsIn K mainGlobals "str" = some none)
    (b_tuple : PySem.W.nsIn K mainGlobals "tuple" = some none)
    (b_zip : PySem.W.nsIn K mainGlobals "zip" = some none)
    (g_LETTERS : PySem.W.nsIn K mainGlobals "LETTERS" = some (some (.str "abcdefghijklmnopqrstuvwxyz" t_LETTERS)))
    (g_MOST_LETTERS : PySem.W.nsIn K mainGlobals "MOST_LETTERS" = some (some (.int 6 t_MOST_LETTERS)))
    (n_Book : PySem.W.nsIn K mainGlobals "Book" = some none)
    (n_Plans : PySem.W.nsIn K mainGlobals "Plans" = some none)
    (n_RoundBook : PySem.W.nsIn K mainGlobals "RoundBook" = some none)
    (n_Stand : PySem.W.nsIn K mainGlobals "Stand" = some none)
    (n_Held : PySem.W.nsIn K mainGlobals "Held" = some none)
    (n_Live : PySem.W.nsIn K mainGlobals "Live" = some none)
    (n_Desk : PySem.W.nsIn K mainGlobals "Desk" = some none) :
    ∃ fd : FuncData, (∀ (s : Shared) (v : Value), BindsTo s fd ⟨[v], []⟩ [("_law_script", v)]) ∧ ∀ base : Heap, K.In base → base.Ns mainGlobals mg → FnG l.prog w K mg base 8 fa fd ["_law_script"] (spLaw ⟨K, mg⟩) := by
  have e := hfa.symm.trans (PySem.W.mg_of X G a31)
  cases e
  have noC : ∀ nm C, isCls nm = true → mg nm = some (.ref C) → False := fun nm C hi hm => by
    have hi : nm ∈ (["Book", "Plans", "RoundBook", "Stand", "Held", "Live", "Desk"] : List Str) := of_decide_eq_true hi
    simp only [List.mem_cons, List.not_mem_nil, or_false] at hi
    rcases hi with rfl | rfl | rfl | rfl | rfl | rfl | rfl
    · exact absurd (hm.symm.trans (PySem.W.mg_none_of X G n_Book)) (fun z => by cases z)
    · exact absurd (hm.symm.trans (PySem.W.mg_none_of X G n_Plans)) (fun z => by cases z)
    · exact absurd (hm.symm.trans (PySem.W.mg_none_of X G n_RoundBook)) (fun z => by cases z)
    · exact absurd (hm.symm.trans (PySem.W.mg_none_of X G n_Stand)) (fun z => by cases z)
    · exact absurd (hm.symm.trans (PySem.W.mg_none_of X G n_Held)) (fun z => by cases z)
    · exact absurd (hm.symm.trans (PySem.W.mg_none_of X G n_Live)) (fun z => by cases z)
    · exact absurd (hm.symm.trans (PySem.W.mg_none_of X G n_Desk)) (fun z => by cases z)
  have T : Txt K mg := ⟨⟨fun nm C a b => (noC nm C a b).elim, fun nm C _ _ a b => (noC nm C a b).elim⟩, PySem.W.mg_none_of X G b_abs, PySem.W.mg_none_of X G b_all, PySem.W.mg_none_of X G b_bool, PySem.W.mg_none_of X G b_dict, PySem.W.mg_none_of X G b_enumerate, PySem.W.mg_none_of X G b_int, PySem.W.mg_none_of X G b_isinstance, PySem.W.mg_none_of X G b_len, PySem.W.mg_none_of X G b_list, PySem.W.mg_none_of X G b_max, PySem.W.mg_none_of X G b_min, PySem.W.mg_none_of X G b_range, PySem.W.mg_none_of X G b_repr, PySem.W.mg_none_of X G b_sorted, PySem.W.mg_none_of X G b_str, PySem.W.mg_none_of X G b_tuple, PySem.W.mg_none_of X G b_zip, ⟨_, PySem.W.mg_of X G g_LETTERS, ⟨_, rfl⟩⟩, ⟨_, PySem.W.mg_of X G g_MOST_LETTERS, ⟨_, rfl⟩⟩⟩
  have D0 : DefAt K mg "_law_begun" s__law_begun ["_law_script"] f0 (PySem.W.fnOf "_law_begun" "_law_begun" (defArgs s__law_begun) (defBody s__law_begun) (defScope s__law_begun) .none kV0 dc0 pm0 an0 cd0 ct0) := ⟨fun_mk (st := s__law_begun) l0 c0 k0, PySem.W.mg_of X G a0, (fun_mk (st := s__law_begun) l0 c0 k0).binds (ps := ["_law_script"]) fun _ _ _ _ _ _ us hl => match us, hl with | [_], _ => rfl⟩
  have D1 : DefAt K mg "is_number" s_is_number ["thing"] f1 (PySem.W.fnOf "is_number" "is_number" (defArgs s_is_number) (defBody s_is_number) (defScope s_is_number) .none kV1 dc1 pm1 an1 cd1 ct1) := ⟨fun_mk (st := s_is_number) l1 c1 k1, PySem.W.mg_of X G a1, (fun_mk (st := s_is_number) l1 c1 k1).binds (ps := ["thing"]) fun _ _ _ _ _ _ us hl => match us, hl with | [_], _ => rfl⟩
  have D2 : DefAt K mg "is_list" s_is_list ["thing"] f2 (PySem.W.fnOf "is_list" "is_list" (defArgs s_is_list) (defBody s_is_list) (defScope s_is_list) .none kV2 dc2 pm2 an2 cd2 ct2) := ⟨fun_mk (st := s_is_list) l2 c2 k2, PySem.W.mg_of X G a2, (fun_mk (st := s_is_list) l2 c2 k2).binds (ps := ["thing"]) fun _ _ _ _ _ _ us hl => match us, hl with | [_], _ => rfl⟩
  have D3 : DefAt K mg "is_name" s_is_name ["thing"] f3 (PySem.W.fnOf "is_name" "is_name" (defArgs s_is_name) (defBody s_is_name) (defScope s_is_name) .none kV3 dc3 pm3 an3 cd3 ct3) := ⟨fun_mk (st := s_is_name) l3 c3 k3, PySem.W.mg_of X G a3, (fun_mk (st := s_is_name) l3 c3 k3).binds (ps := ["thing"]) fun _ _ _ _ _ _ us hl => match us, hl with | [_], _ => rfl⟩
  have D4 : DefAt K mg "is_pair" s_is_pair ["thing"] f4 (PySem.W.fnOf "is_pair" "is_pair" (defArgs s_is_pair) (defBody s_is_pair) (defScope s_is_pair) .none kV4 dc4 pm4 an4 cd4 ct4) := ⟨fun_mk (st := s_is_pair) l4 c4 k4, PySem.W.mg_of X G a4, (fun_mk (st := s_is_pair) l4 c4 k4).binds (ps := ["thing"]) fun _ _ _ _ _ _ us hl => match us, hl with | [_], _ => rfl⟩
  have D5 : DefAt K mg "are_pairs" s_are_pairs ["thing"] f5 (PySem.W.fnOf "are_pairs" "are_pairs" (defArgs s_are_pairs) (defBody s_are_pairs) (defScope s_are_pairs) .none kV5 dc5 pm5 an5 cd5 ct5) := ⟨fun_mk (st := s_are_pairs) l5 c5 k5, PySem.W.mg_of X G a5, (fun_mk (st := s_are_pairs) l5 c5 k5).binds (ps := ["thing"]) fun _ _ _ _ _ _ us hl => match us, hl with | [_], _ => rfl⟩
  have D6 : DefAt K mg "need_plan" s_need_plan ["plan"] f6 (PySem.W.fnOf "need_plan" "need_plan" (defArgs s_need_plan) (defBody s_need_plan) (defScope s_need_plan) .none kV6 dc6 pm6 an6 cd6 ct6) := ⟨fun_mk (st := s_need_plan) l6 c6 k6, PySem.W.mg_of X G a6, (fun_mk (st := s_need_plan) l6 c6 k6).binds (ps := ["plan"]) fun _ _ _ _ _ _ us hl => match us, hl with | [_], _ => rfl⟩
  have D7 : DefAt K mg "need_number" s_need_number ["number"] f7 (PySem.W.fnOf "need_number" "need_number" (defArgs s_need_number) (defBody s_need_number) (defScope s_need_number) .none kV7 dc7 pm7 an7 cd7 ct7) := ⟨fun_mk (st := s_need_number) l7 c7 k7, PySem.W.mg_of X G a7, (fun_mk (st := s_need_number) l7 c7 k7).binds (ps := ["number"]) fun _ _ _ _ _ _ us hl => match us, hl with | [_], _ => rfl⟩
  have D8 : DefAt K mg "put_by" s_put_by ["plan", "number"] f8 (PySem.W.fnOf "put_by" "put_by" (defArgs s_put_by) (defBody s_put_by) (defScope s_put_by) .none kV8 dc8 pm8 an8 cd8 ct8) := ⟨fun_mk (st := s_put_by) l8 c8 k8, PySem.W.mg_of X G a8, (fun_mk (st := s_put_by) l8 c8 k8).binds (ps := ["plan", "number"]) fun _ _ _ _ _ _ us hl => match us, hl with | [_, _], _ => rfl⟩
  have D9 : DefAt K mg "later" s_later ["plan", "number"] f9 (PySem.W.fnOf "later" "later" (defArgs s_later) (defBody s_later) (defScope s_later) .none kV9 dc9 pm9 an9 cd9 ct9) := ⟨fun_mk (st := s_later) l9 c9 k9, PySem.W.mg_of X G a9, (fun_mk (st := s_later) l9 c9 k9).binds (ps := ["plan", "number"]) fun _ _ _ _ _ _ us hl => match us, hl with | [_, _], _ => rfl⟩
  have D10 : DefAt K mg "join_of" s_join_of ["plans"] f10 (PySem.W.fnOf "join_of" "join_of" (defArgs s_join_of) (defBody s_join_of) (defScope s_join_of) .none kV10 dc10 pm10 an10 cd10 ct10) := ⟨fun_mk (st := s_join_of) l10 c10 k10, PySem.W.mg_of X G a10, (fun_mk (st := s_join_of) l10 c10 k10).binds (ps := ["plans"]) fun _ _ _ _ _ _ us hl => match us, hl with | [_], _ => rfl⟩
  have D11 : DefAt K mg "joined" s_joined ["plans"] f11 (PySem.W.fnOf "joined" "joined" (defArgs s_joined) (defBody s_joined) (defScope s_joined) .none kV11 dc11 pm11 an11 cd11 ct11) := ⟨fun_mk (st := s_joined) l11 c11 k11, PySem.W.mg_of X G a11, (fun_mk (st := s_joined) l11 c11 k11).binds (ps := ["plans"]) fun _ _ _ _ _ _ us hl => match us, hl with | [_], _ => rfl⟩
  have D12 : DefAt K mg "need_two" s_need_two ["one", "other"] f12 (PySem.W.fnOf "need_two" "need_two" (defArgs s_need_two) (defBody s_need_two) (defScope s_need_two) .none kV12 dc12 pm12 an12 cd12 ct12) := ⟨fun_mk (st := s_need_two) l12 c12 k12, PySem.W.mg_of X G a12, (fun_mk (st := s_need_two) l12 c12 k12).binds (ps := ["one", "other"]) fun _ _ _ _ _ _ us hl => match us, hl with | [_, _], _ => rfl⟩
  have D13 : DefAt K mg "earlier_of" s_earlier_of ["one", "other"] f13 (PySem.W.fnOf "earlier_of" "earlier_of" (defArgs s_earlier_of) (defBody s_earlier_of) (defScope s_earlier_of) .none kV13 dc13 pm13 an13 cd13 ct13) := ⟨fun_mk (st := s_earlier_of) l13 c13 k13, PySem.W.mg_of X G a13, (fun_mk (st := s_earlier_of) l13 c13 k13).binds (ps := ["one", "other"]) fun _ _ _ _ _ _ us hl => match us, hl with | [_, _], _ => rfl⟩
  have D14 : DefAt K mg "earlier" s_earlier ["one", "other"] f14 (PySem.W.fnOf "earlier" "earlier" (defArgs s_earlier) (defBody s_earlier) (defScope s_earlier) .none kV14 dc14 pm14 an14 cd14 ct14) := ⟨fun_mk (st := s_earlier) l14 c14 k14, PySem.W.mg_of X G a14, (fun_mk (st := s_earlier) l14 c14 k14).binds (ps := ["one", "other"]) fun _ _ _ _ _ _ us hl => match us, hl with | [_, _], _ => rfl⟩
  have D15 : DefAt K mg "is_in" s_is_in ["one", "other"] f15 (PySem.W.fnOf "is_in" "is_in" (defArgs s_is_in) (defBody s_is_in) (defScope s_is_in) .none kV15 dc15 pm15 an15 cd15 ct15) := ⟨fun_mk (st := s_is_in) l15 c15 k15, PySem.W.mg_of X G a15, (fun_mk (st := s_is_in) l15 c15 k15).binds (ps := ["one", "other"]) fun _ _ _ _ _ _ us hl => match us, hl with | [_, _], _ => rfl⟩
  have D16 : DefAt K mg "is_within" s_is_within ["one", "other"] f16 (PySem.W.fnOf "is_within" "is_within" (defArgs s_is_within) (defBody s_is_within) (defScope s_is_within) .none kV16 dc16 pm16 an16 cd16 ct16) := ⟨fun_mk (st := s_is_within) l16 c16 k16, PySem.W.mg_of X G a16, (fun_mk (st := s_is_within) l16 c16 k16).binds (ps := ["one", "other"]) fun _ _ _ _ _ _ us hl => match us, hl with | [_, _], _ => rfl⟩
  have D17 : DefAt K mg "room_in" s_room_in ["one", "other"] f17 (PySem.W.fnOf "room_in" "room_in" (defArgs s_room_in) (defBody s_room_in) (defScope s_room_in) .none kV17 dc17 pm17 an17 cd17 ct17) := ⟨fun_mk (st := s_room_in) l17 c17 k17, PySem.W.mg_of X G a17, (fun_mk (st := s_room_in) l17 c17 k17).binds (ps := ["one", "other"]) fun _ _ _ _ _ _ us hl => match us, hl with | [_, _], _ => rfl⟩
  have D18 : DefAt K mg "room" s_room ["one", "other"] f18 (PySem.W.fnOf "room" "room" (defArgs s_room) (defBody s_room) (defScope s_room) .none kV18 dc18 pm18 an18 cd18 ct18) := ⟨fun_mk (st := s_room) l18 c18 k18, PySem.W.mg_of X G a18, (fun_mk (st := s_room) l18 c18 k18).binds (ps := ["one", "other"]) fun _ _ _ _ _ _ us hl => match us, hl with | [_, _], _ => rfl⟩
  have D19 : DefAt K mg "normal_of" s_normal_of ["plan"] f19 (PySem.W.fnOf "normal_of" "normal_of" (defArgs s_normal_of) (defBody s_normal_of) (defScope s_normal_of) .none kV19 dc19 pm19 an19 cd19 ct19) := ⟨fun_mk (st := s_normal_of) l19 c19 k19, PySem.W.mg_of X G a19, (fun_mk (st := s_normal_of) l19 c19 k19).binds (ps := ["plan"]) fun _ _ _ _ _ _ us hl => match us, hl with | [_], _ => rfl⟩
  have D20 : DefAt K mg "normal" s_normal ["plan"] f20 (PySem.W.fnOf "normal" "normal" (defArgs s_normal) (defBody s_normal) (defScope s_normal) .none kV20 dc20 pm20 an20 cd20 ct20) := ⟨fun_mk (st := s_normal) l20 c20 k20, PySem.W.mg_of X G a20, (fun_mk (st := s_normal) l20 c20 k20).binds (ps := ["plan"]) fun _ _ _ _ _ _ us hl => match us, hl with | [_], _ => rfl⟩
  have D21 : DefAt K mg "_law_draw" s__law_draw ["_law_state", "_law_size"] f21 (PySem.W.fnOf "_law_draw" "_law_draw" (defArgs s__law_draw) (defBody s__law_draw) (defScope s__law_draw) .none kV21 dc21 pm21 an21 cd21 ct21) := ⟨fun_mk (st := s__law_draw) l21 c21 k21, PySem.W.mg_of X G a21, (fun_mk (st := s__law_draw) l21 c21 k21).binds (ps := ["_law_state", "_law_size"]) fun _ _ _ _ _ _ us hl => match us, hl with | [_, _], _ => rfl⟩
  have D22 : DefAt K mg "_law_pick" s__law_pick ["_law_state", "_law_several"] f22 (PySem.W.fnOf "_law_pick" "_law_pick" (defArgs s__law_pick) (defBody s__law_pick) (defScope s__law_pick) .none kV22 dc22 pm22 an22 cd22 ct22) := ⟨fun_mk (st := s__law_pick) l22 c22 k22, PySem.W.mg_of X G a22, (fun_mk (st := s__law_pick) l22 c22 k22).binds (ps := ["_law_state", "_law_several"]) fun _ _ _ _ _ _ us hl => match us, hl with | [_, _], _ => rfl⟩
  have D23 : DefAt K mg "_law_words" s__law_words ["_law_state", "_law_many"] f23 (PySem.W.fnOf "_law_words" "_law_words" (defArgs s__law_words) (defBody s__law_words) (defScope s__law_words) .none kV23 dc23 pm23 an23 cd23 ct23) := ⟨fun_mk (st := s__law_words) l23 c23 k23, PySem.W.mg_of X G a23, (fun_mk (st := s__law_words) l23 c23 k23).binds (ps := ["_law_state", "_law_many"]) fun _ _ _ _ _ _ us hl => match us, hl with | [_, _], _ => rfl⟩
  have D24 : DefAt K mg "_law_row" s__law_row ["_law_state", "_law_words_here", "_law_wide"] f24 (PySem.W.fnOf "_law_row" "_law_row" (defArgs s__law_row) (defBody s__law_row) (defScope s__law_row) .none kV24 dc24 pm24 an24 cd24 ct24) := ⟨fun_mk (st := s__law_row) l24 c24 k24, PySem.W.mg_of X G a24, (fun_mk (st := s__law_row) l24 c24 k24).binds (ps := ["_law_state", "_law_words_here", "_law_wide"]) fun _ _ _ _ _ _ us hl => match us, hl with | [_, _, _], _ => rfl⟩
  have D25 : DefAt K mg "_law_put" s__law_put ["_law_row_here", "_law_num"] f25 (PySem.W.fnOf "_law_put" "_law_put" (defArgs s__law_put) (defBody s__law_put) (defScope s__law_put) .none kV25 dc25 pm25 an25 cd25 ct25) := ⟨fun_mk (st := s__law_put) l25 c25 k25, PySem.W.mg_of X G a25, (fun_mk (st := s__law_put) l25 c25 k25).binds (ps := ["_law_row_here", "_law_num"]) fun _ _ _ _ _ _ us hl => match us, hl with | [_, _], _ => rfl⟩
  have D26 : DefAt K mg "_law_join" s__law_join ["_law_rows_here"] f26 (PySem.W.fnOf "_law_join" "_law_join" (defArgs s__law_join) (defBody s__law_join) (defScope s__law_join) .none kV26 dc26 pm26 an26 cd26 ct26) := ⟨fun_mk (st := s__law_join) l26 c26 k26, PySem.W.mg_of X G a26, (fun_mk (st := s__law_join) l26 c26 k26).binds (ps := ["_law_rows_here"]) fun _ _ _ _ _ _ us hl => match us, hl with | [_], _ => rfl⟩
  have D27 : DefAt K mg "_law_norm" s__law_norm ["_law_row_here"] f27 (PySem.W.fnOf "_law_norm" "_law_norm" (defArgs s__law_norm) (defBody s__law_norm) (defScope s__law_norm) .none kV27 dc27 pm27 an27 cd27 ct27) := ⟨fun_mk (st := s__law_norm) l27 c27 k27, PySem.W.mg_of X G a27, (fun_mk (st := s__law_norm) l27 c27 k27).binds (ps := ["_law_row_here"]) fun _ _ _ _ _ _ us hl => match us, hl with | [_], _ => rfl⟩
  have D28 : DefAt K mg "_law_rows" s__law_rows ["_law_state", "_law_words_here", "_law_most", "_law_wide"] f28 (PySem.W.fnOf "_law_rows" "_law_rows" (defArgs s__law_rows) (defBody s__law_rows) (defScope s__law_rows) .none kV28 dc28 pm28 an28 cd28 ct28) := ⟨fun_mk (st := s__law_rows) l28 c28 k28, PySem.W.mg_of X G a28, (fun_mk (st := s__law_rows) l28 c28 k28).binds (ps := ["_law_state", "_law_words_here", "_law_most", "_law_wide"]) fun _ _ _ _ _ _ us hl => match us, hl with | [_, _, _, _], _ => rfl⟩
  have D29 : DefAt K mg "_law_within" s__law_within ["_law_one", "_law_two"] f29 (PySem.W.fnOf "_law_within" "_law_within" (defArgs s__law_within) (defBody s__law_within) (defScope s__law_within) .none kV29 dc29 pm29 an29 cd29 ct29) := ⟨fun_mk (st := s__law_within) l29 c29 k29, PySem.W.mg_of X G a29, (fun_mk (st := s__law_within) l29 c29 k29).binds (ps := ["_law_one", "_law_two"]) fun _ _ _ _ _ _ us hl => match us, hl with | [_, _], _ => rfl⟩
  have D30 : DefAt K mg "_law_two_right" s__law_two_right ["_law_one", "_law_two"] f30 (PySem.W.fnOf "_law_two_right" "_law_two_right" (defArgs s__law_two_right) (defBody s__law_two_right) (defScope s__law_two_right) .none kV30 dc30 pm30 an30 cd30 ct30) := ⟨fun_mk (st := s__law_two_right) l30 c30 k30, PySem.W.mg_of X G a30, (fun_mk (st := s__law_two_right) l30 c30 k30).binds (ps := ["_law_one", "_law_two"]) fun _ _ _ _ _ _ us hl => match us, hl with | [_, _], _ => rfl⟩
  have D31 : DefAt K mg "law" s_law ["_law_script"] fa (PySem.W.fnOf "law" "law" (defArgs s_law) (defBody s_law) (defScope s_law) .none kV31 dc31 pm31 an31 cd31 ct31) := ⟨fun_mk (st := s_law) l31 c31 k31, PySem.W.mg_of X G a31, (fun_mk (st := s_law) l31 c31 k31).binds (ps := ["_law_script"]) fun _ _ _ _ _ _ us hl => match us, hl with | [_], _ => rfl⟩
  refine ⟨(PySem.W.fnOf "law" "law" (defArgs s_law) (defBody s_law) (defScope s_law) .none kV31 dc31 pm31 an31 cd31 ct31), fun s v => .of_eq rfl, fun base _ _ => ?_⟩
  have G0 := ok__law_begun (P := l.prog) (w := w) (base := base) D0 T
  have G1 := ok_is_number (P := l.prog) (w := w) (base := base) D1 T
  have G2 := ok_is_list (P := l.prog) (w := w) (base := base) D2 T
  have G3 := ok_is_name (P := l.prog) (w := w) (base := base) D3 T
  have G4 := ok_is_pair (P := l.prog) (w := w) (base := base) D4 T D3 G3 D1 G1
  have G5 := ok_are_pairs (P := l.prog) (w := w) (base := base) D5 T D4 G4
  have G6 := ok_need_plan (P := l.prog) (w := w) (base := base) D6 T D5 G5
  have G7 := ok_need_number (P := l.prog) (w := w) (base := base) D7 T D1 G1
  have G8 := ok_put_by (P := l.prog) (w := w) (base := base) D8 T
  have G9 := ok_later (P := l.prog) (w := w) (base := base) D9 T D6 G6 D7 G7 D8 G8
  have G10 := ok_join_of (P := l.prog) (w := w) (base := base) D10 T
  have G11 := ok_joined (P := l.prog) (w := w) (base := base) D11 T D2 G2 D5 G5 D10 G10
  have G12 := ok_need_two (P := l.prog) (w := w) (base := base) D12 T D6 G6
  have G13 := ok_earlier_of (P := l.prog) (w := w) (base := base) D13 T
  have G14 := ok_earlier (P := l.prog) (w := w) (base := base) D14 T D12 G12 D13 G13
  have G15 := ok_is_in (P := l.prog) (w := w) (base := base) D15 T
  have G16 := ok_is_within (P := l.prog) (w := w) (base := base) D16 T D12 G12 D15 G15
  have G17 := ok_room_in (P := l.prog) (w := w) (base := base) D17 T
  have G18 := ok_room (P := l.prog) (w := w) (base := base) D18 T D12 G12 D17 G17
  have G19 := ok_normal_of (P := l.prog) (w := w) (base := base) D19 T D8 G8
  have G20 := ok_normal (P := l.prog) (w := w) (base := base) D20 T D6 G6 D19 G19
  have G21 := ok__law_draw (P := l.prog) (w := w) (base := base) D21 T
  have G22 := ok__law_pick (P := l.prog) (w := w) (base := base) D22 T D21 G21
  have G23 := ok__law_words (P := l.prog) (w := w) (base := base) D23 T D21 G21 D22 G22
  have G24 := ok__law_row (P := l.prog) (w := w) (base := base) D24 T D22 G22 D21 G21
  have G25 := ok__law_put (P := l.prog) (w := w) (base := base) D25 T
  have G26 := ok__law_join (P := l.prog) (w := w) (base := base) D26 T
  have G27 := ok__law_norm (P := l.prog) (w := w) (base := base) D27 T D25 G25
  have G28 := ok__law_rows (P := l.prog) (w := w) (base := base) D28 T D21 G21 D24 G24
  have G29 := ok__law_within (P := l.prog) (w := w) (base := base) D29 T
  have G30 := ok__law_two_right (P := l.prog) (w := w) (base := base) D30 T D14 G14 D16 G16 D29 G29 D18 G18 D25 G25
  exact ok_law D31 T D0 G0 right D23 G23 D21 G21 D28 G28 D22 G22 D11 G11 D26 G26 D9 G9 D25 G25 D20 G20 D27 G27 D30 G30 D14 G14 D16 G16
end
end Pg
open PySem PySem.W PyProof.Rows Fx in
set_option maxRecDepth 100000 in
set_option maxHeartbeats 0 in
theorem PySem.Challenge.cw_lastmakers_k03_plans_put_off_and_joined_holds : PySem.Challenge.rw_lastmakers_k03_plans_put_off_and_joined.Holds := by
  w_on; o_law; k_head; (case hw => w_witness2)
  k_fill
  refine Fx.walk_lawG (l := PySem.Challenge.rw_lastmakers_k03_plans_put_off_and_joined) (k := 8) (x := "_law_script") rfl rfl ⟨rfl, by decide, by decide⟩ (fun w h Y => PySem.W.kIn_of Y) ?F
  case F =>
    intro w mg fa h KX G hmg
    refine' Pg.all_mk KX G hmg ?a0 ?l0 ?c0 ?k0 ?a1 ?l1 ?c1 ?k1 ?a2 ?l2 ?c2 ?k2 ?a3 ?l3 ?c3 ?k3 ?a4 ?l4 ?c4 ?k4 ?a5 ?l5 ?c5 ?k5 ?a6 ?l6 ?c6 ?k6 ?a7 ?l7 ?c7 ?k7 ?a8 ?l8 ?c8 ?k8 ?a9 ?l9 ?c9 ?k9 ?a10 ?l10 ?c10 ?k10 ?a11 ?l11 ?c11 ?k11 ?a12 ?l12 ?c12 ?k12 ?a13 ?l13 ?c13 ?k13 ?a14 ?l14 ?c14 ?k14 ?a15 ?l15 ?c15 ?k15 ?a16 ?l16 ?c16 ?k16 ?a17 ?l17 ?c17 ?k17 ?a18 ?l18 ?c18 ?k18 ?a19 ?l19 ?c19 ?k19 ?a20 ?l20 ?c20 ?k20 ?a21 ?l21 ?c21 ?k21 ?a22 ?l22 ?c22 ?k22 ?a23 ?l23 ?c23 ?k23 ?a24 ?l24 ?c24 ?k24 ?a25 ?l25 ?c25 ?k25 ?a26 ?l26 ?c26 ?k26 ?a27 ?l27 ?c27 ?k27 ?a28 ?l28 ?c28 ?k28 ?a29 ?l29 ?c29 ?k29 ?a30 ?l30 ?c30 ?k30 ?a31 ?l31 ?c31 ?k31 ?b_abs ?b_all ?b_bool ?b_dict ?b_enumerate ?b_int ?b_isinstance ?b_len ?b_list ?b_max ?b_min ?b_range ?b_repr ?b_sorted ?b_str ?b_tuple ?b_zip ?g_LETTERS ?g_MOST_LETTERS ?n_Book ?n_Plans ?n_RoundBook ?n_Stand ?n_Held ?n_Live ?n_Desk
    (case a0 => k_is); (case l0 => k_is); (case c0 => k_is); (case k0 => k_is)
    (case a1 => k_is); (case l1 => k_is); (case c1 => k_is); (case k1 => k_is)
    (case a2 => k_is); (case l2 => k_is); (case c2 => k_is); (case k2 => k_is)
    (case a3 => k_is); (case l3 => k_is); (case c3 => k_is); (case k3 => k_is)
    (case a4 => k_is); (case l4 => k_is); (case c4 => k_is); (case k4 => k_is)
    (case a5 => k_is); (case l5 => k_is); (case c5 => k_is); (case k5 => k_is)
    (case a6 => k_is); (case l6 => k_is); (case c6 => k_is); (case k6 => k_is)
    (case a7 => k_is); (case l7 => k_is); (case c7 => k_is); (case k7 => k_is)
    (case a8 => k_is); (case l8 => k_is); (case c8 => k_is); (case k8 => k_is)
    (case a9 => k_is); (case l9 => k_is); (case c9 => k_is); (case k9 => k_is)
    (case a10 => k_is); (case l10 => k_is); (case c10 => k_is); (case k10 => k_is)
    (case a11 => k_is); (case l11 => k_is); (case c11 => k_is); (case k11 => k_is)
    (case a12 => k_is); (case l12 => k_is); (case c12 => k_is); (case k12 => k_is)
    (case a13 => k_is); (case l13 => k_is); (case c13 => k_is); (case k13 => k_is)
    (case a14 => k_is); (case l14 => k_is); (case c14 => k_is); (case k14 => k_is)
    (case a15 => k_is); (case l15 => k_is); (case c15 => k_is); (case k15 => k_is)
    (case a16 => k_is); (case l16 => k_is); (case c16 => k_is); (case k16 => k_is)
    (case a17 => k_is); (case l17 => k_is); (case c17 => k_is); (case k17 => k_is)
    (case a18 => k_is); (case l18 => k_is); (case c18 => k_is); (case k18 => k_is)
    (case a19 => k_is); (case l19 => k_is); (case c19 => k_is); (case k19 => k_is)
    (case a20 => k_is); (case l20 => k_is); (case c20 => k_is); (case k20 => k_is)
    (case a21 => k_is); (case l21 => k_is); (case c21 => k_is); (case k21 => k_is)
    (case a22 => k_is); (case l22 => k_is); (case c22 => k_is); (case k22 => k_is)
    (case a23 => k_is); (case l23 => k_is); (case c23 => k_is); (case k23 => k_is)
    (case a24 => k_is); (case l24 => k_is); (case c24 => k_is); (case k24 => k_is)
    (case a25 => k_is); (case l25 => k_is); (case c25 => k_is); (case k25 => k_is)
    (case a26 => k_is); (case l26 => k_is); (case c26 => k_is); (case k26 => k_is)
    (case a27 => k_is); (case l27 => k_is); (case c27 => k_is); (case k27 => k_is)
    (case a28 => k_is); (case l28 => k_is); (case c28 => k_is); (case k28 => k_is)
    (case a29 => k_is); (case l29 => k_is); (case c29 => k_is); (case k29 => k_is)
    (case a30 => k_is); (case l30 => k_is); (case c30 => k_is); (case k30 => k_is)
    (case a31 => k_is); (case l31 => k_is); (case c31 => k_is); (case k31 => k_is)
    (case b_abs => k_is); (case b_all => k_is); (case b_bool => k_is); (case b_dict => k_is)
    (case b_enumerate => k_is); (case b_int => k_is); (case b_isinstance => k_is); (case b_len => k_is)
    (case b_list => k_is); (case b_max => k_is); (case b_min => k_is); (case b_range => k_is)
    (case b_repr => k_is); (case b_sorted => k_is); (case b_str => k_is); (case b_tuple => k_is)
    (case b_zip => k_is); (case g_LETTERS => k_is); (case g_MOST_LETTERS => k_is); (case n_Book => k_is)
    (case n_Plans => k_is); (case n_RoundBook => k_is); (case n_Stand => k_is); (case n_Held => k_is)
    (case n_Live => k_is); (case n_Desk => k_is)
