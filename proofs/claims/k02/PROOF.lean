import PyProof.Rows.All
import Wide.All
import OpenK.AllK
import Wide.FinOn
import HandS.ForMost
import HandS.Lambda
import HandS.ForExc
import HandS.Deep
import HandS.TupAny
import HandS.CallSlots
import HandS.Walk
import HandS.TryOnly
import HandS.Zip
import HandS.DictComp
import KE.GoesMore
import KE.GoesEnum
import HandS.IsInst
import KE.DataEq
import HandS.Wide
import HandS.Conv
import KE.SortData
import KE.KDictPairs
import PyProof.ReprRoads
import PyProof.Rows.RuleB_pow
import HandS.SortKw
import HandS.DictTup
import HandS.ListItems
import HandS.WordsDict
import KE.KDictItemsList
import HandS.TupLen
import PyProof.CallFns
import HandS.EndTab
import HandS.Property
import HandS.Iter
import HandS.Finally
import HandS.TupSets
import KE.KeyNested
import KE.KDictKeyed
import KE.GoesSet
import HandS.SetKeys
import HandS.Star
import HandS.Style
import PyProof.InstNe
import HandS.Set
import KE.KDictList
import HandS.Flow
import HandS.ExcIs
import HandS.ExcField
import KE.KExcIs
import KE.DataFind
import HandS.ExcInit
import KE.KExcSuper
import KE.KExcMake
import HandS.HeadHook1
import HandS.JoinGen
import HandS.Head0
import HandS.Head1
import HandS.Head2
import HandS.HeadHook2
import KE.KxText
import PyProof.ReprBulk
import PySem.Challenge.RW_lastmakers_k02_plans_judged
set_option Elab.async false
set_option linter.all false
set_option maxRecDepth 100000
set_option maxHeartbeats 4000000
set_option synthInstance.maxSize 1024
set_option synthInstance.maxHeartbeats 400000
namespace Fx
open PySem L2

/-- what is known of the program: the written part, the module's names -/
structure Ck where
  K : PySem.W.Frag
  mg : Str → Option Value
instance : Coe Ck PySem.W.Frag := ⟨Ck.K⟩
/-- the classes whose objects are seen as data -/
def isCls (nm : Str) : Bool := decide (nm ∈ (["Book", "Plans", "RoundBook", "Stand", "Held", "Live", "Desk"] : List Str))
/-- an object as data: its class's name, its fields -/
def flds : List (Str × PyData) → List (PyData × PyData)
  | [] => []
  | (n, d) :: r => (.str n, d) :: flds r
def objD (nm : Str) (fs : List (Str × PyData)) : PyData := .dict ((.list [], .str nm) :: flds fs)
/-- an exception that was kept; a function of the module -/
def errD (nm : Str) (fs : List (Str × PyData)) : PyData := .dict ((.list [.none], .str nm) :: flds fs)
def fnD (nm : Str) : PyData := .dict [(.list [.none, .none], .str nm)]
/-- the object of an exception: its class, its own dict -/
def ErC (cls : Value) (d : Option Addr) (a : Addr) : HO := .ext fun h => ∃ (oe : Obj) (vs : Array Value), h.get? a = some oe ∧ Zc cls d oe ∧ oe.data = .fields vs
/-- its own dict -/
def ErD (F : Hp) (d : Option Addr) (fs : List (Str × V)) : Prop := (d = none ∧ fs = []) ∨ ∃ dx, d = some dx ∧ F dx = some (.xd fs)
def keyD : Key → PyData
  | .inl i => .int i
  | .inr x => .str x

/-- a list that may be read: one of the heap, or one of the module's own -/
def SqLx (K : Ck) (H : Hp) (a : Addr) (xs : List V) : Prop := Rd H a (.lst xs) ∨ ∃ (its : Array Value) (n : Nat), K.K.lookup a = some { cls := .type "list", data := .seq its n } ∧ its.size ≤ sizeLine ∧ Vals xs its.toList
theorem SqLx.sql {K : Ck} {H : Hp} {a : Addr} {xs : List V} (h : SqLx K H a xs) : SqL K H a xs := by
  rcases h with h | ⟨its, n, h1, h2, h3⟩
  · exact .inl h
  · exact .inr ⟨_, its, n, h1, rfl, rfl, rfl, h2, h3⟩
/-- a tuple of whom all is known; one that is no tuple of tuples -/
def PlT (F : Hp) (a : Addr) (vs : List V) : Prop := ∃ o, F a = some (.frz o (.tup vs)) ∧ o.dict = none
def notT : PyData → Bool
  | .tuple _ => false
  | .list _ => false
  | _ => true
def TupOk (F : Hp) (a : Addr) (vs : List V) (ds : List PyData) : Prop := (F a = some (.tup vs) ∧ ds.any notT = true) ∨ PlT F a vs
mutual
inductive Rp (K : Ck) (F : Hp) : V → PyData → Prop
  | non : Rp K F .non .none
  | bl (b : Bool) : Rp K F (.bl b) (.bool b)
  | int (i : Int) : Rp K F (.int i) (.int i)
  | str (x : Str) : Rp K F (.str x) (.str x)
  | lst {a : Addr} {vs : List V} {ds : List PyData} : SqLx K F a vs → RpA K F vs ds → Rp K F (.ref a) (.list ds)
  | tup {a : Addr} {vs : List V} {ds : List PyData} : SqT K F a vs → TupOk F a vs ds → RpA K F vs ds → Rp K F (.ref a) (.tuple ds)
  | dK {a : Addr} {kvs : List (Key × V)} {ds : List (PyData × PyData)} : Rd F a (.dK kvs) → RpK K F kvs ds → Rp K F (.ref a) (.dict ds)
  | dT {a : Addr} {kvs : List (List Key × V)} {ds : List (PyData × PyData)} : F a = some (.dT kvs) → RpT K F kvs ds → ds ≠ [] → Rp K F (.ref a) (.dict ds)
  | obj {a dx C : Addr} {nm : Str} {fs : List (Str × V)} {ds : List (Str × PyData)} : F a = some (.ins C dx fs) → K.mg nm = some (.ref C) → isCls nm = true → RpF K F fs ds → Rp K F (.ref a) (objD nm ds)
  | exc {a C : Addr} {d : Option Addr} {nm : Str} {fs : List (Str × V)} {ds : List (Str × PyData)} : F a = some (ErC (.ref C) d a) → K.mg nm = some (.ref C) → ErD F d fs → RpF K F fs ds → Rp K F (.ref a) (errD nm ds)
  | fn {f : Addr} {nm : Str} : K.mg nm = some (.ref f) → Rp K F (.ref f) (fnD nm)
inductive RpA (K : Ck) (F : Hp) : List V → List PyData → Prop
  | nil : RpA K F [] []
  | cons {v : V} {vs : List V} {d : PyData} {ds : List PyData} : Rp K F v d → RpA K F vs ds → RpA K F (v :: vs) (d :: ds)
inductive RpK (K : Ck) (F : Hp) : List (Key × V) → List (PyData × PyData) → Prop
  | nil : RpK K F [] []
  | cons {k : Key} {v : V} {kvs : List (Key × V)} {d : PyData} {ds : List (PyData × PyData)} : Rp K F v d → RpK K F kvs ds → RpK K F ((k, v) :: kvs) ((keyD k, d) :: ds)
inductive RpT (K : Ck) (F : Hp) : List (List Key × V) → List (PyData × PyData) → Prop
  | nil : RpT K F [] []
  | cons {k : List Key} {v : V} {kvs : List (List Key × V)} {d : PyData} {ds : List (PyData × PyData)} : Rp K F v d → RpT K F kvs ds → RpT K F ((k, v) :: kvs) ((.tuple (k.map keyD), d) :: ds)
inductive RpF (K : Ck) (F : Hp) : List (Str × V) → List (Str × PyData) → Prop
  | nil : RpF K F [] []
  | cons {n : Str} {v : V} {fs : List (Str × V)} {d : PyData} {ds : List (Str × PyData)} : Rp K F v d → RpF K F fs ds → RpF K F ((n, v) :: fs) ((n, d) :: ds)
end

/-- one heap's objects stand in another one as well -/
def Le (F F' : Hp) : Prop := ∀ a o, F a = some o → F' a = some o
theorem Le.refl (F : Hp) : Le F F := fun _ _ h => h
theorem Le.trans {F F1 F2 : Hp} (a : Le F F1) (b : Le F1 F2) : Le F F2 := fun x o h => b x o (a x o h)
theorem Le.tok {F F' : Hp} {a : Addr} {vs : List V} {ds : List PyData} (e : Le F F') (h : TupOk F a vs ds) : TupOk F' a vs ds := by
  rcases h with ⟨h, k⟩ | ⟨o, h, k⟩
  · exact .inl ⟨e _ _ h, k⟩
  · exact .inr ⟨o, e _ _ h, k⟩
theorem Le.sql {K : Ck} {F F' : Hp} {a : Addr} {xs : List V} (e : Le F F') (h : SqL K F a xs) : SqL K F' a xs := by
  rcases h with (h | ⟨o, h⟩) | h
  · exact .inl (.inl (e _ _ h))
  · exact .inl (.inr ⟨o, e _ _ h⟩)
  · exact .inr h
theorem Le.rd {F F' : Hp} {a : Addr} {u : HO} (e : Le F F') (h : Rd F a u) : Rd F' a u := by
  rcases h with h | ⟨o, h⟩
  · exact .inl (e _ _ h)
  · exact .inr ⟨o, e _ _ h⟩
theorem Le.sqx {K : Ck} {F F' : Hp} {a : Addr} {xs : List V} (e : Le F F') (h : SqLx K F a xs) : SqLx K F' a xs := h.imp e.rd id
theorem Le.sqt {K : Ck} {F F' : Hp} {a : Addr} {xs : List V} (e : Le F F') (h : SqT K F a xs) : SqT K F' a xs := by
  rcases h with (h | ⟨o, h⟩) | h
  · exact .inl (.inl (e _ _ h))
  · exact .inl (.inr ⟨o, e _ _ h⟩)
  · exact .inr h

mutual
theorem Rp.mono {K : Ck} {F F' : Hp} (e : Le F F') : ∀ {v : V} {d : PyData}, Rp K F v d → Rp K F' v d
  | _, _, .non => .non
  | _, _, .bl b => .bl b
  | _, _, .int i => .int i
  | _, _, .str x => .str x
  | _, _, .lst h r => .lst (e.sqx h) (RpA.mono e r)
  | _, _, .tup h k r => .tup (e.sqt h) (e.tok k) (RpA.mono e r)
  | _, _, .dK h r => .dK (e.rd h) (RpK.mono e r)
  | _, _, .dT h r n => .dT (e _ _ h) (RpT.mono e r) n
  | _, _, .obj h m i r => .obj (e _ _ h) m i (RpF.mono e r)
  | _, _, .exc h m d r => .exc (e _ _ h) m (d.imp id fun ⟨dx, q1, q2⟩ => ⟨dx, q1, e _ _ q2⟩) (RpF.mono e r)
  | _, _, .fn m => .fn m
theorem RpA.mono {K : Ck} {F F' : Hp} (e : Le F F') : ∀ {vs : List V} {ds : List PyData}, RpA K F vs ds → RpA K F' vs ds
  | _, _, .nil => .nil
  | _, _, .cons r t => .cons (Rp.mono e r) (RpA.mono e t)
theorem RpK.mono {K : Ck} {F F' : Hp} (e : Le F F') : ∀ {vs : List (Key × V)} {ds : List (PyData × PyData)}, RpK K F vs ds → RpK K F' vs ds
  | _, _, .nil => .nil
  | _, _, .cons r t => .cons (Rp.mono e r) (RpK.mono e t)
theorem RpT.mono {K : Ck} {F F' : Hp} (e : Le F F') : ∀ {vs : List (List Key × V)} {ds : List (PyData × PyData)}, RpT K F vs ds → RpT K F' vs ds
  | _, _, .nil => .nil
  | _, _, .cons r t => .cons (Rp.mono e r) (RpT.mono e t)
theorem RpF.mono {K : Ck} {F F' : Hp} (e : Le F F') : ∀ {vs : List (Str × V)} {ds : List (Str × PyData)}, RpF K F vs ds → RpF K F' vs ds
  | _, _, .nil => .nil
  | _, _, .cons r t => .cons (Rp.mono e r) (RpF.mono e t)
end

theorem RpA.length {K : Ck} {F : Hp} : ∀ {vs : List V} {ds : List PyData}, RpA K F vs ds → vs.length = ds.length
  | _, _, .nil => rfl
  | _, _, .cons _ t => by simp [RpA.length t]
theorem RpA.get {K : Ck} {F : Hp} : ∀ {vs : List V} {ds : List PyData} {i : Nat} {v : V}, RpA K F vs ds → vs[i]? = some v → ∃ d, ds[i]? = some d ∧ Rp K F v d
  | _, _, _, _, .nil, e => by simp at e
  | _, _, 0, _, .cons r _, e => by simp at e; subst e; exact ⟨_, rfl, r⟩
  | _, _, i + 1, v, .cons _ t, e => by
    obtain ⟨d, h1, h2⟩ := RpA.get (i := i) (v := v) t (by simpa using e)
    exact ⟨d, by simpa using h1, h2⟩
theorem RpA.get' {K : Ck} {F : Hp} : ∀ {vs : List V} {ds : List PyData} {i : Nat} {d : PyData}, RpA K F vs ds → ds[i]? = some d → ∃ v, vs[i]? = some v ∧ Rp K F v d
  | _, _, _, _, .nil, e => by simp at e
  | _, _, 0, _, .cons r _, e => by simp at e; subst e; exact ⟨_, rfl, r⟩
  | _, _, i + 1, d, .cons _ t, e => by
    obtain ⟨v, h1, h2⟩ := RpA.get' (i := i) (d := d) t (by simpa using e)
    exact ⟨v, by simpa using h1, h2⟩
theorem RpA.append {K : Ck} {F : Hp} : ∀ {vs ws : List V} {ds es : List PyData}, RpA K F vs ds → RpA K F ws es → RpA K F (vs ++ ws) (ds ++ es)
  | _, _, _, _, .nil, s => s
  | _, _, _, _, .cons r t, s => .cons r (RpA.append t s)
theorem RpA.take {K : Ck} {F : Hp} : ∀ {vs : List V} {ds : List PyData} (n : Nat), RpA K F vs ds → RpA K F (vs.take n) (ds.take n)
  | _, _, 0, _ => by simpa using RpA.nil
  | _, _, n + 1, .nil => .nil
  | _, _, n + 1, .cons r t => by simpa using RpA.cons r (RpA.take n t)
theorem RpA.drop {K : Ck} {F : Hp} : ∀ {vs : List V} {ds : List PyData} (n : Nat), RpA K F vs ds → RpA K F (vs.drop n) (ds.drop n)
  | _, _, 0, r => r
  | _, _, n + 1, .nil => .nil
  | _, _, n + 1, .cons _ t => by simpa using RpA.drop n t
theorem RpA.set {K : Ck} {F : Hp} {v : V} {d : PyData} (r : Rp K F v d) : ∀ {vs : List V} {ds : List PyData} (i : Nat), RpA K F vs ds → RpA K F (vs.set i v) (ds.set i d)
  | _, _, _, .nil => .nil
  | _, _, 0, .cons _ t => .cons r t
  | _, _, i + 1, .cons q t => .cons q (RpA.set r i t)
theorem RpA.eraseIdx {K : Ck} {F : Hp} : ∀ {vs : List V} {ds : List PyData} (i : Nat), RpA K F vs ds → RpA K F (vs.eraseIdx i) (ds.eraseIdx i)
  | _, _, _, .nil => .nil
  | _, _, 0, .cons _ t => t
  | _, _, i + 1, .cons q t => .cons q (RpA.eraseIdx i t)
theorem RpA.reverse {K : Ck} {F : Hp} {vs : List V} {ds : List PyData} (h : RpA K F vs ds) : RpA K F vs.reverse ds.reverse := by
  induction vs generalizing ds with
  | nil => cases h; exact .nil
  | cons v vs ih =>
    cases h with
    | cons r t => simpa using (ih t).append (.cons r .nil)
theorem RpA.nil_iff {K : Ck} {F : Hp} {vs : List V} {ds : List PyData} (h : RpA K F vs ds) : vs = [] ↔ ds = [] := by
  cases h <;> simp

/-- what is frozen stands in the heap (a dict may be locked) -/
def Sub (F H : Hp) : Prop := ∀ a o, F a = some o → H a = some o
theorem Sub.le {F H : Hp} (s : Sub F H) : Le F H := s

/-- where the law's state stands, and how many draws there may still be -/
structure Gs where
  q : Option (Addr × Addr × Addr)
  ls : List Int := []
  cs : List Int := []
  rest : Int := 0
  turn : Int := 0
  tt : Bool := false
structure Sta where
  M : Addr → Prop
  T : List (Addr × Str)
  J : Gs → Hp → Prop
  ok : ∀ g H H', J g H → (∀ a, M a → H' a = H a) → J g H'
  there : ∀ g H a, J g H → M a → H a ≠ none
  tm : ∀ p ∈ T, M p.1
/-- the tables of code objects: whose lambdas' codes they tell; these are known for good -/
def Tb (S : Sta) (F H : Hp) : Prop := ∀ p ∈ S.T, ∃ ps : Array Value, H p.1 = some (.tbl ps) ∧ TriplesOk ps.toList ∧ ∀ (pos : Pos) (cv : Value), codeAmong pos ps.toList = some cv → ∃ c, cv = .ref c ∧ F c = some (LamX.CodeO c p.2)
theorem Tb.to {S : Sta} {F H F' H' : Hp} (h : Tb S F H) (le : ∀ a o, F a = some o → F' a = some o) (k : ∀ a ps, S.M a → H a = some (.tbl ps) → H' a = some (.tbl ps)) : Tb S F' H' := fun p hp => by
  obtain ⟨ps, h1, h2, h3⟩ := h p hp
  refine ⟨ps, k _ _ (S.tm p hp) h1, h2, fun pos cv hc => ?_⟩
  obtain ⟨c, e1, e2⟩ := h3 pos cv hc
  exact ⟨c, e1, le _ _ e2⟩
theorem Tb.upd {S : Sta} {F H F' : Hp} {p : Addr} {o : HO} (h : Tb S F H) (le : ∀ a o, F a = some o → F' a = some o) (hp : ∀ ps, H p ≠ some (.tbl ps)) : Tb S F' (upd H p o) := h.to le fun a ps _ e => by rw [upd_ne (fun z => hp ps (by rw [← z]; exact e))]; exact e
theorem Tb.off {S : Sta} {F H : Hp} {p : Addr} {o : HO} (h : Tb S F H) (nM : ¬ S.M p) : Tb S F (L2.upd H p o) := h.to (fun _ _ e => e) fun a ps m e => (upd_ne fun (z : a = p) => nM (z ▸ m)).trans e
/-- the law's state: a dict, the large numbers left, the cells -/
structure LawAt (d l c : Addr) (ls cs : List Int) (rest turn : Int) (H : Hp) : Prop where
  dl : d ≠ l
  dc : d ≠ c
  lc : l ≠ c
  hd : H d = some (.dK [(.inr "large", .ref l), (.inr "cells", .ref c), (.inr "rest", .int rest), (.inr "turn", .int turn)])
  hl : H l = some (.lst (ls.map V.int))
  hc : H c = some (.lst (cs.map V.int))
/-- where the law's state stands; the tables of codes -/
abbrev SQ := Option (Addr × Addr × Addr) × List (Addr × Str)
def staOf : SQ → Sta
  | (.none, T) => ⟨fun a => ∃ s, (a, s) ∈ T, T, fun g H => g.q = .none ∧ (∀ p ∈ T, H p.1 ≠ none) ∧ (g.tt = true → T ≠ []), fun _ _ _ h k => ⟨h.1, fun p hp => by rw [k _ ⟨p.2, hp⟩]; exact h.2.1 p hp, h.2.2⟩, fun _ _ _ h m => let ⟨s, hs⟩ := m; h.2.1 _ hs, fun p hp => ⟨p.2, hp⟩⟩
  | (some (d, l, c), T) => ⟨fun a => (a = d ∨ a = l ∨ a = c) ∨ ∃ s, (a, s) ∈ T, T, fun g H => (g.q = some (d, l, c) ∧ LawAt d l c g.ls g.cs g.rest g.turn H) ∧ (∀ p ∈ T, H p.1 ≠ none) ∧ (g.tt = true → T ≠ []), fun g H H' h k =>
      ⟨⟨h.1.1, ⟨h.1.2.dl, h.1.2.dc, h.1.2.lc, by rw [k d (.inl (.inl rfl))]; exact h.1.2.hd, by rw [k l (.inl (.inr (.inl rfl)))]; exact h.1.2.hl, by rw [k c (.inl (.inr (.inr rfl)))]; exact h.1.2.hc⟩⟩, fun p hp => by rw [k _ (.inr ⟨p.2, hp⟩)]; exact h.2.1 p hp, h.2.2⟩, fun g H a h m => by
      obtain ⟨⟨h0, L⟩, ht, _⟩ := h
      rcases m with (rfl | rfl | rfl) | ⟨s, hs⟩
      · rw [L.hd]; exact fun z => by cases z
      · rw [L.hl]; exact fun z => by cases z
      · rw [L.hc]; exact fun z => by cases z
      · exact ht _ hs, fun p hp => .inr ⟨p.2, hp⟩⟩
/-- where the table of codes of the def at f stands -/
def tabOf (K : PySem.W.Frag) (f : Addr) : Option Addr := match K.lookup f with
  | some ⟨_, _, .func fd, _⟩ => (match fd.code with
    | .ref c => (match K.lookup c with
      | some ⟨_, _, .fields vs, _⟩ => (match (vs[11]? : Option Value) with
        | some (.ref P) => some P
        | _ => none)
      | _ => none)
    | _ => none)
  | _ => none
/-- defs whose lambdas may be made -/
def lamDefs : List Str := ["law", "_law_book_right", "_law_refused", "_law_full_right", "_law_others_right", "_law_refuses", "_law_gaps_right", "_law_strikes_right", "_law_led_right", "_law_words_of", "_law_two_right", "_law_forms_right", "_law_sides_right", "_law_read_right", "_law_changed_right"]
def lamT (K : Ck) : List (Addr × Str) := lamDefs.filterMap fun x => match K.mg x with
  | some (.ref f) => (tabOf K.K f).map fun P => (P, x ++ ".<locals>.<lambda>")
  | _ => none
def StaOk (K : Ck) (S : Sta) : Prop := ∃ q : SQ, S = staOf q ∧ (q.2 ≠ [] → q.2 = lamT K)
/-- from one moment to the next, while an expression is looked at -/
structure Ext (S : Sta) (F H F' H' : Hp) : Prop where
  keep : ∀ a o, H a = some o → ¬ S.M a → H' a = some o
  grow : ∀ a, H a ≠ Option.none → F' a = F a
  le : Le F F'
  sub : Sub F' H'
  tb : Tb S F H → Tb S F' H'
theorem Ext.refl {S : Sta} {F H : Hp} (s : Sub F H) : Ext S F H F H := ⟨fun _ _ h _ => h, fun _ _ => rfl, Le.refl F, s, fun h => h⟩
theorem Ext.trans {S : Sta} {g1 : Gs} {F H F1 H1 F2 H2 : Hp} (a : Ext S F H F1 H1) (b : Ext S F1 H1 F2 H2) (j : S.J g1 H1) : Ext S F H F2 H2 where
  keep := fun x o h m => b.keep x o (a.keep x o h m) m
  grow := fun x h => by
    have : H1 x ≠ Option.none := by
      by_cases m : S.M x
      · exact S.there _ _ _ j m
      · cases e : H x with
        | none => exact absurd e h
        | some o => rw [a.keep x o e m]; exact fun z => by cases z
    rw [b.grow x this, a.grow x h]
  le := a.le.trans b.le
  sub := b.sub
  tb := fun h => b.tb (a.tb h)
theorem Ext.there {S : Sta} {g1 : Gs} {F H F1 H1 : Hp} (a : Ext S F H F1 H1) (j : S.J g1 H1) {x : Addr} (h : H x ≠ Option.none) : H1 x ≠ Option.none := by
  by_cases m : S.M x
  · exact S.there _ _ _ j m
  · cases e : H x with
    | none => exact absurd e h
    | some o => rw [a.keep x o e m]; exact fun z => by cases z
theorem Ext.free {S : Sta} {g1 : Gs} {F H F1 H1 : Hp} (a : Ext S F H F1 H1) (j : S.J g1 H1) {x : Addr} (h : H1 x = Option.none) : H x = Option.none := by
  cases e : H x with
  | none => rfl
  | some o => exact absurd h (a.there j (by rw [e]; exact fun z => by cases z))
theorem Sub.free {F H : Hp} (s : Sub F H) {a : Addr} (h : H a = none) : F a = none := by
  cases e : F a with
  | none => rfl
  | some o => rw [s _ _ e] at h; cases h
/-- a new object, frozen at once | left out of the frozen ones -/
theorem Ext.new {S : Sta} {F H : Hp} {p : Addr} {o : HO} (s : Sub F H) (h : H p = none) : Ext S F H (upd F p o) (upd H p o) where
  keep := fun x u e _ => by rw [upd_ne (ne_of_none e h)]; exact e
  grow := fun x e => by rw [upd_ne (fun z => e (by rw [z]; exact h))]
  le := fun x u e => by rw [upd_ne (ne_of_none (s _ _ e) h)]; exact e
  sub := fun x u e => by
    by_cases z : x = p
    · subst z; rw [upd_same] at e ⊢; exact e
    · rw [upd_ne z] at e ⊢; exact s _ _ e
  tb := fun t => t.upd (fun x u e => by rw [upd_ne (ne_of_none (s _ _ e) h)]; exact e) fun ps z => by rw [h] at z; cases z
theorem Ext.own {S : Sta} {F H : Hp} {p : Addr} {o : HO} (s : Sub F H) (h : H p = none) : Ext S F H F (upd H p o) where
  keep := fun x u e _ => by rw [upd_ne (ne_of_none e h)]; exact e
  grow := fun x e => rfl
  le := Le.refl F
  sub := fun x u e => by rw [upd_ne (ne_of_none (s _ _ e) h)]; exact s _ _ e
  tb := fun t => t.upd (fun _ _ e => e) fun ps z => by rw [h] at z; cases z
theorem J.new {S : Sta} {g : Gs} {H : Hp} {p : Addr} {o : HO} (j : S.J g H) (h : H p = none) : S.J g (upd H p o) :=
  S.ok g H _ j fun a m => upd_ne fun z => S.there _ _ _ j m (by rw [z]; exact h)

/-- data that stand still; a new list, a new dict of whom nobody else knows; a value as it is -/
inductive RV where
  | d (x : PyData)
  | nl (xs : List PyData)
  | nd (t : Bool) (kvs : List (PyData × PyData))
  | o (v : V)
/-- what a def is handed -/
inductive AV where
  | d (x : PyData)
  | o (v : V)

def RepAV (K : Ck) (F : Hp) (v : V) : AV → Prop
  | .d x => Rp K F v x
  | .o u => v = u
def RepAVs (K : Ck) (F : Hp) : List V → List AV → Prop
  | [], [] => True
  | v :: vs, a :: as => RepAV K F v a ∧ RepAVs K F vs as
  | _, _ => False
theorem RepAV.mono {K : Ck} {F F' : Hp} (e : Le F F') {v : V} {a : AV} (h : RepAV K F v a) : RepAV K F' v a := by
  cases a with
  | d x => exact Rp.mono e h
  | o u => exact h
theorem RepAVs.mono {K : Ck} {F F' : Hp} (e : Le F F') : ∀ {vs : List V} {as : List AV}, RepAVs K F vs as → RepAVs K F' vs as
  | [], [], _ => trivial
  | _ :: _, _ :: _, h => ⟨h.1.mono e, RepAVs.mono e h.2⟩
  | [], _ :: _, h => h.elim
  | _ :: _, [], h => h.elim
theorem RepAVs.length {K : Ck} {F : Hp} : ∀ {vs : List V} {as : List AV}, RepAVs K F vs as → vs.length = as.length
  | [], [], _ => rfl
  | _ :: _, _ :: _, h => by simp [RepAVs.length h.2]
  | [], _ :: _, h => h.elim
  | _ :: _, [], h => h.elim

/-- entries of a dict -/
inductive Ent where
  | k (kvs : List (Key × V))
  | t (kvs : List (List Key × V))
def Ent.ho : Ent → HO
  | .k kvs => .dK kvs
  | .t kvs => .dT kvs
def Ent.isT : Ent → Bool
  | .k _ => false
  | .t _ => true
def RpE (K : Ck) (F : Hp) : Ent → List (PyData × PyData) → Prop
  | .k kvs, ds => RpK K F kvs ds
  | .t kvs, ds => RpT K F kvs ds
theorem RpE.mono {K : Ck} {F F' : Hp} (e : Le F F') {n : Ent} {ds : List (PyData × PyData)} (h : RpE K F n ds) : RpE K F' n ds := by
  cases n with
  | k kvs => exact RpK.mono e h
  | t kvs => exact RpT.mono e h
theorem RpE.rp {K : Ck} {F : Hp} {n : Ent} {ds : List (PyData × PyData)} {a : Addr} (h : RpE K F n ds) (e : F a = some n.ho) (q : n.isT = false ∨ ds ≠ []) : Rp K F (.ref a) (.dict ds) := by
  cases n with
  | k kvs => exact .dK (.inl e) h
  | t kvs => exact .dT e h (q.resolve_left (fun z => by cases z))

/-- H0: the heap ahead; F, H: behind -/
def RepRV (K : Ck) (S : Sta) (H0 F H : Hp) (v : V) : RV → Prop
  | .d x => Rp K F v x
  | .nl xs => ∃ a vs, v = .ref a ∧ H0 a = none ∧ ¬ S.M a ∧ F a = none ∧ H a = some (.lst vs) ∧ RpA K F vs xs
  | .nd t ks => ∃ a n, v = .ref a ∧ H0 a = none ∧ ¬ S.M a ∧ F a = none ∧ H a = some n.ho ∧ n.isT = t ∧ RpE K F n ks
  | .o u => v = u

/-- as an argument -/
def RV.av : RV → AV
  | .d x => .d x
  | .nl xs => .d (.list xs)
  | .nd _ ks => .d (.dict ks)
  | .o v => .o v
/-- it may be frozen -/
def RV.ok : RV → Prop
  | .nd t ks => t = false ∨ ks ≠ []
  | _ => True
/-- a value is frozen -/
theorem RepRV.freeze {K : Ck} {S : Sta} {g : Gs} {H0 F H : Hp} {v : V} {r : RV} (s : Sub F H) (j : S.J g H) (h : RepRV K S H0 F H v r) (h0 : ∀ a, H0 a ≠ none → H a ≠ none) (ok : r.ok) : ∃ F', Le F F' ∧ Sub F' H ∧ (∀ a, H0 a ≠ none → F' a = F a) ∧ (∀ a, S.M a → F' a = F a) ∧ RepAV K F' v r.av := by
  cases r with
  | d x => exact ⟨F, Le.refl F, s, fun _ _ => rfl, fun _ _ => rfl, h⟩
  | o u => exact ⟨F, Le.refl F, s, fun _ _ => rfl, fun _ _ => rfl, h⟩
  | nl xs =>
    obtain ⟨a, vs, rfl, h1, hm, h2, h3, h4⟩ := h
    have le : Le F (upd F a (.lst vs)) := fun x u e => by rw [upd_ne (ne_of_none e h2)]; exact e
    refine ⟨upd F a (.lst vs), le, fun x u e => ?_, fun x hx => upd_ne fun z => hx (by rw [z]; exact h1), fun x hx => upd_ne fun z => hm (z ▸ hx), ?_⟩
    · by_cases z : x = a
      · subst z; rw [upd_same] at e; rw [h3]; exact e
      · rw [upd_ne z] at e; exact s _ _ e
    · exact Rp.lst (.inl (.inl upd_same)) (h4.mono le)
  | nd t ks =>
    obtain ⟨a, n, rfl, h1, hm, h2, h3, rfl, h4⟩ := h
    have le : Le F (upd F a n.ho) := fun x u e => by rw [upd_ne (ne_of_none e h2)]; exact e
    refine ⟨upd F a n.ho, le, fun x u e => ?_, fun x hx => upd_ne fun z => hx (by rw [z]; exact h1), fun x hx => upd_ne fun z => hm (z ▸ hx), ?_⟩
    · by_cases z : x = a
      · subst z; rw [upd_same] at e; rw [h3]; exact e
      · rw [upd_ne z] at e; exact s _ _ e
    · exact (h4.mono le).rp upd_same ok
end Fx

namespace Fx
open PySem L2

inductive R (α : Type) where
  | ok (a : α) (g : Gs)
  | exc (x : PyData) (g : Gs)
  | bad
def R.bind {α β : Type} (m : R α) (k : α → Gs → R β) : R β := match m with
  | .ok a g => k a g
  | .exc x g => .exc x g
  | .bad => .bad
@[simp] theorem R.bind_ok {α β : Type} (a : α) (g : Gs) (k : α → Gs → R β) : (R.ok a g).bind k = k a g := rfl
@[simp] theorem R.bind_exc {α β : Type} (x : PyData) (g : Gs) (k : α → Gs → R β) : (R.exc x g : R α).bind k = .exc x g := rfl
@[simp] theorem R.bind_bad {α β : Type} (k : α → Gs → R β) : (R.bad : R α).bind k = .bad := rfl
def R.wp {α : Type} (m : R α) (P : α → Gs → Prop) (X : PyData → Gs → Prop) : Prop := match m with
  | .ok a g => P a g
  | .exc x g => X x g
  | .bad => False
theorem R.wp_bind {α β : Type} {m : R α} {k : α → Gs → R β} {P : β → Gs → Prop} {X : PyData → Gs → Prop} : (m.bind k).wp P X ↔ m.wp (fun a g => (k a g).wp P X) X := by
  cases m <;> exact Iff.rfl
theorem R.wp_imp {α : Type} {m : R α} {P P' : α → Gs → Prop} {X X' : PyData → Gs → Prop} (h : m.wp P X) (hp : ∀ a g, P a g → P' a g) (hx : ∀ x g, X x g → X' x g) : m.wp P' X' := by
  cases m
  · exact hp _ _ h
  · exact hx _ _ h
  · exact h
def R.ofO {α : Type} (o : Option α) (g : Gs) : R α := match o with
  | some a => .ok a g
  | none => .bad
@[simp] theorem R.ofO_some {α : Type} (a : α) (g : Gs) : R.ofO (some a) g = .ok a g := rfl
@[simp] theorem R.ofO_none {α : Type} (g : Gs) : (R.ofO none g : R α) = .bad := rfl
theorem R.wp_ofO {α : Type} {o : Option α} {g : Gs} {P : α → Gs → Prop} {X : PyData → Gs → Prop} (h : (R.ofO o g).wp P X) : ∃ a, o = some a ∧ P a g := by
  cases o with
  | none => exact h.elim
  | some a => exact ⟨a, rfl, h⟩

inductive SD where
  | u
  | d (x : PyData)
  | o (v : V)
  | own (xs : List PyData)
  | dic (t : Bool) (ks : List (PyData × PyData))
  | ins (x dx C : Addr) (nm : Str) (fs : List (Str × PyData))
  /-- a locked dict -/
  | lk (x : PyData)
  /-- an exception that was caught -/
  | er (x : PyData)
/-- a caught exception, as data -/
def ErR (K : Ck) (F : Hp) (v : V) (x : PyData) : Prop := ∃ (a C : Addr) (nm : Str) (d : Option Addr) (fs : List (Str × V)) (ds : List (Str × PyData)), v = .ref a ∧ F a = some (ErC (.ref C) d a) ∧ K.mg nm = some (.ref C) ∧
  ((d = none ∧ fs = []) ∨ ∃ dx, d = some dx ∧ F dx = some (.xd fs)) ∧ RpF K F fs ds ∧ x = objD nm ds
theorem ErR.mono {K : Ck} {F F' : Hp} {v : V} {x : PyData} (h : ErR K F v x) (le : Le F F') : ErR K F' v x := by
  obtain ⟨a, C, nm, d, fs, ds, e, h1, h2, h3, h4, h5⟩ := h
  exact ⟨a, C, nm, d, fs, ds, e, le _ _ h1, h2, h3.imp id fun ⟨dx, q1, q2⟩ => ⟨dx, q1, le _ _ q2⟩, RpF.mono le h4, h5⟩
/-- the value is a locked dict -/
def Lkd (F : Hp) (v : V) : Prop := ∃ a o kvs, v = .ref a ∧ F a = some (.frz o (.dK kvs))
theorem Lkd.mono {F F' : Hp} {v : V} (h : Lkd F v) (le : Le F F') : Lkd F' v := let ⟨a, o, kvs, e, q⟩ := h; ⟨a, o, kvs, e, le _ _ q⟩
def SD.owner : SD → Bool
  | .own _ => true
  | .dic _ _ => true
  | .ins _ _ _ _ _ => true
  | _ => false
/-- what an owned slot's object holds -/
def OwnAt (K : Ck) (F H : Hp) (a : Addr) : SD → Prop
  | .own xs => ∃ vs, H a = some (.lst vs) ∧ RpA K F vs xs
  | .dic t ks => ∃ n : Ent, H a = some n.ho ∧ n.isT = t ∧ RpE K F n ks
  | .ins x dx C nm fs => ∃ vs, H a = some (.ins C dx vs) ∧ K.mg nm = some (.ref C) ∧ isCls nm = true ∧ RpF K F vs fs ∧ a = x
  | _ => False
def SlotOk (K : Ck) (S : Sta) (B F H : Hp) : SD → Option V → Prop
  | .u, _ => True
  | .d x, s => ∃ v, s = some v ∧ Rp K F v x
  | .o v, s => s = some v
  | .lk x, s => ∃ v, s = some v ∧ Rp K F v x ∧ Lkd F v
  | .er x, s => ∃ v, s = some v ∧ ErR K F v x
  | s, v => ∃ a, v = some (.ref a) ∧ B a = none ∧ ¬ S.M a ∧ F a = none ∧ OwnAt K F H a s
section
variable {K : Ck} {S : Sta} {B F0 F H F' H' : Hp} {ρ : List SD} {σ : St} {g g' : Gs}
theorem OwnAt.there {a : Addr} {s : SD} (h : OwnAt K F H a s) : ∃ o, H a = some o := by
  cases s with
  | own xs => obtain ⟨vs, h1, _⟩ := h; exact ⟨_, h1⟩
  | dic t ks => obtain ⟨n, h1, _⟩ := h; exact ⟨_, h1⟩
  | ins x dx C nm fs => obtain ⟨vs, h1, _⟩ := h; exact ⟨_, h1⟩
  | u => exact h.elim
  | d x => exact h.elim
  | o v => exact h.elim
  | lk x => exact h.elim
  | er x => exact h.elim
theorem OwnAt.to {a : Addr} {s : SD} (h : OwnAt K F H a s) (le : Le F F') (k : H' a = H a) : OwnAt K F' H' a s := by
  cases s with
  | own xs => obtain ⟨vs, h1, h2⟩ := h; exact ⟨vs, k.trans h1, h2.mono le⟩
  | dic t ks => obtain ⟨n, h1, h2, h3⟩ := h; exact ⟨n, k.trans h1, h2, h3.mono le⟩
  | ins x dx C nm fs => obtain ⟨vs, h1, h2, hi, h3, hx⟩ := h; exact ⟨vs, k.trans h1, h2, hi, RpF.mono le h3, hx⟩
  | u => exact h.elim
  | d x => exact h.elim
  | o v => exact h.elim
  | lk x => exact h.elim
  | er x => exact h.elim
theorem SlotOk.at {s : SD} {v : Option V} (h : SlotOk K S B F H s v) (o : s.owner = true) : ∃ a, v = some (.ref a) ∧ B a = none ∧ ¬ S.M a ∧ F a = none ∧ OwnAt K F H a s := by
  cases s with
  | own xs => exact h
  | dic t ks => exact h
  | ins x dx C nm fs => exact h
  | u => cases o
  | d x => cases o
  | o v => cases o
  | lk x => cases o
  | er x => cases o
theorem SlotOk.of {s : SD} {a : Addr} (o : s.owner = true) (h1 : B a = none) (h2 : ¬ S.M a) (h3 : F a = none) (h4 : OwnAt K F H a s) : SlotOk K S B F H s (some (.ref a)) := by
  cases s with
  | own xs => exact ⟨a, rfl, h1, h2, h3, h4⟩
  | dic t ks => exact ⟨a, rfl, h1, h2, h3, h4⟩
  | ins x dx C nm fs => exact ⟨a, rfl, h1, h2, h3, h4⟩
  | u => cases o
  | d x => cases o
  | o v => cases o
  | lk x => cases o
  | er x => cases o
/-- a slot stays as it is where the objects it leans on do -/
theorem SlotOk.to {s : SD} {v : Option V} (h : SlotOk K S B F H s v) (le : Le F F') (k : ∀ a, v = some (.ref a) → s.owner = true → F' a = F a ∧ H' a = H a) : SlotOk K S B F' H' s v := by
  cases e : s.owner with
  | true =>
    obtain ⟨a, rfl, h1, h2, h3, h4⟩ := h.at e
    obtain ⟨k1, k2⟩ := k a rfl e
    exact .of e h1 h2 (k1.trans h3) (h4.to le k2)
  | false =>
    cases s with
    | u => trivial
    | d x => obtain ⟨w, h1, h2⟩ := h; exact ⟨w, h1, h2.mono le⟩
    | lk x => obtain ⟨w, h1, h2, h3⟩ := h; exact ⟨w, h1, h2.mono le, h3.mono le⟩
    | er x => obtain ⟨w, h1, h2⟩ := h; exact ⟨w, h1, h2.mono le⟩
    | o w => exact h
    | own xs => cases e
    | dic t ks => cases e
    | ins x dx C nm fs => cases e
structure EnvOk (K : Ck) (S : Sta) (B F0 F H : Hp) (ρ : List SD) (σ : St) (g : Gs) : Prop where
  st : StaOk K S
  tb : Tb S F H
  sub : Sub F H
  mono : Le F0 F
  fz : ∀ a, B a ≠ none → F a = F0 a
  keep : ∀ a o, B a = some o → ¬ S.M a → H a = some o
  mF : ∀ a, S.M a → F a = none
  j : S.J g H
  len : σ.length = ρ.length
  sl : ∀ (i : Nat) s, ρ[i]? = some s → ∃ v, σ[i]? = some v ∧ SlotOk K S B F H s v
  dist : ∀ (i k : Nat) s t, ρ[i]? = some s → ρ[k]? = some t → s.owner = true → t.owner = true → σ[i]? = σ[k]? → i = k
theorem SlotOk.ext {s : SD} {v : Option V} (h : SlotOk K S B F H s v) (e : Ext S F H F' H') : SlotOk K S B F' H' s v := by
  refine h.to e.le fun a hv ho => ?_
  obtain ⟨b, hb, _, h2, _, h4⟩ := h.at ho
  rw [hv] at hb
  cases hb
  obtain ⟨o, ho⟩ := h4.there
  exact ⟨e.grow a (by rw [ho]; exact fun z => by cases z), by rw [ho]; exact e.keep a o ho h2⟩
theorem EnvOk.ext (E : EnvOk K S B F0 F H ρ σ g) (e : Ext S F H F' H') (j : S.J g' H') : EnvOk K S B F0 F' H' ρ σ g' where
  sub := e.sub
  mono := E.mono.trans e.le
  fz := fun a h => by
    have : H a ≠ none := by
      by_cases m : S.M a
      · exact S.there _ _ _ E.j m
      · cases q : B a with
        | none => exact absurd q h
        | some o => rw [E.keep a o q m]; exact fun z => by cases z
    rw [e.grow a this, E.fz a h]
  keep := fun a o h m => e.keep a o (E.keep a o h m) m
  mF := fun a m => (e.grow a (S.there _ _ _ E.j m)).trans (E.mF a m)
  j := j
  len := E.len
  sl := fun i s h => let ⟨v, h1, h2⟩ := E.sl i s h; ⟨v, h1, h2.ext e⟩
  dist := E.dist
  st := E.st
  tb := e.tb E.tb
theorem EnvOk.rebase (E : EnvOk K S B F0 F H ρ σ g) : EnvOk K S B F F H ρ σ g :=
  ⟨E.st, E.tb, E.sub, Le.refl F, fun _ _ => rfl, E.keep, E.mF, E.j, E.len, E.sl, E.dist⟩
theorem EnvOk.unbase {F1 : Hp} (E0 : EnvOk K S B F0 F1 H' ρ σ g') {ρ' : List SD} {σ' : St} (E : EnvOk K S B F1 F H ρ' σ' g) : EnvOk K S B F0 F H ρ' σ' g :=
  ⟨E.st, E.tb, E.sub, E0.mono.trans E.mono, fun a h => (E.fz a h).trans (E0.fz a h), E.keep, E.mF, E.j, E.len, E.sl, E.dist⟩
theorem EnvOk.there (E : EnvOk K S B F0 F H ρ σ g) {a : Addr} (h : B a ≠ none) : H a ≠ none := by
  by_cases m : S.M a
  · exact S.there _ _ _ E.j m
  · cases q : B a with
    | none => exact absurd q h
    | some o => rw [E.keep a o q m]; exact fun z => by cases z
theorem EnvOk.free (E : EnvOk K S B F0 F H ρ σ g) {a : Addr} (h : H a = none) : B a = none := by
  cases q : B a with
  | none => rfl
  | some o => exact absurd h (E.there (by rw [q]; exact fun z => by cases z))
theorem EnvOk.ownH (E : EnvOk K S B F0 F H ρ σ g) {i : Nat} {s : SD} {a : Addr} (h : ρ[i]? = some s) (o : s.owner = true) (e : σ[i]? = some (some (.ref a))) : H a ≠ none := by
  obtain ⟨v, hv, q⟩ := E.sl i s h
  obtain ⟨b, rfl, _, _, _, h4⟩ := q.at o
  rw [hv] at e
  cases e
  obtain ⟨u, hu⟩ := h4.there
  rw [hu]; exact fun z => by cases z
theorem set_get {α : Type} {l : List α} {i k : Nat} {x t : α} (h : (l.set i x)[k]? = some t) : (k = i ∧ i < l.length ∧ t = x) ∨ (k ≠ i ∧ l[k]? = some t) := by
  by_cases e : k = i
  · subst e
    by_cases hl : k < l.length
    · rw [List.getElem?_set_self hl] at h
      cases h
      exact .inl ⟨rfl, hl, rfl⟩
    · rw [List.getElem?_eq_none (by simpa using hl)] at h; cases h
  · rw [List.getElem?_set_ne (Ne.symm e)] at h
    exact .inr ⟨e, h⟩
/-- a slot is set -/
theorem EnvOk.set (E : EnvOk K S B F0 F H ρ σ g) {i : Nat} {s : SD} {v : V} (h : SlotOk K S B F H s (some v)) (hd : s.owner = true → ∀ (k : Nat) (t : SD), ρ[k]? = some t → t.owner = true → σ[k]? ≠ some (some v)) : EnvOk K S B F0 F H (ρ.set i s) (σ.set i (some v)) g where
  sub := E.sub
  mono := E.mono
  fz := E.fz
  keep := E.keep
  mF := E.mF
  j := E.j
  len := by simp [E.len]
  sl := fun k t hk => by
    rcases set_get hk with ⟨rfl, hl, rfl⟩ | ⟨e, hk⟩
    · exact ⟨_, List.getElem?_set_self (by rw [E.len]; exact hl), h⟩
    · obtain ⟨w, h1, h2⟩ := E.sl k t hk
      exact ⟨w, by rw [List.getElem?_set_ne (Ne.symm e)]; exact h1, h2⟩
  st := E.st
  tb := E.tb
  dist := fun k l s1 s2 h1 h2 o1 o2 q => by
    rcases set_get h1 with ⟨k1, hl1, r1⟩ | ⟨e1, u1⟩ <;> rcases set_get h2 with ⟨k2, hl2, r2⟩ | ⟨e2, u2⟩
    · exact k1.trans k2.symm
    · rw [k1, List.getElem?_set_self (by rw [E.len]; exact hl1), List.getElem?_set_ne (Ne.symm e2)] at q
      exact absurd q.symm (hd (r1 ▸ o1) l s2 u2 o2)
    · rw [k2, List.getElem?_set_self (by rw [E.len]; exact hl2), List.getElem?_set_ne (Ne.symm e1)] at q
      exact absurd q (hd (r2 ▸ o2) k s1 u1 o1)
    · rw [List.getElem?_set_ne (Ne.symm e1), List.getElem?_set_ne (Ne.symm e2)] at q
      exact E.dist k l s1 s2 u1 u2 o1 o2 q
end

/-- a slot from a value -/
def sdRV : RV → SD
  | .d x => .d x
  | .o v => .o v
  | .nl xs => .own xs
  | .nd t ks => .dic t ks
/-- as data: a new list is frozen -/
def asDR (r : RV) (g : Gs) : R PyData := match r with
  | .d x => .ok x g
  | .nl xs => .ok (.list xs) g
  | .nd t ks => if t = false ∨ ks ≠ [] then .ok (.dict ks) g else .bad
  | .o _ => .bad
/-- as an argument -/
def asAR (r : RV) (g : Gs) : R AV := match r with
  | .d x => .ok (.d x) g
  | .nl xs => .ok (.d (.list xs)) g
  | .nd t ks => if t = false ∨ ks ≠ [] then .ok (.d (.dict ks)) g else .bad
  | .o v => .ok (.o v) g
@[simp] theorem asDR_d (x : PyData) (g : Gs) : asDR (.d x) g = .ok x g := rfl
@[simp] theorem asDR_nl (x : List PyData) (g : Gs) : asDR (.nl x) g = .ok (.list x) g := rfl
@[simp] theorem asAR_d (x : PyData) (g : Gs) : asAR (.d x) g = .ok (.d x) g := rfl
@[simp] theorem asAR_nl (x : List PyData) (g : Gs) : asAR (.nl x) g = .ok (.d (.list x)) g := rfl
@[simp] theorem asAR_o (v : V) (g : Gs) : asAR (.o v) g = .ok (.o v) g := rfl
@[simp] theorem asDR_nd (ks : List (PyData × PyData)) (g : Gs) : asDR (.nd false ks) g = .ok (.dict ks) g := rfl
@[simp] theorem asAR_nd (ks : List (PyData × PyData)) (g : Gs) : asAR (.nd false ks) g = .ok (.d (.dict ks)) g := rfl

abbrev EF := List SD → Gs → R RV
abbrev EFt := List SD → Gs → R Bool
abbrev EFa := List SD → Gs → R (List AV)
abbrev EFi := List SD → Gs → R (List PyData)
abbrev EFg := PyData → List SD → Option (List SD)
inductive Out where
  | nx (ρ : List SD)
  | rt (r : RV)
  | bk (ρ : List SD)
  | ct (ρ : List SD)
  | ex (x : PyData) (ρ : List SD)
abbrev EFs := List SD → Gs → R Out

/-- an exception, as data -/
inductive ExcRep (K : Ck) (S : Sta) (H0 F H : Hp) : Value → Option Addr → PyData → Prop
  | plain {C : Addr} {nm : Str} : K.mg nm = some (.ref C) → ExcRep K S H0 F H (.ref C) none (objD nm [])
  | att {C dx : Addr} {nm n : Str} {v : V} {y : PyData} : K.mg nm = some (.ref C) → H0 dx = none → ¬ S.M dx → F dx = none → H dx = some (.xd [(n, v)]) → Rp K F v y → ExcRep K S H0 F H (.ref C) (some dx) (objD nm [(n, y)])
theorem ExcRep.wide {K : Ck} {S : Sta} {H0 H1 F H : Hp} {cls : Value} {d : Option Addr} {x : PyData} (h : ExcRep K S H1 F H cls d x) (k : ∀ a, H1 a = none → H0 a = none) : ExcRep K S H0 F H cls d x := by
  cases h with
  | plain h => exact .plain h
  | att h1 h2 h3 h4 h5 h6 => exact .att h1 (k _ h2) h3 h4 h5 h6

def Sm (K : Ck) (W : WX) (t : TE) (f : EF) : Prop := ∀ (S : Sta) (B F0 F H : Hp) (ρ : List SD) (σ : St) (g : Gs) (Pd : RV → Gs → Prop) (Xd : PyData → Gs → Prop) (Q : VK), EnvOk K S B F0 F H ρ σ g → (f ρ g).wp Pd Xd →
  (∀ r g' v F' H', Pd r g' → Ext S F H F' H' → S.J g' H' → RepRV K S H F' H' v r → Q v H') →
  (∀ x g' cls d F' H', Xd x g' → Ext S F H F' H' → S.J g' H' → ExcRep K S H F' H' cls d x → W cls d σ H') → t σ H Q
def SmT (K : Ck) (W : WX) (t : TT) (f : EFt) : Prop := ∀ (S : Sta) (B F0 F H : Hp) (ρ : List SD) (σ : St) (g : Gs) (Pd : Bool → Gs → Prop) (Xd : PyData → Gs → Prop) (Q : Bool → Hp → Prop), EnvOk K S B F0 F H ρ σ g → (f ρ g).wp Pd Xd →
  (∀ b g' F' H', Pd b g' → Ext S F H F' H' → S.J g' H' → Q b H') →
  (∀ x g' cls d F' H', Xd x g' → Ext S F H F' H' → S.J g' H' → ExcRep K S H F' H' cls d x → W cls d σ H') → t σ H Q
def SmA (K : Ck) (W : WX) (t : TA) (f : EFa) : Prop := ∀ (S : Sta) (B F0 F H : Hp) (ρ : List SD) (σ : St) (g : Gs) (Pd : List AV → Gs → Prop) (Xd : PyData → Gs → Prop) (Q : List V → Hp → Prop), EnvOk K S B F0 F H ρ σ g → (f ρ g).wp Pd Xd →
  (∀ as g' vs F' H', Pd as g' → Ext S F H F' H' → S.J g' H' → RepAVs K F' vs as → Q vs H') →
  (∀ x g' cls d F' H', Xd x g' → Ext S F H F' H' → S.J g' H' → ExcRep K S H F' H' cls d x → W cls d σ H') → t σ H Q
/-- an item that is parted at once may be any tuple -/
def RpW (w : Bool) (K : Ck) (F : Hp) (v : V) (d : PyData) : Prop := Rp K F v d ∨ (w = true ∧ ∃ a vs ds, v = .ref a ∧ d = .tuple ds ∧ SqT K F a vs ∧ RpA K F vs ds)
/-- what is walked gives the items ds -/
def ItOk (w : Bool) (K : Ck) (S : Sta) (F : Hp) (J : It) (ds : List PyData) : Prop := ∀ F' H', Le F F' → Sub F' H' →
  (∀ (i : Nat) d, ds[i]? = some d → J.go i H' ∧ ∀ x H'', J.yld i H' x H'' → ∃ F'', Ext S F' H' F'' H'' ∧ (∀ g, S.J g H' → S.J g H'') ∧ RpW w K F'' x d) ∧ J.stop ds.length H'
def SmI (w : Bool) (K : Ck) (W : WX) (t : TI) (f : EFi) : Prop := ∀ (S : Sta) (B F0 F H : Hp) (ρ : List SD) (σ : St) (g : Gs) (Pd : List PyData → Gs → Prop) (Xd : PyData → Gs → Prop) (Rr : It → Hp → Prop), EnvOk K S B F0 F H ρ σ g → (f ρ g).wp Pd Xd →
  (∀ ds g' F' H' J, Pd ds g' → Ext S F H F' H' → S.J g' H' → ItOk w K S F' J ds → Rr J H') →
  (∀ x g' cls d F' H', Xd x g' → Ext S F H F' H' → S.J g' H' → ExcRep K S H F' H' cls d x → W cls d σ H') → t σ H Rr
def SmG (w : Bool) (K : Ck) (t : TG) (is : List Nat) (f : EFg) : Prop := ∀ (S : Sta) (B F0 F H : Hp) (ρ : List SD) (σ : St) (g : Gs) (v : V) (d : PyData) (ρ1 : List SD) (Q : St → Hp → Prop), EnvOk K S B F0 F H ρ σ g → RpW w K F v d → f d ρ = some ρ1 →
  (∀ σ', EnvOk K S B F0 F H ρ1 σ' g → (∀ vs : List Nat, (∀ i ∈ is, i ∈ vs) → wipe σ' vs = wipe σ vs) → (∀ (i : Nat) s, ρ1[i]? = some s → s.owner = true → ρ[i]? = some s ∧ σ'[i]? = σ[i]?) → Q σ' H) → t v σ H Q
/-- what a def's end leaves -/
structure RetOk (K : Ck) (S : Sta) (B F0 F H : Hp) (v : V) (r : RV) (g : Gs) : Prop where
  sub : Sub F H
  mono : Le F0 F
  fz : ∀ a, B a ≠ none → F a = F0 a
  keep : ∀ a o, B a = some o → ¬ S.M a → H a = some o
  tb : Tb S F H
  j : S.J g H
  rv : RepRV K S B F H v r
structure RetX (K : Ck) (S : Sta) (B F0 F H : Hp) (cls : Value) (d : Option Addr) (x : PyData) (g : Gs) : Prop where
  sub : Sub F H
  mono : Le F0 F
  fz : ∀ a, B a ≠ none → F a = F0 a
  keep : ∀ a o, B a = some o → ¬ S.M a → H a = some o
  tb : Tb S F H
  j : S.J g H
  er : ExcRep K S B F H cls d x
/-- what is wanted behind a statement -/
def EndOk (K : Ck) (W : WX) (S : Sta) (B F0 : Hp) (D : Ends) (o : Out) (g : Gs) : Prop := match o with
  | .nx ρ => ∀ σ F H, EnvOk K S B F0 F H ρ σ g → D.nx σ H
  | .rt r => ∀ v F H, RetOk K S B F0 F H v r g → D.rt v H
  | .bk ρ => ∀ σ F H, EnvOk K S B F0 F H ρ σ g → D.bk σ H
  | .ct ρ => ∀ σ F H, EnvOk K S B F0 F H ρ σ g → D.ct σ H
  | .ex x ρ => ∀ σ F H cls d, EnvOk K S B F0 F H ρ σ g → ExcRep K S B F H cls d x → W cls d σ H
def NoX : PyData → Gs → Prop := fun _ _ => False
def SmS (K : Ck) (W : WX) (t : TS) (f : EFs) : Prop := ∀ (S : Sta) (B F0 F H : Hp) (ρ : List SD) (σ : St) (g : Gs) (D : Ends), EnvOk K S B F0 F H ρ σ g → (f ρ g).wp (EndOk K W S B F0 D) NoX → t D σ H

section
variable {K : Ck} {S : Sta} {B F0 F H F' H' : Hp} {ρ : List SD} {σ : St} {g g' : Gs}
theorem Ext.frz {v : V} {r : RV} (e : Ext S F H F' H') (j : S.J g' H') (h : RepRV K S H F' H' v r) (ok : r.ok) : ∃ F2, Ext S F H F2 H' ∧ Le F' F2 ∧ RepAV K F2 v r.av := by
  obtain ⟨F2, a1, a2, a3, a4, a5⟩ := h.freeze e.sub j (fun a q => e.there j q) ok
  exact ⟨F2, ⟨e.keep, fun a q => (a3 a q).trans (e.grow a q), e.le.trans a1, a2, fun t => (e.tb t).to a1 fun _ _ _ z => z⟩, a1, a5⟩
theorem asD_av {r : RV} {g : Gs} {P : PyData → Gs → Prop} {X : PyData → Gs → Prop} (h : (asDR r g).wp P X) : r.ok ∧ ∃ d, r.av = .d d ∧ P d g := by
  cases r with
  | d x => exact ⟨trivial, _, rfl, h⟩
  | nl xs => exact ⟨trivial, _, rfl, h⟩
  | nd t ks =>
    unfold asDR at h
    by_cases c : t = false ∨ ks ≠ []
    · simp only [if_pos c] at h; exact ⟨c, _, rfl, h⟩
    · simp only [if_neg c] at h; exact h.elim
  | o v => exact h.elim
theorem asA_av {r : RV} {g : Gs} {P : AV → Gs → Prop} {X : PyData → Gs → Prop} (h : (asAR r g).wp P X) : r.ok ∧ P r.av g := by
  cases r with
  | d x => exact ⟨trivial, h⟩
  | nl xs => exact ⟨trivial, h⟩
  | nd t ks =>
    unfold asAR at h
    by_cases c : t = false ∨ ks ≠ []
    · simp only [if_pos c] at h; exact ⟨c, h⟩
    · simp only [if_neg c] at h; exact h.elim
  | o v => exact ⟨trivial, h⟩
theorem RepRV.wide {v : V} {r : RV} {H0 H1 : Hp} (h : RepRV K S H1 F H v r) (k : ∀ a, H1 a = none → H0 a = none) : RepRV K S H0 F H v r := by
  cases r with
  | d x => exact h
  | o u => exact h
  | nl xs => obtain ⟨a, vs, h1, h2, h3⟩ := h; exact ⟨a, vs, h1, k a h2, h3⟩
  | nd t xs => obtain ⟨a, n, h1, h2, h3⟩ := h; exact ⟨a, n, h1, k a h2, h3⟩
end

abbrev GO2 := PyData → PyData → (RV → Prop) → Prop
abbrev GO1 := PyData → (RV → Prop) → Prop
abbrev GOA := List AV → (RV → Prop) → Prop
/-- what an operation may leave -/
def PostO (K : Ck) (S : Sta) (F H : Hp) (Qd : RV → Prop) (Q : VK) : Prop :=
  ∀ r v F' H', Qd r → Ext S F H F' H' → (∀ g, S.J g H → S.J g H') → RepRV K S H F' H' v r → Q v H'
/-- where an operation begins -/
structure Okh (S : Sta) (F H : Hp) : Prop where
  sub : Sub F H
  mt : ∀ a, S.M a → H a ≠ none
theorem EnvOk.okh {K : Ck} {S : Sta} {B F0 F H : Hp} {ρ : List SD} {σ : St} {g : Gs} (E : EnvOk K S B F0 F H ρ σ g) : Okh S F H := ⟨E.sub, fun a m => S.there _ _ _ E.j m⟩
def OpD (K : Ck) (r : R2) (go : GO2) : Prop := ∀ (S : Sta) (F H : Hp) (x y : V) (dx dy : PyData) (Qd : RV → Prop) (Q : VK), Okh S F H → Rp K F x dx → Rp K F y dy → go dx dy Qd → PostO K S F H Qd Q → r x y H Q
def Op1D (K : Ck) (r : V → Hp → VK → Prop) (go : GO1) : Prop := ∀ (S : Sta) (F H : Hp) (x : V) (dx : PyData) (Qd : RV → Prop) (Q : VK), Okh S F H → Rp K F x dx → go dx Qd → PostO K S F H Qd Q → r x H Q
def OpAD (K : Ck) (r : List V → Hp → VK → Prop) (go : GOA) : Prop := ∀ (S : Sta) (F H : Hp) (xs : List V) (as : List AV) (Qd : RV → Prop) (Q : VK), Okh S F H → RepAVs K F xs as → go as Qd → PostO K S F H Qd Q → r xs H Q
section
variable {K : Ck} {S : Sta} {F H : Hp} {Qd : RV → Prop} {Q : VK}
theorem PostO.d (p : PostO K S F H Qd Q) (s : Okh S F H) {v : V} {d : PyData} (h : Rp K F v d) (q : Qd (.d d)) : Q v H :=
  p _ _ F H q (Ext.refl s.sub) (fun _ j => j) h
/-- a new list -/
theorem PostO.nl (p : PostO K S F H Qd Q) (s : Okh S F H) {vs : List V} {ds : List PyData} (h : RpA K F vs ds) (q : Qd (.nl ds)) : ∀ a, H a = none → Q (.ref a) (upd H a (.lst vs)) := fun a ha =>
  p _ _ F (upd H a (.lst vs)) q (Ext.own s.sub ha) (fun _ j => J.new j ha) ⟨a, vs, rfl, ha, fun m => s.mt a m ha, s.sub.free ha, upd_same, h⟩
theorem PostO.tup (p : PostO K S F H Qd Q) (s : Okh S F H) {vs : List V} {ds : List PyData} (h : RpA K F vs ds) (q : Qd (.d (.tuple ds))) : ∀ a ob, H a = none → ob.dict = none → Q (.ref a) (upd H a (.frz ob (.tup vs))) := fun a ob ha hd =>
  p _ _ (upd F a (.frz ob (.tup vs))) (upd H a (.frz ob (.tup vs))) q (Ext.new s.sub ha) (fun _ j => J.new j ha) (Rp.tup (.inl (.inr ⟨ob, upd_same⟩)) (.inr ⟨ob, upd_same, hd⟩) (h.mono (Ext.new (S := S) (o := .frz ob (.tup vs)) s.sub ha).le))
end
end Fx

namespace Fx
open PySem L2

def rdSD (s : Option SD) (g : Gs) : R RV := match s with
  | some (.d x) => .ok (.d x) g
  | some (.o v) => .ok (.o v) g
  | some (.lk x) => .ok (.d x) g
  | _ => .bad
@[simp] theorem rdSD_lk (x : PyData) (g : Gs) : rdSD (some (.lk x)) g = .ok (.d x) g := rfl
@[simp] theorem rdSD_d (x : PyData) (g : Gs) : rdSD (some (.d x)) g = .ok (.d x) g := rfl
@[simp] theorem rdSD_o (v : V) (g : Gs) : rdSD (some (.o v)) g = .ok (.o v) g := rfl
def fVar (i : Nat) : EF := fun ρ g => rdSD ρ[i]? g
def fC (x : PyData) : EF := fun _ g => .ok (.d x) g
section
variable {K : Ck} {W : WX}
theorem sm_var (i : Nat) : Sm K W (tVar i) (fVar i) := by
  intro S B F0 F H ρ σ g Pd Xd Q E h k kx
  unfold fVar at h
  cases e : ρ[i]? with
  | none => rw [e] at h; exact h.elim
  | some s =>
    rw [e] at h
    obtain ⟨v, h1, h2⟩ := E.sl i s e
    cases s with
    | d x =>
      obtain ⟨w, rfl, h3⟩ := h2
      exact ⟨w, h1, k _ _ _ _ _ h (Ext.refl E.sub) E.j h3⟩
    | o w =>
      cases h2
      exact ⟨w, h1, k _ _ _ _ _ h (Ext.refl E.sub) E.j rfl⟩
    | lk x =>
      obtain ⟨w, rfl, h3, _⟩ := h2
      exact ⟨w, h1, k _ _ _ _ _ h (Ext.refl E.sub) E.j h3⟩
    | u => exact h.elim
    | er x => exact h.elim
    | own xs => exact h.elim
    | dic t ks => exact h.elim
    | ins x dx C nm fs => exact h.elim
theorem sm_c {v : V} {x : PyData} (r : ∀ F, Rp K F v x) : Sm K W (tC v) (fC x) := fun S B F0 F H ρ σ g Pd Xd Q E h k kx => k _ _ _ _ _ h (Ext.refl E.sub) E.j (r F)
theorem sm_int {i : Int} : Sm K W (tC (.int i)) (fC (.int i)) := sm_c fun _ => .int i
theorem sm_str {i : Str} : Sm K W (tC (.str i)) (fC (.str i)) := sm_c fun _ => .str i
theorem sm_bl {i : Bool} : Sm K W (tC (.bl i)) (fC (.bool i)) := sm_c fun _ => .bl i
theorem sm_non : Sm K W (tC .non) (fC .none) := sm_c fun _ => .non
end

def fDat (f : EF) (ρ : List SD) (g : Gs) : R PyData := (f ρ g).bind asDR
abbrev O2 := PyData → PyData → Option RV
abbrev O1 := PyData → Option RV
abbrev OA := List AV → Option RV
def fOp (o : O2) (fa fb : EF) : EF := fun ρ g => (fDat fa ρ g).bind fun x g1 => (fDat fb ρ g1).bind fun y g2 => R.ofO (o x y) g2
def fUn (o : O1) (fa : EF) : EF := fun ρ g => (fDat fa ρ g).bind fun x g1 => R.ofO (o x) g1
/-- what an operation does with data -/
def OpF (K : Ck) (r : R2) (o : O2) : Prop := ∀ (S : Sta) (F H : Hp) (x y : V) (dx dy : PyData) (rv : RV) (Q : VK), Okh S F H → Rp K F x dx → Rp K F y dy → o dx dy = some rv → PostO K S F H (fun r => r = rv) Q → r x y H Q
def Op1F (K : Ck) (r : V → Hp → VK → Prop) (o : O1) : Prop := ∀ (S : Sta) (F H : Hp) (x : V) (dx : PyData) (rv : RV) (Q : VK), Okh S F H → Rp K F x dx → o dx = some rv → PostO K S F H (fun r => r = rv) Q → r x H Q
def OpAF (K : Ck) (r : List V → Hp → VK → Prop) (o : OA) : Prop := ∀ (S : Sta) (F H : Hp) (xs : List V) (as : List AV) (rv : RV) (Q : VK), Okh S F H → RepAVs K F xs as → o as = some rv → PostO K S F H (fun r => r = rv) Q → r xs H Q
section
variable {K : Ck} {W : WX} {S : Sta} {B F0 F H : Hp} {ρ : List SD} {σ : St} {g : Gs} {Xd : PyData → Gs → Prop}
/-- what is wanted of an exception, from here on -/
abbrev XOk (K : Ck) (W : WX) (S : Sta) (F H : Hp) (σ : St) (Xd : PyData → Gs → Prop) : Prop := ∀ x g' cls d F' H', Xd x g' → Ext S F H F' H' → S.J g' H' → ExcRep K S H F' H' cls d x → W cls d σ H'
theorem XOk.ext {F1 H1 : Hp} {g1 : Gs} (k : XOk K W S F H σ Xd) (e : Ext S F H F1 H1) (j : S.J g1 H1) : XOk K W S F1 H1 σ Xd := fun x g' cls d F' H' q e' j' er =>
  k x g' cls d F' H' q (e.trans e' j) j' (er.wide fun a ha => e.free j ha)
/-- an operand is looked at, as data -/
theorem Sm.dat {t : TE} {f : EF} (h : Sm K W t f) (E : EnvOk K S B F0 F H ρ σ g) {P : PyData → Gs → Prop} {Q : VK} (hf : (fDat f ρ g).wp P Xd) (kx : XOk K W S F H σ Xd)
    (go : ∀ x g' v F' H', P x g' → Ext S F H F' H' → EnvOk K S B F0 F' H' ρ σ g' → Rp K F' v x → Q v H') : t σ H Q := by
  refine h S B F0 F H ρ σ g _ Xd Q E (R.wp_bind.mp hf) (fun r g' v F' H' q e j rv => ?_) kx
  obtain ⟨ok, x, ex, px⟩ := asD_av q
  obtain ⟨F2, e2, l2, ra⟩ := e.frz j rv ok
  rw [ex] at ra
  exact go x g' v F2 H' px e2 (E.ext e2 j) ra
theorem sm_op {r : R2} {o : O2} {ta tb : TE} {fa fb : EF} (ho : OpF K r o) (ha : Sm K W ta fa) (hb : Sm K W tb fb) : Sm K W (tOp r ta tb) (fOp o fa fb) := by
  intro S B F0 F H ρ σ g Pd Xd Q E h k kx
  refine ha.dat E (R.wp_bind.mp h) kx fun x g1 vx F1 H1 h1 e1 E1 r1 => ?_
  refine hb.dat E1 (R.wp_bind.mp h1) (XOk.ext kx e1 E1.j) fun y g2 vy F2 H2 h2 e2 E2 r2 => ?_
  obtain ⟨rv, h3, h4⟩ := R.wp_ofO h2
  refine ho S F2 H2 vx vy x y rv Q E2.okh (r1.mono e2.le) r2 h3 fun r v F' H' q e j rv => ?_
  subst q
  exact k _ g2 v F' H' h4 ((e1.trans e2 E1.j).trans e E2.j) (j _ E2.j) (rv.wide fun a ha => (e1.trans e2 E1.j).free E2.j ha)
theorem sm_un {r : V → Hp → VK → Prop} {o : O1} {ta : TE} {fa : EF} (ho : Op1F K r o) (ha : Sm K W ta fa) : Sm K W (tUn r ta) (fUn o fa) := by
  intro S B F0 F H ρ σ g Pd Xd Q E h k kx
  refine ha.dat E (R.wp_bind.mp h) kx fun x g1 vx F1 H1 h1 e1 E1 r1 => ?_
  obtain ⟨rv, h3, h4⟩ := R.wp_ofO h1
  refine ho S F1 H1 vx x rv Q E1.okh r1 h3 fun r v F' H' q e j rv => ?_
  subst q
  exact k _ g1 v F' H' h4 (e1.trans e E1.j) (j _ E1.j) (rv.wide fun a ha => e1.free E1.j ha)
end
/-- a truth value -/
def asBR (r : RV) (g : Gs) : R Bool := match r with
  | .d (.bool b) => .ok b g
  | _ => .bad
@[simp] theorem asBR_b (b : Bool) (g : Gs) : asBR (.d (.bool b)) g = .ok b g := rfl
theorem asB_inv {r : RV} {g : Gs} {P : Bool → Gs → Prop} {X : PyData → Gs → Prop} (h : (asBR r g).wp P X) : ∃ b, r = .d (.bool b) ∧ P b g := by
  cases r with
  | d x =>
    cases x with
    | bool b => exact ⟨b, rfl, h⟩
    | _ => exact h.elim
  | _ => exact h.elim
def fTest (f : EF) : EFt := fun ρ g => (f ρ g).bind asBR
def fChain (o o' : O2) (fa fb fc : EF) : EF := fun ρ g => (fDat fa ρ g).bind fun x g1 => (fDat fb ρ g1).bind fun y g2 => (R.ofO (o x y) g2).bind fun r g3 => (asBR r g3).bind fun b g4 =>
  if b = true then (fDat fc ρ g4).bind fun z g5 => R.ofO (o' y z) g5 else .ok (.d (.bool false)) g4
def fAnd (fa fb : EFt) : EFt := fun ρ g => (fa ρ g).bind fun c g1 => if c = true then fb ρ g1 else .ok false g1
def fOr (fa fb : EFt) : EFt := fun ρ g => (fa ρ g).bind fun c g1 => if c = true then .ok true g1 else fb ρ g1
def fNot (fa : EFt) : EFt := fun ρ g => (fa ρ g).bind fun c g1 => .ok (!c) g1
def fAndV (fa fb : EF) : EF := fun ρ g => (fTest fa ρ g).bind fun c g1 => if c = true then fb ρ g1 else .ok (.d (.bool false)) g1
def fOrV (fa fb : EF) : EF := fun ρ g => (fTest fa ρ g).bind fun c g1 => if c = true then .ok (.d (.bool true)) g1 else fb ρ g1
def fNotV (fa : EF) : EF := fun ρ g => (fTest fa ρ g).bind fun c g1 => .ok (.d (.bool (!c))) g1
def fIf (ft : EFt) (fa fb : EF) : EF := fun ρ g => (ft ρ g).bind fun c g1 => if c = true then fa ρ g1 else fb ρ g1
section
variable {K : Ck} {W : WX} {S : Sta} {B F0 F H : Hp} {ρ : List SD} {σ : St} {g : Gs} {Xd : PyData → Gs → Prop}
theorem asB_rp {r : RV} {v : V} {g : Gs} {P : Bool → Gs → Prop} {X : PyData → Gs → Prop} {H0 F H : Hp} (h : (asBR r g).wp P X) (rv : RepRV K S H0 F H v r) : ∃ b, v = .bl b ∧ P b g := by
  obtain ⟨b, rfl, q⟩ := asB_inv h
  have rv : Rp K F v (.bool b) := rv
  cases rv
  exact ⟨b, rfl, q⟩
theorem smt_test {t : TE} {f : EF} (h : Sm K W t f) : SmT K W (tTest t) (fTest f) := by
  intro S B F0 F H ρ σ g Pd Xd Q E hf k kx
  refine h S B F0 F H ρ σ g _ Xd _ E (R.wp_bind.mp hf) (fun r g' v F' H' q e j rv => ?_) kx
  obtain ⟨b, rfl, qb⟩ := asB_rp q rv
  exact ⟨b, rfl, k b g' F' H' qb e j⟩
theorem sm_chain {r r' : R2} {o o' : O2} {ta tb tc : TE} {fa fb fc : EF} (ho : OpF K r o) (ho' : OpF K r' o') (ha : Sm K W ta fa) (hb : Sm K W tb fb) (hc : Sm K W tc fc) : Sm K W (tChain r r' ta tb tc) (fChain o o' fa fb fc) := by
  intro S B F0 F H ρ σ g Pd Xd Q E h k kx
  refine ha.dat E (R.wp_bind.mp h) kx fun x g1 vx F1 H1 h1 e1 E1 r1 => ?_
  refine hb.dat E1 (R.wp_bind.mp h1) (XOk.ext kx e1 E1.j) fun y g2 vy F2 H2 h2 e2 E2 r2 => ?_
  have e12 := e1.trans e2 E1.j
  obtain ⟨rv, h3, h4⟩ := R.wp_ofO (R.wp_bind.mp h2)
  refine ho S F2 H2 vx vy x y rv _ E2.okh (r1.mono e2.le) r2 h3 fun r v F3 H3 q e j rv => ?_
  subst q
  obtain ⟨b, rfl, qb⟩ := asB_rp (R.wp_bind.mp h4) rv
  refine ⟨b, rfl, ?_⟩
  have E3 := E2.ext e (j _ E2.j)
  have e13 := e12.trans e E2.j
  cases b with
  | false =>
    rw [if_neg Bool.false_ne_true] at qb ⊢
    exact k _ g2 _ F3 H3 qb e13 E3.j (Rp.bl false)
  | true =>
    rw [if_pos rfl] at qb ⊢
    refine hc.dat E3 (R.wp_bind.mp qb) (XOk.ext kx e13 E3.j) fun z g3 vz F4 H4 h4 e4 E4 r4 => ?_
    have e14 := e13.trans e4 E3.j
    obtain ⟨rv, h5, h6⟩ := R.wp_ofO h4
    refine ho' S F4 H4 vy vz y z rv Q E4.okh ((r2.mono e.le).mono e4.le) r4 h5 fun r v F' H' q e j rv => ?_
    subst q
    exact k _ g3 v F' H' h6 (e14.trans e E4.j) (j _ E4.j) (rv.wide fun a ha => e14.free E4.j ha)
theorem smt_and {ta tb : TT} {fa fb : EFt} (ha : SmT K W ta fa) (hb : SmT K W tb fb) : SmT K W (tAnd ta tb) (fAnd fa fb) := by
  intro S B F0 F H ρ σ g Pd Xd Q E hf k kx
  refine ha S B F0 F H ρ σ g _ Xd _ E (R.wp_bind.mp hf) (fun c g1 F1 H1 q e j => ?_) kx
  cases c with
  | true =>
    rw [if_pos rfl] at q ⊢
    exact hb S B F0 F1 H1 ρ σ g1 _ Xd _ (E.ext e j) q (fun b g2 F2 H2 q2 e2 j2 => k b g2 F2 H2 q2 (e.trans e2 j) j2) (XOk.ext kx e j)
  | false =>
    rw [if_neg Bool.false_ne_true] at q ⊢
    exact k _ _ _ _ q e j
theorem smt_or {ta tb : TT} {fa fb : EFt} (ha : SmT K W ta fa) (hb : SmT K W tb fb) : SmT K W (tOr ta tb) (fOr fa fb) := by
  intro S B F0 F H ρ σ g Pd Xd Q E hf k kx
  refine ha S B F0 F H ρ σ g _ Xd _ E (R.wp_bind.mp hf) (fun c g1 F1 H1 q e j => ?_) kx
  cases c with
  | false =>
    rw [if_neg Bool.false_ne_true] at q ⊢
    exact hb S B F0 F1 H1 ρ σ g1 _ Xd _ (E.ext e j) q (fun b g2 F2 H2 q2 e2 j2 => k b g2 F2 H2 q2 (e.trans e2 j) j2) (XOk.ext kx e j)
  | true =>
    rw [if_pos rfl] at q ⊢
    exact k _ _ _ _ q e j
theorem smt_not {ta : TT} {fa : EFt} (ha : SmT K W ta fa) : SmT K W (tNot ta) (fNot fa) := fun S B F0 F H ρ σ g Pd Xd Q E hf k kx =>
  ha S B F0 F H ρ σ g _ Xd _ E (R.wp_bind.mp hf) (fun c g1 F1 H1 q e j => k _ _ _ _ q e j) kx
theorem sm_andV {ta tb : TE} {fa fb : EF} (ha : Sm K W ta fa) (hb : Sm K W tb fb) : Sm K W (tAndV ta tb) (fAndV fa fb) := by
  intro S B F0 F H ρ σ g Pd Xd Q E hf k kx
  refine ha S B F0 F H ρ σ g _ Xd _ E (R.wp_bind.mp (R.wp_bind.mp hf)) (fun r g1 v F1 H1 q e j rv => ?_) kx
  obtain ⟨b, rfl, qb⟩ := asB_rp q rv
  refine ⟨b, rfl, ?_⟩
  cases b with
  | true =>
    rw [if_pos rfl] at qb ⊢
    exact hb S B F0 F1 H1 ρ σ g1 _ Xd _ (E.ext e j) qb (fun r g2 v F2 H2 q2 e2 j2 rv => k r g2 v F2 H2 q2 (e.trans e2 j) j2 (rv.wide fun a ha => e.free j ha)) (XOk.ext kx e j)
  | false =>
    rw [if_neg Bool.false_ne_true] at qb ⊢
    exact k _ _ _ _ _ qb e j (Rp.bl false)
theorem sm_notV {ta : TE} {fa : EF} (ha : Sm K W ta fa) : Sm K W (tNotV ta) (fNotV fa) := by
  intro S B F0 F H ρ σ g Pd Xd Q E hf k kx
  refine ha S B F0 F H ρ σ g _ Xd _ E (R.wp_bind.mp (R.wp_bind.mp hf)) (fun r g1 v F1 H1 q e j rv => ?_) kx
  obtain ⟨b, rfl, qb⟩ := asB_rp q rv
  exact ⟨b, rfl, k _ _ _ _ _ qb e j (Rp.bl _)⟩
theorem sm_if {t : TT} {ta tb : TE} {ft : EFt} {fa fb : EF} (ht : SmT K W t ft) (ha : Sm K W ta fa) (hb : Sm K W tb fb) : Sm K W (tIf t ta tb) (fIf ft fa fb) := by
  intro S B F0 F H ρ σ g Pd Xd Q E hf k kx
  refine ht S B F0 F H ρ σ g _ Xd _ E (R.wp_bind.mp hf) (fun c g1 F1 H1 q e j => ?_) kx
  cases c with
  | true =>
    rw [if_pos rfl] at q ⊢
    exact ha S B F0 F1 H1 ρ σ g1 _ Xd _ (E.ext e j) q (fun r g2 v F2 H2 q2 e2 j2 rv => k r g2 v F2 H2 q2 (e.trans e2 j) j2 (rv.wide fun a ha => e.free j ha)) (XOk.ext kx e j)
  | false =>
    rw [if_neg Bool.false_ne_true] at q ⊢
    exact hb S B F0 F1 H1 ρ σ g1 _ Xd _ (E.ext e j) q (fun r g2 v F2 H2 q2 e2 j2 rv => k r g2 v F2 H2 q2 (e.trans e2 j) j2 (rv.wide fun a ha => e.free j ha)) (XOk.ext kx e j)
end

/-- a tuple of whom all is known -/
def tTupF (t : TA) : TE := fun σ H Q => t σ H fun xs H1 => xs.length ≤ sizeLine ∧ ∀ p (ob : Obj), H1 p = none → ob.dict = none → Q (.ref p) (upd H1 p (.frz ob (.tup xs)))
section
open PySem.Spec PyProof.Rows
theorem pe_tupF {X : Cx} {es : List Expr} {t : TA} {x1 : Nat} {pos : Pos} (h : PA X es t) : PE X (.Tuple es x1 pos) (tTupF t) := by
  refine ⟨fun pins s σ H Q I hq => ?_⟩
  refine wpAny_Tuple_spliced (thn (h.run pos pins s σ H _ I hq) fun us s1 ⟨xs, H1, I1, r, z, q⟩ => ⟨by rw [← r.length]; exact z, ?_⟩)
  have hf : H1 s1.heap.objs.size = none := I1.hok.fresh (Nat.le_refl _)
  refine ⟨.ref s1.heap.objs.size, upd H1 s1.heap.objs.size (.frz { cls := .type "tuple", data := .seq us.toArray } (.tup xs)), I1.laid (t' := s1.toks) (fun b u e => Heap.get?_push_of_some _ e) (Nat.le_refl _) ?_, rfl, q _ _ hf rfl⟩
  exact ⟨Heap.get?_push_size _ rfl, z, us, r, ⟨_, Heap.get?_push_size _ rfl, rfl, _, rfl⟩⟩
end
def aNil : EFa := fun _ g => .ok [] g
def aCons (f : EF) (fr : EFa) : EFa := fun ρ g => (f ρ g).bind fun r g1 => (asAR r g1).bind fun a g2 => (fr ρ g2).bind fun as g3 => .ok (a :: as) g3
/-- arguments as data -/
def allD : List AV → Option (List PyData)
  | [] => some []
  | .d x :: as => (allD as).map (x :: ·)
  | .o _ :: _ => none
def allDR (as : List AV) (g : Gs) : R (List PyData) := if as.length ≤ sizeLine then R.ofO (allD as) g else .bad
def fTup (fa : EFa) : EF := fun ρ g => (fa ρ g).bind fun as g1 => (allDR as g1).bind fun ds g2 => .ok (.d (.tuple ds)) g2
def fLst (fa : EFa) : EF := fun ρ g => (fa ρ g).bind fun as g1 => (allDR as g1).bind fun ds g2 => .ok (.nl ds) g2
def fCB (o : OA) (fa : EFa) : EF := fun ρ g => (fa ρ g).bind fun as g1 => R.ofO (o as) g1
section
variable {K : Ck} {W : WX} {S : Sta} {B F0 F H : Hp} {ρ : List SD} {σ : St} {g : Gs} {Xd : PyData → Gs → Prop}
theorem allD_rp {F : Hp} : ∀ {vs : List V} {as : List AV} {ds : List PyData}, RepAVs K F vs as → allD as = some ds → RpA K F vs ds
  | [], [], _, _, e => by cases e; exact .nil
  | v :: vs, .d x :: as, _, h, e => by
    unfold allD at e
    cases q : allD as with
    | none => rw [q] at e; cases e
    | some es =>
      rw [q] at e
      cases e
      exact .cons h.1 (allD_rp h.2 q)
  | _ :: _, .o _ :: _, _, _, e => by cases e
  | [], _ :: _, _, h, _ => h.elim
  | _ :: _, [], _, h, _ => h.elim
theorem allDR_of {as : List AV} {g : Gs} {P : List PyData → Gs → Prop} {X : PyData → Gs → Prop} (h : (allDR as g).wp P X) : as.length ≤ sizeLine ∧ ∃ ds, allD as = some ds ∧ P ds g := by
  unfold allDR at h
  by_cases c : as.length ≤ sizeLine
  · rw [if_pos c] at h
    exact ⟨c, R.wp_ofO h⟩
  · rw [if_neg c] at h; exact h.elim
theorem sma_nil : SmA K W tNil aNil := fun S B F0 F H ρ σ g Pd Xd Q E h k kx => k _ _ _ _ _ h (Ext.refl E.sub) E.j trivial
theorem sma_cons {te : TE} {t : TA} {f : EF} {fr : EFa} (h1 : Sm K W te f) (h2 : SmA K W t fr) : SmA K W (tCons te t) (aCons f fr) := by
  intro S B F0 F H ρ σ g Pd Xd Q E h k kx
  refine h1 S B F0 F H ρ σ g _ Xd _ E (R.wp_bind.mp h) (fun r g1 v F1 H1 q e j rv => ?_) kx
  obtain ⟨ok, q⟩ := asA_av (R.wp_bind.mp q)
  obtain ⟨F2, e2, l2, ra⟩ := e.frz j rv ok
  refine h2 S B F0 F2 H1 ρ σ g1 _ Xd _ (E.ext e2 j) (R.wp_bind.mp q) (fun as g2 vs F3 H3 q3 e3 j3 r3 => ?_) (XOk.ext kx e2 j)
  exact k _ g2 _ F3 H3 q3 (e2.trans e3 j) j3 ⟨ra.mono e3.le, r3⟩
theorem sm_tup {t : TA} {fa : EFa} (h : SmA K W t fa) : Sm K W (tTupF t) (fTup fa) := by
  intro S B F0 F H ρ σ g Pd Xd Q E hf k kx
  refine h S B F0 F H ρ σ g _ Xd _ E (R.wp_bind.mp hf) (fun as g1 vs F1 H1 q e j r => ?_) kx
  obtain ⟨hl, ds, ed, qd⟩ := allDR_of (R.wp_bind.mp q)
  have E1 := E.ext e j
  refine ⟨by rw [r.length]; exact hl, fun p ob hp hd => ?_⟩
  have n := Ext.new (S := S) (o := .frz ob (.tup vs)) E1.sub hp
  exact k _ g1 _ _ _ qd (e.trans n j) (J.new j hp) (Rp.tup (.inl (.inr ⟨ob, upd_same⟩)) (.inr ⟨ob, upd_same, hd⟩) ((allD_rp r ed).mono n.le))
theorem sm_lst {t : TA} {fa : EFa} (h : SmA K W t fa) : Sm K W (tLst t) (fLst fa) := by
  intro S B F0 F H ρ σ g Pd Xd Q E hf k kx
  refine h S B F0 F H ρ σ g _ Xd _ E (R.wp_bind.mp hf) (fun as g1 vs F1 H1 q e j r => ?_) kx
  obtain ⟨hl, ds, ed, qd⟩ := allDR_of (R.wp_bind.mp q)
  have E1 := E.ext e j
  refine ⟨by rw [r.length]; exact hl, fun p hp => ?_⟩
  have n := Ext.own (S := S) (o := .lst vs) E1.sub hp
  exact k _ g1 _ _ _ qd (e.trans n j) (J.new j hp) ⟨p, vs, rfl, e.free j hp, fun m => E1.okh.mt p m hp, E1.sub.free hp, upd_same, allD_rp r ed⟩
theorem sm_cb {r : List V → Hp → VK → Prop} {o : OA} {t : TA} {fa : EFa} (ho : OpAF K r o) (h : SmA K W t fa) : Sm K W (tCB r t) (fCB o fa) := by
  intro S B F0 F H ρ σ g Pd Xd Q E hf k kx
  refine h S B F0 F H ρ σ g _ Xd _ E (R.wp_bind.mp hf) (fun as g1 vs F1 H1 q e j ra => ?_) kx
  have E1 := E.ext e j
  obtain ⟨rv, h3, h4⟩ := R.wp_ofO q
  refine ho S F1 H1 vs as rv Q E1.okh ra h3 fun r v F' H' q' e' j' rv => ?_
  subst q'
  exact k _ g1 v F' H' h4 (e.trans e' j) (j' _ j) (rv.wide fun a ha => e.free j ha)
end
abbrev FnSp := List AV → Gs → R RV
def spF (K : Ck) (f : FnSp) : Sp := fun vs H Q E => ∃ (q : SQ) (F : Hp) (g : Gs) (as : List AV), Sub F H ∧ (∀ a, (staOf q).M a → F a = none) ∧ (staOf q).J g H ∧ Tb (staOf q) F H ∧ (q.2 ≠ [] → q.2 = lamT K) ∧ RepAVs K F vs as ∧
  (f as g).wp (fun r g' => ∀ v F' H', RetOk K (staOf q) H F F' H' v r g' → Q v H') (fun x g' => ∀ cls d F' H', RetX K (staOf q) H F F' H' cls d x g' → E cls d H')
def fCall (f : FnSp) (fa : EFa) : EF := fun ρ g => (fa ρ g).bind f
section
variable {K : Ck} {W : WX} {S : Sta} {B F0 F H : Hp} {ρ : List SD} {σ : St} {g : Gs} {Xd : PyData → Gs → Prop}
theorem RetOk.ext {F H F' H' : Hp} {v : V} {r : RV} {g : Gs} (h : RetOk K S H F F' H' v r g) : Ext S F H F' H' := ⟨h.keep, h.fz, h.mono, h.sub, fun _ => h.tb⟩
theorem RetX.ext {F H F' H' : Hp} {cls : Value} {d : Option Addr} {x : PyData} {g : Gs} (h : RetX K S H F F' H' cls d x g) : Ext S F H F' H' := ⟨h.keep, h.fz, h.mono, h.sub, fun _ => h.tb⟩
theorem use_sp {f : FnSp} {vs : List V} {as : List AV} {Pd : RV → Gs → Prop} {Q : VK} {E' : XK} (E : EnvOk K S B F0 F H ρ σ g) (ra : RepAVs K F vs as) (h : (f as g).wp Pd Xd)
    (k : ∀ r g' v F' H', Pd r g' → Ext S F H F' H' → S.J g' H' → RepRV K S H F' H' v r → Q v H')
    (kx : ∀ x g' cls d F' H', Xd x g' → Ext S F H F' H' → S.J g' H' → ExcRep K S H F' H' cls d x → E' cls d H') : spF K f vs H Q E' := by
  obtain ⟨qq, rfl, hq⟩ := E.st
  exact ⟨qq, F, g, as, E.sub, E.mF, E.j, E.tb, hq, ra, R.wp_imp h (fun r g' q v F' H' R => k r g' v F' H' q R.ext R.j R.rv) (fun x g' q cls d F' H' R => kx x g' cls d F' H' q R.ext R.j R.er)⟩
theorem sm_call {f : FnSp} {t : TA} {fa : EFa} (h : SmA K W t fa) : Sm K W (tCallSD (spF K f) [] (WE W) t) (fCall f fa) := by
  intro S B F0 F H ρ σ g Pd Xd Q E hf k kx
  refine h S B F0 F H ρ σ g _ Xd _ E (R.wp_bind.mp hf) (fun as g1 vs F1 H1 q e j ra => ?_) kx
  have E1 := E.ext e j
  rw [List.append_nil]
  exact use_sp E1 ra q (fun r g' v F' H' q' e' j' rv => k r g' v F' H' q' (e.trans e' j) j' (rv.wide fun a ha => e.free j ha)) (XOk.ext kx e j)
end
end Fx

namespace Fx
open PySem L2 RZ

/-- a list, a tuple, a text, whichever it is -/
def iSeq (K : PySem.W.Frag) (tl : TE) : TI := fun σ H R => tl σ H fun x H1 => (∃ a, x = .ref a ∧ (∃ xs, SqL K H1 a xs) ∧ R (Itl K a) H1) ∨ (∃ a, x = .ref a ∧ (∃ xs, SqT K H1 a xs) ∧ R (Itt K a) H1) ∨ ∃ z, x = .str z ∧ R (Its z) H1
section
open PySem.Spec PyProof.Rows
theorem pi_seq {X : Cx} {tg e : Expr} {te : TE} (he : PE X e te) : PI X tg e (iSeq X.K te) := by
  refine ⟨fun pins s σ H R I h => ?_⟩
  refine thn (he.run pins s σ H _ I h) fun v s1 ⟨y, H1, I1, r1, q1⟩ => ?_
  rcases q1 with ⟨a, ex, ⟨xs, hq⟩, q⟩ | ⟨a, ex, ⟨xs, hq⟩, q⟩ | ⟨x, ex, q⟩
  · subst ex
    cases r1
    obtain ⟨its, rv, p, hz⟩ := I1.list hq
    refine wpAny_pyIter_list p.isList ?_
    refine ⟨s1.heap.objs.size, [s1.heap.objs.size], _, _, H1, rfl, I1.kept (t' := s1.toks) fun b o e => Heap.get?_push_of_some _ e, turn_list a _, ⟨_, Heap.get?_push_size _ rfl, rfl, rfl⟩, fun b hb => ?_, q⟩
    have e : b = s1.heap.objs.size := by simpa using hb
    subst e
    exact I1.fpOk (Nat.le_refl _) (I1.hok.fresh (Nat.le_refl _))
  · subst ex
    cases r1
    obtain ⟨its, rv, p, hz⟩ := I1.tuple hq
    refine wpAny_pyIter_tuple (show s1.heap.IsTuple a its.toArray from p) ?_
    refine ⟨s1.heap.objs.size, [s1.heap.objs.size], _, _, H1, rfl, I1.kept (t' := s1.toks) fun b o e => Heap.get?_push_of_some _ e, turn_tuple a _, ⟨_, Heap.get?_push_size _ rfl, rfl, rfl⟩, fun b hb => ?_, q⟩
    have e : b = s1.heap.objs.size := by simpa using hb
    subst e
    exact I1.fpOk (Nat.le_refl _) (I1.hok.fresh (Nat.le_refl _))
  · subst ex
    obtain ⟨t, rfl⟩ := r1
    cases ha : x.cps.all (· < 128)
    · exact wpAny_pyIter_wide ha (pi_one (tk := s1.toks) I1 _ (turn_str _ x t "str_iterator" (.inr rfl)) ⟨_, Heap.get?_push_size _ rfl, rfl, rfl⟩ q)
    · exact wpAny_pyIter_ascii ha (pi_one (tk := s1.toks) I1 _ (turn_str _ x t "str_ascii_iterator" (.inl rfl)) ⟨_, Heap.get?_push_size _ rfl, rfl, rfl⟩ q)
end
/-- the items of data -/
def itemsOf : PyData → Option (List PyData)
  | .list xs => some xs
  | .tuple xs => some xs
  | .str x => some (x.cps.toList.map fun c => .str ⟨#[c]⟩)
  | _ => none
def iaSeq (f : EF) : EFi := fun ρ g => (fDat f ρ g).bind fun x g1 => R.ofO (itemsOf x) g1
/-- as ints -/
def allI : List AV → Option (List Int)
  | [] => some []
  | .d (.int i) :: as => (allI as).map (i :: ·)
  | _ => none
def rngD (lo : Int) (n : Nat) : List PyData := (List.range n).map fun (k : Nat) => .int (lo + (k : Int))
def oRng1 (as : List AV) : Option (List PyData) := match allI as with
  | some [j] => if -(2 ^ 62) ≤ j ∧ j < 2 ^ 62 then some (rngD 0 j.toNat) else none
  | _ => none
def pairUp (xs ys : List PyData) : List PyData := (xs.zip ys).map fun p => .tuple [p.1, p.2]
def oZip (as : List AV) : Option (List PyData) := match allD as with
  | some [.list xs, .list ys] => some (pairUp xs ys)
  | some [.tuple xs, .tuple ys] => some (pairUp xs ys)
  | _ => none
def iaB (o : List AV → Option (List PyData)) (fa : EFa) : EFi := fun ρ g => (fa ρ g).bind fun as g1 => R.ofO (o as) g1
def iaRng1 : EFa → EFi := iaB oRng1
def iaZip : EFa → EFi := iaB oZip
theorem oRng1_of {as : List AV} {ds : List PyData} (h : oRng1 as = some ds) : ∃ j, allI as = some [j] ∧ -(2 ^ 62) ≤ j ∧ j < 2 ^ 62 ∧ ds = rngD 0 j.toNat := by
  unfold oRng1 at h
  split at h
  · rename_i j e
    split at h
    · rename_i c; cases h; exact ⟨j, e, c.1, c.2, rfl⟩
    · cases h
  · cases h
theorem oZip_of {as : List AV} {ds : List PyData} (h : oZip as = some ds) : ∃ xs ys, (allD as = some [.list xs, .list ys] ∨ allD as = some [.tuple xs, .tuple ys]) ∧ ds = (xs.zip ys).map fun p => .tuple [p.1, p.2] := by
  unfold oZip at h
  split at h
  · rename_i xs ys e; cases h; exact ⟨xs, ys, .inl e, rfl⟩
  · rename_i xs ys e; cases h; exact ⟨xs, ys, .inr e, rfl⟩
  · cases h
section
variable {K : Ck} {W : WX}
theorem itok_at {S : Sta} {F : Hp} {J : It} {vs : List V} {ds : List PyData} {G : Hp → Prop} (w : Walk J vs.length G (YAt vs)) (r : RpA K F vs ds) (hG : ∀ F' H', Le F F' → Sub F' H' → G H') : ItOk false K S F J ds := by
  intro F' H' le sub
  have g := hG F' H' le sub
  refine ⟨fun i d hd => ?_, by rw [← r.length]; exact w.stops H' g⟩
  obtain ⟨v, hv, rv⟩ := r.get' hd
  have hi : i < vs.length := (List.getElem?_eq_some_iff.mp hv).1
  refine ⟨w.goes i H' hi g, fun x H'' y => ?_⟩
  obtain ⟨rfl, hx⟩ := w.yields i H' x H'' hi g y
  rw [hv] at hx
  cases hx
  exact ⟨F', Ext.refl sub, fun _ j => j, .inl (rv.mono le)⟩
theorem smi_seq {t : TE} {f : EF} (h : Sm K W t f) : SmI false K W (iSeq K t) (iaSeq f) := by
  intro S B F0 F H ρ σ g Pd Xd Rr E hf k kx
  refine h.dat E (R.wp_bind.mp hf) kx fun x g1 v F1 H1 q e E1 r => ?_
  obtain ⟨ds, ed, q⟩ := R.wp_ofO q
  cases r with
  | @lst a vs ds' hr ra =>
    cases ed
    exact .inl ⟨a, rfl, ⟨vs, (Le.sqx E1.sub hr).sql⟩, k _ g1 F1 H1 _ q e E1.j (itok_at walk_list ra fun F' H' le sub => (Le.sqx sub (Le.sqx le hr)).sql)⟩
  | @tup a vs ds' hr hk ra =>
    cases ed
    exact .inr (.inl ⟨a, rfl, ⟨vs, Le.sqt E1.sub hr⟩, k _ g1 F1 H1 _ q e E1.j (itok_at walk_tup ra fun F' H' le sub => Le.sqt sub (Le.sqt le hr))⟩)
  | str z =>
    cases ed
    refine .inr (.inr ⟨z, rfl, k _ g1 F1 H1 _ q e E1.j fun F' H' le sub => ⟨fun i d hd => ?_, ?_⟩⟩)
    · rw [List.getElem?_map] at hd
      cases ec : z.cps.toList[i]? with
      | none => rw [ec] at hd; cases hd
      | some c =>
        rw [ec] at hd
        cases hd
        have hi : i < z.cps.size := by
          have := (List.getElem?_eq_some_iff.mp ec).1
          simpa using this
        refine ⟨walk_str.goes i H' hi trivial, fun x H'' y => ?_⟩
        obtain ⟨rfl, c', hc, rfl⟩ := walk_str.yields i H' x H'' hi trivial y
        have : c' = c := by
          rw [← Array.getElem?_toList, ec] at hc
          cases hc; rfl
        subst this
        exact ⟨F', Ext.refl sub, fun _ j => j, .inl (Rp.str _)⟩
    · simp only [List.length_map, Array.length_toList]
      exact walk_str.stops H' trivial
  | non => cases ed
  | bl b => cases ed
  | int i => cases ed
  | dK _ _ => cases ed
  | dT _ _ _ => cases ed
  | obj _ _ _ _ => cases ed
  | exc _ _ _ _ => cases ed
  | fn _ => cases ed
theorem allI_rp {F : Hp} : ∀ {vs : List V} {as : List AV} {is : List Int}, RepAVs K F vs as → allI as = some is → vs = is.map V.int
  | [], [], _, _, e => by cases e; rfl
  | v :: vs, .d (.int i) :: as, _, h, e => by
    unfold allI at e
    cases q : allI as with
    | none => rw [q] at e; cases e
    | some es =>
      rw [q] at e
      cases e
      have h1 : Rp K F v (.int i) := h.1
      cases h1
      rw [allI_rp h.2 q]; rfl
  | _ :: _, .o _ :: _, _, _, e => by cases e
  | _ :: _, .d .none :: _, _, _, e => by cases e
  | _ :: _, .d (.bool _) :: _, _, _, e => by cases e
  | _ :: _, .d (.str _) :: _, _, _, e => by cases e
  | _ :: _, .d (.list _) :: _, _, _, e => by cases e
  | _ :: _, .d (.tuple _) :: _, _, _, e => by cases e
  | _ :: _, .d (.dict _) :: _, _, _, e => by cases e
  | [], _ :: _, _, h, _ => h.elim
  | _ :: _, [], _, h, _ => h.elim
theorem itok_rng {S : Sta} {F : Hp} {lo : Int} {n : Nat} : ItOk false K S F (Itr lo n) (rngD lo n) := by
  intro F' H' le sub
  refine ⟨fun i d hd => ?_, by unfold rngD; rw [List.length_map, List.length_range]; exact walk_range.stops H' trivial⟩
  unfold rngD at hd
  rw [List.getElem?_map] at hd
  by_cases hi : i < n
  · rw [List.getElem?_range hi] at hd
    cases hd
    refine ⟨walk_range.goes i H' hi trivial, fun x H'' y => ?_⟩
    obtain ⟨rfl, rfl⟩ := walk_range.yields i H' x H'' hi trivial y
    exact ⟨F', Ext.refl sub, fun _ j => j, .inl (Rp.int _)⟩
  · rw [List.getElem?_eq_none (by simpa using hi)] at hd
    cases hd
theorem smi_rng1 {t : TA} {fa : EFa} (h : SmA K W t fa) : SmI false K W (iRng1 t) (iaRng1 fa) := by
  intro S B F0 F H ρ σ g Pd Xd Rr E hf k kx
  refine h S B F0 F H ρ σ g _ Xd _ E (R.wp_bind.mp hf) (fun as g1 vs F1 H1 q e j r => ?_) kx
  obtain ⟨ds, hd, q⟩ := R.wp_ofO q
  obtain ⟨i, ei, h1, h2, rfl⟩ := oRng1_of hd
  exact ⟨i, allI_rp r ei, h1, h2, k _ g1 F1 H1 _ q e j itok_rng⟩
/-- pairs that are made at each turn -/
theorem itok_pair {S : Sta} {F : Hp} {J : It} {n : Nat} {G : Hp → Prop} {fx fy : Nat → Option V} {ds : List PyData} (w : Walk J n G (YPair fx fy)) (hn : ds.length = n)
    (hd : ∀ (i : Nat) d, ds[i]? = some d → ∃ x y, d = .tuple [x, y] ∧ (∀ v, fx i = some v → Rp K F v x) ∧ ∀ v, fy i = some v → Rp K F v y) (hG : ∀ F' H', Le F F' → Sub F' H' → G H') : ItOk true K S F J ds := by
  intro F' H' le sub
  have g := hG F' H' le sub
  refine ⟨fun i d e => ?_, by rw [hn]; exact w.stops H' g⟩
  have hi : i < n := by rw [← hn]; exact (List.getElem?_eq_some_iff.mp e).1
  refine ⟨w.goes i H' hi g, fun x H'' y => ?_⟩
  obtain ⟨T, a, b, rfl, hT, rfl, ha, hb⟩ := w.yields i H' x H'' hi g y
  obtain ⟨x', y', rfl, h1, h2⟩ := hd i d e
  have n' := Ext.new (S := S) (o := .tup [a, b]) sub hT
  exact ⟨_, n', fun _ j => Fx.J.new j hT, .inr ⟨rfl, _, _, _, rfl, rfl, .inl (.inl upd_same), .cons ((h1 a ha).mono (le.trans n'.le)) (.cons ((h2 b hb).mono (le.trans n'.le)) .nil)⟩⟩
theorem zip_get (xs ys : List PyData) (i : Nat) (d : PyData) (h : ((xs.zip ys).map fun p => PyData.tuple [p.1, p.2])[i]? = some d) : ∃ x y, xs[i]? = some x ∧ ys[i]? = some y ∧ d = .tuple [x, y] := by
  rw [List.getElem?_map] at h
  cases e : (xs.zip ys)[i]? with
  | none => rw [e] at h; cases h
  | some p =>
    rw [e] at h
    cases h
    have := List.getElem?_zip_eq_some.mp (show (xs.zip ys)[i]? = some (p.1, p.2) from e)
    exact ⟨p.1, p.2, this.1, this.2, rfl⟩
theorem walk_zipT {K : PySem.W.Frag} {a b : Addr} {xs ys : List V} {n : Nat} (hn : n = min xs.length ys.length) : Walk (ItzT K a b) n (fun H => SqT K H a xs ∧ SqT K H b ys) (YPair (fun i => xs[i]?) (fun i => ys[i]?)) := by
  subst hn
  refine ⟨fun i _ hi q => ?_, fun _ q => ⟨xs, ys, q.1, q.2, by omega⟩, fun i H v H' _ q y => ?_⟩
  · have h1 : i < xs.length := by omega
    have h2 : i < ys.length := by omega
    exact ⟨xs, ys, xs[i], ys[i], q.1, q.2, by simp [h1], by simp [h2]⟩
  · obtain ⟨T, x, z, h1, h2, h3, h4, h5⟩ := y
    exact ⟨T, x, z, h1, h2, h3, h4 xs q.1, h5 ys q.2⟩
end

abbrev EFgs := List PyData → List SD → Option (List SD)
def SmGs (K : Ck) (t : TGs) (is : List Nat) (f : EFgs) : Prop := ∀ (S : Sta) (B F0 F H : Hp) (ρ : List SD) (σ : St) (g : Gs) (vs : List V) (ds : List PyData) (ρ1 : List SD) (Q : St → Hp → Prop), EnvOk K S B F0 F H ρ σ g → RpA K F vs ds → f ds ρ = some ρ1 →
  (∀ σ', EnvOk K S B F0 F H ρ1 σ' g → (∀ vs : List Nat, (∀ i ∈ is, i ∈ vs) → wipe σ' vs = wipe σ vs) → (∀ (i : Nat) s, ρ1[i]? = some s → s.owner = true → ρ[i]? = some s ∧ σ'[i]? = σ[i]?) → Q σ' H) → t vs σ H Q
def agName (i : Nat) : EFg := fun d ρ => some (ρ.set i (.d d))
def agNil : EFgs := fun ds ρ => match ds with
  | [] => some ρ
  | _ => none
def agCons (f : EFg) (fr : EFgs) : EFgs := fun ds ρ => match ds with
  | d :: r => (f d ρ).bind fun ρ' => fr r ρ'
  | [] => none
def agTup (n : Nat) (fr : EFgs) : EFg := fun d ρ => match d with
  | .tuple ds => if ds.length = n then fr ds ρ else none
  | _ => none
section
variable {K : Ck}
theorem wipe_mem {σ : St} {i : Nat} {x : Option V} : ∀ {vs : List Nat}, i ∈ vs → wipe (σ.set i x) vs = wipe σ vs
  | v :: vs, h => by
    unfold wipe
    by_cases e : i ∈ vs
    · rw [wipe_mem e]
    · have : v = i := by
        rcases List.mem_cons.mp h with q | q
        · exact q.symm
        · exact absurd q e
      subst this
      have : ∀ vs : List Nat, v ∉ vs → wipe (σ.set v x) vs = (wipe σ vs).set v x := by
        intro vs
        induction vs with
        | nil => intro _; rfl
        | cons w ws ih =>
          intro hn
          rw [List.mem_cons, not_or] at hn
          unfold wipe
          rw [ih hn.2, List.set_comm _ _ hn.1]
      rw [this vs e, List.set_set]
theorem smg_name (i : Nat) : SmG false K (gName i) [i] (agName i) := fun S B F0 F H ρ σ g v d ρ1 Q E r h k => by
  cases h
  exact k _ (E.set ⟨v, rfl, r.resolve_right fun z => by cases z.1⟩ (fun e => by cases e)) (fun vs hi => wipe_mem (hi i (by simp))) fun j s hs ho => by
    rcases set_get hs with ⟨_, _, r⟩ | ⟨e, hs⟩
    · subst r; cases ho
    · exact ⟨hs, List.getElem?_set_ne (Ne.symm e)⟩
theorem smgs_nil : SmGs K gNil [] agNil := by
  intro S B F0 F H ρ σ g vs ds ρ1 Q E r h k
  cases r with
  | nil => cases h; exact ⟨rfl, k σ E (fun _ _ => rfl) fun _ _ h _ => ⟨h, rfl⟩⟩
  | cons _ _ => cases h
theorem smgs_cons {t : TG} {u : TGs} {is js : List Nat} {f : EFg} {fr : EFgs} (h1 : SmG false K t is f) (h2 : SmGs K u js fr) : SmGs K (gCons t u) (is ++ js) (agCons f fr) := by
  intro S B F0 F H ρ σ g vs ds ρ1 Q E r h k
  cases r with
  | nil => cases h
  | cons rv rr =>
    obtain ⟨ρ2, q1, q2⟩ := Option.bind_eq_some_iff.mp h
    refine ⟨_, _, rfl, h1 S B F0 F H ρ σ g _ _ _ _ E (.inl rv) q1 fun σ1 E1 w1 o1 => ?_⟩
    refine h2 S B F0 F H ρ2 σ1 g _ _ _ _ E1 rr q2 fun σ2 E2 w2 o2 => k σ2 E2 (fun ws hw => ?_) fun i s hs ho => ?_
    · rw [w2 ws fun i hi => hw i (List.mem_append_right _ hi), w1 ws fun i hi => hw i (List.mem_append_left _ hi)]
    · obtain ⟨a1, a2⟩ := o2 i s hs ho
      obtain ⟨b1, b2⟩ := o1 i s a1 ho
      exact ⟨b1, a2.trans b2⟩
theorem smg_tup {w : Bool} {n : Nat} {t : TGs} {is : List Nat} {fr : EFgs} (h : SmGs K t is fr) : SmG w K (gTup K n t) is (agTup n fr) := by
  intro S B F0 F H ρ σ g v d ρ1 Q E r hf k
  have key : ∀ a vs ds, v = .ref a → d = .tuple ds → SqT K F a vs → RpA K F vs ds → gTup K n t v σ H Q := fun a vs ds hv hd hr ra => by
    subst hv hd
    have hf : (if ds.length = n then fr ds ρ else none) = some ρ1 := hf
    by_cases c : ds.length = n
    · rw [if_pos c] at hf
      exact ⟨a, vs, rfl, Le.sqt E.sub hr, ra.length.trans c, h S B F0 F H ρ σ g vs ds ρ1 Q E ra hf k⟩
    · rw [if_neg c] at hf; cases hf
  rcases r with r | ⟨_, a, vs, ds, h1, h2, hr, ra⟩
  · cases r with
    | @tup a vs ds hr hk ra => exact key a vs ds rfl rfl hr ra
    | non => cases hf
    | bl b => cases hf
    | int i => cases hf
    | str x => cases hf
    | lst _ _ => cases hf
    | dK _ _ => cases hf
    | dT _ _ _ => cases hf
    | obj _ _ _ _ => cases hf
    | exc _ _ _ _ => cases hf
    | fn _ => cases hf
  · exact key a vs ds h1 h2 hr ra
end
def wipeD (ρ : List SD) : List Nat → List SD
  | [] => ρ
  | v :: vs => (wipeD ρ vs).set v .u
/-- no exception -/
def R.nox {α : Type} (m : R α) : R α := match m with
  | .exc _ _ => .bad
  | m => m
@[simp] theorem R.nox_ok {α : Type} (a : α) (g : Gs) : (R.ok a g).nox = .ok a g := rfl
theorem R.wp_nox {α : Type} {m : R α} {P : α → Gs → Prop} {X : PyData → Gs → Prop} : m.nox.wp P X ↔ m.wp P NoX := by cases m <;> exact Iff.rfl
def W0 : WX := fun _ _ _ _ => False
/-- one turn: the target, the test, the body -/
def cpStep {α : Type} (fg : EFg) (ft : EFt) (fb : List SD → α → Gs → R α) (ρ : List SD) (d : PyData) (acc : α) (g : Gs) : R α := match fg d ρ with
  | none => .bad
  | some ρ2 => (ft ρ2 g).bind fun b g2 => if b = true then fb ρ2 acc g2 else .ok acc g2
/-- the turns -/
def cpR {α : Type} (step : PyData → α → Gs → R α) : List PyData → α → Gs → R α
  | [], acc, g => .ok acc g
  | d :: ds, acc, g => (step d acc g).bind fun acc' g' => cpR step ds acc' g'
def bLst (fe : EF) : List SD → List PyData → Gs → R (List PyData) := fun ρ acc g => (fDat fe ρ g).bind fun y g1 => if acc.length < sizeLine then .ok (acc ++ [y]) g1 else .bad
def fCp {α : Type} (c : α → RV) (z : α) (fi : EFi) (fg : EFg) (ft : EFt) (fb : List SD → α → Gs → R α) (vs : List Nat) : EF := fun ρ g => (fi ρ g).bind fun ds g1 => (cpR (cpStep fg ft fb (wipeD ρ vs)) ds z g1).nox.bind fun xs g2 => .ok (c xs) g2
def fLc (fi : EFi) (fg : EFg) (ft : EFt) (fe : EF) (vs : List Nat) : EF := fCp .nl [] fi fg ft (bLst fe) vs
def fYes : EFt := fun _ g => .ok true g
/-- up to the object at D -/
structure ExtD (S : Sta) (D : Addr) (F H F' H' : Hp) : Prop where
  keep : ∀ a o, a ≠ D → H a = some o → ¬ S.M a → H' a = some o
  grow : ∀ a, H a ≠ Option.none → F' a = F a
  le : Le F F'
  sub : Sub F' H'
  d : H' D ≠ Option.none
  tb : Tb S F H → Tb S F' H'
theorem ExtD.there {S : Sta} {D : Addr} {g1 : Gs} {F H F1 H1 : Hp} (a : ExtD S D F H F1 H1) (j : S.J g1 H1) {x : Addr} (h : H x ≠ Option.none) : H1 x ≠ Option.none := by
  by_cases z : x = D
  · subst z; exact a.d
  · by_cases m : S.M x
    · exact S.there _ _ _ j m
    · cases e : H x with
      | none => exact absurd e h
      | some o => rw [a.keep x o z e m]; exact fun z => by cases z
theorem ExtD.trans {S : Sta} {D : Addr} {g1 : Gs} {F H F1 H1 F2 H2 : Hp} (a : ExtD S D F H F1 H1) (b : ExtD S D F1 H1 F2 H2) (j : S.J g1 H1) : ExtD S D F H F2 H2 where
  keep := fun x o z h m => b.keep x o z (a.keep x o z h m) m
  grow := fun x h => by rw [b.grow x (a.there j h), a.grow x h]
  le := a.le.trans b.le
  sub := b.sub
  d := b.d
  tb := fun h => b.tb (a.tb h)
theorem Ext.toD {S : Sta} {D : Addr} {g1 : Gs} {F H F' H' : Hp} (e : Ext S F H F' H') (j : S.J g1 H') (h : H D ≠ Option.none) : ExtD S D F H F' H' := ⟨fun a o _ q m => e.keep a o q m, e.grow, e.le, e.sub, e.there j h, e.tb⟩
section
variable {K : Ck} {W : WX}
theorem smt_yes : SmT K W tYes fYes := fun S B F0 F H ρ σ g Pd Xd Q E h k kx => k _ _ _ _ h (Ext.refl E.sub) E.j
theorem EnvOk.wipe {S : Sta} {B F0 F H : Hp} {ρ : List SD} {σ : St} {g : Gs} (E : EnvOk K S B F0 F H ρ σ g) : ∀ vs : List Nat, EnvOk K S B F0 F H (wipeD ρ vs) (wipe σ vs) g
  | [] => E
  | v :: vs => by
    have E1 := E.wipe vs
    unfold wipeD L2.wipe
    refine ⟨E1.st, E1.tb, E1.sub, E1.mono, E1.fz, E1.keep, E1.mF, E1.j, by simp [E1.len], fun i s h => ?_, fun i k s t h1 h2 o1 o2 q => ?_⟩
    · rcases set_get h with ⟨rfl, hl, rfl⟩ | ⟨e, h⟩
      · exact ⟨none, List.getElem?_set_self (by rw [E1.len]; exact hl), trivial⟩
      · obtain ⟨w, h1, h2⟩ := E1.sl i s h
        exact ⟨w, by rw [List.getElem?_set_ne (Ne.symm e)]; exact h1, h2⟩
    · rcases set_get h1 with ⟨_, _, r1⟩ | ⟨e1, h1⟩
      · subst r1; cases o1
      · rcases set_get h2 with ⟨_, _, r2⟩ | ⟨e2, h2⟩
        · subst r2; cases o2
        · rw [List.getElem?_set_ne (Ne.symm e1), List.getElem?_set_ne (Ne.symm e2)] at q
          exact E1.dist i k s t h1 h2 o1 o2 q
/-- no owned slot is D -/
def NoRef (ρ : List SD) (σ : St) (D : Addr) : Prop := ∀ (i : Nat) s, ρ[i]? = some s → s.owner = true → σ[i]? ≠ some (some (.ref D))
theorem NoRef.wipe {ρ : List SD} {σ : St} {D : Addr} (h : NoRef ρ σ D) : ∀ vs : List Nat, NoRef (wipeD ρ vs) (wipe σ vs) D
  | [] => h
  | v :: vs => fun i s hs ho => by
    have h1 := h.wipe vs
    unfold wipeD at hs
    unfold L2.wipe
    rcases set_get hs with ⟨_, _, r⟩ | ⟨e, hs⟩
    · subst r; cases ho
    · rw [List.getElem?_set_ne (Ne.symm e)]; exact h1 i s hs ho
theorem wipe_idem (σ : St) (vs : List Nat) : wipe (wipe σ vs) vs = wipe σ vs := by
  have : ∀ ws : List Nat, (∀ i ∈ ws, i ∈ vs) → wipe (wipe σ vs) ws = wipe σ vs := by
    intro ws
    induction ws with
    | nil => intro _; rfl
    | cons v ws ih =>
      intro hw
      show (wipe (wipe σ vs) ws).set v none = wipe σ vs
      rw [ih fun i hi => hw i (List.mem_cons_of_mem _ hi)]
      have hvm : v ∈ vs := hw v (by simp)
      apply List.ext_getElem?
      intro l
      by_cases el : l = v
      · subst el
        by_cases hl : l < (wipe σ vs).length
        · rw [List.getElem?_set_self hl]
          cases eq : (wipe σ vs)[l]? with
          | none => rw [List.getElem?_eq_none_iff] at eq; omega
          | some o =>
            cases o with
            | none => rfl
            | some z => exact absurd hvm (wipe_some eq).2
        · rw [List.getElem?_eq_none (by simpa using hl), List.getElem?_eq_none (by simpa using hl)]
      · rw [List.getElem?_set_ne (Ne.symm el)]
  exact this vs fun _ h => h
theorem EnvOk.extD {S : Sta} {B F0 F H F' H' : Hp} {ρ : List SD} {σ : St} {g g' : Gs} {D : Addr} (E : EnvOk K S B F0 F H ρ σ g) (hn : NoRef ρ σ D) (hB : B D = none) (e : ExtD S D F H F' H') (j : S.J g' H') : EnvOk K S B F0 F' H' ρ σ g' where
  sub := e.sub
  mono := E.mono.trans e.le
  fz := fun a h => by rw [e.grow a (E.there h), E.fz a h]
  keep := fun a o h m => e.keep a o (fun z => by rw [z, hB] at h; cases h) (E.keep a o h m) m
  mF := fun a m => (e.grow a (S.there _ _ _ E.j m)).trans (E.mF a m)
  j := j
  len := E.len
  sl := fun i s h => by
    obtain ⟨v, h1, h2⟩ := E.sl i s h
    refine ⟨v, h1, h2.to e.le fun a hv ho => ?_⟩
    subst hv
    have ne : a ≠ D := fun z => hn i s h ho (by rw [← z]; exact h1)
    obtain ⟨b, hb, _, m, _, q⟩ := h2.at ho
    cases hb
    obtain ⟨u, hu⟩ := q.there
    exact ⟨e.grow a (by rw [hu]; exact fun z => by cases z), by rw [hu]; exact e.keep a u ne hu m⟩
  dist := E.dist
  st := E.st
  tb := e.tb E.tb
/-- what a growing object holds -/
structure Cont (K : Ck) (α : Type) where
  C : Hp → HO → α → Prop
  mono : ∀ {F F' : Hp} {o : HO} {a : α}, Le F F' → C F o a → C F' o a
def cLst (K : Ck) : Cont K (List PyData) := ⟨fun F o xs => ∃ vs, o = .lst vs ∧ RpA K F vs xs, fun le ⟨vs, h1, h2⟩ => ⟨vs, h1, h2.mono le⟩⟩
/-- the state of a comprehension, from where its turns began -/
structure LcAt {α : Type} (C : Cont K α) (S : Sta) (D : Addr) (Fi Hi : Hp) (acc : α) (gc : Gs) (Fc Hc : Hp) : Prop where
  e : ExtD S D Fi Hi Fc Hc
  j : S.J gc Hc
  h : ∃ o, Hc D = some o ∧ C.C Fc o acc
  f : Fc D = none
section
variable {α : Type} {C : Cont K α} {S : Sta} {D : Addr} {Fi Hi Fc Hc F2 H2 : Hp} {acc acc2 : α} {gc g2 : Gs}
theorem LcAt.ext (L : LcAt C S D Fi Hi acc gc Fc Hc) (nM : ¬ S.M D) (e : Ext S Fc Hc F2 H2) (j : S.J g2 H2) : LcAt C S D Fi Hi acc g2 F2 H2 := by
  obtain ⟨o, h1, h2⟩ := L.h
  have hd : Hc D ≠ none := by rw [h1]; exact fun z => by cases z
  exact ⟨L.e.trans (e.toD j hd) L.j, j, ⟨o, e.keep D _ h1 nM, C.mono e.le h2⟩, (e.grow D hd).trans L.f⟩
theorem LcAt.put {o : HO} (L : LcAt C S D Fi Hi acc gc Fc Hc) (nM : ¬ S.M D) (h : C.C Fc o acc2) : LcAt C S D Fi Hi acc2 gc Fc (upd Hc D o) := by
  refine ⟨⟨fun a u z q m => by rw [upd_ne z]; exact L.e.keep a u z q m, L.e.grow, L.e.le, fun a u q => ?_, (by rw [upd_same]; exact fun z => by cases z), fun t => (L.e.tb t).to (fun _ _ z => z) fun a ps m z => (upd_ne fun (y : a = D) => nM (y ▸ m)).trans z⟩, S.ok _ _ _ L.j fun a m => upd_ne fun z => nM (z ▸ m), ⟨_, upd_same, h⟩, L.f⟩
  rw [upd_ne (fun z => by rw [z, L.f] at q; cases q)]
  exact L.e.sub a u q
theorem LcAt.trans (L : LcAt C S D Fi Hi acc gc Fc Hc) (M : LcAt C S D Fc Hc acc2 g2 F2 H2) : LcAt C S D Fi Hi acc2 g2 F2 H2 := ⟨L.e.trans M.e L.j, M.j, M.h, M.f⟩
end
/-- the turns of a comprehension -/
theorem cp_turns {α : Type} {C : Cont K α} {w : Bool} {tg : TG} {tt : TT} {is vs : List Nat} {fg : EFg} {ft : EFt} {fb : List SD → α → Gs → R α} {BODY : St → Hp → (Hp → Prop) → Prop} {S : Sta} {B F0 Fi Hi : Hp} {ρ : List SD} {σ : St} {g g0 : Gs} {D : Addr} {J : It} {ds : List PyData} {Pd : α → Gs → Prop} {End : Hp → Prop} {acc0 : α}
    (hg : SmG w K tg is fg) (ht : SmT K W0 tt ft) (hv : ∀ i ∈ is, i ∈ vs) (nM : ¬ S.M D) (hB : B D = none) (E : EnvOk K S B F0 Fi Hi ρ σ g) (hn : NoRef ρ σ D) (it : ItOk w K S Fi J ds)
    (hb : ∀ acc gc Fc Hc ρ2 σ2 (Pd : α → Gs → Prop) (Nx : Hp → Prop), LcAt C S D Fi Hi acc gc Fc Hc → EnvOk K S B F0 Fc Hc ρ2 σ2 gc → NoRef ρ2 σ2 D → (fb ρ2 acc gc).wp Pd NoX → (∀ acc' g' F' H', LcAt C S D Fi Hi acc' g' F' H' → Pd acc' g' → Nx H') → BODY σ2 Hc Nx)
    (L0 : LcAt C S D Fi Hi acc0 g0 Fi Hi) (w0 : (cpR (cpStep fg ft fb (wipeD ρ vs)) ds acc0 g0).wp Pd NoX) (kend : ∀ acc gc Fc Hc, LcAt C S D Fi Hi acc gc Fc Hc → Pd acc gc → End Hc) :
    ∃ W : Nat → Nat → Hp → Prop, (∃ m, W 0 m Hi) ∧ ∀ i m H, W i m H →
      (J.stop i H ∧ End H) ∨ (J.go i H ∧ ∃ Nx : Hp → Prop, (∀ H', Nx H' → ∃ m', m' < m ∧ W (i + 1) m' H') ∧ ∀ x H', J.yld i H x H' → tg x (wipe σ vs) H' fun σ2 H2 => wipe σ2 vs = wipe σ vs ∧ tt σ2 H2 fun b H3 =>
        if b = true then BODY σ2 H3 Nx else Nx H3) := by
  refine ⟨fun i m Hc => m = ds.length - i ∧ i ≤ ds.length ∧ ∃ gc Fc acc, LcAt C S D Fi Hi acc gc Fc Hc ∧ (cpR (cpStep fg ft fb (wipeD ρ vs)) (ds.drop i) acc gc).wp Pd NoX, ⟨ds.length, rfl, Nat.zero_le _, g0, Fi, acc0, L0, w0⟩, ?_⟩
  rintro i m Hc ⟨rfl, hil, gc, Fc, acc, L, w⟩
  obtain ⟨hgo, hstop⟩ := it Fc Hc L.e.le L.e.sub
  by_cases hlt : i < ds.length
  · right
    obtain ⟨hgo1, hy⟩ := hgo i ds[i] (by simp [hlt])
    refine ⟨hgo1, fun H' => ∃ gc Fc acc, LcAt C S D Fi Hi acc gc Fc H' ∧ (cpR (cpStep fg ft fb (wipeD ρ vs)) (ds.drop (i + 1)) acc gc).wp Pd NoX, fun H' n => ⟨ds.length - (i + 1), by omega, rfl, by omega, n⟩, fun x H2 y => ?_⟩
    obtain ⟨F2, e2, j2, rx⟩ := hy x H2 y
    rw [List.drop_eq_getElem_cons hlt] at w
    have w := R.wp_bind.mp w
    have L2 := L.ext nM e2 (j2 _ L.j)
    have E2 := (E.extD hn hB L2.e L2.j).wipe vs
    unfold cpStep at w
    cases hg1 : fg ds[i] (wipeD ρ vs) with
    | none => rw [hg1] at w; exact w.elim
    | some ρ2 =>
    rw [hg1] at w
    refine hg S B F0 F2 H2 _ _ gc x _ _ _ E2 rx hg1 fun σ3 E3 w3 o3 => ⟨?_, ?_⟩
    · rw [w3 vs hv, wipe_idem]
    · have hn3 : NoRef ρ2 σ3 D := fun i s hs ho => by
        obtain ⟨p1, p2⟩ := o3 i s hs ho
        rw [p2]; exact hn.wipe vs i s p1 ho
      refine ht S B F0 F2 H2 ρ2 σ3 gc _ _ _ E3 (R.wp_bind.mp w) (fun b g3 F3 H3 q4 e3 j3 => ?_) (fun _ _ _ _ _ _ z _ _ _ => z.elim)
      have L3 := L2.ext nM e3 j3
      cases b with
      | false =>
        rw [if_neg Bool.false_ne_true] at q4 ⊢
        exact ⟨g3, F3, acc, L3, q4⟩
      | true =>
        rw [if_pos rfl] at q4 ⊢
        exact hb acc g3 F3 H3 ρ2 σ3 _ _ L3 (E3.ext e3 j3) hn3 q4 fun acc' g' F' H' L' q => ⟨g', F', acc', L', q⟩
  · left
    have el : i = ds.length := by omega
    subst el
    rw [List.drop_length] at w
    exact ⟨hstop, kend acc gc Fc Hc L w⟩
/-- the item of a list comprehension -/
theorem b_lst {te : TE} {fe : EF} (he : Sm K W0 te fe) {S : Sta} {B F0 Fi Hi Fc Hc : Hp} {D : Addr} {acc : List PyData} {gc : Gs} {ρ2 : List SD} {σ2 : St} {Pd : List PyData → Gs → Prop} {Nx : Hp → Prop} (nM : ¬ S.M D)
    (L : LcAt (cLst K) S D Fi Hi acc gc Fc Hc) (E : EnvOk K S B F0 Fc Hc ρ2 σ2 gc) (h : (bLst fe ρ2 acc gc).wp Pd NoX) (k : ∀ acc' g' F' H', LcAt (cLst K) S D Fi Hi acc' g' F' H' → Pd acc' g' → Nx H') :
    te σ2 Hc fun y H4 => ∃ acc, H4 D = some (.lst acc) ∧ acc.length < sizeLine ∧ Nx (upd H4 D (.lst (acc ++ [y]))) := by
  refine he.dat E (R.wp_bind.mp h) (fun _ _ _ _ _ _ z _ _ _ => z.elim) fun y g4 v F4 H4 q5 e4 E4 ry => ?_
  have L4 := L.ext nM e4 E4.j
  by_cases c : acc.length < sizeLine
  · rw [if_pos c] at q5
    obtain ⟨o, D4, vs', rfl, r4⟩ := L4.h
    exact ⟨vs', D4, by rw [r4.length]; exact c, k _ g4 F4 _ (L4.put nM ⟨_, rfl, r4.append (.cons ry .nil)⟩) q5⟩
  · rw [if_neg c] at q5; exact q5.elim
/-- the list at the end -/
theorem lc_end {S : Sta} {F H F1 H1 Fc Hc : Hp} {g1 gc : Gs} {D : Addr} {acc : List PyData} (e : Ext S F H F1 H1) (j : S.J g1 H1) (hD : H1 D = none) (nM : ¬ S.M D) (L : LcAt (cLst K) S D F1 (upd H1 D (.lst [])) acc gc Fc Hc) :
    Ext S F H Fc Hc ∧ RepRV K S H Fc Hc (.ref D) (.nl acc) := by
  have e1 : Ext S F1 H1 Fc Hc := ⟨fun a o q m => L.e.keep a o (ne_of_none q hD) (by rw [upd_ne (ne_of_none q hD)]; exact q) m, fun a q => L.e.grow a (by
    cases q2 : H1 a with
    | none => exact absurd q2 q
    | some o => rw [upd_ne (ne_of_none q2 hD), q2]; exact fun z => by cases z), L.e.le, L.e.sub, fun t => L.e.tb (t.upd (fun _ _ z => z) fun ps z => by rw [hD] at z; cases z)⟩
  obtain ⟨o, h1, vs, rfl, h2⟩ := L.h
  exact ⟨e.trans e1 j, D, vs, rfl, e.free j hD, nM, L.f, h1, h2⟩
theorem noRef_new {S : Sta} {B F0 F H : Hp} {ρ : List SD} {σ : St} {g : Gs} {D : Addr} (E : EnvOk K S B F0 F H ρ σ g) (hD : H D = none) : NoRef ρ σ D := fun i s hs ho hv => E.ownH hs ho hv hD
theorem sm_lc {wi : TI} {tg : TG} {tt : TT} {te : TE} {fi : EFi} {fg : EFg} {ft : EFt} {fe : EF} {is vs : List Nat} {w : Bool} (hi : SmI w K W wi fi) (hg : SmG w K tg is fg) (ht : SmT K W0 tt ft) (he : Sm K W0 te fe) (hv : ∀ i ∈ is, i ∈ vs) : Sm K W (tLc wi tg tt te vs) (fLc fi fg ft fe vs) := by
  intro S B F0 F H ρ σ g Pd Xd Q E hf k kx
  refine hi S B F0 F H ρ σ g _ Xd _ E (R.wp_bind.mp hf) (fun ds g1 F1 H1 J q e j it => ?_) kx
  have E1 := E.ext e j
  have q := R.wp_nox.mp (R.wp_bind.mp q)
  intro D hD
  have nM : ¬ S.M D := fun m => E1.okh.mt D m hD
  have n := Ext.own (S := S) (o := .lst []) E1.sub hD
  have j1 : S.J g1 (upd H1 D (.lst [])) := Fx.J.new j hD
  refine cp_turns (C := cLst K) (BODY := fun σ2 H3 Nx => te σ2 H3 fun y H4 => ∃ acc, H4 D = some (.lst acc) ∧ acc.length < sizeLine ∧ Nx (upd H4 D (.lst (acc ++ [y])))) hg ht hv nM (E1.free hD) (E1.ext n j1) (noRef_new E1 hD) (fun F' H' le sub => it F' H' le sub)
    (fun acc gc Fc Hc ρ2 σ2 Pd Nx L E2 _ h k => b_lst he nM L E2 h k) ⟨⟨fun _ _ _ q _ => q, fun _ _ => rfl, Le.refl _, n.sub, (by rw [upd_same]; exact fun z => by cases z), fun t => t⟩, j1, ⟨_, upd_same, [], rfl, .nil⟩, E1.sub.free hD⟩ q fun acc gc Fc Hc L q => ?_
  obtain ⟨e2, rv⟩ := lc_end e j hD nM L
  exact k _ gc _ Fc Hc q e2 L.j rv
end
end Fx

namespace Fx
open PySem L2 RZ PySem.Spec PyProof.Rows
open PySem.AutoSeq1 (wpAny_loadPart')

end Fx

namespace Fx
open PySem L2

/-- an expression within a statement: what it raises leaves the statement at these slots -/
def R.stx {α : Type} (m : R α) (ρ : List SD) (k : α → Gs → R Out) : R Out := match m with
  | .ok a g => k a g
  | .exc x g => .ok (.ex x ρ) g
  | .bad => .bad
@[simp] theorem R.stx_ok {α : Type} (a : α) (g : Gs) (ρ : List SD) (k : α → Gs → R Out) : (R.ok a g).stx ρ k = k a g := rfl
@[simp] theorem R.stx_exc {α : Type} (x : PyData) (g : Gs) (ρ : List SD) (k : α → Gs → R Out) : (R.exc x g : R α).stx ρ k = .ok (.ex x ρ) g := rfl
def fNext : EFs := fun ρ g => .ok (.nx ρ) g
def seqO (h : EFs) (o : Out) (g : Gs) : R Out := match o with
  | .nx ρ => h ρ g
  | .rt r => .ok (.rt r) g
  | .bk ρ => .ok (.bk ρ) g
  | .ct ρ => .ok (.ct ρ) g
  | .ex x ρ => .ok (.ex x ρ) g
@[simp] theorem seqO_nx (h : EFs) (ρ : List SD) (g : Gs) : seqO h (.nx ρ) g = h ρ g := rfl
@[simp] theorem seqO_rt (h : EFs) (r : RV) (g : Gs) : seqO h (.rt r) g = .ok (.rt r) g := rfl
@[simp] theorem seqO_ex (h : EFs) (x : PyData) (ρ : List SD) (g : Gs) : seqO h (.ex x ρ) g = .ok (.ex x ρ) g := rfl
@[simp] theorem seqO_bk (h : EFs) (ρ : List SD) (g : Gs) : seqO h (.bk ρ) g = .ok (.bk ρ) g := rfl
@[simp] theorem seqO_ct (h : EFs) (ρ : List SD) (g : Gs) : seqO h (.ct ρ) g = .ok (.ct ρ) g := rfl
def fSeq (f h : EFs) : EFs := fun ρ g => (f ρ g).bind (seqO h)
def fSet (i : Nat) (fe : EF) : EFs := fun ρ g => (fe ρ g).stx ρ fun r g' => .ok (.nx (ρ.set i (sdRV r))) g'
def fAsg (fe : EF) (fg : EFg) : EFs := fun ρ g => (fDat fe ρ g).stx ρ fun x g' => (R.ofO (fg x ρ) g').bind fun ρ' g2 => .ok (.nx ρ') g2
def fPar (i j : Nat) (f1 f2 : EF) : EFs := fun ρ g => (f1 ρ g).stx ρ fun r1 g1 => (f2 ρ g1).stx ρ fun r2 g2 => .ok (.nx ((ρ.set i (sdRV r1)).set j (sdRV r2))) g2
def fRet (fe : EF) : EFs := fun ρ g => (fe ρ g).stx ρ fun r g' => .ok (.rt r) g'
def rtSD (s : Option SD) (g : Gs) : R Out := match s with
  | some (.d x) => .ok (.rt (.d x)) g
  | some (.o v) => .ok (.rt (.o v)) g
  | some (.own xs) => .ok (.rt (.nl xs)) g
  | some (.dic t ks) => .ok (.rt (.nd t ks)) g
  | _ => .bad
@[simp] theorem rtSD_d (x : PyData) (g : Gs) : rtSD (some (.d x)) g = .ok (.rt (.d x)) g := rfl
@[simp] theorem rtSD_own (x : List PyData) (g : Gs) : rtSD (some (.own x)) g = .ok (.rt (.nl x)) g := rfl
@[simp] theorem rtSD_dic (t : Bool) (x : List (PyData × PyData)) (g : Gs) : rtSD (some (.dic t x)) g = .ok (.rt (.nd t x)) g := rfl
def fRetV (i : Nat) : EFs := fun ρ g => rtSD ρ[i]? g
def fRetN : EFs := fun _ g => .ok (.rt (.d .none)) g
def fIfS (ft : EFt) (f h : EFs) : EFs := fun ρ g => (ft ρ g).stx ρ fun b g' => if b = true then f ρ g' else h ρ g'
def fDrop (fe : EF) : EFs := fun ρ g => (fe ρ g).stx ρ fun _ g' => .ok (.nx ρ) g'
def ownSD {α : Type} (s : Option SD) (k : List PyData → R α) : R α := match s with
  | some (.own xs) => k xs
  | _ => .bad
@[simp] theorem ownSD_own {α : Type} (xs : List PyData) (k : List PyData → R α) : ownSD (some (.own xs)) k = k xs := rfl
theorem ownSD_wp {α : Type} {s : Option SD} {k : List PyData → R α} {P : α → Gs → Prop} {X : PyData → Gs → Prop} (h : (ownSD s k).wp P X) : ∃ xs, s = some (.own xs) ∧ (k xs).wp P X := by
  unfold ownSD at h
  split at h
  · exact ⟨_, rfl, h⟩
  · exact h.elim
def fApp (i : Nat) (fe : EF) : EFs := fun ρ g => ownSD ρ[i]? fun xs => (fDat fe ρ g).stx ρ fun y g' => if xs.length < sizeLine then .ok (.nx (ρ.set i (.own (xs ++ [y])))) g' else .bad
def forO (k : List SD → Gs → R Out) (o : Out) (g : Gs) : R Out := match o with
  | .nx ρ => k ρ g
  | .ct ρ => k ρ g
  | .bk ρ => .ok (.nx ρ) g
  | .rt r => .ok (.rt r) g
  | .ex x ρ => .ok (.ex x ρ) g
@[simp] theorem forO_nx (h : List SD → Gs → R Out) (ρ : List SD) (g : Gs) : forO h (.nx ρ) g = h ρ g := rfl
@[simp] theorem forO_ct (h : List SD → Gs → R Out) (ρ : List SD) (g : Gs) : forO h (.ct ρ) g = h ρ g := rfl
@[simp] theorem forO_bk (h : List SD → Gs → R Out) (ρ : List SD) (g : Gs) : forO h (.bk ρ) g = .ok (.nx ρ) g := rfl
@[simp] theorem forO_rt (h : List SD → Gs → R Out) (r : RV) (g : Gs) : forO h (.rt r) g = .ok (.rt r) g := rfl
@[simp] theorem forO_ex (h : List SD → Gs → R Out) (x : PyData) (ρ : List SD) (g : Gs) : forO h (.ex x ρ) g = .ok (.ex x ρ) g := rfl
def forR (fg : EFg) (fb : EFs) : List PyData → List SD → Gs → R Out
  | [], ρ, g => .ok (.nx ρ) g
  | d :: ds, ρ, g => match fg d ρ with
    | none => .bad
    | some ρ1 => (fb ρ1 g).bind (forO (forR fg fb ds))
def fFor (fi : EFi) (fg : EFg) (fb : EFs) : EFs := fun ρ g => (fi ρ g).stx ρ fun ds g1 => forR fg fb ds ρ g1
def whR (ft : EFt) (fb : EFs) : Nat → List SD → Gs → R Out
  | 0, _, _ => .bad
  | n + 1, ρ, g => (ft ρ g).stx ρ fun b g1 => if b = true then (fb ρ g1).bind (forO (whR ft fb n)) else .ok (.nx ρ) g1
open Classical in
noncomputable def fWhile (ft : EFt) (fb : EFs) : EFs := fun ρ g => if h : ∃ n, whR ft fb n ρ g ≠ .bad then whR ft fb (Classical.choose h) ρ g else .bad
theorem whR_mono (ft : EFt) (fb : EFs) : ∀ (n m : Nat) (ρ : List SD) (g : Gs), n ≤ m → whR ft fb n ρ g ≠ .bad → whR ft fb m ρ g = whR ft fb n ρ g
  | 0, _, _, _, _, h => absurd rfl h
  | n + 1, 0, _, _, e, _ => by omega
  | n + 1, m + 1, ρ, g, e, h => by
    unfold whR at h ⊢
    cases ht : ft ρ g with
    | bad => rfl
    | exc x g => rfl
    | ok b g1 =>
      rw [ht] at h
      simp only [R.stx_ok] at h ⊢
      cases b with
      | false => rfl
      | true =>
        simp only [if_true] at h ⊢
        cases hb : fb ρ g1 with
        | bad => rfl
        | exc x g => rfl
        | ok o g2 =>
          rw [hb] at h
          cases o with
          | nx ρ' => exact whR_mono ft fb n m ρ' g2 (by omega) h
          | ct ρ' => exact whR_mono ft fb n m ρ' g2 (by omega) h
          | bk ρ' => rfl
          | rt r => rfl
          | ex x ρ' => rfl
theorem fWhile_eq {ft : EFt} {fb : EFs} {n : Nat} {ρ : List SD} {g : Gs} {r : R Out} (h : whR ft fb n ρ g = r) (hr : r ≠ .bad) : fWhile ft fb ρ g = r := by
  subst h
  unfold fWhile
  have hx : ∃ n, whR ft fb n ρ g ≠ .bad := ⟨n, hr⟩
  rw [dif_pos hx]
  have h1 := whR_mono ft fb _ (max n (Classical.choose hx)) ρ g (Nat.le_max_right _ _) (Classical.choose_spec hx)
  have h2 := whR_mono ft fb n (max n (Classical.choose hx)) ρ g (Nat.le_max_left _ _) hr
  exact h1.symm.trans h2
theorem fWhile_wp {ft : EFt} {fb : EFs} {ρ : List SD} {g : Gs} {P : Out → Gs → Prop} (h : (fWhile ft fb ρ g).wp P NoX) : ∃ n, (whR ft fb n ρ g).wp P NoX := by
  unfold fWhile at h
  split at h
  · exact ⟨_, h⟩
  · exact h.elim
/-- a name's list is frozen -/
def fzSD (s : Option SD) : Option (Option SD) := match s with
  | some (.own xs) => some (some (.d (.list xs)))
  | some (.dic t ks) => if t = false ∨ ks ≠ [] then some (some (.d (.dict ks))) else none
  | some (.ins _ _ _ nm fs) => some (some (.d (objD nm fs)))
  | _ => some none
def fFz (i : Nat) (f : EFs) : EFs := fun ρ g => match fzSD ρ[i]? with
  | some (some s) => f (ρ.set i s) g
  | some none => f ρ g
  | none => .bad
mutual
/-- no list, no dict in it -/
def noL : PyData → Bool
  | .list _ => false
  | .dict _ => false
  | .tuple xs => noLA xs
  | _ => true
def noLA : List PyData → Bool
  | [] => true
  | x :: xs => noL x && noLA xs
end
/-- a name's list is looked at while an expression is, which gives a plain value -/
def plainRV : RV → Bool
  | .d x => noL x
  | .nl xs => noLA xs
  | .nd false ks => ks.all fun p => noL p.2
  | .o _ => true
  | _ => false
def grd (m : R RV) : R RV := match m with
  | .ok r g => if plainRV r = true then .ok r g else .bad
  | _ => .bad
def fBor (i : Nat) (f : EF) : EF := fun ρ g => match fzSD ρ[i]? with
  | some (some s) => grd (f (ρ.set i s) g)
  | some none => f ρ g
  | none => .bad
def fBorT (i : Nat) (f : EFt) : EFt := fun ρ g => match fzSD ρ[i]? with
  | some (some s) => (f (ρ.set i s) g).nox
  | some none => f ρ g
  | none => .bad
section
variable {K : Ck} {W : WX} {S : Sta} {B F0 F H : Hp} {ρ : List SD} {σ : St} {g : Gs} {D : Ends}
theorem sms_next : SmS K W tNext fNext := fun S B F0 F H ρ σ g D E h => h σ F H E
theorem sms_seq {t u : TS} {f h : EFs} (h1 : SmS K W t f) (h2 : SmS K W u h) : SmS K W (tSeq t u) (fSeq f h) := fun S B F0 F H ρ σ g D E hf =>
  h1 S B F0 F H ρ σ g _ E (R.wp_imp (R.wp_bind.mp hf) (fun o g' q => by
    cases o with
    | nx ρ' => exact fun σ' F' H' E' => h2 S B F0 F' H' ρ' σ' g' D E' q
    | rt r => exact q
    | bk ρ' => exact q
    | ct ρ' => exact q
    | ex x ρ' => exact q) fun _ _ z => z)
/-- what is raised within a statement -/
theorem stx_wp {α : Type} {m : R α} {k : α → Gs → R Out} {P : Out → Gs → Prop} {X : PyData → Gs → Prop} (h : (m.stx ρ k).wp P X) : m.wp (fun a g' => (k a g').wp P X) (fun x g' => P (.ex x ρ) g') := by
  cases m <;> exact h
theorem stx_x {t : Prop} {P : Out → Gs → Prop} (E : EnvOk K S B F0 F H ρ σ g) : XOk K W S F H σ (fun x g' => EndOk K W S B F0 D (.ex x ρ) g') := fun x g' cls d F' H' q e j er =>
  q σ F' H' cls d (E.ext e j) (er.wide fun a ha => E.free ha)
theorem sdRV_ok {r : RV} {v : V} {H0 : Hp} (rv : RepRV K S H0 F H v r) (hb : ∀ a, H0 a = none → B a = none) : SlotOk K S B F H (sdRV r) (some v) := by
  cases r with
  | d x => exact ⟨v, rfl, rv⟩
  | o u => cases rv; rfl
  | nl xs =>
    obtain ⟨a, vs, rfl, h1, h2, h3, h4, h5⟩ := rv
    exact ⟨a, rfl, hb a h1, h2, h3, vs, h4, h5⟩
  | nd t ks =>
    obtain ⟨a, n, rfl, h1, h2, h3, h4, h5, h6⟩ := rv
    exact ⟨a, rfl, hb a h1, h2, h3, n, h4, h5, h6⟩
theorem sdRV_own {r : RV} {v : V} {H0 : Hp} (rv : RepRV K S H0 F H v r) (o : (sdRV r).owner = true) : ∃ a, v = .ref a ∧ H0 a = none ∧ H a ≠ none := by
  cases r with
  | d x => cases o
  | o u => cases o
  | nl xs =>
    obtain ⟨a, vs, rfl, h1, h2, h3, h4, h5⟩ := rv
    exact ⟨a, rfl, h1, by rw [h4]; exact fun z => by cases z⟩
  | nd t ks =>
    obtain ⟨a, n, rfl, h1, h2, h3, h4, h5, h6⟩ := rv
    exact ⟨a, rfl, h1, by rw [h4]; exact fun z => by cases z⟩
theorem setRV_ok {i : Nat} {r : RV} {v : V} {H0 : Hp} (E : EnvOk K S B F0 F H ρ σ g) (rv : RepRV K S H0 F H v r) (hb : ∀ a, H0 a = none → B a = none) (hn : ∀ (a : Addr) (l : Nat) (t : SD), ρ[l]? = some t → t.owner = true → σ[l]? = some (some (.ref a)) → H0 a ≠ none) :
    EnvOk K S B F0 F H (ρ.set i (sdRV r)) (σ.set i (some v)) g := E.set (sdRV_ok rv hb) fun o k t hk ho hv => by
  obtain ⟨a, rfl, h0, _⟩ := sdRV_own rv o
  exact hn a k t hk ho hv h0
theorem sms_set {te : TE} {fe : EF} (i : Nat) (h : Sm K W te fe) : SmS K W (tAsg te (gName i)) (fSet i fe) := by
  intro S B F0 F H ρ σ g D E hf
  refine h S B F0 F H ρ σ g _ _ _ E (stx_wp hf) (fun r g' v F' H' q e j rv => ?_) (stx_x (t := True) (P := fun _ _ => True) E)
  exact q _ _ _ (setRV_ok (E.ext e j) rv (fun a ha => E.free ha) (fun a l t ht ho hv => E.ownH ht ho hv))
theorem sms_asg {te : TE} {fe : EF} {tg : TG} {is : List Nat} {fg : EFg} (h : Sm K W te fe) (hg : SmG false K tg is fg) : SmS K W (tAsg te tg) (fAsg fe fg) := by
  intro S B F0 F H ρ σ g D E hf
  refine h.dat E (stx_wp hf) (stx_x (t := True) (P := fun _ _ => True) E) fun x g' v F' H' q e E' r => ?_
  obtain ⟨ρ', h1, h2⟩ := R.wp_ofO (R.wp_bind.mp q)
  exact hg S B F0 F' H' ρ σ g' v x ρ' _ E' (.inl r) h1 fun σ' E2 _ _ => h2 _ _ _ E2
theorem RepRV.ext {H0 F' H' : Hp} {v : V} {r : RV} (h : RepRV K S H0 F H v r) (e : Ext S F H F' H') : RepRV K S H0 F' H' v r := by
  cases r with
  | d x => exact Rp.mono e.le h
  | o u => exact h
  | nl xs =>
    obtain ⟨a, vs, rfl, h1, h2, h3, h4, h5⟩ := h
    exact ⟨a, vs, rfl, h1, h2, (e.grow a (by rw [h4]; exact fun z => by cases z)).trans h3, e.keep a _ h4 h2, h5.mono e.le⟩
  | nd t ks =>
    obtain ⟨a, n, rfl, h1, h2, h3, h4, ht, h5⟩ := h
    exact ⟨a, n, rfl, h1, h2, (e.grow a (by rw [h4]; exact fun z => by cases z)).trans h3, e.keep a _ h4 h2, ht, h5.mono e.le⟩
theorem par_ok {i j : Nat} {r1 r2 : RV} {v1 v2 : V} {F1 H1 F2 H2 : Hp} {g1 g2 : Gs} (E : EnvOk K S B F0 F H ρ σ g) (E1 : EnvOk K S B F0 F1 H1 ρ σ g1) (E2 : EnvOk K S B F0 F2 H2 ρ σ g2) (rv1 : RepRV K S H F1 H1 v1 r1) (rv1' : RepRV K S H F2 H2 v1 r1) (rv2 : RepRV K S H1 F2 H2 v2 r2) :
    EnvOk K S B F0 F2 H2 ((ρ.set i (sdRV r1)).set j (sdRV r2)) ((σ.set i (some v1)).set j (some v2)) g2 := by
  have E3 := setRV_ok (i := i) E2 rv1' (fun a ha => E.free ha) (fun a l t ht ho hv => E.ownH ht ho hv)
  refine setRV_ok (i := j) E3 rv2 (fun a ha => E1.free ha) (fun a l t ht ho hv => ?_)
  rcases set_get ht with ⟨rfl, hl, rfl⟩ | ⟨e, ht⟩
  · obtain ⟨b, rfl, _, q⟩ := sdRV_own rv1 ho
    rw [List.getElem?_set_self (by rw [E2.len]; exact hl)] at hv
    cases hv
    exact q
  · rw [List.getElem?_set_ne (Ne.symm e)] at hv
    exact E1.ownH ht ho hv
theorem sms_par {t1 t2 : TE} {f1 f2 : EF} (i j : Nat) (h1 : Sm K W t1 f1) (h2 : Sm K W t2 f2) : SmS K W (tPar i j (tCons t1 (tCons t2 tNil))) (fPar i j f1 f2) := by
  intro S B F0 F H ρ σ g D E hf
  refine h1 S B F0 F H ρ σ g _ _ _ E (stx_wp hf) (fun r1 g1 v1 F1 H1 q1 e1 j1 rv1 => ?_) (stx_x (t := True) (P := fun _ _ => True) E)
  have E1 := E.ext e1 j1
  refine h2 S B F0 F1 H1 ρ σ g1 _ _ _ E1 (stx_wp q1) (fun r2 g2 v2 F2 H2 q2 e2 j2 rv2 => ?_) (stx_x (t := True) (P := fun _ _ => True) E1)
  have E2 := E1.ext e2 j2
  exact ⟨v1, v2, rfl, q2 _ _ _ (par_ok E E1 E2 rv1 (rv1.ext e2) rv2)⟩
theorem sms_parT {t1 t2 : TE} {f1 f2 : EF} (i j : Nat) (h1 : Sm K W t1 f1) (h2 : Sm K W t2 f2) : SmS K W (tAsg (tTup (tCons t1 (tCons t2 tNil))) (gTup K 2 (gCons (gName i) (gCons (gName j) gNil)))) (fPar i j f1 f2) := by
  intro S B F0 F H ρ σ g D E hf
  refine h1 S B F0 F H ρ σ g _ _ _ E (stx_wp hf) (fun r1 g1 v1 F1 H1 q1 e1 j1 rv1 => ?_) (stx_x (t := True) (P := fun _ _ => True) E)
  have E1 := E.ext e1 j1
  refine h2 S B F0 F1 H1 ρ σ g1 _ _ _ E1 (stx_wp q1) (fun r2 g2 v2 F2 H2 q2 e2 j2 rv2 => ?_) (stx_x (t := True) (P := fun _ _ => True) E1)
  have E2 := E1.ext e2 j2
  refine ⟨by show 2 ≤ sizeLine; decide, fun p hp => ?_⟩
  have n := Ext.own (S := S) (o := .tup [v1, v2]) E2.sub hp
  have E3 := E2.ext n (J.new j2 hp)
  exact ⟨p, [v1, v2], rfl, .inl (.inl upd_same), rfl, v1, [v2], rfl, v2, [], rfl, rfl, q2 _ _ _ (par_ok E E1 E3 rv1 ((rv1.ext e2).ext n) (rv2.ext n))⟩
theorem EnvOk.ret (E : EnvOk K S B F0 F H ρ σ g) {v : V} {r : RV} (rv : RepRV K S B F H v r) : RetOk K S B F0 F H v r g := ⟨E.sub, E.mono, E.fz, E.keep, E.tb, E.j, rv⟩
theorem sms_ret {te : TE} {fe : EF} (h : Sm K W te fe) : SmS K W (tRet te) (fRet fe) := by
  intro S B F0 F H ρ σ g D E hf
  refine h S B F0 F H ρ σ g _ _ _ E (stx_wp hf) (fun r g' v F' H' q e j rv => ?_) (stx_x (t := True) (P := fun _ _ => True) E)
  exact q v F' H' ((E.ext e j).ret (rv.wide fun a ha => E.free ha))
theorem sms_retV (i : Nat) : SmS K W (tRet (tVar i)) (fRetV i) := by
  intro S B F0 F H ρ σ g D E hf
  unfold fRetV at hf
  cases e : ρ[i]? with
  | none => rw [e] at hf; exact hf.elim
  | some s =>
    rw [e] at hf
    obtain ⟨v, h1, h2⟩ := E.sl i s e
    cases s with
    | u => exact hf.elim
    | d x =>
      obtain ⟨w, rfl, h3⟩ := h2
      exact ⟨w, h1, hf w F H (E.ret h3)⟩
    | o w =>
      cases h2
      exact ⟨w, h1, hf w F H (E.ret rfl)⟩
    | own xs =>
      obtain ⟨a, rfl, b1, b2, b3, vs, b4, b5⟩ := h2
      exact ⟨_, h1, hf _ F H (E.ret ⟨a, vs, rfl, b1, b2, b3, b4, b5⟩)⟩
    | dic t ks =>
      obtain ⟨a, rfl, b1, b2, b3, n, b4, b5, b6⟩ := h2
      exact ⟨_, h1, hf _ F H (E.ret ⟨a, n, rfl, b1, b2, b3, b4, b5, b6⟩)⟩
    | ins x dx C nm fs => exact hf.elim
    | lk x => exact hf.elim
    | er x => exact hf.elim
theorem sms_if {c : TT} {t u : TS} {ft : EFt} {f h : EFs} (hc : SmT K W c ft) (h1 : SmS K W t f) (h2 : SmS K W u h) : SmS K W (tIfS c t u) (fIfS ft f h) := by
  intro S B F0 F H ρ σ g D E hf
  refine hc S B F0 F H ρ σ g _ _ _ E (stx_wp hf) (fun b g' F' H' q e j => ?_) (stx_x (t := True) (P := fun _ _ => True) E)
  cases b with
  | true => exact h1 S B F0 F' H' ρ σ g' D (E.ext e j) q
  | false => exact h2 S B F0 F' H' ρ σ g' D (E.ext e j) q
theorem sms_drop {te : TE} {fe : EF} (h : Sm K W te fe) : SmS K W (tDrop te) (fDrop fe) := by
  intro S B F0 F H ρ σ g D E hf
  exact h S B F0 F H ρ σ g _ _ _ E (stx_wp hf) (fun r g' v F' H' q e j rv => q _ _ _ (E.ext e j)) (stx_x (t := True) (P := fun _ _ => True) E)
/-- an owned object changes -/
theorem EnvOk.mut (E : EnvOk K S B F0 F H ρ σ g) {i : Nat} {s s' : SD} {a : Addr} {o : HO} (hs : ρ[i]? = some s) (ho : s.owner = true) (hv : σ[i]? = some (some (.ref a))) (ho' : s'.owner = true) (hn : ∀ H', H' a = some o → OwnAt K F H' a s') : EnvOk K S B F0 F (upd H a o) (ρ.set i s') σ g := by
  obtain ⟨v, h1, h2⟩ := E.sl i s hs
  have hi : i < ρ.length := (List.getElem?_eq_some_iff.mp hs).1
  obtain ⟨b, e1, hB, hM, hF, own⟩ := h2.at ho
  subst e1
  rw [hv] at h1
  cases h1
  refine ⟨E.st, E.tb.off hM, fun x u e => ?_, E.mono, E.fz, fun x u e m => ?_, E.mF, S.ok _ _ _ E.j fun x m => upd_ne fun z => hM (z ▸ m), by simp [E.len], fun k t ht => ?_, fun k l t1 t2 q1 q2 o1 o2 e => ?_⟩
  · rw [upd_ne (fun z => by rw [z, hF] at e; cases e)]
    exact E.sub x u e
  · rw [upd_ne (fun z => by rw [z, hB] at e; cases e)]
    exact E.keep x u e m
  · rcases set_get ht with ⟨rfl, _, rfl⟩ | ⟨ek, ht⟩
    · exact ⟨_, hv, .of ho' hB hM hF (hn _ upd_same)⟩
    · obtain ⟨w, w1, w2⟩ := E.sl k t ht
      refine ⟨w, w1, w2.to (Le.refl F) fun b hb hbo => ⟨rfl, upd_ne fun z => ?_⟩⟩
      subst z hb
      exact ek (E.dist k i t s ht hs hbo ho (by rw [w1, hv]))
  · have red : ∀ {k : Nat} {t : SD}, (ρ.set i s')[k]? = some t → t.owner = true → ∃ t', ρ[k]? = some t' ∧ t'.owner = true := fun {k t} e o => by
      rcases set_get e with ⟨rfl, _, rfl⟩ | ⟨_, e⟩
      · exact ⟨s, hs, ho⟩
      · exact ⟨t, e, o⟩
    obtain ⟨t1', p1, p2⟩ := red q1 o1
    obtain ⟨t2', p3, p4⟩ := red q2 o2
    exact E.dist k l t1' t2' p1 p3 p2 p4 e
theorem sms_app {te : TE} {fe : EF} (i : Nat) (h : Sm K W te fe) : SmS K W (tDrop (tBM K "list" rAppend (tVar i) (tCons te tNil))) (fApp i fe) := by
  intro S B F0 F H ρ σ g D E hf
  obtain ⟨xs, e, hf⟩ := ownSD_wp hf
  obtain ⟨w, h1, h2⟩ := E.sl i _ e
  obtain ⟨a, rfl, b1, b2, b3, vs, b4, b5⟩ := id h2
  refine ⟨.ref a, h1, .inl ⟨rfl, vs, .inl (.inl b4)⟩, ?_⟩
  refine h.dat E (stx_wp hf) (stx_x (t := True) (P := fun _ _ => True) E) fun y g' v F' H' q e' E' r => ?_
  obtain ⟨w', h1', h2'⟩ := E'.sl i _ e
  rw [h1] at h1'
  cases h1'
  obtain ⟨a', ha, c1, c2, c3, vs', c4, c5⟩ := id h2'
  cases ha
  by_cases c : xs.length < sizeLine
  · rw [if_pos c] at q
    exact ⟨a, vs', v, rfl, rfl, c4, by rw [c5.length]; exact c, q _ _ _ (E'.mut e rfl h1 rfl fun H2 h2 => ⟨_, h2, c5.append (.cons r .nil)⟩)⟩
  · rw [if_neg c] at q; exact q.elim
theorem sms_for {wi : TI} {tg : TG} {tb : TS} {fi : EFi} {fg : EFg} {fb : EFs} {is : List Nat} {w : Bool} (hi : SmI w K W wi fi) (hg : SmG w K tg is fg) (hb : SmS K W tb fb) : SmS K W (tFor wi tg tb) (fFor fi fg fb) := by
  intro S B F0 F H ρ σ g D E hf
  refine hi S B F0 F H ρ σ g _ _ _ E (stx_wp hf) (fun ds g1 F1 H1 J q e j it => ?_) (stx_x (t := True) (P := fun _ _ => True) E)
  have E1 := E.ext e j
  refine ⟨fun i m σc Hc => m = ds.length - i ∧ i ≤ ds.length ∧ ∃ ρc gc Fc, EnvOk K S B F1 Fc Hc ρc σc gc ∧ (forR fg fb (ds.drop i) ρc gc).wp (EndOk K W S B F0 D) NoX, ⟨ds.length, rfl, Nat.zero_le _, ρ, g1, F1, E1.rebase, q⟩, ?_⟩
  rintro i m σc Hc ⟨rfl, hil, ρc, gc, Fc, Ec, w⟩
  obtain ⟨hgo, hstop⟩ := it Fc Hc Ec.mono Ec.sub
  by_cases hlt : i < ds.length
  · right
    obtain ⟨hgo1, hy⟩ := hgo i ds[i] (by simp [hlt])
    refine ⟨hgo1, fun σ' H' => ∃ ρc gc Fc, EnvOk K S B F1 Fc H' ρc σ' gc ∧ (forR fg fb (ds.drop (i + 1)) ρc gc).wp (EndOk K W S B F0 D) NoX, fun σ' H' n => ⟨ds.length - (i + 1), by omega, rfl, by omega, n⟩, fun x H2 y => ?_⟩
    obtain ⟨F2, e2, j2, rx⟩ := hy x H2 y
    rw [List.drop_eq_getElem_cons hlt] at w
    unfold forR at w
    cases hg1 : fg ds[i] ρc with
    | none => rw [hg1] at w; exact w.elim
    | some ρ2 =>
    rw [hg1] at w
    have E2 := Ec.ext e2 (j2 _ Ec.j)
    refine hg S B F1 F2 H2 _ _ gc x _ _ _ E2 rx hg1 fun σ3 E3 _ _ => ?_
    refine hb S B F1 F2 H2 ρ2 σ3 gc _ E3 (R.wp_imp (R.wp_bind.mp w) (fun o g' q => ?_) fun _ _ z => z)
    cases o with
    | nx ρ' => exact fun σ' F' H' E' => ⟨ρ', g', F', E', q⟩
    | ct ρ' => exact fun σ' F' H' E' => ⟨ρ', g', F', E', q⟩
    | bk ρ' => exact fun σ' F' H' E' => q _ _ _ (EnvOk.unbase E1 E')
    | rt r => exact fun v F' H' R => q v F' H' ⟨R.sub, E1.mono.trans R.mono, fun a h => (R.fz a h).trans (E1.fz a h), R.keep, R.tb, R.j, R.rv⟩
    | ex x ρ' => exact fun σ' F' H' cls d E' er => q σ' F' H' cls d (EnvOk.unbase E1 E') er
  · left
    have el : i = ds.length := by omega
    subst el
    rw [List.drop_length] at w
    exact ⟨hstop, w _ _ _ (EnvOk.unbase E1 Ec)⟩
theorem sms_while {c : TT} {tb : TS} {ft : EFt} {fb : EFs} (hc : SmT K W c ft) (hb : SmS K W tb fb) : SmS K W (tWhile c tb) (fWhile ft fb) := by
  intro S B F0 F H ρ σ g D E hf
  obtain ⟨n, hf⟩ := fWhile_wp hf
  refine ⟨fun m σc Hc => ∃ ρc gc Fc, EnvOk K S B F0 Fc Hc ρc σc gc ∧ (whR ft fb m ρc gc).wp (EndOk K W S B F0 D) NoX, ⟨n, ρ, g, F, E, hf⟩, ?_⟩
  rintro m σc Hc ⟨ρc, gc, Fc, Ec, w⟩
  cases m with
  | zero => exact w.elim
  | succ m =>
    refine hc S B F0 Fc Hc ρc σc gc _ _ _ Ec (stx_wp w) (fun b g' F' H' q e j => ?_) (stx_x (t := True) (P := fun _ _ => True) Ec)
    cases b with
    | false =>
      rw [if_neg Bool.false_ne_true] at q ⊢
      exact q _ _ _ (Ec.ext e j)
    | true =>
      rw [if_pos rfl] at q ⊢
      refine ⟨fun σ' H' => ∃ ρc gc Fc, EnvOk K S B F0 Fc H' ρc σ' gc ∧ (whR ft fb m ρc gc).wp (EndOk K W S B F0 D) NoX, fun σ' H' n => ⟨m, Nat.lt_succ_self m, n⟩, ?_⟩
      refine hb S B F0 F' H' ρc σc g' _ (Ec.ext e j) (R.wp_imp (R.wp_bind.mp q) (fun o g' q => ?_) fun _ _ z => z)
      cases o with
      | nx ρ' => exact fun σ' F' H' E' => ⟨ρ', g', F', E', q⟩
      | ct ρ' => exact fun σ' F' H' E' => ⟨ρ', g', F', E', q⟩
      | bk ρ' => exact q
      | rt r => exact q
      | ex x ρ' => exact q
/-- an owned object is frozen -/
theorem EnvOk.frz (E : EnvOk K S B F0 F H ρ σ g) {i : Nat} {s s' : SD} (hs : fzSD ρ[i]? = some (some s')) : ∃ a x o, σ[i]? = some (some (.ref a)) ∧ s' = .d x ∧ F a = none ∧ ¬ S.M a ∧ H a = some o ∧ EnvOk K S B F0 (upd F a o) H (ρ.set i s') σ g ∧ Le F (upd F a o) := by
  have main : ∀ (s : SD) (x : PyData), ρ[i]? = some s → s.owner = true → (∀ a o F', σ[i]? = some (some (.ref a)) → OwnAt K F H a s → H a = some o → F' a = some o → Le F F' → Rp K F' (.ref a) x) → ∃ a o, σ[i]? = some (some (.ref a)) ∧ F a = none ∧ ¬ S.M a ∧ H a = some o ∧ EnvOk K S B F0 (upd F a o) H (ρ.set i (.d x)) σ g ∧ Le F (upd F a o) := by
    intro s x hs ho hx
    obtain ⟨v, h1, h2⟩ := E.sl i s hs
    obtain ⟨a, rfl, hB, hM, hF, own⟩ := h2.at ho
    obtain ⟨o, hH⟩ := own.there
    have le : Le F (upd F a o) := fun y u e => by rw [upd_ne (ne_of_none e hF)]; exact e
    refine ⟨a, o, h1, hF, hM, hH, ⟨E.st, E.tb.to le fun _ _ _ z => z, fun y u e => ?_, E.mono.trans le, fun y h => ?_, E.keep, fun y m => ?_, E.j, by simp [E.len], fun k t ht => ?_, fun k l t1 t2 q1 q2 o1 o2 e => ?_⟩, le⟩
    · by_cases z : y = a
      · subst z; rw [upd_same] at e; rw [hH]; exact e
      · rw [upd_ne z] at e; exact E.sub _ _ e
    · rw [upd_ne (fun z => h (by rw [z]; exact hB))]; exact E.fz y h
    · rw [upd_ne (fun z => hM (by rw [← z]; exact m))]; exact E.mF y m
    · rcases set_get ht with ⟨rfl, _, rfl⟩ | ⟨ek, ht⟩
      · exact ⟨_, h1, _, rfl, hx a o _ h1 own hH upd_same le⟩
      · obtain ⟨w, w1, w2⟩ := E.sl k t ht
        refine ⟨w, w1, w2.to le fun b hb hbo => ⟨upd_ne fun z => ?_, rfl⟩⟩
        subst z hb
        exact ek (E.dist k i t s ht hs hbo ho (by rw [w1, h1]))
    · rcases set_get q1 with ⟨_, _, r⟩ | ⟨_, q1⟩
      · subst r; cases o1
      · rcases set_get q2 with ⟨_, _, r⟩ | ⟨_, q2⟩
        · subst r; cases o2
        · exact E.dist k l t1 t2 q1 q2 o1 o2 e
  cases e : ρ[i]? with
  | none => rw [e] at hs; cases hs
  | some s =>
    rw [e] at hs
    cases s with
    | u => cases hs
    | d x => cases hs
    | o v => cases hs
    | lk x => cases hs
    | er x => cases hs
    | own xs =>
      cases hs
      obtain ⟨a, o, h⟩ := main _ (.list xs) e rfl fun a o F' _ own h h' le => by
        obtain ⟨vs, h1, h2⟩ := own
        rw [h1] at h
        cases h
        exact Rp.lst (.inl (.inl h')) (h2.mono le)
      exact ⟨a, _, o, h.1, rfl, h.2⟩
    | dic t ks =>
      have hs : (if t = false ∨ ks ≠ [] then some (some (SD.d (.dict ks))) else none) = some (some s') := hs
      by_cases c : t = false ∨ ks ≠ []
      · rw [if_pos c] at hs
        cases hs
        obtain ⟨a, o, h⟩ := main _ (.dict ks) e rfl fun a o F' _ own h h' le => by
          obtain ⟨n, h1, h2, h3⟩ := own
          rw [h1] at h
          cases h
          exact (h3.mono le).rp h' (by rw [h2]; exact c)
        exact ⟨a, _, o, h.1, rfl, h.2⟩
      · rw [if_neg c] at hs; cases hs
    | ins x dx C nm fs =>
      cases hs
      obtain ⟨a, o, h⟩ := main _ (objD nm fs) e rfl fun a o F' _ own h h' le => by
        obtain ⟨vs, h1, h2, hi, h3, _⟩ := own
        rw [h1] at h
        cases h
        exact .obj h' h2 hi (RpF.mono le h3)
      exact ⟨a, _, o, h.1, rfl, h.2⟩
theorem sms_fz {t : TS} {f : EFs} (i : Nat) (h : SmS K W t f) : SmS K W t (fFz i f) := by
  intro S B F0 F H ρ σ g D E hf
  unfold fFz at hf
  split at hf
  · rename_i s e
    obtain ⟨a, x, o, _, _, _, _, _, E', _⟩ := E.frz (s := s) e
    exact h S B F0 _ H _ σ g D E' hf
  · exact h S B F0 F H ρ σ g D E hf
  · exact hf.elim
/-- an object taken out -/
def del (F : Hp) (a : Addr) : Hp := fun x => if x = a then none else F x
theorem del_ne {F : Hp} {a x : Addr} (h : x ≠ a) : del F a x = F x := if_neg h
theorem del_same {F : Hp} {a : Addr} : del F a a = none := if_pos rfl
def notTup : HO → Bool
  | .tup _ => false
  | .frz _ _ => false
  | .ext _ => false
  | .xd _ => false
  | _ => true
theorem del_tup {F : Hp} {a b : Addr} {o : HO} {u : HO} (ha : F a = some o) (ho : notTup o = true) (h : F b = some u) (hu : notTup u = false) : del F a b = some u := by
  rw [del_ne (fun z => by rw [z, ha] at h; cases h; rw [ho] at hu; cases hu)]
  exact h
mutual
theorem Rp.del {F : Hp} {a : Addr} {o : HO} (ha : F a = some o) (ho : notTup o = true) : ∀ {v : V} {d : PyData}, Rp K F v d → noL d = true → Rp K (del F a) v d
  | _, _, .non, _ => .non
  | _, _, .bl b, _ => .bl b
  | _, _, .int i, _ => .int i
  | _, _, .str x, _ => .str x
  | _, _, .lst _ _, n => by simp [noL] at n
  | _, _, .dK _ _, n => by simp [noL] at n
  | _, _, .dT _ _ _, n => by simp [noL] at n
  | _, _, .obj _ _ _ _, n => by simp [noL, objD] at n
  | _, _, .exc _ _ _ _, n => by simp [noL, errD] at n
  | _, _, .fn _, n => by simp [noL, fnD] at n
  | _, _, @Rp.tup _ _ b vs ds h k r, n => by
    refine .tup ?_ ?_ (RpA.del ha ho r (by simpa [noL] using n))
    · rcases h with (h | ⟨ob, h⟩) | h
      · exact .inl (.inl (del_tup ha ho h rfl))
      · exact .inl (.inr ⟨ob, del_tup ha ho h rfl⟩)
      · exact .inr h
    · rcases k with ⟨h, k⟩ | ⟨ob, h, k⟩
      · exact .inl ⟨del_tup ha ho h rfl, k⟩
      · exact .inr ⟨ob, del_tup ha ho h rfl, k⟩
theorem RpA.del {F : Hp} {a : Addr} {o : HO} (ha : F a = some o) (ho : notTup o = true) : ∀ {vs : List V} {ds : List PyData}, RpA K F vs ds → noLA ds = true → RpA K (del F a) vs ds
  | _, _, .nil, _ => .nil
  | _, _, @RpA.cons _ _ v vs d ds r t, n => by
    have n' : noL d = true ∧ noLA ds = true := by simpa [noLA] using n
    exact .cons (Rp.del ha ho r n'.1) (RpA.del ha ho t n'.2)
end
theorem RpK.del {F : Hp} {a : Addr} {o : HO} (ha : F a = some o) (ho : notTup o = true) : ∀ {kvs : List (Key × V)} {ds : List (PyData × PyData)}, RpK K F kvs ds → (ds.all fun p => noL p.2) = true → RpK K (del F a) kvs ds
  | _, _, .nil, _ => .nil
  | _, _, @RpK.cons _ _ k v kvs d ds r t, n => by
    rw [List.all_cons] at n
    have n' : noL d = true ∧ (ds.all fun p => noL p.2) = true := Bool.and_eq_true_iff.mp n
    exact .cons (Rp.del ha ho r n'.1) (RpK.del ha ho t n'.2)
theorem tb_back {S : Sta} {F H F2 H2 : Hp} {a : Addr} {o : HO} (hF : F a = none) (ho : notTup o = true) (e : Ext S (upd F a o) H F2 H2) (t : Tb S F H) : Tb S (del F2 a) H2 := fun p hp => by
  have ha : F2 a = some o := e.le _ _ upd_same
  obtain ⟨ps, h1, h2, h3⟩ := e.tb (t.to (F' := upd F a o) (H' := H) (fun x u z => by rw [upd_ne (ne_of_none z hF)]; exact z) fun _ _ _ z => z) p hp
  refine ⟨ps, h1, h2, fun pos cv hc => ?_⟩
  obtain ⟨c, e1, e2⟩ := h3 pos cv hc
  exact ⟨c, e1, del_tup ha ho e2 rfl⟩
theorem ext_back {S : Sta} {F H F2 H2 : Hp} {a : Addr} {o : HO} (hF : F a = none) (ho : notTup o = true) (e : Ext S (upd F a o) H F2 H2) : Ext S F H (del F2 a) H2 := by
  refine ⟨e.keep, fun b hb => ?_, fun b u hu => ?_, fun b u hu => ?_, fun t => tb_back hF ho e t⟩
  · by_cases z : b = a
    · subst z; rw [del_same, hF]
    · rw [del_ne z, e.grow b hb, upd_ne z]
  · have z : b ≠ a := fun z => by rw [z, hF] at hu; cases hu
    rw [del_ne z]
    exact e.le _ _ (by rw [upd_ne z]; exact hu)
  · by_cases z : b = a
    · subst z; rw [del_same] at hu; cases hu
    · rw [del_ne z] at hu; exact e.sub _ _ hu
/-- back to what was frozen ahead -/
theorem bor_back {F2 H2 : Hp} {g2 : Gs} {v : V} {r : RV} {a : Addr} {o : HO} (hH : H a = some o) (hF : F a = none) (hM : ¬ S.M a) (ho : notTup o = true) (e : Ext S (upd F a o) H F2 H2) (j : S.J g2 H2) (rv : RepRV K S H F2 H2 v r) (p : plainRV r = true) : Ext S F H (del F2 a) H2 ∧ RepRV K S H (del F2 a) H2 v r := by
  have ha : F2 a = some o := e.le _ _ upd_same
  refine ⟨⟨e.keep, fun b hb => ?_, fun b u hu => ?_, fun b u hu => ?_, fun t => tb_back hF ho e t⟩, ?_⟩
  · by_cases z : b = a
    · subst z; rw [del_same, hF]
    · rw [del_ne z, e.grow b hb, upd_ne z]
  · have z : b ≠ a := fun z => by rw [z, hF] at hu; cases hu
    rw [del_ne z]
    exact e.le _ _ (by rw [upd_ne z]; exact hu)
  · by_cases z : b = a
    · subst z; rw [del_same] at hu; cases hu
    · rw [del_ne z] at hu; exact e.sub _ _ hu
  · cases r with
    | d x => exact Rp.del ha ho rv p
    | nl xs =>
      obtain ⟨b, vs, rfl, h1, h2, h3, h4, h5⟩ := rv
      have z : b ≠ a := fun z => by rw [z, hH] at h1; cases h1
      exact ⟨b, vs, rfl, h1, h2, by rw [del_ne z]; exact h3, h4, RpA.del ha ho h5 p⟩
    | nd t ks =>
      cases t with
      | true => cases p
      | false =>
        obtain ⟨b, n, rfl, h1, h2, h3, h4, h5, h6⟩ := rv
        have z : b ≠ a := fun z => by rw [z, hH] at h1; cases h1
        cases n with
        | t kvs => cases h5
        | k kvs => exact ⟨b, .k kvs, rfl, h1, h2, by rw [del_ne z]; exact h3, h4, rfl, RpK.del ha ho h6 p⟩
    | o u => exact rv
theorem own_notTup {s : SD} {a : Addr} {o : HO} (h : OwnAt K F H a s) (e : H a = some o) : notTup o = true := by
  cases s with
  | own xs => obtain ⟨vs, h1, _⟩ := h; rw [h1] at e; cases e; rfl
  | dic t ks => obtain ⟨n, h1, _⟩ := h; rw [h1] at e; cases e; cases n <;> rfl
  | ins x dx C nm fs => obtain ⟨vs, h1, _⟩ := h; rw [h1] at e; cases e; rfl
  | u => exact h.elim
  | d x => exact h.elim
  | o v => exact h.elim
  | lk x => exact h.elim
  | er x => exact h.elim
theorem fz_own {s : Option SD} {s' : SD} (h : fzSD s = some (some s')) : ∃ t, s = some t ∧ t.owner = true := by
  cases s with
  | none => cases h
  | some t => cases t <;> first | exact ⟨_, rfl, rfl⟩ | cases h
theorem sm_bor {t : TE} {f : EF} (i : Nat) (h : Sm K W t f) : Sm K W t (fBor i f) := by
  intro S B F0 F H ρ σ g Pd Xd Q E hf k kx
  unfold fBor at hf
  split at hf
  · rename_i s e
    obtain ⟨a, x, o, hv, _, hF, hM, hH, E', le⟩ := E.frz (s := s) e
    have ho : notTup o = true := by
      obtain ⟨t, ht, hto⟩ := fz_own e
      obtain ⟨v, h1, h2⟩ := E.sl i t ht
      obtain ⟨b, hb, _, _, _, own⟩ := h2.at hto
      rw [hv, hb] at h1
      cases h1
      exact own_notTup own hH
    have hf' : (f (ρ.set i s) g).wp (fun r g' => plainRV r = true ∧ Pd r g') NoX := by
      unfold grd at hf
      split at hf
      · rename_i r g' er
        rw [er]
        split at hf
        · exact ⟨‹_›, hf⟩
        · exact hf.elim
      · exact hf.elim
    refine h S B F0 _ H _ σ g _ _ _ E' hf' (fun r g' v F2 H2 q e2 j2 rv => ?_) (fun _ _ _ _ _ _ z _ _ _ => z.elim)
    obtain ⟨e3, rv3⟩ := bor_back hH hF hM ho e2 j2 rv q.1
    exact k r g' v _ H2 q.2 e3 j2 rv3
  · exact h S B F0 F H ρ σ g Pd Xd Q E hf k kx
  · exact hf.elim
theorem smt_bor {t : TT} {f : EFt} (i : Nat) (h : SmT K W t f) : SmT K W t (fBorT i f) := by
  intro S B F0 F H ρ σ g Pd Xd Q E hf k kx
  unfold fBorT at hf
  split at hf
  · rename_i s e
    obtain ⟨a, x, o, hv, _, hF, hM, hH, E', le⟩ := E.frz (s := s) e
    have ho : notTup o = true := by
      obtain ⟨t, ht, hto⟩ := fz_own e
      obtain ⟨v, h1, h2⟩ := E.sl i t ht
      obtain ⟨b, hb, _, _, _, own⟩ := h2.at hto
      rw [hv, hb] at h1
      cases h1
      exact own_notTup own hH
    refine h S B F0 _ H _ σ g _ _ _ E' (R.wp_nox.mp hf) (fun r g' F2 H2 q e2 j2 => ?_) (fun _ _ _ _ _ _ z _ _ _ => z.elim)
    exact k r g' _ H2 q (ext_back hF ho e2) j2
  · exact h S B F0 F H ρ σ g Pd Xd Q E hf k kx
  · exact hf.elim
end
def avS : AV → SD
  | .d x => .d x
  | .o v => .o v
def slots (n : Nat) (as : List AV) : List SD := as.map avS ++ List.replicate (n - as.length) .u
theorem repAVs_get {K : Ck} {F : Hp} : ∀ {vs : List V} {as : List AV} {i : Nat} {a : AV}, RepAVs K F vs as → as[i]? = some a → ∃ v, vs[i]? = some v ∧ RepAV K F v a
  | v :: vs, a :: as, 0, _, h, e => by simp at e; subst e; exact ⟨v, rfl, h.1⟩
  | v :: vs, a :: as, i + 1, b, h, e => by
    obtain ⟨w, h1, h2⟩ := repAVs_get (i := i) h.2 (by simpa using e)
    exact ⟨w, by simpa using h1, h2⟩
  | [], [], _, _, _, e => by simp at e
  | [], _ :: _, _, _, h, _ => h.elim
  | _ :: _, [], _, _, h, _ => h.elim
/-- what a def's body comes to -/
def endR (o : Out) (g : Gs) : R RV := match o with
  | .nx _ => .ok (.d .none) g
  | .rt r => .ok r g
  | .ex x _ => .exc x g
  | _ => .bad
@[simp] theorem endR_nx (ρ : List SD) (g : Gs) : endR (.nx ρ) g = .ok (.d .none) g := rfl
@[simp] theorem endR_rt (r : RV) (g : Gs) : endR (.rt r) g = .ok r g := rfl
@[simp] theorem endR_ex (x : PyData) (ρ : List SD) (g : Gs) : endR (.ex x ρ) g = .exc x g := rfl
/-- a def: its parameters, its slots, its body -/
def fnR (np n : Nat) (b : EFs) : FnSp := fun as g => if as.length = np then (b (slots n as) g).nox.bind endR else .bad
theorem slots_env {K : Ck} {q : SQ} {F H B : Hp} {g : Gs} {N : List Str} {vs : List V} {as : List AV} (sub : Sub F H) (mF : ∀ a, (staOf q).M a → F a = none) (j : (staOf q).J g H) (tb : Tb (staOf q) F H) (hq : q.2 ≠ [] → q.2 = lamT K) (ra : RepAVs K F vs as) (kp : ∀ a o, B a = some o → H a = some o) : EnvOk K (staOf q) B F F H (slots N.length as) (L2.start N vs) g := by
  have hl := ra.length
  refine ⟨⟨q, rfl, hq⟩, tb, sub, Le.refl F, fun _ _ => rfl, fun a o h _ => kp a o h, mF, j, ?_, fun i s hi => ?_, fun i l s t h1 h2 o1 o2 _ => ?_⟩
  · unfold slots L2.start
    simp [hl]
  · unfold slots at hi
    unfold L2.start
    by_cases hc : i < as.length
    · rw [List.getElem?_append_left (by simpa using hc), List.getElem?_map] at hi
      cases ea : as[i]? with
      | none => rw [ea] at hi; cases hi
      | some a =>
        rw [ea] at hi
        cases hi
        obtain ⟨v, hv, rv⟩ := repAVs_get ra ea
        refine ⟨some v, by rw [List.getElem?_append_left (by simpa [hl] using hc), List.getElem?_map, hv]; rfl, ?_⟩
        cases a with
        | d x => exact ⟨v, rfl, rv⟩
        | o u => cases rv; rfl
    · rw [List.getElem?_append_right (by simpa using Nat.le_of_not_lt hc), List.getElem?_replicate] at hi
      split at hi
      · cases hi
        rename_i hh
        refine ⟨none, ?_, trivial⟩
        rw [List.getElem?_append_right (by simpa [hl] using Nat.le_of_not_lt hc), List.getElem?_replicate]
        simp only [List.length_map] at hh ⊢
        rw [hl, if_pos (by simpa using hh)]
      · cases hi
  · exfalso
    unfold slots at h1
    by_cases hc : i < as.length
    · rw [List.getElem?_append_left (by simpa using hc), List.getElem?_map] at h1
      cases ea : as[i]? with
      | none => rw [ea] at h1; cases h1
      | some b =>
        rw [ea] at h1
        cases h1
        cases b <;> cases o1
    · rw [List.getElem?_append_right (by simpa using Nat.le_of_not_lt hc), List.getElem?_replicate] at h1
      split at h1
      · cases h1; cases o1
      · cases h1
theorem fnR_len {np n : Nat} {b : EFs} {as : List AV} {g : Gs} {P : RV → Gs → Prop} {X : PyData → Gs → Prop} (h : (fnR np n b as g).wp P X) : as.length = np ∧ ((b (slots n as) g).nox.bind endR).wp P X := by
  unfold fnR at h
  split at h
  · exact ⟨‹_›, h⟩
  · exact h.elim
theorem spF_len {K : Ck} {np n : Nat} {b : EFs} : ∀ (vs : List V) (H : Hp) (Q : VK) (E : XK), spF K (fnR np n b) vs H Q E → vs.length = np := by
  rintro vs H Q E ⟨q, F, g, as, _, _, _, _, _, ra, h⟩
  rw [ra.length]
  exact (fnR_len h).1
/-- the wish of a def's body -/
abbrev WB (E : XK) : WX := fun cls d _ H => E cls d H
theorem body_ok {K : Ck} {t : TS} {b : EFs} {np : Nat} {N : List Str} {vs : List V} {H : Hp} {Q : VK} {E : XK} (hb : SmS K (WB E) t b) (h : spF K (fnR np N.length b) vs H Q E) : t { nx := fun _ H' => Q .non H', rt := Q } (L2.start N vs) H := by
  obtain ⟨q, F, g, as, sub, mF, j, tb, hq, ra, h⟩ := h
  refine hb (staOf q) H F F H (slots N.length as) (L2.start N vs) g _ (slots_env sub mF j tb hq ra fun _ _ h => h) (R.wp_imp (R.wp_nox.mp (R.wp_bind.mp (fnR_len h).2)) (fun o g' h => ?_) fun _ _ z => z)
  cases o with
  | nx ρ => exact fun σ F' H' E' => h _ _ _ (E'.ret Rp.non)
  | rt r => exact h
  | bk ρ => exact h.elim
  | ct ρ => exact h.elim
  | ex x ρ => exact fun σ F' H' cls d E' er => h cls d F' H' ⟨E'.sub, E'.mono, E'.fz, E'.keep, E'.tb, E'.j, er⟩
end Fx

namespace Fx
open PySem L2

abbrev Cx.ck (X : Cx) : Ck := ⟨X.K, X.mg⟩
def rB (K : Ck) (go : GO2) : R2 := fun x y H Q => ∃ (S : Sta) (F : Hp) (dx dy : PyData) (Qd : RV → Prop), Okh S F H ∧ Rp K F x dx ∧ Rp K F y dy ∧ go dx dy Qd ∧ PostO K S F H Qd Q
def rN (K : Ck) (go : GO1) : V → Hp → VK → Prop := fun x H Q => ∃ (S : Sta) (F : Hp) (dx : PyData) (Qd : RV → Prop), Okh S F H ∧ Rp K F x dx ∧ go dx Qd ∧ PostO K S F H Qd Q
def rA (K : Ck) (go : GOA) : List V → Hp → VK → Prop := fun xs H Q => ∃ (S : Sta) (F : Hp) (as : List AV) (Qd : RV → Prop), Okh S F H ∧ RepAVs K F xs as ∧ go as Qd ∧ PostO K S F H Qd Q
theorem opd_rB {K : Ck} {go : GO2} : OpD K (rB K go) go := fun S F H x y dx dy Qd Q o h1 h2 g p => ⟨S, F, dx, dy, Qd, o, h1, h2, g, p⟩
theorem opd_rN {K : Ck} {go : GO1} : Op1D K (rN K go) go := fun S F H x dx Qd Q o h1 g p => ⟨S, F, dx, Qd, o, h1, g, p⟩
theorem opd_rA {K : Ck} {go : GOA} : OpAD K (rA K go) go := fun S F H xs as Qd Q o h1 g p => ⟨S, F, as, Qd, o, h1, g, p⟩

/-- no dict in it, and not too deep -/
def pl (d : PyData) : Bool := d.plain && decide (d.depth ≤ 64)
theorem pl1 {d : PyData} (h : pl d = true) : d.plain = true := (Bool.and_eq_true_iff.mp h).1
theorem pl2 {d : PyData} (h : pl d = true) : d.depth ≤ 64 := of_decide_eq_true (Bool.and_eq_true_iff.mp h).2
section
variable {X : Cx} {pins : List (Addr × Obj)} {σ : L2.St} {H F : Hp} {s : Shared}
/-- a list that may be read, as its object stands -/
theorem lstR {l : Addr} {xs : List V} (I : Inv X pins σ H s) (hH : SqLx (Cx.ck X) H l xs) : xs.length ≤ sizeLine ∧ ∃ (its : List Value) (n : Nat), Vals xs its ∧ xs.length = its.length ∧ s.heap.get? l = some { cls := .type "list", data := .seq its.toArray n } := by
  rcases hH with hH | ⟨its, n, h1, h2, r⟩
  · obtain ⟨z, its, n, r, e⟩ := hH.ok I.hok
    exact ⟨z, its, n, r, r.length, e⟩
  · refine ⟨?_, its.toList, n, r, r.length, by simpa using I.kIn _ _ h1⟩
    have e := r.length
    simp only [Array.length_toList] at e
    omega
mutual
theorem Rp.dp {K : Ck} (e : Le F H) : ∀ {v : V} {d : PyData}, Rp K F v d → d.plain = true → Dp K H v d
  | _, _, .non, _ => .non
  | _, _, .bl b, _ => .bl b
  | _, _, .int i, _ => .int i
  | _, _, .str x, _ => .str x
  | _, _, .lst h r, c => .lst (e.sqx h).sql (RpA.dp e r (by simpa [PyData.plain] using c))
  | _, _, .tup h _ r, c => .tup (e.sqt h) (RpA.dp e r (by simpa [PyData.plain] using c))
  | _, _, .dK _ _, c => by simp [PyData.plain] at c
  | _, _, .dT _ _ _, c => by simp [PyData.plain] at c
  | _, _, .obj _ _ _ _, c => by simp [objD, PyData.plain] at c
  | _, _, .exc _ _ _ _, c => by simp [errD, PyData.plain] at c
  | _, _, .fn _, c => by simp [fnD, PyData.plain] at c
theorem RpA.dp {K : Ck} (e : Le F H) : ∀ {vs : List V} {ds : List PyData}, RpA K F vs ds → PyData.plainAll ds = true → DpAll K H vs ds
  | _, _, .nil, _ => .nil
  | _, _, @RpA.cons _ _ v vs d ds r t, c => by
    have c' : d.plain = true ∧ PyData.plainAll ds = true := by simpa [PyData.plainAll] using c
    exact .cons (Rp.dp e r c'.1) (RpA.dp e t c'.2)
end
end

def gAdd : GO2 := fun x y Q => match x, y with
  | .int i, .int j => Q (.d (.int (i + j)))
  | .str i, .str j => i.length + j.length ≤ sizeLine ∧ Q (.d (.str (i ++ j)))
  | .list xs, .list ys => xs.length + ys.length ≤ sizeLine ∧ Q (.nl (xs ++ ys))
  | .tuple xs, .tuple ys => xs.length + ys.length ≤ sizeLine ∧ Q (.d (.tuple (xs ++ ys)))
  | _, _ => False
def gSub : GO2 := fun x y Q => match x, y with
  | .int i, .int j => Q (.d (.int (i - j)))
  | _, _ => False
def gMul : GO2 := fun x y Q => match x, y with
  | .int i, .int j => (CMul i j ∨ CMulW i j) ∧ Q (.d (.int (i * j)))
  | .list xs, .int k => (-(2 ^ 63) ≤ k ∧ k < 2 ^ 63) ∧ xs.length * k.toNat ≤ sizeLine ∧ Q (.nl (List.replicate k.toNat xs).flatten)
  | _, _ => False
def gMod : GO2 := fun x y Q => match x, y with
  | .int i, .int j => 0 < j ∧ Q (.d (.int (i % j)))
  | _, _ => False
def gDiv : GO2 := fun x y Q => match x, y with
  | .int i, .int j => (0 < j ∧ j.natAbs.log2 < 9000) ∧ Q (.d (.int (i / j)))
  | _, _ => False
def gPow : GO2 := fun x y Q => match x, y with
  | .int i, .int j => 0 ≤ j ∧ (Builtin.Int.intBits i : Int) * j ≤ 2 ^ 27 ∧ Q (.d (.int (i ^ j.toNat)))
  | _, _ => False
def gNeg : GO1 := fun x Q => match x with
  | .int i => Q (.d (.int (-i)))
  | _ => False
section
open PySem.Spec PyProof.Rows
variable {X : Cx}
theorem rcatR : OpR X (binaryOp .Add) (fun x y H Q => ∃ l b xs zs, x = .ref l ∧ y = .ref b ∧ SqLx (Cx.ck X) H l xs ∧ SqLx (Cx.ck X) H b zs ∧ xs.length + zs.length ≤ sizeLine ∧ ∀ p, H p = none → Q (.ref p) (upd H p (.lst (xs ++ zs)))) := by
  intro pins s σ H x y v u Q I rx ry h
  obtain ⟨l, b, xs, zs, rfl, rfl, hH, hB, hz, q⟩ := h
  cases rx
  cases ry
  obtain ⟨z, its, n, r, hl, e⟩ := lstR I hH
  obtain ⟨z2, its2, n2, r2, hl2, e2⟩ := lstR I hB
  refine PySem.P.add_list e e2 ?_ (by rw [List.size_toArray, List.size_toArray]; omega)
  have ea : its.toArray ++ its2.toArray = (its ++ its2).toArray := by simp
  rw [ea]
  exact ⟨.ref _, _, I.lnew (t' := s.toks) (r.append r2) (by rw [List.length_append]; omega), rfl, q _ I.fresh⟩
theorem op_catF : OpR X (binaryOp .Add) (fun x y H Q => ∃ a b xs ys, x = .ref a ∧ y = .ref b ∧ SqT (Cx.ck X) H a xs ∧ SqT (Cx.ck X) H b ys ∧ xs ≠ [] ∧ xs.length + ys.length ≤ sizeLine ∧ (ys = [] → Q (.ref a) H) ∧ (ys ≠ [] → ∀ p (ob : Obj), H p = none → ob.dict = none → Q (.ref p) (upd H p (.frz ob (.tup (xs ++ ys)))))) := by
  intro pins s σ H x y v u Q I rx ry h
  obtain ⟨a, b, xs, ys, rfl, rfl, ha, hb, hx, hz, q1, q2⟩ := h
  cases rx
  cases ry
  obtain ⟨its, r1, p1, _⟩ := I.tuple ha
  obtain ⟨its2, r2, p2, _⟩ := I.tuple hb
  refine HT.cat_tup p1 p2 (fun z => hx (r1.nil_iff.mp z)) (fun z => ⟨.ref a, H, I, rfl, q1 (r2.nil_iff.mp z)⟩) (fun z => ?_) (by rw [← r1.length, ← r2.length]; exact hz)
  refine ⟨.ref s.heap.objs.size, _, I.laid (t' := s.toks) (o := .frz { cls := .type "tuple", data := .seq (its ++ its2).toArray } (.tup (xs ++ ys))) (fun b ob q => Heap.get?_push_of_some _ q) (Nat.le_refl _) ?_, rfl, q2 (fun w => z (r2.nil_iff.mpr w)) _ _ (I.hok.fresh (Nat.le_refl _)) rfl⟩
  exact ⟨Heap.get?_push_size _ rfl, by rw [List.length_append]; exact hz, _, r1.append r2, IsTup.new _ _⟩
theorem op_addP : OpR X (binaryOp .Add) (rB (Cx.ck X) gAdd) := by
  intro pins s σ H x y v u Q I rx ry h
  obtain ⟨S, F, dx, dy, Qd, o, h1, h2, g, p⟩ := h
  cases h1 with
  | int i =>
    cases h2 with
    | int j => exact op_add pins s σ H _ _ v u Q I rx ry ⟨i, j, rfl, rfl, p.d o (Rp.int _) g⟩
    | _ => exact g.elim
  | str i =>
    cases h2 with
    | str j => exact op_add_str pins s σ H _ _ v u Q I rx ry ⟨i, j, rfl, rfl, g.1, p.d o (Rp.str _) g.2⟩
    | _ => exact g.elim
  | @lst a vs ds hr ra =>
    cases h2 with
    | @lst b ws es hs rb => exact rcatR pins s σ H _ _ v u Q I rx ry ⟨a, b, vs, ws, rfl, rfl, Le.sqx o.sub hr, Le.sqx o.sub hs, by rw [ra.length, rb.length]; exact g.1, p.nl o (ra.append rb) g.2⟩
    | _ => exact g.elim
  | @tup a vs ds hr hk ra =>
    cases h2 with
    | @tup b ws es hs hk2 rb =>
      by_cases e1 : vs = []
      · refine op_catA pins s σ H _ _ v u Q I rx ry ⟨a, b, vs, ws, rfl, rfl, Le.sqt o.sub hr, Le.sqt o.sub hs, by rw [ra.length, rb.length]; exact g.1, fun e => ?_, fun z => absurd e1 z, fun z => absurd e1 z⟩
        have e' := ra.nil_iff.mp e
        subst e'
        exact p.d o (Rp.tup hs hk2 rb) g.2
      · exact op_catF pins s σ H _ _ v u Q I rx ry ⟨a, b, vs, ws, rfl, rfl, Le.sqt o.sub hr, Le.sqt o.sub hs, e1, by rw [ra.length, rb.length]; exact g.1, fun e2 => by
          have e' := rb.nil_iff.mp e2
          subst e'
          have g2 := g.2
          rw [List.append_nil] at g2
          exact p.d o (Rp.tup hr hk ra) g2, fun _ pp ob h1 h2 => p.tup o (ra.append rb) g.2 pp ob h1 h2⟩
    | _ => exact g.elim
  | _ => exact g.elim
theorem op_subP : OpR X (binaryOp .Sub) (rB (Cx.ck X) gSub) := by
  intro pins s σ H x y v u Q I rx ry h
  obtain ⟨S, F, dx, dy, Qd, o, h1, h2, g, p⟩ := h
  cases h1 with
  | int i =>
    cases h2 with
    | int j => exact op_sub pins s σ H _ _ v u Q I rx ry ⟨i, j, rfl, rfl, p.d o (Rp.int _) g⟩
    | _ => exact g.elim
  | _ => exact g.elim
theorem rrepR : OpR X (binaryOp .Mult) (fun x y H Q => ∃ l k xs, x = .ref l ∧ y = .int k ∧ SqLx (Cx.ck X) H l xs ∧ -(2 ^ 63) ≤ k ∧ k < 2 ^ 63 ∧ xs.length * k.toNat ≤ sizeLine ∧
  ∀ p, H p = none → Q (.ref p) (upd H p (.lst (List.replicate k.toNat xs).flatten))) := by
  intro pins s σ H x y v u Q I rx ry h
  obtain ⟨l, k, xs, rfl, rfl, hH, h1, h2, hz, q⟩ := h
  cases rx
  obtain ⟨t, rfl⟩ := ry
  obtain ⟨z, its, n, r, hl, e⟩ := lstR I hH
  have hlen : its.toArray.size * k.toNat ≤ sizeLine := by rw [List.size_toArray, ← hl]; exact hz
  have hcap : ¬ its.toArray.size * k.toNat > (2 ^ 63 - 1) / 8 := by
    have : (sizeLine : Nat) ≤ (2 ^ 63 - 1) / 8 := by decide
    omega
  have hfit : ¬ (!Builtin.List.listFitsIndex k) = true := by
    rw [fitsIndex_both h1 h2]
    exact Bool.false_ne_true
  have hlong : ¬ Builtin.List.listTooLong (its.toArray.size * k.toNat) = true := by
    rw [notLongL hlen]
    exact Bool.false_ne_true
  have hnew : List.foldl (fun x1 x2 => x1 ++ x2) #[] (List.replicate (if its.toArray.isEmpty = true then 0 else k.toNat) its.toArray) = (List.replicate k.toNat its).flatten.toArray := by
    have f0 : ∀ m : Nat, List.foldl (fun x1 x2 => x1 ++ x2) #[] (List.replicate m its.toArray) = (List.replicate m its).flatten.toArray := fun m => by
      have := foldl_rep its m []
      rw [List.nil_append] at this
      exact this
    rw [f0]
    cases its with
    | nil => simp
    | cons a r' => rw [if_neg (by simp)]
  refine wpAny_binaryOp_repeat_ref (T := "list") (U := "int") (by decide) ⟨_, e, rfl⟩ (fun s' => typeIs_int s' k t) noFill_list_mul F.fills_int_mul F.slot_int_rmul repeat_list F.slot_int_index.lookup
    (call_meets F.slot_int_rmul (typeIs_int s k t) F.entry_int_rmul (F.args_int_rmul_2 _ _) (int___rmul___int_list k t l its.toArray n)
      ⟨e, rfl, ⟨_, e, rfl⟩, call_meets F.slot_list_mul ⟨_, e, rfl⟩ F.entry_list_mul (F.args_list_mul_2 _ _) (AutoListH.list___mul___list_int_3 l its.toArray n k t hfit hcap hlong) ⟨e, ?_⟩⟩)
  rw [hnew]
  exact ⟨.ref _, _, I.lnew (t' := s.toks) (r.rep k.toNat) (by rw [PyProof.Rows.lm_len_rep_flat, Nat.mul_comm]; exact hz), rfl, q _ I.fresh⟩
theorem RpA.rep {K : Ck} {F : Hp} {vs : List V} {ds : List PyData} (h : RpA K F vs ds) : ∀ n : Nat, RpA K F (List.replicate n vs).flatten (List.replicate n ds).flatten
  | 0 => by simpa using RpA.nil
  | n + 1 => by simpa [List.replicate_succ] using h.append (RpA.rep h n)
theorem op_mulP : OpR X (binaryOp .Mult) (rB (Cx.ck X) gMul) := by
  intro pins s σ H x y v u Q I rx ry h
  obtain ⟨S, F, dx, dy, Qd, o, h1, h2, g, p⟩ := h
  cases h1 with
  | int i =>
    cases h2 with
    | int j =>
      rcases g.1 with c | c
      · exact op_mul pins s σ H _ _ v u Q I rx ry ⟨i, j, rfl, rfl, c, p.d o (Rp.int _) g.2⟩
      · exact op_mulW pins s σ H _ _ v u Q I rx ry ⟨i, j, rfl, rfl, c, p.d o (Rp.int _) g.2⟩
    | _ => exact g.elim
  | @lst a vs ds hr ra =>
    cases h2 with
    | int k => exact rrepR pins s σ H _ _ v u Q I rx ry ⟨a, k, vs, rfl, rfl, Le.sqx o.sub hr, g.1.1, g.1.2, by rw [ra.length]; exact g.2.1, p.nl o (ra.rep k.toNat) g.2.2⟩
    | _ => exact g.elim
  | _ => exact g.elim
theorem op_modP : OpR X (binaryOp .Mod) (rB (Cx.ck X) gMod) := by
  intro pins s σ H x y v u Q I rx ry h
  obtain ⟨S, F, dx, dy, Qd, o, h1, h2, g, p⟩ := h
  cases h1 with
  | int i =>
    cases h2 with
    | int j => exact op_mod pins s σ H _ _ v u Q I rx ry ⟨i, j, rfl, rfl, g.1, p.d o (Rp.int _) g.2⟩
    | _ => exact g.elim
  | _ => exact g.elim
theorem op_divP : OpR X (binaryOp .FloorDiv) (rB (Cx.ck X) gDiv) := by
  intro pins s σ H x y v u Q I rx ry h
  obtain ⟨S, F, dx, dy, Qd, o, h1, h2, g, p⟩ := h
  cases h1 with
  | int i =>
    cases h2 with
    | int j => exact op_fdivW pins s σ H _ _ v u Q I rx ry ⟨i, j, rfl, rfl, g.1, p.d o (Rp.int _) g.2⟩
    | _ => exact g.elim
  | _ => exact g.elim
theorem op_powP : OpR X (binaryOp .Pow) (rB (Cx.ck X) gPow) := by
  intro pins s σ H x y v u Q I rx ry h
  obtain ⟨S, F, dx, dy, Qd, o, h1, h2, g, p⟩ := h
  cases h1 with
  | int i =>
    cases h2 with
    | int j =>
      obtain ⟨t, rfl⟩ := rx
      obtain ⟨t', rfl⟩ := ry
      exact pow_int g.1 g.2.1 ⟨.int _, H, I.tok _, ⟨_, rfl⟩, p.d o (Rp.int _) g.2.2⟩
    | _ => exact g.elim
  | _ => exact g.elim
theorem un_negP : UnR X (unaryOp .USub) (rN (Cx.ck X) gNeg) := by
  intro pins s σ H x v Q I rx h
  obtain ⟨S, F, dx, Qd, o, h1, g, p⟩ := h
  cases h1 with
  | int i => exact un_neg pins s σ H _ v Q I rx ⟨i, rfl, p.d o (Rp.int _) g⟩
  | _ => exact g.elim

def gEq : GO2 := fun x y Q => pl x = true ∧ pl y = true ∧ Q (.d (.bool (PyData.eqv x y)))
def gNe : GO2 := fun x y Q => pl x = true ∧ pl y = true ∧ Q (.d (.bool (!PyData.eqv x y)))
def gCmp (f : Int → Int → Bool) : GO2 := fun x y Q => match x, y with
  | .int i, .int j => Q (.d (.bool (f i j)))
  | _, _ => False
def gLt : GO2 := fun x y Q => match x, y with
  | .int i, .int j => Q (.d (.bool (decide (i < j))))
  | .str i, .str j => Q (.d (.bool (decide (i.cps.toList < j.cps.toList))))
  | _, _ => False
def gLe : GO2 := gCmp fun i j => decide (i ≤ j)
def gGt : GO2 := gCmp fun i j => decide (j < i)
def gGe : GO2 := gCmp fun i j => decide (j ≤ i)
theorem op_eqP (hu : X.A.units + 64 < cLine) : OpR X (compareOp .Eq) (rB (Cx.ck X) gEq) := by
  intro pins s σ H x y v u Q I rx ry h
  obtain ⟨S, F, dx, dy, Qd, o, h1, h2, g, p⟩ := h
  obtain ⟨as, r1⟩ := Dp.reads I dx x v (h1.dp o.sub (pl1 g.1)) rx
  obtain ⟨bs, r2⟩ := Dp.reads I dy y u (h2.dp o.sub (pl1 g.2.1)) ry
  have hd := pl2 g.1
  exact SeqAt.eq_plain r1 r2 (pl1 g.1) (pl1 g.2.1) (by omega) ⟨.bl _, H, I, rfl, p.d o (Rp.bl _) g.2.2⟩
theorem op_neP (hu : X.A.units + 64 < cLine) : OpR X (compareOp .NotEq) (rB (Cx.ck X) gNe) := by
  intro pins s σ H x y v u Q I rx ry h
  obtain ⟨S, F, dx, dy, Qd, o, h1, h2, g, p⟩ := h
  obtain ⟨as, r1⟩ := Dp.reads I dx x v (h1.dp o.sub (pl1 g.1)) rx
  obtain ⟨bs, r2⟩ := Dp.reads I dy y u (h2.dp o.sub (pl1 g.2.1)) ry
  have hd := pl2 g.1
  exact SeqAt.ne_plain r1 r2 (pl1 g.1) (pl1 g.2.1) (by omega) ⟨.bl _, H, I, rfl, p.d o (Rp.bl _) g.2.2⟩
theorem op_ltP : OpR X (compareOp .Lt) (rB (Cx.ck X) gLt) := by
  intro pins s σ H x y v u Q I rx ry h
  obtain ⟨S, F, dx, dy, Qd, o, h1, h2, g, p⟩ := h
  cases h1 with
  | int i =>
    cases h2 with
    | int j => exact op_lt pins s σ H _ _ v u Q I rx ry ⟨i, j, rfl, rfl, p.d o (Rp.bl _) g⟩
    | _ => exact g.elim
  | str i =>
    cases h2 with
    | str j => exact op_lt_str pins s σ H _ _ v u Q I rx ry ⟨i, j, rfl, rfl, p.d o (Rp.bl _) g⟩
    | _ => exact g.elim
  | _ => exact g.elim
theorem op_leP : OpR X (compareOp .LtE) (rB (Cx.ck X) gLe) := by
  intro pins s σ H x y v u Q I rx ry h
  obtain ⟨S, F, dx, dy, Qd, o, h1, h2, g, p⟩ := h
  cases h1 with
  | int i =>
    cases h2 with
    | int j => exact op_le pins s σ H _ _ v u Q I rx ry ⟨i, j, rfl, rfl, p.d o (Rp.bl _) g⟩
    | _ => exact g.elim
  | _ => exact g.elim
theorem op_gtP : OpR X (compareOp .Gt) (rB (Cx.ck X) gGt) := by
  intro pins s σ H x y v u Q I rx ry h
  obtain ⟨S, F, dx, dy, Qd, o, h1, h2, g, p⟩ := h
  cases h1 with
  | int i =>
    cases h2 with
    | int j => exact op_gt pins s σ H _ _ v u Q I rx ry ⟨i, j, rfl, rfl, p.d o (Rp.bl _) g⟩
    | _ => exact g.elim
  | _ => exact g.elim
theorem op_geP : OpR X (compareOp .GtE) (rB (Cx.ck X) gGe) := by
  intro pins s σ H x y v u Q I rx ry h
  obtain ⟨S, F, dx, dy, Qd, o, h1, h2, g, p⟩ := h
  cases h1 with
  | int i =>
    cases h2 with
    | int j => exact op_ge pins s σ H _ _ v u Q I rx ry ⟨i, j, rfl, rfl, p.d o (Rp.bl _) g⟩
    | _ => exact g.elim
  | _ => exact g.elim
end

def dkey : PyData → Option Key
  | .int i => some (.inl i)
  | .str x => some (.inr x)
  | _ => none
def dkeys : List PyData → Option (List Key)
  | [] => some []
  | x :: xs => match dkey x, dkeys xs with
    | some k, some ks => some (k :: ks)
    | _, _ => none
/-- a dict, no object -/
def isDK (ks : List (PyData × PyData)) : Bool := ks.all fun p => (dkey p.1).isSome
theorem Rp.dk {K : Ck} {F : Hp} {v : V} {ks : List (PyData × PyData)} (h : Rp K F v (.dict ks)) (c : isDK ks = true) : ∃ a kvs, v = .ref a ∧ Rd F a (.dK kvs) ∧ RpK K F kvs ks := by
  cases h with
  | dK hr rk => exact ⟨_, _, rfl, hr, rk⟩
  | dT hr rk hn =>
    cases rk with
    | nil => exact absurd rfl hn
    | cons r t => exact absurd c (by simp [isDK, dkey])
  | obj _ _ _ _ => exact absurd c (by simp [isDK, dkey])
  | exc _ _ _ _ => exact absurd c (by simp [isDK, dkey])
  | fn _ => exact absurd c (by simp [isDK, dkey])
theorem kV_keyD {K : Ck} {F : Hp} (k : Key) : Rp K F (kV k) (keyD k) := by
  cases k with
  | inl i => exact .int i
  | inr i => exact .str i
theorem RpK.keys {K : Ck} {F : Hp} : ∀ {kvs : List (Key × V)} {ks : List (PyData × PyData)}, RpK K F kvs ks → RpA K F (kvs.map fun p => kV p.1) (ks.map Prod.fst)
  | _, _, .nil => .nil
  | _, _, .cons _ t => .cons (kV_keyD _) (RpK.keys t)
/-- a key of a dict: flat, or a tuple of flat ones -/
inductive DK where
  | f (k : Key)
  | t (ks : List Key)
  deriving DecidableEq
def toDK : PyData → Option DK
  | .tuple xs => (dkeys xs).map .t
  | x => (dkey x).map .f
/-- the value at a key -/
def dget (ks : List (PyData × PyData)) (k : DK) : Option PyData := (ks.find? fun p => decide (toDK p.1 = some k)).map (·.2)
def dput (ks : List (PyData × PyData)) (x : PyData) (k : DK) (v : PyData) : List (PyData × PyData) :=
  if (ks.any fun p => decide (toDK p.1 = some k)) = true then ks.map fun p => if toDK p.1 = some k then (p.1, v) else p else ks ++ [(x, v)]
section
variable {K : Ck} {F H : Hp}
theorem dkey_keyD (k : Key) : dkey (keyD k) = some k := by cases k <;> rfl
theorem toDK_keyD (k : Key) : toDK (keyD k) = some (.f k) := by cases k <;> rfl
theorem dkeys_map : ∀ ks : List Key, dkeys (ks.map keyD) = some ks
  | [] => rfl
  | k :: ks => by
    show (match dkey (keyD k), dkeys (ks.map keyD) with | some k, some ks => some (k :: ks) | _, _ => none) = _
    rw [dkey_keyD, dkeys_map ks]
theorem dkeys_inv : ∀ {xs : List PyData} {ks : List Key}, dkeys xs = some ks → xs = ks.map keyD
  | [], ks, h => by cases h; rfl
  | x :: xs, ks, h => by
    unfold dkeys at h
    cases e1 : dkey x with
    | none => rw [e1] at h; cases h
    | some k =>
      cases e2 : dkeys xs with
      | none => rw [e1, e2] at h; cases h
      | some r =>
        rw [e1, e2] at h
        cases h
        have : x = keyD k := by
          cases x <;> first | (cases e1; rfl) | cases e1
        rw [this, dkeys_inv e2]; rfl
theorem rpk_get : ∀ {kvs : List (Key × V)} {ds : List (PyData × PyData)} (k : Key), RpK K F kvs ds → (match valV kvs k, dget ds (.f k) with | some v, some d => Rp K F v d | none, none => True | _, _ => False)
  | _, _, k, .nil => trivial
  | _, _, k, @RpK.cons _ _ k0 v kvs d ds r t => by
    have ih := rpk_get k t
    by_cases e : k0 = k
    · subst e
      have h1 : valV ((k0, v) :: kvs) k0 = some v := valV_pos rfl
      have h2 : dget ((keyD k0, d) :: ds) (.f k0) = some d := by
        unfold dget
        rw [List.find?_cons_of_pos (by simp [toDK_keyD])]
        rfl
      rw [h1, h2]
      exact r
    · have h1 : valV ((k0, v) :: kvs) k = valV kvs k := valV_neg e
      have h2 : dget ((keyD k0, d) :: ds) (.f k) = dget ds (.f k) := by
        unfold dget
        rw [List.find?_cons_of_neg (by simp [toDK_keyD, e])]
      rw [h1, h2]
      exact ih
theorem rpt_get : ∀ {kvs : List (List Key × V)} {ds : List (PyData × PyData)} (k : List Key), RpT K F kvs ds → (match valV kvs k, dget ds (.t k) with | some v, some d => Rp K F v d | none, none => True | _, _ => False)
  | _, _, k, .nil => trivial
  | _, _, k, @RpT.cons _ _ k0 v kvs d ds r t => by
    have ih := rpt_get k t
    have hk : toDK (.tuple (k0.map keyD)) = some (.t k0) := by show (dkeys (k0.map keyD)).map DK.t = _; rw [dkeys_map]; rfl
    by_cases e : k0 = k
    · subst e
      have h1 : valV ((k0, v) :: kvs) k0 = some v := valV_pos rfl
      have h2 : dget ((.tuple (k0.map keyD), d) :: ds) (.t k0) = some d := by
        unfold dget
        rw [List.find?_cons_of_pos (by simp [hk])]
        rfl
      rw [h1, h2]
      exact r
    · have h1 : valV ((k0, v) :: kvs) k = valV kvs k := valV_neg e
      have h2 : dget ((.tuple (k0.map keyD), d) :: ds) (.t k) = dget ds (.t k) := by
        unfold dget
        rw [List.find?_cons_of_neg (by simp [hk, e])]
      rw [h1, h2]
      exact ih
end
end Fx

namespace Fx
open PySem L2

/-- the dict's kind is the key's -/
def matchK (ks : List (PyData × PyData)) : DK → Bool
  | .f _ => (match ks with
    | [] => true
    | p :: _ => (dkey p.1).isSome)
  | .t _ => (match ks with
    | [] => false
    | p :: _ => (match p.1 with
      | .tuple _ => true
      | _ => false))
def gIn (neg : Bool) : GO2 := fun x y Q => match y with
  | .list ys => pl x = true ∧ pl (.list ys) = true ∧ Q (.d (.bool (neg ^^ ys.any fun z => PyData.eqv z x)))
  | .tuple ys => pl x = true ∧ pl (.tuple ys) = true ∧ Q (.d (.bool (neg ^^ ys.any fun z => PyData.eqv z x)))
  | .str z => (match x with
    | .str i => ∃ c, i = ⟨#[c]⟩ ∧ Q (.d (.bool (neg ^^ decide (c ∈ z.cps.toList))))
    | _ => False)
  | .dict ks => ∃ k, toDK x = some k ∧ matchK ks k = true ∧ Q (.d (.bool (neg ^^ (dget ks k).isSome)))
  | _ => False
section
open PySem.Spec PyProof.Rows
variable {X : Cx}
theorem toDK_inv {x : PyData} {k : DK} (h : toDK x = some k) : (∃ q, k = .f q ∧ x = keyD q) ∨ ∃ q : List Key, k = .t q ∧ x = .tuple (List.map keyD q) := by
  cases x with
  | int i => cases h; exact .inl ⟨.inl i, rfl, rfl⟩
  | str i => cases h; exact .inl ⟨.inr i, rfl, rfl⟩
  | tuple xs =>
    have h' : (dkeys xs).map DK.t = some k := h
    cases e : dkeys xs with
    | none => rw [e] at h'; cases h'
    | some q =>
      rw [e] at h'
      cases h'
      exact .inr ⟨q, rfl, by rw [dkeys_inv e]⟩
  | _ => cases h
theorem rp_keyD {K : Ck} {F : Hp} {v : V} {q : Key} (h : Rp K F v (keyD q)) : v = kV q := by
  cases q with
  | inl i => cases h; rfl
  | inr x => cases h; rfl
theorem rpa_keyD {K : Ck} {F : Hp} : ∀ {vs : List V} {q : List Key}, RpA K F vs (List.map keyD q) → vs = List.map kV q
  | _, [], h => by cases h; rfl
  | _, k :: q, h => by
    cases h with
    | cons r t => rw [rp_keyD r, rpa_keyD t]; rfl
/-- a tuple of flat keys, as the library sees it -/
theorem key_sqt {pins : List (Addr × Obj)} {σ : L2.St} {H : Hp} {s : Shared} {b : Addr} {ks : List Key} (I : Inv X pins σ H s) (h : SqT (Cx.ck X) H b (List.map kV ks)) : (tupleKind (mixKind X.prog X.w)).is s.heap ks b := by
  obtain ⟨its, r, p, _⟩ := I.tuple h
  obtain ⟨o, h1, h2, n, h3⟩ := p
  exact ⟨o, its.toArray, n, h1, h2, h3, by simpa using items_are r⟩
/-- a look-up by data: the dict at a, the key y -/
def LookP (K : Ck) (H : Hp) (a : Addr) (y : V) (r : Option V) : Prop :=
  (∃ kvs k, Rd H a (.dK kvs) ∧ y = kV k ∧ r = valV kvs k) ∨ (∃ (kvs : List (List Key × V)) (k : List Key) (b : Addr), Rd H a (.dT kvs) ∧ y = .ref b ∧ SqT K H b (List.map kV k) ∧ r = valV kvs k)
variable {pins : List (Addr × Obj)} {σ : L2.St} {H F : Hp} {s : Shared} {a : Addr} {y v : V} {u r : Value} {o : Option V} {A : Around} {E : Value → Shared → Prop}
theorem lookP_typeIs (I : Inv X pins σ H s) (g : LookP (Cx.ck X) H a y o) : s.TypeIs (.ref a) "dict" := by
  rcases g with ⟨kvs, k, e, _, _⟩ | ⟨kvs, k, b, e, _, _, _⟩
  · obtain ⟨_, _, vs, _, dd⟩ := dk_rd I.hok e
    exact dd.typeIs
  · obtain ⟨_, _, xs, _, dd⟩ := dt_rd I.hok e
    exact dd.typeIs
theorem p_getItem {Q : Value → Shared → Prop} (hu : A.units + 1 < cLine) (I : Inv X pins σ H s) (g : LookP (Cx.ck X) H a y (some v)) (ry : RelV y u) (h : ∀ w' s', Inv X pins σ H s' → RelV v w' → Q w' s') :
    wpAny (model X.prog X.w) A (getItem (.ref a) u) Q E s := by
  rcases g with ⟨kvs, k, e, ey, l⟩ | ⟨kvs, k, b, e, ey, eb, l⟩
  · exact d_getItem hu I (.inl ⟨kvs, k, e, ey, l⟩) ry h
  · subst ey
    cases (show u = Value.ref b from ry)
    obtain ⟨z, hd, xs, rel, dd⟩ := dt_rd I.hok e
    obtain ⟨w', hw, rw'⟩ := RelO.some_of (v := v) (o := (atKey xs k).map (·.2)) (by rw [l]; exact rel.val k)
    obtain ⟨p, hp, hp2⟩ := Option.map_eq_some_iff.mp hw
    refine wpAny_getItem_heap (tupleKind_room_in1 hu) (key_sqt I eb) dd hp ?_
    rw [hp2]
    exact h w' _ (I.tok _) rw'
theorem p_in {Q : Value → Shared → Prop} (hu : A.units + 1 < cLine) (I : Inv X pins σ H s) (g : LookP (Cx.ck X) H a y o) (ry : RelV y u) (h : ∀ s', Inv X pins σ H s' → Q (.bool o.isSome) s') :
    wpAny (model X.prog X.w) A (compareOp .In u (.ref a)) Q E s := by
  rcases g with ⟨kvs, k, e, ey, l⟩ | ⟨kvs, k, b, e, ey, eb, l⟩
  · exact d_in hu I (.inl ⟨kvs, k, e, ey, l⟩) ry h
  · subst ey
    cases (show u = Value.ref b from ry)
    obtain ⟨z, hd, xs, rel, dd⟩ := dt_rd I.hok e
    refine wpAny_in_heap (tupleKind_room_in1 hu) (key_sqt I eb) hd dd ?_
    have q := (rel.val k).isSome_eq
    rw [Option.isSome_map] at q
    rw [← q, ← l]
    exact h _ (I.tok _)
theorem p_notIn {Q : Value → Shared → Prop} (hu : A.units + 1 < cLine) (I : Inv X pins σ H s) (g : LookP (Cx.ck X) H a y o) (ry : RelV y u) (h : ∀ s', Inv X pins σ H s' → Q (.bool (!o.isSome)) s') :
    wpAny (model X.prog X.w) A (compareOp .NotIn u (.ref a)) Q E s := by
  rcases g with ⟨kvs, k, e, ey, l⟩ | ⟨kvs, k, b, e, ey, eb, l⟩
  · exact d_notIn hu I (.inl ⟨kvs, k, e, ey, l⟩) ry h
  · subst ey
    cases (show u = Value.ref b from ry)
    obtain ⟨z, hd, xs, rel, dd⟩ := dt_rd I.hok e
    refine wpAny_notIn_heap (tupleKind_room_in1 hu) (key_sqt I eb) hd dd ?_
    have q := (rel.val k).isSome_eq
    rw [Option.isSome_map] at q
    rw [← q, ← l]
    exact h _ (I.tok _)
theorem p_get {Q : Value → Shared → Prop} {d : V} (hu : A.units + 1 < cLine) (I : Inv X pins σ H s) (g : LookP (Cx.ck X) H a y o) (ry : RelV y u) (rd : RelV d r) (h : ∀ w' s', Inv X pins σ H s' → RelV (o.getD d) w' → Q w' s') :
    wpAny (model X.prog X.w) A (call (.builtin "dict.get") [.ref a, u, r]) Q E s := by
  rcases g with ⟨kvs, k, e, ey, l⟩ | ⟨kvs, k, b, e, ey, eb, l⟩
  · exact d_get2 hu I (.inl ⟨kvs, k, e, ey, l⟩) ry rd h
  · subst ey
    cases (show u = Value.ref b from ry)
    obtain ⟨z, hd, xs, rel, dd⟩ := dt_rd I.hok e
    refine call_meetsIn PySem.F.slot_dict_get dd.typeIs PySem.F.entry_dict_get (PySem.F.args_dict_get_3 _ _ _) (meetsH_dict_get_default (tupleKind (mixKind X.prog X.w)) a b hd r) ⟨tupleKind_room_in1 hu, k, xs, key_sqt I eb, dd, h _ _ (I.tok _) ?_⟩
    rw [l]
    exact (rel.val k).getD rd
theorem p_get1 {Q : Value → Shared → Prop} (hu : A.units + 1 < cLine) (I : Inv X pins σ H s) (g : LookP (Cx.ck X) H a y o) (ry : RelV y u) (h : ∀ w' s', Inv X pins σ H s' → RelV (o.getD .non) w' → Q w' s') :
    wpAny (model X.prog X.w) A (call (.builtin "dict.get") [.ref a, u]) Q E s := by
  rcases g with ⟨kvs, k, e, ey, l⟩ | ⟨kvs, k, b, e, ey, eb, l⟩
  · exact d_get1 hu I (.inl ⟨kvs, k, e, ey, l⟩) ry h
  · subst ey
    cases (show u = Value.ref b from ry)
    obtain ⟨z, hd, xs, rel, dd⟩ := dt_rd I.hok e
    refine call_meetsIn PySem.F.slot_dict_get dd.typeIs PySem.F.entry_dict_get (PySem.F.args_dict_get_2 _ _) (meetsH_dict_get (tupleKind (mixKind X.prog X.w)) a b hd) ⟨tupleKind_room_in1 hu, k, xs, key_sqt I eb, dd, h _ _ (I.tok _) ?_⟩
    rw [l]
    exact (rel.val k).getD rfl
/-- from data to a look-up -/
theorem look_of {K : Ck} {x : PyData} {k : DK} {ks : List (PyData × PyData)} {p : V} (sub : Sub F H) (hd : Rp K F p (.dict ks)) (hk : toDK x = some k) (hm : matchK ks k = true) (hy : Rp K F y x) :
    ∃ a o, p = .ref a ∧ LookP K H a y o ∧ (match o, dget ks k with | some v, some d => Rp K F v d | none, none => True | _, _ => False) := by
  cases hd with
  | @dK a kvs _ h r =>
    rcases toDK_inv hk with ⟨q, rfl, rfl⟩ | ⟨q, rfl, rfl⟩
    · exact ⟨a, _, rfl, .inl ⟨kvs, q, Le.rd sub h, rp_keyD hy, rfl⟩, rpk_get q r⟩
    · exfalso
      cases r with
      | nil => cases hm
      | @cons k0 _ _ _ _ _ _ => cases k0 <;> cases hm
  | @dT a kvs _ h r n =>
    rcases toDK_inv hk with ⟨q, rfl, rfl⟩ | ⟨q, rfl, rfl⟩
    · exfalso
      cases r with
      | nil => exact n rfl
      | cons _ _ =>
        have hm' : false = true := hm
        cases hm'
    · cases hy with
      | @tup b vs _ hr hk ra =>
        have e := rpa_keyD ra
        subst e
        exact ⟨a, _, rfl, .inr ⟨kvs, q, b, .inl (sub _ _ h), rfl, Le.sqt sub hr, rfl⟩, rpt_get q r⟩
  | obj _ _ _ _ =>
    exfalso
    cases k <;> cases hm
  | exc _ _ _ _ =>
    exfalso
    cases k <;> cases hm
  | fn _ =>
    exfalso
    cases k <;> cases hm
theorem look_some {K : Ck} {o : Option V} {p : Option PyData} (h : match o, p with | some v, some d => Rp K F v d | none, none => True | _, _ => False) : o.isSome = p.isSome := by
  cases o <;> cases p <;> first | rfl | exact h.elim
theorem op_inP (hu : X.A.units + 65 < cLine) : OpR X (compareOp .In) (rB (Cx.ck X) (gIn false)) := by
  intro pins s σ H x y v u Q I rx ry h
  obtain ⟨S, F, dx, dy, Qd, o, h1, h2, g, p⟩ := h
  cases dy with
  | list ys =>
    obtain ⟨g1, g2, g3⟩ := g
    rw [Bool.false_xor] at g3
    obtain ⟨as, r1⟩ := Dp.reads I dx x v (h1.dp o.sub (pl1 g1)) rx
    obtain ⟨bs, r2⟩ := Dp.reads I (.list ys) y u (h2.dp o.sub (pl1 g2)) ry
    have hd := pl2 g1
    exact SeqAt.in_list_data r2 r1 (by simpa [PyData.plain] using pl1 g2) (pl1 g1) (by omega) ⟨.bl _, H, I, rfl, p.d o (Rp.bl _) g3⟩
  | tuple ys =>
    obtain ⟨g1, g2, g3⟩ := g
    rw [Bool.false_xor] at g3
    obtain ⟨as, r1⟩ := Dp.reads I dx x v (h1.dp o.sub (pl1 g1)) rx
    obtain ⟨bs, r2⟩ := Dp.reads I (.tuple ys) y u (h2.dp o.sub (pl1 g2)) ry
    have hd := pl2 g1
    exact SeqAt.in_tuple_data r2 r1 (by simpa [PyData.plain] using pl1 g2) (pl1 g1) (by omega) ⟨.bl _, H, I, rfl, p.d o (Rp.bl _) g3⟩
  | str z =>
    cases dx with
    | str i =>
      obtain ⟨c, rfl, g⟩ := g
      cases h1
      cases h2
      rw [Bool.false_xor] at g
      exact op_in_sign pins s σ H _ _ v u Q I rx ry ⟨c, z, rfl, rfl, p.d o (Rp.bl _) g⟩
    | _ => exact g.elim
  | dict ks =>
    obtain ⟨k, hk, hm, g⟩ := g
    obtain ⟨a, w, rfl, lk, m⟩ := look_of o.sub h2 hk hm h1
    obtain rfl : u = Value.ref a := ry
    refine p_in (by omega) I lk rx fun s' I' => ⟨.bl w.isSome, H, I', rfl, p.d o (Rp.bl _) ?_⟩
    rw [look_some m, ← Bool.false_xor (dget ks k).isSome]
    exact g
  | _ => exact g.elim
theorem op_notInP (hu : X.A.units + 65 < cLine) : OpR X (compareOp .NotIn) (rB (Cx.ck X) (gIn true)) := by
  intro pins s σ H x y v u Q I rx ry h
  obtain ⟨S, F, dx, dy, Qd, o, h1, h2, g, p⟩ := h
  cases dy with
  | list ys =>
    obtain ⟨g1, g2, g3⟩ := g
    rw [Bool.true_xor] at g3
    obtain ⟨as, r1⟩ := Dp.reads I dx x v (h1.dp o.sub (pl1 g1)) rx
    obtain ⟨bs, r2⟩ := Dp.reads I (.list ys) y u (h2.dp o.sub (pl1 g2)) ry
    have hd := pl2 g1
    exact SeqAt.notIn_list_data r2 r1 (by simpa [PyData.plain] using pl1 g2) (pl1 g1) (by omega) ⟨.bl _, H, I, rfl, p.d o (Rp.bl _) g3⟩
  | tuple ys =>
    obtain ⟨g1, g2, g3⟩ := g
    rw [Bool.true_xor] at g3
    obtain ⟨as, r1⟩ := Dp.reads I dx x v (h1.dp o.sub (pl1 g1)) rx
    obtain ⟨bs, r2⟩ := Dp.reads I (.tuple ys) y u (h2.dp o.sub (pl1 g2)) ry
    have hd := pl2 g1
    exact SeqAt.notIn_tuple_data r2 r1 (by simpa [PyData.plain] using pl1 g2) (pl1 g1) (by omega) ⟨.bl _, H, I, rfl, p.d o (Rp.bl _) g3⟩
  | str z =>
    cases dx with
    | str i =>
      obtain ⟨c, rfl, g⟩ := g
      cases h1
      cases h2
      rw [Bool.true_xor] at g
      exact op_notIn_sign pins s σ H _ _ v u Q I rx ry ⟨c, z, rfl, rfl, p.d o (Rp.bl _) g⟩
    | _ => exact g.elim
  | dict ks =>
    obtain ⟨k, hk, hm, g⟩ := g
    obtain ⟨a, w, rfl, lk, m⟩ := look_of o.sub h2 hk hm h1
    obtain rfl : u = Value.ref a := ry
    refine p_notIn (by omega) I lk rx fun s' I' => ⟨.bl (!w.isSome), H, I', rfl, p.d o (Rp.bl _) ?_⟩
    rw [look_some m, ← Bool.true_xor (dget ks k).isSome]
    exact g
  | _ => exact g.elim

def gIx : GO2 := fun x y Q => match x with
  | .list xs => (match y with
    | .int i => ∃ d, atI xs i = some d ∧ Q (.d d)
    | _ => False)
  | .tuple xs => (match y with
    | .int i => ∃ d, atI xs i = some d ∧ Q (.d d)
    | _ => False)
  | .str z => (match y with
    | .int i => z.length ≤ sizeLine ∧ ∃ c, atI z.cps.toList i = some c ∧ Q (.d (.str ⟨#[c]⟩))
    | _ => False)
  | .dict ks => ∃ k d, toDK y = some k ∧ matchK ks k = true ∧ dget ks k = some d ∧ Q (.d d)
  | _ => False
theorem atI_rp {K : Ck} {vs : List V} {ds : List PyData} {i : Int} {d : PyData} (r : RpA K F vs ds) (h : atI ds i = some d) : ∃ v, atI vs i = some v ∧ Rp K F v d := by
  unfold atI at h ⊢
  rw [r.length]
  cases e : ixN ds.length i with
  | none => rw [e] at h; cases h
  | some j =>
    rw [e] at h
    obtain ⟨v, h1, h2⟩ := r.get' (show ds[j]? = some d from h)
    exact ⟨v, h1, h2⟩
theorem ix_anyP (hu : X.A.units + 1 < cLine) : IxR X (rB (Cx.ck X) gIx) := by
  intro value slice pins s σ H x y v u Q I rx ry h hs
  obtain ⟨S, F, dx, dy, Qd, o, h1, h2, g, p⟩ := h
  cases dx with
  | list xs =>
    cases h2 with
    | int i =>
      obtain ⟨d, e, q⟩ := g
      cases h1 with
      | @lst a vs _ hr ra =>
        obtain ⟨w, ew, rw'⟩ := atI_rp ra e
        exact ix_list value slice pins s σ H _ _ v u Q I rx ry ⟨a, vs, i, w, rfl, rfl, (Le.sqx o.sub hr).sql, ew, p.d o rw' q⟩ hs
    | _ => exact g.elim
  | tuple xs =>
    cases h2 with
    | int i =>
      obtain ⟨d, e, q⟩ := g
      cases h1 with
      | @tup a vs _ hr hk ra =>
        obtain ⟨w, ew, rw'⟩ := atI_rp ra e
        exact ix_tup value slice pins s σ H _ _ v u Q I rx ry ⟨a, vs, i, w, rfl, rfl, Le.sqt o.sub hr, ew, p.d o rw' q⟩ hs
    | _ => exact g.elim
  | str z =>
    cases h2 with
    | int i =>
      obtain ⟨hz, c, e, q⟩ := g
      cases h1
      exact ix_str value slice pins s σ H _ _ v u Q I rx ry ⟨z, i, c, rfl, rfl, hz, e, p.d o (Rp.str _) q⟩ hs
    | _ => exact g.elim
  | dict ks =>
    obtain ⟨k, d, hk, hm, hd, g⟩ := g
    obtain ⟨a, w, rfl, lk, m⟩ := look_of o.sub h1 hk hm h2
    obtain rfl : v = Value.ref a := rx
    rw [hd] at m
    cases w with
    | none => exact m.elim
    | some w =>
      exact tail_any (lookP_typeIs I lk) PySem.F.slot_dict_getitem.lookup (p_getItem hu I lk ry fun w' s3 I3 rw' => ⟨w, H, I3, rw', p.d o m g⟩) hs
  | _ => exact g.elim
end
end Fx

namespace Fx
open PySem L2

section
open PySem.W PySem.Calls PyProof.Rows
variable {X : Cx} {pins : List (Addr × Obj)} {σ : L2.St} {H F : Hp} {s : Shared}
mutual
theorem rp_reads (I : Inv X pins σ H s) (le : Le F H) : ∀ {v : V} {d : PyData} {u : Value}, Rp (Cx.ck X) F v d → noL d = true → RelV v u → Reads s.heap u d []
  | _, _, _, .non, _, r => by cases r; exact .none
  | _, _, _, .bl b, _, r => by cases r; exact .bool b
  | _, _, _, .int i, _, r => by obtain ⟨t, rfl⟩ := r; exact .int i t
  | _, _, _, .str x, _, r => by obtain ⟨t, rfl⟩ := r; exact .str x t
  | _, _, _, .lst _ _, n, _ => by simp [noL] at n
  | _, _, _, .tup h _ ra, n, r => by
    cases r
    obtain ⟨its, rv, ⟨o, ho, hc, n', hd⟩, _⟩ := I.tuple (Le.sqt le h)
    exact .tuple ho hc hd (rpa_reads I le ra (by simpa [noL] using n) rv)
  | _, _, _, .dK _ _, n, _ => by simp [noL] at n
  | _, _, _, .dT _ _ _, n, _ => by simp [noL] at n
theorem rpa_reads (I : Inv X pins σ H s) (le : Le F H) : ∀ {vs : List V} {ds : List PyData} {us : List Value}, RpA (Cx.ck X) F vs ds → noLA ds = true → Vals vs us → ReadsAll s.heap us ds []
  | _, _, _, .nil, _, r => by cases r; exact .nil
  | _, _, _, @RpA.cons _ _ v vs d ds h t, n, r => by
    have n' : noL d = true ∧ noLA ds = true := by simpa [noLA] using n
    cases r with
    | cons r1 r2 => exact ReadsAll.cons (as := []) (bs := []) (rp_reads I le h n'.1 r1) (rpa_reads I le t n'.2 r2)
end
theorem each_of (I : Inv X pins σ H s) (le : Le F H) : ∀ {vs : List V} {ds : List PyData} {us : List Value}, RpA (Cx.ck X) F vs ds → noLA ds = true → Vals vs us →
    EachIs (fun u d => Reads s.heap u d [] ∧ ∃ v, RelV v u ∧ Rp (Cx.ck X) F v d) us ds
  | _, _, _, .nil, _, r => by cases r; exact .nil
  | _, _, _, @RpA.cons _ _ v vs d ds h t, n, r => by
    have n' : noL d = true ∧ noLA ds = true := by simpa [noLA] using n
    cases r with
    | cons r1 r2 => exact .cons ⟨rp_reads I le h n'.1 r1, v, r1, h⟩ (each_of I le t n'.2 r2)
theorem each_back {K : Ck} : ∀ {us : List Value} {ds : List PyData}, EachIs (fun u d => ∃ v, RelV v u ∧ Rp K F v d) us ds → ∃ vs, Vals vs us ∧ RpA K F vs ds
  | _, _, .nil => ⟨[], .nil, .nil⟩
  | _, _, .cons ⟨v, r1, r2⟩ t => by
    obtain ⟨vs, a, b⟩ := each_back t
    exact ⟨v :: vs, .cons r1 a, .cons r2 b⟩
/-- may be sorted -/
structure SortOk (ds : List PyData) : Prop where
  al : AllAlike ds
  so : Sortable ds
  no : noLA ds = true
  dp : ∀ d ∈ ds, d.depth ≤ 64
abbrev sortD (ds : List PyData) : List PyData := ds.mergeSort (dataLe false id)
/-- a new list of what was collected, sorted -/
theorem sort_tail {A : Around} {E : Value → Shared → Prop} {vs : List V} {us : List Value} {ds : List PyData} {Q : Value → Shared → Prop} (I : Inv X pins σ H s) (le : Le F H) (rv : Vals vs us) (ra : RpA (Cx.ck X) F vs ds) (ok : SortOk ds) (hz : ds.length ≤ sizeLine) (hu : A.units + 70 < cLine)
    (h : ∀ s' p ws, H p = none → Inv X pins σ (upd H p (.lst ws)) s' → RpA (Cx.ck X) F ws (sortD ds) → Q (.ref p) s') :
    wpAny (model X.prog X.w) A (do let l ← newList us; let _ ← holding [l] (call (.builtin "list.sort") [l]); ret l) (fun fin s' => ∃ v, fin = .done (.ret v) ∧ Q v s') E s := by
  have hl : us.length = ds.length := by rw [← rv.length, ra.length]
  refine wpAny_bind (wpAny_newList ?_ (by omega))
  have e0 := each_of I le ra ok.no rv
  have hO : (s.heap.push (seqObj "list" us.toArray 0)).get? s.heap.objs.size = some (seqObj "list" us.toArray 0) := Heap.get?_push_size _ rfl
  have k1 : ∀ b o, s.heap.get? b = some o → (s.heap.push (seqObj "list" us.toArray 0)).get? b = some o := fun b o e => Heap.get?_push_of_some _ e
  refine wpAny_bind (wpAny_holding (list_sort_data (s := { s with heap := s.heap.push (seqObj "list" us.toArray 0) }) (bs := ds) (enc := id) (R := fun u d => ∃ v, RelV v u ∧ Rp (Cx.ck X) F v d) hO (e0.mono fun _ _ z => z.2)
    (e0.mono fun u d z => ⟨[], PyProof.Rows.Reads.keeps k1 z.1, by simp⟩) (by simpa using ok.al) (by simpa using ok.so) hz (fun b hb => by have := ok.dp b hb; show A.units + 1 + (id b).depth < cLine; simp only [id]; omega) fun out ho eo => ?_))
  obtain ⟨ws, v1, v2⟩ := each_back (by simpa using eo)
  obtain ⟨c, hc⟩ := sortedHeap_at (vs := us) (out := out.toArray) hO
  refine wpAny_pure ⟨_, rfl, h _ s.heap.objs.size ws I.fresh ?_ v2⟩
  refine I.laid (fun b o e => ?_) (Nat.le_refl _) ⟨?_, out, c, v1, hc⟩
  · have hb : b ≠ s.heap.objs.size := Nat.ne_of_lt (Heap.lt_size e)
    exact (sortedHeap_old hb (Heap.lt_size (k1 b o e))).trans (k1 b o e)
  · rw [v1.length, ho]; exact hz
/-- sorted(x), from what collect gives -/
theorem sorted_call {A : Around} {E : Value → Shared → Prop} {v : Value} {Q : Value → Shared → Prop}
    (hcol : wpAny (model X.prog X.w) A.in1 (collect v) (fun us s' => ∃ H' F' vs ds, Inv X pins σ H' s' ∧ Le F' H' ∧ Vals vs us ∧ RpA (Cx.ck X) F' vs ds ∧ SortOk ds ∧ ds.length ≤ sizeLine ∧
      ∀ s' p ws, H' p = none → Inv X pins σ (upd H' p (.lst ws)) s' → RpA (Cx.ck X) F' ws (sortD ds) → Q (.ref p) s') E s) (hu : A.units + 80 < cLine) : wpAny (model X.prog X.w) A (call (.builtin "sorted") [v]) Q E s := by
  refine call_function_entry_kw kind_sorted plain_sorted entry_sorted (args_sorted1 _) ?_
  unfold Builtin.«sorted»
  refine wpAny_bind (m := checkCount "sorted" 1 1 _) (wpAny_pure ?_)
  refine wpAny_bind ?_
  refine wpAny_mono hcol (fun us s1 ⟨H', F', vs, ds, I, le, rv, ra, ok, hz, q⟩ => ?_) fun _ _ e => e
  exact sort_tail I le rv ra ok hz (by show A.units + 1 + 70 < cLine; omega) q
end
end Fx

namespace Fx
open PySem L2

def g1 (f : GO1) : GOA := fun as Q => match as with
  | [.d x] => f x Q
  | _ => False
def g2 (f : GO2) : GOA := fun as Q => match as with
  | [.d x, .d y] => f x y Q
  | _ => False
section
variable {K : Ck}
theorem opA1 {r : List V → Hp → VK → Prop} {f : GO1} (h : Op1D K (fun v H Q => r [v] H Q) f) : OpAD K r (g1 f) := by
  intro S F H xs as Qd Q o ra g p
  match as, xs, ra, g with
  | [.d x], [v], ra, g => exact h S F H v x Qd Q o ra.1 g p
  | [.d x], [], ra, g => exact ra.elim
  | [.d x], _ :: _ :: _, ra, g => exact ra.2.elim
  | [], _, _, g => exact g.elim
  | [.o _], _, _, g => exact g.elim
  | .d _ :: _ :: _, _, _, g => exact g.elim
  | .o _ :: _ :: _, _, _, g => exact g.elim
theorem opA2 {r : List V → Hp → VK → Prop} {f : GO2} (h : OpD K (fun v u H Q => r [v, u] H Q) f) : OpAD K r (g2 f) := by
  intro S F H xs as Qd Q o ra g p
  match as, xs, ra, g with
  | [.d x, .d y], [v, u], ra, g => exact h S F H v u x y Qd Q o ra.1 ra.2.1 g p
  | [.d x, .d y], [], ra, g => exact ra.elim
  | [.d x, .d y], [_], ra, g => exact ra.2.elim
  | [.d x, .d y], _ :: _ :: _ :: _, ra, g => exact ra.2.2.elim
  | [], _, _, g => exact g.elim
  | [.d _], _, _, g => exact g.elim
  | [.o _], _, _, g => exact g.elim
  | .d _ :: .o _ :: _, _, _, g => exact g.elim
  | .o _ :: _ :: _, _, _, g => exact g.elim
  | .d _ :: .d _ :: _ :: _, _, _, g => exact g.elim
theorem RpK.length {F : Hp} : ∀ {vs : List (Key × V)} {ds : List (PyData × PyData)}, RpK K F vs ds → vs.length = ds.length
  | _, _, .nil => rfl
  | _, _, .cons _ t => by simp [RpK.length t]
theorem RpT.length {F : Hp} : ∀ {vs : List (List Key × V)} {ds : List (PyData × PyData)}, RpT K F vs ds → vs.length = ds.length
  | _, _, .nil => rfl
  | _, _, .cons _ t => by simp [RpT.length t]
def boolsD : List PyData → Option (List Bool)
  | [] => some []
  | .bool i :: ds => (boolsD ds).map (i :: ·)
  | _ :: _ => none
def strsD : List PyData → Option (List Str)
  | [] => some []
  | .str i :: ds => (strsD ds).map (i :: ·)
  | _ :: _ => none
theorem boolsD_rp {F : Hp} : ∀ {vs : List V} {ds : List PyData} {ns : List Bool}, RpA K F vs ds → boolsD ds = some ns → vs = ns.map V.bl
  | _, _, _, .nil, e => by cases e; rfl
  | _, _, _, .cons (d := .bool i) (ds := ds) r t, e => by
    cases r
    unfold boolsD at e
    cases q : boolsD ds with
    | none => rw [q] at e; cases e
    | some ms => rw [q] at e; cases e; rw [boolsD_rp t q]; rfl
  | _, _, _, .cons (d := .none) r t, e => by cases e
  | _, _, _, .cons (d := .int _) r t, e => by cases e
  | _, _, _, .cons (d := .str _) r t, e => by cases e
  | _, _, _, .cons (d := .list _) r t, e => by cases e
  | _, _, _, .cons (d := .tuple _) r t, e => by cases e
  | _, _, _, .cons (d := .dict _) r t, e => by cases e
theorem strsD_rp {F : Hp} : ∀ {vs : List V} {ds : List PyData} {ns : List Str}, RpA K F vs ds → strsD ds = some ns → vs = ns.map V.str
  | _, _, _, .nil, e => by cases e; rfl
  | _, _, _, .cons (d := .str i) (ds := ds) r t, e => by
    cases r
    unfold strsD at e
    cases q : strsD ds with
    | none => rw [q] at e; cases e
    | some ms => rw [q] at e; cases e; rw [strsD_rp t q]; rfl
  | _, _, _, .cons (d := .none) r t, e => by cases e
  | _, _, _, .cons (d := .int _) r t, e => by cases e
  | _, _, _, .cons (d := .bool _) r t, e => by cases e
  | _, _, _, .cons (d := .list _) r t, e => by cases e
  | _, _, _, .cons (d := .tuple _) r t, e => by cases e
  | _, _, _, .cons (d := .dict _) r t, e => by cases e
end

def gLen : GO1 := fun x Q => match x with
  | .str z => z.length ≤ sizeLine ∧ Q (.d (.int z.length))
  | .list xs => Q (.d (.int xs.length))
  | .tuple xs => Q (.d (.int xs.length))
  | .dict ks => isDK ks = true ∧ Q (.d (.int ks.length))
  | _ => False
def rLenD (K : Ck) : List V → Hp → VK → Prop := fun xs H Q => (∃ x n, xs = [x] ∧ LenV K x H n ∧ Q (.int n) H) ∨ ∃ a kvs, xs = [.ref a] ∧ Rd H a (.dK kvs) ∧ Q (.int kvs.length) H
theorem call_lenR {X : Cx} : CallR X (.builtin "len") (rLenD (Cx.ck X)) := by
  intro pins s σ H xs us Q I r h
  rcases h with h | ⟨a, kvs, rfl, hd, q⟩
  · exact call_len pins s σ H xs us Q I r h
  · obtain ⟨u, rfl, ru⟩ := r.one
    cases ru
    exact d_len I hd fun t s' I' => ⟨.int _, H, I', ⟨t, rfl⟩, q⟩
def rLen (K : Ck) : List V → Hp → VK → Prop := fun xs H Q => ∃ x n, xs = [x] ∧ LenV K x H n ∧ Q (.int n) H
section
variable {K : Ck}
theorem od_len : OpAD K (rLenD K) (g1 gLen) := opA1 fun S F H v x Qd Q o r g p => by
  cases r with
  | str z => exact .inl ⟨_, _, rfl, ⟨g.1, rfl⟩, p.d o (Rp.int _) g.2⟩
  | @lst a vs ds h ra =>
    refine .inl ⟨_, vs.length, rfl, .inl ⟨vs, (Le.sqx o.sub h).sql, rfl⟩, p.d o (Rp.int _) ?_⟩
    rw [ra.length]; exact g
  | @tup a vs ds h k ra =>
    refine .inl ⟨_, vs.length, rfl, .inr ⟨vs, Le.sqt o.sub h, rfl⟩, p.d o (Rp.int _) ?_⟩
    rw [ra.length]; exact g
  | non => exact g.elim
  | bl _ => exact g.elim
  | int _ => exact g.elim
  | dK hr rk => exact .inr ⟨_, _, rfl, Le.rd o.sub hr, p.d o (Rp.int _) (by rw [rk.length]; exact g.2)⟩
  | dT hr rk hn => obtain ⟨a, kvs, e, hr', _⟩ := (Rp.dT hr rk hn).dk g.1; cases e; rcases hr' with z | ⟨_, z⟩ <;> rw [hr] at z <;> cases z
  | obj hr hm hi rk => obtain ⟨a, kvs, e, hr', _⟩ := (Rp.obj hr hm hi rk).dk g.1; cases e; rcases hr' with z | ⟨_, z⟩ <;> rw [hr] at z <;> cases z
  | exc hr hm hi rk => obtain ⟨a, kvs, e, hr', _⟩ := (Rp.exc hr hm hi rk).dk g.1; cases e; rcases hr' with z | ⟨_, z⟩ <;> rw [hr] at z <;> cases z
  | fn m => exact absurd g.1 (by simp [isDK, dkey])
def gInt : GO1 := fun x Q => match x with
  | .int i => Q (.d (.int i))
  | .bool b => Q (.d (.int (if b then 1 else 0)))
  | _ => False
def rInt : List V → Hp → VK → Prop := fun xs H Q => (∃ i, xs = [.int i] ∧ Q (.int i) H) ∨ ∃ k, xs = [.bl k] ∧ Q (.int (if k then 1 else 0)) H
theorem od_int : OpAD K rInt (g1 gInt) := opA1 fun S F H v x Qd Q o r g p => by
  cases r with
  | int i => exact .inl ⟨_, rfl, p.d o (Rp.int _) g⟩
  | bl i => exact .inr ⟨_, rfl, p.d o (Rp.int _) g⟩
  | _ => exact g.elim
def gAbs : GO1 := fun x Q => match x with
  | .int i => Q (.d (.int (if i < 0 then -i else i)))
  | _ => False
def rAbs : List V → Hp → VK → Prop := fun xs H Q => ∃ i, xs = [.int i] ∧ Q (.int (if i < 0 then -i else i)) H
theorem od_abs : OpAD K rAbs (g1 gAbs) := opA1 fun S F H v x Qd Q o r g p => by
  cases r with
  | int i => exact ⟨_, rfl, p.d o (Rp.int _) g⟩
  | _ => exact g.elim
def gList : GO1 := fun x Q => match x with
  | .list xs => Q (.nl xs)
  | .tuple xs => Q (.nl xs)
  | _ => False
def gTuple : GO1 := fun x Q => match x with
  | .list xs => Q (.d (.tuple xs))
  | .tuple xs => Q (.d (.tuple xs))
  | _ => False
def rList (K : Ck) : List V → Hp → VK → Prop := fun xs H Q => ∃ p ys, xs = [.ref p] ∧ (SqL K H p ys ∨ SqT K H p ys) ∧ ∀ l, H l = none → Q (.ref l) (upd H l (.lst ys))
def rTuple (K : Ck) : List V → Hp → VK → Prop := fun xs H Q => ∃ p ys, xs = [.ref p] ∧ ((SqL K H p ys ∧ ∀ l (ob : Obj), H l = none → ob.dict = none → Q (.ref l) (upd H l (.frz ob (.tup ys)))) ∨ (SqT K H p ys ∧ Q (.ref p) H))
theorem call_tupleP {X : Cx} : CallR X (.type "tuple") (rTuple (Cx.ck X)) := by
  intro pins s σ H xs us Q I r h
  obtain ⟨p, ys, rfl, h⟩ := h
  obtain ⟨u, rfl, rx⟩ := vals1 r
  cases rx
  rcases h with ⟨hq, q⟩ | ⟨hq, q⟩
  · obtain ⟨its, r', pl, hz⟩ := I.list hq
    have hlen := r'.length
    refine call_tuple_list pl.isList (fun h' kp => ?_) (by simp only [List.size_toArray] <;> omega)
    have I1 : Inv X pins σ H { s with heap := h' } := I.kept (t' := s.toks) kp
    have I2 : Inv X pins σ (upd H h'.objs.size (.frz { cls := .type "tuple", data := .seq its.toArray } (.tup ys))) { s with heap := h'.push { cls := .type "tuple", data := .seq its.toArray } } :=
      I1.laid (t' := s.toks) (fun b o e => Heap.get?_push_of_some _ e) (Nat.le_refl _) (show ObjOk X.prog X.w _ _ _ (.frz _ (.tup ys)) from ⟨Heap.get?_push_size _ rfl, hz, its, r', PyProof.Rows.IsTup.new _ _⟩)
    exact ⟨.ref h'.objs.size, _, I2, rfl, q _ _ (I1.hok.fresh (Nat.le_refl _)) rfl⟩
  · obtain ⟨its, r', pl, hz⟩ := I.tuple hq
    exact call_tuple_same pl ⟨.ref p, H, I, rfl, q⟩
theorem od_list : OpAD K (rList K) (g1 gList) := opA1 fun S F H v x Qd Q o r g p => by
  cases r with
  | @lst a vs ds h ra => exact ⟨a, vs, rfl, .inl ((Le.sqx o.sub h).sql), p.nl o ra g⟩
  | @tup a vs ds h k ra => exact ⟨a, vs, rfl, .inr (Le.sqt o.sub h), p.nl o ra g⟩
  | _ => exact g.elim
theorem od_tuple : OpAD K (rTuple K) (g1 gTuple) := opA1 fun S F H v x Qd Q o r g p => by
  cases r with
  | @lst a vs ds h ra => exact ⟨a, vs, rfl, .inl ⟨(Le.sqx o.sub h).sql, p.tup o ra g⟩⟩
  | @tup a vs ds h k ra => exact ⟨a, vs, rfl, .inr ⟨Le.sqt o.sub h, p.d o (Rp.tup h k ra) g⟩⟩
  | _ => exact g.elim
def gAll : GO1 := fun x Q => match x with
  | .list xs => ∃ bs, boolsD xs = some bs ∧ Q (.d (.bool (bs.all id)))
  | _ => False
theorem od_all : OpAD K (rAll K) (g1 gAll) := opA1 fun S F H v x Qd Q o r g p => by
  cases r with
  | @lst a vs ds h ra =>
    obtain ⟨bs, e, q⟩ := g
    have := boolsD_rp ra e
    subst this
    exact ⟨a, bs, rfl, (Le.sqx o.sub h).sql, p.d o (Rp.bl _) q⟩
  | _ => exact g.elim
def gMin2 : GO2 := fun x y Q => match x, y with
  | .int i, .int j => Q (.d (.int (if j < i then j else i)))
  | _, _ => False
def rMin2 : List V → Hp → VK → Prop := fun xs H Q => ∃ i j, xs = [.int i, .int j] ∧ Q (.int (if j < i then j else i)) H
theorem od_min2 : OpAD K rMin2 (g2 gMin2) := opA2 fun S F H v u x y Qd Q o r1 r2 g p => by
  cases r1 with
  | int i =>
    cases r2 with
    | int j => exact ⟨_, _, rfl, p.d o (Rp.int _) g⟩
    | _ => exact g.elim
  | _ => exact g.elim
def maxI : List Int → Int
  | [] => 0
  | n :: ns => ns.foldl max n
def minI : List Int → Int
  | [] => 0
  | n :: ns => ns.foldl min n
end
def gSorted : GO1 := fun x Q => match x with
  | .list xs => SortOk xs ∧ Q (.nl (sortD xs))
  | .tuple xs => SortOk xs ∧ Q (.nl (sortD xs))
  | .dict ks => isDK ks = true ∧ SortOk (ks.map Prod.fst) ∧ Q (.nl (sortD (ks.map Prod.fst)))
  | _ => False
section
variable {X : Cx}
theorem cr_one {f : Value} {gg : GO1} (h : ∀ (pins : List (Addr × Obj)) (s : Shared) (σ : L2.St) (H : Hp) (v : V) (u : Value) (S : Sta) (F : Hp) (x : PyData) (Qd : RV → Prop) (Q : VK), Inv X pins σ H s → RelV v u → Okh S F H → Rp (Cx.ck X) F v x → gg x Qd → PostO (Cx.ck X) S F H Qd Q →
    wpAny (model X.prog X.w) X.A (call f [u]) (EP X pins σ Q) X.xe s) : CallR X f (rA (Cx.ck X) (g1 gg)) := by
  intro pins s σ H xs us Q I rv hh
  obtain ⟨S, F, as, Qd, o, ra, g, p⟩ := hh
  match as, xs, ra, g with
  | [.d x], [v], ra, g =>
    obtain ⟨u, rfl, ru⟩ : ∃ u, us = [u] ∧ RelV v u := by
      cases rv with
      | cons r1 r2 => cases r2; exact ⟨_, rfl, r1⟩
    exact h pins s σ H v u S F x Qd Q I ru o ra.1 g p
  | [.d x], [], ra, g => exact ra.elim
  | [.d x], _ :: _ :: _, ra, g => exact ra.2.elim
  | [], _, _, g => exact g.elim
  | [.o _], _, _, g => exact g.elim
  | .d _ :: _ :: _, _, _, g => exact g.elim
  | .o _ :: _ :: _, _, _, g => exact g.elim
theorem cr_sortedP (hc : X.calm = true) (hu : X.A.units + 80 < cLine) : CallR X (.builtin "sorted") (rA (Cx.ck X) (g1 gSorted)) := cr_one fun pins s σ H v u S F x Qd Q I ru o rx g p => by
  cases rx with
  | @lst a vs ds hr ra =>
    cases ru
    obtain ⟨its, rvs, ⟨oo, n, ho, hc, _, hd⟩, hz⟩ := I.list (Le.sqx o.sub hr).sql
    refine sorted_call (pins := pins) (σ := σ) (X := X) (wpAny_collect_seq a (.inl rfl) ho hc hd (fun h' hk => ?_) (by rw [List.size_toArray, ← rvs.length]; exact hz)) hu
    exact ⟨H, F, vs, ds, I.kept hk, o.sub, rvs, ra, g.1, by rw [← ra.length]; exact hz, fun s' q ws hq I' rw' => ⟨.ref q, _, I', rfl, p.nl o rw' g.2 q hq⟩⟩
  | @tup a vs ds hr hk ra =>
    cases ru
    obtain ⟨its, rvs, ⟨oo, ho, hc, n, hd⟩, hz⟩ := I.tuple (Le.sqt o.sub hr)
    refine sorted_call (pins := pins) (σ := σ) (X := X) (wpAny_collect_seq a (.inr rfl) ho hc hd (fun h' hk => ?_) (by rw [List.size_toArray, ← rvs.length]; exact hz)) hu
    exact ⟨H, F, vs, ds, I.kept hk, o.sub, rvs, ra, g.1, by rw [← ra.length]; exact hz, fun s' q ws hq I' rw' => ⟨.ref q, _, I', rfl, p.nl o rw' g.2 q hq⟩⟩
  | @dK a kvs ks hr rk =>
    cases ru
    obtain ⟨z, lo, vs, rel, dd⟩ := dk_rd I.hok (Le.rd o.sub hr)
    obtain ⟨ep, hat⟩ := dd.dictAt
    have ev : (kvs.map fun p => kV p.1) = vs.map fun p => kV p.1 := by
      have := congrArg (List.map kV) rel.keys
      rw [List.map_map, List.map_map] at this
      exact this
    refine sorted_call (pins := pins) (σ := σ) (X := X) (PySem.W.kdu_collect (A := X.A.in1) (PySem.W.kdl_dict (knd := mixKind X.prog X.w) (kvs := vs) (ep := ep) lo) (I.ok.hd hc) hat (by rw [← rel.length]; exact z) fun h' tk acc hk hacc => ?_) hu
    have rvs : Vals (kvs.map fun p => kV p.1) acc.toList := by
      rw [ev]
      exact keys_at (by rw [Array.length_toList]; exact hacc.1) fun j v e => hacc.2 j v (by rw [← Array.getElem?_toList]; exact e)
    exact ⟨H, F, _, ks.map Prod.fst, I.kept hk, o.sub, rvs, rk.keys, g.2.1, by rw [List.length_map, ← rk.length]; exact z, fun s' q ws hq I' rw' => ⟨.ref q, _, I', rfl, p.nl o rw' g.2.2 q hq⟩⟩
  | dT hr rk hn => obtain ⟨a, kvs, e, hr', _⟩ := (Rp.dT hr rk hn).dk g.1; cases e; rcases hr' with z | ⟨_, z⟩ <;> rw [hr] at z <;> cases z
  | obj hr hm hi rk => obtain ⟨a, kvs, e, hr', _⟩ := (Rp.obj hr hm hi rk).dk g.1; cases e; rcases hr' with z | ⟨_, z⟩ <;> rw [hr] at z <;> cases z
  | exc hr hm hi rk => obtain ⟨a, kvs, e, hr', _⟩ := (Rp.exc hr hm hi rk).dk g.1; cases e; rcases hr' with z | ⟨_, z⟩ <;> rw [hr] at z <;> cases z
  | fn m => exact absurd g.1 (by simp [isDK, dkey])
  | _ => exact g.elim
end
end Fx

namespace Fx
open PySem L2

def tyD : PyData → String
  | .none => "NoneType"
  | .bool _ => "bool"
  | .int _ => "int"
  | .str _ => "str"
  | .list _ => "list"
  | .tuple _ => "tuple"
  | .dict ((.list _, _) :: _) => "object"
  | .dict _ => "dict"
@[simp] theorem tyD_obj (nm : Str) (fs : List (Str × PyData)) : tyD (objD nm fs) = "object" := rfl
@[simp] theorem tyD_err (nm : Str) (fs : List (Str × PyData)) : tyD (errD nm fs) = "object" := rfl
@[simp] theorem tyD_fn (nm : Str) : tyD (fnD nm) = "object" := rfl
/-- an exception, a function: of these isinstance is not asked -/
def isE : PyData → Bool
  | .dict ((.list (_ :: _), _) :: _) => true
  | _ => false
def isD (T : String) (x : PyData) : Bool := tyD x == T || (tyD x == "bool" && T == "int")
/-- the built-in types that are asked for -/
def kitTs : List String := ["int", "bool", "str", "list", "tuple", "dict"]
/-- what is known of the classes -/
structure ClsF (K : Ck) (nm : Str) (C : Addr) : Prop where
  cls : Cls K.K C
  ty : ∀ (H : Hp) (a dx : Addr) (fs : List (Str × V)), H a = some (.ins C dx fs) → TyX K.K H (.ref a) (.ref C)
  kb : ∀ T ∈ kitTs, PySem.W.kitOne K.K (.ref C) (.type T) = some false
  kt : ∀ x : PyData, tyD x ≠ "object" → PySem.W.kitOne K.K (.type (tyD x)) (.ref C) = some false
structure AllCls (K : Ck) : Prop where
  one : ∀ nm C, isCls nm = true → K.mg nm = some (.ref C) → ClsF K nm C
  two : ∀ nm C nm2 C2, isCls nm = true → K.mg nm = some (.ref C) → isCls nm2 = true → K.mg nm2 = some (.ref C2) → PySem.W.kitOne K.K (.ref C) (.ref C2) = some (decide (nm = nm2))
section
variable {K : Ck}
theorem tyD_dK {kvs : List (Key × V)} {ds : List (PyData × PyData)} {F : Hp} (r : RpK K F kvs ds) : tyD (.dict ds) = "dict" := by
  cases r with
  | nil => rfl
  | @cons k _ _ _ _ _ _ => cases k <;> rfl
theorem tyD_dT {kvs : List (List Key × V)} {ds : List (PyData × PyData)} {F : Hp} (r : RpT K F kvs ds) : tyD (.dict ds) = "dict" := by
  cases r with
  | nil => rfl
  | @cons k _ _ _ _ _ _ => rfl
/-- the type of plain data -/
theorem kit_base {T : String} (hT : T ∈ kitTs) (y : PyData) (hy : tyD y ≠ "object") : PySem.W.kitOne K.K (.type (tyD y)) (.type T) = some (isD T y) := by
  have key : ∀ (U : String), U ∈ ["NoneType", "bool", "int", "str", "list", "tuple", "dict"] → PySem.W.kitOne K.K (.type U) (.type T) = some (U == T || (U == "bool" && T == "int")) := by
    intro U hU
    simp only [kitTs, List.mem_cons, List.not_mem_nil, or_false] at hT hU
    rcases hT with rfl | rfl | rfl | rfl | rfl | rfl <;> rcases hU with rfl | rfl | rfl | rfl | rfl | rfl | rfl <;> exact kit_ty (by decide +kernel)
  refine key _ ?_
  cases y with
  | dict ks =>
    match ks with
    | [] => simp [tyD]
    | (.list _, _) :: _ => exact absurd rfl hy
    | (.none, _) :: _ => simp [tyD]
    | (.bool _, _) :: _ => simp [tyD]
    | (.int _, _) :: _ => simp [tyD]
    | (.str _, _) :: _ => simp [tyD]
    | (.tuple _, _) :: _ => simp [tyD]
    | (.dict _, _) :: _ => simp [tyD]
  | _ => simp [tyD]
theorem tyxP {F H : Hp} {v : V} {x : PyData} (s : Sub F H) (r : Rp K F v x) (c : tyD x ≠ "object") : TyX K.K H v (.type (tyD x)) := by
  cases r with
  | non => exact .base .non
  | bl b => exact .base (.bl b)
  | int i => exact .base (.int i)
  | str x => exact .base (.str x)
  | @lst a vs ds h ra =>
    rcases h with (h | ⟨o, h⟩) | ⟨its, n, h, _⟩
    · exact .base (.lst (s _ _ h))
    · exact .base (.frz (s _ _ h))
    · exact .kList h rfl
  | @tup a vs ds h k2 ra =>
    rcases h with (h | ⟨o, h⟩) | ⟨o, its, n, h1, h2, h3⟩
    · exact .base (.tup (s _ _ h))
    · exact .fTuple (s _ _ h)
    · exact .kTuple h1 h2
  | dK h r =>
    rw [tyD_dK r]
    rcases h with h | ⟨o, h⟩
    · exact .base (.dK (s _ _ h))
    · exact .fDict (s _ _ h)
  | dT h r n => rw [tyD_dT r]; exact .base (.dT (s _ _ h))
  | obj _ _ _ _ => exact absurd rfl c
  | exc _ _ _ _ => exact absurd rfl c
  | fn _ => exact absurd rfl c
theorem tyxB {F H : Hp} {v : V} {x : PyData} (s : Sub F H) (r : Rp K F v x) (c : tyD x ≠ "object") : ∃ t, TyX K.K H v t ∧ ∀ T ∈ kitTs, PySem.W.kitOne K.K t (.type T) = some (isD T x) := ⟨_, tyxP s r c, fun T hT => kit_base hT x c⟩
/-- the type of data, asked for one of the built-in ones -/
theorem tyx {F H : Hp} {v : V} {x : PyData} {T : String} (A : AllCls K) (s : Sub F H) (r : Rp K F v x) (hE : isE x = false) (hT : T ∈ kitTs) : ∃ t, TyX K.K H v t ∧ PySem.W.kitOne K.K t (.type T) = some (isD T x) := by
  by_cases c : tyD x = "object"
  · cases r with
    | @obj a dx C nm fs ds h m i r =>
      have c := A.one nm C i m
      refine ⟨_, c.ty H a dx fs (s _ _ h), (c.kb T hT).trans ?_⟩
      simp only [kitTs, List.mem_cons, List.not_mem_nil, or_false] at hT
      rcases hT with rfl | rfl | rfl | rfl | rfl | rfl <;> rfl
    | dK h r => rw [tyD_dK r] at c; exact absurd c (by decide)
    | dT h r n => rw [tyD_dT r] at c; exact absurd c (by decide)
    | exc _ _ _ _ => cases hE
    | fn _ => cases hE
    | _ => simp [tyD] at c
  · obtain ⟨t, h1, h2⟩ := tyxB s r c
    exact ⟨_, h1, h2 T hT⟩
/-- is it an object of this class -/
def isO (nm : Str) : PyData → Bool
  | .dict ((.list [], .str m) :: _) => decide (m = nm)
  | _ => false
@[simp] theorem isO_obj (nm m : Str) (fs : List (Str × PyData)) : isO nm (objD m fs) = decide (m = nm) := rfl
end
def fIsi (T : String) (fe : EF) : EF := fun ρ g => (fDat fe ρ g).bind fun x g1 => if isE x = true then .bad else .ok (.d (.bool (isD T x))) g1
def fIsi2 (T U : String) (fe : EF) : EF := fun ρ g => (fDat fe ρ g).bind fun x g1 => if isE x = true then .bad else .ok (.d (.bool (isD T x || isD U x))) g1
section
variable {K : Ck} {W : WX}
theorem sm_isi {T : String} {te : TE} {fe : EF} (A : AllCls K) (k : T ∈ kitTs) (h : Sm K W te fe) : Sm K W (tCB (rIsi K) (tCons te (tCons (tC (.ty T)) tNil))) (fIsi T fe) := by
  intro S B F0 F H ρ σ g Pd Xd Q E hf kk kx
  refine h.dat E (R.wp_bind.mp hf) kx fun x g1 v F1 H1 q e E1 r => ?_
  have q : (if isE x = true then (R.bad : R RV) else R.ok (.d (.bool (isD T x))) g1).wp Pd Xd := q
  split at q
  · exact q.elim
  rename_i hE
  have hE := Bool.eq_false_iff.mpr hE
  obtain ⟨t, h1, h2⟩ := tyx A E1.sub r hE k
  exact ⟨v, .ty T, _, _, _, rfl, ClsV.ty T, h1, h2, kk _ g1 _ F1 H1 q e E1.j (Rp.bl _)⟩
end

abbrev EFo := List SD → Gs → R (Option Int)
def SmO (K : Ck) (W : WX) (t : TO) (f : EFo) : Prop := ∀ (S : Sta) (B F0 F H : Hp) (ρ : List SD) (σ : St) (g : Gs) (Pd : Option Int → Gs → Prop) (Xd : PyData → Gs → Prop) (Q : Option Int → Hp → Prop), EnvOk K S B F0 F H ρ σ g → (f ρ g).wp Pd Xd →
  (∀ r g' F' H', Pd r g' → Ext S F H F' H' → S.J g' H' → Q r H') →
  (∀ x g' cls d F' H', Xd x g' → Ext S F H F' H' → S.J g' H' → ExcRep K S H F' H' cls d x → W cls d σ H') → t σ H Q
def asIR (r : RV) (g : Gs) : R Int := match r with
  | .d (.int i) => .ok i g
  | _ => .bad
@[simp] theorem asIR_i (i : Int) (g : Gs) : asIR (.d (.int i)) g = .ok i g := rfl
theorem asI_inv {r : RV} {g : Gs} {P : Int → Gs → Prop} {X : PyData → Gs → Prop} (h : (asIR r g).wp P X) : ∃ i, r = .d (.int i) ∧ P i g := by
  cases r with
  | d x =>
    cases x with
    | int i => exact ⟨i, rfl, h⟩
    | _ => exact h.elim
  | _ => exact h.elim
def oN : EFo := fun _ g => .ok none g
def oS (f : EF) : EFo := fun ρ g => (f ρ g).bind fun r g1 => (asIR r g1).bind fun i g2 => .ok (some i) g2
def cutD (xs : List PyData) (lo hi : Option Int) : List PyData := (xs.drop (HT.sIx xs.length 0 lo)).take (HT.sIx xs.length xs.length hi - HT.sIx xs.length 0 lo)
abbrev GOs := PyData → Option Int → Option Int → (RV → Prop) → Prop
def gSl : GOs := fun x lo hi Q => match x with
  | .list xs => Q (.nl (cutD xs lo hi))
  | .tuple xs => Q (.d (.tuple (cutD xs lo hi)))
  | .str z => z.length ≤ sizeLine ∧ Q (.d (.str (cutS z lo hi)))
  | _ => False
def rS (K : Ck) (go : GOs) : V → Option Int → Option Int → Hp → VK → Prop := fun x lo hi H Q => ∃ S F dx Qd, Okh S F H ∧ Rp K F x dx ∧ go dx lo hi Qd ∧ PostO K S F H Qd Q
def oSl (x : PyData) (lo hi : Option Int) : Option RV := match x with
  | .list xs => some (.nl (cutD xs lo hi))
  | .tuple xs => some (.d (.tuple (cutD xs lo hi)))
  | .str z => if z.length ≤ sizeLine then some (.d (.str (cutS z lo hi))) else none
  | _ => none
theorem sl_of {x : PyData} {lo hi : Option Int} {r : RV} {Q : RV → Prop} (h : oSl x lo hi = some r) (q : Q r) : gSl x lo hi Q := by
  cases x <;> simp [oSl] at h
  · obtain ⟨h1, rfl⟩ := h; exact ⟨h1, q⟩
  · subst h; exact q
  · subst h; exact q
def fSl (fe : EF) (fl fh : EFo) : EF := fun ρ g => (fDat fe ρ g).bind fun x g1 => (fl ρ g1).bind fun lo g2 => (fh ρ g2).bind fun hi g3 => R.ofO (oSl x lo hi) g3
section
variable {K : Ck} {W : WX}
theorem smo_n {t : TO} (e : ∀ σ H Q, t σ H Q = Q none H) : SmO K W t oN := fun S B F0 F H ρ σ g Pd Xd Q E h k kx => by rw [e]; exact k _ _ _ _ h (Ext.refl E.sub) E.j
theorem smo_none : SmO K W tNoPart oN := smo_n fun _ _ _ => rfl
theorem smo_some {te : TE} {fe : EF} (h : Sm K W te fe) : SmO K W (tPart te) (oS fe) := by
  intro S B F0 F H ρ σ g Pd Xd Q E hf k kx
  refine h S B F0 F H ρ σ g _ Xd _ E (R.wp_bind.mp hf) (fun r g' v F' H' q e j rv => ?_) kx
  obtain ⟨i, rfl, q⟩ := asI_inv (R.wp_bind.mp q)
  have rv : Rp K F' v (.int i) := rv
  cases rv
  exact ⟨i, rfl, k _ _ _ _ q e j⟩
theorem RpA.cut {F : Hp} {vs : List V} {ds : List PyData} (h : RpA K F vs ds) (lo hi : Option Int) : RpA K F (cutV vs lo hi) (cutD ds lo hi) := by
  unfold cutV cutD
  rw [h.length]
  exact (h.drop _).take _
theorem sl_anyP {X : Cx} : SlR X (rS (Cx.ck X) gSl) := by
  intro pins s σ H x v vl vu lo hi sl Q I rx hs pl pu h
  obtain ⟨S, F, dx, Qd, o, r, g, p⟩ := h
  cases r with
  | @lst a vs ds hr ra =>
    exact sl_list pins s σ H _ v vl vu lo hi sl Q I rx hs pl pu ⟨a, vs, rfl, (Le.sqx o.sub hr).sql, p.nl o (ra.cut lo hi) g⟩
  | @tup a vs ds hr hk ra =>
    by_cases hw : HT.sIx vs.length 0 lo = 0 ∧ HT.sIx vs.length vs.length hi = vs.length
    · refine sl_tupA pins s σ H _ v vl vu lo hi sl Q I rx hs pl pu ⟨a, vs, rfl, Le.sqt o.sub hr, fun c => p.d o (Rp.tup hr hk ra) ?_, fun c => absurd hw c⟩
      have e : cutD ds lo hi = ds := by
        unfold cutD
        rw [← ra.length, hw.1, hw.2]
        simp [ra.length]
      rw [← e]; exact g
    · cases rx
      obtain ⟨its, r, ht, hz⟩ := I.tuple (Le.sqt o.sub hr)
      have hlen : its.toArray.size = vs.length := by rw [List.size_toArray]; exact r.length.symm
      refine ⟨"tuple", _, PyProof.Rows.slot_tuple_getitem.lookup, ht.typeIs, ?_⟩
      refine HT.getItem_tuple_cut ht hs pl pu (by rw [hlen]; exact hw) ?_ (by rw [hlen]; exact hz)
      rw [hlen]
      refine ⟨.ref s.heap.objs.size, _, I.laid (t' := s.toks) (o := .frz { cls := .type "tuple", data := .seq ((its.drop (HT.sIx vs.length 0 lo)).take (HT.sIx vs.length vs.length hi - HT.sIx vs.length 0 lo)).toArray } (.tup (cutV vs lo hi))) (fun b ob q => Heap.get?_push_of_some _ q) (Nat.le_refl _) ?_, rfl, p.tup o (ra.cut lo hi) g _ _ (I.hok.fresh (Nat.le_refl _)) rfl⟩
      exact ⟨Heap.get?_push_size _ rfl, Nat.le_trans (cutV_length vs lo hi) hz, _, (r.drop (HT.sIx vs.length 0 lo)).take (HT.sIx vs.length vs.length hi - HT.sIx vs.length 0 lo), PyProof.Rows.IsTup.new _ _⟩
  | str z => exact sl_str pins s σ H _ v vl vu lo hi sl Q I rx hs pl pu ⟨z, rfl, g.1, p.d o (Rp.str _) g.2⟩
  | _ => exact g.elim
theorem sm_sl {te : TE} {tl th : TO} {fe : EF} {fl fh : EFo} (h1 : Sm K W te fe) (h2 : SmO K W tl fl) (h3 : SmO K W th fh) : Sm K W (tSl (rS K gSl) te tl th) (fSl fe fl fh) := by
  intro S B F0 F H ρ σ g Pd Xd Q E hf k kx
  refine h1.dat E (R.wp_bind.mp hf) kx fun x g1 v F1 H1 q1 e1 E1 r1 => ?_
  refine h2 S B F0 F1 H1 ρ σ g1 _ Xd _ E1 (R.wp_bind.mp q1) (fun lo g2 F2 H2 q2 e2 j2 => ?_) (XOk.ext kx e1 E1.j)
  have E2 := E1.ext e2 j2
  refine h3 S B F0 F2 H2 ρ σ g2 _ Xd _ E2 (R.wp_bind.mp q2) (fun hi g3 F3 H3 q3 e3 j3 => ?_) (XOk.ext kx (e1.trans e2 E1.j) j2)
  have E3 := E2.ext e3 j3
  obtain ⟨rr, q4, q5⟩ := R.wp_ofO q3
  refine ⟨S, F3, x, fun r => r = rr, E3.okh, (r1.mono e2.le).mono e3.le, sl_of q4 rfl, fun r v F' H' q e j rv => ?_⟩
  subst q
  have e13 := (e1.trans e2 E1.j).trans e3 j2
  exact k _ g3 v F' H' q5 (e13.trans e j3) (j _ j3) (rv.wide fun a ha => e13.free j3 ha)
end

abbrev GM := PyData → List AV → (RV → Prop) → Prop
def rM (K : Ck) (go : GM) : V → List V → Hp → VK → Prop := fun x xs H Q => ∃ S F dx as Qd, Okh S F H ∧ Rp K F x dx ∧ RepAVs K F xs as ∧ go dx as Qd ∧ PostO K S F H Qd Q
abbrev OM := PyData → List AV → Option RV
def GMof (o : OM) : GM := fun x as Q => ∃ r, o x as = some r ∧ Q r
def fM (T : String) (o : OM) (fo : EF) (fa : EFa) : EF := fun ρ g => (fDat fo ρ g).bind fun x g1 => if tyD x = T then (fa ρ g1).bind fun as g2 => R.ofO (o x as) g2 else .bad
def tyR (K : PySem.W.Frag) (T : String) (x : V) (H : Hp) : Prop := tyV K T x H ∨ (T = "dict" ∧ ∃ p o kvs, x = .ref p ∧ H p = some (.frz o (.dK kvs)))
def tMr (K : PySem.W.Frag) (T : String) (r : V → List V → Hp → VK → Prop) (to : TE) (ta : TA) : TE := fun σ H Q => to σ H fun x H1 => tyR K T x H1 ∧ ta σ H1 fun xs H2 => r x xs H2 Q
section
open PySem.Spec PyProof.Rows
variable {X : Cx}
theorem tyR_at {pins : List (Addr × Obj)} {σ : L2.St} {H : Hp} {s : Shared} (I : Inv X pins σ H s) {T : String} {x : V} {u : Value} (r : RelV x u) (h : tyR X.K T x H) : s.TypeIs u T ∧ ∀ b, u = .ref b → ∃ w, s.heap.get? b = some w ∧ w.dict = none := by
  rcases h with h | ⟨rfl, p, o, kvs, rfl, h⟩
  · exact tyV_is I r h
  · obtain rfl : u = .ref p := r
    obtain ⟨_, e, ex, _⟩ := I.frzK h
    exact ⟨⟨o, e, ex.1⟩, fun b z => by cases z; exact ⟨o, e, ex.2.1⟩⟩
variable {nm : Str} {T m : String} {rd : V → List V → Hp → VK → Prop} {ob a1 : Expr} {as : List Expr} {tr : TE} {tas : TA} {q1 q2 : Pos}
theorem pe_mr (k1 : PlainAttrs T) (k2 : Slot T nm m) (k3 : typeOf (.builtin m) = pure (.type "method_descriptor")) (k4 : MtR X m rd) (k5 : PE X ob tr) (k6 : PA X (a1 :: as) tas)
    (b1 : attributeBase ob nm X.env (eval ob X.env) = eval ob X.env := by rfl)
    (b3 : ((backTo q2 (starEach (a1 :: as) X.env)).all (fun x => !x.1) && (backToKw q2 (keywordEach [] X.env)).all (fun x => x.1.isSome) && decide ((a1 :: as).length + ([] : List Keyword).length + (if ([] : List Keyword).isEmpty then 0 else 1) < 30)) = true := by rfl)
    (b2 : (q1.endLine == q2.line) = true := by rfl) (b4 : starEach (a1 :: as) X.env = (false, eval a1 X.env) :: starEach as X.env := by rfl) (b5 : (backTo q2 (starEach as X.env)).any (·.1) = false := by rfl) :
    PE X (.Call (.Attribute ob nm q1) (a1 :: as) [] q2) (tMr X.K T rd tr tas) := by
  constructor
  intro pins s σ H Q I hq
  apply wpAny_Call_method_late b1 b3 b2 rfl
  refine thn (k5.run pins s σ H _ I hq) ?_
  rintro w s2 ⟨x, H2, I2, rw2, ht, go⟩
  have ty := tyR_at I2 rw2 ht
  refine ⟨T, m, k1, k2, k3, ty.1, ty.2, ?_⟩
  have hA := k6.run q2 pins s2 σ H2 _ I2 go
  rw [b4] at hA ⊢
  refine Calls.callWith_builtin ?_ (Calls.evalArgs_plain (thn hA ?_))
  · show (false || (backTo q2 (starEach as X.env)).any (·.1)) = false
    rw [b5]; rfl
  · rintro us s3 ⟨vs, H3, I3, rv3, go3⟩
    exact k4 pins s3 σ H3 x vs w us Q I3 rw2 rv3 go3
end
section
variable {K : Ck}
theorem tyv_of {F H : Hp} {v : V} {x : PyData} {T : String} (s : Sub F H) (r : Rp K F v x) (e : tyD x = T) (hT : T = "str" ∨ T = "dict" ∨ T = "list") : tyR K T v H := by
  subst e
  cases r with
  | str x => exact .inl rfl
  | lst h ra => exact .inl (.inl ⟨rfl, _, (Le.sqx s h).sql⟩)
  | @dK a kvs ds h r =>
    rw [tyD_dK r]
    rcases h with h | ⟨o, h⟩
    · exact .inl (.inr (.inr (.inl ⟨rfl, .inl ⟨_, s _ _ h⟩⟩)))
    · exact .inr ⟨rfl, a, o, kvs, rfl, s _ _ h⟩
  | dT h r n => rw [tyD_dT r]; exact .inl (.inr (.inr (.inl ⟨rfl, .inr ⟨_, s _ _ h⟩⟩)))
  | non => exact absurd hT (by decide)
  | bl b => exact absurd hT (by simp [tyD])
  | int b => exact absurd hT (by simp [tyD])
  | tup _ _ _ => exact absurd hT (by simp [tyD])
  | obj _ _ _ _ => exact absurd hT (by simp)
  | exc _ _ _ _ => exact absurd hT (by simp)
  | fn _ => exact absurd hT (by simp)
theorem sm_m {W : WX} {T : String} {o : OM} {to : TE} {ta : TA} {fo : EF} {fa : EFa} (hT : T = "str" ∨ T = "dict" ∨ T = "list") (h1 : Sm K W to fo) (h2 : SmA K W ta fa) : Sm K W (tMr K T (rM K (GMof o)) to ta) (fM T o fo fa) := by
  intro S B F0 F H ρ σ g Pd Xd Q E hf k kx
  refine h1.dat E (R.wp_bind.mp hf) kx fun x g1 v F1 H1 q1 e1 E1 r1 => ?_
  by_cases c : tyD x = T
  · rw [if_pos c] at q1
    refine ⟨tyv_of E1.sub r1 c hT, ?_⟩
    refine h2 S B F0 F1 H1 ρ σ g1 _ Xd _ E1 (R.wp_bind.mp q1) (fun as g2 vs F2 H2 q2 e2 j2 ra => ?_) (XOk.ext kx e1 E1.j)
    have E2 := E1.ext e2 j2
    obtain ⟨rr, q3, q4⟩ := R.wp_ofO q2
    refine ⟨S, F2, x, as, fun r => r = rr, E2.okh, r1.mono e2.le, ra, ⟨rr, q3, rfl⟩, fun r v F' H' q e j rv => ?_⟩
    subst q
    have e12 := e1.trans e2 E1.j
    exact k _ g2 v F' H' q4 (e12.trans e j2) (j _ j2) (rv.wide fun a ha => e12.free j2 ha)
  · rw [if_neg c] at q1; exact q1.elim
end
def gJoin : GM := fun x as Q => match x with
  | .str a => (match as with
    | [.d (.list xs)] => ∃ ys, strsD xs = some ys ∧ (ys.map (·.length)).sum + ys.length * a.length ≤ 16777216 ∧ Q (.d (.str (Txt.join a ys)))
    | _ => False)
  | _ => False
theorem mt_joinP {X : Cx} : MtR X "str.join" (rM (Cx.ck X) gJoin) := by
  intro pins s σ H x xs v us Q I rx rv h
  obtain ⟨S, F, dx, as, Qd, o, r, ra, g, p⟩ := h
  cases r with
  | str a =>
    match as, xs, ra, g with
    | [.d (.list ds)], [w], ra, g =>
      obtain ⟨ys, e, hz, q⟩ := g
      cases ra.1 with
      | @lst b vs _ hr ra =>
        have := strsD_rp ra e
        subst this
        exact mt_join pins s σ H _ _ v us Q I rx rv ⟨a, b, ys, rfl, rfl, .inl ((Le.sqx o.sub hr).sql), hz, p.d o (Rp.str _) q⟩
    | [.d (.list ds)], [], ra, g => exact ra.elim
    | [.d (.list ds)], _ :: _ :: _, ra, g => exact ra.2.elim
    | [], _, _, g => exact g.elim
    | [.o _], _, _, g => exact g.elim
    | [.d .none], _, _, g => exact g.elim
    | [.d (.bool _)], _, _, g => exact g.elim
    | [.d (.int _)], _, _, g => exact g.elim
    | [.d (.str _)], _, _, g => exact g.elim
    | [.d (.tuple _)], _, _, g => exact g.elim
    | [.d (.dict _)], _, _, g => exact g.elim
    | .d (.list _) :: _ :: _, _, _, g => exact g.elim
    | .d .none :: _ :: _, _, _, g => exact g.elim
    | .d (.bool _) :: _ :: _, _, _, g => exact g.elim
    | .d (.int _) :: _ :: _, _, _, g => exact g.elim
    | .d (.str _) :: _ :: _, _, _, g => exact g.elim
    | .d (.tuple _) :: _ :: _, _, _, g => exact g.elim
    | .d (.dict _) :: _ :: _, _, _, g => exact g.elim
    | .o _ :: _ :: _, _, _, g => exact g.elim
  | _ => exact g.elim
def gGet : GM := fun x as Q => match x with
  | .dict ks => (match as with
    | [.d y] => ∃ k, toDK y = some k ∧ matchK ks k = true ∧ Q (.d ((dget ks k).getD .none))
    | [.d y, .d z] => ∃ k, toDK y = some k ∧ matchK ks k = true ∧ Q (.d ((dget ks k).getD z))
    | _ => False)
  | _ => False
theorem getD_rp {K : Ck} {F : Hp} {o : Option V} {p : Option PyData} {v : V} {d : PyData} (h : match o, p with | some v, some d => Rp K F v d | none, none => True | _, _ => False) (r : Rp K F v d) : Rp K F (o.getD v) (p.getD d) := by
  cases o <;> cases p <;> first | exact r | exact h | exact h.elim
theorem mt_getP {X : Cx} (hu : X.A.units + 1 < cLine) : MtR X "dict.get" (rM (Cx.ck X) gGet) := by
  intro pins s σ H x xs v us Q I rx rv h
  obtain ⟨S, F, dx, as, Qd, o, r, ra, g, p⟩ := h
  cases dx with
  | dict ks =>
    match as, xs, ra, g with
    | [.d y], [w], ra, g =>
      obtain ⟨k, hk, hm, q⟩ := g
      obtain ⟨a, ov, rfl, lk, m⟩ := look_of o.sub r hk hm ra.1
      obtain rfl : v = Value.ref a := rx
      obtain ⟨u, rfl, ru⟩ := vals1 rv
      exact p_get1 hu I lk ru fun w' s' I' rw' => ⟨_, H, I', rw', p.d o (getD_rp m Rp.non) q⟩
    | [.d y, .d z], [w, w2], ra, g =>
      obtain ⟨k, hk, hm, q⟩ := g
      obtain ⟨a, ov, rfl, lk, m⟩ := look_of o.sub r hk hm ra.1
      obtain rfl : v = Value.ref a := rx
      obtain ⟨u, u2, rfl, ru, ru2⟩ := vals2 rv
      exact p_get hu I lk ru ru2 fun w' s' I' rw' => ⟨_, H, I', rw', p.d o (getD_rp m ra.2.1) q⟩
    | [.d y], [], ra, g => exact ra.elim
    | [.d y], _ :: _ :: _, ra, g => exact ra.2.elim
    | [.d y, .d z], [], ra, g => exact ra.elim
    | [.d y, .d z], [_], ra, g => exact ra.2.elim
    | [.d y, .d z], _ :: _ :: _ :: _, ra, g => exact ra.2.2.elim
    | [], _, _, g => exact g.elim
    | [.o _], _, _, g => exact g.elim
    | .o _ :: _ :: _, _, _, g => exact g.elim
    | .d _ :: .o _ :: _, _, _, g => exact g.elim
    | .d _ :: .d _ :: _ :: _, _, _, g => exact g.elim
  | _ => exact g.elim

def pairsOf : List PyData → Option (List (Key × PyData))
  | [] => some []
  | .tuple [k, v] :: r => (match dkey k, pairsOf r with
    | some q, some l => some ((q, v) :: l)
    | _, _ => none)
  | _ :: _ => none
def mergeD (ks : List (PyData × PyData)) : List (Key × PyData) → List (PyData × PyData)
  | [] => ks
  | p :: r => mergeD (dput ks (keyD p.1) (.f p.1) p.2) r
def gDict : GO1 := fun x Q => match x with
  | .list xs => ∃ ps, pairsOf xs = some ps ∧ Q (.nd false (mergeD [] ps))
  | .tuple xs => ∃ ps, pairsOf xs = some ps ∧ Q (.nd false (mergeD [] ps))
  | _ => False
end Fx

namespace Fx
open PySem L2

section
variable {K : Ck} {F : Hp}
theorem rpk_any (k : Key) : ∀ {kvs : List (Key × V)} {ds : List (PyData × PyData)}, RpK K F kvs ds → (kvs.any fun kv => decide (kv.1 = k)) = (ds.any fun p => decide (toDK p.1 = some (.f k)))
  | _, _, .nil => rfl
  | _, _, @RpK.cons _ _ k0 v kvs d ds r t => by
    rw [List.any_cons, List.any_cons, rpk_any k t, toDK_keyD]
    by_cases e : k0 = k <;> simp [e]
theorem rpk_map (k : Key) {v : V} {d : PyData} (rv : Rp K F v d) : ∀ {kvs : List (Key × V)} {ds : List (PyData × PyData)}, RpK K F kvs ds → RpK K F (kvs.map fun kv => if kv.1 = k then (kv.1, v) else kv) (ds.map fun p => if toDK p.1 = some (.f k) then (p.1, d) else p)
  | _, _, .nil => .nil
  | _, _, @RpK.cons _ _ k0 v0 kvs d0 ds r t => by
    rw [List.map_cons, List.map_cons, toDK_keyD]
    by_cases e : k0 = k
    · simp only [e, if_true]
      exact .cons rv (rpk_map k rv t)
    · have e2 : ¬ (some (DK.f k0) = some (DK.f k)) := fun z => by cases z; exact e rfl
      simp only [if_neg e, if_neg e2]
      exact .cons r (rpk_map k rv t)
theorem rpk_app : ∀ {kvs : List (Key × V)} {ds : List (PyData × PyData)} {kvs' : List (Key × V)} {ds' : List (PyData × PyData)}, RpK K F kvs ds → RpK K F kvs' ds' → RpK K F (kvs ++ kvs') (ds ++ ds')
  | _, _, _, _, .nil, s => s
  | _, _, _, _, .cons r t, s => .cons r (rpk_app t s)
theorem rpk_put (k : Key) {v : V} {d : PyData} (rv : Rp K F v d) {kvs : List (Key × V)} {ds : List (PyData × PyData)} (h : RpK K F kvs ds) : RpK K F (putK kvs k v) (dput ds (keyD k) (.f k) d) := by
  unfold putK dput
  rw [rpk_any k h]
  by_cases c : (ds.any fun p => decide (toDK p.1 = some (.f k))) = true
  · rw [if_pos c, if_pos c]; exact rpk_map k rv h
  · rw [if_neg c, if_neg c]; exact rpk_app h (.cons rv .nil)
theorem rpk_merge {ps : List (Key × V)} {qs : List (Key × PyData)} (h : Paired (fun p q => p.1 = q.1 ∧ Rp K F p.2 q.2) ps qs) : ∀ {kvs : List (Key × V)} {ds : List (PyData × PyData)}, RpK K F kvs ds → RpK K F (mergeK kvs ps) (mergeD ds qs) := by
  induction h with
  | nil => intro kvs ds h; exact h
  | @cons p q ps qs r t ih =>
    intro kvs ds h
    obtain ⟨k, v⟩ := p
    obtain ⟨k', d⟩ := q
    obtain ⟨e, rv⟩ := r
    cases (show k = k' from e)
    exact ih (rpk_put k rv h)
end

def fNewD (t : Bool) : EF := fun _ g => .ok (.nd t []) g
def dicSD {α : Type} (s : Option SD) (k : Bool → List (PyData × PyData) → R α) : R α := match s with
  | some (.dic t ks) => k t ks
  | _ => .bad
@[simp] theorem dicSD_dic {α : Type} (t : Bool) (ks : List (PyData × PyData)) (k : Bool → List (PyData × PyData) → R α) : dicSD (some (.dic t ks)) k = k t ks := rfl
section
variable {K : Ck} {W : WX}
theorem sm_newK : Sm K W tDNewK (fNewD false) := by
  intro S B F0 F H ρ σ g Pd Xd Q E h k kx p hp
  exact k _ g _ F _ h (Ext.own E.sub hp) (J.new E.j hp) ⟨p, .k [], rfl, hp, fun m => E.okh.mt p m hp, E.sub.free hp, upd_same, rfl, RpK.nil⟩
end

theorem pairsOf_cons {x : PyData} {r : List PyData} {ps : List (Key × PyData)} (h : pairsOf (x :: r) = some ps) : ∃ k v q l, x = .tuple [k, v] ∧ dkey k = some q ∧ pairsOf r = some l ∧ ps = (q, v) :: l := by
  unfold pairsOf at h
  split at h
  · rename_i e; cases e
  · rename_i k v r' e
    cases e
    cases hk : dkey k with
    | none => rw [hk] at h; cases h
    | some q =>
      cases hr : pairsOf r with
      | none => rw [hk, hr] at h; cases h
      | some l => rw [hk, hr] at h; cases h; exact ⟨k, v, q, l, rfl, hk, rfl, rfl⟩
  · cases h
section
open PySem.Calls PyProof.Rows
variable {X : Cx} {pins : List (Addr × Obj)} {σ : L2.St} {H F : Hp} {s : Shared}
theorem dkey_keyD' {k : PyData} {q : Key} (h : dkey k = some q) : k = keyD q := by
  cases k <;> first | (cases h; rfl) | cases h
theorem relV_keyIs {q : Key} {u : Value} (r : RelV (kV q) u) : keyIs q u = true := by
  cases q with
  | inl i => obtain ⟨t, rfl⟩ := r; exact keyIs_int i t
  | inr i => obtain ⟨t, rfl⟩ := r; exact keyIs_str i t
theorem pairs_at (I : Inv X pins σ H s) (le : Le F H) : ∀ {ds : List PyData} {vs : List V} {us : List Value} {ps : List (Key × PyData)}, RpA (Cx.ck X) F vs ds → Vals vs us → pairsOf ds = some ps →
    ∃ (as : List Addr) (kvs : List (Key × V)) (prs : List (Value × Value)), us = as.map Value.ref ∧ KV kvs (kvs.zip prs |>.map fun z => (z.1.1, z.2.2)) ∧ kvs.length = ps.length ∧ as.length = ps.length ∧ prs.length = ps.length ∧ Paired (fun p q => p.1 = q.1 ∧ Rp (Cx.ck X) F p.2 q.2) kvs ps ∧
      (∀ (j : Nat) (k v : Value), prs[j]? = some (k, v) → ∃ a kv, as[j]? = some a ∧ kvs[j]? = some kv ∧ s.heap.IsTuple a #[k, v] ∧ keyIs kv.1 k = true)
  | [], _, _, ps, .nil, rv, e => by
    cases rv
    cases e
    exact ⟨[], [], [], rfl, .nil, rfl, rfl, rfl, .nil, fun j k v h => by simp at h⟩
  | d :: ds, v :: vs, _, ps, .cons r t, .cons r1 r2, e => by
    obtain ⟨k, v', q, l, rfl, hk, hl, rfl⟩ := pairsOf_cons e
    obtain ⟨as, kvs, prs, rfl, hkv, l1, l2, l3, pp, hh⟩ := pairs_at I le t r2 hl
    cases r with
    | @tup a ws _ hr _ ra =>
      cases ra with
      | @cons w _ _ _ rk ra2 =>
        cases ra2 with
        | @cons w2 _ _ _ rv2 ra3 =>
          cases ra3
          cases r1
          obtain ⟨its, rvs, ⟨o, ho, hc, n, hd⟩, _⟩ := I.tuple (Le.sqt le hr)
          cases rvs with
          | @cons _ uk _ _ ruk rvs2 =>
            cases rvs2 with
            | @cons _ uv _ _ ruv rvs3 =>
              cases rvs3
              have ek := dkey_keyD' hk
              subst ek
              have ew := rp_keyD rk
              subst ew
              refine ⟨a :: as, (q, w2) :: kvs, (uk, uv) :: prs, rfl, .cons ⟨rfl, ruv⟩ hkv, by simp [l1], by simp [l2], by simp [l3], .cons ⟨rfl, rv2⟩ pp, fun j k v h => ?_⟩
              cases j with
              | zero =>
                simp at h
                obtain ⟨rfl, rfl⟩ := h
                exact ⟨a, (q, w2), rfl, rfl, ⟨o, ho, hc, n, hd⟩, relV_keyIs ruk⟩
              | succ j => simpa using hh j k v (by simpa using h)
theorem cr_dictP (hc : X.calm = true) : CallR X (.type "dict") (rA (Cx.ck X) (g1 gDict)) := cr_one fun pins s σ H v u S F x Qd Q I ru o rx g p => by
  have fin : ∀ {kvs : List (Key × V)} {prs : List (Value × Value)} {ps : List (Key × PyData)} (h' : Heap) (tk : Nat), KV kvs (kvs.zip prs |>.map fun z => (z.1.1, z.2.2)) → kvs.length = ps.length → ps.length ≤ sizeLine → Paired (fun p q => p.1 = q.1 ∧ Rp (Cx.ck X) F p.2 q.2) kvs ps → Qd (.nd false (mergeD [] ps)) →
      Heap.DictOf (mixKind X.prog X.w) h' s.heap.objs.size (merged [] (kvs.zip prs |>.map fun z => (z.1.1, z.2.2))) → (∀ (b : Addr) (o : Obj), s.heap.get? b = some o → h'.get? b = some o) → EP X pins σ Q (.ref s.heap.objs.size) { heap := h', gens := s.gens, drawn := s.drawn, toks := tk, os := s.os } := by
    intro kvs prs ps h' tk hkv l1 hz pp q hd k
    have hm : (s.heap.objs.size == sysModules) = false := beq_eq_false_iff_ne.mpr (Nat.ne_of_gt I.big)
    have hlen : (mergeK [] kvs).length ≤ sizeLine := by
      refine Nat.le_trans (length_mergeK kvs []) ?_
      rw [List.length_nil, Nat.zero_add, l1]
      exact hz
    have hf := I.hok.fresh (Nat.le_refl s.heap.objs.size)
    refine ⟨.ref s.heap.objs.size, upd H s.heap.objs.size (.dK (mergeK [] kvs)), I.laid (t' := tk) k (Nat.le_refl _) (show ObjOk X.prog X.w _ _ _ (.dK (mergeK [] kvs)) from ⟨hlen, hm, _, KV.merge hkv .nil, hd⟩), rfl, ?_⟩
    exact p _ _ F _ q (Ext.own o.sub hf) (fun _ j => J.new j hf) ⟨_, .k (mergeK [] kvs), rfl, hf, fun m => o.mt _ m hf, o.sub.free hf, upd_same, rfl, rpk_merge pp RpK.nil⟩
  cases rx with
  | @lst a vs ds hr ra =>
    cases ru
    obtain ⟨ps, e, q⟩ := g
    obtain ⟨its, rvs, ⟨oo, n, ho, hcl, hd0, hd⟩, hz⟩ := I.list (Le.sqx o.sub hr).sql
    obtain ⟨as, kvs, prs, rfl, hkv, l1, l2, l3, pp, hh⟩ := pairs_at I o.sub ra rvs e
    have hz' : ps.length ≤ sizeLine := by rw [← l2]; have := rvs.length; rw [List.length_map] at this; omega
    refine call_dict_pairs (PairArg.list a _ (fun j => as.getD j 0) prs) (I.ok.hd hc) ⟨⟨oo, n, ho, hcl, hd0, hd⟩, ?_, fun j k v hj => ?_⟩ (knd := mixKind X.prog X.w) (kvs := kvs.zip prs |>.map fun z => (z.1.1, z.2.2)) ⟨?_, fun j k v hj => ?_⟩ ?_ fun h' tk hd' k => ?_
    · simp [l2, l3]
    · obtain ⟨a', kv, h1, h2, h3, h4⟩ := hh j k v hj
      exact ⟨by simp [h1, List.getD], .inl (by show s.heap.IsTuple (as.getD j 0) _; rw [List.getD_eq_getElem?_getD, h1]; exact h3)⟩
    · simp [l1, l3]
    · obtain ⟨a', kv, h1, h2, h3, h4⟩ := hh j k v hj
      exact ⟨kv.1, by simp [List.getElem?_zip_eq_some.mpr (show kvs[j]? = some (kv, (k, v)).1 ∧ prs[j]? = some (kv, (k, v)).2 from ⟨h2, hj⟩)], h4⟩
    · rw [l3]; exact hz'
    · exact fin h' tk hkv l1 hz' pp q hd' (fun b ob e => k b ob (by simp) e)
  | @tup a vs ds hr hk ra =>
    cases ru
    obtain ⟨ps, e, q⟩ := g
    obtain ⟨its, rvs, ⟨oo, ho, hcl, n, hd⟩, hz⟩ := I.tuple (Le.sqt o.sub hr)
    have hd0 : oo.dict = none := by
      rcases hk with ⟨hF, hn⟩ | ⟨o2, hF, hn⟩
      · exfalso
        obtain ⟨d, hd, hn⟩ := List.any_eq_true.mp hn
        have : ∀ (ds : List PyData) (ps : List (Key × PyData)), pairsOf ds = some ps → ∀ d ∈ ds, notT d = true → False := by
          intro ds
          induction ds with
          | nil => intro _ _ _ h; cases h
          | cons d ds ih =>
            intro ps e d' hd' hn
            obtain ⟨k, v, q, l, rfl, _, hl, _⟩ := pairsOf_cons e
            rcases List.mem_cons.mp hd' with rfl | h
            · cases hn
            · exact ih l hl d' h hn
        exact this ds ps e d hd hn
      · have := (I.hok a _ (o.sub _ _ hF)).1
        rw [ho] at this
        cases this
        exact hn
    obtain ⟨as, kvs, prs, rfl, hkv, l1, l2, l3, pp, hh⟩ := pairs_at I o.sub ra rvs e
    have hz' : ps.length ≤ sizeLine := by rw [← l2]; have := rvs.length; rw [List.length_map] at this; omega
    refine call_dict_pairs (PairArg.tuple a _ (fun j => as.getD j 0) prs) (I.ok.hd hc) ⟨⟨oo, n, ho, hcl, hd0, hd⟩, ?_, fun j k v hj => ?_⟩ (knd := mixKind X.prog X.w) (kvs := kvs.zip prs |>.map fun z => (z.1.1, z.2.2)) ⟨?_, fun j k v hj => ?_⟩ ?_ fun h' tk hd' k => ?_
    · simp [l2, l3]
    · obtain ⟨a', kv, h1, h2, h3, h4⟩ := hh j k v hj
      exact ⟨by simp [h1, List.getD], .inl (by show s.heap.IsTuple (as.getD j 0) _; rw [List.getD_eq_getElem?_getD, h1]; exact h3)⟩
    · simp [l1, l3]
    · obtain ⟨a', kv, h1, h2, h3, h4⟩ := hh j k v hj
      exact ⟨kv.1, by simp [List.getElem?_zip_eq_some.mpr (show kvs[j]? = some (kv, (k, v)).1 ∧ prs[j]? = some (kv, (k, v)).2 from ⟨h2, hj⟩)], h4⟩
    · rw [l3]; exact hz'
    · exact fin h' tk hkv l1 hz' pp q hd' (fun b ob e => k b ob (by simp) e)
  | _ => exact g.elim
end
end Fx

namespace Fx
open PySem L2

open Classical in
noncomputable def oSorted (x : PyData) : Option RV := match x with
  | .list xs => if SortOk xs then some (.nl (sortD xs)) else none
  | .tuple xs => if SortOk xs then some (.nl (sortD xs)) else none
  | .dict ks => if isDK ks = true ∧ SortOk (ks.map Prod.fst) then some (.nl (sortD (ks.map Prod.fst))) else none
  | _ => none
theorem sorted_of {x : PyData} {r : RV} {Q : RV → Prop} (h : oSorted x = some r) (q : Q r) : gSorted x Q := by
  unfold oSorted at h
  split at h
  · split at h
    · cases h; exact ⟨‹_›, q⟩
    · cases h
  · split at h
    · cases h; exact ⟨‹_›, q⟩
    · cases h
  · split at h
    · rename_i c; cases h; exact ⟨c.1, c.2, q⟩
    · cases h
  · cases h
theorem oSorted_eq {xs : List PyData} (h : SortOk xs) : oSorted (.list xs) = some (.nl (sortD xs)) := by
  unfold oSorted
  simp only [if_pos h]
section
open PySem.W PySem.Calls PyProof.Rows
variable {X : Cx}
end
section
variable {K : Ck} {W : WX}
end
section
open PySem.Sem (wp)
variable {prog : Program} {w : World} {A : Around} {R : Result → Shared → Prop} {I : Addr} {fp wr : List Addr} {n : Nat} {P : Nat → Value → Prop} {St : Nat → Heap → Prop}
end
section
open PyProof.Rows
variable {X : Cx}
end
end Fx

namespace Fx
open PySem L2
noncomputable section
open Classical

section
variable {K : Ck}
theorem opF_of {r : R2} {go : GO2} {o : O2} (h : OpD K r go) (k : ∀ x y rv (Q : RV → Prop), o x y = some rv → Q rv → go x y Q) : OpF K r o := fun S F H x y dx dy rv Q a b c d p => h S F H x y dx dy (fun r => r = rv) Q a b c (k _ _ _ _ d rfl) p
theorem op1F_of {r : V → Hp → VK → Prop} {go : GO1} {o : O1} (h : Op1D K r go) (k : ∀ x rv (Q : RV → Prop), o x = some rv → Q rv → go x Q) : Op1F K r o := fun S F H x dx rv Q a b d p => h S F H x dx (fun r => r = rv) Q a b (k _ _ _ d rfl) p
theorem opAF_of {r : List V → Hp → VK → Prop} {go : GOA} {o : OA} (h : OpAD K r go) (k : ∀ x rv (Q : RV → Prop), o x = some rv → Q rv → go x Q) : OpAF K r o := fun S F H x as rv Q a b d p => h S F H x as (fun r => r = rv) Q a b (k _ _ _ d rfl) p
end
def o1A (f : O1) : OA := fun as => match as with
  | [.d x] => f x
  | _ => none
def o2A (f : O2) : OA := fun as => match as with
  | [.d x, .d y] => f x y
  | _ => none
@[simp] theorem o1A_d (f : O1) (x : PyData) : o1A f [.d x] = f x := rfl
@[simp] theorem o2A_d (f : O2) (x y : PyData) : o2A f [.d x, .d y] = f x y := rfl
theorem o1A_of {f : O1} {go : GO1} (k : ∀ x rv (Q : RV → Prop), f x = some rv → Q rv → go x Q) : ∀ as rv (Q : RV → Prop), o1A f as = some rv → Q rv → g1 go as Q := by
  intro as rv Q h q
  unfold o1A at h
  split at h
  · exact k _ _ _ h q
  · cases h
theorem o2A_of {f : O2} {go : GO2} (k : ∀ x y rv (Q : RV → Prop), f x y = some rv → Q rv → go x y Q) : ∀ as rv (Q : RV → Prop), o2A f as = some rv → Q rv → g2 go as Q := by
  intro as rv Q h q
  unfold o2A at h
  split at h
  · exact k _ _ _ _ h q
  · cases h
def oAdd : O2 := fun x y => match x, y with
  | .int i, .int j => some (.d (.int (i + j)))
  | .str i, .str j => if i.length + j.length ≤ sizeLine then some (.d (.str (i ++ j))) else none
  | .list xs, .list ys => if xs.length + ys.length ≤ sizeLine then some (.nl (xs ++ ys)) else none
  | .tuple xs, .tuple ys => if xs.length + ys.length ≤ sizeLine then some (.d (.tuple (xs ++ ys))) else none
  | _, _ => none
def oSub : O2 := fun x y => match x, y with
  | .int i, .int j => some (.d (.int (i - j)))
  | _, _ => none
def oMul : O2 := fun x y => match x, y with
  | .int i, .int j => if CMul i j ∨ CMulW i j then some (.d (.int (i * j))) else none
  | .list xs, .int k => if (-(2 ^ 63) ≤ k ∧ k < 2 ^ 63) ∧ xs.length * k.toNat ≤ sizeLine then some (.nl (List.replicate k.toNat xs).flatten) else none
  | _, _ => none
def oMod : O2 := fun x y => match x, y with
  | .int i, .int j => if 0 < j then some (.d (.int (i % j))) else none
  | _, _ => none
def oDiv : O2 := fun x y => match x, y with
  | .int i, .int j => if 0 < j ∧ j.natAbs.log2 < 9000 then some (.d (.int (i / j))) else none
  | _, _ => none
def oPow : O2 := fun x y => match x, y with
  | .int i, .int j => if 0 ≤ j ∧ (Builtin.Int.intBits i : Int) * j ≤ 2 ^ 27 then some (.d (.int (i ^ j.toNat))) else none
  | _, _ => none
def oNeg : O1 := fun x => match x with
  | .int i => some (.d (.int (-i)))
  | _ => none
def oEq : O2 := fun x y => if pl x = true ∧ pl y = true then some (.d (.bool (PyData.eqv x y))) else none
def oNe : O2 := fun x y => if pl x = true ∧ pl y = true then some (.d (.bool (!PyData.eqv x y))) else none
def oCmp (f : Int → Int → Bool) : O2 := fun x y => match x, y with
  | .int i, .int j => some (.d (.bool (f i j)))
  | _, _ => none
def oLt : O2 := fun x y => match x, y with
  | .int i, .int j => some (.d (.bool (decide (i < j))))
  | .str i, .str j => some (.d (.bool (decide (i.cps.toList < j.cps.toList))))
  | _, _ => none
def oLe : O2 := oCmp fun i j => decide (i ≤ j)
def oGt : O2 := oCmp fun i j => decide (j < i)
def oGe : O2 := oCmp fun i j => decide (j ≤ i)
def oIn (neg : Bool) : O2 := fun x y => match y with
  | .list ys => if pl x = true ∧ pl (.list ys) = true then some (.d (.bool (neg ^^ ys.any fun z => PyData.eqv z x))) else none
  | .tuple ys => if pl x = true ∧ pl (.tuple ys) = true then some (.d (.bool (neg ^^ ys.any fun z => PyData.eqv z x))) else none
  | .str z => (match x with
    | .str i => (match i.cps.toList with
      | [c] => some (.d (.bool (neg ^^ decide (c ∈ z.cps.toList))))
      | _ => none)
    | _ => none)
  | .dict ks => (match toDK x with
    | some k => if matchK ks k = true then some (.d (.bool (neg ^^ (dget ks k).isSome))) else none
    | none => none)
  | _ => none
def oIx : O2 := fun x y => match x with
  | .list xs => (match y with
    | .int i => (atI xs i).map .d
    | _ => none)
  | .tuple xs => (match y with
    | .int i => (atI xs i).map .d
    | _ => none)
  | .str z => (match y with
    | .int i => if z.length ≤ sizeLine then (atI z.cps.toList i).map fun c => .d (.str ⟨#[c]⟩) else none
    | _ => none)
  | .dict ks => (match toDK y with
    | some k => if matchK ks k = true then (dget ks k).map .d else none
    | none => none)
  | _ => none
def oLen : O1 := fun x => match x with
  | .str z => if z.length ≤ sizeLine then some (.d (.int z.length)) else none
  | .list xs => some (.d (.int xs.length))
  | .tuple xs => some (.d (.int xs.length))
  | .dict ks => if isDK ks = true then some (.d (.int ks.length)) else none
  | _ => none
def oInt : O1 := fun x => match x with
  | .int i => some (.d (.int i))
  | .bool b => some (.d (.int (if b then 1 else 0)))
  | _ => none
def oAbs : O1 := fun x => match x with
  | .int i => some (.d (.int (if i < 0 then -i else i)))
  | _ => none
def oList : O1 := fun x => match x with
  | .list xs => some (.nl xs)
  | .tuple xs => some (.nl xs)
  | _ => none
def oTuple : O1 := fun x => match x with
  | .list xs => some (.d (.tuple xs))
  | .tuple xs => some (.d (.tuple xs))
  | _ => none
def oAll : O1 := fun x => match x with
  | .list xs => (boolsD xs).map fun bs => .d (.bool (bs.all id))
  | _ => none
def oMin2 : O2 := fun x y => match x, y with
  | .int i, .int j => some (.d (.int (if j < i then j else i)))
  | _, _ => none
def oDict : O1 := fun x => match x with
  | .list xs => (pairsOf xs).map fun ps => .nd false (mergeD [] ps)
  | .tuple xs => (pairsOf xs).map fun ps => .nd false (mergeD [] ps)
  | _ => none
def oJoin : OM := fun x as => match x with
  | .str a => (match as with
    | [.d (.list xs)] => (strsD xs).bind fun ys => if (ys.map (·.length)).sum + ys.length * a.length ≤ 16777216 then some (.d (.str (Txt.join a ys))) else none
    | _ => none)
  | _ => none
def oGet : OM := fun x as => match x with
  | .dict ks => (match as with
    | [.d y] => (match toDK y with
      | some k => if matchK ks k = true then some (.d ((dget ks k).getD .none)) else none
      | none => none)
    | [.d y, .d z] => (match toDK y with
      | some k => if matchK ks k = true then some (.d ((dget ks k).getD z)) else none
      | none => none)
    | _ => none)
  | _ => none
theorem add_of {x y : PyData} {rv : RV} {Q : RV → Prop} (h : oAdd x y = some rv) (q : Q rv) : gAdd x y Q := by
  cases x <;> cases y <;> simp [oAdd] at h
  · subst h; exact q
  · obtain ⟨h1, rfl⟩ := h; exact ⟨h1, q⟩
  · obtain ⟨h1, rfl⟩ := h; exact ⟨h1, q⟩
  · obtain ⟨h1, rfl⟩ := h; exact ⟨h1, q⟩
theorem sub_of {x y : PyData} {rv : RV} {Q : RV → Prop} (h : oSub x y = some rv) (q : Q rv) : gSub x y Q := by
  cases x <;> cases y <;> simp [oSub] at h
  subst h; exact q
theorem mul_of {x y : PyData} {rv : RV} {Q : RV → Prop} (h : oMul x y = some rv) (q : Q rv) : gMul x y Q := by
  cases x <;> cases y <;> simp only [oMul] at h <;> first | cases h | skip
  · split at h
    · cases h; exact ⟨‹_›, q⟩
    · cases h
  · split at h
    · rename_i c; cases h; exact ⟨c.1, c.2, q⟩
    · cases h
theorem mod_of {x y : PyData} {rv : RV} {Q : RV → Prop} (h : oMod x y = some rv) (q : Q rv) : gMod x y Q := by
  cases x <;> cases y <;> simp [oMod] at h
  obtain ⟨h1, rfl⟩ := h; exact ⟨h1, q⟩
theorem div_of {x y : PyData} {rv : RV} {Q : RV → Prop} (h : oDiv x y = some rv) (q : Q rv) : gDiv x y Q := by
  cases x <;> cases y <;> simp [oDiv] at h
  obtain ⟨h1, rfl⟩ := h; exact ⟨h1, q⟩
theorem pow_of {x y : PyData} {rv : RV} {Q : RV → Prop} (h : oPow x y = some rv) (q : Q rv) : gPow x y Q := by
  cases x <;> cases y <;> simp only [oPow] at h <;> first | cases h | skip
  split at h
  · rename_i c; cases h; exact ⟨c.1, c.2, q⟩
  · cases h
theorem neg_of {x : PyData} {rv : RV} {Q : RV → Prop} (h : oNeg x = some rv) (q : Q rv) : gNeg x Q := by
  cases x <;> simp [oNeg] at h
  subst h; exact q
theorem eq_of {x y : PyData} {rv : RV} {Q : RV → Prop} (h : oEq x y = some rv) (q : Q rv) : gEq x y Q := by
  unfold oEq at h
  split at h
  · rename_i c; cases h; exact ⟨c.1, c.2, q⟩
  · cases h
theorem ne_of' {x y : PyData} {rv : RV} {Q : RV → Prop} (h : oNe x y = some rv) (q : Q rv) : gNe x y Q := by
  unfold oNe at h
  split at h
  · rename_i c; cases h; exact ⟨c.1, c.2, q⟩
  · cases h
theorem cmp_of {f : Int → Int → Bool} {x y : PyData} {rv : RV} {Q : RV → Prop} (h : oCmp f x y = some rv) (q : Q rv) : gCmp f x y Q := by
  cases x <;> cases y <;> simp [oCmp] at h
  subst h; exact q
theorem lt_of {x y : PyData} {rv : RV} {Q : RV → Prop} (h : oLt x y = some rv) (q : Q rv) : gLt x y Q := by
  cases x <;> cases y <;> simp only [oLt] at h <;> first | cases h | skip
  · exact q
  · exact q
theorem in_of {neg : Bool} {x y : PyData} {rv : RV} {Q : RV → Prop} (h : oIn neg x y = some rv) (q : Q rv) : gIn neg x y Q := by
  cases y with
  | list ys =>
    simp only [oIn] at h
    split at h
    · rename_i c; cases h; exact ⟨c.1, c.2, q⟩
    · cases h
  | tuple ys =>
    simp only [oIn] at h
    split at h
    · rename_i c; cases h; exact ⟨c.1, c.2, q⟩
    · cases h
  | str z =>
    cases x with
    | str i =>
      simp only [oIn] at h
      split at h
      · rename_i c e
        cases h
        refine ⟨c, ?_, q⟩
        cases i with
        | mk cps =>
          have : cps = #[c] := Array.toList_inj.mp e
          rw [this]
      · cases h
    | _ => cases h
  | dict ks =>
    simp only [oIn] at h
    split at h
    · rename_i k e
      split at h
      · rename_i c; cases h; exact ⟨k, e, c, q⟩
      · cases h
    · cases h
  | _ => cases h
theorem ix_of {x y : PyData} {rv : RV} {Q : RV → Prop} (h : oIx x y = some rv) (q : Q rv) : gIx x y Q := by
  cases x with
  | list xs =>
    cases y with
    | int i =>
      obtain ⟨d, e, rfl⟩ := Option.map_eq_some_iff.mp (show (atI xs i).map RV.d = some rv from h)
      exact ⟨d, e, q⟩
    | _ => cases h
  | tuple xs =>
    cases y with
    | int i =>
      obtain ⟨d, e, rfl⟩ := Option.map_eq_some_iff.mp (show (atI xs i).map RV.d = some rv from h)
      exact ⟨d, e, q⟩
    | _ => cases h
  | str z =>
    cases y with
    | int i =>
      simp only [oIx] at h
      split at h
      · obtain ⟨d, e, rfl⟩ := Option.map_eq_some_iff.mp h
        exact ⟨‹_›, d, e, q⟩
      · cases h
    | _ => cases h
  | dict ks =>
    simp only [oIx] at h
    split at h
    · rename_i k e
      split at h
      · rename_i c
        obtain ⟨d, e2, rfl⟩ := Option.map_eq_some_iff.mp h
        exact ⟨k, d, e, c, e2, q⟩
      · cases h
    · cases h
  | _ => cases h
theorem len_of {x : PyData} {rv : RV} {Q : RV → Prop} (h : oLen x = some rv) (q : Q rv) : gLen x Q := by
  cases x <;> simp [oLen] at h
  · obtain ⟨h1, rfl⟩ := h; exact ⟨h1, q⟩
  · subst h; exact q
  · subst h; exact q
  · obtain ⟨h1, rfl⟩ := h; exact ⟨h1, q⟩
theorem int_of {x : PyData} {rv : RV} {Q : RV → Prop} (h : oInt x = some rv) (q : Q rv) : gInt x Q := by
  cases x <;> simp [oInt] at h
  · subst h; exact q
  · subst h; exact q
theorem abs_of {x : PyData} {rv : RV} {Q : RV → Prop} (h : oAbs x = some rv) (q : Q rv) : gAbs x Q := by
  cases x <;> simp [oAbs] at h
  subst h; exact q
theorem list_of {x : PyData} {rv : RV} {Q : RV → Prop} (h : oList x = some rv) (q : Q rv) : gList x Q := by
  cases x <;> simp [oList] at h
  · subst h; exact q
  · subst h; exact q
theorem tuple_of {x : PyData} {rv : RV} {Q : RV → Prop} (h : oTuple x = some rv) (q : Q rv) : gTuple x Q := by
  cases x <;> simp [oTuple] at h
  · subst h; exact q
  · subst h; exact q
theorem all_of {x : PyData} {rv : RV} {Q : RV → Prop} (h : oAll x = some rv) (q : Q rv) : gAll x Q := by
  cases x <;> simp [oAll] at h
  obtain ⟨bs, e, rfl⟩ := h; exact ⟨bs, e, by simpa using q⟩
theorem min2_of {x y : PyData} {rv : RV} {Q : RV → Prop} (h : oMin2 x y = some rv) (q : Q rv) : gMin2 x y Q := by
  cases x <;> cases y <;> simp only [oMin2] at h <;> first | cases h | skip
  exact q
theorem dict_of {x : PyData} {rv : RV} {Q : RV → Prop} (h : oDict x = some rv) (q : Q rv) : gDict x Q := by
  cases x <;> simp [oDict] at h
  · obtain ⟨ps, e, rfl⟩ := h; exact ⟨ps, e, q⟩
  · obtain ⟨ps, e, rfl⟩ := h; exact ⟨ps, e, q⟩
theorem join_of {x : PyData} {as : List AV} {rv : RV} {Q : RV → Prop} (h : oJoin x as = some rv) (q : Q rv) : gJoin x as Q := by
  unfold oJoin at h
  split at h
  · split at h
    · obtain ⟨ys, e, h⟩ := Option.bind_eq_some_iff.mp h
      split at h
      · cases h; exact ⟨ys, e, ‹_›, q⟩
      · cases h
    · cases h
  · cases h
theorem get_of {x : PyData} {as : List AV} {rv : RV} {Q : RV → Prop} (h : oGet x as = some rv) (q : Q rv) : gGet x as Q := by
  unfold oGet at h
  split at h
  · split at h
    · split at h
      · rename_i k e
        split at h
        · cases h; exact ⟨k, e, ‹_›, q⟩
        · cases h
      · cases h
    · split at h
      · rename_i k e
        split at h
        · cases h; exact ⟨k, e, ‹_›, q⟩
        · cases h
      · cases h
    · cases h
  · cases h
end
end Fx

namespace Fx
open PySem L2

theorem EnvOk.law {K : Ck} {S : Sta} {B F0 F H : Hp} {ρ : List SD} {σ : St} {g : Gs} {d l c : Addr} (E : EnvOk K S B F0 F H ρ σ g) (hq : g.q = some (d, l, c)) : (∃ T, S = staOf (some (d, l, c), T)) ∧ LawAt d l c g.ls g.cs g.rest g.turn H := by
  obtain ⟨⟨q, T⟩, rfl, _⟩ := E.st
  have j := E.j
  cases q with
  | none =>
    have : g.q = none := j.1
    rw [hq] at this; cases this
  | some p =>
    obtain ⟨d', l', c'⟩ := p
    have h : g.q = some (d', l', c') := j.1.1
    rw [hq] at h
    cases h
    exact ⟨⟨T, rfl⟩, j.1.2⟩
theorem noM {a : Addr} (h : (staOf (none, [])).M a) : False := by
  obtain ⟨s, hs⟩ := h
  cases hs
theorem upd_some {H : Hp} {d a : Addr} {o : HO} (h : H a ≠ none) : upd H d o a ≠ none := by
  by_cases z : a = d
  · rw [z, upd_same]; exact fun z => by cases z
  · rw [upd_ne z]; exact h
theorem tb_none {F H : Hp} : Tb (staOf (none, [])) F H := fun p hp => by cases hp
/-- the state's objects change -/
theorem EnvOk.stUpd {K : Ck} {S : Sta} {B F0 F H H' : Hp} {ρ : List SD} {σ : St} {g g' : Gs} (E : EnvOk K S B F0 F H ρ σ g) (h : ∀ a, ¬ S.M a → H' a = H a) (j : S.J g' H') (tb : Tb S F H') : EnvOk K S B F0 F H' ρ σ g' where
  st := E.st
  tb := tb
  sub := fun a o e => by
    by_cases m : S.M a
    · rw [E.mF a m] at e; cases e
    · rw [h a m]; exact E.sub a o e
  mono := E.mono
  fz := E.fz
  keep := fun a o e m => by rw [h a m]; exact E.keep a o e m
  mF := E.mF
  j := j
  len := E.len
  sl := fun i s hs => by
    obtain ⟨v, h1, h2⟩ := E.sl i s hs
    refine ⟨v, h1, h2.to (Le.refl F) fun a hv ho => ?_⟩
    obtain ⟨b, hb, _, m, _, _⟩ := h2.at ho
    rw [hv] at hb
    cases hb
    exact ⟨rfl, h a m⟩
  dist := E.dist
def stv (l c : Addr) (rest turn : Int) : List (Key × V) := [(.inr "large", .ref l), (.inr "cells", .ref c), (.inr "rest", .int rest), (.inr "turn", .int turn)]
theorem ks_ne {a b : Str} (h : a ≠ b) : ¬ ((Sum.inr a : Key) = Sum.inr b) := fun z => by cases z; exact h rfl
theorem n_lc : ("large" : Str) ≠ "cells" := by decide +kernel
theorem n_lr : ("large" : Str) ≠ "rest" := by decide +kernel
theorem n_lt : ("large" : Str) ≠ "turn" := by decide +kernel
theorem n_cr : ("cells" : Str) ≠ "rest" := by decide +kernel
theorem n_ct : ("cells" : Str) ≠ "turn" := by decide +kernel
theorem n_rt : ("rest" : Str) ≠ "turn" := by decide +kernel
theorem stv_large {l c : Addr} {r t : Int} : valV (stv l c r t) (.inr "large" : Key) = some (.ref l) := valV_pos rfl
theorem stv_cells {l c : Addr} {r t : Int} : valV (stv l c r t) (.inr "cells" : Key) = some (.ref c) := (valV_neg (ks_ne n_lc)).trans (valV_pos rfl)
theorem stv_rest {l c : Addr} {r t : Int} : valV (stv l c r t) (.inr "rest" : Key) = some (.int r) := (valV_neg (ks_ne n_lr)).trans ((valV_neg (ks_ne n_cr)).trans (valV_pos rfl))
theorem stv_turn {l c : Addr} {r t : Int} : valV (stv l c r t) (.inr "turn" : Key) = some (.int t) := (valV_neg (ks_ne n_lt)).trans ((valV_neg (ks_ne n_ct)).trans ((valV_neg (ks_ne n_rt)).trans (valV_pos rfl)))
theorem stv_putRest {l c : Addr} {r t x : Int} : putK (stv l c r t) (.inr "rest" : Key) (.int x) = stv l c x t := by
  unfold putK stv
  simp only [List.any_cons, List.any_nil, List.map_cons, List.map_nil, if_neg (ks_ne n_lr), if_neg (ks_ne n_cr), if_neg (ks_ne (Ne.symm n_rt)), decide_eq_false (ks_ne n_lr), decide_eq_false (ks_ne n_cr), decide_true, if_true, Bool.or_true, Bool.true_or, Bool.false_or]
theorem stv_putTurn {l c : Addr} {r t x : Int} : putK (stv l c r t) (.inr "turn" : Key) (.int x) = stv l c r x := by
  unfold putK stv
  simp only [List.any_cons, List.any_nil, List.map_cons, List.map_nil, if_neg (ks_ne n_lt), if_neg (ks_ne n_ct), if_neg (ks_ne n_rt), decide_eq_false (ks_ne n_lt), decide_eq_false (ks_ne n_ct), decide_eq_false (ks_ne n_rt), decide_true, if_true, Bool.or_true, Bool.true_or, Bool.false_or]
/-- the state is in slot i -/
def StOk (ρ : List SD) (i : Nat) (g : Gs) : Prop := ∃ d l c, ρ[i]? = some (.o (.ref d)) ∧ g.q = some (d, l, c)
noncomputable section
open Classical
def stIf {α : Type} (ρ : List SD) (i : Nat) (g : Gs) (m : R α) : R α := if StOk ρ i g then m else .bad
theorem stIf_wp {α : Type} {ρ : List SD} {i : Nat} {g : Gs} {m : R α} {P : α → Gs → Prop} {X : PyData → Gs → Prop} (h : (stIf ρ i g m).wp P X) : ∃ d l c, ρ[i]? = some (.o (.ref d)) ∧ g.q = some (d, l, c) ∧ m.wp P X := by
  unfold stIf at h
  split at h
  · rename_i q; obtain ⟨d, l, c, h1, h2⟩ := q; exact ⟨d, l, c, h1, h2, h⟩
  · exact h.elim
theorem stIf_eq {α : Type} {ρ : List SD} {i : Nat} {g : Gs} (m : R α) (h : StOk ρ i g) : stIf ρ i g m = m := if_pos h
def fStRest (i : Nat) : EF := fun ρ g => stIf ρ i g (.ok (.d (.int g.rest)) g)
def fStTurn (i : Nat) : EF := fun ρ g => stIf ρ i g (.ok (.d (.int g.turn)) g)
def fStLargeNe (i : Nat) : EFt := fun ρ g => stIf ρ i g (.ok (!g.ls.isEmpty) g)
def fStCellsNe (i : Nat) : EFt := fun ρ g => stIf ρ i g (.ok (!g.cs.isEmpty) g)
def fStCellsLen (i : Nat) : EF := fun ρ g => stIf ρ i g (.ok (.d (.int g.cs.length)) g)
/-- no state is changed -/
def keepG {α : Type} (g : Gs) (m : R α) : R α := match m with
  | .ok a g1 => if g1 = g then .ok a g else .bad
  | _ => .bad
theorem keepG_wp {α : Type} {g : Gs} {m : R α} {P : α → Gs → Prop} {X : PyData → Gs → Prop} (h : (keepG g m).wp P X) : m.wp (fun a g1 => g1 = g ∧ P a g) NoX := by
  unfold keepG at h
  split at h
  · split at h
    · exact ⟨‹_›, h⟩
    · exact h.elim
  · exact h.elim
@[simp] theorem keepG_ok {α : Type} (g : Gs) (a : α) : keepG g (.ok a g) = .ok a g := if_pos rfl
def fStCell (i : Nat) (fe : EF) : EF := fun ρ g => stIf ρ i g ((keepG g ((fe ρ g).bind asIR)).bind fun k g1 => R.ofO ((atI g.cs k).map fun x => .d (.int x)) g1)
def fStPutRest (i : Nat) (fe : EF) : EFs := fun ρ g => (fe ρ g).stx ρ fun r g1 => (asIR r g1).stx ρ fun x g2 => stIf ρ i g2 (.ok (.nx ρ) { g2 with rest := x })
def fStPutTurn (i : Nat) (fe : EF) : EFs := fun ρ g => (fe ρ g).stx ρ fun r g1 => (asIR r g1).stx ρ fun x g2 => stIf ρ i g2 (.ok (.nx ρ) { g2 with turn := x })
def fStPop (i : Nat) : EFs := fun ρ g => stIf ρ i g (match g.ls with
  | x :: r => .ok (.nx ρ) { g with ls := r, rest := x }
  | [] => .bad)
end
section
variable {K : Ck} {W : WX} {S : Sta} {B F0 F H : Hp} {ρ : List SD} {σ : St} {g : Gs}
theorem st_get {i : Nat} {d l c : Addr} (E : EnvOk K S B F0 F H ρ σ g) (hi : ρ[i]? = some (.o (.ref d))) (hq : g.q = some (d, l, c)) : σ[i]? = some (some (.ref d)) ∧ (∃ T, S = staOf (some (d, l, c), T)) ∧ LawAt d l c g.ls g.cs g.rest g.turn H := by
  obtain ⟨v, h1, h2⟩ := E.sl i _ hi
  cases h2
  exact ⟨h1, E.law hq⟩
theorem st_dget {d l c : Addr} {ls cs : List Int} {r t : Int} {x : Str} {v : V} (L : LawAt d l c ls cs r t H) (h : valV (stv l c r t) (.inr x : Key) = some v) : DGet H d (.str x) (some v) := .inl ⟨_, .inr x, .inl L.hd, rfl, h.symm⟩
theorem sm_stRest (i : Nat) : Sm K W (tDGet (tVar i) (tC (.str "rest"))) (fStRest i) := by
  intro S B F0 F H ρ σ g Pd Xd Q E h k kx
  obtain ⟨d, l, c, hi, hq, h⟩ := stIf_wp h
  obtain ⟨h1, ⟨T, rfl⟩, L⟩ := st_get E hi hq
  exact ⟨_, h1, d, _, rfl, st_dget L stv_rest, k _ _ _ _ _ h (Ext.refl E.sub) E.j (Rp.int _)⟩
theorem sm_stTurn (i : Nat) : Sm K W (tDGet (tVar i) (tC (.str "turn"))) (fStTurn i) := by
  intro S B F0 F H ρ σ g Pd Xd Q E h k kx
  obtain ⟨d, l, c, hi, hq, h⟩ := stIf_wp h
  obtain ⟨h1, ⟨T, rfl⟩, L⟩ := st_get E hi hq
  exact ⟨_, h1, d, _, rfl, st_dget L stv_turn, k _ _ _ _ _ h (Ext.refl E.sub) E.j (Rp.int _)⟩
theorem rpa_ints {F : Hp} : ∀ (ns : List Int), RpA K F (ns.map V.int) (ns.map PyData.int)
  | [] => .nil
  | n :: ns => .cons (.int n) (rpa_ints ns)
/-- one list alone -/
def only (H : Hp) (a b : Addr) : Hp := fun x => if x = a ∨ x = b then H x else none
theorem only_sub (H : Hp) (a b : Addr) : Sub (only H a b) H := fun x o e => by
  unfold only at e
  split at e
  · exact e
  · cases e
theorem plainAll_ints : ∀ ns : List Int, PyData.plainAll (ns.map PyData.int) = true
  | [] => rfl
  | n :: ns => by
    show (PyData.plain (.int n) && PyData.plainAll (ns.map PyData.int)) = true
    rw [plainAll_ints ns]; rfl
theorem depthAll_ints : ∀ ns : List Int, PyData.depthAll (ns.map PyData.int) ≤ 1
  | [] => Nat.zero_le _
  | n :: ns => by
    have := depthAll_ints ns
    show max (PyData.depth (.int n)) (PyData.depthAll (ns.map PyData.int)) ≤ 1
    have h : PyData.depth (.int n) ≤ 1 := by simp [PyData.depth]
    omega
theorem shaped_ints (ns : List Int) : pl (.list (ns.map PyData.int)) = true := by
  unfold pl
  have h1 : PyData.plain (.list (ns.map PyData.int)) = true := by rw [PyData.plain]; exact plainAll_ints ns
  have h2 : PyData.depth (.list (ns.map PyData.int)) ≤ 64 := by
    have := depthAll_ints ns
    rw [PyData.depth]
    omega
  rw [h1, decide_eq_true h2]; rfl
theorem st_ne {a : Addr} {ns : List Int} {Qd : Bool → Gs → Prop} {Q : Bool → Hp → Prop} (E : EnvOk K S B F0 F H ρ σ g) (ha : H a = some (.lst (ns.map V.int))) (hs : pl (.list (ns.map .int)) = true) (q : Qd (!ns.isEmpty) g)
    (k : ∀ b g' F' H', Qd b g' → Ext S F H F' H' → S.J g' H' → Q b H') : ∀ p, H p = none → rB K gNe (.ref a) (.ref p) (upd H p (.lst [])) fun x H' => ∃ b, x = .bl b ∧ Q b H' := by
  intro p hp
  have hap : a ≠ p := ne_of_none ha hp
  have n := Ext.own (S := S) (o := .lst []) E.sub hp
  have j := J.new (o := .lst []) E.j hp
  refine ⟨staOf (none, []), only (upd H p (.lst [])) a p, .list (ns.map .int), .list [], fun r => r = .d (.bool (!ns.isEmpty)), ⟨only_sub _ _ _, fun a h => (noM h).elim⟩, ?_, ?_, ⟨hs, rfl, ?_⟩, ?_⟩
  · exact .lst (.inl <| .inl (by unfold only; rw [if_pos (.inl rfl), upd_ne hap]; exact ha)) (rpa_ints ns)
  · exact .lst (.inl <| .inl (by unfold only; rw [if_pos (.inr rfl), upd_same])) .nil
  · cases ns <;> rfl
  · intro r v F' H' hr e jj rv
    subst hr
    have rv : Rp K F' v _ := rv
    cases rv
    have hk : ∀ x o, upd H p (.lst []) x = some o → H' x = some o := fun x o h => e.keep x o h noM
    refine ⟨_, rfl, k _ g F H' q ⟨fun x o h m => hk x o (n.keep x o h m), fun _ _ => rfl, Le.refl F, fun x o h => hk x o (n.sub x o h), fun t => (n.tb t).to (fun _ _ z => z) fun a ps _ z => hk _ _ z⟩ (S.ok _ _ _ j fun x m => ?_)⟩
    cases e2 : upd H p (.lst []) x with
    | none => exact absurd e2 (S.there _ _ _ j m)
    | some o => exact hk x o e2
theorem smt_stLargeNe (i : Nat) : SmT K W (tTest (tOp (rB K gNe) (tDGet (tVar i) (tC (.str "large"))) (tLst tNil))) (fStLargeNe i) := by
  intro S B F0 F H ρ σ g Pd Xd Q E h k kx
  obtain ⟨d, l, c, hi, hq, h⟩ := stIf_wp h
  obtain ⟨h1, ⟨T, rfl⟩, L⟩ := st_get E hi hq
  exact ⟨_, h1, d, _, rfl, st_dget L stv_large, Nat.zero_le _, st_ne E L.hl (shaped_ints g.ls) h k⟩
theorem smt_stCellsNe (i : Nat) : SmT K W (tTest (tOp (rB K gNe) (tDGet (tVar i) (tC (.str "cells"))) (tLst tNil))) (fStCellsNe i) := by
  intro S B F0 F H ρ σ g Pd Xd Q E h k kx
  obtain ⟨d, l, c, hi, hq, h⟩ := stIf_wp h
  obtain ⟨h1, ⟨T, rfl⟩, L⟩ := st_get E hi hq
  exact ⟨_, h1, d, _, rfl, st_dget L stv_cells, Nat.zero_le _, st_ne E L.hc (shaped_ints g.cs) h k⟩
theorem sm_stCellsLen (i : Nat) : Sm K W (tCB (rLen K) (tCons (tDGet (tVar i) (tC (.str "cells"))) tNil)) (fStCellsLen i) := by
  intro S B F0 F H ρ σ g Pd Xd Q E h k kx
  obtain ⟨d, l, c, hi, hq, h⟩ := stIf_wp h
  obtain ⟨h1, ⟨T, rfl⟩, L⟩ := st_get E hi hq
  refine ⟨_, h1, d, _, rfl, st_dget L stv_cells, _, g.cs.length, rfl, .inl ⟨_, .inl (.inl L.hc), by simp⟩, k _ _ _ _ _ h (Ext.refl E.sub) E.j (Rp.int _)⟩
theorem atI_map {α β : Type} (f : α → β) (xs : List α) (k : Int) {x : α} (h : atI xs k = some x) : atI (xs.map f) k = some (f x) := by
  unfold atI at h ⊢
  rw [List.length_map]
  cases e : ixN xs.length k with
  | none => rw [e] at h; cases h
  | some j =>
    rw [e] at h
    have h' : xs[j]? = some x := h
    show (xs.map f)[j]? = some (f x)
    rw [List.getElem?_map, h']; rfl
theorem sm_stCell (i : Nat) {te : TE} {fe : EF} (he : Sm K W0 te fe) : Sm K W (tOp (rB K gIx) (tDGet (tVar i) (tC (.str "cells"))) te) (fStCell i fe) := by
  intro S B F0 F H ρ σ g Pd Xd Q E h k kx
  obtain ⟨d, l, c, hi, hq, h⟩ := stIf_wp h
  obtain ⟨h1, ⟨T, rfl⟩, L⟩ := st_get E hi hq
  refine ⟨_, h1, d, _, rfl, st_dget L stv_cells, ?_⟩
  refine he _ B F0 F H ρ σ g _ _ _ E (R.wp_bind.mp (keepG_wp (R.wp_bind.mp h))) (fun r g1 v F1 H1 q e j rv => ?_) (fun _ _ _ _ _ _ z _ _ _ => z.elim)
  obtain ⟨x, rfl, rfl, q⟩ := asI_inv q
  obtain ⟨rr, o1, q⟩ := R.wp_ofO q
  obtain ⟨y, hy, rfl⟩ := Option.map_eq_some_iff.mp o1
  have rv : Rp K F1 v (.int x) := rv
  cases rv
  have L1 : LawAt d l c g1.ls g1.cs g1.rest g1.turn H1 := j.1.2
  refine ⟨staOf (none, []), only H1 c c, .list (g1.cs.map .int), .int x, fun r => r = .d (.int y), ⟨only_sub _ _ _, fun a h => (noM h).elim⟩, .lst (.inl <| .inl (by unfold only; rw [if_pos (.inl rfl)]; exact L1.hc)) (rpa_ints _), .int _, ⟨_, atI_map _ _ _ hy, rfl⟩, ?_⟩
  intro r v F' H' hr e' jj rv
  subst hr
  have rv : Rp K F' v _ := rv
  cases rv
  have hk : ∀ x o, H1 x = some o → H' x = some o := fun x o h => e'.keep x o h noM
  refine k _ g1 _ F1 H' q ⟨fun x o h m => hk x o (e.keep x o h m), e.grow, e.le, fun x o h => hk x o (e.sub x o h), fun t => (e.tb t).to (fun _ _ z => z) fun a ps _ z => hk _ _ z⟩ ((staOf (some (d, l, c), T)).ok _ _ _ j fun x m => ?_) (Rp.int _)
  cases e2 : H1 x with
  | none => exact absurd e2 ((staOf (some (d, l, c), T)).there _ _ _ j m)
  | some o => exact hk x o e2
theorem st_put {d l c : Addr} {T : List (Addr × Str)} {g2 : Gs} {o : HO} {kvs : List (Key × V)} (E : EnvOk K S B F0 F H ρ σ g) (hS : S = staOf (some (d, l, c), T)) (hd : H d = some (.dK kvs)) (j : g2.q = some (d, l, c) ∧ LawAt d l c g2.ls g2.cs g2.rest g2.turn (upd H d o)) (ht : g2.tt = g.tt := by rfl) : EnvOk K S B F0 F (upd H d o) ρ σ g2 := by
  subst hS
  exact E.stUpd (fun a m => upd_ne fun z => m (.inl (.inl z))) ⟨j, fun p hp => upd_some (E.j.2.1 p hp), fun z => E.j.2.2 (ht ▸ z)⟩ (E.tb.upd (fun _ _ z => z) fun ps z => by rw [hd] at z; cases z)
theorem sms_stPutRest (i : Nat) {te : TE} {fe : EF} (he : Sm K W te fe) : SmS K W (sDPut (tVar i) (tC (.str "rest")) te) (fStPutRest i fe) := by
  intro S B F0 F H ρ σ g D E hf
  refine he S B F0 F H ρ σ g _ _ _ E (stx_wp hf) (fun r g1 v F1 H1 q e j rv => ?_) (stx_x (t := True) (P := fun _ _ => True) E)
  obtain ⟨x, rfl, q⟩ := asI_inv (stx_wp q)
  obtain ⟨d, l, c, hi, hq, q⟩ := stIf_wp q
  have rv : Rp K F1 v (.int x) := rv
  cases rv
  have E1 := E.ext e j
  obtain ⟨h1, ⟨T, hS⟩, L⟩ := st_get E1 hi hq
  refine ⟨_, h1, d, _, rfl, .inl ⟨_, .inr "rest", L.hd, rfl, by show 4 < sizeLine; rw [sizeLine_eq]; decide, rfl⟩, ?_⟩
  refine q _ _ _ (st_put E1 hS L.hd ⟨hq, ⟨L.dl, L.dc, L.lc, ?_, by rw [upd_ne L.dl.symm]; exact L.hl, by rw [upd_ne L.dc.symm]; exact L.hc⟩⟩)
  rw [upd_same]
  exact congrArg (fun z => some (HO.dK z)) stv_putRest
theorem sms_stPutTurn (i : Nat) {te : TE} {fe : EF} (he : Sm K W te fe) : SmS K W (sDPut (tVar i) (tC (.str "turn")) te) (fStPutTurn i fe) := by
  intro S B F0 F H ρ σ g D E hf
  refine he S B F0 F H ρ σ g _ _ _ E (stx_wp hf) (fun r g1 v F1 H1 q e j rv => ?_) (stx_x (t := True) (P := fun _ _ => True) E)
  obtain ⟨x, rfl, q⟩ := asI_inv (stx_wp q)
  obtain ⟨d, l, c, hi, hq, q⟩ := stIf_wp q
  have rv : Rp K F1 v (.int x) := rv
  cases rv
  have E1 := E.ext e j
  obtain ⟨h1, ⟨T, hS⟩, L⟩ := st_get E1 hi hq
  refine ⟨_, h1, d, _, rfl, .inl ⟨_, .inr "turn", L.hd, rfl, by show 4 < sizeLine; rw [sizeLine_eq]; decide, rfl⟩, ?_⟩
  refine q _ _ _ (st_put E1 hS L.hd ⟨hq, ⟨L.dl, L.dc, L.lc, ?_, by rw [upd_ne L.dl.symm]; exact L.hl, by rw [upd_ne L.dc.symm]; exact L.hc⟩⟩)
  rw [upd_same]
  exact congrArg (fun z => some (HO.dK z)) stv_putTurn
theorem sms_stPop (i : Nat) : SmS K W (sDPut (tVar i) (tC (.str "rest")) (tBM K "list" rPopAt (tDGet (tVar i) (tC (.str "large"))) (tCons (tC (.int 0)) tNil))) (fStPop i) := by
  intro S B F0 F H ρ σ g D E h
  obtain ⟨d, l, c, hi, hq, h⟩ := stIf_wp h
  obtain ⟨h1, ⟨T, rfl⟩, L⟩ := st_get E hi hq
  cases e : g.ls with
  | nil => rw [e] at h; exact h.elim
  | cons x r =>
    rw [e] at h
    have hl : H l = some (.lst (V.int x :: r.map V.int)) := by rw [L.hl, e]; rfl
    refine ⟨_, h1, d, _, rfl, st_dget L stv_large, .inl ⟨rfl, _, .inl (.inl hl)⟩, l, _, 0, 0, .int x, rfl, rfl, hl, by decide, by decide, ?_, rfl, ?_⟩
    · simp [seqIndex?]
    · have hd : upd H l (.lst (r.map V.int)) d = some (.dK (stv l c g.rest g.turn)) := by rw [upd_ne L.dl]; exact L.hd
      refine ⟨_, h1, d, _, rfl, .inl ⟨_, .inr "rest", hd, rfl, by show 4 < sizeLine; rw [sizeLine_eq]; decide, rfl⟩, ?_⟩
      refine h _ _ _ (E.stUpd (fun a m => ?_) ⟨⟨hq, ⟨L.dl, L.dc, L.lc, ?_, ?_, ?_⟩⟩, fun p hp => upd_some (upd_some (E.j.2.1 p hp)), fun z => E.j.2.2 z⟩ ((E.tb.upd (fun _ _ z => z) fun ps z => by rw [hl] at z; cases z).upd (fun _ _ z => z) fun ps z => by rw [upd_ne L.dl, L.hd] at z; cases z))
      · have n1 : a ≠ d := fun z => m (.inl (.inl z))
        have n2 : a ≠ l := fun z => m (.inl (.inr (.inl z)))
        show upd (upd H l _) d _ a = H a
        rw [upd_ne n1, upd_ne n2]
      · show upd (upd H l _) d _ d = _
        rw [upd_same]; exact congrArg (fun z => some (HO.dK z)) stv_putRest
      · show upd (upd H l _) d _ l = _
        rw [upd_ne L.dl.symm, upd_same]; rfl
      · show upd (upd H l _) d _ c = _
        rw [upd_ne L.dc.symm, upd_ne L.lc.symm]; exact L.hc
end
end Fx

namespace Fx
open PySem L2 PySem.Spec PyProof.Rows

theorem cpStep_eq {α : Type} {fg : EFg} {ft : EFt} {fb : List SD → α → Gs → R α} {ρ ρ2 : List SD} {d : PyData} {acc : α} {g : Gs} (h1 : fg d ρ = some ρ2) : cpStep fg ft fb ρ d acc g = (ft ρ2 g).bind fun b g2 => if b = true then fb ρ2 acc g2 else .ok acc g2 := by
  unfold cpStep; rw [h1]
theorem cpR_lst {α : Type} {step : PyData → List PyData → Gs → R (List PyData)} {g : Gs} (f : α → PyData) (k : α → Option PyData) : ∀ (l : List α) (acc : List PyData), (∀ x ∈ l, ∀ acc : List PyData, step (f x) acc g = match k x with
    | some y => if acc.length < sizeLine then .ok (acc ++ [y]) g else .bad
    | none => .ok acc g) → acc.length + l.length ≤ sizeLine → cpR step (l.map f) acc g = .ok (acc ++ l.filterMap k) g
  | [], acc, _, _ => by simp [cpR]
  | x :: l, acc, h, hz => by
    have hz' : acc.length + (l.length + 1) ≤ sizeLine := hz
    rw [List.map_cons, cpR, h x (by simp)]
    cases e : k x with
    | none =>
      simp only [R.bind_ok]
      rw [cpR_lst f k l acc (fun y hy => h y (by simp [hy])) (by omega), List.filterMap_cons_none e]
    | some y =>
      simp only
      rw [if_pos (by omega)]
      simp only [R.bind_ok]
      rw [cpR_lst f k l (acc ++ [y]) (fun y hy => h y (by simp [hy])) (by rw [List.length_append]; simp; omega), List.filterMap_cons_some e, List.append_assoc]
      rfl
theorem fLc_eq {α : Type} {fi : EFi} {fg : EFg} {ft : EFt} {fe : EF} {vs : List Nat} {ρ : List SD} {g g1 : Gs} (l : List α) (f : α → PyData) (k : α → Option PyData) (hi : fi ρ g = .ok (l.map f) g1)
    (hs : ∀ x ∈ l, ∃ ρ2, fg (f x) (wipeD ρ vs) = some ρ2 ∧ (match k x with
      | some y => ft ρ2 g1 = .ok true g1 ∧ fDat fe ρ2 g1 = .ok y g1
      | none => ft ρ2 g1 = .ok false g1)) (hz : l.length ≤ sizeLine) : fLc fi fg ft fe vs ρ g = .ok (.nl (l.filterMap k)) g1 := by
  unfold fLc fCp
  rw [hi]
  simp only [R.bind_ok]
  rw [cpR_lst f k l [] (fun x hx acc => ?_) (by simpa using hz)]
  · simp
  · obtain ⟨ρ2, h1, h2⟩ := hs x hx
    rw [cpStep_eq h1]
    cases e : k x with
    | none =>
      rw [e] at h2
      rw [h2]; rfl
    | some y =>
      rw [e] at h2
      rw [h2.1]
      simp only [R.bind_ok, if_true]
      unfold bLst
      rw [h2.2]; rfl
/-- each item gives one -/
theorem fLc_map {α : Type} {fi : EFi} {fg : EFg} {ft : EFt} {fe : EF} {vs : List Nat} {ρ : List SD} {g g1 : Gs} (l : List α) (f : α → PyData) (k : α → PyData) (hi : fi ρ g = .ok (l.map f) g1)
    (hs : ∀ x ∈ l, ∃ ρ2, fg (f x) (wipeD ρ vs) = some ρ2 ∧ ft ρ2 g1 = .ok true g1 ∧ fDat fe ρ2 g1 = .ok (k x) g1) (hz : l.length ≤ sizeLine) : fLc fi fg ft fe vs ρ g = .ok (.nl (l.map k)) g1 := by
  rw [fLc_eq l f (fun x => some (k x)) hi hs hz]
  rw [show l.filterMap (fun x => some (k x)) = l.map k from by rw [List.filterMap_eq_map']]
/-- those for which a test is true -/
theorem fLc_filter {α : Type} {fi : EFi} {fg : EFg} {ft : EFt} {fe : EF} {vs : List Nat} {ρ : List SD} {g g1 : Gs} (l : List α) (f : α → PyData) (p : α → Bool) (k : α → PyData) (hi : fi ρ g = .ok (l.map f) g1)
    (hs : ∀ x ∈ l, ∃ ρ2, fg (f x) (wipeD ρ vs) = some ρ2 ∧ ft ρ2 g1 = .ok (p x) g1 ∧ (p x = true → fDat fe ρ2 g1 = .ok (k x) g1)) (hz : l.length ≤ sizeLine) : fLc fi fg ft fe vs ρ g = .ok (.nl ((l.filter p).map k)) g1 := by
  rw [fLc_eq l f (fun x => if p x = true then some (k x) else none) hi (fun x hx => ?_) hz]
  · congr 2
    induction l with
    | nil => rfl
    | cons x l ih =>
      by_cases c : p x = true
      · rw [List.filterMap_cons_some (b := k x) (by simp [c]), List.filter_cons_of_pos c, List.map_cons]
        have := fun a b c => ih a b c
        congr 1
        clear hi hs hz this ih c
        induction l with
        | nil => rfl
        | cons y l ih =>
          by_cases c : p y = true
          · rw [List.filterMap_cons_some (b := k y) (by simp [c]), List.filter_cons_of_pos c, List.map_cons, ih]
          · rw [List.filterMap_cons_none (by simp [c]), List.filter_cons_of_neg c, ih]
      · rw [List.filterMap_cons_none (by simp [c]), List.filter_cons_of_neg c]
        clear hi hs hz ih c
        induction l with
        | nil => rfl
        | cons y l ih =>
          by_cases c : p y = true
          · rw [List.filterMap_cons_some (b := k y) (by simp [c]), List.filter_cons_of_pos c, List.map_cons, ih]
          · rw [List.filterMap_cons_none (by simp [c]), List.filter_cons_of_neg c, ih]
  · obtain ⟨ρ2, h1, h2, h3⟩ := hs x hx
    refine ⟨ρ2, h1, ?_⟩
    by_cases c : p x = true
    · simp only [if_pos c]
      exact ⟨c ▸ h2, h3 c⟩
    · simp only [if_neg c]
      rw [h2]
      cases e : p x
      · rfl
      · exact absurd e c

theorem F_abs {K : Ck} : OpAF K rAbs (o1A oAbs) := opAF_of od_abs (o1A_of fun _ _ _ h q => abs_of h q)
theorem F_ge {K : Ck} : OpF K (rB K gGe) oGe := opF_of opd_rB fun _ _ _ _ h q => cmp_of h q
theorem F_pow {K : Ck} : OpF K (rB K gPow) oPow := opF_of opd_rB fun _ _ _ _ h q => pow_of h q
theorem F_sub {K : Ck} : OpF K (rB K gSub) oSub := opF_of opd_rB fun _ _ _ _ h q => sub_of h q
def tBegL1 (K : PySem.W.Frag) : TE := tLc (iSeq K (tVar 0)) (gName 2) tYes (tCB rAbs (tCons (tVar 2) tNil)) [2]
def fBegL1 : EF := fLc (iaSeq (fVar 0)) (agName 2) fYes (fCB (o1A oAbs) (aCons (fVar 2) aNil)) [2]
theorem sm_begL1 {K : Ck} {W : WX} : Sm K W (tBegL1 K) fBegL1 := sm_lc (smi_seq (sm_var 0)) (smg_name 2) smt_yes (sm_cb F_abs (sma_cons (sm_var 2) sma_nil)) (by decide)
def tBegL2 (K : Ck) : TE := tLc (iSeq K (tVar 1)) (gName 2) (tTest (tOp (rB K gGe) (tVar 2) (tOp (rB K gPow) (tC (.int 10)) (tC (.int 18))))) (tOp (rB K gSub) (tVar 2) (tOp (rB K gPow) (tC (.int 10)) (tC (.int 18)))) [2]
noncomputable def fBegL2 : EF := fBor 1 (fLc (iaSeq (fVar 1)) (agName 2) (fTest (fOp oGe (fVar 2) (fOp oPow (fC (.int 10)) (fC (.int 18))))) (fOp oSub (fVar 2) (fOp oPow (fC (.int 10)) (fC (.int 18)))) [2])
theorem sm_begL2 {K : Ck} {W : WX} : Sm K W (tBegL2 K) fBegL2 := sm_bor 1 (sm_lc (smi_seq (sm_var 1)) (smg_name 2) (smt_test (sm_op F_ge (sm_var 2) (sm_op F_pow sm_int sm_int))) (sm_op F_sub (sm_var 2) (sm_op F_pow sm_int sm_int)) (by decide))
def tBegun (K : Ck) : TS := tSeq (tAsg (tBegL1 K) (gName 1)) (tRet (tDisp [(tC (.str "large"), tBegL2 K), (tC (.str "cells"), tVar 1), (tC (.str "rest"), tC (.int 0)), (tC (.str "turn"), tC (.int 0))]))
def absI (i : Int) : Int := if i < 0 then -i else i
def bigs (ns : List Int) : List Int := ns.filterMap fun i => if i ≥ 10 ^ 18 then some (i - 10 ^ 18) else none
theorem begL1 (ns : List Int) (a b : SD) (hn : ns.length ≤ 63) (g : Gs) : fBegL1 [.d (.list (ns.map .int)), a, b] g = .ok (.nl ((ns.map absI).map .int)) g := by
  unfold fBegL1
  rw [fLc_map ns .int (fun i => .int (absI i)) rfl (fun x hx => ⟨_, rfl, rfl, rfl⟩) (by rw [sizeLine_eq]; omega), List.map_map]
  rfl
theorem oPow18 : oPow (.int 10) (.int 18) = some (.d (.int (10 ^ 18))) := by
  have p : (0 : Int) ≤ 18 ∧ ((Builtin.Int.intBits 10 : Nat) : Int) * 18 ≤ 2 ^ 27 := by decide +kernel
  unfold oPow
  simp only [if_pos p]
  rfl
theorem noLA_ints (ms : List Int) : noLA (ms.map PyData.int) = true := by
  induction ms with
  | nil => rfl
  | cons m ms ih => simp only [List.map_cons, noLA, noL, ih, Bool.and_self]
theorem begL2 (ns : List Int) (x b : SD) (hn : ns.length ≤ 63) (g : Gs) : fBegL2 [x, .own (ns.map .int), b] g = .ok (.nl ((bigs ns).map .int)) g := by
  unfold fBegL2 fBor
  show grd _ = _
  rw [fLc_eq ns .int (fun i => if i ≥ 10 ^ 18 then some (.int (i - 10 ^ 18)) else none) rfl (fun i hi => ⟨_, rfl, ?_⟩) (by rw [sizeLine_eq]; omega)]
  · have e : (ns.filterMap fun i => if i ≥ 10 ^ 18 then some (PyData.int (i - 10 ^ 18)) else none) = (bigs ns).map PyData.int := by
      unfold bigs
      rw [List.map_filterMap]
      congr 1
      funext i
      by_cases c : i ≥ 10 ^ 18
      · simp only [if_pos c, Option.map_some]
      · simp only [if_neg c, Option.map_none]
    rw [e]
    unfold grd
    simp only [plainRV, noLA_ints, if_true]
  · have t : fTest (fOp oGe (fVar 2) (fOp oPow (fC (.int 10)) (fC (.int 18)))) [x, .d (.list (ns.map .int)), .d (.int i)] g = .ok (decide (i ≥ 10 ^ 18)) g := by
      unfold fTest fOp fDat
      simp only [fVar, fC, List.getElem?_cons_succ, List.getElem?_cons_zero, rdSD_d, R.bind_ok, asDR_d, oPow18, R.ofO_some]
      rfl
    have t2 : fDat (fOp oSub (fVar 2) (fOp oPow (fC (.int 10)) (fC (.int 18)))) [x, .d (.list (ns.map .int)), .d (.int i)] g = .ok (.int (i - 10 ^ 18)) g := by
      unfold fOp fDat
      simp only [fVar, fC, List.getElem?_cons_succ, List.getElem?_cons_zero, rdSD_d, R.bind_ok, asDR_d, oPow18, R.ofO_some]
      rfl
    by_cases c : i ≥ 10 ^ 18
    · simp only [if_pos c]
      exact ⟨t.trans (by rw [decide_eq_true c]), t2⟩
    · simp only [if_neg c]
      exact t.trans (by rw [decide_eq_false c])
theorem merge_stv {l c : Addr} {r t : Int} : mergeK [] (stv l c r t) = stv l c r t := by
  show putK (putK (putK (putK [] (.inr "large" : Key) (.ref l)) (.inr "cells") (.ref c)) (.inr "rest") (.int r)) (.inr "turn") (.int t) = _
  rw [putK_new (kvs := []) _ rfl, List.nil_append, putK_new (kvs := [((.inr "large" : Key), V.ref l)]) _ ((valV_neg (ks_ne n_lc)).trans rfl), List.cons_append, List.nil_append, putK_new _ ((valV_neg (ks_ne n_lr)).trans ((valV_neg (ks_ne n_cr)).trans rfl)), List.cons_append, List.cons_append, List.nil_append, putK_new _ ((valV_neg (ks_ne n_lt)).trans ((valV_neg (ks_ne n_ct)).trans ((valV_neg (ks_ne n_rt)).trans rfl)))]
  rfl
def spBegun (K : Ck) : Sp := fun vs H Q _ => ∃ (a : Addr) (ns : List Int), vs = [.ref a] ∧ SqLx K H a (ns.map V.int) ∧ ns.length ≤ 63 ∧
  ∀ (H' : Hp) (d l c : Addr) (ls cs : List Int), (∀ b o, H b = some o → H' b = some o) → H d = none → H l = none → H c = none → LawAt d l c ls cs 0 0 H' → (∀ x ∈ ls, 0 ≤ x) → Q (.ref d) H'
theorem ints_back {K : Ck} {F : Hp} : ∀ {ns : List Int} {vs : List V}, RpA K F vs (ns.map .int) → vs = ns.map V.int
  | [], _, h => by cases h; rfl
  | n :: ns, _, h => by
    cases h with
    | cons r t => cases r; rw [ints_back t]; rfl
theorem begun_reads {n1 n2 n3 : Str} {K : Ck} {vs : List V} {H : Hp} {Q : VK} {E : XK} (h : spBegun K vs H Q E) : tBegun K { nx := fun _ H' => Q .non H', rt := Q } (L2.start [n1, n2, n3] vs) H := by
  obtain ⟨a, ns, rfl, hr, hn, k⟩ := h
  have hrd : SqLx K (only H a a) a (ns.map V.int) := by
    rcases hr with (hr | ⟨o, hr⟩) | hr
    · exact .inl (.inl (by unfold only; rw [if_pos (.inl rfl)]; exact hr))
    · exact .inl (.inr ⟨o, by unfold only; rw [if_pos (.inl rfl)]; exact hr⟩)
    · exact .inr hr
  have E0 : EnvOk K (staOf (none, [])) H (only H a a) (only H a a) H [.d (.list (ns.map .int)), .u, .u] (L2.start [n1, n2, n3] [.ref a]) ⟨none, [], [], 0, 0, false⟩ :=
    ⟨⟨_, rfl, fun z => (z rfl).elim⟩, tb_none, only_sub _ _ _, Le.refl _, fun _ _ => rfl, fun _ _ h _ => h, fun _ h => (noM h).elim, ⟨rfl, (fun p hp => by cases hp), fun z => by cases z⟩, rfl, fun i s hs => by
      match i, hs with
      | 0, hs => cases hs; exact ⟨_, rfl, _, rfl, .lst hrd (rpa_ints ns)⟩
      | 1, hs => cases hs; exact ⟨_, rfl, trivial⟩
      | 2, hs => cases hs; exact ⟨_, rfl, trivial⟩
      | i + 3, hs => simp at hs, fun i l s t h1 h2 o1 o2 _ => by
      match i, h1 with
      | 0, h1 => cases h1; cases o1
      | 1, h1 => cases h1; cases o1
      | 2, h1 => cases h1; cases o1
      | i + 3, h1 => simp at h1⟩
  refine sms_set (W := W0) 1 sm_begL1 _ H _ _ H _ _ _ _ E0 ?_
  unfold fSet
  rw [begL1 ns _ _ hn]
  intro σ1 F1 H1 E1
  have E1 : EnvOk K (staOf (none, [])) H (only H a a) F1 H1 [.d (.list (ns.map .int)), .own ((ns.map absI).map .int), .u] σ1 ⟨none, [], [], 0, 0, false⟩ := E1
  obtain ⟨v1, s1, c, rfl, c1, _, c3, vs1, c4, c5⟩ := E1.sl 1 _ rfl
  have := ints_back c5
  subst this
  intro p hp
  have n := Ext.own (S := staOf (none, [])) (o := .dK []) E1.sub hp
  have j1 : (staOf (none, [])).J ⟨none, [], [], 0, 0, false⟩ (upd H1 p (.dK [])) := J.new E1.j hp
  have E2 := E1.ext n j1
  have key : ∀ (Q2 : VK), (∀ v H3, (∃ (l : Addr) (ls : List Int), v = V.ref l ∧ H l = none ∧ l ≠ p ∧ l ≠ c ∧ H3 l = some (.lst (ls.map V.int)) ∧ (∀ x ∈ ls, (0 : Int) ≤ x) ∧ H3 p = some (.dK []) ∧ H3 c = some (.lst ((ns.map absI).map V.int)) ∧ ∀ b o, H b = some o → H3 b = some o) → Q2 v H3) → tBegL2 K σ1 (upd H1 p (.dK [])) Q2 := by
    intro Q2 k2
    refine sm_begL2 (W := W0) _ H _ _ _ _ _ _ (fun r _ => r = .nl ((bigs (ns.map absI)).map .int)) NoX _ E2 (by rw [begL2 (ns.map absI) _ _ (by rw [List.length_map]; exact hn)]; rfl) (fun r g' v F3 H3 hr e j rv => ?_) (fun _ _ _ _ _ _ z _ _ _ => z.elim)
    subst hr
    obtain ⟨l, vs, rfl, l1, _, l3, l4, l5⟩ := rv
    have := ints_back l5
    subst this
    have hpp : H3 p = some (.dK []) := e.keep p _ upd_same noM
    have hcc : H3 c = some (.lst ((ns.map absI).map V.int)) := e.keep c _ (by rw [upd_ne (ne_of_none c4 hp)]; exact c4) noM
    have keep : ∀ b o, H b = some o → H3 b = some o := fun b o hb => e.keep b o (n.keep b o (E1.keep b o hb noM) noM) noM
    refine k2 _ _ ⟨l, bigs (ns.map absI), rfl, ?_, ?_, ?_, l4, ?_, hpp, hcc, keep⟩
    · cases q : H l with
      | none => rfl
      | some o => have := n.keep l o (E1.keep l o q noM) noM; rw [l1] at this; cases this
    · intro z; rw [z, upd_same] at l1; cases l1
    · intro z; rw [z, upd_ne (ne_of_none c4 hp), c4] at l1; cases l1
    · intro x hx
      unfold bigs at hx
      obtain ⟨y, _, hy⟩ := List.mem_filterMap.mp hx
      by_cases c : y ≥ 10 ^ 18
      · rw [if_pos c] at hy; cases hy; omega
      · rw [if_neg c] at hy; cases hy
  simp only [tPairs, tC]
  refine key _ fun v H3 ⟨l, ls, hv, l0, lp, lc, hl, hx, hpp, hcc, keep⟩ => ?_
  subst hv
  refine ⟨_, s1, ?_⟩
  refine ⟨hpp, stv l c 0 0, rfl, by show 4 ≤ 15; decide, ?_⟩
  rw [merge_stv]
  have hpn : H p = none := by
    cases q : H p with
    | none => rfl
    | some o => have := E1.keep p o q noM; rw [hp] at this; cases this
  have hcp : c ≠ p := ne_of_none c4 hp
  exact k _ p l c ls (ns.map absI) (fun b o hb => by rw [upd_ne (fun z => by rw [z, hpn] at hb; cases hb)]; exact keep b o hb) hpn l0 c1 ⟨Ne.symm lp, Ne.symm hcp, lc, upd_same, by rw [upd_ne lp]; exact hl, by rw [upd_ne hcp]; exact hcc⟩ hx
def TbOn (T : List (Addr × Str)) (H : Hp) : Prop := ∀ p ∈ T, H p.1 = some (.tbl #[])
def spLawT (K : Ck) (T : List (Addr × Str)) : Sp := fun vs H Q E => ∃ (a : Addr) (ns : List Int), vs = [.ref a] ∧ SqLx K H a (ns.map V.int) ∧ ns.length ≤ 63 ∧ (T ≠ [] ∧ TbOn T H) ∧ ∀ H', Q (.bl true) H'
def spLaw (K : Ck) : Sp := spLawT K (lamT K)
/-- n draws may still be made -/
structure GOk (g : Gs) (n : Nat) : Prop where
  r0 : 0 ≤ g.rest
  l0 : ∀ x ∈ g.ls, 0 ≤ x
  t0 : 0 ≤ g.turn
  tn : g.turn + n ≤ 2 ^ 40
  q0 : g.q ≠ none
  tt : g.tt = true
theorem GOk.le {g : Gs} {n m : Nat} (h : GOk g n) (e : m ≤ n) : GOk g m := ⟨h.r0, h.l0, h.t0, by have := h.tn; omega, h.q0, h.tt⟩
/-- the law's slots behind its first statement -/
def lawSlots (m : Nat) (ns : List Int) (d : Addr) : List SD := .d (.list (ns.map .int)) :: .o (.ref d) :: List.replicate m .u
/-- the law's body behind its first statement is right -/
def LawRight (m : Nat) (b : EFs) : Prop := ∀ (ns : List Int) (d l c : Addr) (g : Gs), ns.length ≤ 63 → g.q = some (d, l, c) → GOk g (2 ^ 39) → ∃ g', b (lawSlots m ns d) g = .ok (.rt (.d (.bool true))) g'
theorem law_reads {K : Ck} {n0 n1 : Str} {Ns : List Str} {u : TS} {b : EFs} {E0 : XK} (hu : SmS K (WB E0) u b) (right : LawRight Ns.length b)
    {vs : List V} {H : Hp} {Q : VK} {E : XK} (h : spLaw K vs H Q E) : tSeq (tAsg (tCallSD (spBegun K) [] (WE (WB E0)) (tCons (tVar 0) tNil)) (gName 1)) u { nx := fun _ H' => Q .non H', rt := Q } (L2.start (n0 :: n1 :: Ns) vs) H := by
  obtain ⟨a, ns, rfl, hr, hn, ⟨hne, hT⟩, k⟩ := h
  have hTT : ∃ T, T = lamT K := ⟨_, rfl⟩
  obtain ⟨T, hTT⟩ := hTT
  rw [← hTT] at hne hT
  have es : L2.start (n0 :: n1 :: Ns) [.ref a] = some (.ref a) :: none :: List.replicate Ns.length none := by
    simp [L2.start, List.replicate_succ]
  rw [es]
  refine ⟨.ref a, rfl, a, ns, rfl, hr, hn, fun H' d l c ls cs keep hd hl hc L pos => ?_⟩
  have hF : ∃ F, Sub F H' ∧ (∀ x, ((x = d ∨ x = l ∨ x = c) ∨ ∃ s, (x, s) ∈ T) → F x = none) ∧ SqLx K F a (ns.map V.int) := by
    rcases hr with hr | hr
    · have ha : ∃ o, H a = some o ∧ Rd (only H' a a) a (.lst (ns.map V.int)) := by
        rcases hr with h | ⟨o, h⟩
        · exact ⟨_, h, .inl (by unfold only; rw [if_pos (.inl rfl)]; exact keep _ _ h)⟩
        · exact ⟨_, h, .inr ⟨o, by unfold only; rw [if_pos (.inl rfl)]; exact keep _ _ h⟩⟩
      obtain ⟨o, h0, h1⟩ := ha
      refine ⟨only H' a a, only_sub _ _ _, fun x hx => ?_, .inl h1⟩
      have : ¬ (x = a ∨ x = a) := by
        intro z
        have z : x = a := z.elim id id
        subst z
        rcases hx with (rfl | rfl | rfl) | ⟨s, hs⟩
        · rw [h0] at hd; cases hd
        · rw [h0] at hl; cases hl
        · rw [h0] at hc; cases hc
        · have ht := hT _ hs
          rw [h0] at ht
          cases ht
          rcases h1 with h1 | ⟨o, h1⟩ <;> (unfold only at h1; rw [if_pos (.inl rfl)] at h1; rw [keep _ _ h0] at h1; cases h1)
      unfold only
      rw [if_neg this]
    · exact ⟨fun _ => none, (fun x o e => by cases e), fun _ _ => rfl, .inr hr⟩
  obtain ⟨F, sub, mF, hS⟩ := hF
  obtain ⟨g', hb⟩ := right ns d l c ⟨some (d, l, c), ls, cs, 0, 0, true⟩ hn rfl ⟨Int.le_refl _, pos, Int.le_refl _, by show (0 : Int) + ((2 ^ 39 : Nat) : Int) ≤ 2 ^ 40; decide, (fun z => by cases z), rfl⟩
  refine hu (staOf (some (d, l, c), T)) H' F F H' (lawSlots Ns.length ns d) _ ⟨some (d, l, c), ls, cs, 0, 0, true⟩ _ ?_ ?_
  · refine ⟨⟨_, rfl, fun _ => hTT⟩, fun p hp => ⟨#[], keep _ _ (hT p hp), trivial, fun pos cv hc => by simp [codeAmong] at hc⟩, sub, Le.refl _, fun _ _ => rfl, fun _ _ h _ => h, mF, ⟨⟨rfl, L⟩, fun p hp => (by rw [keep _ _ (hT p hp)]; exact fun z => by cases z), fun _ => hne⟩, by simp [lawSlots], fun i s hs => ?_, fun i j s t h1 h2 o1 o2 _ => ?_⟩
    · match i, hs with
      | 0, hs => cases hs; exact ⟨_, rfl, _, rfl, .lst hS (rpa_ints ns)⟩
      | 1, hs => cases hs; exact ⟨_, rfl, rfl⟩
      | i + 2, hs =>
        have hs : (List.replicate Ns.length SD.u)[i]? = some s := hs
        rw [List.getElem?_replicate] at hs
        split at hs
        · rename_i hlt
          cases hs
          exact ⟨none, (by show (List.replicate Ns.length (none : Option V))[i]? = some none; rw [List.getElem?_replicate, if_pos hlt]), trivial⟩
        · cases hs
    · exfalso
      match i, h1 with
      | 0, h1 => cases h1; cases o1
      | 1, h1 => cases h1; cases o1
      | i + 2, h1 =>
        have h1 : (List.replicate Ns.length SD.u)[i]? = some s := h1
        rw [List.getElem?_replicate] at h1
        split at h1
        · cases h1; cases o1
        · cases h1
  · rw [hb]
    intro v F' H2 R
    have rv : Rp K F' v (.bool true) := R.rv
    cases rv
    exact k H2
end Fx

namespace Fx
open PySem L2

section
variable (K : Ck) (W : WX)
def tE (f : EF) : TE := fun σ H Q => ∃ (S : Sta) (B F0 F : Hp) (ρ : List SD) (g : Gs) (Xd : PyData → Gs → Prop), EnvOk K S B F0 F H ρ σ g ∧ (f ρ g).wp (fun r g' => ∀ v F' H', Ext S F H F' H' → S.J g' H' → RepRV K S H F' H' v r → Q v H') Xd ∧ XOk K W S F H σ Xd
def tT (f : EFt) : TT := fun σ H Q => ∃ (S : Sta) (B F0 F : Hp) (ρ : List SD) (g : Gs) (Xd : PyData → Gs → Prop), EnvOk K S B F0 F H ρ σ g ∧ (f ρ g).wp (fun r g' => ∀ F' H', Ext S F H F' H' → S.J g' H' → Q r H') Xd ∧ XOk K W S F H σ Xd
def tAf (f : EFa) : TA := fun σ H Q => ∃ (S : Sta) (B F0 F : Hp) (ρ : List SD) (g : Gs) (Xd : PyData → Gs → Prop), EnvOk K S B F0 F H ρ σ g ∧ (f ρ g).wp (fun as g' => ∀ vs F' H', Ext S F H F' H' → S.J g' H' → RepAVs K F' vs as → Q vs H') Xd ∧ XOk K W S F H σ Xd
def tI (w : Bool) (f : EFi) : TI := fun σ H Rr => ∃ (S : Sta) (B F0 F : Hp) (ρ : List SD) (g : Gs) (Xd : PyData → Gs → Prop), EnvOk K S B F0 F H ρ σ g ∧ (f ρ g).wp (fun ds g' => ∀ F' H' J, Ext S F H F' H' → S.J g' H' → ItOk w K S F' J ds → Rr J H') Xd ∧ XOk K W S F H σ Xd
def tOf (f : EFo) : TO := fun σ H Q => ∃ (S : Sta) (B F0 F : Hp) (ρ : List SD) (g : Gs) (Xd : PyData → Gs → Prop), EnvOk K S B F0 F H ρ σ g ∧ (f ρ g).wp (fun r g' => ∀ F' H', Ext S F H F' H' → S.J g' H' → Q r H') Xd ∧ XOk K W S F H σ Xd
def tSf (f : EFs) : TS := fun D σ H => ∃ (S : Sta) (B F0 F : Hp) (ρ : List SD) (g : Gs), EnvOk K S B F0 F H ρ σ g ∧ (f ρ g).wp (EndOk K W S B F0 D) NoX
end
section
variable {K : Ck} {W : WX}
theorem sm_s {f : EF} : Sm K W (tE K W f) f := fun S B F0 F H ρ σ g Pd Xd Q E h k kx => ⟨S, B, F0, F, ρ, g, Xd, E, R.wp_imp h (fun r g' q v F' H' a b c => k r g' v F' H' q a b c) fun _ _ z => z, kx⟩
theorem smt_s {f : EFt} : SmT K W (tT K W f) f := fun S B F0 F H ρ σ g Pd Xd Q E h k kx => ⟨S, B, F0, F, ρ, g, Xd, E, R.wp_imp h (fun r g' q F' H' a b => k r g' F' H' q a b) fun _ _ z => z, kx⟩
theorem sma_s {f : EFa} : SmA K W (tAf K W f) f := fun S B F0 F H ρ σ g Pd Xd Q E h k kx => ⟨S, B, F0, F, ρ, g, Xd, E, R.wp_imp h (fun r g' q v F' H' a b c => k r g' v F' H' q a b c) fun _ _ z => z, kx⟩
theorem smi_s {w : Bool} {f : EFi} : SmI w K W (tI K W w f) f := fun S B F0 F H ρ σ g Pd Xd Q E h k kx => ⟨S, B, F0, F, ρ, g, Xd, E, R.wp_imp h (fun r g' q F' H' J a b c => k r g' F' H' J q a b c) fun _ _ z => z, kx⟩
theorem smo_s {f : EFo} : SmO K W (tOf K W f) f := fun S B F0 F H ρ σ g Pd Xd Q E h k kx => ⟨S, B, F0, F, ρ, g, Xd, E, R.wp_imp h (fun r g' q F' H' a b => k r g' F' H' q a b) fun _ _ z => z, kx⟩
theorem sms_s {f : EFs} : SmS K W (tSf K W f) f := fun S B F0 F H ρ σ g D E h => ⟨S, B, F0, F, ρ, g, E, h⟩
end
section
variable {X : Cx} {C : Ck} {W : WX}
theorem xe {e : Expr} {t : TE} {f : EF} (h : PE X e t) (s : Sm C W t f) : PE X e (tE C W f) :=
  ⟨fun pins s' σ H Q I ⟨S, B, F0, F, ρ, g, Xd, E, hw, kx⟩ => h.run pins s' σ H Q I (s S B F0 F H ρ σ g _ Xd Q E hw (fun r g' v F' H' q a b c => q v F' H' a b c) kx)⟩
theorem xt {e : Expr} {t : TT} {f : EFt} (h : PT X e t) (s : SmT C W t f) : PT X e (tT C W f) :=
  ⟨fun pins s' σ H Q I ⟨S, B, F0, F, ρ, g, Xd, E, hw, kx⟩ => h.run pins s' σ H Q I (s S B F0 F H ρ σ g _ Xd Q E hw (fun r g' F' H' q a b => q F' H' a b) kx)⟩
theorem xts {es : List Expr} {t : TT} {f : EFt} (h : PTs X es t) (s : SmT C W t f) : PTs X es (tT C W f) :=
  ⟨fun pins s' σ H Q I ⟨S, B, F0, F, ρ, g, Xd, E, hw, kx⟩ => h.run pins s' σ H Q I (s S B F0 F H ρ σ g _ Xd Q E hw (fun r g' F' H' q a b => q F' H' a b) kx)⟩
theorem xa {es : List Expr} {t : TA} {f : EFa} (h : PA X es t) (s : SmA C W t f) : PA X es (tAf C W f) :=
  ⟨fun pos pins s' σ H Q I ⟨S, B, F0, F, ρ, g, Xd, E, hw, kx⟩ => h.run pos pins s' σ H Q I (s S B F0 F H ρ σ g _ Xd Q E hw (fun r g' v F' H' q a b c => q v F' H' a b c) kx)⟩
theorem xk {es : List Keyword} {t : TA} {f : EFa} (h : PK X es t) (s : SmA C W t f) : PK X es (tAf C W f) :=
  ⟨fun pos pins s' σ H Q I ⟨S, B, F0, F, ρ, g, Xd, E, hw, kx⟩ => h.run pos pins s' σ H Q I (s S B F0 F H ρ σ g _ Xd Q E hw (fun r g' v F' H' q a b c => q v F' H' a b c) kx)⟩
theorem xi {w : Bool} {tg e : Expr} {t : TI} {f : EFi} (h : PI X tg e t) (s : SmI w C W t f) : PI X tg e (tI C W w f) :=
  ⟨fun pins s' σ H Q I ⟨S, B, F0, F, ρ, g, Xd, E, hw, kx⟩ => h.run pins s' σ H Q I (s S B F0 F H ρ σ g _ Xd Q E hw (fun r g' F' H' J q a b c => q F' H' J a b c) kx)⟩
theorem xs {st : Stmt} {t : TS} {f : EFs} (h : PS X st t) (s : SmS C W t f) : PS X st (tSf C W f) :=
  ⟨fun pins s' σ H D I ⟨S, B, F0, F, ρ, g, E, hw⟩ => h.run pins s' σ H D I (s S B F0 F H ρ σ g D E hw)⟩
theorem xss {st : List Stmt} {t : TS} {f : EFs} (h : PSs X st t) (s : SmS C W t f) : PSs X st (tSf C W f) :=
  ⟨fun pins s' σ H D I ⟨S, B, F0, F, ρ, g, E, hw⟩ => h.run pins s' σ H D I (s S B F0 F H ρ σ g D E hw)⟩
end
section
variable {K : Ck}
theorem F_add : OpF K (rB K gAdd) oAdd := opF_of opd_rB fun _ _ _ _ h q => add_of h q
theorem F_mul : OpF K (rB K gMul) oMul := opF_of opd_rB fun _ _ _ _ h q => mul_of h q
theorem F_mod : OpF K (rB K gMod) oMod := opF_of opd_rB fun _ _ _ _ h q => mod_of h q
theorem F_div : OpF K (rB K gDiv) oDiv := opF_of opd_rB fun _ _ _ _ h q => div_of h q
theorem F_neg : Op1F K (rN K gNeg) oNeg := op1F_of opd_rN fun _ _ _ h q => neg_of h q
theorem F_eq : OpF K (rB K gEq) oEq := opF_of opd_rB fun _ _ _ _ h q => eq_of h q
theorem F_ne : OpF K (rB K gNe) oNe := opF_of opd_rB fun _ _ _ _ h q => ne_of' h q
theorem F_lt : OpF K (rB K gLt) oLt := opF_of opd_rB fun _ _ _ _ h q => lt_of h q
theorem F_le : OpF K (rB K gLe) oLe := opF_of opd_rB fun _ _ _ _ h q => cmp_of h q
theorem F_gt : OpF K (rB K gGt) oGt := opF_of opd_rB fun _ _ _ _ h q => cmp_of h q
theorem F_in : OpF K (rB K (gIn false)) (oIn false) := opF_of opd_rB fun _ _ _ _ h q => in_of h q
theorem F_notIn : OpF K (rB K (gIn true)) (oIn true) := opF_of opd_rB fun _ _ _ _ h q => in_of h q
theorem F_ix : OpF K (rB K gIx) oIx := opF_of opd_rB fun _ _ _ _ h q => ix_of h q
theorem F_len : OpAF K (rLenD K) (o1A oLen) := opAF_of od_len (o1A_of fun _ _ _ h q => len_of h q)
theorem F_int : OpAF K rInt (o1A oInt) := opAF_of od_int (o1A_of fun _ _ _ h q => int_of h q)
theorem F_list : OpAF K (rList K) (o1A oList) := opAF_of od_list (o1A_of fun _ _ _ h q => list_of h q)
theorem F_tuple : OpAF K (rTuple K) (o1A oTuple) := opAF_of od_tuple (o1A_of fun _ _ _ h q => tuple_of h q)
theorem F_all : OpAF K (rAll K) (o1A oAll) := opAF_of od_all (o1A_of fun _ _ _ h q => all_of h q)
theorem F_min2 : OpAF K rMin2 (o2A oMin2) := opAF_of od_min2 (o2A_of fun _ _ _ _ h q => min2_of h q)
theorem F_sorted : OpAF K (rA K (g1 gSorted)) (o1A oSorted) := opAF_of opd_rA (o1A_of fun _ _ _ h q => sorted_of h q)
theorem F_dict : OpAF K (rA K (g1 gDict)) (o1A oDict) := opAF_of opd_rA (o1A_of fun _ _ _ h q => dict_of h q)
end
section
variable {X : Cx}
theorem mt_getF (hu : X.A.units + 1 < cLine) : MtR X "dict.get" (rM (Cx.ck X) (GMof oGet)) := fun pins s σ H x xs v us Q I rx rv ⟨S, F, dx, as, Qd, a, b, c, ⟨r, h, q⟩, p⟩ => mt_getP hu pins s σ H x xs v us Q I rx rv ⟨S, F, dx, as, Qd, a, b, c, get_of h q, p⟩
theorem mt_joinF : MtR X "str.join" (rM (Cx.ck X) (GMof oJoin)) := fun pins s σ H x xs v us Q I rx rv ⟨S, F, dx, as, Qd, a, b, c, ⟨r, h, q⟩, p⟩ => mt_joinP pins s σ H x xs v us Q I rx rv ⟨S, F, dx, as, Qd, a, b, c, join_of h q, p⟩
end
theorem huN {A : Around} {k n : Nat} (hr : Room k A) (h : n ≤ 200) : A.units + n < cLine := by
  have := hr.un
  omega
/-- a def of the top -/
structure DefAt (K : PySem.W.Frag) (mg : Str → Option Value) (name : Str) (st : Stmt) (ps : List Str) (f : Addr) (fd : FuncData) : Prop where
  F : Fun K name name st f fd
  g : mg name = some (.ref f)
  b : Binds K fd ps []
end Fx

namespace Fx
open PySem L2 PySem.Spec PyProof.Rows
structure FnG (P : Program) (w : World) (K : PySem.W.Frag) (mg : Str → Option Value) (bs : Heap) (k : Nat) (f : Addr) (fd : FuncData) (ps : List Str) (sp : Sp) : Prop where
  ln : ∀ vs H Q E, sp vs H Q E → vs.length = ps.length
  go : ∀ (A : Around) (fr : List Env) (s : Shared) (H : Hp) (args : Args) (us : List Value) (vs : List V) (Q : VK) (E : XK), A.guards = some [] → Room k A → Env0 P w K mg bs A fr s H → BindsTo s fd args (ps.zip us) → Vals vs us → sp vs H Q E →
    codeAny (model P w) A (.call (.ref f) args) (CR (L2.CX P w) fr P w H s Q E) s
theorem FnG.up {P : Program} {w : World} {K : PySem.W.Frag} {mg : Str → Option Value} {bs : Heap} {j k : Nat} {f : Addr} {fd : FuncData} {ps : List Str} {sp : Sp} (F : FnG P w K mg bs j f fd ps sp) (h : j ≤ k) : FnG P w K mg bs k f fd ps sp :=
  ⟨F.ln, fun A fr s H args us vs Q E hg hr => F.go A fr s H args us vs Q E hg (hr.mono h)⟩
theorem Fun.okGC {P : Program} {w : World} {K : PySem.W.Frag} {mg : Str → Option Value} {bs : Heap} {x qual : Str} {st : Stmt} {f : Addr} {fd : FuncData} {N ps : List Str} {k : Nat} {sp : Sp} (F : L2.Fun K x qual st f fd) (S : FnScope N ps (defScope st)) (ln : ∀ vs H Q E, sp vs H Q E → vs.length = ps.length)
    (body : ∀ (cdv : Value), fd.code = cdv → ∀ (A : Around) (fr : List Env) (s : Shared) (H : Hp) (vs : List V) (Q : VK) (E : XK), A.guards = some [] → Room k (A.deeper (envOfC qual (defScope st) s.heap.objs.size f cdv)) → sp vs H Q E →
      ∃ t, PSs (cxOf (L2.CX P w) P w K mg bs N qual (defScope st) f cdv A fr s H E) (defBody st) t ∧ t { nx := fun _ H' => Q .non H', rt := Q } (start N vs) H) : FnG P w K mg bs (k + 1) f fd ps sp := by
  obtain ⟨oc, od, kV, doc, pm, an, cdv, ct, osl, rfl, lk, hcd⟩ := F.ex
  refine ⟨ln, fun A fr s H args us vs Q E hg hr en hb r want => ?_⟩
  have inK : K.In s.heap := en.mod.kin.keeps fun b o e => (en.bs b o e).1
  have noL : s.heap.NoLimit := en.mod.nolimit.keeps fun b o e => (en.bs b o e).1
  have kinds : ∀ y ∈ ps.zip us, (defScope st).names.lookup y.1 = some .local ∨ ((defScope st).names.lookup y.1 = some .cell ∧ ((cellsFrom (s.heap.objs.size + 1) (defScope st).names []).lookup y.1).isSome = true) := fun ⟨n, v⟩ hy => by
    rcases S.par n (List.of_mem_zip hy).1 with q | q
    · exact Or.inl q
    · exact Or.inr ⟨q, PySem.W.cellsFrom_some _ _ _ (Or.inl q)⟩
  refine codeAny_call_function hr.depth (inK _ _ lk) rfl S.co S.gen rfl (PySem.W.codeRec_of inK hcd) (hb _ _ _ _ (wpAny_newFunctionEnv_cells S.kind kinds fun env he s1 x => ?_))
  subst he
  obtain ⟨t, ht, hq⟩ := body cdv rfl A fr s H vs Q E hg (hr.deeper _) want
  have I0 : Inv (cxOf (L2.CX P w) P w K mg bs N qual (defScope st) f cdv A fr s H E) [] (start N vs) H s1 := inv_start S hr.hd en (ln _ _ _ _ want) r x
  refine ⟨noL.keeps x.toInCall.keep, codeAny_func (wpAny_mono (ht.run [] s1 (start N vs) H _ I0 hq) (fun fl s' out => ?_) fun e s' out => out)⟩
  have close : ∀ {σ' : L2.St} {H' : Hp} {v : V} {u : Value}, Inv (cxOf (L2.CX P w) P w K mg bs N qual (defScope st) f cdv A fr s H E) [] σ' H' s' → RelV v u → Q v H' → CE fr P w H s Q u s' :=
    fun {σ' H' v u} J rv q => ⟨v, H', J.os, J.bare, J.base, J.hok, rv, q⟩
  match fl, out with
  | .ret u, ⟨v, σ', H', J, rv, q⟩ => exact close J rv q
  | .next, ⟨σ', H', J, q⟩ => exact close (v := V.non) (u := Value.none) J rfl q
  | .brk, ⟨_, _, _, q⟩ => exact q.elim
  | .cont, ⟨_, _, _, q⟩ => exact q.elim
theorem Fun.okG {P : Program} {w : World} {K : PySem.W.Frag} {mg : Str → Option Value} {bs : Heap} {x qual : Str} {st : Stmt} {f : Addr} {fd : FuncData} {N ps : List Str} {k : Nat} {sp : Sp} (F : L2.Fun K x qual st f fd) (S : FnScope N ps (defScope st)) (ln : ∀ vs H Q E, sp vs H Q E → vs.length = ps.length)
    (body : ∀ (cdv : Value) (A : Around) (fr : List Env) (s : Shared) (H : Hp) (vs : List V) (Q : VK) (E : XK), A.guards = some [] → Room k (A.deeper (envOfC qual (defScope st) s.heap.objs.size f cdv)) → sp vs H Q E →
      ∃ t, PSs (cxOf (L2.CX P w) P w K mg bs N qual (defScope st) f cdv A fr s H E) (defBody st) t ∧ t { nx := fun _ H' => Q .non H', rt := Q } (start N vs) H) : FnG P w K mg bs (k + 1) f fd ps sp :=
  Fun.okGC F S ln fun cdv _ => body cdv
theorem xo {X : Cx} {C : Ck} {W : WX} {o : Option Expr} {t : TO} {f : EFo} (h : PO X o t) (s : SmO C W t f) : PO X o (tOf C W f) :=
  ⟨fun pins s' σ H Q I ⟨S, B, F0, F, ρ, g, Xd, E, hw, kx⟩ => h.run pins s' σ H Q I (s S B F0 F H ρ σ g _ Xd Q E hw (fun r g' F' H' q a b => q F' H' a b) kx)⟩
/-- the positional values and the keywords' ones, in the parameters' order -/
def perm (n m : Nat) (ix : List Nat) {α : Type} (us ws : List α) : List α := if us.length = n ∧ ws.length = m then ix.filterMap fun i => (us ++ ws)[i]? else []
theorem perm_rel {n m : Nat} {ix : List Nat} {vs : List V} {us : List Value} {zs : List V} {ws : List Value} (r1 : Vals vs us) (r2 : Vals zs ws) : Vals (perm n m ix vs zs) (perm n m ix us ws) := by
  unfold perm
  rw [r1.length, r2.length]
  split
  · have r := r1.append r2
    induction ix with
    | nil => exact .nil
    | cons i ix ih =>
      cases e : (vs ++ zs)[i]? with
      | none => rw [List.filterMap_cons_none e, List.filterMap_cons_none (r.none_of e)]; exact ih
      | some v =>
        obtain ⟨u, h1, h2⟩ := r.get e
        rw [List.filterMap_cons_some e, List.filterMap_cons_some h1]
        exact .cons h2 ih
  · exact .nil
theorem perm_av {K : Ck} {F : Hp} {n m : Nat} {ix : List Nat} {vs zs : List V} {as bs : List AV} (r1 : RepAVs K F vs as) (r2 : RepAVs K F zs bs) : RepAVs K F (perm n m ix vs zs) (perm n m ix as bs) := by
  have app : ∀ {vs : List V} {as : List AV}, RepAVs K F vs as → RepAVs K F (vs ++ zs) (as ++ bs) := by
    intro vs
    induction vs with
    | nil => intro as h; cases as with
      | nil => exact r2
      | cons _ _ => exact h.elim
    | cons v vs ih => intro as h; cases as with
      | nil => exact h.elim
      | cons a as => exact ⟨h.1, ih h.2⟩
  unfold perm
  rw [r1.length, r2.length]
  split
  · have r := app r1
    have hl := r.length
    induction ix with
    | nil => exact trivial
    | cons i ix ih =>
      cases e : (as ++ bs)[i]? with
      | none =>
        have e' : (vs ++ zs)[i]? = none := by
          rw [List.getElem?_eq_none_iff] at e ⊢
          omega
        rw [List.filterMap_cons_none e, List.filterMap_cons_none e']; exact ih
      | some a =>
        obtain ⟨v, h1, h2⟩ := repAVs_get r e
        rw [List.filterMap_cons_some e, List.filterMap_cons_some h1]
        exact ⟨h2, ih⟩
  · exact trivial
/-- how a def without defaults is bound by keywords -/
theorem kb_of {K : PySem.W.Frag} {x qual : Str} {st : Stmt} {f : Addr} {fd : FuncData} {ps ks : List Str} {n m : Nat} {ix : List Nat} (F : Fun K x qual st f fd) (hp : ps ≠ [])
    (h : ∀ (kV doc pm : Value) (an : Option Addr) (cdv ct : Value) (us ws : List Value), us.length = n → ws.length = m → bindArgs (PySem.W.fnOf x qual (defArgs st) (defBody st) (defScope st) .none kV doc pm an cdv ct) ⟨us, ks.zip ws⟩ = pure (ps.zip (perm n m ix us ws))) : KBinds K fd ps ks (perm n m ix) (perm n m ix) := by
  obtain ⟨oc, od, kV, doc, pm, an, cdv, ct, osl, rfl, lk, hcd⟩ := F.ex
  refine ⟨fun s us ws hK hl => ?_, perm_rel⟩
  by_cases c : us.length = n ∧ ws.length = m
  · exact .of_eq (h kV doc pm an cdv ct us ws c.1 c.2)
  · unfold perm at hl
    rw [if_neg c] at hl
    exact absurd (List.length_eq_zero_iff.mp hl.symm) hp
section
variable {X : Cx} {k : Nat} {f : Addr} {fd : FuncData} {ps ks : List Str} {sp : Sp} {E : L2.St → XK} {x : Str} {p pos : Pos} {e : Expr} {es : List Expr} {kws : List Keyword} {t tk : TA} {gg : List Value → List Value → List Value} {gV : List V → List V → List V}
def tCallKS (sp : Sp) (gV : List V → List V → List V) (E : L2.St → XK) (t tk : TA) : TE := fun σ H Q => t σ H fun vs H1 => tk σ H1 fun zs H2 => sp (gV vs zs) H2 Q (E σ)
def OutOk (X : Cx) (pins : List (Addr × Obj)) (σ : L2.St) (Q : VK) (r : Result) (s' : Shared) : Prop := match r with
  | .ok (.ret v) => EP X pins σ Q v s'
  | .ok _ => False
  | .error e => X.xe e s'
/-- what stands behind a call -/
theorem FnG.end_ {pins : List (Addr × Obj)} {σ : L2.St} {H : Hp} {s s' : Shared} {Q : VK} {r : Result} (hx : PassesAt (L2.CX X.prog X.w) X σ (E σ)) (I : Inv X pins σ H s) (c : CR (L2.CX X.prog X.w) X.stack X.prog X.w H s Q (E σ) r s') :
    OutOk X pins σ Q r s' := by
  match r, c with
  | .error e, c => exact hx pins H s e s' I c
  | .ok (.ret u), c => exact I.after c
  | .ok .next, c => exact c.elim
  | .ok .brk, c => exact c.elim
  | .ok .cont, c => exact c.elim
theorem FnG.run1 {pins : List (Addr × Obj)} {σ : L2.St} {H : Hp} {s : Shared} {Q : VK} {us : List Value} {vs : List V} (F : FnG X.prog X.w X.K X.mg X.base k f fd ps sp) (hg : X.A.guards = some []) (hr : Room k X.A) (hb : Binds X.K fd ps []) (hx : PassesAt (L2.CX X.prog X.w) X σ (E σ))
    (I : Inv X pins σ H s) (r : Vals vs us) (h : sp vs H Q (E σ)) : wpAny (model X.prog X.w) X.A (call (.ref f) us) (EP X pins σ Q) X.xe s := by
  have ll : us.length = ps.length := by rw [← r.length]; exact F.ln _ _ _ _ h
  have bb := hb s us I.kIn (by rw [List.append_nil]; exact ll)
  rw [List.append_nil] at bb
  exact wpAny_call (codeAny_mono (F.go X.A X.stack s H ⟨us, []⟩ us vs Q (E σ) hg hr I.env0 bb r h) fun r s' c => FnG.end_ hx I c)
theorem FnG.run2 {pins : List (Addr × Obj)} {σ : L2.St} {H : Hp} {s : Shared} {Q : VK} {us ws : List Value} {vs zs : List V} (F : FnG X.prog X.w X.K X.mg X.base k f fd ps sp) (hg : X.A.guards = some []) (hr : Room k X.A) (hb : KBinds X.K fd ps ks gg gV) (hx : PassesAt (L2.CX X.prog X.w) X σ (E σ))
    (I : Inv X pins σ H s) (r : Vals vs us) (rz : Vals zs ws) (h : sp (gV vs zs) H Q (E σ)) : wpAny (model X.prog X.w) X.A (call (.ref f) us (ks.zip ws)) (EP X pins σ Q) X.xe s := by
  have r2 := hb.rel r rz
  have ll : (gg us ws).length = ps.length := by rw [← r2.length]; exact F.ln _ _ _ _ h
  exact wpAny_call (codeAny_mono (F.go X.A X.stack s H ⟨us, ks.zip ws⟩ (gg us ws) (gV vs zs) Q (E σ) hg hr I.env0 (hb.to s us ws I.kIn ll) r2 h) fun r s' c => FnG.end_ hx I c)
/-- f(e, ..) -/
theorem pe_callG (F : FnG X.prog X.w X.K X.mg X.base k f fd ps sp) (hg : X.A.guards = some []) (hr : Room k X.A) (gl : Gl X x) (hm : X.mg x = some (.ref f)) (hk : PySem.W.keepIn X.K (.ref f) = true) (hb : Binds X.K fd ps []) (hx : ∀ σ, PassesAt (L2.CX X.prog X.w) X σ (E σ))
    (ha : PA X (e :: es) t) (hdb : (x == ("__debug__" : Str)) = false := by decide) (he : starEach (e :: es) X.env = (false, eval e X.env) :: starEach es X.env := by rfl) (hpl : (backTo pos (starEach es X.env)).any (·.1) = false := by rfl) :
    PE X (.Call (.Name x p) (e :: es) [] pos) (tCallSD sp [] E t) := by
  refine ⟨fun pins s σ H Q I h => wpAny_Call_Name_kw (ld_glob I gl hm ?_ hdb)⟩
  refine PySem.W.callWith_K (h₀ := X.base) I.ok.mod.kin hk (thn (ha.run pos pins s σ H _ I h) fun us s1 ⟨vs, H1, I1, r, q⟩ => ⟨I1.kIn, ?_⟩) he hpl
  have q : sp (vs ++ []) H1 Q (E σ) := q
  rw [List.append_nil] at q
  exact F.run1 hg hr hb (hx σ) I1 r q
theorem pe_callGK0 (F : FnG X.prog X.w X.K X.mg X.base k f fd ps sp) (hg : X.A.guards = some []) (hr : Room k X.A) (gl : Gl X x) (hm : X.mg x = some (.ref f)) (hk : PySem.W.keepIn X.K (.ref f) = true) (hb : KBinds X.K fd ps ks gg gV) (hx : ∀ σ, PassesAt (L2.CX X.prog X.w) X σ (E σ))
    (hkw : PK X kws tk) (hall : (backToKw pos (keywordEach kws X.env)).all (·.1.isSome) = true := by rfl) (hks : (backToKw pos (keywordEach kws X.env)).filterMap (·.1) = ks := by rfl)
    (hdb : (x == ("__debug__" : Str)) = false := by decide)
    (hpl : ((backTo pos (starEach [] X.env)).any (·.1) || (backToKw pos (keywordEach kws X.env)).any (·.1.isNone)) = false := by rfl) :
    PE X (.Call (.Name x p) [] kws pos) (tCallKS sp gV E tNil tk) := by
  refine ⟨fun pins s σ H Q I h => wpAny_Call_Name_kw (ld_glob I gl hm ?_ hdb)⟩
  refine PySem.W.callWith_KW0 (h₀ := X.base) I.ok.mod.kin hk hall (thn (hkw.run pos pins s σ H _ I h) fun ws s2 ⟨zs, H2, I2, rz, q2⟩ => ⟨I2.kIn, ?_⟩) hpl
  rw [hks]
  exact F.run2 hg hr hb (hx σ) I2 (us := []) .nil rz q2
end
def fCallK (n m : Nat) (ix : List Nat) (f : FnSp) (fa fk : EFa) : EF := fun ρ g => (fa ρ g).bind fun as g1 => (fk ρ g1).bind fun bs g2 => f (perm n m ix as bs) g2
theorem sm_callK {K : Ck} {W : WX} {n m : Nat} {ix : List Nat} {f : FnSp} {t tk : TA} {fa fk : EFa} (h : SmA K W t fa) (hk : SmA K W tk fk) : Sm K W (tCallKS (spF K f) (perm n m ix) (WE W) t tk) (fCallK n m ix f fa fk) := by
  intro S B F0 F H ρ σ g Pd Xd Q E hf k kx
  refine h S B F0 F H ρ σ g _ Xd _ E (R.wp_bind.mp hf) (fun as g1 vs F1 H1 q e j ra => ?_) kx
  have E1 := E.ext e j
  refine hk S B F0 F1 H1 ρ σ g1 _ Xd _ E1 (R.wp_bind.mp q) (fun bs g2 zs F2 H2 q2 e2 j2 rb => ?_) (XOk.ext kx e j)
  have E2 := E1.ext e2 j2
  have e12 := e.trans e2 j
  exact use_sp E2 (perm_av (ra.mono e2.le) rb) q2 (fun r g' v F' H' q' e' j' rv => k r g' v F' H' q' (e12.trans e' j2) j' (rv.wide fun a ha => e12.free j2 ha)) (XOk.ext kx e12 j2)
end Fx

namespace Fx
open PySem L2 PySem.Spec PyProof.Rows

theorem law_callG {P : Program} {w : World} {K : PySem.W.Frag} {mg mb : Str → Option Value} {k : Nat} {fa a : Addr} {cs : List (Addr × Addr)} {fd : FuncData} {x : Str} {s₁ : Shared} {us : List Value} {ns : List Int}
    (inK : K.In s₁.heap) (nsG : s₁.heap.Ns mainGlobals mg) (nsB : s₁.heap.Ns builtinsNs mb) (boot : ∀ x : Str, x ≠ "__name__" → mb x = bootBuiltins x) (lim : s₁.heap.NoLimit) (gens : s₁.gens = #[])
    (tabs : ∀ p ∈ cs, s₁.heap.get? p.2 = some { cls := .none, data := .fields #[] }) (offK : ∀ p ∈ cs, K.lookup p.2 = none) (codes : ∀ p ∈ cs, PySem.W.CodeHd s₁.heap p.1 p.2) (lamC : lamT ⟨K, mg⟩ ≠ [] ∧ ∀ p ∈ lamT ⟨K, mg⟩, p.1 ∈ cs.map (·.2))
    (bmain : ∃ (bm : Addr) (ob : Obj), mg "__builtins__" = some (.ref bm) ∧ bm ≠ builtinsNs ∧ s₁.heap.get? bm = some ob ∧ ob.cls = .type "module" ∧ ob.dict = some builtinsNs ∧ ob.data = .plain)
    (ha : s₁.heap.get? a = some { cls := .type "list", data := .seq us.toArray }) (hi : IntsAre us ns) (hl : ns.length ≤ 63) (hr : Room k callerA)
    (F : ∀ base : Heap, K.In base → base.Ns mainGlobals mg → (∀ p ∈ cs, LamX.TabB base mg p.1 p.2) → FnG P w K mg base k fa fd [x] (spLaw ⟨K, mg⟩)) (bind : ∀ (s : Shared) (u : Value), BindsTo s fd ⟨[u], []⟩ [(x, u)]) :
    codeAny (model P w) callerA (.call (.ref fa) ⟨[.ref a], []⟩) (fun r s' => r = .ok (.ret (.bool true)) ∧ OldK s₁.heap s'.heap ∧ s'.os = s₁.os ∧ AllBare s'.gens) s₁ := by
  have vals := vals_ints hi
  have cnt := hi.length
  have big : ns.length ≤ sizeLine := Nat.le_trans hl (by decide)
  have tab_ : ∀ b ∈ cs.map (·.2), ∃ p ∈ cs, p.2 = b := fun b hb => let ⟨p, hp, e⟩ := List.mem_map.mp hb; ⟨p, hp, e⟩
  have tabD : ∀ {b : Addr} {o : Obj}, b ∈ cs.map (·.2) → s₁.heap.get? b = some o → o = { cls := .none, data := .fields #[] } := fun {b o} hb e => by
    obtain ⟨p, hp, rfl⟩ := tab_ b hb
    rw [tabs p hp] at e
    exact (Option.some.inj e).symm
  have aOff : a ∉ cs.map (·.2) := fun z => by
    have := tabD z ha
    cases this
  have main : ∀ H : Hp, (∀ b ∈ cs.map (·.2), H b = some (.tbl #[])) → (∀ b, H b = none ∨ b ∈ cs.map (·.2) ∨ ∃ o xs, H b = some (.frz o (.lst xs))) → SqLx ⟨K, mg⟩ H a (ns.map V.int) → HOk P w H s₁.heap → (∀ b, H b ≠ none → b = a ∨ b ∈ cs.map (·.2)) → (H a ≠ none → K.lookup a = none) →
      codeAny (model P w) callerA (.call (.ref fa) ⟨[.ref a], []⟩) (fun r s' => r = .ok (.ret (.bool true)) ∧ OldK s₁.heap s'.heap ∧ s'.os = s₁.os ∧ AllBare s'.gens) s₁ := by
    intro H hTab only sq ok alone notK
    have freeB : ∀ {b : Addr} {o : Obj}, s₁.heap.get? b = some o → (∀ xs n, o.data ≠ .seq xs n) → o.data ≠ .fields #[] → H b = none := fun {b o} e d1 d2 => by
      cases q : H b with
      | none => rfl
      | some u =>
        rcases alone b (by rw [q]; exact fun z => by cases z) with rfl | hb
        · rw [ha] at e
          cases e
          exact (d1 _ _ rfl).elim
        · rw [tabD hb e] at d2
          exact (d2 rfl).elim
    have freeD : ∀ {b : Addr} {o : Obj} {es : Array DictEntry} {ep : Nat}, s₁.heap.get? b = some o → o.data = .dict es ep → H b = none := fun {b o es ep} e d => freeB e (fun xs n z => by rw [d] at z; cases z) fun z => by rw [d] at z; cases z
    have ns2 : ∀ {b : Addr} {m : Str → Option Value}, s₁.heap.Ns b m → (hidT s₁.heap H).Ns b m := fun {b m} ⟨o, es, ep, e, d, r⟩ => ⟨o, es, ep, hidT_get e (freeD e d), d, r⟩
    have K2 : K.In (hidT s₁.heap H) := fun b o e => hidT_get (inK b o e) (by
      cases q : H b with
      | none => rfl
      | some u =>
        rcases alone b (by rw [q]; exact fun z => by cases z) with rfl | hb
        · rw [notK (by rw [q]; exact fun z => by cases z)] at e
          cases e
        · obtain ⟨p, hp, rfl⟩ := tab_ b hb
          rw [offK p hp] at e
          cases e)
    have md : Mod K mg (hidT s₁.heap H) := ⟨K2, ns2 nsG, ⟨mb, ns2 nsB, boot⟩, let ⟨mc, h1, h2⟩ := lim; ⟨mc, ns2 h1, h2⟩⟩
    have TB : ∀ p ∈ cs, LamX.TabB (hidT s₁.heap H) mg p.1 p.2 := fun p hp => by
      have atP := tabs p hp
      refine ⟨?_, ?_, fun z => ?_⟩
      · obtain ⟨o, us, file, tf, flags, tg, inF, text, tt, e1, r1, r2, r3, rest⟩ := codes p hp
        refine ⟨o, us, file, tf, flags, tg, inF, text, tt, hidT_get e1 (freeB e1 (fun xs n z => by rw [r2] at z; cases z) fun z => ?_), r1, r2, r3, rest⟩
        rw [r2] at z
        cases z
        simp at r3
      · obtain ⟨bm, ob, b1, b2, b3, b4, b5, b6⟩ := bmain
        refine ⟨bm, ob, b1, b2, fun q => ?_, fun q => ?_, hidT_get b3 (freeB b3 (fun xs n z => by rw [b6] at z; cases z) fun z => by rw [b6] at z; cases z), b4, b5, b6⟩
        · obtain ⟨o, es, ep, e, hd, _⟩ := nsG
          rw [q, e] at b3
          cases b3
          rw [hd] at b6
          cases b6
        · rw [q, atP] at b3
          cases b3
          cases b6
      · obtain ⟨o, es, ep, e, hd, _⟩ := nsG
        rw [z, atP] at e
        cases e
        cases hd
    have en : Env0 P w K mg (hidT s₁.heap H) callerA [] s₁ H := ⟨rfl, md, fun b o e => of_hidT e, Nat.le_of_eq (hidT_size _ _), trivial, fun b hb => absurd (show b ∈ ([] : List Addr) from hb) (by simp), ok, .of_eq gens⟩
    refine codeAny_mono ((F _ K2 (ns2 nsG) TB).go callerA [] s₁ H ⟨[.ref a], []⟩ [.ref a] [.ref a] (fun v _ => v = .bl true) (fun _ _ _ => False) rfl hr en (bind s₁ (.ref a)) (.cons rfl .nil) ⟨a, ns, rfl, sq, hl, ⟨lamC.1, fun p hp => hTab _ (lamC.2 p hp)⟩, fun _ => rfl⟩) fun r s' out => ?_
    match r, out with
    | .error e, out =>
      obtain ⟨_, _, _, _, _, _, _, _, _, _, _, _, z⟩ := out
      exact z.elim
    | .ok .next, out => exact out.elim
    | .ok .brk, out => exact out.elim
    | .ok .cont, out => exact out.elim
    | .ok (.ret u), ⟨v, H', os, bare, un, ok', rv, q⟩ =>
      have q : v = .bl true := q
      subst q
      obtain rfl : u = Value.bool true := rv
      have key : ∀ b o, b ∉ cs.map (·.2) → s₁.heap.get? b = some o → s'.heap.get? b = some o := fun b o nb e => by
        cases q : H b with
        | none => exact un.keep b o e q (fun z => absurd (show b ∈ ([] : List Addr) from z) (by simp)) (by simp)
        | some u =>
          rcases only b with z | z | ⟨ob, xs, z⟩
          · rw [q] at z; cases z
          · exact absurd z nb
          · have e1 := (ok b _ z).1
            have e2 := (ok' b _ (un.frzs b ob _ z)).1
            rw [e] at e1
            cases e1
            exact e2
      have more_ : ∀ b ∈ cs.map (·.2), ∃ more : Array Value, s'.heap.get? b = some { cls := .none, data := .fields more } := fun b hb => by
        obtain ⟨more, z⟩ := un.tbls b #[] (hTab b hb)
        exact ⟨_, ok' b _ z⟩
      refine ⟨rfl, ⟨fun b o e => ?_, fun b o e => ?_⟩, os, bare⟩
      · by_cases hb : b ∈ cs.map (·.2)
        · obtain ⟨more, hm⟩ := more_ b hb
          have eo := tabD hb e
          subst eo
          obtain ⟨p, hp, rfl⟩ := tab_ b hb
          exact .inr (.inl ⟨((codes p hp).tab (tabs p hp)).isCodeTable, rfl, #[], more, rfl, by rw [Array.empty_append]; exact hm⟩)
        · exact .inl (key b o hb e)
      · by_cases hb : b ∈ cs.map (·.2)
        · obtain ⟨more, hm⟩ := more_ b hb
          exact ⟨_, hm⟩
        · exact ⟨o, key b o hb e⟩
  cases hk : K.lookup a with
  | some o =>
    have e := inK a o hk
    rw [ha] at e
    cases e
    refine main (fun b => if b ∈ cs.map (·.2) then some (.tbl #[]) else none) (fun b hb => if_pos hb) (fun b => ?_) (.inr ⟨us.toArray, _, hk, by rw [List.size_toArray, cnt]; exact big, by simpa using vals⟩) (fun b u z => ?_) (fun b z => ?_) fun z => absurd (if_neg aOff) z
    · by_cases hb : b ∈ cs.map (·.2)
      · exact .inr (.inl hb)
      · exact .inl (if_neg hb)
    · by_cases hb : b ∈ cs.map (·.2)
      · have z := (if_pos hb).symm.trans z
        cases z
        obtain ⟨p, hp, rfl⟩ := tab_ b hb
        exact tabs p hp
      · have z := (if_neg hb).symm.trans z
        cases z
    · by_cases hb : b ∈ cs.map (·.2)
      · exact .inr hb
      · exact absurd (if_neg hb) z
  | none =>
    refine main (fun b => if b = a then some (.frz { cls := .type "list", data := .seq us.toArray } (.lst (ns.map V.int))) else if b ∈ cs.map (·.2) then some (.tbl #[]) else none) (fun b hb => (if_neg (show ¬ b = a from fun z => aOff (by rw [← z]; exact hb))).trans (if_pos hb)) (fun b => ?_) (.inl (.inr ⟨_, if_pos rfl⟩)) (fun b u z => ?_) (fun b z => ?_) fun _ => hk
    · by_cases hb : b = a
      · exact .inr (.inr ⟨_, _, if_pos hb⟩)
      · by_cases h2 : b ∈ cs.map (·.2)
        · exact .inr (.inl h2)
        · exact .inl ((if_neg hb).trans (if_neg h2))
    · by_cases hb : b = a
      · have z := (if_pos hb).symm.trans z
        cases z
        subst hb
        exact ⟨ha, by rw [List.length_map]; exact big, us, _, vals, ha⟩
      · have z := (if_neg hb).symm.trans z
        by_cases h2 : b ∈ cs.map (·.2)
        · have z := (if_pos h2).symm.trans z
          cases z
          obtain ⟨p, hp, rfl⟩ := tab_ b h2
          exact tabs p hp
        · have z := (if_neg h2).symm.trans z
          cases z
    · by_cases hb : b = a
      · exact .inl hb
      · by_cases h2 : b ∈ cs.map (·.2)
        · exact .inr h2
        · exact absurd ((if_neg hb).trans (if_neg h2)) z

end Fx

namespace Fx
open PySem L2 PySem.Spec PyProof.Rows
theorem RpA.erase {K : Ck} {F : Hp} : ∀ {vs : List V} {ds : List PyData} (n : Nat), RpA K F vs ds → RpA K F (vs.eraseIdx n) (ds.eraseIdx n)
  | _, _, _, .nil => .nil
  | _, _, 0, .cons _ t => t
  | _, _, n + 1, .cons r t => .cons r (RpA.erase n t)
section
variable {K : Ck} {W : WX} {te : TE} {fe : EF}
end
end Fx

namespace Fx
open PySem L2 RZ

/-- a list or a tuple that stands has no more than so many items -/
def Szd (K : PySem.W.Frag) (v : V) (H : Hp) : Prop := ∀ a xs, v = .ref a → (SqL K H a xs ∨ SqT K H a xs) → xs.length ≤ sizeLine
def tZe (K : PySem.W.Frag) (t : TE) : TE := fun σ H Q => t σ H fun x H1 => Szd K x H1 → Q x H1
def tZa (K : PySem.W.Frag) (t : TA) : TA := fun σ H Q => t σ H fun xs H1 => (∀ x ∈ xs, Szd K x H1) → Q xs H1
section
open PySem.Spec PyProof.Rows
variable {X : Cx}
theorem szd_of {pins : List (Addr × Obj)} {σ : L2.St} {H : Hp} {s : Shared} (I : Inv X pins σ H s) (v : V) : Szd X.K v H := fun a xs _ h => by
  rcases h with h | h
  · obtain ⟨its, _, _, hz⟩ := I.list h; exact hz
  · obtain ⟨its, _, _, hz⟩ := I.tuple h; exact hz
theorem pe_z {e : Expr} {t : TE} (h : PE X e t) : PE X e (tZe X.K t) :=
  ⟨fun pins s σ H Q I hq => thn (h.run pins s σ H _ I hq) fun u s1 ⟨x, H1, I1, r, q⟩ => ⟨x, H1, I1, r, q (szd_of I1 x)⟩⟩
theorem pa_z {es : List Expr} {t : TA} (h : PA X es t) : PA X es (tZa X.K t) :=
  ⟨fun pos pins s σ H Q I hq => thn (h.run pos pins s σ H _ I hq) fun us s1 ⟨xs, H1, I1, r, q⟩ => ⟨xs, H1, I1, r, q fun x _ => szd_of I1 x⟩⟩
end
def SmIZ (w : Bool) (K : Ck) (W : WX) (t : TI) (f : EFi) : Prop := ∀ (S : Sta) (B F0 F H : Hp) (ρ : List SD) (σ : L2.St) (g : Gs) (Pd : List PyData → Gs → Prop) (Xd : PyData → Gs → Prop) (Rr : It → Hp → Prop), EnvOk K S B F0 F H ρ σ g → (f ρ g).wp Pd Xd →
  (∀ ds g' F' H' J, Pd ds g' → ds.length ≤ sizeLine → Ext S F H F' H' → S.J g' H' → ItOk w K S F' J ds → Rr J H') →
  (∀ x g' cls d F' H', Xd x g' → Ext S F H F' H' → S.J g' H' → ExcRep K S H F' H' cls d x → W cls d σ H') → t σ H Rr
/-- the items of data; a text's, where it isn't longer than a list may be -/
def itemsZ : PyData → Option (List PyData)
  | .list xs => some xs
  | .tuple xs => some xs
  | .str x => if x.cps.toList.length ≤ sizeLine then some (x.cps.toList.map fun c => .str ⟨#[c]⟩) else none
  | _ => none
theorem itemsZ_of {x : PyData} {ds : List PyData} (h : itemsZ x = some ds) : itemsOf x = some ds ∧ ((∃ z, x = .str z) → ds.length ≤ sizeLine) := by
  cases x with
  | list xs => exact ⟨h, fun ⟨z, e⟩ => by cases e⟩
  | tuple xs => exact ⟨h, fun ⟨z, e⟩ => by cases e⟩
  | str z =>
    unfold itemsZ at h
    simp only at h
    split at h
    · rename_i c
      cases h
      exact ⟨rfl, fun _ => by rw [List.length_map]; exact c⟩
    · cases h
  | _ => cases h
def iaSeqZ (f : EF) : EFi := fun ρ g => (fDat f ρ g).bind fun x g1 => R.ofO (itemsZ x) g1
def oRngZ (o : List AV → Option (List PyData)) (as : List AV) : Option (List PyData) := match o as with
  | some ds => if ds.length ≤ sizeLine then some ds else none
  | none => none
theorem oRngZ_of {o : List AV → Option (List PyData)} {as : List AV} {ds : List PyData} (h : oRngZ o as = some ds) : o as = some ds ∧ ds.length ≤ sizeLine := by
  unfold oRngZ at h
  split at h
  · rename_i es e
    split at h
    · cases h; exact ⟨e, ‹_›⟩
    · cases h
  · cases h
section
variable {K : Ck} {W : WX}
theorem smi_seqZ {t : TE} {f : EF} (h : Sm K W t f) : SmIZ false K W (iSeq K (tZe K t)) (iaSeqZ f) := by
  intro S B F0 F H ρ σ g Pd Xd Rr E hf k kx
  refine h.dat E (R.wp_bind.mp hf) kx fun x g1 v F1 H1 q e E1 r hs => ?_
  obtain ⟨ds, ed, q⟩ := R.wp_ofO q
  obtain ⟨ed, hz⟩ := itemsZ_of ed
  cases r with
  | @lst a vs ds' hr ra =>
    cases ed
    have sq := (Le.sqx E1.sub hr).sql
    exact .inl ⟨a, rfl, ⟨vs, sq⟩, k _ g1 F1 H1 _ q (by rw [← ra.length]; exact hs a vs rfl (.inl sq)) e E1.j (itok_at walk_list ra fun F' H' le sub => (Le.sqx sub (Le.sqx le hr)).sql)⟩
  | @tup a vs ds' hr hk ra =>
    cases ed
    have sq := Le.sqt E1.sub hr
    exact .inr (.inl ⟨a, rfl, ⟨vs, sq⟩, k _ g1 F1 H1 _ q (by rw [← ra.length]; exact hs a vs rfl (.inr sq)) e E1.j (itok_at walk_tup ra fun F' H' le sub => Le.sqt sub (Le.sqt le hr))⟩)
  | str z =>
    have hz := hz ⟨z, rfl⟩
    cases ed
    refine .inr (.inr ⟨z, rfl, k _ g1 F1 H1 _ q hz e E1.j fun F' H' le sub => ⟨fun i d hd => ?_, ?_⟩⟩)
    · rw [List.getElem?_map] at hd
      cases ec : z.cps.toList[i]? with
      | none => rw [ec] at hd; cases hd
      | some c =>
        rw [ec] at hd
        cases hd
        have hi : i < z.cps.size := by
          have := (List.getElem?_eq_some_iff.mp ec).1
          simpa using this
        refine ⟨walk_str.goes i H' hi trivial, fun x H'' y => ?_⟩
        obtain ⟨rfl, c', hc, rfl⟩ := walk_str.yields i H' x H'' hi trivial y
        have : c' = c := by
          rw [← Array.getElem?_toList, ec] at hc
          cases hc; rfl
        subst this
        exact ⟨F', Ext.refl sub, fun _ j => j, .inl (Rp.str _)⟩
    · simp only [List.length_map, Array.length_toList]
      exact walk_str.stops H' trivial
  | non => cases ed
  | bl b => cases ed
  | int i => cases ed
  | dK _ _ => cases ed
  | dT _ _ _ => cases ed
  | obj _ _ _ _ => cases ed
  | exc _ _ _ _ => cases ed
  | fn _ => cases ed
theorem smi_rngZ {o : List AV → Option (List PyData)} {ti : TA → TI} {t : TA} {fa : EFa} (base : ∀ {fa : EFa}, SmA K W t fa → SmI false K W (ti t) (iaB o fa)) (h : SmA K W t fa) : SmIZ false K W (ti t) (iaB (oRngZ o) fa) := by
  intro S B F0 F H ρ σ g Pd Xd Rr E hf k kx
  refine base h S B F0 F H ρ σ g (fun ds g' => Pd ds g' ∧ ds.length ≤ sizeLine) Xd Rr E ?_ (fun ds g' F' H' J q e j it => k ds g' F' H' J q.1 q.2 e j it) kx
  refine R.wp_bind.mpr (R.wp_imp (R.wp_bind.mp hf) (fun as g1 q => ?_) fun _ _ z => z)
  obtain ⟨ds, hd, q⟩ := R.wp_ofO q
  obtain ⟨h1, h2⟩ := oRngZ_of hd
  rw [h1]
  exact ⟨q, h2⟩
/-- of lists and tuples that stand -/
theorem szd_lst {F H : Hp} {a : Addr} {vs : List V} {xs : List PyData} (sub : Sub F H) (h : SqLx K F a vs) (ra : RpA K F vs xs) (hs : Szd K.K (.ref a) H) : xs.length ≤ sizeLine := by
  rw [← ra.length]; exact hs a vs rfl (.inl (Le.sqx sub h).sql)
theorem szd_tup {F H : Hp} {a : Addr} {vs : List V} {xs : List PyData} (sub : Sub F H) (h : SqT K.K F a vs) (ra : RpA K F vs xs) (hs : Szd K.K (.ref a) H) : xs.length ≤ sizeLine := by
  rw [← ra.length]; exact hs a vs rfl (.inr (Le.sqt sub h))
theorem rp_szd {F H : Hp} {v : V} {xs : List PyData} (sub : Sub F H) (r : Rp K F v (.list xs) ∨ Rp K F v (.tuple xs)) (hs : Szd K.K v H) : xs.length ≤ sizeLine := by
  rcases r with r | r
  · cases r with
    | lst h ra => exact szd_lst sub h ra hs
  · cases r with
    | tup h _ ra => exact szd_tup sub h ra hs
theorem smi_zipZ {t : TA} {fa : EFa} (h : SmA K W t fa) : SmIZ true K W (iZipA K (tZa K t)) (iaZip fa) := by
  intro S B F0 F H ρ σ g Pd Xd Rr E hf k kx
  refine h S B F0 F H ρ σ g _ Xd _ E (R.wp_bind.mp hf) (fun as g1 vs F1 H1 q e j r hs0 => ?_) kx
  obtain ⟨ds, hd, q⟩ := R.wp_ofO q
  obtain ⟨xs, ys, h1, rfl⟩ := oZip_of hd
  have E1 := E.ext e j
  rcases h1 with h1 | h1
  · have ra := allD_rp r h1
    cases ra with
    | cons r1 t1 =>
      cases t1 with
      | cons r2 t2 =>
        cases t2
        cases r1 with
        | @lst a vs ds hr ra =>
          cases r2 with
          | @lst b ws es hs rb =>
            refine ⟨a, b, vs, ws, rfl, .inl ⟨(Le.sqx E1.sub hr).sql, (Le.sqx E1.sub hs).sql, k _ g1 F1 H1 _ q ?_ e j (itok_pair (walk_zip rfl) ?_ (fun i d hd => ?_) (fun F' H' le sub => ⟨(Le.sqx sub (Le.sqx le hr)).sql, (Le.sqx sub (Le.sqx le hs)).sql⟩))⟩⟩
            · rw [List.length_map, List.length_zip]
              exact Nat.le_trans (Nat.min_le_left _ _) (rp_szd E1.sub (.inl (.lst hr ra)) (hs0 _ (by simp)))
            · rw [List.length_map, List.length_zip, ra.length, rb.length]
            · obtain ⟨x, y, hx, hy, rfl⟩ := zip_get xs ys i d hd
              refine ⟨x, y, rfl, fun v hv => ?_, fun v hv => ?_⟩
              · obtain ⟨d', e', r'⟩ := ra.get hv
                rw [hx] at e'; cases e'; exact r'
              · obtain ⟨d', e', r'⟩ := rb.get hv
                rw [hy] at e'; cases e'; exact r'
  · have ra := allD_rp r h1
    cases ra with
    | cons r1 t1 =>
      cases t1 with
      | cons r2 t2 =>
        cases t2
        cases r1 with
        | @tup a vs ds hr hk ra =>
          cases r2 with
          | @tup b ws es hs hk2 rb =>
            refine ⟨a, b, vs, ws, rfl, .inr ⟨Le.sqt E1.sub hr, Le.sqt E1.sub hs, k _ g1 F1 H1 _ q ?_ e j (itok_pair (walk_zipT rfl) ?_ (fun i d hd => ?_) (fun F' H' le sub => ⟨Le.sqt sub (Le.sqt le hr), Le.sqt sub (Le.sqt le hs)⟩))⟩⟩
            · rw [List.length_map, List.length_zip]
              exact Nat.le_trans (Nat.min_le_left _ _) (rp_szd E1.sub (.inr (.tup hr hk ra)) (hs0 _ (by simp)))
            · rw [List.length_map, List.length_zip, ra.length, rb.length]
            · obtain ⟨x, y, hx, hy, rfl⟩ := zip_get xs ys i d hd
              refine ⟨x, y, rfl, fun v hv => ?_, fun v hv => ?_⟩
              · obtain ⟨d', e', r'⟩ := ra.get hv
                rw [hx] at e'; cases e'; exact r'
              · obtain ⟨d', e', r'⟩ := rb.get hv
                rw [hy] at e'; cases e'; exact r'
def bLstU (fe : EF) : List SD → List PyData → Gs → R (List PyData) := fun ρ acc g => (fDat fe ρ g).bind fun y g1 => .ok (acc ++ [y]) g1
def fLcU (fi : EFi) (fg : EFg) (ft : EFt) (fe : EF) (vs : List Nat) : EF := fCp .nl [] fi fg ft (bLstU fe) vs
theorem cp_same {fg : EFg} {ft : EFt} {fe : EF} {ρ : List SD} : ∀ (ds acc : List PyData) (g : Gs), acc.length + ds.length ≤ sizeLine →
    cpR (cpStep fg ft (bLstU fe) ρ) ds acc g = cpR (cpStep fg ft (bLst fe) ρ) ds acc g
  | [], _, _, _ => rfl
  | d :: ds, acc, g, hz => by
    have hz' : acc.length + (ds.length + 1) ≤ sizeLine := hz
    have key : ∀ acc' g', acc'.length ≤ acc.length + 1 → cpR (cpStep fg ft (bLstU fe) ρ) ds acc' g' = cpR (cpStep fg ft (bLst fe) ρ) ds acc' g' := fun acc' g' h => cp_same ds acc' g' (by omega)
    rw [cpR, cpR]
    unfold cpStep
    cases fg d ρ with
    | none => rfl
    | some ρ2 =>
      show ((ft ρ2 g).bind _).bind _ = ((ft ρ2 g).bind _).bind _
      cases ft ρ2 g with
      | bad => rfl
      | exc x g' => rfl
      | ok b g2 =>
        cases b with
        | false => exact key acc g2 (by omega)
        | true =>
          show (bLstU fe ρ2 acc g2).bind _ = (bLst fe ρ2 acc g2).bind _
          unfold bLstU bLst
          cases fDat fe ρ2 g2 with
          | bad => rfl
          | exc x g' => rfl
          | ok y g3 =>
            show _ = (if acc.length < sizeLine then R.ok (acc ++ [y]) g3 else .bad).bind _
            rw [if_pos (by omega)]
            exact key _ g3 (by simp)
theorem sm_lcU {wi : TI} {tg : TG} {tt : TT} {te : TE} {fi : EFi} {fg : EFg} {ft : EFt} {fe : EF} {is vs : List Nat} {w : Bool} (hi : SmIZ w K W wi fi) (hg : SmG w K tg is fg) (ht : SmT K W0 tt ft) (he : Sm K W0 te fe) (hv : ∀ i ∈ is, i ∈ vs) : Sm K W (tLc wi tg tt te vs) (fLcU fi fg ft fe vs) := by
  intro S B F0 F H ρ σ g Pd Xd Q E hf k kx
  refine hi S B F0 F H ρ σ g _ Xd _ E (R.wp_bind.mp hf) (fun ds g1 F1 H1 J q hz e j it => ?_) kx
  have E1 := E.ext e j
  have q := R.wp_nox.mp (R.wp_bind.mp q)
  rw [cp_same ds [] g1 (by simpa using hz)] at q
  intro D hD
  have nM : ¬ S.M D := fun m => E1.okh.mt D m hD
  have n := Ext.own (S := S) (o := .lst []) E1.sub hD
  have j1 : S.J g1 (upd H1 D (.lst [])) := Fx.J.new j hD
  refine cp_turns (C := cLst K) (BODY := fun σ2 H3 Nx => te σ2 H3 fun y H4 => ∃ acc, H4 D = some (.lst acc) ∧ acc.length < sizeLine ∧ Nx (upd H4 D (.lst (acc ++ [y])))) hg ht hv nM (E1.free hD) (E1.ext n j1) (noRef_new E1 hD) (fun F' H' le sub => it F' H' le sub)
    (fun acc gc Fc Hc ρ2 σ2 Pd Nx L E2 _ h k => b_lst he nM L E2 h k) ⟨⟨fun _ _ _ q _ => q, fun _ _ => rfl, Le.refl _, n.sub, (by rw [upd_same]; exact fun z => by cases z), fun t => t⟩, j1, ⟨_, upd_same, [], rfl, .nil⟩, E1.sub.free hD⟩ q fun acc gc Fc Hc L q => ?_
  obtain ⟨e2, rv⟩ := lc_end e j hD nM L
  exact k _ gc _ Fc Hc q e2 L.j rv
def tIZ (K : Ck) (W : WX) (w : Bool) (f : EFi) : TI := fun σ H Rr => ∃ (S : Sta) (B F0 F : Hp) (ρ : List SD) (g : Gs) (Xd : PyData → Gs → Prop), EnvOk K S B F0 F H ρ σ g ∧ (f ρ g).wp (fun ds g' => ds.length ≤ sizeLine → ∀ F' H' J, Ext S F H F' H' → S.J g' H' → ItOk w K S F' J ds → Rr J H') Xd ∧ XOk K W S F H σ Xd
theorem smiZ_s {w : Bool} {f : EFi} : SmIZ w K W (tIZ K W w f) f := fun S B F0 F H ρ σ g Pd Xd Q E h k kx => ⟨S, B, F0, F, ρ, g, Xd, E, R.wp_imp h (fun r g' q hz F' H' J a b c => k r g' F' H' J q hz a b c) fun _ _ z => z, kx⟩
end
theorem xiZ {X : Cx} {C : Ck} {W : WX} {w : Bool} {tg e : Expr} {t : TI} {f : EFi} (h : PI X tg e t) (s : SmIZ w C W t f) : PI X tg e (tIZ C W w f) :=
  ⟨fun pins s' σ H Q I ⟨S, B, F0, F, ρ, g, Xd, E, hw, kx⟩ => h.run pins s' σ H Q I (s S B F0 F H ρ σ g _ Xd Q E hw (fun r g' F' H' J q hz a b c => q hz F' H' J a b c) kx)⟩
end Fx

namespace Fx
open PySem L2

/-- a value as data -/
@[reducible] def frz : RV → PyData
  | .d x => x
  | .nl xs => .list xs
  | .nd _ ks => .dict ks
  | .o _ => .none
@[reducible] def isDat : RV → Bool
  | .d _ => true
  | .nl _ => true
  | .nd t _ => !t
  | .o _ => false
theorem asDR_frz {r : RV} (h : isDat r = true) (g : Gs) : asDR r g = .ok (frz r) g := by
  cases r with
  | d x => rfl
  | nl xs => rfl
  | nd t ks => cases t with
    | false => rfl
    | true => cases h
  | o v => cases h
theorem asAR_frz {r : RV} (h : isDat r = true) (g : Gs) : asAR r g = .ok (.d (frz r)) g := by
  cases r with
  | d x => rfl
  | nl xs => rfl
  | nd t ks => cases t with
    | false => rfl
    | true => cases h
  | o v => cases h

def eT {α : Type} (e : α → PyData) (xs : List α) : PyData := .tuple (xs.map e)
def eL {α : Type} (e : α → PyData) (xs : List α) : PyData := .list (xs.map e)
def eP {α β : Type} (e : α → PyData) (e' : β → PyData) (x : α × β) : PyData := .tuple [e x.1, e' x.2]
def eP3 {α β γ : Type} (e : α → PyData) (e' : β → PyData) (e'' : γ → PyData) (x : α × β × γ) : PyData := .tuple [e x.1, e' x.2.1, e'' x.2.2]
def eO {α : Type} (e : α → PyData) : Option α → PyData
  | none => .none
  | some a => e a
def eU : Unit → PyData := fun _ => .none
def kvP {α β : Type} (e : α → PyData) (e' : β → PyData) (x : α × β) : PyData × PyData := (e x.1, e' x.2)
def eD {α β : Type} (e : α → PyData) (e' : β → PyData) (ks : List (α × β)) : PyData := .dict (ks.map (kvP e e'))

def RX {α β : Type} (m : R β) (M : R α) (w : α → β) : Prop := match M with
  | .ok a g => m = .ok (w a) g
  | .exc x g => m = .exc x g
  | .bad => True
theorem RX.bind {α β α' β' : Type} {m : R β} {M : R α} {w : α → β} {k : β → Gs → R β'} {K : α → Gs → R α'} {w' : α' → β'} (h : RX m M w) (hk : ∀ a g, RX (k (w a) g) (K a g) w') : RX (m.bind k) (M.bind K) w' := by
  cases M with
  | ok a g => have h : m = .ok (w a) g := h; subst h; exact hk a g
  | exc x g => have h : m = .exc x g := h; subst h; rfl
  | bad => trivial
theorem RX.map {α β β' : Type} {m : R β} {M : R α} {w : α → β} {k : β → Gs → R β'} {w' : α → β'} (h : RX m M w) (hk : ∀ a g, k (w a) g = .ok (w' a) g) : RX (m.bind k) M w' := by
  cases M with
  | ok a g => have h : m = .ok (w a) g := h; subst h; exact hk a g
  | exc x g => have h : m = .exc x g := h; subst h; rfl
  | bad => trivial
open Classical in
noncomputable def R.asrt {α : Type} (z : Prop) (m : R α) : R α := if z then m else .bad
theorem RX.asrt {α β : Type} {m : R β} {M : R α} {w : α → β} {z : Prop} (h : z → RX m M w) : RX m (R.asrt z M) w := by
  unfold R.asrt
  split
  · exact h ‹_›
  · trivial
theorem R.wp_asrt {α : Type} {z : Prop} {m : R α} {P : α → Gs → Prop} {X : PyData → Gs → Prop} (hz : z) (h : m.wp P X) : (R.asrt z m).wp P X := by
  unfold R.asrt
  rw [if_pos hz]
  exact h
open Classical in
/-- a def's own run, read back -/
noncomputable def pullM {α : Type} (m : R RV) (w : α → RV) : R α := match m with
  | .ok r g => if h : ∃ a, w a = r then .ok (Classical.choose h) g else .bad
  | .exc x g => .exc x g
  | .bad => .bad
theorem pullM_rx {α : Type} (m : R RV) (w : α → RV) : RX m (pullM m w) w := by
  unfold pullM
  cases m with
  | ok r g =>
    by_cases h : ∃ a, w a = r
    · simp only [dif_pos h]
      show R.ok r g = .ok (w _) g
      rw [Classical.choose_spec h]
    · simp only [dif_neg h]; trivial
  | exc x g => rfl
  | bad => trivial
theorem pullM_wp {α : Type} {m : R RV} {w : α → RV} {a : α} {g : Gs} {P : α → Gs → Prop} {X : PyData → Gs → Prop} (inj : ∀ a b, w a = w b → a = b) (h : m = .ok (w a) g) (p : P a g) : (pullM m w).wp P X := by
  unfold pullM
  rw [h]
  have hx : ∃ b, w b = w a := ⟨a, rfl⟩
  simp only [dif_pos hx]
  rw [inj _ _ (Classical.choose_spec hx)]
  exact p

section
variable {ρ : List SD} {g g1 : Gs} {fa fb fc fe f : EF} {r ra rb rc : RV}
theorem v_var {i : Nat} {x : PyData} (h : ρ[i]? = some (.d x)) : fVar i ρ g = .ok (.d x) g := by unfold fVar; rw [h]; rfl
theorem v_varo {i : Nat} {v : V} (h : ρ[i]? = some (.o v)) : fVar i ρ g = .ok (.o v) g := by unfold fVar; rw [h]; rfl
theorem v_c {x : PyData} : fC x ρ g = .ok (.d x) g := rfl
theorem v_cast {x y : PyData} (h : f ρ g = .ok (.d x) g) (e : x = y) : f ρ g = .ok (.d y) g := e ▸ h
/-- as data -/
theorem v_dat (h : f ρ g = .ok r g1) (d : isDat r = true) : fDat f ρ g = .ok (frz r) g1 := by unfold fDat; rw [h]; exact asDR_frz d g1
theorem dd {x : PyData} (h : f ρ g = .ok (.d x) g) : fDat f ρ g = .ok x g := v_dat h rfl
theorem dl {xs : List PyData} (h : f ρ g = .ok (.nl xs) g) : fDat f ρ g = .ok (.list xs) g := v_dat h rfl
theorem dn {xs : List (PyData × PyData)} (h : f ρ g = .ok (.nd false xs) g) : fDat f ρ g = .ok (.dict xs) g := v_dat h rfl
variable {xa xb xc : PyData}
theorem v_op {o : O2} (ha : fDat fa ρ g = .ok xa g) (hb : fDat fb ρ g = .ok xb g) (ho : o xa xb = some r) : fOp o fa fb ρ g = .ok r g := by
  unfold fOp
  rw [ha]
  show ((fDat fb ρ g).bind _) = _
  rw [hb]
  show R.ofO (o _ _) g = _
  rw [ho]; rfl
theorem v_un {o : O1} (ha : fDat fa ρ g = .ok xa g) (ho : o xa = some r) : fUn o fa ρ g = .ok r g := by
  unfold fUn
  rw [ha]
  show R.ofO (o _) g = _
  rw [ho]; rfl
theorem v_test {b : Bool} (h : f ρ g = .ok (.d (.bool b)) g) : fTest f ρ g = .ok b g := by unfold fTest; rw [h]; rfl
theorem v_or {ta tb : EFt} {a b : Bool} (ha : ta ρ g = .ok a g) (hb : a = false → tb ρ g = .ok b g) : fOr ta tb ρ g = .ok (a || b) g := by
  unfold fOr
  rw [ha]
  cases a with
  | true => rfl
  | false => exact hb rfl
theorem v_not {ta : EFt} {a : Bool} (ha : ta ρ g = .ok a g) : fNot ta ρ g = .ok (!a) g := by unfold fNot; rw [ha]; rfl
theorem v_andV {a b : Bool} (ha : fa ρ g = .ok (.d (.bool a)) g) (hb : a = true → fb ρ g = .ok (.d (.bool b)) g) : fAndV fa fb ρ g = .ok (.d (.bool (a && b))) g := by
  unfold fAndV
  rw [v_test ha]
  cases a with
  | true => exact hb rfl
  | false => rfl
theorem v_notV {a : Bool} (ha : fa ρ g = .ok (.d (.bool a)) g) : fNotV fa ρ g = .ok (.d (.bool (!a))) g := by unfold fNotV; rw [v_test ha]; rfl
/-- two comparisons in a row -/
theorem v_chain {o o' : O2} {a b : Bool} (ha : fDat fa ρ g = .ok xa g) (hb : fDat fb ρ g = .ok xb g) (ho : o xa xb = some (.d (.bool a))) (hc : a = true → fDat fc ρ g = .ok xc g) (ho' : a = true → o' xb xc = some (.d (.bool b))) : fChain o o' fa fb fc ρ g = .ok (.d (.bool (a && b))) g := by
  unfold fChain
  rw [ha]
  show ((fDat fb ρ g).bind _) = _
  rw [hb]
  show ((R.ofO (o _ _) g).bind _) = _
  rw [ho]
  cases a with
  | false => rfl
  | true =>
    show ((fDat fc ρ g).bind _) = _
    rw [hc rfl]
    show R.ofO (o' _ _) g = _
    rw [ho' rfl]; rfl
theorem va_nil : aNil ρ g = .ok [] g := rfl
theorem va_cons {fr : EFa} {as : List AV} (h : f ρ g = .ok r g) (d : isDat r = true) (t : fr ρ g = .ok as g) : aCons f fr ρ g = .ok (.d (frz r) :: as) g := by
  unfold aCons
  rw [h]
  show ((asAR r g).bind _) = _
  rw [asAR_frz d]
  show ((fr ρ g).bind _) = _
  rw [t]; rfl
theorem va_d {fr : EFa} {as : List AV} {x : PyData} (h : f ρ g = .ok (.d x) g) (t : fr ρ g = .ok as g) : aCons f fr ρ g = .ok (.d x :: as) g := va_cons h rfl t
theorem va_l {fr : EFa} {as : List AV} {x : List PyData} (h : f ρ g = .ok (.nl x) g) (t : fr ρ g = .ok as g) : aCons f fr ρ g = .ok (.d (.list x) :: as) g := va_cons h rfl t
theorem va_n {fr : EFa} {as : List AV} {x : List (PyData × PyData)} (h : f ρ g = .ok (.nd false x) g) (t : fr ρ g = .ok as g) : aCons f fr ρ g = .ok (.d (.dict x) :: as) g := va_cons h rfl t
theorem va_conso {fr : EFa} {as : List AV} {v : V} (h : f ρ g = .ok (.o v) g) (t : fr ρ g = .ok as g) : aCons f fr ρ g = .ok (.o v :: as) g := by
  unfold aCons
  rw [h]
  show ((fr ρ g).bind _) = _
  rw [t]; rfl
theorem v_tup {fs : EFa} {as : List AV} {ds : List PyData} (h : fs ρ g = .ok as g) (hl : Nat.ble as.length 1000 = true) (hd : allD as = some ds) : fTup fs ρ g = .ok (.d (.tuple ds)) g := by
  unfold fTup
  rw [h]
  show ((allDR as g).bind _) = _
  unfold allDR
  rw [if_pos (Nat.le_trans (Nat.le_of_ble_eq_true hl) (by decide)), hd]; rfl
theorem v_lst {fs : EFa} {as : List AV} {ds : List PyData} (h : fs ρ g = .ok as g) (hl : Nat.ble as.length 1000 = true) (hd : allD as = some ds) : fLst fs ρ g = .ok (.nl ds) g := by
  unfold fLst
  rw [h]
  show ((allDR as g).bind _) = _
  unfold allDR
  rw [if_pos (Nat.le_trans (Nat.le_of_ble_eq_true hl) (by decide)), hd]; rfl
theorem v_cb {o : OA} {fs : EFa} {as : List AV} (h : fs ρ g = .ok as g) (ho : o as = some r) : fCB o fs ρ g = .ok r g := by
  unfold fCB
  rw [h]
  show R.ofO (o as) g = _
  rw [ho]; rfl
theorem v_call {F : FnSp} {fs : EFa} {as : List AV} (h : fs ρ g = .ok as g) (ho : F as g = .ok r g) : fCall F fs ρ g = .ok r g := by
  unfold fCall
  rw [h]
  exact ho
theorem v_callK {n m : Nat} {ix : List Nat} {F : FnSp} {fs fk : EFa} {as bs : List AV} (h : fs ρ g = .ok as g) (hk : fk ρ g = .ok bs g) (ho : F (perm n m ix as bs) g = .ok r g) : fCallK n m ix F fs fk ρ g = .ok r g := by
  unfold fCallK
  rw [h]
  show ((fk ρ g).bind _) = _
  rw [hk]
  exact ho
theorem v_m {T : String} {o : OM} {fs : EFa} {as : List AV} (h : fDat fa ρ g = .ok xa g) (ht : tyD xa = T) (hs : fs ρ g = .ok as g) (ho : o xa as = some r) : fM T o fa fs ρ g = .ok r g := by
  unfold fM
  rw [h]
  show (if tyD xa = T then _ else _) = _
  rw [if_pos ht, hs]
  show R.ofO (o _ as) g = _
  rw [ho]; rfl
theorem vo_n : oN ρ g = .ok none g := rfl
theorem vo_s {i : Int} (h : f ρ g = .ok (.d (.int i)) g) : oS f ρ g = .ok (some i) g := by unfold oS; rw [h]; rfl
theorem v_sl {fl fh : EFo} {lo hi : Option Int} (h : fDat fa ρ g = .ok xa g) (hl : fl ρ g = .ok lo g) (hh : fh ρ g = .ok hi g) (ho : oSl xa lo hi = some r) : fSl fa fl fh ρ g = .ok r g := by
  unfold fSl
  rw [h]
  show ((fl ρ g).bind _) = _
  rw [hl]
  show ((fh ρ g).bind _) = _
  rw [hh]
  show R.ofO (oSl _ lo hi) g = _
  rw [ho]; rfl
theorem v_isi {T : String} (ha : fDat fa ρ g = .ok xa g) (hE : isE xa = false := by rfl) : fIsi T fa ρ g = .ok (.d (.bool (isD T xa))) g := by
  unfold fIsi
  rw [ha]
  show (if isE xa = true then (R.bad : R RV) else _) = _
  rw [hE]; rfl
theorem vi_seq {ds : List PyData} (h : fDat fa ρ g = .ok xa g) (hi : itemsOf xa = some ds) : iaSeq fa ρ g = .ok ds g := by
  unfold iaSeq
  rw [h]
  show R.ofO (itemsOf _) g = _
  rw [hi]; rfl
theorem vi_b {o : List AV → Option (List PyData)} {fs : EFa} {as : List AV} {ds : List PyData} (h : fs ρ g = .ok as g) (ho : o as = some ds) : iaB o fs ρ g = .ok ds g := by
  unfold iaB
  rw [h]
  show R.ofO (o as) g = _
  rw [ho]; rfl
theorem cp_lst {α : Type} {e : α → PyData} {c : α → Bool} {y : α → PyData} {fg : EFg} {ft : EFt} :
    ∀ (xs : List α) (acc : List PyData), (∀ x ∈ xs, ∃ ρ2, fg (e x) ρ = some ρ2 ∧ ft ρ2 g = .ok (c x) g ∧ (c x = true → fDat fe ρ2 g = .ok (y x) g)) →
      cpR (cpStep fg ft (bLstU fe) ρ) (xs.map e) acc g = .ok (acc ++ (xs.filter c).map y) g
  | [], acc, _ => by simp [cpR]
  | x :: xs, acc, h => by
    obtain ⟨ρ2, h1, h2, h3⟩ := h x (by simp)
    rw [List.map_cons, cpR]
    have key : cpStep fg ft (bLstU fe) ρ (e x) acc g = .ok (if c x = true then acc ++ [y x] else acc) g := by
      unfold cpStep
      rw [h1]
      show (ft ρ2 g).bind _ = _
      rw [h2]
      show (if c x = true then bLstU fe ρ2 acc g else .ok acc g) = _
      by_cases q : c x = true
      · rw [if_pos q, if_pos q]
        unfold bLstU
        rw [h3 q]; rfl
      · rw [if_neg q, if_neg q]
    rw [key]
    show cpR _ (xs.map e) _ g = _
    by_cases q : c x = true
    · rw [if_pos q, cp_lst xs _ (fun x hx => h x (by simp [hx])), List.filter_cons_of_pos q]
      simp
    · rw [if_neg q, cp_lst xs _ (fun x hx => h x (by simp [hx])), List.filter_cons_of_neg (by simpa using q)]
/-- [h for x in xs if c] -/
theorem v_lc {α β : Type} {xs : List α} {e : α → PyData} {c : α → Bool} {h : α → β} {e' : β → PyData} {fi : EFi} {fg : EFg} {ft : EFt} {vs : List Nat} (hi : fi ρ g = .ok (xs.map e) g)
    (hb : ∀ x ∈ xs, ∃ ρ2, fg (e x) (wipeD ρ vs) = some ρ2 ∧ ft ρ2 g = .ok (c x) g ∧ (c x = true → fDat fe ρ2 g = .ok (e' (h x)) g)) : fLcU fi fg ft fe vs ρ g = .ok (.nl (((xs.filter c).map h).map e')) g := by
  unfold fLcU fCp
  rw [hi]
  show ((cpR _ (xs.map e) [] g).nox.bind _) = _
  rw [cp_lst xs [] (y := fun x => e' (h x)) hb, List.map_map]
  rfl
/-- without a test -/
theorem v_lc0 {α β : Type} {xs : List α} {e : α → PyData} {h : α → β} {e' : β → PyData} {fi : EFi} {fg : EFg} {vs : List Nat} (hi : fi ρ g = .ok (xs.map e) g)
    (hb : ∀ x ∈ xs, ∃ ρ2, fg (e x) (wipeD ρ vs) = some ρ2 ∧ fDat fe ρ2 g = .ok (e' (h x)) g) : fLcU fi fg fYes fe vs ρ g = .ok (.nl ((xs.map h).map e')) g := by
  have := v_lc (ρ := ρ) (g := g) (fe := fe) (c := fun _ => true) (h := h) (e' := e') (ft := fYes) (vs := vs) hi fun x hx => by
    obtain ⟨ρ2, h1, h2⟩ := hb x hx
    exact ⟨ρ2, h1, rfl, fun _ => h2⟩
  rw [this, List.filter_eq_self.mpr fun _ _ => rfl]
theorem vi_seqZ {ds : List PyData} (h : fDat fa ρ g = .ok xa g) (hi : itemsZ xa = some ds) : iaSeqZ fa ρ g = .ok ds g := by
  unfold iaSeqZ
  rw [h]
  show R.ofO (itemsZ _) g = _
  rw [hi]; rfl
def letv {α β : Type} (v : α) (k : α → β) : β := k v
end
end Fx

namespace Fx
open PySem L2

/-- what a block comes to -/
def RG {γ : Type} (b : EFs) (ρ : List SD) (g : Gs) (M : R γ) (P : γ → Out → Prop) : Prop := match M with
  | .ok c g' => ∃ o, b ρ g = .ok o g' ∧ P c o
  | .exc x g' => ∃ ρ', b ρ g = .ok (.ex x ρ') g'
  | .bad => True
/-- a def's end -/
def Rt {γ : Type} (w : γ → RV) (v : γ) (o : Out) : Prop := o = .rt (w v)
/-- .. of a def that returns nothing -/
def RtN (v : Unit) (o : Out) : Prop := (∃ ρ, o = .nx ρ) ∨ o = .rt (.d .none)
/-- what a turn of a loop leaves: a value returned, or the loop's state -/
inductive Bl (β σ : Type) where
  | ret (b : β)
  | nx (s : σ)
def Nx {σ : Type} (Rσ : σ → List SD → Prop) (s : σ) (o : Out) : Prop := ∃ ρ', (o = .nx ρ' ∨ o = .ct ρ') ∧ Rσ s ρ'
def Rb {β σ : Type} (w : β → RV) (Rσ : σ → List SD → Prop) (r : Bl β σ) (o : Out) : Prop := match r with
  | .ret b => o = .rt (w b)
  | .nx s => ∃ ρ', (o = .nx ρ' ∨ o = .ct ρ') ∧ Rσ s ρ'
section
variable {γ : Type} {ρ : List SD} {g : Gs} {b t e h : EFs} {fe : EF} {M : R γ} {P : γ → Out → Prop}
theorem seq_next (b : EFs) (ρ : List SD) (g : Gs) : fSeq b fNext ρ g = b ρ g := by
  unfold fSeq
  cases b ρ g with
  | ok o g' => cases o <;> rfl
  | exc x g' => rfl
  | bad => rfl
theorem seq_assoc (a b h : EFs) (ρ : List SD) (g : Gs) : fSeq (fSeq a b) h ρ g = fSeq a (fSeq b h) ρ g := by
  unfold fSeq
  cases a ρ g with
  | ok o g' => cases o <;> rfl
  | exc x g' => rfl
  | bad => rfl
theorem RG.eq (q : b ρ g = t ρ g) (k : RG t ρ g M P) : RG b ρ g M P := by
  unfold RG at *
  rw [q]
  exact k
theorem g_last (k : RG (fSeq b fNext) ρ g M P) : RG b ρ g M P := RG.eq (seq_next b ρ g).symm k
theorem g_assoc (k : RG (fSeq t (fSeq b h)) ρ g M P) : RG (fSeq (fSeq t b) h) ρ g M P := RG.eq (seq_assoc t b h ρ g) k
theorem g_next {c : γ} (p : P c (.nx ρ)) : RG fNext ρ g (.ok c g) P := ⟨_, rfl, p⟩
theorem g_nextS (k : RG h ρ g M P) : RG (fSeq fNext h) ρ g M P := RG.eq rfl k
/-- the value of an expression, as a statement's first look -/
theorem stx_ok {α : Type} {m : R α} {a : α} {g1 : Gs} {k : α → Gs → R Out} (q : m = .ok a g1) : m.stx ρ k = k a g1 := by rw [q]; rfl
theorem g_ret {v : γ} {r : RV} (q : fe ρ g = .ok r g) (p : P v (.rt r)) : RG (fSeq (fRet fe) h) ρ g (.ok v g) P := by
  refine ⟨_, ?_, p⟩
  unfold fSeq fRet
  rw [stx_ok q]; rfl
theorem g_retV {i : Nat} {v : γ} {r : RV} (q : rtSD ρ[i]? g = .ok (.rt r) g) (p : P v (.rt r)) : RG (fSeq (fRetV i) h) ρ g (.ok v g) P := by
  refine ⟨_, ?_, p⟩
  unfold fSeq fRetV
  rw [q]; rfl
theorem g_asg {fg : EFg} {x : PyData} {ρ' : List SD} (q : fDat fe ρ g = .ok x g) (q2 : fg x ρ = some ρ') (k : RG h ρ' g M P) : RG (fSeq (fAsg fe fg) h) ρ g M P := by
  refine RG.eq (t := fun _ g => h ρ' g) ?_ k
  unfold fSeq fAsg
  rw [stx_ok q, q2]; rfl
theorem g_drop {r : RV} (q : fe ρ g = .ok r g) (k : RG h ρ g M P) : RG (fSeq (fDrop fe) h) ρ g M P := by
  refine RG.eq ?_ k
  unfold fSeq fDrop
  rw [stx_ok q]; rfl
theorem g_fz {i : Nat} {s : SD} (q : fzSD ρ[i]? = some (some s)) (k : RG (fSeq b h) (ρ.set i s) g M P) : RG (fSeq (fFz i b) h) ρ g M P := by
  refine RG.eq (t := fun _ g => fSeq b h (ρ.set i s) g) ?_ k
  unfold fSeq fFz
  rw [q]
theorem g_fz0 {i : Nat} (q : fzSD ρ[i]? = some none) (k : RG (fSeq b h) ρ g M P) : RG (fSeq (fFz i b) h) ρ g M P := by
  refine RG.eq ?_ k
  unfold fSeq fFz
  rw [q]
theorem if_seq {ft : EFt} {c : Bool} (q : ft ρ g = .ok c g) : fSeq (fIfS ft t e) h ρ g = (if c = true then fSeq t h ρ g else fSeq e h ρ g) := by
  unfold fSeq fIfS
  rw [stx_ok q]
  cases c <;> rfl
theorem g_if {ft : EFt} {c : Bool} {v1 v2 : γ} (q : ft ρ g = .ok c g) (k1 : c = true → RG (fSeq t h) ρ g (.ok v1 g) P) (k2 : c = false → RG (fSeq e h) ρ g (.ok v2 g) P) : RG (fSeq (fIfS ft t e) h) ρ g (.ok (if c = true then v1 else v2) g) P := by
  unfold RG
  rw [if_seq q]
  cases c with
  | true => exact k1 rfl
  | false => exact k2 rfl
theorem g_ifF {ft : EFt} (q : ft ρ g = .ok false g) (k : RG (fSeq e h) ρ g M P) : RG (fSeq (fIfS ft t e) h) ρ g M P := RG.eq (if_seq q) (by simpa using k)
theorem for_nx {fg : EFg} {fb : EFs} {d : PyData} {ds : List PyData} {ρ1 ρ2 : List SD} {o : Out} (h1 : fg d ρ = some ρ1) (h2 : fb ρ1 g = .ok o g) (ho : o = .nx ρ2 ∨ o = .ct ρ2) : forR fg fb (d :: ds) ρ g = forR fg fb ds ρ2 g := by
  rw [forR, h1]
  show (fb ρ1 g).bind _ = _
  rw [h2]
  rcases ho with rfl | rfl <;> rfl
/-- a loop that may return -/
def loopB {α β σ : Type} (f : σ → α → Bl β σ) : List α → σ → Bl β σ
  | [], s => .nx s
  | x :: xs, s => match f s x with
    | .ret b => .ret b
    | .nx s' => loopB f xs s'
def zLoop {α β σ : Type} (z : σ → α → Prop) (f : σ → α → Bl β σ) : List α → σ → Prop
  | [], _ => True
  | x :: xs, s => z s x ∧ match f s x with
    | .ret _ => True
    | .nx s' => zLoop z f xs s'
theorem for_loop {α β σ : Type} {w : β → RV} {ea : α → PyData} {fg : EFg} {fb : EFs} {Rσ : σ → List SD → Prop} {z : σ → α → Prop} {f : σ → α → Bl β σ}
    (hb : ∀ s x ρ, Rσ s ρ → z s x → ∃ ρ1, fg (ea x) ρ = some ρ1 ∧ RG fb ρ1 g (.ok (f s x) g) (Rb w Rσ)) :
    ∀ (xs : List α) (s : σ) (ρ : List SD), Rσ s ρ → zLoop z f xs s → ∃ o, forR fg fb (xs.map ea) ρ g = .ok o g ∧ (match loopB f xs s with
      | .ret b => o = .rt (w b)
      | .nx s' => ∃ ρ', o = .nx ρ' ∧ Rσ s' ρ')
  | [], s, ρ, hr, _ => ⟨_, rfl, ρ, rfl, hr⟩
  | x :: xs, s, ρ, hr, hz => by
    obtain ⟨ρ1, h1, o, h2, h3⟩ := hb s x ρ hr hz.1
    have hz2 := hz.2
    unfold loopB
    cases e : f s x with
    | ret b =>
      rw [e] at h3
      refine ⟨_, ?_, (rfl : Out.rt (w b) = _)⟩
      rw [List.map_cons, forR, h1]
      show (fb ρ1 g).bind _ = _
      rw [h2, h3]; rfl
    | nx s' =>
      rw [e] at h3 hz2
      obtain ⟨ρ2, ho, hr2⟩ := h3
      obtain ⟨o3, h4, h5⟩ := for_loop hb xs s' ρ2 hr2 hz2
      exact ⟨o3, (for_nx h1 h2 ho).trans h4, h5⟩
theorem g_loop {α β σ : Type} {w : β → RV} {xs : List α} {ea : α → PyData} {fi : EFi} {fg : EFg} {fb : EFs} {z : σ → α → Prop} {f : σ → α → Bl β σ} {s0 : σ} {vr : β → γ} {vn : σ → γ} (Rσ : σ → List SD → Prop) (hi : fi ρ g = .ok (xs.map ea) g) (h0 : Rσ s0 ρ) (hz : zLoop z f xs s0)
    (hb : ∀ s x ρ, Rσ s ρ → z s x → ∃ ρ1, fg (ea x) ρ = some ρ1 ∧ RG fb ρ1 g (.ok (f s x) g) (Rb w Rσ)) (kr : ∀ b, loopB f xs s0 = .ret b → P (vr b) (.rt (w b))) (k : ∀ s ρ', loopB f xs s0 = .nx s → Rσ s ρ' → RG h ρ' g (.ok (vn s) g) P) :
    RG (fSeq (fFor fi fg fb) h) ρ g (.ok (match loopB f xs s0 with | .ret b => vr b | .nx s => vn s) g) P := by
  obtain ⟨o, h1, h2⟩ := for_loop hb xs s0 ρ h0 hz
  cases e : loopB f xs s0 with
  | ret b =>
    rw [e] at h2
    subst h2
    refine ⟨_, ?_, kr b e⟩
    unfold fSeq fFor
    rw [stx_ok hi, h1]; rfl
  | nx s =>
    rw [e] at h2
    obtain ⟨ρ', rfl, hr⟩ := h2
    refine RG.eq (t := fun _ g => h ρ' g) ?_ (k s ρ' e hr)
    unfold fSeq fFor
    rw [stx_ok hi, h1]; rfl
end
theorem not_ofF {b : Bool} (h : (!b) = false) : b = true := by cases b <;> first | rfl | cases h
theorem and_l {a b : Bool} (h : (a && b) = true) : a = true := by cases a <;> first | rfl | cases h
theorem and_r {a b : Bool} (h : (a && b) = true) : b = true := by cases a <;> first | exact h | cases h
theorem or_l {a b : Bool} (h : (a || b) = false) : a = false := by cases a <;> first | rfl | cases h
theorem or_r {a b : Bool} (h : (a || b) = false) : b = false := by cases a <;> first | exact h | cases h
theorem ok_of {α : Type} {m : R α} {a b : α} {g : Gs} (e : a = b) (h : m = .ok a g) : m = .ok b g := e ▸ h
theorem zLoop_true {α β σ : Type} {f : σ → α → Bl β σ} : ∀ (xs : List α) {s : σ}, zLoop (fun _ _ => True) f xs s
  | [], _ => trivial
  | x :: xs, s => ⟨trivial, by
    cases f s x with
    | ret b => trivial
    | nx s' => exact zLoop_true xs⟩
section
variable {γ : Type} {ρ : List SD} {g : Gs} {h : EFs} {M : R γ} {P : γ → Out → Prop}
end
theorem f_ret {γ : Type} {np n : Nat} {b : EFs} {as : List AV} {g : Gs} {v : γ} {w : γ → RV} (hl : as.length = np) (k : RG b (slots n as) g (.ok v g) (Rt w)) : fnR np n b as g = .ok (w v) g := by
  obtain ⟨o, h1, h2⟩ := k
  unfold fnR
  rw [if_pos hl, h1, show o = .rt (w v) from h2]; rfl
theorem f_none {np n : Nat} {b : EFs} {as : List AV} {g : Gs} (hl : as.length = np) (k : RG b (slots n as) g (.ok () g) RtN) : fnR np n b as g = .ok (.d .none) g := by
  obtain ⟨o, h1, h2⟩ := k
  unfold fnR
  rw [if_pos hl, h1]
  rcases h2 with ⟨ρ, rfl⟩ | rfl <;> rfl
theorem f_retM {γ : Type} {np n : Nat} {b : EFs} {as : List AV} {g : Gs} {M : R γ} {w : γ → RV} (hl : as.length = np) (k : RG b (slots n as) g M (Rt w)) : RX (fnR np n b as g) M w := by
  unfold fnR
  rw [if_pos hl]
  cases M with
  | ok v g' =>
    obtain ⟨o, h1, h2⟩ := k
    rw [h1, show o = .rt (w v) from h2]; rfl
  | exc x g' =>
    obtain ⟨ρ', h1⟩ := k
    rw [h1]; rfl
  | bad => trivial
end Fx

namespace Fx
open PySem L2

structure EqK {α : Type} [DecidableEq α] (n : Nat) (e : α → PyData) : Prop where
  pl : ∀ a, (e a).plain = true
  dp : ∀ a, (e a).depth ≤ n
  eq : ∀ a b, PyData.eqv (e a) (e b) = decide (a = b)
section
variable {α β γ : Type} [DecidableEq α] [DecidableEq β] [DecidableEq γ] {n m k : Nat} {e : α → PyData} {e' : β → PyData} {e'' : γ → PyData}
theorem EqK.up (h : EqK n e) (hm : n ≤ m) : EqK m e := ⟨h.pl, fun a => Nat.le_trans (h.dp a) hm, h.eq⟩
theorem ek_int : EqK 0 PyData.int := ⟨fun a => by simp [PyData.plain], fun a => by simp [PyData.depth], fun a b => by simp only [PyData.eqv]; by_cases c : a = b <;> simp [c]⟩
theorem ek_str : EqK 0 PyData.str := ⟨fun a => by simp [PyData.plain], fun a => by simp [PyData.depth], fun a b => by simp only [PyData.eqv]; by_cases c : a = b <;> simp [c]⟩
theorem plainAll_mp (h : ∀ a, (e a).plain = true) : ∀ xs : List α, PyData.plainAll (xs.map e) = true
  | [] => rfl
  | x :: xs => by rw [List.map_cons, PyData.plainAll, h, plainAll_mp h xs]; rfl
theorem depthAll_mp (h : ∀ a, (e a).depth ≤ n) : ∀ xs : List α, PyData.depthAll (xs.map e) ≤ n
  | [] => Nat.zero_le _
  | x :: xs => by
    rw [List.map_cons, PyData.depthAll]
    have := h x
    have := depthAll_mp h xs
    omega
theorem eqvAll_mp (h : ∀ a b, PyData.eqv (e a) (e b) = decide (a = b)) : ∀ xs ys : List α, PyData.eqvAll (xs.map e) (ys.map e) = decide (xs = ys)
  | [], [] => by simp [PyData.eqvAll]
  | [], y :: ys => by simp [PyData.eqvAll]
  | x :: xs, [] => by simp [PyData.eqvAll]
  | x :: xs, y :: ys => by
    rw [List.map_cons, List.map_cons, PyData.eqvAll, h, eqvAll_mp h xs ys]
    by_cases c : x = y <;> by_cases d : xs = ys <;> simp [c, d]
theorem ek_T (h : EqK n e) : EqK (n + 1) (eT e) := ⟨fun xs => by unfold eT; rw [PyData.plain]; exact plainAll_mp h.pl xs, fun xs => by unfold eT; rw [PyData.depth]; have := depthAll_mp h.dp xs; omega, fun xs ys => by unfold eT; rw [PyData.eqv]; exact eqvAll_mp h.eq xs ys⟩
theorem ek_L (h : EqK n e) : EqK (n + 1) (eL e) := ⟨fun xs => by unfold eL; rw [PyData.plain]; exact plainAll_mp h.pl xs, fun xs => by unfold eL; rw [PyData.depth]; have := depthAll_mp h.dp xs; omega, fun xs ys => by unfold eL; rw [PyData.eqv]; exact eqvAll_mp h.eq xs ys⟩
theorem ek_P (h : EqK n e) (h' : EqK m e') : EqK (max n m + 1) (eP e e') where
  pl := fun x => by simp [eP, PyData.plain, PyData.plainAll, h.pl, h'.pl]
  dp := fun x => by
    have := h.dp x.1
    have := h'.dp x.2
    simp only [eP, PyData.depth, PyData.depthAll]
    omega
  eq := fun x y => by
    obtain ⟨a, b⟩ := x
    obtain ⟨c, d⟩ := y
    simp only [eP, PyData.eqv, PyData.eqvAll, Bool.and_true, h.eq, h'.eq]
    by_cases p : a = c <;> by_cases q : b = d <;> simp [p, q]
/-- None, or data that is not None -/
theorem ek_O (h : EqK n e) (hn : ∀ a, e a ≠ .none) : EqK n (eO e) where
  pl := fun x => by cases x with
    | none => simp [eO, PyData.plain]
    | some a => exact h.pl a
  dp := fun x => by cases x with
    | none => simp [eO, PyData.depth]
    | some a => exact h.dp a
  eq := fun x y => by
    cases x with
    | none =>
      cases y with
      | none => simp [eO, PyData.eqv]
      | some b =>
        have := hn b
        simp only [eO]
        cases e' : e b with
        | none => exact absurd e' this
        | _ => simp [PyData.eqv]
    | some a =>
      cases y with
      | none =>
        have := hn a
        simp only [eO]
        cases e' : e a with
        | none => exact absurd e' this
        | _ => simp [PyData.eqv]
      | some b =>
        simp only [eO, h.eq, Option.some.injEq]
theorem EqK.ok (h : EqK n e) (hn : n ≤ 64) (a : α) : Fx.pl (e a) = true := by
  unfold Fx.pl
  rw [h.pl, decide_eq_true (Nat.le_trans (h.dp a) hn)]; rfl
theorem q_eq (h : EqK n e) (a b : α) (hn : n ≤ 64 := by decide) : oEq (e a) (e b) = some (.d (.bool (decide (a = b)))) := by unfold oEq; rw [if_pos ⟨h.ok hn a, h.ok hn b⟩, h.eq]
theorem q_ne (h : EqK n e) (a b : α) (hn : n ≤ 64 := by decide) : oNe (e a) (e b) = some (.d (.bool (decide (a ≠ b)))) := by unfold oNe; rw [if_pos ⟨h.ok hn a, h.ok hn b⟩, h.eq, decide_not]
end
def slt (a b : Str) : Bool := decide (a.cps.toList < b.cps.toList)
def ilt (a b : Int) : Bool := decide (a < b)
def lxL {α : Type} [DecidableEq α] (lt : α → α → Bool) : List α → List α → Bool
  | [], [] => false
  | [], _ :: _ => true
  | _ :: _, [] => false
  | x :: xs, y :: ys => if x = y then lxL lt xs ys else lt x y
def lxP {α β : Type} [DecidableEq α] (l1 : α → α → Bool) (l2 : β → β → Bool) (a b : α × β) : Bool := if a.1 = b.1 then l2 a.2 b.2 else l1 a.1 b.1
structure OrdK {α : Type} [DecidableEq α] (n : Nat) (e : α → PyData) (lt : α → α → Bool) : Prop extends EqK n e where
  al : ∀ a b, PySem.W.alike (e a) (e b) = true
  lt : ∀ a b, PySem.W.dataLt (e a) (e b) = lt a b
  nl : ∀ a, noL (e a) = true
section
variable {α β : Type} [DecidableEq α] [DecidableEq β] {n m : Nat} {e : α → PyData} {e' : β → PyData} {l1 : α → α → Bool} {l2 : β → β → Bool}
theorem ok_int : OrdK 0 PyData.int ilt := { ek_int with al := fun a b => rfl, lt := PySem.W.dataLt_int, nl := fun _ => rfl }
theorem ok_str : OrdK 0 PyData.str slt := { ek_str with al := fun a b => rfl, lt := PySem.W.dataLt_str, nl := fun _ => rfl }
theorem alikeAll_mp (h : ∀ a b, PySem.W.alike (e a) (e b) = true) : ∀ xs ys : List α, PySem.W.alikeAll (xs.map e) (ys.map e) = true
  | [], _ => by simp [PySem.W.alikeAll]
  | _ :: _, [] => by simp [PySem.W.alikeAll]
  | x :: xs, y :: ys => by rw [List.map_cons, List.map_cons, PySem.W.alikeAll, h, alikeAll_mp h xs ys]; rfl
theorem noLA_mp (h : ∀ a, noL (e a) = true) : ∀ xs : List α, noLA (xs.map e) = true
  | [] => rfl
  | x :: xs => by rw [List.map_cons, noLA, h, noLA_mp h xs]; rfl
theorem lt_all (h : OrdK n e l1) : ∀ xs ys : List α, PyProof.Rows.lexLt PyProof.Rows.itemOrd (PySem.W.keyToksAll (xs.map e)) (PySem.W.keyToksAll (ys.map e)) = lxL l1 xs ys
  | [], [] => by simp only [List.map_nil, PySem.W.keyToksAll, lxL, PyProof.Rows.lex_irrefl]
  | [], y :: ys => by
    simp only [List.map_nil, List.map_cons, PySem.W.keyToksAll, lxL]
    rw [PySem.W.lex_atom (by simp), PySem.W.lex_one]
    rfl
  | x :: xs, [] => by
    simp only [List.map_nil, List.map_cons, PySem.W.keyToksAll, lxL]
    rw [PySem.W.lex_atom (by simp), PySem.W.lex_one]
    rfl
  | x :: xs, y :: ys => by
    simp only [List.map_cons, lxL]
    by_cases c : x = y
    · rw [if_pos c, ← lt_all h xs ys]
      exact PySem.W.dataLt_all_yes (h.al x y) (by rw [h.eq]; exact decide_eq_true c)
    · rw [if_neg c, ← h.lt x y]
      exact PySem.W.dataLt_all_no (h.al x y) (by rw [h.eq]; exact decide_eq_false c)
theorem ok_T (h : OrdK n e l1) : OrdK (n + 1) (eT e) (lxL l1) := { ek_T h.toEqK with
  al := fun xs ys => by unfold eT; rw [PySem.W.alike]; exact alikeAll_mp h.al xs ys
  lt := fun xs ys => by unfold eT; rw [PySem.W.dataLt_tuple]; exact lt_all h xs ys
  nl := fun xs => by unfold eT; rw [noL]; exact noLA_mp h.nl xs }
theorem ok_P (h : OrdK n e l1) (h' : OrdK m e' l2) : OrdK (max n m + 1) (eP e e') (lxP l1 l2) := { ek_P h.toEqK h'.toEqK with
  al := fun x y => by simp only [eP, PySem.W.alike, PySem.W.alikeAll, h.al, h'.al, Bool.and_self]
  lt := fun x y => by
    unfold eP lxP
    rw [PySem.W.dataLt_pair (h.al _ _) (h'.al _ _), h.eq, h'.eq, h.lt, h'.lt]
    by_cases c : x.1 = y.1
    · simp only [c, decide_true, if_true]
      by_cases d : x.2 = y.2
      · simp only [d, decide_true, if_true]
        have := h'.lt y.2 y.2
        rw [← this]
        exact (PyProof.Rows.lex_irrefl _).symm
      · simp only [d, decide_false, Bool.false_eq_true, if_false]
    · simp only [c, decide_false, Bool.false_eq_true, if_false]
  nl := fun x => by simp only [eP, noL, noLA, h.nl, h'.nl, Bool.and_self] }
/-- sorted, as Python sorts -/
def srt (lt : α → α → Bool) (xs : List α) : List α := xs.mergeSort fun a b => !lt b a
/-- may be sorted: all of them tuples with an item, or none -/
def Srtb (e : α → PyData) (xs : List α) : Prop := PySem.W.Sortable (xs.map e)
theorem sortOk_mp (h : OrdK n e l1) {xs : List α} (hs : Srtb e xs) (hn : n ≤ 64 := by decide) : SortOk (xs.map e) where
  al := fun d hd d' hd' => by
    obtain ⟨x, _, rfl⟩ := List.mem_map.mp hd
    obtain ⟨y, _, rfl⟩ := List.mem_map.mp hd'
    exact h.al x y
  so := hs
  no := noLA_mp h.nl xs
  dp := fun d hd => by
    obtain ⟨x, _, rfl⟩ := List.mem_map.mp hd
    exact Nat.le_trans (h.dp x) hn
theorem sortD_mp (h : OrdK n e l1) (xs : List α) : sortD (xs.map e) = (srt l1 xs).map e := by
  unfold srt sortD
  refine (List.map_mergeSort fun a _ b _ => ?_).symm
  show (!l1 b a) = PySem.W.dataLe false id (e a) (e b)
  rw [← h.lt]
  rfl
theorem srtb_str (xs : List Str) : Srtb PyData.str xs := .inr fun d hd => by
  obtain ⟨x, _, rfl⟩ := List.mem_map.mp hd
  exact ⟨fun z => (by cases z), fun ys z => (by cases z)⟩
end
end Fx

namespace Fx
open PySem L2

abbrev ePr := eP PyData.str PyData.int
abbrev ePl := eT ePr
abbrev eA : PyData → PyData := fun x => x
section
variable {α β γ : Type} {e : α → PyData} {e' : β → PyData}
theorem nn_int : ∀ a, PyData.int a ≠ .none := fun _ z => by cases z
theorem q_addL (xs ys : List α) (h : xs.length + ys.length ≤ sizeLine) : oAdd (eL e xs) (eL e ys) = some (.nl ((xs ++ ys).map e)) := by
  unfold eL oAdd
  simp only [List.length_map]
  rw [if_pos h, List.map_append]
theorem q_addT (xs ys : List α) (h : xs.length + ys.length ≤ sizeLine) : oAdd (eT e xs) (eT e ys) = some (.d (eT e (xs ++ ys))) := by
  unfold eT oAdd
  simp only [List.length_map]
  rw [if_pos h, List.map_append]
theorem q_addS (x y : Str) (h : x.length + y.length ≤ sizeLine) : oAdd (.str x) (.str y) = some (.d (.str (x ++ y))) := if_pos h
theorem q_pow {i j : Int} (h : 0 ≤ j ∧ (Builtin.Int.intBits i : Int) * j ≤ 2 ^ 27) : oPow (.int i) (.int j) = some (.d (.int (i ^ j.toNat))) := if_pos h
theorem q_lenL (xs : List α) : oLen (eL e xs) = some (.d (.int xs.length)) := by unfold eL; show some (RV.d (.int (xs.map e).length)) = _; rw [List.length_map]
theorem q_lenT (xs : List α) : oLen (eT e xs) = some (.d (.int xs.length)) := by unfold eT; show some (RV.d (.int (xs.map e).length)) = _; rw [List.length_map]
theorem q_lenS (x : Str) (h : x.length ≤ sizeLine) : oLen (.str x) = some (.d (.int x.length)) := if_pos h
theorem ixN_map (xs : List α) (i : Int) : atI (xs.map e) i = (atI xs i).map e := by
  unfold atI
  rw [List.length_map]
  cases ixN xs.length i with
  | none => rfl
  | some j => simp [List.getElem?_map]
theorem q_ixT {xs : List α} {i : Int} {d : α} (h : (atI xs i).isSome = true) : oIx (eT e xs) (.int i) = some (.d (e ((atI xs i).getD d))) := by
  unfold eT
  show (atI (xs.map e) i).map RV.d = _
  rw [ixN_map]
  cases q : atI xs i with
  | none => rw [q] at h; cases h
  | some a => rfl
/-- xs[lo:hi] -/
def cut (xs : List α) (lo hi : Option Int) : List α := (xs.drop (HT.sIx xs.length 0 lo)).take (HT.sIx xs.length xs.length hi - HT.sIx xs.length 0 lo)
theorem cut_map (xs : List α) (lo hi : Option Int) : cutD (xs.map e) lo hi = (cut xs lo hi).map e := by
  unfold cutD cut
  rw [List.length_map, ← List.map_drop, ← List.map_take]
theorem q_slT (xs : List α) (lo hi : Option Int) : oSl (eT e xs) lo hi = some (.d (eT e (cut xs lo hi))) := by
  unfold eT
  show some (RV.d (.tuple (cutD (xs.map e) lo hi))) = _
  rw [cut_map]
theorem boolsD_mp (f : α → Bool) (l : List α) : boolsD (l.map fun x => PyData.bool (f x)) = some (l.map f) := by
  induction l with
  | nil => rfl
  | cons x l ih => show (boolsD (l.map fun x => PyData.bool (f x))).map (f x :: ·) = _; rw [ih]; rfl
theorem q_all (bs : List Bool) : oAll (eL PyData.bool bs) = some (.d (.bool (bs.all id))) := by
  unfold eL
  show (boolsD (bs.map fun x => PyData.bool (id x))).map _ = _
  rw [boolsD_mp]
  simp
theorem q_min2 (i j : Int) : oMin2 (.int i) (.int j) = some (.d (.int (min i j))) := by
  show some (RV.d (.int (if j < i then j else i))) = _
  rw [show (if j < i then j else i) = min i j by split <;> omega]
theorem q_zipT (xs : List α) (ys : List β) : oZip [.d (eT e xs), .d (eT e' ys)] = some ((xs.zip ys).map (eP e e')) := by
  unfold eT oZip
  show some (((xs.map e).zip (ys.map e')).map _) = _
  rw [List.zip_map, List.map_map]
  rfl
/-- range(a, b) -/
def rng (lo hi : Int) : List Int := (List.range (hi - lo).toNat).map fun (k : Nat) => lo + (k : Int)
theorem rngD_mp (lo : Int) (n : Nat) : rngD lo n = ((List.range n).map fun (k : Nat) => lo + (k : Int)).map PyData.int := by
  unfold rngD
  rw [List.map_map]
  rfl
theorem q_rng1 {n : Int} (h : n < 2 ^ 62) (h0 : -(2 ^ 62) ≤ n) : oRng1 [.d (.int n)] = some ((rng 0 n).map PyData.int) := by
  unfold oRng1
  show (if -(2 ^ 62) ≤ n ∧ n < 2 ^ 62 then some (rngD 0 n.toNat) else none) = _
  rw [if_pos ⟨h0, h⟩, rngD_mp]
  unfold rng
  rw [Int.sub_zero]
end
section
variable {α β : Type} [DecidableEq α] {e : α → PyData} {e' : β → PyData}
/-- a kind of flat keys -/
structure KeyK (e : α → PyData) (k : α → Key) : Prop where
  kk : ∀ a, dkey (e a) = some (k a)
  d : ∀ a, toDK (e a) = some (.f (k a))
  i : ∀ a b, k a = k b → a = b
  b : ∀ a, keyD (k a) = e a
theorem kk_str : KeyK PyData.str Sum.inr := ⟨fun _ => rfl, fun _ => rfl, fun a b h => by cases h; rfl, fun _ => rfl⟩
theorem kk_int : KeyK PyData.int Sum.inl := ⟨fun _ => rfl, fun _ => rfl, fun a b h => by cases h; rfl, fun _ => rfl⟩
def dlk (ks : List (α × β)) (a : α) : Option β := (ks.find? fun p => decide (p.1 = a)).map (·.2)
def dset (ks : List (α × β)) (a : α) (b : β) : List (α × β) := if (ks.any fun p => decide (p.1 = a)) = true then ks.map fun p => if p.1 = a then (p.1, b) else p else ks ++ [(a, b)]
def dmk (ps : List (α × β)) : List (α × β) := ps.foldl (fun ks p => dset ks p.1 p.2) []
variable {k : α → Key}
theorem KeyK.eq (h : KeyK e k) (a b : α) : decide (toDK (e a) = some (.f (k b))) = decide (a = b) := by
  rw [h.d]
  by_cases c : a = b
  · subst c; simp
  · have : ¬ (some (DK.f (k a)) = some (DK.f (k b))) := fun z => c (h.i a b (DK.f.inj (Option.some.inj z)))
    rw [decide_eq_false c, decide_eq_false this]
theorem dget_mp (h : KeyK e k) (ks : List (α × β)) (a : α) : dget (ks.map (kvP e e')) (.f (k a)) = (dlk ks a).map e' := by
  unfold dget dlk
  induction ks with
  | nil => rfl
  | cons p ks ih =>
    rw [List.map_cons, List.find?_cons, List.find?_cons, show decide (toDK (kvP e e' p).1 = some (DK.f (k a))) = decide (p.1 = a) from h.eq p.1 a]
    cases decide (p.1 = a) with
    | true => rfl
    | false => exact ih
theorem matchK_mp (h : KeyK e k) (ks : List (α × β)) (a : α) : matchK (ks.map (kvP e e')) (.f (k a)) = true := by
  cases ks with
  | nil => rfl
  | cons p ks => show (dkey (e p.1)).isSome = true; rw [h.kk]; rfl
theorem dput_mp (h : KeyK e k) (ks : List (α × β)) (a : α) (b : β) : dput (ks.map (kvP e e')) (e a) (.f (k a)) (e' b) = (dset ks a b).map (kvP e e') := by
  unfold dput dset
  have h1 : ((ks.map (kvP e e')).any fun p => decide (toDK p.1 = some (DK.f (k a)))) = ks.any fun p => decide (p.1 = a) := by
    rw [List.any_map]
    exact congrArg (fun f => ks.any f) (funext fun p => h.eq p.1 a)
  rw [h1]
  split
  · rw [List.map_map, List.map_map]
    refine List.map_congr_left fun p _ => ?_
    show (if toDK (e p.1) = some (DK.f (k a)) then (e p.1, e' b) else (e p.1, e' p.2)) = kvP e e' (if p.1 = a then (p.1, b) else p)
    have := h.eq p.1 a
    by_cases c : p.1 = a
    · rw [if_pos c, if_pos (of_decide_eq_true (this.trans (decide_eq_true c)))]; rfl
    · rw [if_neg c, if_neg (of_decide_eq_false (this.trans (decide_eq_false c)))]; rfl
  · rw [List.map_append]; rfl
theorem q_tyD (h : KeyK e k) (ks : List (α × β)) : tyD (eD e e' ks) = "dict" := by
  unfold eD
  cases ks with
  | nil => rfl
  | cons p ks =>
    have := h.kk p.1
    rw [List.map_cons]
    show tyD (.dict ((e p.1, e' p.2) :: ks.map (kvP e e'))) = "dict"
    cases q : e p.1 with
    | int i => rfl
    | str i => rfl
    | _ => rw [q] at this; cases this
theorem pairsOf_mp (h : KeyK e k) (ps : List (α × β)) : pairsOf (ps.map (eP e e')) = some (ps.map fun p => (k p.1, e' p.2)) := by
  induction ps with
  | nil => rfl
  | cons p ps ih =>
    rw [List.map_cons]
    show (match dkey (e p.1), pairsOf (ps.map (eP e e')) with | some q, some l => some ((q, e' p.2) :: l) | _, _ => none) = _
    rw [h.kk, ih]; rfl
theorem mergeD_mp (h : KeyK e k) : ∀ (ps ks : List (α × β)), mergeD (ks.map (kvP e e')) (ps.map fun p => (k p.1, e' p.2)) = (ps.foldl (fun ks p => dset ks p.1 p.2) ks).map (kvP e e')
  | [], _ => rfl
  | p :: ps, ks => by
    rw [List.map_cons, mergeD, h.b, dput_mp h, mergeD_mp h ps]; rfl
theorem q_dictT (h : KeyK e k) (ps : List (α × β)) : oDict (eT (eP e e') ps) = some (.nd false ((dmk ps).map (kvP e e'))) := by
  unfold eT dmk
  show (pairsOf (ps.map (eP e e'))).map _ = _
  rw [pairsOf_mp h, ← mergeD_mp h ps []]; rfl
end
end Fx

namespace Fx
open PySem L2

def R.mp {α β : Type} (m : R α) (h : α → β) : R β := m.bind fun a g => .ok (h a) g
theorem R.wp_mp {α β : Type} {m : R α} {h : α → β} {P : β → Gs → Prop} {X : PyData → Gs → Prop} (q : m.wp (fun a g => P (h a) g) X) : (m.mp h).wp P X := by
  unfold R.mp
  exact R.wp_bind.mpr q
theorem RX.mp {α α' β β' : Type} {m : R β} {M : R α} {w : α → β} {k : β → Gs → R β'} {h : α → α'} {w' : α' → β'} (q : RX m M w) (hk : ∀ a g, k (w a) g = .ok (w' (h a)) g) : RX (m.bind k) (M.mp h) w' := q.bind fun a g => hk a g
/-- a pure value -/
theorem rx_p {α β : Type} {m : R β} {a : α} {g : Gs} {w : α → β} (h : m = .ok (w a) g) : RX m (.ok a g) w := h
section
variable {ρ : List SD} {g : Gs} {fa fb fc fe f : EF}
theorem rd {α : Type} {M : R α} {e : α → PyData} (h : RX (f ρ g) M (fun a => .d (e a))) : RX (fDat f ρ g) M e := by
  unfold fDat
  cases M with
  | ok a g' => have h : f ρ g = .ok (.d (e a)) g' := h; rw [h]; rfl
  | exc x g' => have h : f ρ g = .exc x g' := h; rw [h]; rfl
  | bad => trivial
theorem rl {α : Type} {M : R (List α)} {e : α → PyData} (h : RX (f ρ g) M (fun a => .nl (a.map e))) : RX (fDat f ρ g) M (eL e) := by
  unfold fDat
  cases M with
  | ok a g' => have h : f ρ g = .ok (.nl (a.map e)) g' := h; rw [h]; rfl
  | exc x g' => have h : f ρ g = .exc x g' := h; rw [h]; rfl
  | bad => trivial
theorem m_opL {α β : Type} {A : R α} {ea : α → PyData} {xb : PyData} {o : O2} {w : β → RV} {h : α → β} (ha : RX (fDat fa ρ g) A ea) (hb : ∀ g, fDat fb ρ g = .ok xb g) (ho : ∀ a, o (ea a) xb = some (w (h a))) : RX (fOp o fa fb ρ g) (A.mp h) w := by
  unfold fOp
  refine ha.mp fun a g1 => ?_
  rw [hb]
  show R.ofO (o _ _) g1 = _
  rw [ho]; rfl
theorem m_opR {α β : Type} {B : R α} {eb : α → PyData} {xa : PyData} {o : O2} {w : β → RV} {h : α → β} (ha : fDat fa ρ g = .ok xa g) (hb : RX (fDat fb ρ g) B eb) (ho : ∀ b, o xa (eb b) = some (w (h b))) : RX (fOp o fa fb ρ g) (B.mp h) w := by
  unfold fOp
  rw [ha]
  show RX ((fDat fb ρ g).bind _) _ _
  refine hb.mp fun a g1 => ?_
  show R.ofO (o _ _) g1 = _
  rw [ho]; rfl
theorem m_test {C : R Bool} (h : RX (f ρ g) C (fun b => .d (.bool b))) : RX (fTest f ρ g) C id := by
  unfold fTest
  cases C with
  | ok a g' => have h : f ρ g = .ok (.d (.bool a)) g' := h; rw [h]; rfl
  | exc x g' => have h : f ρ g = .exc x g' := h; rw [h]; rfl
  | bad => trivial
theorem m_ifP {α : Type} {w : α → RV} {tc : EFt} {c : Bool} {A B : R α} (hc : tc ρ g = .ok c g) (ha : c = true → RX (fa ρ g) A w) (hb : c = false → RX (fb ρ g) B w) : RX (fIf tc fa fb ρ g) (if c = true then A else B) w := by
  unfold fIf
  rw [hc]
  cases c with
  | true => exact ha rfl
  | false => exact hb rfl
theorem m_if {α : Type} {w : α → RV} {tc : EFt} {C : R Bool} {A B : Gs → R α} (hc : RX (tc ρ g) C id) (ha : ∀ g, RX (fa ρ g) (A g) w) (hb : ∀ g, RX (fb ρ g) (B g) w) : RX (fIf tc fa fb ρ g) (C.bind fun c g => if c = true then A g else B g) w := by
  unfold fIf
  refine hc.bind fun c g1 => ?_
  cases c with
  | true => exact ha g1
  | false => exact hb g1
theorem ma_p {α : Type} {fr : EFa} {M : R α} {as : α → List AV} {r : RV} {v : AV} (h : f ρ g = .ok r g) (hv : ∀ g, asAR r g = .ok v g) (t : RX (fr ρ g) M as) : RX (aCons f fr ρ g) M (fun a => v :: as a) := by
  unfold aCons
  rw [h]
  show RX ((asAR r g).bind _) _ _
  rw [hv]
  exact t.map fun a g1 => rfl
theorem ma_1 {α : Type} {fr : EFa} {A : R α} {w : α → RV} {av : α → AV} {as : List AV} (h : RX (f ρ g) A w) (hv : ∀ a g, asAR (w a) g = .ok (av a) g) (t : ∀ g, fr ρ g = .ok as g) : RX (aCons f fr ρ g) A (fun a => av a :: as) := by
  unfold aCons
  refine h.map fun a g1 => ?_
  rw [hv]
  show ((fr ρ g1).bind _) = _
  rw [t]; rfl
theorem m_call {α β : Type} {F : FnSp} {fs : EFa} {M : R α} {as : α → List AV} {K : α → Gs → R β} {w : β → RV} (h : RX (fs ρ g) M as) (hf : ∀ a g, RX (F (as a) g) (K a g) w) : RX (fCall F fs ρ g) (M.bind K) w := by
  unfold fCall
  exact h.bind hf
theorem m_callP {β : Type} {F : FnSp} {fs : EFa} {as : List AV} {K : R β} {w : β → RV} (h : fs ρ g = .ok as g) (hf : RX (F as g) K w) : RX (fCall F fs ρ g) K w := by
  unfold fCall
  rw [h]
  exact hf
theorem m_tup {α β : Type} {fs : EFa} {M : R α} {as : α → List AV} {h : α → β} {e : β → PyData} (q : RX (fs ρ g) M as) (hl : ∀ a, Nat.ble (as a).length 1000 = true) (hd : ∀ a, ∃ ds, allD (as a) = some ds ∧ PyData.tuple ds = e (h a)) : RX (fTup fs ρ g) (M.mp h) (fun b => .d (e b)) := by
  unfold fTup
  refine q.mp fun a g1 => ?_
  obtain ⟨ds, h1, h2⟩ := hd a
  unfold allDR
  rw [if_pos (Nat.le_trans (Nat.le_of_ble_eq_true (hl a)) (by decide)), h1, ← h2]; rfl
theorem RX.nox {α β : Type} {m : R β} {M : R α} {w : α → β} (h : RX m M w) : RX m.nox M.nox w := by
  cases M with
  | ok a g' => have h : m = .ok (w a) g' := h; rw [h]; rfl
  | exc x g' => trivial
  | bad => trivial
end
section
variable {γ : Type} {ρ : List SD} {g : Gs} {b t e h : EFs} {fe : EF} {M : R γ} {P : γ → Out → Prop}
theorem h_asrt {z : Prop} (k : z → RG b ρ g M P) : RG b ρ g (R.asrt z M) P := by
  unfold R.asrt
  split
  · exact k ‹_›
  · trivial
/-- the first look of a statement -/
theorem RG.look {α : Type} {m : R α} {β : Type} {A : R β} {w : β → α} {k : α → Gs → R Out} {K : β → Gs → R γ} (q : RX m A w) (hb : b ρ g = (m.stx ρ k).bind (seqO h)) (hk : ∀ a g1, RG (fun _ g => (k (w a) g).bind (seqO h)) ρ g1 (K a g1) P) : RG b ρ g (A.bind K) P := by
  cases A with
  | ok a g' =>
    have q : m = .ok (w a) g' := q
    have := hk a g'
    unfold RG at this ⊢
    rw [hb, q]
    show match K a g' with | .ok c g' => _ | .exc x g' => _ | .bad => _
    exact this
  | exc x g' =>
    have q : m = .exc x g' := q
    refine ⟨ρ, ?_⟩
    rw [hb, q]; rfl
  | bad => trivial
theorem h_asg {α : Type} {fg : EFg} {A : R α} {e : α → PyData} {S : α → List SD} {K : α → Gs → R γ} (q : RX (fDat fe ρ g) A e) (q2 : ∀ a, fg (e a) ρ = some (S a)) (k : ∀ a g, RG h (S a) g (K a g) P) : RG (fSeq (fAsg fe fg) h) ρ g (A.bind K) P :=
  RG.look q rfl fun a g1 => by
    have := k a g1
    unfold RG at this ⊢
    rw [q2]
    exact this
theorem h_asgP {α : Type} {fg : EFg} {w : α → PyData} {v : α} {S : α → List SD} {K : α → R γ} (q : fDat fe ρ g = .ok (w v) g) (q2 : ∀ x, fg (w x) ρ = some (S x)) (k : ∀ x, RG h (S x) g (K x) P) : RG (fSeq (fAsg fe fg) h) ρ g (letv v K) P := g_asg q (q2 v) (k v)
theorem h_par {α β : Type} {i j : Nat} {f1 f2 : EF} {A : R α} {B : Gs → R β} {w1 : α → RV} {w2 : β → RV} {K : α → β → Gs → R γ} (q1 : RX (f1 ρ g) A w1) (q2 : ∀ g, RX (f2 ρ g) (B g) w2) (k : ∀ x y g, RG h ((ρ.set i (sdRV (w1 x))).set j (sdRV (w2 y))) g (K x y g) P) : RG (fSeq (fPar i j f1 f2) h) ρ g (A.bind fun a g => (B g).bind fun b g => K a b g) P :=
  RG.look q1 rfl fun a g1 => by
    have := RG.look (ρ := ρ) (g := g1) (h := h) (b := fun ρ g => ((f2 ρ g).stx ρ fun r2 g2 => R.ok (.nx ((ρ.set i (sdRV (w1 a))).set j (sdRV r2))) g2).bind (seqO h)) (P := P) (q2 g1) rfl (K := fun b g => K a b g) fun b g2 => by
      have := k a b g2
      unfold RG at this ⊢
      exact this
    unfold RG at this ⊢
    exact this
theorem h_ret {α : Type} {A : R α} {w : α → RV} {v : α → γ} (q : RX (fe ρ g) A w) (p : ∀ a, P (v a) (.rt (w a))) : RG (fSeq (fRet fe) h) ρ g (A.mp v) P :=
  RG.look q rfl fun a g1 => ⟨_, rfl, p a⟩
theorem h_ret0 {A : R γ} {w : γ → RV} (q : RX (fe ρ g) A w) (p : ∀ a, P a (.rt (w a))) : RG (fSeq (fRet fe) h) ρ g A P := by
  have := h_ret (h := h) (v := id) q p
  unfold R.mp at this
  cases A <;> exact this
theorem h_ifP {ft : EFt} {c : Bool} {M1 M2 : R γ} (q : ft ρ g = .ok c g) (k1 : c = true → RG (fSeq t h) ρ g M1 P) (k2 : c = false → RG (fSeq e h) ρ g M2 P) : RG (fSeq (fIfS ft t e) h) ρ g (if c = true then M1 else M2) P := by
  refine RG.eq (t := fun ρ g => if c = true then fSeq t h ρ g else fSeq e h ρ g) (if_seq q) ?_
  cases c with
  | true => exact k1 rfl
  | false => exact k2 rfl
theorem h_if {ft : EFt} {C : R Bool} {M1 M2 : Gs → R γ} (q : RX (ft ρ g) C id) (k1 : ∀ g, RG (fSeq t h) ρ g (M1 g) P) (k2 : ∀ g, RG (fSeq e h) ρ g (M2 g) P) : RG (fSeq (fIfS ft t e) h) ρ g (C.bind fun c g => if c = true then M1 g else M2 g) P :=
  RG.look q rfl fun c g1 => by
    cases c with
    | true =>
      have := k1 g1
      unfold RG at this ⊢
      exact this
    | false =>
      have := k2 g1
      unfold RG at this ⊢
      exact this
theorem h_app {α : Type} {i : Nat} {xs : List α} {ea : α → PyData} {A : R α} {K : α → Gs → R γ} (q0 : ρ[i]? = some (.own (xs.map ea))) (q : RX (fDat fe ρ g) A ea) (z : xs.length < sizeLine) (k : ∀ a g, RG h (ρ.set i (.own ((xs ++ [a]).map ea))) g (K a g) P) : RG (fSeq (fApp i fe) h) ρ g (A.bind K) P := by
  refine RG.look (h := h) q (k := fun y g' => if (xs.map ea).length < sizeLine then R.ok (.nx (ρ.set i (.own (xs.map ea ++ [y])))) g' else .bad) ?_ fun a g1 => ?_
  · unfold fSeq fApp
    rw [q0]; rfl
  · have := k a g1
    rw [List.map_append] at this
    refine RG.eq (t := fun _ g => h (ρ.set i (.own (xs.map ea ++ [ea a]))) g) ?_ (by unfold RG at this ⊢; exact this)
    show (if (xs.map ea).length < sizeLine then R.ok (Out.nx (ρ.set i (.own (xs.map ea ++ [ea a])))) g1 else R.bad).bind (seqO h) = _
    rw [List.length_map, if_pos z]; rfl
def forM {α σ : Type} (f : σ → α → Gs → R σ) : List α → σ → Gs → R σ
  | [], s, g => .ok s g
  | x :: xs, s, g => (f s x g).bind fun s' g' => forM f xs s' g'
def loopM {α β σ : Type} (f : σ → α → Gs → R (Bl β σ)) : List α → σ → Gs → R (Bl β σ)
  | [], s, g => .ok (.nx s) g
  | x :: xs, s, g => (f s x g).bind fun r g' => match r with
    | .ret b => .ok (.ret b) g'
    | .nx s' => loopM f xs s' g'
theorem for_loopM {α β σ : Type} {w : β → RV} {ea : α → PyData} {fg : EFg} {fb : EFs} {Rσ : σ → List SD → Prop} {f : σ → α → Gs → R (Bl β σ)}
    (hb : ∀ s x ρ g, Rσ s ρ → ∃ ρ1, fg (ea x) ρ = some ρ1 ∧ RG fb ρ1 g (f s x g) (Rb w Rσ)) :
    ∀ (xs : List α) (s : σ) (ρ : List SD) (g : Gs), Rσ s ρ → RG (forR fg fb (xs.map ea)) ρ g (loopM f xs s g) (fun r o => match r with
      | .ret b => o = .rt (w b)
      | .nx s' => ∃ ρ', o = .nx ρ' ∧ Rσ s' ρ')
  | [], s, ρ, g, hr => ⟨_, rfl, ρ, rfl, hr⟩
  | x :: xs, s, ρ, g, hr => by
    obtain ⟨ρ1, h1, h2⟩ := hb s x ρ g hr
    have e0 : forR fg fb ((x :: xs).map ea) ρ g = (fb ρ1 g).bind (forO (forR fg fb (xs.map ea))) := by rw [List.map_cons, forR, h1]
    unfold loopM
    cases q : f s x g with
    | bad => trivial
    | exc y g' =>
      rw [q] at h2
      obtain ⟨ρ', h2⟩ := h2
      exact ⟨ρ', by rw [e0, h2]; rfl⟩
    | ok r g' =>
      rw [q] at h2
      obtain ⟨o, h2, h3⟩ := h2
      cases r with
      | ret b =>
        exact ⟨o, by rw [e0, h2, show o = .rt (w b) from h3]; rfl, h3⟩
      | nx s' =>
        obtain ⟨ρ2, ho, hr2⟩ := h3
        refine RG.eq (t := fun _ g => forR fg fb (xs.map ea) ρ2 g') ?_ (show RG (fun _ _ => forR fg fb (xs.map ea) ρ2 g') ρ g (loopM f xs s' g') _ from ?_)
        · rw [e0, h2]
          rcases ho with rfl | rfl <;> rfl
        · have := for_loopM hb xs s' ρ2 g' hr2
          unfold RG at this ⊢
          exact this
theorem h_loop {α β σ : Type} {w : β → RV} {xs : List α} {ea : α → PyData} {fi : EFi} {fg : EFg} {fb : EFs} {f : σ → α → Gs → R (Bl β σ)} {s0 : σ} {vr : β → γ} {K : σ → Gs → R γ} (Rσ : σ → List SD → Prop) (hi : fi ρ g = .ok (xs.map ea) g) (h0 : Rσ s0 ρ)
    (hb : ∀ s x ρ g, Rσ s ρ → ∃ ρ1, fg (ea x) ρ = some ρ1 ∧ RG fb ρ1 g (f s x g) (Rb w Rσ)) (kr : ∀ b, P (vr b) (.rt (w b))) (k : ∀ s ρ' g, Rσ s ρ' → RG h ρ' g (K s g) P) :
    RG (fSeq (fFor fi fg fb) h) ρ g ((loopM f xs s0 g).bind fun r g => match r with | .ret b => .ok (vr b) g | .nx s => K s g) P := by
  have q := for_loopM hb xs s0 ρ g h0
  have e0 : fSeq (fFor fi fg fb) h ρ g = (forR fg fb (xs.map ea) ρ g).bind (seqO h) := by
    unfold fSeq fFor
    rw [stx_ok hi]
  cases e : loopM f xs s0 g with
  | bad => trivial
  | exc y g' =>
    rw [e] at q
    obtain ⟨ρ', q⟩ := q
    exact ⟨ρ', by rw [e0, q]; rfl⟩
  | ok r g' =>
    rw [e] at q
    obtain ⟨o, q, p⟩ := q
    cases r with
    | ret b =>
      exact ⟨o, by rw [e0, q, show o = .rt (w b) from p]; rfl, by rw [show o = .rt (w b) from p]; exact kr b⟩
    | nx s =>
      obtain ⟨ρ', rfl, hr⟩ := p
      have := k s ρ' g' hr
      refine RG.eq (t := fun _ _ => h ρ' g') (by rw [e0, q]; rfl) (show RG (fun _ _ => h ρ' g') ρ g (K s g') P from ?_)
      unfold RG at this ⊢
      exact this
theorem forM_loopM {α β σ : Type} (f : σ → α → Gs → R σ) : ∀ (xs : List α) (s : σ) (g : Gs), loopM (β := β) (fun s x g => (f s x g).mp .nx) xs s g = (forM f xs s g).mp .nx
  | [], s, g => rfl
  | x :: xs, s, g => by
    unfold loopM forM R.mp
    cases f s x g with
    | ok s' g' => exact forM_loopM f xs s' g'
    | exc y g' => rfl
    | bad => rfl
theorem h_for {α σ : Type} {xs : List α} {ea : α → PyData} {fi : EFi} {fg : EFg} {fb : EFs} {f : σ → α → Gs → R σ} {s0 : σ} {K : σ → Gs → R γ} (Rσ : σ → List SD → Prop) (hi : fi ρ g = .ok (xs.map ea) g) (h0 : Rσ s0 ρ)
    (hb : ∀ s x ρ g, Rσ s ρ → ∃ ρ1, fg (ea x) ρ = some ρ1 ∧ RG fb ρ1 g (f s x g) (Nx Rσ)) (k : ∀ s ρ' g, Rσ s ρ' → RG h ρ' g (K s g) P) :
    RG (fSeq (fFor fi fg fb) h) ρ g ((forM f xs s0 g).bind fun s g => K s g) P := by
  have := h_loop (β := Empty) (w := fun b => b.elim) (vr := fun b => b.elim) (f := fun s x g => (f s x g).mp .nx) (K := K) (P := P) Rσ hi h0 (fun s x ρ g hr => by
    obtain ⟨ρ1, h1, h2⟩ := hb s x ρ g hr
    refine ⟨ρ1, h1, ?_⟩
    unfold R.mp
    cases q : f s x g with
    | bad => trivial
    | exc y g' => rw [q] at h2; exact h2
    | ok s' g' => rw [q] at h2; exact h2) (fun b => b.elim) k
  rw [forM_loopM] at this
  unfold R.mp at this
  cases q : forM f xs s0 g with
  | bad => trivial
  | exc y g' => rw [q] at this; exact this
  | ok s g' => rw [q] at this; exact this
end
end Fx

namespace Fx
open PySem L2 PySem.Spec PyProof.Rows

def lookF (f : Str) : List (PyData × PyData) → Option PyData
  | [] => none
  | (.str n, d) :: r => if n = f then some d else lookF f r
  | _ :: _ => none
/-- an object's class and fields -/
def asObj : PyData → Option (Str × List (PyData × PyData))
  | .dict ((.list [], .str nm) :: ks) => some (nm, ks)
  | _ => none
@[simp] theorem asObj_obj (nm : Str) (fs : List (Str × PyData)) : asObj (objD nm fs) = some (nm, flds fs) := rfl
section
variable {K : Ck} {W : WX}
theorem RpF.look {F : Hp} {f : Str} : ∀ {fs : List (Str × V)} {ds : List (Str × PyData)} {d : PyData}, RpF K F fs ds → lookF f (flds ds) = some d → ∃ v, fs.lookup f = some v ∧ Rp K F v d
  | _, _, _, .nil, h => by cases h
  | _, _, d, @RpF.cons _ _ n v fs e ds r t, h => by
    have h : (if n = f then some e else lookF f (flds ds)) = some d := h
    by_cases c : n = f
    · rw [if_pos c] at h
      cases h
      exact ⟨v, by rw [List.lookup_cons, c, beq_self_eq_true], r⟩
    · rw [if_neg c] at h
      obtain ⟨w, h1, h2⟩ := RpF.look t h
      have hb : (f == n) = false := beq_eq_false_iff_ne.mpr fun z => c z.symm
      exact ⟨w, by rw [List.lookup_cons, hb]; exact h1, h2⟩
theorem RpF.none {F : Hp} {f : Str} : ∀ {fs : List (Str × V)} {ds : List (Str × PyData)}, RpF K F fs ds → lookF f (flds ds) = Option.none → fs.lookup f = Option.none
  | _, _, .nil, _ => rfl
  | _, _, @RpF.cons _ _ n v fs e ds r t, h => by
    have h : (if n = f then some e else lookF f (flds ds)) = Option.none := h
    by_cases c : n = f
    · rw [if_pos c] at h; cases h
    · rw [if_neg c] at h
      have hb : (f == n) = false := beq_eq_false_iff_ne.mpr fun z => c z.symm
      rw [List.lookup_cons, hb]; exact RpF.none t h
/-- self.f = e -/
def putD (f : Str) (v : PyData) : List (Str × PyData) → List (Str × PyData)
  | [] => [(f, v)]
  | (g, x) :: r => if g = f then (g, v) :: r else (g, x) :: putD f v r
theorem RpF.put {F : Hp} {f : Str} {v : V} {d : PyData} (r : Rp K F v d) : ∀ {fs : List (Str × V)} {ds : List (Str × PyData)}, RpF K F fs ds → RpF K F (putF f v fs) (putD f d ds)
  | _, _, .nil => .cons r .nil
  | _, _, @RpF.cons _ _ n w fs e ds q t => by
    show RpF K F (if n = f then (n, v) :: fs else (n, w) :: putF f v fs) (if n = f then (n, d) :: ds else (n, e) :: putD f d ds)
    by_cases c : n = f
    · rw [if_pos c, if_pos c]; exact .cons r t
    · rw [if_neg c, if_neg c]; exact .cons q (RpF.put r t)
theorem RpF.length {F : Hp} : ∀ {fs : List (Str × V)} {ds : List (Str × PyData)}, RpF K F fs ds → fs.length = ds.length
  | _, _, .nil => rfl
  | _, _, .cons _ t => by simp [RpF.length t]
end

section
variable {X : Cx} {k : Nat} {f C : Addr} {fd : FuncData} {ps : List Str} {sp : Sp} {E : L2.St → XK} {x m : Str} {p pos apos : Pos} {e o : Expr} {es : List Expr} {ta : TE} {t : TA}
end
end Fx

namespace Fx
open PySem L2 PySem.Spec PyProof.Rows

section
variable {K : Ck} {W : WX}
end
structure RetI (S : Sta) (K : Ck) (F H1 F' H' : Hp) (g' : Gs) (x dx C : Addr) (fs : List (Str × PyData)) : Prop where
  sub : Sub F' H'
  mono : Le F F'
  fz : ∀ a, H1 a ≠ none → F' a = F a
  keep : ∀ a o, H1 a = some o → ¬ S.M a → H' a = some o
  tb : Tb S F' H'
  j : S.J g' H'
  fx : F' x = none
  ob : ∃ vs, H' x = some (.ins C dx vs) ∧ RpF K F' vs fs
section
variable {K : Ck} {W : WX}
end
section
variable {X : Cx} {k : Nat} {f C : Addr} {fd : FuncData} {ps : List Str} {sp : Sp} {E : L2.St → XK} {x : Str} {p pos : Pos} {e : Expr} {es : List Expr} {t : TA}
end
end Fx

namespace Fx
open PySem L2 RZ

def Alt (F F' : Hp) : Prop := ∀ a, F' a = F a ∨ ∃ kvs, Rd F a (.dK kvs) ∧ Rd F' a (.dK kvs)
theorem Alt.symm {F F' : Hp} (h : Alt F F') : Alt F' F := fun a => (h a).imp Eq.symm fun ⟨k, x, y⟩ => ⟨k, y, x⟩
def notDK : HO → Prop
  | .dK _ => False
  | .frz _ (.dK _) => False
  | _ => True
theorem rd_notDK {F : Hp} {a : Addr} {o : HO} {kvs : List (Key × V)} (h : Rd F a (.dK kvs)) (e : F a = some o) : ¬ notDK o := by
  rcases h with h | ⟨w, h⟩ <;> rw [h] at e <;> cases e <;> exact fun z => z
theorem Alt.at {F F' : Hp} (h : Alt F F') {a : Addr} {o : HO} (e : F a = some o) (n : notDK o) : F' a = some o := by
  rcases h a with q | ⟨k, q, _⟩
  · exact q.trans e
  · exact absurd n (rd_notDK q e)
theorem Alt.lst {F F' : Hp} (h : Alt F F') {a : Addr} {xs : List V} (e : Rd F a (.lst xs)) : Rd F' a (.lst xs) := by
  rcases e with e | ⟨o, e⟩
  · exact .inl (h.at e trivial)
  · exact .inr ⟨o, h.at e trivial⟩
theorem Alt.dk {F F' : Hp} (h : Alt F F') {a : Addr} {ks : List (Key × V)} (e : Rd F a (.dK ks)) : Rd F' a (.dK ks) := by
  rcases h a with q | ⟨k, q, r⟩
  · rcases e with e | ⟨o, e⟩
    · exact .inl (q.trans e)
    · exact .inr ⟨o, q.trans e⟩
  · have : k = ks := by
      rcases e with e | ⟨o, e⟩ <;> rcases q with q | ⟨o', q⟩ <;> rw [q] at e <;> cases e <;> rfl
    exact this ▸ r
theorem Alt.sqx {K : Ck} {F F' : Hp} (h : Alt F F') {a : Addr} {xs : List V} (e : SqLx K F a xs) : SqLx K F' a xs := e.imp h.lst id
theorem Alt.sqt {K : Ck} {F F' : Hp} (h : Alt F F') {a : Addr} {xs : List V} (e : SqT K F a xs) : SqT K F' a xs := by
  rcases e with (e | ⟨o, e⟩) | e
  · exact .inl (.inl (h.at e trivial))
  · exact .inl (.inr ⟨o, h.at e trivial⟩)
  · exact .inr e
theorem Alt.tok {F F' : Hp} (h : Alt F F') {a : Addr} {vs : List V} {ds : List PyData} (e : TupOk F a vs ds) : TupOk F' a vs ds := by
  rcases e with ⟨e, k⟩ | ⟨o, e, k⟩
  · exact .inl ⟨h.at e trivial, k⟩
  · exact .inr ⟨o, h.at e trivial, k⟩
mutual
theorem Rp.alt {K : Ck} {F F' : Hp} (e : Alt F F') : ∀ {v : V} {d : PyData}, Rp K F v d → Rp K F' v d
  | _, _, .non => .non
  | _, _, .bl b => .bl b
  | _, _, .int i => .int i
  | _, _, .str x => .str x
  | _, _, .lst h r => .lst (e.sqx h) (RpA.alt e r)
  | _, _, .tup h k r => .tup (e.sqt h) (e.tok k) (RpA.alt e r)
  | _, _, .dK h r => .dK (e.dk h) (RpK.alt e r)
  | _, _, .dT h r n => .dT (e.at h trivial) (RpT.alt e r) n
  | _, _, .obj h m i r => .obj (e.at h trivial) m i (RpF.alt e r)
  | _, _, .exc h m d r => .exc (e.at h trivial) m (d.imp id fun ⟨dx, q1, q2⟩ => ⟨dx, q1, e.at q2 trivial⟩) (RpF.alt e r)
  | _, _, .fn m => .fn m
theorem RpA.alt {K : Ck} {F F' : Hp} (e : Alt F F') : ∀ {vs : List V} {ds : List PyData}, RpA K F vs ds → RpA K F' vs ds
  | _, _, .nil => .nil
  | _, _, .cons r t => .cons (Rp.alt e r) (RpA.alt e t)
theorem RpK.alt {K : Ck} {F F' : Hp} (e : Alt F F') : ∀ {vs : List (Key × V)} {ds : List (PyData × PyData)}, RpK K F vs ds → RpK K F' vs ds
  | _, _, .nil => .nil
  | _, _, .cons r t => .cons (Rp.alt e r) (RpK.alt e t)
theorem RpT.alt {K : Ck} {F F' : Hp} (e : Alt F F') : ∀ {vs : List (List Key × V)} {ds : List (PyData × PyData)}, RpT K F vs ds → RpT K F' vs ds
  | _, _, .nil => .nil
  | _, _, .cons r t => .cons (Rp.alt e r) (RpT.alt e t)
theorem RpF.alt {K : Ck} {F F' : Hp} (e : Alt F F') : ∀ {vs : List (Str × V)} {ds : List (Str × PyData)}, RpF K F vs ds → RpF K F' vs ds
  | _, _, .nil => .nil
  | _, _, .cons r t => .cons (Rp.alt e r) (RpF.alt e t)
end
theorem RpE.alt {K : Ck} {F F' : Hp} (e : Alt F F') {n : Ent} {ds : List (PyData × PyData)} (h : RpE K F n ds) : RpE K F' n ds := by
  cases n with
  | k kvs => exact RpK.alt e h
  | t kvs => exact RpT.alt e h
/-- what stands at d is replaced, if anything does -/
def swp (F : Hp) (d : Addr) (u : HO) : Hp := fun a => if a = d then (F a).map fun _ => u else F a
theorem swp_ne {F : Hp} {d a : Addr} {u : HO} (h : a ≠ d) : swp F d u a = F a := if_neg h
theorem swp_at {F : Hp} {d : Addr} {u : HO} : swp F d u d = (F d).map fun _ => u := if_pos rfl
theorem swp_none {F : Hp} {d a : Addr} {u : HO} : swp F d u a = none ↔ F a = none := by
  by_cases e : a = d
  · subst e; rw [swp_at]; cases F a <;> simp
  · rw [swp_ne e]
theorem swp_alt {F : Hp} {d : Addr} {u : HO} {kvs : List (Key × V)} (h : F d = none ∨ Rd F d (.dK kvs)) (hu : u = .dK kvs ∨ ∃ o, u = .frz o (.dK kvs)) : Alt F (swp F d u) := by
  intro a
  by_cases e : a = d
  · subst e
    rcases h with h | h
    · left; rw [swp_at, h]; rfl
    · right
      refine ⟨kvs, h, ?_⟩
      have : swp F a u a = some u := by rw [swp_at]; rcases h with h | ⟨o, h⟩ <;> rw [h] <;> rfl
      rcases hu with rfl | ⟨o, rfl⟩
      · exact .inl this
      · exact .inr ⟨o, this⟩
  · left; exact swp_ne e
theorem swp_le {F F' : Hp} {d : Addr} {u : HO} (h : Le F F') : Le (swp F d u) (swp F' d u) := by
  intro a o e
  by_cases z : a = d
  · subst z
    rw [swp_at] at e ⊢
    cases q : F a with
    | none => rw [q] at e; cases e
    | some w => rw [q] at e; rw [h _ _ q]; exact e
  · rw [swp_ne z] at e ⊢; exact h _ _ e

theorem ErR.alt {K : Ck} {F F' : Hp} {v : V} {x : PyData} (h : ErR K F v x) (e : Alt F F') : ErR K F' v x := by
  obtain ⟨a, C, nm, d, fs, ds, ev, h1, h2, h3, h4, h5⟩ := h
  exact ⟨a, C, nm, d, fs, ds, ev, e.at h1 trivial, h2, h3.imp id fun ⟨dx, q1, q2⟩ => ⟨dx, q1, e.at q2 trivial⟩, RpF.alt e h4, h5⟩
section
variable {K : Ck} {W : WX}
/-- what makes the turn from one form to the other -/
structure Tw (S : Sta) (F : Hp) (d : Addr) (kvs : List (Key × V)) (u : HO) : Prop where
  m : ¬ S.M d
  f : Rd F d (.dK kvs)
  u : u = .dK kvs ∨ ∃ o, u = .frz o (.dK kvs)
theorem Tw.alt {S : Sta} {F : Hp} {d : Addr} {kvs : List (Key × V)} {u : HO} (t : Tw S F d kvs u) : Alt F (swp F d u) := swp_alt (.inr t.f) t.u
theorem Tw.sub {S : Sta} {F H : Hp} {d : Addr} {kvs : List (Key × V)} {u : HO} (t : Tw S F d kvs u) (s : Sub F H) : Sub (swp F d u) (swp H d u) := swp_le s
theorem Tw.j {S : Sta} {F H : Hp} {d : Addr} {kvs : List (Key × V)} {u : HO} {g : Gs} (t : Tw S F d kvs u) (j : S.J g H) : S.J g (swp H d u) := S.ok g H _ j fun a m => swp_ne fun z => t.m (z ▸ m)
theorem Tw.own {S : Sta} {F H : Hp} {d : Addr} {kvs : List (Key × V)} {u : HO} (t : Tw S F d kvs u) {a : Addr} {s : SD} (ne : a ≠ d) (h : OwnAt K F H a s) : OwnAt K (swp F d u) (swp H d u) a s := by
  cases s with
  | own xs => obtain ⟨vs, h1, h2⟩ := h; exact ⟨vs, (swp_ne ne).trans h1, h2.alt t.alt⟩
  | dic b ks => obtain ⟨n, h1, h2, h3⟩ := h; exact ⟨n, (swp_ne ne).trans h1, h2, h3.alt t.alt⟩
  | ins x dx C nm fs => obtain ⟨vs, h1, h2, h3, h4, h5⟩ := h; exact ⟨vs, (swp_ne ne).trans h1, h2, h3, RpF.alt t.alt h4, h5⟩
  | u => exact h.elim
  | d x => exact h.elim
  | o v => exact h.elim
  | lk x => exact h.elim
  | er x => exact h.elim
theorem Tw.ne {S : Sta} {F : Hp} {d a : Addr} {kvs : List (Key × V)} {u : HO} (t : Tw S F d kvs u) (h : F a = none) : a ≠ d := by
  rintro rfl
  rcases t.f with q | ⟨o, q⟩ <;> rw [q] at h <;> cases h
/-- the slots, but for the one that is turned -/
theorem Tw.slot {S : Sta} {B F H : Hp} {d : Addr} {kvs : List (Key × V)} {u : HO} (t : Tw S F d kvs u) {s : SD} {v : Option V} (h : SlotOk K S B F H s v) (k : (∀ x, s ≠ .lk x) ∨ ∃ o, u = .frz o (.dK kvs)) : SlotOk K S (swp B d u) (swp F d u) (swp H d u) s v := by
  cases e : s.owner with
  | true =>
    obtain ⟨a, rfl, h1, h2, h3, h4⟩ := h.at e
    exact .of e (swp_none.mpr h1) h2 (swp_none.mpr h3) (t.own (t.ne h3) h4)
  | false =>
    cases s with
    | u => trivial
    | d x => obtain ⟨w, h1, h2⟩ := h; exact ⟨w, h1, h2.alt t.alt⟩
    | o w => exact h
    | er x => obtain ⟨w, h1, h2⟩ := h; exact ⟨w, h1, h2.alt t.alt⟩
    | lk x =>
      obtain ⟨w, h1, h2, a, o, ks, rfl, h3⟩ := h
      refine ⟨_, h1, h2.alt t.alt, a, ?_⟩
      rcases k with k | ⟨o', rfl⟩
      · exact absurd rfl (k x)
      · by_cases z : a = d
        · subst z; exact ⟨o', kvs, rfl, by rw [swp_at, h3]; rfl⟩
        · exact ⟨o, ks, rfl, (swp_ne z).trans h3⟩
    | own xs => cases e
    | dic b ks => cases e
    | ins x dx C nm fs => cases e
theorem Tw.fz {B F F0 : Hp} {d : Addr} {u : HO} (h : ∀ a, B a ≠ none → F a = F0 a) : ∀ a, swp B d u a ≠ none → swp F d u a = swp F0 d u a := by
  intro a q
  have := h a fun z => q (swp_none.mpr z)
  by_cases z : a = d
  · subst z; rw [swp_at, swp_at, this]
  · rw [swp_ne z, swp_ne z, this]
theorem Tw.keep {S : Sta} {B H : Hp} {d : Addr} {u : HO} (h : ∀ a o, B a = some o → ¬ S.M a → H a = some o) : ∀ a o, swp B d u a = some o → ¬ S.M a → swp H d u a = some o := by
  intro a o q m
  by_cases z : a = d
  · subst z
    rw [swp_at] at q ⊢
    cases e : B a with
    | none => rw [e] at q; cases q
    | some w => rw [e] at q; rw [h _ _ e m]; exact q
  · rw [swp_ne z] at q ⊢; exact h a o q m
theorem Tb.swp {S : Sta} {F H : Hp} {d : Addr} {kvs : List (Key × V)} {u : HO} (h : Tb S F H) (m : ¬ S.M d) (f : Rd F d (.dK kvs)) : Tb S (swp F d u) (swp H d u) := fun p hp => by
  obtain ⟨ps, h1, h2, h3⟩ := h p hp
  refine ⟨ps, (swp_ne fun (z : p.1 = d) => m (by rw [← z]; exact S.tm p hp)).trans h1, h2, fun pos cv hc => ?_⟩
  obtain ⟨c, e1, e2⟩ := h3 pos cv hc
  exact ⟨c, e1, (swp_ne fun z => by subst z; unfold LamX.CodeO at e2; rcases f with f | ⟨o, f⟩ <;> rw [f] at e2 <;> cases e2).trans e2⟩
theorem Tw.env {S : Sta} {B F0 F H : Hp} {ρ ρ' : List SD} {σ : St} {g : Gs} {d : Addr} {kvs : List (Key × V)} {u : HO} (t : Tw S F d kvs u) (E : EnvOk K S B F0 F H ρ σ g) (hl : ρ'.length = ρ.length)
    (hs : ∀ (i : Nat) s', ρ'[i]? = some s' → ∃ s v, ρ[i]? = some s ∧ s'.owner = s.owner ∧ σ[i]? = some v ∧ SlotOk K S (swp B d u) (swp F d u) (swp H d u) s' v) :
    EnvOk K S (swp B d u) (swp F0 d u) (swp F d u) (swp H d u) ρ' σ g where
  st := E.st
  tb := E.tb.swp t.m t.f
  sub := t.sub E.sub
  mono := swp_le E.mono
  fz := Tw.fz E.fz
  keep := Tw.keep E.keep
  mF := fun a m => swp_none.mpr (E.mF a m)
  j := t.j E.j
  len := E.len.trans hl.symm
  sl := fun i s' h => let ⟨_, v, _, _, q, r⟩ := hs i s' h; ⟨v, q, r⟩
  dist := fun i k s' t' h1 h2 o1 o2 e => by
    obtain ⟨s1, _, q1, r1, _⟩ := hs i s' h1
    obtain ⟨s2, _, q2, r2, _⟩ := hs k t' h2
    exact E.dist i k s1 s2 q1 q2 (r1 ▸ o1) (r2 ▸ o2) e
end

section
variable {K : Ck} {W : WX}
end
end Fx

namespace Fx
open PySem L2 RZ
section
open PySem.Spec PyProof.Rows
variable {X : Cx}
end
theorem RpK.get {K : Ck} {F : Hp} : ∀ {kvs : List (Key × V)} {ks : List (PyData × PyData)} {i : Nat} {p : PyData × PyData}, RpK K F kvs ks → ks[i]? = some p → ∃ k v, kvs[i]? = some (k, v) ∧ p.1 = keyD k ∧ Rp K F v p.2
  | _, _, _, _, .nil, e => by simp at e
  | _, _, 0, _, .cons r _, e => by simp at e; subst e; exact ⟨_, _, rfl, rfl, r⟩
  | _, _, i + 1, p, .cons _ t, e => by
    obtain ⟨k, v, h⟩ := RpK.get (i := i) (p := p) t (by simpa using e)
    exact ⟨k, v, by simpa using h⟩
section
variable {K : Ck} {W : WX} {S : Sta} {F : Hp} {d : Addr} {o : Obj} {kvs : List (Key × V)} {ks : List (PyData × PyData)}
end
end Fx

namespace Fx
open PySem L2

section
variable {P : Program} {w : World} {h : Heap}
/-- a value that reads so, and whose text is made so -/
structure Sw (P : Program) (w : World) (h : Heap) (u : Value) (d : PyData) : Prop where
  rd : ∃ as, Reads h u d as
  top : ∀ a, u = .ref a → d.shown.length ≤ sizeLine → ∀ (A : Around) (E : Value → Shared → Prop) (s : Shared) (Q : Value → Shared → Prop), A.guards = some [] → A.units + (d.depth + 1) < cLine → (∀ b o, h.get? b = some o → s.heap.get? b = some o) →
    (∀ h' u tk, (∀ b o, s.heap.get? b = some o → h'.get? b = some o) → Q (.str d.shown u) { s with heap := h', toks := tk }) → wpAny (model P w) A (call (.builtin "repr") [u]) Q E s
  go : d.shown.length ≤ sizeLine → ∃ bs, ReadAtMost h d.depth bs ∧ ReprK P w bs h d.depth u d.shown
structure SwA (P : Program) (w : World) (h : Heap) (us : List Value) (ds : List PyData) : Prop where
  rd : ∃ as, ReadsAll h us ds as
  go : (∀ t ∈ PyData.shownAll ds, t.length ≤ sizeLine) → ∃ bs, ReadAtMost h (PyData.depthAll ds) bs ∧ ReprAllK P w bs h (PyData.depthAll ds) us (PyData.shownAll ds)
structure SwE (P : Program) (w : World) (h : Heap) (es : List DictEntry) (ks : List (PyData × PyData)) : Prop where
  k : ∃ as, ReadsAll h (es.map (·.key)) (ks.map (·.1)) as
  v : ∃ as, ReadsAll h (es.map (·.val)) (ks.map (·.2)) as
  go : (∀ t ∈ PyData.shownKv ks, t.length ≤ sizeLine) → ∃ bs, ReadAtMost h (PyData.depthKv ks) bs ∧ ReprEntriesK P w bs h (PyData.depthKv ks) es (PyData.shownKv ks)
theorem none_at {n : Nat} : ReadAtMost h n [] := fun _ z => nomatch z
theorem Sw.flat {u : Value} {d : PyData} {as : List Addr} (r : Reads h u d as) (n : ∀ a, u ≠ .ref a) (q : d.shown.length ≤ sizeLine → ReprIs P w u d.shown) : Sw P w h u d :=
  ⟨⟨as, r⟩, fun a z => absurd z (n a), fun z => ⟨[], none_at, .of_is (q z) _ _ _⟩⟩
theorem SwA.nil : SwA P w h [] [] := ⟨⟨_, .nil⟩, fun _ => ⟨[], none_at, by simp only [PyData.shownAll]; exact .nil⟩⟩
theorem SwA.cons {u : Value} {us : List Value} {d : PyData} {ds : List PyData} (a : Sw P w h u d) (b : SwA P w h us ds) : SwA P w h (u :: us) (d :: ds) := by
  refine ⟨?_, fun z => ?_⟩
  · obtain ⟨x, hx⟩ := a.rd
    obtain ⟨y, hy⟩ := b.rd
    exact ⟨_, .cons hx hy⟩
  · have z' : d.shown.length ≤ sizeLine ∧ ∀ t ∈ PyData.shownAll ds, t.length ≤ sizeLine := by
      simp only [PyData.shownAll, List.mem_cons] at z
      exact ⟨z _ (.inl rfl), fun t ht => z t (.inr ht)⟩
    obtain ⟨x, hx, kx⟩ := a.go z'.1
    obtain ⟨y, hy, ky⟩ := b.go z'.2
    have m1 : d.depth ≤ PyData.depthAll (d :: ds) := by simp only [PyData.depthAll]; omega
    have m2 : PyData.depthAll ds ≤ PyData.depthAll (d :: ds) := by simp only [PyData.depthAll]; omega
    refine ⟨x ++ y, (hx.mono m1).append (hy.mono m2), ?_⟩
    have c1 := (kx.more (as' := x ++ y) fun b hb => by simp [hb]).level_le m1
    have c2 := ky.more_le (as' := x ++ y) (fun b hb => by simp [hb]) m2
    rw [show PyData.shownAll (d :: ds) = d.shown :: PyData.shownAll ds by simp only [PyData.shownAll]]
    exact .cons c1 c2
theorem SwE.nil : SwE P w h [] [] := ⟨⟨_, .nil⟩, ⟨_, .nil⟩, fun _ => ⟨[], none_at, by simp only [PyData.shownKv]; exact .nil⟩⟩
theorem SwE.cons {e : DictEntry} {es : List DictEntry} {k v : PyData} {ks : List (PyData × PyData)} (a : Sw P w h e.key k) (b : Sw P w h e.val v) (c : SwE P w h es ks) : SwE P w h (e :: es) ((k, v) :: ks) := by
  refine ⟨?_, ?_, fun z => ?_⟩
  · obtain ⟨x, hx⟩ := a.rd
    obtain ⟨y, hy⟩ := c.k
    exact ⟨_, .cons hx hy⟩
  · obtain ⟨x, hx⟩ := b.rd
    obtain ⟨y, hy⟩ := c.v
    exact ⟨_, .cons hx hy⟩
  · have z1 := z (k.shown ++ ": " ++ v.shown) (by simp only [PyData.shownKv]; exact List.mem_cons_self ..)
    rw [strLen_append, strLen_append] at z1
    obtain ⟨x, hx, kx⟩ := a.go (by omega)
    obtain ⟨y, hy, ky⟩ := b.go (by omega)
    obtain ⟨o, ho, ko⟩ := c.go fun t ht => z t (by simp only [PyData.shownKv]; exact List.mem_cons_of_mem _ ht)
    have m1 : k.depth ≤ PyData.depthKv ((k, v) :: ks) := by simp only [PyData.depthKv]; omega
    have m2 : v.depth ≤ PyData.depthKv ((k, v) :: ks) := by simp only [PyData.depthKv]; omega
    have m3 : PyData.depthKv ks ≤ PyData.depthKv ((k, v) :: ks) := by simp only [PyData.depthKv]; omega
    refine ⟨x ++ y ++ o, ((hx.mono m1).append (hy.mono m2)).append (ho.mono m3), ?_⟩
    have c1 := (kx.more (as' := x ++ y ++ o) fun b hb => by simp [hb]).level_le m1
    have c2 := (ky.more (as' := x ++ y ++ o) fun b hb => by simp [hb]).level_le m2
    have more : ∀ {es : List DictEntry} {ts : List Str}, ReprEntriesK P w o h (PyData.depthKv ks) es ts → ReprEntriesK P w (x ++ y ++ o) h (PyData.depthKv ((k, v) :: ks)) es ts := by
      intro es ts q
      induction q with
      | nil => exact .nil
      | cons q1 q2 _ ih => exact .cons ((q1.more fun b hb => by simp [hb]).level_le m3) ((q2.more fun b hb => by simp [hb]).level_le m3) ih
    rw [show PyData.shownKv ((k, v) :: ks) = (k.shown ++ ": " ++ v.shown) :: PyData.shownKv ks by simp only [PyData.shownKv]]
    exact .cons c1 c2 (more ko)
/-- what a list's, a tuple's, a dict's own text needs -/
theorem SwA.deep {us : List Value} {ds : List PyData} {a : Addr} {d : PyData} {as : List Addr} (q : SwA P w h us ds) (r : Reads h (.ref a) d as) (hd : d.depth = PyData.depthAll ds + 1) (z : ∀ t ∈ PyData.shownAll ds, t.length ≤ sizeLine) :
    ∃ bs, a ∉ bs ∧ ReadAtMost h d.depth (a :: bs) ∧ ReprAllK P w bs h (PyData.depthAll ds) us (PyData.shownAll ds) := by
  obtain ⟨bs, hb, k⟩ := q.go z
  exact ⟨bs, not_mem_of_deeper r (by omega) hb, .cons r (by omega) hb, k⟩
theorem Sw.list {a : Addr} {o : Obj} {us : List Value} {n : Nat} {ds : List PyData} (h1 : h.get? a = some o) (h2 : o.cls = .type "list") (h3 : o.data = .seq us.toArray n) (q : SwA P w h us ds) : Sw P w h (.ref a) (.list ds) := by
  obtain ⟨as, r0⟩ := q.rd
  have r : Reads h (.ref a) (.list ds) _ := .list h1 h2 h3 r0
  refine ⟨⟨_, r⟩, fun b eb z A E s Q hg hu hk hQ => ?_, fun z => ?_⟩
  · cases eb
    simp only [PyData.depth] at hu
    simp only [PyData.shown] at z hQ
    obtain ⟨bs, hna, _, k⟩ := q.deep r (by simp only [PyData.depth]) fun t ht => Nat.le_trans (listText_mem_le ht) z
    refine call_repr_slot (by omega) ⟨o, hk _ _ h1, h2⟩ F.slot_list_repr.toG ?_
    cases us with
    | nil =>
      cases r0
      simp only [PyData.shownAll, listText_nil] at hQ
      exact call_list_repr_empty ⟨o, hk _ _ h1, h2⟩ (hk _ _ h1) h3 ⟨_, _, rfl, hQ s.heap _ _ fun _ _ e => e⟩
    | cons x l => exact call_list_reprK h1 h2 h3 hna (by simpa using k.length_eq) (fun i y e => k.item i y (by simpa using e)) (A := A.in1) hg (fun b _ => Clear.nil b) (by show A.units + 1 + _ < cLine; omega) hk (fun h' u tk e => ⟨_, _, rfl, hQ h' u tk e⟩) z
  simp only [PyData.shown] at z
  obtain ⟨bs, hna, hb, k⟩ := q.deep r (by simp only [PyData.depth]) fun t ht => Nat.le_trans (listText_mem_le ht) z
  refine ⟨_, hb, ?_⟩
  simp only [PyData.depth, PyData.shown]
  cases us with
  | nil =>
    cases r0
    simp only [PyData.shownAll, listText_nil]
    exact .listEmpty h1 h2 h3
  | cons x l => exact .list h1 h2 h3 hna (by simpa using k.length_eq) fun i y e => k.item i y (by simpa using e)
theorem Sw.tuple {a : Addr} {o : Obj} {us : List Value} {n : Nat} {ds : List PyData} (h1 : h.get? a = some o) (h2 : o.cls = .type "tuple") (h3 : o.data = .seq us.toArray n) (q : SwA P w h us ds) : Sw P w h (.ref a) (.tuple ds) := by
  obtain ⟨as, r0⟩ := q.rd
  have r : Reads h (.ref a) (.tuple ds) _ := .tuple h1 h2 h3 r0
  refine ⟨⟨_, r⟩, fun b eb z A E s Q hg hu hk hQ => ?_, fun z => ?_⟩
  · cases eb
    simp only [PyData.depth] at hu
    simp only [PyData.shown] at z hQ
    obtain ⟨bs, hna, _, k⟩ := q.deep r (by simp only [PyData.depth]) fun t ht => Nat.le_trans (tupleText_mem_le ht) z
    refine call_repr_slot (by omega) ⟨o, hk _ _ h1, h2⟩ F.slot_tuple_repr ?_
    exact call_tuple_reprK h1 h2 h3 hna k (A := A.in1) hg (fun b _ => Clear.nil b) (by show A.units + 1 + _ < cLine; omega) hk (fun h' u tk e => ⟨_, _, rfl, hQ h' u tk e⟩) z
  simp only [PyData.shown] at z
  obtain ⟨bs, hna, hb, k⟩ := q.deep r (by simp only [PyData.depth]) fun t ht => Nat.le_trans (tupleText_mem_le ht) z
  refine ⟨_, hb, ?_⟩
  simp only [PyData.depth, PyData.shown]
  exact .tuple h1 h2 h3 hna k
theorem Sw.dict {a : Addr} {o : Obj} {es : Array DictEntry} {n : Nat} {ks : List (PyData × PyData)} (h1 : h.get? a = some o) (h2 : o.cls = .type "dict") (h3 : o.data = .dict es n) (hs : (a == sysModules) = false) (q : SwE P w h es.toList ks) : Sw P w h (.ref a) (.dict ks) := by
  obtain ⟨as, r0⟩ := q.k
  obtain ⟨as', r1⟩ := q.v
  have r : Reads h (.ref a) (.dict ks) _ := .dict h1 h2 h3 r0 r1
  have hd : (PyData.dict ks).depth = PyData.depthKv ks + 1 := by simp only [PyData.depth]
  refine ⟨⟨_, r⟩, fun b eb z A E s Q hg hu hk hQ => ?_, fun z => ?_⟩
  · cases eb
    rw [hd] at hu
    simp only [PyData.shown] at z hQ
    obtain ⟨bs, hb, k⟩ := q.go fun t ht => Nat.le_trans (dictText_mem_le ht) z
    have hna := not_mem_of_deeper r (by omega : PyData.depthKv ks < _) hb
    refine call_repr_slot (by omega) ⟨o, hk _ _ h1, h2⟩ F.slot_dict_repr ?_
    exact call_dict_reprK h1 h2 h3 hs hna k (A := A.in1) hg (fun b _ => Clear.nil b) (by show A.units + 1 + _ < cLine; omega) hk (fun h' u tk e => ⟨_, _, rfl, hQ h' u tk e⟩) z
  simp only [PyData.shown] at z
  obtain ⟨bs, hb, k⟩ := q.go fun t ht => Nat.le_trans (dictText_mem_le ht) z
  have hna := not_mem_of_deeper r (by omega : PyData.depthKv ks < _) hb
  refine ⟨a :: bs, .cons r (by omega) hb, ?_⟩
  simp only [PyData.depth, PyData.shown]
  exact .dict h1 h2 h3 hs hna k
end

mutual
/-- dicts in it are plain dicts of ints and texts -/
def okS : PyData → Bool
  | .list xs => okSA xs
  | .tuple xs => okSA xs
  | .dict ks => isDK ks && okSK ks
  | _ => true
def okSA : List PyData → Bool
  | [] => true
  | x :: xs => okS x && okSA xs
def okSK : List (PyData × PyData) → Bool
  | [] => true
  | (_, v) :: ks => okS v && okSK ks
end
section
variable {X : Cx} {pins : List (Addr × Obj)} {σ : L2.St} {H F : Hp} {s : Shared}
theorem sw_key {k : Key} {u : Value} (e : keyIs k u = true) (hs : (keyD k).showable = true) : Sw X.prog X.w s.heap u (keyD k) := by
  rcases keyIs_shape e with ⟨i, t, rfl, rfl⟩ | ⟨x, t, rfl, rfl⟩
  · exact .flat (.int i t) (fun _ => nofun) fun _ => by
      simp only [keyD, PyData.shown]
      exact ReprIs.int t (by simpa [keyD, PyData.showable] using hs)
  · exact .flat (.str x t) (fun _ => nofun) fun z => by
      simp only [keyD, PyData.shown] at z ⊢
      exact ReprIs.str x t z
mutual
theorem Rp.sw (I : Inv X pins σ H s) (le : Le F H) : ∀ {v : V} {d : PyData} {u : Value}, Rp (Cx.ck X) F v d → RelV v u → d.showable = true → okS d = true → Sw X.prog X.w s.heap u d
  | _, _, _, .non, r, _, _ => by cases r; exact .flat .none (fun _ => nofun) fun _ => by simp only [PyData.shown]; exact ReprIs.none
  | _, _, _, .bl b, r, _, _ => by cases r; exact .flat (.bool b) (fun _ => nofun) fun _ => by simp only [PyData.shown]; exact ReprIs.bool b
  | _, _, _, .int i, r, hs, _ => by obtain ⟨t, rfl⟩ := r; exact .flat (.int i t) (fun _ => nofun) fun _ => by simp only [PyData.shown]; exact ReprIs.int t (by simpa [PyData.showable] using hs)
  | _, _, _, .str x, r, _, _ => by obtain ⟨t, rfl⟩ := r; exact .flat (.str x t) (fun _ => nofun) fun z => by simp only [PyData.shown] at z ⊢; exact ReprIs.str x t z
  | _, _, _, .lst hr ra, r, hs, ho => by
    cases r
    obtain ⟨_, its, n, rv, _, e⟩ := lstR I (Le.sqx le hr)
    exact .list e rfl rfl (RpA.sw I le ra rv (by simpa only [PyData.showable] using hs) (by simpa only [okS] using ho))
  | _, _, _, .tup hr _ ra, r, hs, ho => by
    cases r
    obtain ⟨its, rv, ⟨o, e, c, n, dd⟩, _⟩ := I.tuple (Le.sqt le hr)
    exact .tuple e c dd (RpA.sw I le ra rv (by simpa only [PyData.showable] using hs) (by simpa only [okS] using ho))
  | _, _, _, .dK hr rk, r, hs, ho => by
    cases r
    obtain ⟨_, lo, vs, rel, o, es, ep, e, ex, dd, _, pr, _⟩ := dk_rd I.hok (Le.rd le hr)
    have ho : _ ∧ _ := Bool.and_eq_true_iff.mp (by simpa only [okS] using ho)
    exact .dict e ex.1 dd lo (RpK.sw I le rk rel pr (by simpa only [PyData.showable] using hs) ho.2)
  | _, _, _, .dT hr rk hn, _, _, ho => by
    obtain ⟨_, _, e, hr', _⟩ := (Rp.dT (K := Cx.ck X) hr rk hn).dk (Bool.and_eq_true_iff.mp (by simpa only [okS] using ho)).1
    cases e
    rcases hr' with z | ⟨_, z⟩ <;> rw [hr] at z <;> cases z
  | _, _, _, .obj hr hm hi rk, _, _, ho => by
    obtain ⟨_, _, e, hr', _⟩ := (Rp.obj (K := Cx.ck X) hr hm hi rk).dk (Bool.and_eq_true_iff.mp (by simpa only [okS, objD] using ho)).1
    cases e
    rcases hr' with z | ⟨_, z⟩ <;> rw [hr] at z <;> cases z
  | _, _, _, .exc hr hm hi rk, _, _, ho => by
    obtain ⟨_, _, e, hr', _⟩ := (Rp.exc (K := Cx.ck X) hr hm hi rk).dk (Bool.and_eq_true_iff.mp (by simpa only [okS, errD] using ho)).1
    cases e
    rcases hr' with z | ⟨_, z⟩ <;> rw [hr] at z <;> cases z
  | _, _, _, .fn _, _, _, ho => by
    have := (Bool.and_eq_true_iff.mp (by simpa only [okS, fnD] using ho)).1
    exact absurd this (by simp [isDK, dkey])
theorem RpA.sw (I : Inv X pins σ H s) (le : Le F H) : ∀ {vs : List V} {ds : List PyData} {us : List Value}, RpA (Cx.ck X) F vs ds → Vals vs us → PyData.showableAll ds = true → okSA ds = true → SwA X.prog X.w s.heap us ds
  | _, _, _, .nil, r, _, _ => by cases r; exact .nil
  | _, _, _, @RpA.cons _ _ _ _ d ds a b, r, hs, ho => by
    cases r with
    | cons r1 r2 =>
      have hs' : d.showable = true ∧ PyData.showableAll ds = true := by simpa [PyData.showableAll] using hs
      have ho' : okS d = true ∧ okSA ds = true := by simpa [okSA] using ho
      exact .cons (Rp.sw I le a r1 hs'.1 ho'.1) (RpA.sw I le b r2 hs'.2 ho'.2)
theorem RpK.sw (I : Inv X pins σ H s) (le : Le F H) : ∀ {kvs : List (Key × V)} {ks : List (PyData × PyData)} {vs : List (Key × Value)} {es : List DictEntry}, RpK (Cx.ck X) F kvs ks → KV kvs vs → Pairs (mixKind X.prog X.w) es vs → PyData.showableKv ks = true → okSK ks = true → SwE X.prog X.w s.heap es ks
  | _, _, _, _, .nil, r, p, _, _ => by cases r; cases p; exact .nil
  | _, _, _, _, @RpK.cons _ _ k v _ d ds a b, r, p, hs, ho => by
    cases r with
    | cons r1 r2 =>
      cases p with
      | cons p1 p2 p3 =>
        have hs' : ((keyD k).showable = true ∧ d.showable = true) ∧ PyData.showableKv ds = true := by simpa [PyData.showableKv] using hs
        have ho' : okS d = true ∧ okSK ds = true := by simpa [okSK] using ho
        refine .cons (sw_key (by have := p1; rw [← r1.1] at this; exact this) hs'.1.1) (Rp.sw I le a (by rw [p2]; exact r1.2) hs'.1.2 ho'.1) (RpK.sw I le b r2 p3 hs'.2 ho'.2)
end
end
def isRefS : PyData → Bool
  | .list _ => true
  | .tuple _ => true
  | .dict _ => true
  | _ => false
def oReprD : O1 := fun x => if okS x = true ∧ x.depth ≤ 64 ∧ x.showable = true ∧ x.shown.length ≤ sizeLine ∧ isRefS x = true then some (.d (.str x.shown)) else (match x with
  | .int i => if i.natAbs.log2 < 1920 then some (.d (.str (toString i))) else none
  | .bool b => some (.d (.str (if b then "True" else "False")))
  | .none => some (.d (.str "None"))
  | _ => none)
def gReprD : GO1 := fun x Q => ∃ r, oReprD x = some r ∧ Q r
theorem call_reprD {X : Cx} (hg : X.A.guards = some []) (hu : X.A.units + 70 < cLine) : CallR X (.builtin "repr") (rA (Cx.ck X) (g1 gReprD)) := cr_one fun pins s σ H v u S F x Qd Q I ru o rx g p => by
  obtain ⟨r, h, q⟩ := g
  unfold oReprD at h
  split at h
  · rename_i c
    cases h
    obtain ⟨h1, h2, h3, h4, h5⟩ := c
    have sw := Rp.sw I o.sub rx ru h3 h1
    have fin : ∀ b, u = .ref b → wpAny (model X.prog X.w) X.A (call (.builtin "repr") [u]) (EP X pins σ Q) X.xe s := fun b hb =>
      sw.top b hb h4 X.A X.xe s (EP X pins σ Q) hg (by omega) (fun _ _ e => e) fun h' t tk hk => ⟨.str _, H, I.kept (t' := tk) hk, ⟨_, rfl⟩, p.d o (Rp.str _) q⟩
    cases rx with
    | lst _ _ => cases ru; exact fin _ rfl
    | tup _ _ _ => cases ru; exact fin _ rfl
    | dK _ _ => cases ru; exact fin _ rfl
    | dT _ _ _ => cases ru; exact fin _ rfl
    | obj _ _ _ _ => cases ru; exact fin _ rfl
    | exc _ _ _ _ => cases ru; exact fin _ rfl
    | fn _ => cases ru; exact fin _ rfl
    | _ => cases h5
  · cases rx with
    | int i =>
      simp only at h
      split at h
      · cases h
        obtain ⟨t, rfl⟩ := ru
        exact P.repr_of_int ‹_› ⟨.str _, H, I.tok _, ⟨_, rfl⟩, p.d o (Rp.str _) q⟩
      · cases h
    | bl b =>
      cases h
      cases ru
      exact P.repr_of_bool ⟨.str _, H, I.tok _, ⟨_, rfl⟩, p.d o (Rp.str _) q⟩
    | non =>
      cases h
      cases ru
      exact P.repr_of_none ⟨.str _, H, I.tok _, ⟨_, rfl⟩, p.d o (Rp.str _) q⟩
    | _ => cases h
end Fx

namespace Fx
open PySem L2

section
variable {α β γ : Type} {e : α → PyData} {e' : β → PyData} {k : α → Key} {ρ : List SD} {g : Gs} {fa : EF} {xa : PyData}
theorem q_lenX (p : α × β) : oLen (eP e e' p) = some (.d (.int 2)) := rfl
theorem isE_eD [DecidableEq α] (h : KeyK e k) (m : List (α × β)) : isE (eD e e' m) = false := by
  have := q_tyD (e' := e') h m
  unfold isE
  split
  · rename_i q
    rw [q] at this
    exact absurd this (by simp [tyD])
  · rfl
theorem v_isiC {T : String} {b : Bool} (ha : fDat fa ρ g = .ok xa g) (h : isD T xa = b) (hE : isE xa = false := by first | rfl | exact isE_eD kk_str _ | exact isE_eD kk_int _) : fIsi T fa ρ g = .ok (.d (.bool b)) g := h ▸ v_isi ha hE
def chars (x : Str) : List Str := x.cps.toList.map fun c => ⟨#[c]⟩
def sgn (a : Str) : Prop := ∃ c, a = ⟨#[c]⟩
theorem chars_sgn {x a : Str} (h : a ∈ chars x) : sgn a := by
  obtain ⟨c, _, rfl⟩ := List.mem_map.mp h
  exact ⟨c, rfl⟩
/-- is the sign in the text -/
def hasS (z a : Str) : Bool := match a.cps.toList with
  | [c] => decide (c ∈ z.cps.toList)
  | _ => false
theorem q_inS {a : Str} (z : Str) (h : sgn a) : oIn false (.str a) (.str z) = some (.d (.bool (hasS z a))) := by
  obtain ⟨c, rfl⟩ := h
  show some (RV.d (.bool (false ^^ decide (c ∈ z.cps.toList)))) = _
  rw [Bool.false_xor]; rfl
theorem q_ninS {a : Str} (z : Str) (h : sgn a) : oIn true (.str a) (.str z) = some (.d (.bool (!hasS z a))) := by
  obtain ⟨c, rfl⟩ := h
  show some (RV.d (.bool (true ^^ decide (c ∈ z.cps.toList)))) = _
  rw [Bool.true_xor]; rfl
theorem vi_strZ {x : Str} (h : fDat fa ρ g = .ok (.str x) g) (hz : x.length ≤ sizeLine) : iaSeqZ fa ρ g = .ok ((chars x).map PyData.str) g := by
  refine vi_seqZ h ?_
  show (if x.cps.toList.length ≤ sizeLine then _ else _) = _
  rw [if_pos (by rw [Array.length_toList]; exact hz)]
  unfold chars
  rw [List.map_map]; rfl
def Shd (d : PyData) : Prop := okS d = true ∧ d.depth ≤ 64 ∧ d.showable = true ∧ d.shown.length ≤ sizeLine
theorem q_repr {d : PyData} (h : Shd d) (hr : isRefS d = true := by rfl) : oReprD d = some (.d (.str d.shown)) := by
  unfold oReprD
  rw [if_pos ⟨h.1, h.2.1, h.2.2.1, h.2.2.2, hr⟩]
end
def blK {β σ γ : Type} (vr : β → γ) (K : σ → Gs → R γ) (r : Bl β σ) (g : Gs) : R γ := match r with
  | .ret b => .ok (vr b) g
  | .nx s => K s g
theorem h_loopK {α β γ σ : Type} {ρ : List SD} {g : Gs} {h : EFs} {P : γ → Out → Prop} {w : β → RV} {xs : List α} {ea : α → PyData} {fi : EFi} {fg : EFg} {fb : EFs} {f : σ → α → Gs → R (Bl β σ)} {s0 : σ} {vr : β → γ} {K : σ → Gs → R γ} (Rσ : σ → List SD → Prop) (hi : fi ρ g = .ok (xs.map ea) g) (h0 : Rσ s0 ρ)
    (hb : ∀ s x ρ g, Rσ s ρ → ∃ ρ1, fg (ea x) ρ = some ρ1 ∧ RG fb ρ1 g (f s x g) (Rb w Rσ)) (kr : ∀ b, P (vr b) (.rt (w b))) (k : ∀ s ρ' g, Rσ s ρ' → RG h ρ' g (K s g) P) :
    RG (fSeq (fFor fi fg fb) h) ρ g ((loopM f xs s0 g).bind (blK vr K)) P := by
  have q := h_loop (vr := vr) (K := K) Rσ hi h0 hb kr k
  have e : blK vr K = fun (r : Bl β σ) g => (match r with | .ret b => R.ok (vr b) g | .nx s => K s g) := by
    funext r g
    cases r <;> rfl
  rw [e]
  exact q
end Fx

namespace Fx
open PySem L2

section
variable {K : Ck} {W : WX}
end
section
variable {α β γ : Type} {e : α → PyData} {ρ : List SD} {g : Gs}
variable {δ : Type} {h : EFs} {M : R δ} {P : δ → Out → Prop}
end

section
variable {α β γ : Type} {e : α → PyData} {e' : β → PyData} {e'' : γ → PyData}
end
section
variable {X : Cx} {pins : List (Addr × Obj)} {σ : L2.St} {H F : Hp} {s : Shared}
end
section
variable {α β : Type} [DecidableEq α] [DecidableEq β] {e : α → PyData} {e' : β → PyData} {k : α → Key} {n : Nat}
end
end Fx

namespace Fq
open PySem L2

/-- 0, 1, 6, 31, ..: how far x -> 5 x + 1 leads from 0 -/
def sg : Nat → Nat
  | 0 => 0
  | n + 1 => 5 * sg n + 1
theorem sg4 (n : Nat) : 4 * sg n + 1 = 5 ^ n := by
  induction n with
  | zero => rfl
  | succ n ih => rw [Nat.pow_succ, ← ih]; simp only [sg]; omega
theorem sg_add (a b : Nat) : sg (a + b) = 5 ^ a * sg b + sg a := by
  induction a with
  | zero => simp [sg]
  | succ a ih =>
    rw [show a + 1 + b = (a + b) + 1 by omega]
    simp only [sg]
    rw [ih, Nat.pow_succ, Nat.mul_add, ← Nat.mul_assoc, Nat.mul_comm 5 (5 ^ a)]
    omega
theorem sg_odd (n : Nat) : sg n % 2 = n % 2 := by
  induction n with
  | zero => rfl
  | succ n ih => simp only [sg]; omega
theorem sg_two (e : Nat) : sg (2 * e) = 2 * (sg e * (2 * sg e + 1)) := by
  have h := sg_add e e
  have q := sg4 e
  rw [show e + e = 2 * e by omega, ← q] at h
  rw [h, Nat.add_mul, Nat.one_mul, Nat.mul_add, Nat.mul_one, Nat.mul_add]
  have : 4 * sg e * sg e = 2 * (sg e * (2 * sg e)) := by
    rw [Nat.mul_assoc, Nat.mul_left_comm (sg e) 2 (sg e), ← Nat.mul_assoc 2 2]
  omega
theorem pow_dvd_odd {k a b : Nat} (hb : b % 2 = 1) (h : 2 ^ k ∣ a * b) : 2 ^ k ∣ a := by
  have c : Nat.Coprime (2 ^ k) b := Nat.Coprime.pow_left k (by
    show Nat.gcd 2 b = 1
    rw [Nat.gcd_rec, hb]; decide)
  exact Nat.Coprime.dvd_of_dvd_mul_right c h
theorem sg_dvd : ∀ (k d : Nat), 2 ^ k ∣ sg d → 2 ^ k ∣ d
  | 0, d, _ => by simp
  | k + 1, d, h => by
    have h2 : 2 ∣ sg d := Nat.dvd_trans (by rw [Nat.pow_succ]; exact Nat.dvd_mul_left ..) h
    have od := sg_odd d
    obtain ⟨e, rfl⟩ : ∃ e, d = 2 * e := ⟨d / 2, by omega⟩
    rw [sg_two, Nat.pow_succ, Nat.mul_comm (2 ^ k) 2] at h
    have h3 : 2 ^ k ∣ sg e * (2 * sg e + 1) := Nat.dvd_of_mul_dvd_mul_left (by decide) h
    have h4 := sg_dvd k e (pow_dvd_odd (by omega) h3)
    rw [Nat.pow_succ, Nat.mul_comm (2 ^ k) 2]
    exact Nat.mul_dvd_mul_left 2 h4
/-- the table's sizes -/
def Pw (m : Nat) : Prop := ∃ k, m + 1 = 2 ^ k
theorem lcg_at (m i : Nat) (hi : i ≤ m) : ∀ n, lcgI m i n = (i + sg n * (4 * i + 1)) % (m + 1)
  | 0 => by simp only [lcgI, sg]; rw [Nat.zero_mul, Nat.add_zero, Nat.mod_eq_of_lt (by omega)]
  | n + 1 => by
    have e : lcgI m i (n + 1) = (lcgI m i n * 5 + 1) % (m + 1) := rfl
    rw [e, lcg_at m i hi n]
    have q : ((i + sg n * (4 * i + 1)) % (m + 1) * 5 + 1) % (m + 1) = ((i + sg n * (4 * i + 1)) * 5 + 1) % (m + 1) := by
      rw [Nat.add_mod, Nat.mul_mod, Nat.mod_mod, ← Nat.mul_mod, ← Nat.add_mod]
    rw [q]
    congr 1
    simp only [sg]
    rw [Nat.add_mul (5 * sg n) 1, Nat.one_mul, Nat.mul_assoc]
    omega
theorem lcg_inj {m i : Nat} (hm : Pw m) (hi : i ≤ m) {a d : Nat} (hd : 0 < d) (hl : d ≤ m) : lcgI m i a ≠ lcgI m i (a + d) := by
  intro e
  obtain ⟨k, hk⟩ := hm
  rw [lcg_at m i hi, lcg_at m i hi, sg_add] at e
  have h1 : (i + sg a * (4 * i + 1)) % (m + 1) = (i + sg a * (4 * i + 1) + 5 ^ a * sg d * (4 * i + 1)) % (m + 1) := by
    rw [e]; congr 1; rw [Nat.add_mul]; omega
  have h2 : (m + 1) ∣ 5 ^ a * sg d * (4 * i + 1) := by
    have z := Nat.sub_mod_eq_zero_of_mod_eq h1.symm
    rw [Nat.add_sub_cancel_left] at z
    exact Nat.dvd_of_mod_eq_zero z
  rw [hk] at h2
  have h3 := pow_dvd_odd (a := 5 ^ a * sg d) (by omega) h2
  rw [Nat.mul_comm] at h3
  have h4 : 2 ^ k ∣ sg d := pow_dvd_odd (b := 5 ^ a) (by have := sg4 a; omega) h3
  have h5 := Nat.le_of_dvd hd (sg_dvd k d h4)
  omega
/-- from anywhere each slot is met within one round -/
theorem lcg_round {m : Nat} (hm : Pw m) {i j : Nat} (hi : i ≤ m) (hj : j ≤ m) : ∃ n, n ≤ m ∧ lcgI m i n = j := by
  rcases Classical.em (∃ n, n ≤ m ∧ lcgI m i n = j) with c | c
  · exact c
  · exfalso
    have nd : ((List.range (m + 1)).map (lcgI m i)).Nodup := by
      refine List.pairwise_map.mpr ((List.pairwise_lt_range (n := m + 1)).imp_of_mem fun {a b} ha hb hab => ?_)
      have hb := List.mem_range.mp hb
      have := lcg_inj hm hi (a := a) (d := b - a) (by omega) (by omega)
      rwa [show a + (b - a) = b by omega] at this
    have lt : ∀ n, lcgI m i n ≤ m := fun n => by rw [lcg_at m i hi]; exact Nat.le_of_lt_succ (Nat.mod_lt _ (Nat.succ_pos m))
    have l1 := nat_nodup_len (j :: (List.range (m + 1)).map (lcgI m i)) (List.range (m + 1)) (List.nodup_cons.mpr ⟨fun z => by
      obtain ⟨n, hn, e⟩ := List.mem_map.mp z
      exact c ⟨n, Nat.le_of_lt_succ (List.mem_range.mp hn), e⟩, nd⟩) fun x hx => by
        rcases List.mem_cons.mp hx with rfl | hx
        · exact List.mem_range.mpr (Nat.lt_succ_of_le hj)
        · obtain ⟨n, _, rfl⟩ := List.mem_map.mp hx
          exact List.mem_range.mpr (Nat.lt_succ_of_le (lt n))
    simp at l1
    omega
theorem start_meets {m : Nat} (hm : Pw m) (h : Int) {j : Nat} (hj : j ≤ m) : ∃ n, n ≤ m + 12 ∧ runI m (SetTable.bits h) n = j := by
  obtain ⟨k, a, b⟩ := lcg_round hm (runI_le m (SetTable.bits h) 12) hj
  exact ⟨12 + k, by omega, (runI_tail (bits_lt h) k).trans b⟩
theorem way_meets {m : Nat} (hm : Pw m) (h : Int) {j : Nat} (hj : j ≤ m) : ∃ k, k < 10 * SetTable.turns m ∧ way m h k = j := by
  obtain ⟨n, a, b⟩ := start_meets hm h hj
  obtain ⟨k, c, d⟩ := run_nth m (SetTable.bits h) n
  exact ⟨k, by unfold SetTable.turns; omega, by unfold way; rw [d]; exact b⟩
theorem wayLe {m : Nat} {h : Int} {k : Nat} : way m h k ≤ m := by
  have a := runEnd_bd (m := m) (i := SetTable.bits h % (m + 1)) (Nat.le_of_lt_succ (Nat.mod_lt _ (Nat.succ_pos m)))
  have b := nth_in (m := m) k (runAt m (SetTable.bits h % (m + 1)) (SetTable.bits h)) (by unfold runAt; simp only; omega)
  unfold way
  omega
/-- a table whose entries are found again by their hashes -/
structure Tab (t : SetTable) (hs : List Int) : Prop where
  up : Ris t.place.toList
  nod : t.dummies = #[]
  siz : t.place.size = hs.length
  pw : Pw t.mask
  odd : t.mask % 2 = 1
  bnd : ∀ j ∈ t.place.toList, j ≤ t.mask
  rch : ∀ (i : Nat) (h : Int) (j : Nat), hs[i]? = some h → t.place.toList[i]? = some j → ∃ k, way t.mask h k = j ∧ ∀ c, c < k → way t.mask h c ∈ t.place.toList
theorem Tab.free {t : SetTable} {hs : List Int} (T : Tab t hs) (hl : hs.length ≤ t.mask) (h : Int) :
    ∃ K, K < 10 * SetTable.turns t.mask ∧ way t.mask h K ∉ t.place.toList ∧ ∀ k, k < K → way t.mask h k ∈ t.place.toList := by
  obtain ⟨j, hj, hn⟩ := st_missing t.place.toList (t.mask + 1) (by rw [Array.length_toList, T.siz]; omega)
  obtain ⟨k, hk, e⟩ := way_meets T.pw h (Nat.le_of_lt_succ hj)
  obtain ⟨K, a, b, c⟩ := st_least (p := fun k => way t.mask h k ∉ t.place.toList) k (by rw [e]; exact hn)
  exact ⟨K, Nat.lt_of_le_of_lt a hk, b, fun q hq => Classical.not_not.mp (c q hq)⟩
/-- one more -/
theorem Tab.ins {t : SetTable} {hs : List Int} (T : Tab t hs) {h : Int} {K : Nat} (hK : way t.mask h K ∉ t.place.toList) (hb : ∀ k, k < K → way t.mask h k ∈ t.place.toList) {j p : Nat} (ej : way t.mask h K = j) (ep : SetTable.below t.place j = p) :
    (t.put j).2 = p ∧ p ≤ hs.length ∧ Tab (t.put j).1 (hs.take p ++ h :: hs.drop p) ∧ (t.put j).1.mask = t.mask ∧ (t.put j).1.led = t.led ∧ (t.put j).1.plain = t.plain ∧ (t.put j).1.moves = t.moves ∧ (t.put j).1.finger = t.finger ∧ (t.put j).1.fill = hs.length + 1 := by
  have jm : j ≤ t.mask := ej ▸ wayLe
  rw [ej] at hK
  have pl : p ≤ t.place.size := ep ▸ (below_cut T.up j).1
  have pl' : p ≤ t.place.toList.length := by rw [Array.length_toList]; exact pl
  have ph : p ≤ hs.length := by rw [← T.siz]; exact pl
  have nw : t.place[p]? ≠ some j := fun e => hK (List.mem_of_getElem? ((Array.getElem?_toList ..).trans e))
  have eq : (t.put j).1.place.toList = t.place.toList.take p ++ j :: t.place.toList.drop p := ep ▸ put_place t j
  have dm := put_dm T.nod j
  have sz : (t.put j).1.place.size = hs.length + 1 := by
    rw [← Array.length_toList, eq, len_ins _ pl', Array.length_toList, T.siz]
  have inn : ∀ {x : Nat}, x ∈ t.place.toList → x ∈ (t.put j).1.place.toList := fun {x} hx => eq ▸ mem_ins.2 (.inr hx)
  refine ⟨ep, ph, ⟨ris_insert T.up (by rw [ep]; exact nw), dm, by rw [len_ins _ ph]; exact sz, T.pw, T.odd, fun x hx => ?_, fun i h' j' a b => ?_⟩, rfl, rfl, rfl, rfl, rfl, ?_⟩
  · rcases mem_ins.1 (eq ▸ hx) with z | z
    · rw [z]; exact jm
    · exact T.bnd x z
  · rw [tins_get hs ph] at a
    rw [eq, tins_get _ pl'] at b
    show ∃ k, way t.mask h' k = j' ∧ ∀ c, c < k → way t.mask h' c ∈ (t.put j).1.place.toList
    rcases Nat.lt_trichotomy i p with c | c | c
    · rw [if_pos c] at a b
      obtain ⟨k, e, z⟩ := T.rch i h' j' a b
      exact ⟨k, e, fun q hq => inn (z q hq)⟩
    · rw [if_neg (by omega), if_pos c] at a b
      cases a; cases b
      exact ⟨K, ej, fun q hq => inn (hb q hq)⟩
    · rw [if_neg (by omega), if_neg (by omega)] at a b
      obtain ⟨k, e, z⟩ := T.rch (i - 1) h' j' a b
      exact ⟨k, e, fun q hq => inn (z q hq)⟩
  · unfold SetTable.fill
    rw [sz, dm]; rfl
theorem freeAt {m : Nat} (hm : Pw m) (o : Array (Option Nat)) (h : Int) {j : Nat} (hj : j ≤ m) (hf : oAt o j = none) :
    ∃ K, SetTable.layClean.free m o (SetTable.turns m) (SetTable.bits h % (m + 1)) (SetTable.bits h) = some (way m h K) ∧ oAt o (way m h K) = none ∧ ∀ k, k < K → oAt o (way m h k) ≠ none := by
  obtain ⟨n, hn, e⟩ := start_meets hm h hj
  have w : way m h (off m (SetTable.bits h % (m + 1)) (SetTable.bits h) n) = j := by unfold way; rw [nth_off, itL_run]; exact e
  obtain ⟨K, a, b, c⟩ := st_least (p := fun k => oAt o (way m h k) = none) _ (show oAt o (way m h (off m (SetTable.bits h % (m + 1)) (SetTable.bits h) n)) = none by rw [w]; exact hf)
  refine ⟨K, free_spec m o (SetTable.turns m) n _ _ K (by unfold SetTable.turns; omega) a (fun k hk => ?_) ?_, b, c⟩
  · have q := c k hk
    unfold way at q
    cases z : oAt o (nth m (runAt m (SetTable.bits h % (m + 1)) (SetTable.bits h)) k).j with
    | none => exact absurd z q
    | some _ => rfl
  · unfold way at b
    rw [b]; rfl
/-- the slots of those laid so far -/
structure Laid (m : Nat) (done : List Int) (o : Array (Option Nat)) : Prop where
  siz : o.size = m + 1
  own : ∀ j k, j ≤ m → oAt o j = some k → ∃ h K, done[k]? = some h ∧ way m h K = j ∧ ∀ c, c < K → oAt o (way m h c) ≠ none
  has : ∀ k, k < done.length → ∃ j, j ≤ m ∧ oAt o j = some k
  few : ∃ ps : List Nat, ps.length = done.length ∧ ∀ j, j ≤ m → oAt o j ≠ none → j ∈ ps
theorem Laid.more {m : Nat} (hm : Pw m) {done : List Int} {o : Array (Option Nat)} (W : Laid m done o) (hl : done.length ≤ m) (h : Int) :
    ∃ j, SetTable.layClean.free m o (SetTable.turns m) (SetTable.bits h % (m + 1)) (SetTable.bits h) = some j ∧ Laid m (done ++ [h]) (o.setIfInBounds j (some done.length)) := by
  obtain ⟨ps, lps, hps⟩ := W.few
  obtain ⟨j0, a0, b0⟩ := st_missing ps (m + 1) (by omega)
  have f0 : oAt o j0 = none := by
    cases z : oAt o j0 with
    | none => rfl
    | some k => exact (b0 (hps j0 (Nat.le_of_lt_succ a0) (by rw [z]; simp))).elim
  obtain ⟨K, e1, e2, e3⟩ := freeAt hm o h (Nat.le_of_lt_succ a0) f0
  have jm : way m h K ≤ m := wayLe
  refine ⟨_, e1, ?_⟩
  generalize ej : way m h K = j at e2 jm ⊢
  have self := oAt_set_self (owner := o) (some done.length) (j := j) (by rw [W.siz]; omega)
  have up : ∀ {i : Nat}, oAt o i ≠ none → oAt (o.setIfInBounds j (some done.length)) i ≠ none := fun {i} hi => by
    by_cases c : i = j
    · rw [c, self]; simp
    · rw [oAt_set_ne _ c]; exact hi
  refine ⟨by rw [Array.size_setIfInBounds]; exact W.siz, fun i k hi e => ?_, fun k hk => ?_, j :: ps, by simp [lps], fun i hi e => ?_⟩
  · by_cases c : i = j
    · rw [c, self] at e
      cases e
      exact ⟨h, K, by simp, ej.trans c.symm, fun q hq => up (e3 q hq)⟩
    · rw [oAt_set_ne _ c] at e
      obtain ⟨h', K', a1, a2, a3⟩ := W.own i k hi e
      exact ⟨h', K', by rw [List.getElem?_append_left (List.getElem?_eq_some_iff.mp a1).1]; exact a1, a2, fun q hq => up (a3 q hq)⟩
  · rw [List.length_append, List.length_singleton] at hk
    by_cases c : k < done.length
    · obtain ⟨i, hi, e⟩ := W.has k c
      exact ⟨i, hi, by rw [oAt_set_ne _ fun z => by rw [z, e2] at e; cases e]; exact e⟩
    · exact ⟨j, jm, by rw [self, show k = done.length by omega]⟩
  · by_cases c : i = j
    · rw [c]; exact List.mem_cons_self
    · rw [oAt_set_ne _ c] at e
      exact List.mem_cons_of_mem _ (hps i hi e)
/-- the tables that come, up to 4914 in one -/
def Few (m : Nat) : Prop := m = 7 ∨ m = 31 ∨ m = 127 ∨ m = 511 ∨ m = 2047 ∨ m = 8191
theorem Few.pw {m : Nat} (h : Few m) : Pw m ∧ m % 2 = 1 ∧ m ≤ 8191 := by
  rcases h with rfl | rfl | rfl | rfl | rfl | rfl
  · exact ⟨⟨3, rfl⟩, rfl, by decide⟩
  · exact ⟨⟨5, rfl⟩, rfl, by decide⟩
  · exact ⟨⟨7, rfl⟩, rfl, by decide⟩
  · exact ⟨⟨9, rfl⟩, rfl, by decide⟩
  · exact ⟨⟨11, rfl⟩, rfl, by decide⟩
  · exact ⟨⟨13, rfl⟩, rfl, by decide⟩
end Fq

namespace Fq
open PySem PySem.Spec PyProof.Rows L2

/-- the tuple at a is the key k -/
abbrev Tp (P : Program) (w : World) (h : Heap) (k : NestedKey) (a : Addr) : Prop := (nestedKind P w).is h k a
section
variable {P : Program} {w : World} {A : Around} {E : Value → Shared → Prop} {s : Shared}
theorem Tp.ty {k : NestedKey} {a : Addr} (h : Tp P w s.heap k a) : s.TypeIs (.ref a) "tuple" := (nestedKind_stays (prog := P) (w := w)).tuple h
theorem Tp.stay {h h' : Heap} {k : NestedKey} {a : Addr} (x : Tp P w h k a) (hk : ∀ b o, h.get? b = some o → h'.get? b = some o) : Tp P w h' k a := (nestedKind_stays (prog := P) (w := w)).stays (fun b o _ _ e _ => hk b o e) x
/-- no class statement's, n levels down -/
def NoCls (P : Program) (w : World) (n : Nat) (s : Shared) (v : Value) : Prop := ∀ (A : Around) (E : Value → Shared → Prop) (Q : Bool → Shared → Prop), Q false s → wpAny (model P w) A (ofAClassStatement n v) Q E s
mutual
theorem noCls : ∀ (k : NestedKey) (v : Value) (n : Nat) (s : Shared), NestedIs s.heap k v → k.depth ≤ n → NoCls P w n s v
  | .none, _, n, s, x, _ => by cases x; intro A E Q q; cases n <;> exact wpAny_pure q
  | .num i, _, n, s, x, _ => by cases x <;> (intro A E Q q; cases n <;> exact wpAny_pure q)
  | .text y, _, n, s, x, _ => by cases x; intro A E Q q; cases n <;> exact wpAny_pure q
  | .tup ks, _, n, s, x, hn => by
    cases x with
    | @tup b o vs m _ ho hc hd hk =>
      cases n with
      | zero => simp [NestedKey.depth] at hn
      | succ n =>
        have all := noClsAll ks vs.toList n s hk (by simp only [NestedKey.depth] at hn; omega)
        intro A E Q q
        unfold ofAClassStatement
        refine wpAny_bind (wpAny_typeOf (T := "tuple") ⟨o, ho, hc⟩ ?_)
        dsimp only
        simp only [show (("tuple" : String) == "tuple") = true from rfl, if_true]
        refine wpAny_bind (wpAny_pure ?_)
        simp only [Bool.not_true, Bool.false_eq_true, if_false]
        show wpAny _ _ (seqItems? (.ref b) >>= _) _ _ s
        refine wpAny_bind (wpAny_seqItems ho hd ?_)
        dsimp only
        refine wpAny_bind ?_
        show wpAny _ _ (forIn vs _ _) _ _ s
        rw [← Array.forIn_toList]
        refine wpAny_forIn_list _ (fun l r s2 => r.1 = none ∧ s2 = s ∧ ∀ v ∈ l, NoCls P w n s v) _ ?_ ?_ _ _ ⟨rfl, rfl, all⟩
        · rintro v l r s2 ⟨hr, rfl, ha⟩
          refine wpAny_bind (ha v List.mem_cons_self A E _ ?_)
          simp only [Bool.false_eq_true, if_false]
          exact wpAny_pure ⟨rfl, rfl, fun u hu => ha u (List.mem_cons_of_mem _ hu)⟩
        · rintro ⟨r1, r2⟩ s2 ⟨hr, rfl, _⟩
          cases hr
          exact wpAny_pure q
theorem noClsAll : ∀ (ks : List NestedKey) (vs : List Value) (n : Nat) (s : Shared), NestedAll s.heap ks vs → NestedKey.depthAll ks ≤ n → ∀ v ∈ vs, NoCls P w n s v
  | [], _, n, s, x, _, v, hv => by cases x; cases hv
  | k :: ks, _, n, s, x, hn, v, hv => by
    simp only [NestedKey.depthAll] at hn
    cases x with
    | cons x1 x2 =>
      rcases List.mem_cons.mp hv with rfl | hv
      · exact noCls k _ n s x1 (by omega)
      · exact noClsAll ks _ n s x2 (by omega) v hv
end
/-- whether its hash is one by value: either way -/
def HashBy (P : Program) (w : World) (n : Nat) (s : Shared) (v : Value) : Prop := ∀ (A : Around) (E : Value → Shared → Prop) (Q : Bool → Shared → Prop), (∀ b, Q b s) → wpAny (model P w) A (hashByValue n v) Q E s
mutual
theorem hashBy : ∀ (k : NestedKey) (v : Value) (n : Nat) (s : Shared), NestedIs s.heap k v → HashBy P w n s v
  | .none, _, n, s, x => by cases x; intro A E Q q; cases n <;> exact wpAny_pure (q _)
  | .num i, _, n, s, x => by cases x <;> (intro A E Q q; cases n <;> exact wpAny_pure (q _))
  | .text y, _, n, s, x => by cases x; intro A E Q q; cases n <;> exact wpAny_pure (q _)
  | .tup ks, _, n, s, x => by
    cases x with
    | @tup b o vs m _ ho hc hd hk =>
      intro A E Q q
      cases n with
      | zero => exact wpAny_pure (q _)
      | succ n =>
        have all := hashByAll ks vs.toList n s hk
        unfold hashByValue
        refine wpAny_bind (wpAny_specialOf (T := "tuple") ⟨o, ho, hc⟩ F.slot_tuple_hash.lookup ?_)
        show wpAny _ _ (seqItems? (.ref b) >>= _) _ _ s
        refine wpAny_bind (wpAny_seqItems ho hd ?_)
        refine wpAny_bind ?_
        show wpAny _ _ (forIn vs _ _) _ _ s
        rw [← Array.forIn_toList]
        refine wpAny_forIn_list _ (fun l r s2 => s2 = s ∧ ∀ v ∈ l, HashBy P w n s v) _ ?_ ?_ _ _ ⟨rfl, all⟩
        · rintro v l r s2 ⟨rfl, ha⟩
          refine wpAny_bind (ha v List.mem_cons_self A E _ fun c => ?_)
          cases c with
          | true =>
            simp only [Bool.not_true, Bool.false_eq_true, if_false]
            exact wpAny_pure ⟨rfl, fun u hu => ha u (List.mem_cons_of_mem _ hu)⟩
          | false =>
            simp only [Bool.not_false, if_true]
            exact wpAny_pure (by dsimp only; exact wpAny_pure (q _))
        · rintro ⟨r1, r2⟩ s2 ⟨rfl, _⟩
          cases r1 with
          | none => exact wpAny_pure (q _)
          | some c => exact wpAny_pure (q _)
theorem hashByAll : ∀ (ks : List NestedKey) (vs : List Value) (n : Nat) (s : Shared), NestedAll s.heap ks vs → ∀ v ∈ vs, HashBy P w n s v
  | [], _, n, s, x, v, hv => by cases x; cases hv
  | k :: ks, _, n, s, x, v, hv => by
    cases x with
    | cons x1 x2 =>
      rcases List.mem_cons.mp hv with rfl | hv
      · exact hashBy k _ n s x1
      · exact hashByAll ks _ n s x2 v hv
end
def ent (w : World) (L : List (Addr × NestedKey)) : List (Int × Value) := L.map fun p => (p.2.hash w, Value.ref p.1)
structure SetOk (P : Program) (w : World) (h : Heap) (a : Addr) (L : List (Addr × NestedKey)) (es : Array (Int × Value)) (ep : Nat) (t : SetTable) : Prop where
  ob : ∃ o, h.get? a = some o ∧ o.ExactSet ∧ o.data = .set es ep t
  rows : es.toList = ent w L
  tab : Tab t (L.map fun p => p.2.hash w)
  nd : (L.map (·.2)).Nodup
  tup : ∀ p ∈ L, Tp P w h p.2 p.1
  led : w.params.followText "set-order" = true ∨ t.led = true
  room : L.length * 5 < t.mask * 3
  small : Few t.mask
  few : L.length < 4096
variable {a : Addr} {L : List (Addr × NestedKey)} {es : Array (Int × Value)} {ep : Nat} {t : SetTable}
theorem SetOk.size {h : Heap} (R : SetOk P w h a L es ep t) : es.size = L.length := by
  rw [← Array.length_toList, R.rows]; simp [ent]
theorem SetOk.at_ {h : Heap} (R : SetOk P w h a L es ep t) {i : Nat} {p : Addr × NestedKey} (hp : L[i]? = some p) : es[i]? = some (p.2.hash w, Value.ref p.1) := by
  rw [← Array.getElem?_toList, R.rows]
  simp [ent, hp]
theorem SetOk.stays {h : Heap} (R : SetOk P w h a L es ep t) : ¬ t.gaveWay = true := by
  unfold SetTable.gaveWay
  rw [R.tab.odd]
  decide
end
end Fq

namespace Fq
open PySem PySem.Spec PyProof.Rows L2
/-- where a search stands at its c-th step -/
abbrev pr (m : Nat) (h : Int) (c : Nat) : SetTable.Probe := nth m (runAt m (SetTable.bits h % (m + 1)) (SetTable.bits h)) c
section
variable {P : Program} {w : World} {A : Around} {E : Value → Shared → Prop} {s : Shared} {a : Addr} {L : List (Addr × NestedKey)} {es : Array (Int × Value)} {ep : Nat} {t : SetTable}
end
end Fq

namespace Fq
open PySem PySem.Spec PyProof.Rows L2
section
variable {P : Program} {w : World} {A : Around} {E : Value → Shared → Prop} {s : Shared}
/-- set.update's loop, whatever is said of the set: J of how many have been added -/
theorem upd_loop {I : Addr} {fp wr : List Addr} {G : Array GenState → Array GenState → Prop} {n : Nat} {Pv : Nat → Value → Prop} {St : Nat → Shared → Prop} {R : Result → Shared → Prop}
    (W : WalksS P w A.in1 I fp wr G n Pv St) (S : Addr) (hSf : S ∉ fp) (J : Nat → Heap → Prop)
    (mv : ∀ i h h', (∀ b o, b ∉ wr → h.get? b = some o → h'.get? b = some o) → J i h → J i h')
    (step : ∀ i v (s1 : Shared) (Q : Bool → Shared → Prop), i < n → Pv i v → J i s1.heap → (∀ b h' tk, Heap.SameBut S s1.heap h' → s1.toks ≤ tk → J (i + 1) h' → Q b { s1 with heap := h', toks := tk }) → wpAny (model P w) A.in1 (setAdd S v) Q (fun _ _ => False) s1) :
    ∀ (k i : Nat) (s : Shared), n - i = k → i ≤ n → St i s → J i s.heap → (∀ s', Moved (S :: wr) G s s' → J n s'.heap → R (.ok (.ret .none)) s') → codeAny (model P w) A (.builtin "set.update.loop" ⟨[.ref S, .ref I], []⟩) R s := by
  have sub : ∀ b ∈ wr, b ∈ S :: wr := fun b hb => List.mem_cons_of_mem _ hb
  intro k
  induction k with
  | zero =>
    intro i s ek hi st j hR
    obtain rfl : i = n := by omega
    refine codeAny_builtin F.entry_set_update_loop ?_
    rw [Around.under_plainId F.plain_set_update_loop _]
    show wpAny _ A.in1 (pyNext (.ref I) >>= _) _ _ s
    refine wpAny_bind (W.done s _ _ st fun s' hm => ?_)
    show wpAny _ A.in1 (ret Value.none) _ _ s'
    exact wpAny_pure (hR s' (hm.mono sub) (mv _ _ _ hm.heap j))
  | succ k ih =>
    intro i s ek hi st j hR
    have lt : i < n := by omega
    refine codeAny_builtin F.entry_set_update_loop ?_
    rw [Around.under_plainId F.plain_set_update_loop _]
    show wpAny _ A.in1 (pyNext (.ref I) >>= _) _ _ s
    refine wpAny_bind (W.item i s _ _ lt st fun v s1 hP st1 hm => ?_)
    show wpAny _ A.in1 (holding [v] (setAdd S v) >>= _) _ _ s1
    refine wpAny_bind (wpAny_holding ?_)
    refine wpAny_mono (step i v s1 _ lt hP (mv _ _ _ hm.heap j) fun b h' tk sb tk1 j1 => ?_) (fun _ _ q => q) fun _ _ z => z.elim
    refine wpAny_pure ⟨plainId_quiet F.plain_set_update_loop _, ih (i + 1) _ (by omega) lt (W.frame _ s1 _ _ st1 tk1 fun b hb o e => ?_) j1 fun s2 hm2 j2 => ?_⟩
    · rw [sb.2 b fun z : b = S => hSf (z ▸ hb)]; exact e
    · refine hR s2 (Moved.trans W.gtrans ((hm.mono sub).then_heap tk1 fun b o hb e => ?_) hm2) j2
      rw [sb.2 b fun z : b = S => hb (by rw [z]; exact List.mem_cons_self)]; exact e
/-- a set just made -/
abbrev newSet (w : World) : Obj := { cls := .type "set", dict := none, data := .set #[] 0 (.fresh 0 0 (!w.params.followText "set-order")) }
/-- what set(xs) needs of its items -/
structure SetJ (P : Program) (w : World) (A : Around) (s : Shared) (items : Array Value) (J : Nat → Heap → Prop) : Prop where
  j0 : ∀ h, (∀ b o, s.heap.get? b = some o → h.get? b = some o) → h.get? s.heap.objs.size = some (newSet w) → J 0 h
  mv : ∀ i h h', (∀ b o, b ≤ s.heap.objs.size → h.get? b = some o → h'.get? b = some o) → J i h → J i h'
  step : ∀ i v (A' : Around) (s1 : Shared) (Q : Bool → Shared → Prop), A'.units ≤ A.units + 4 → items[i]? = some v → J i s1.heap → (∀ b h' tk, Heap.SameBut s.heap.objs.size s1.heap h' → s1.toks ≤ tk → J (i + 1) h' → Q b { s1 with heap := h', toks := tk }) → wpAny (model P w) A' (setAdd s.heap.objs.size v) Q (fun _ _ => False) s1
set_option maxHeartbeats 6400000 in
/-- set(xs), xs a list -/
theorem call_setL {l : Addr} {items : Array Value} {Q : Value → Shared → Prop} (hh : A.handled = none) (hl : s.heap.IsList l items) {J : Nat → Heap → Prop} (C : SetJ P w A s items J)
    (h : ∀ (h' : Heap) (tk : Nat), J items.size h' → (∀ b o, s.heap.get? b = some o → h'.get? b = some o) → Q (.ref s.heap.objs.size) { s with heap := h', toks := tk }) :
    wpAny (model P w) A (call (.type "set") [.ref l]) Q E s := by
  obtain ⟨c, tl, mro⟩ := F.called_set.mro
  have made := F.called_set.made
  have sub := F.called_set.sub
  refine wpAny_call (codeAny_of_tree ?_)
  show wpAny _ _ (callAny (.type "set") _) _ _ _
  refine wpAny_pure ⟨Code.quiet_builtin _ (by decide +kernel), codeAny_builtin F.entry_type_call ?_⟩
  rw [Around.under_plain (weight_type_call_type "set" [.ref l] []) rfl]
  have n1 := F.called_set.notType
  have n2 := F.called_set.canCreate
  have n3 := F.typeCall_set_1 (.ref l)
  repeat (any_goals (first | assumption | wp_step))
  refine codeAny_mono (code_set_led1 (.ref l) (E := E) (Q₁ := fun obj s₁ => obj = .ref s.heap.objs.size ∧ s₁ = { s with heap := s.heap.push (newSet w) }) ⟨rfl, rfl⟩) fun r s₁ hr => ?_
  cases r with
  | error e => exact hr
  | ok fl =>
    cases fl with
    | ret obj =>
      obtain ⟨rfl, rfl⟩ := hr
      have hS : (s.heap.push (newSet w)).get? s.heap.objs.size = some (newSet w) := Heap.get?_push_size _ rfl
      have tS : Shared.TypeIs { s with heap := s.heap.push (newSet w) } (.ref s.heap.objs.size) "set" := ⟨_, hS, rfl⟩
      have li := F.called_set.init.lookup
      have bi := F.called_set.init.bind (.ref s.heap.objs.size)
      repeat (any_goals (first | assumption | wp_step))
      refine codeAny_mono (codeAny_call_builtin (R := wants (fun r s₂ => r = .none ∧ ∃ h' tk, s₂ = { s with heap := h', toks := tk } ∧ J items.size h' ∧ (∀ b o, s.heap.get? b = some o → h'.get? b = some o)) E) F.called_set.init.plain F.entry_set_init (check_set_init_1 tS ?_)) fun r₂ s₂ hr₂ => ?_
      · obtain ⟨ol, hol, hcl, nl, hdl⟩ := hl
        obtain ⟨oc, od, dat, sl⟩ := ol
        simp only at hcl hdl
        subst hcl; subst hdl
        have hol' := Heap.get?_push_of_some (newSet w) hol
        have u1 := F.sub_list_set
        have u2 := F.sub_list_frozenset
        have u3 : (Value.type "list" == Value.type "dict") = false := by decide
        have hl1 : (s.heap.push (newSet w)).IsList l items := ⟨_, hol', rfl, nl, rfl⟩
        unfold Builtin.«set.__init__» noKeywords Builtin.Frozenset.updateFrom
        generalize hPI : pyIter = PI
        wp_walk
        subst hPI
        refine wpAny_pyIter_list hl1 (wpAny_bind (wpAny_runValue ?_))
        have lS : l < s.heap.objs.size := Heap.lt_size hol
        have sz1 : (s.heap.push (newSet w)).objs.size = s.heap.objs.size + 1 := Heap.size_push ..
        have hI : l ≠ (s.heap.push (newSet w)).objs.size := by rw [sz1]; exact Nat.ne_of_lt (Nat.lt_succ_of_lt lS)
        have hSf : s.heap.objs.size ∉ [(s.heap.push (newSet w)).objs.size, l] := by
          rw [sz1]; simp only [List.mem_cons, List.not_mem_nil, or_false, not_or]; exact ⟨Nat.ne_of_lt (Nat.lt_succ_self _), Nat.ne_of_gt lS⟩
        refine upd_loop (W := (Walks.list (by simp [hh]) _ l hI items).toS) (A := _) s.heap.objs.size hSf J (fun i h h' k => C.mv i h h' fun b o hb e => k b o (fun z => ?_) e) (fun i v s1 Q _ hv j q => C.step i v _ s1 Q ?_ hv j q) (items.size - 0) 0 _ (by omega) (Nat.zero_le _) ⟨⟨_, Heap.get?_push_size _ rfl, rfl, rfl⟩, hl1.push _⟩ (C.j0 _ (fun b o e => Heap.get?_push_of_some _ (Heap.get?_push_of_some _ e)) (Heap.get?_push_of_some _ hS)) ?_
        · rw [List.mem_singleton.mp z, sz1] at hb; exact absurd hb (Nat.not_succ_le_self _)
        · simp
        · intro s' hm j
          obtain ⟨h', g2, d', tk', os'⟩ := s'
          have eg : g2 = s.gens := hm.gens
          have ed : d' = s.drawn := hm.drawn
          have eo : os' = s.os := hm.os
          subst eg; subst ed; subst eo
          show wpAny _ _ _ _ _ _
          refine wpAny_pure ?_
          show wpAny _ _ (ret Value.none) _ _ _
          refine wpAny_pure ⟨rfl, h', tk', rfl, j, fun b o e => hm.heap b o (fun z => ?_) (Heap.get?_push_of_some _ (Heap.get?_push_of_some _ e))⟩
          have := Heap.lt_size e
          rcases List.mem_cons.mp z with z | z
          · rw [z] at this; exact absurd this (Nat.lt_irrefl _)
          · rw [List.mem_singleton.mp z, sz1] at this; exact absurd this (Nat.not_lt_of_le (Nat.le_succ _))
      · cases r₂ with
        | error e => exact hr₂
        | ok fl₂ =>
          cases fl₂ with
          | ret r =>
            obtain ⟨rfl, h', tk, rfl, j, k⟩ := hr₂
            repeat (any_goals (first | assumption | wp_step))
            exact h _ _ j k
          | _ => exact hr₂.elim
    | _ => exact hr.elim
set_option maxHeartbeats 6400000 in
/-- set(xs), xs a tuple -/
theorem call_setT {l : Addr} {items : Array Value} {Q : Value → Shared → Prop} (hh : A.handled = none) (hl : s.heap.IsTuple l items) {J : Nat → Heap → Prop} (C : SetJ P w A s items J)
    (h : ∀ (h' : Heap) (tk : Nat), J items.size h' → (∀ b o, s.heap.get? b = some o → h'.get? b = some o) → Q (.ref s.heap.objs.size) { s with heap := h', toks := tk }) :
    wpAny (model P w) A (call (.type "set") [.ref l]) Q E s := by
  obtain ⟨c, tl, mro⟩ := F.called_set.mro
  have made := F.called_set.made
  have sub := F.called_set.sub
  refine wpAny_call (codeAny_of_tree ?_)
  show wpAny _ _ (callAny (.type "set") _) _ _ _
  refine wpAny_pure ⟨Code.quiet_builtin _ (by decide +kernel), codeAny_builtin F.entry_type_call ?_⟩
  rw [Around.under_plain (weight_type_call_type "set" [.ref l] []) rfl]
  have n1 := F.called_set.notType
  have n2 := F.called_set.canCreate
  have n3 := F.typeCall_set_1 (.ref l)
  repeat (any_goals (first | assumption | wp_step))
  refine codeAny_mono (code_set_led1 (.ref l) (E := E) (Q₁ := fun obj s₁ => obj = .ref s.heap.objs.size ∧ s₁ = { s with heap := s.heap.push (newSet w) }) ⟨rfl, rfl⟩) fun r s₁ hr => ?_
  cases r with
  | error e => exact hr
  | ok fl =>
    cases fl with
    | ret obj =>
      obtain ⟨rfl, rfl⟩ := hr
      have hS : (s.heap.push (newSet w)).get? s.heap.objs.size = some (newSet w) := Heap.get?_push_size _ rfl
      have tS : Shared.TypeIs { s with heap := s.heap.push (newSet w) } (.ref s.heap.objs.size) "set" := ⟨_, hS, rfl⟩
      have li := F.called_set.init.lookup
      have bi := F.called_set.init.bind (.ref s.heap.objs.size)
      repeat (any_goals (first | assumption | wp_step))
      refine codeAny_mono (codeAny_call_builtin (R := wants (fun r s₂ => r = .none ∧ ∃ h' tk, s₂ = { s with heap := h', toks := tk } ∧ J items.size h' ∧ (∀ b o, s.heap.get? b = some o → h'.get? b = some o)) E) F.called_set.init.plain F.entry_set_init (check_set_init_1 tS ?_)) fun r₂ s₂ hr₂ => ?_
      · obtain ⟨ol, hol, hcl, nl, hdl⟩ := hl
        obtain ⟨oc, od, dat, sl⟩ := ol
        simp only at hcl hdl
        subst hcl; subst hdl
        have hol' := Heap.get?_push_of_some (newSet w) hol
        have u1 := F.sub_tuple_set
        have u2 := F.sub_tuple_frozenset
        have u3 : (Value.type "tuple" == Value.type "dict") = false := by decide
        have hl1 : (s.heap.push (newSet w)).IsTuple l items := ⟨_, hol', rfl, nl, rfl⟩
        unfold Builtin.«set.__init__» noKeywords Builtin.Frozenset.updateFrom
        generalize hPI : pyIter = PI
        wp_walk
        subst hPI
        refine wpAny_pyIter_tuple hl1 (wpAny_bind (wpAny_runValue ?_))
        have lS : l < s.heap.objs.size := Heap.lt_size hol
        have sz1 : (s.heap.push (newSet w)).objs.size = s.heap.objs.size + 1 := Heap.size_push ..
        have hI : l ≠ (s.heap.push (newSet w)).objs.size := by rw [sz1]; exact Nat.ne_of_lt (Nat.lt_succ_of_lt lS)
        have hSf : s.heap.objs.size ∉ [(s.heap.push (newSet w)).objs.size, l] := by
          rw [sz1]; simp only [List.mem_cons, List.not_mem_nil, or_false, not_or]; exact ⟨Nat.ne_of_lt (Nat.lt_succ_self _), Nat.ne_of_gt lS⟩
        refine upd_loop (W := (Walks.tuple (by simp [hh]) _ l hI items).toS) (A := _) s.heap.objs.size hSf J (fun i h h' k => C.mv i h h' fun b o hb e => k b o (fun z => ?_) e) (fun i v s1 Q _ hv j q => C.step i v _ s1 Q ?_ hv j q) (items.size - 0) 0 _ (by omega) (Nat.zero_le _) ⟨⟨_, Heap.get?_push_size _ rfl, rfl, rfl⟩, hl1.push _⟩ (C.j0 _ (fun b o e => Heap.get?_push_of_some _ (Heap.get?_push_of_some _ e)) (Heap.get?_push_of_some _ hS)) ?_
        · rw [List.mem_singleton.mp z, sz1] at hb; exact absurd hb (Nat.not_succ_le_self _)
        · simp
        · intro s' hm j
          obtain ⟨h', g2, d', tk', os'⟩ := s'
          have eg : g2 = s.gens := hm.gens
          have ed : d' = s.drawn := hm.drawn
          have eo : os' = s.os := hm.os
          subst eg; subst ed; subst eo
          show wpAny _ _ _ _ _ _
          refine wpAny_pure ?_
          show wpAny _ _ (ret Value.none) _ _ _
          refine wpAny_pure ⟨rfl, h', tk', rfl, j, fun b o e => hm.heap b o (fun z => ?_) (Heap.get?_push_of_some _ (Heap.get?_push_of_some _ e))⟩
          have := Heap.lt_size e
          rcases List.mem_cons.mp z with z | z
          · rw [z] at this; exact absurd this (Nat.lt_irrefl _)
          · rw [List.mem_singleton.mp z, sz1] at this; exact absurd this (Nat.not_lt_of_le (Nat.le_succ _))
      · cases r₂ with
        | error e => exact hr₂
        | ok fl₂ =>
          cases fl₂ with
          | ret r =>
            obtain ⟨rfl, h', tk, rfl, j, k⟩ := hr₂
            repeat (any_goals (first | assumption | wp_step))
            exact h _ _ j k
          | _ => exact hr₂.elim
    | _ => exact hr.elim
end
end Fq

namespace Fq
open PySem PySem.Spec PyProof.Rows L2 Fx
section
variable {X : Cx} {pins : List (Addr × Obj)} {σ : L2.St} {H F : Hp} {s : Shared}
mutual
theorem key_of (I : Inv X pins σ H s) (le : Le F H) : ∀ (k : NestedKey) (v : V) (u : Value), Rp (Cx.ck X) F v k.data → RelV v u → NestedIs s.heap k u
  | .none, _, _, r, q => by cases r; cases q; exact .none
  | .num i, _, _, r, q => by cases r; obtain ⟨t, rfl⟩ := q; exact .int i t
  | .text x, _, _, r, q => by cases r; obtain ⟨t, rfl⟩ := q; exact .text x t
  | .tup ks, _, _, r, q => by
    unfold NestedKey.data at r
    cases r with
    | tup h _ ra =>
      cases q
      obtain ⟨its, rv, ⟨o, ho, hc, n, hd⟩, _⟩ := I.tuple (Le.sqt le h)
      exact .tup ho hc hd (keys_of I le ks _ _ ra rv)
theorem keys_of (I : Inv X pins σ H s) (le : Le F H) : ∀ (ks : List NestedKey) (vs : List V) (us : List Value), RpA (Cx.ck X) F vs (NestedKey.datas ks) → Vals vs us → NestedAll s.heap ks us
  | [], _, _, r, q => by cases r; cases q; exact .nil
  | k :: ks, _, _, r, q => by
    cases r with
    | cons r1 r2 =>
      cases q with
      | cons q1 q2 => exact .cons (key_of I le k _ _ r1 q1) (keys_of I le ks _ _ r2 q2)
end
/-- at a stands the tuple that is the key k -/
def KeyH (K : Ck) (H : Hp) (a : Addr) (k : NestedKey) : Prop := Rp K H (.ref a) k.data ∧ k.depth ≤ 8
theorem KeyH.mono {K : Ck} {H H' : Hp} {a : Addr} {k : NestedKey} (h : KeyH K H a k) (e : Le H H') : KeyH K H' a k := ⟨h.1.mono e, h.2⟩
end
structure SetS (P : Program) (w : World) (h : Heap) (a : Addr) (L : List (Addr × NestedKey)) : Prop where
  ex : ∃ (es : Array (Int × Value)) (ep : Nat) (t : SetTable), (∃ o, h.get? a = some o ∧ o.ExactSet ∧ o.data = .set es ep t) ∧ es.toList = ent w L ∧ Tab t (L.map fun p => p.2.hash w) ∧ (L.map (·.2)).Nodup ∧
    (w.params.followText "set-order" = true ∨ t.led = true) ∧ L.length * 5 < t.mask * 3 ∧ Few t.mask ∧ L.length < 4096
def SetO (P : Program) (w : World) (a : Addr) (L : List (Addr × NestedKey)) : HO := .ext fun h => SetS P w h a L
section
variable {P : Program} {w : World} {H : Hp} {h : Heap} {a : Addr} {L : List (Addr × NestedKey)} {es : Array (Int × Value)} {ep : Nat} {t : SetTable}
theorem SetOk.kept {h' : Heap} (R : SetOk P w h a L es ep t) (ka : ∀ o, h.get? a = some o → h'.get? a = some o) (kt : ∀ p ∈ L, Tp P w h' p.2 p.1) : SetOk P w h' a L es ep t :=
  let ⟨o, ho, r⟩ := R.ob
  ⟨⟨o, ka o ho, r⟩, R.rows, R.tab, R.nd, kt, R.led, R.room, R.small, R.few⟩
end
/-- what a set has of the first i things -/
structure Have (ks : List (Addr × NestedKey)) (i : Nat) (L : List (Addr × NestedKey)) : Prop where
  sub : ∀ p ∈ L, p ∈ ks.take i
  all : ∀ p ∈ ks.take i, p.2 ∈ L.map (·.2)
  len : L.length ≤ i
theorem Have.step {ks L L' : List (Addr × NestedKey)} {i : Nat} {x : Addr × NestedKey} (g : Have ks i L) (h : ks[i]? = some x) (c1 : x.2 ∈ L.map (·.2) → L' = L) (c2 : x.2 ∉ L.map (·.2) → L'.Perm (x :: L)) : Have ks (i + 1) L' := by
  have tk : ks.take (i + 1) = ks.take i ++ [x] := by rw [List.take_succ, h]; rfl
  rcases Classical.em (x.2 ∈ L.map (·.2)) with c | c
  · rw [c1 c]
    refine ⟨fun p hp => by rw [tk]; exact List.mem_append_left _ (g.sub p hp), fun p hp => ?_, Nat.le_succ_of_le g.len⟩
    rw [tk] at hp
    rcases List.mem_append.mp hp with z | z
    · exact g.all p z
    · rw [List.mem_singleton.mp z]; exact c
  · have pm := c2 c
    refine ⟨fun p hp => ?_, fun p hp => ?_, by rw [pm.length_eq]; exact Nat.succ_le_succ g.len⟩
    · rw [tk]
      rcases List.mem_cons.mp (pm.mem_iff.mp hp) with rfl | z
      · exact List.mem_append_right _ (List.mem_singleton.mpr rfl)
      · exact List.mem_append_left _ (g.sub p z)
    · rw [(pm.map (·.2)).mem_iff, List.map_cons]
      rw [tk] at hp
      rcases List.mem_append.mp hp with z | z
      · exact List.mem_cons_of_mem _ (g.all p z)
      · rw [List.mem_singleton.mp z]; exact List.mem_cons_self
section
variable {P : Program} {w : World} {A : Around} {E : Value → Shared → Prop} {s : Shared}
end
section
variable {X : Cx}
end
end Fq

namespace Fq
open PySem PySem.Spec PyProof.Rows L2 Fx
section
variable {X : Cx}
theorem Inv_any {pins : List (Addr × Obj)} {σ : L2.St} {H : Hp} {s s' : Shared} (I : Inv X pins σ H s) (k : ∀ b o, s.heap.get? b = some o → s'.heap.get? b = some o) (g : s'.gens = s.gens) (os : s'.os = s.os) : Inv X pins σ H s' :=
  I.call' (ch := []) os (Un.kept k) (I.hok.kept k) (by rw [g]; exact I.bare) (fun _ z => nomatch z)
end
end Fq

namespace Fq
open PySem PySem.Spec PyProof.Rows L2 Fx
section
variable {X : Cx}
end
end Fq

namespace Fq
open PySem L2 Fx
section
variable {α β : Type} [DecidableEq α] [DecidableEq β]
def one1 (acc : List α) (x : α) : List α := if x ∈ acc then acc else acc ++ [x]
def nubF (xs : List α) : List α := xs.foldl one1 []
theorem nubF_snoc (xs : List α) (x : α) : nubF (xs ++ [x]) = one1 (nubF xs) x := by unfold nubF; rw [List.foldl_append]; rfl
theorem one1_spec (acc : List α) (x : α) (h : acc.Nodup) : (one1 acc x).Nodup ∧ ∀ y, y ∈ one1 acc x ↔ y ∈ acc ∨ y = x := by
  unfold one1
  split
  · rename_i c; exact ⟨h, fun y => ⟨.inl, fun z => z.elim id fun e => e ▸ c⟩⟩
  · rename_i c
    exact ⟨List.nodup_append.mpr ⟨h, by simp, fun a ha b hb e => c (by rw [← List.mem_singleton.mp hb, ← e]; exact ha)⟩, fun y => by simp⟩
theorem foldl_one1 : ∀ (xs acc : List α), acc.Nodup → (xs.foldl one1 acc).Nodup ∧ ∀ y, y ∈ xs.foldl one1 acc ↔ y ∈ acc ∨ y ∈ xs
  | [], acc, h => ⟨h, fun y => by simp⟩
  | x :: xs, acc, h => by
    obtain ⟨a, b⟩ := one1_spec acc x h
    obtain ⟨c, d⟩ := foldl_one1 xs _ a
    exact ⟨c, fun y => by rw [List.foldl_cons, d, b, List.mem_cons, or_assoc]⟩
theorem nubF_nodup (xs : List α) : (nubF xs).Nodup := (foldl_one1 xs [] List.nodup_nil).1
theorem one1_len (acc : List α) (x : α) : (one1 acc x).length ≤ acc.length + 1 := by unfold one1; split <;> simp
theorem foldl_len : ∀ (xs acc : List α), (xs.foldl one1 acc).length ≤ acc.length + xs.length
  | [], acc => by simp
  | x :: xs, acc => by rw [List.foldl_cons]; have := foldl_len xs (one1 acc x); have := one1_len acc x; simp only [List.length_cons]; omega
theorem nubF_len (xs : List α) : (nubF xs).length ≤ xs.length := by have := foldl_len xs []; simpa [nubF] using this
end
mutual
def keyO : PyData → Option NestedKey
  | .none => some .none
  | .int i => some (.num i)
  | .str x => some (.text x)
  | .tuple ds => (keysO ds).map .tup
  | _ => none
def keysO : List PyData → Option (List NestedKey)
  | [] => some []
  | d :: ds => (keyO d).bind fun k => (keysO ds).map (k :: ·)
end
mutual
theorem keyO_data : ∀ (d : PyData) (k : NestedKey), keyO d = some k → k.data = d
  | .none, k, h => by simp only [keyO, Option.some.injEq] at h; subst h; rfl
  | .int i, k, h => by simp only [keyO, Option.some.injEq] at h; subst h; rfl
  | .str x, k, h => by simp only [keyO, Option.some.injEq] at h; subst h; rfl
  | .tuple ds, k, h => by
    simp only [keyO] at h
    cases e : keysO ds with
    | none => rw [e] at h; cases h
    | some ks =>
      rw [e] at h
      cases h
      simp only [NestedKey.data]
      rw [keysO_datas ds ks e]
  | .bool b, k, h => by simp [keyO] at h
  | .list xs, k, h => by simp [keyO] at h
  | .dict ks, k, h => by simp [keyO] at h
theorem keysO_datas : ∀ (ds : List PyData) (ks : List NestedKey), keysO ds = some ks → NestedKey.datas ks = ds
  | [], ks, h => by simp only [keysO, Option.some.injEq] at h; subst h; rfl
  | d :: ds, ks, h => by
    simp only [keysO] at h
    cases e1 : keyO d with
    | none => rw [e1] at h; cases h
    | some k =>
      rw [e1] at h
      cases e2 : keysO ds with
      | none => rw [e2] at h; cases h
      | some r =>
        rw [e2] at h
        cases h
        simp only [NestedKey.datas]
        rw [keyO_data d k e1, keysO_datas ds r e2]
end
def isTupK : NestedKey → Bool
  | .tup _ => true
  | _ => false
def keyGood (k : NestedKey) : Bool := isTupK k && decide (k.depth ≤ 8)
/-- the keys, and where they stand -/
theorem keys_at {C : Ck} {F : Hp} : ∀ {vs : List V} {ds : List PyData} {ks : List NestedKey}, RpA C F vs ds → keysO ds = some ks → ks.all keyGood = true → ∃ L : List (Addr × NestedKey), vs = L.map (fun p => V.ref p.1) ∧ L.map (·.2) = ks ∧ ∀ p ∈ L, KeyH C F p.1 p.2
  | _, _, _, .nil, e, _ => by cases e; exact ⟨[], rfl, rfl, fun p h => by cases h⟩
  | _, _, _, @RpA.cons _ _ v vs d ds r t, e, g => by
    simp only [keysO] at e
    cases e1 : keyO d with
    | none => rw [e1] at e; cases e
    | some k =>
      rw [e1] at e
      cases e2 : keysO ds with
      | none => rw [e2] at e; cases e
      | some ks =>
        rw [e2] at e
        cases e
        simp only [List.all_cons, Bool.and_eq_true] at g
        obtain ⟨L, h1, h2, h3⟩ := keys_at t e2 g.2
        have dk := keyO_data d k e1
        obtain ⟨a, rfl⟩ : ∃ a, v = V.ref a := by
          cases k with
          | tup ks => simp only [NestedKey.data] at dk; subst dk; cases r; exact ⟨_, rfl⟩
          | _ => simp [keyGood, isTupK] at g
        refine ⟨(a, k) :: L, by rw [h1]; rfl, by rw [List.map_cons, h2], fun p hp => ?_⟩
        rcases List.mem_cons.mp hp with rfl | hp
        · exact ⟨by show Rp C F (.ref a) k.data; rw [dk]; exact r, by simp [keyGood] at g; exact g.1.2⟩
        · exact h3 p hp
section
variable {K : Ck} {W : WX} {P : Program} {w : World}
def bSet (fe : EF) : List SD → List NestedKey → Gs → R (List NestedKey) := fun ρ acc g => (fDat fe ρ g).bind fun y g1 => match keyO y with
  | some k => if keyGood k = true ∧ acc.length + 1 < 4096 then .ok (one1 acc k) g1 else .bad
  | none => .bad
def cSet (K : Ck) (P : Program) (w : World) (D : Addr) : Cont K (List NestedKey) := ⟨fun F o ks => ∃ L, o = SetO P w D L ∧ (L.map Prod.snd).Perm ks ∧ ks.Nodup ∧ ∀ p ∈ L, KeyH K F p.1 p.2, fun le ⟨L, h1, h2, h3, h4⟩ => ⟨L, h1, h2, h3, fun p hp => (h4 p hp).mono le⟩⟩
theorem b_set {te : TE} {fe : EF} (he : Sm K W0 te fe) {S : Sta} {B F0 Fi Hi Fc Hc : Hp} {D : Addr} {acc : List NestedKey} {gc : Gs} {ρ2 : List SD} {σ2 : St} {Pd : List NestedKey → Gs → Prop} {Nx : Hp → Prop} (nM : ¬ S.M D)
    (L : LcAt (cSet K P w D) S D Fi Hi acc gc Fc Hc) (E : EnvOk K S B F0 Fc Hc ρ2 σ2 gc) (h : (bSet fe ρ2 acc gc).wp Pd NoX) (k : ∀ acc' g' F' H', LcAt (cSet K P w D) S D Fi Hi acc' g' F' H' → Pd acc' g' → Nx H') :
    te σ2 Hc fun y H4 => ∃ (L : List (Addr × NestedKey)) (a : Addr) (k : NestedKey), y = .ref a ∧ KeyH K H4 a k ∧ H4 D = some (SetO P w D L) ∧ (∀ p ∈ L, KeyH K H4 p.1 p.2) ∧ L.length + 1 < 4096 ∧
      ∀ L', (k ∈ L.map (·.2) → L' = L) → (k ∉ L.map (·.2) → L'.Perm ((a, k) :: L)) → Nx (upd H4 D (SetO P w D L')) := by
  refine he.dat E (R.wp_bind.mp h) (fun _ _ _ _ _ _ z _ _ _ => z.elim) fun y g4 v F4 H4 q5 e4 E4 ry => ?_
  have L4 := L.ext nM e4 E4.j
  obtain ⟨o, D4, L0, rfl, pm, nd, h0⟩ := L4.h
  cases ek : keyO y with
  | none => rw [ek] at q5; exact q5.elim
  | some ky =>
    rw [ek] at q5
    by_cases c : keyGood ky = true ∧ acc.length + 1 < 4096
    · have q5 : (if keyGood ky = true ∧ acc.length + 1 < 4096 then R.ok (one1 acc ky) g4 else .bad).wp Pd NoX := q5
      rw [if_pos c] at q5
      have dk := keyO_data y ky ek
      obtain ⟨a, rfl⟩ : ∃ a, v = V.ref a := by
        cases ky with
        | tup ks => simp only [NestedKey.data] at dk; subst dk; cases ry; exact ⟨_, rfl⟩
        | _ => simp [keyGood, isTupK] at c
      have hk : KeyH K F4 a ky := ⟨by rw [dk]; exact ry, by have := c.1; simp [keyGood] at this; exact this.2⟩
      have len : L0.length = acc.length := by have := pm.length_eq; rwa [List.length_map] at this
      refine ⟨L0, a, ky, rfl, hk.mono E4.sub, D4, fun p hp => (h0 p hp).mono E4.sub, by omega, fun L' c1 c2 => k _ g4 F4 _ (L4.put nM ⟨L', rfl, ?_, (one1_spec acc ky nd).1, fun p hp => ?_⟩) q5⟩
      · unfold one1
        by_cases m : ky ∈ acc
        · rw [if_pos m, c1 (pm.mem_iff.mpr m)]; exact pm
        · rw [if_neg m]
          have := c2 fun z => m (pm.mem_iff.mp z)
          exact ((this.map Prod.snd).trans (pm.cons ky)).trans (List.perm_append_singleton ky acc).symm
      · by_cases m : ky ∈ acc
        · rw [c1 (pm.mem_iff.mpr m)] at hp; exact h0 p hp
        · rcases List.mem_cons.mp ((c2 fun z => m (pm.mem_iff.mp z)).mem_iff.mp hp) with rfl | hp
          · exact hk
          · exact h0 p hp
    · have q5 : (if keyGood ky = true ∧ acc.length + 1 < 4096 then R.ok (one1 acc ky) g4 else .bad).wp Pd NoX := q5
      rw [if_neg c] at q5; exact q5.elim
end
end Fq

namespace Fq
open PySem PySem.Spec PyProof.Rows L2 Fx
section
variable {P : Program} {w : World} {A : Around} {s : Shared}
end
section
variable {X : Cx}
theorem strs_at : ∀ {ws : List Str} {us : List Value}, Vals (ws.map V.str) us → us.length = ws.length ∧ ∀ (i : Nat) v, us[i]? = some v → ∃ x t, ws[i]? = some x ∧ v = .str x t
  | [], _, h => by cases h; exact ⟨rfl, fun i v e => by simp at e⟩
  | x :: ws, _, h => by
    cases h with
    | cons r t =>
      obtain ⟨tk, rfl⟩ := r
      obtain ⟨l, h⟩ := strs_at t
      refine ⟨by simp [l], fun i v e => ?_⟩
      cases i with
      | zero => simp at e; exact ⟨x, tk, rfl, e.symm⟩
      | succ i => simpa using h i v (by simpa using e)
end
section
variable {K : Ck} {W : WX} {P : Program} {w : World}
end
end Fq

namespace Fx
open PySem L2 PySem.Spec PyProof.Rows

section
variable {K : Ck} {W : WX}
end
section
variable {α β γ : Type} {e : α → PyData} {ρ : List SD} {g : Gs} {fa fb : EF} {fr : EFa}
variable {δ : Type} {h : EFs} {M : R δ} {P : δ → Out → Prop}
end
section
variable {ρ : List SD} {g : Gs} {fe fo : EF} {fa : EFa} {δ : Type} {h : EFs} {M : R δ} {P : δ → Out → Prop}
end
/-- a def with defaults, perhaps -/
structure FunD (K : PySem.W.Frag) (x qual : Str) (st : Stmt) (f : Addr) (fd : FuncData) : Prop where
  ex : ∃ (oc : Value) (od : Option Addr) (dV kV doc pm : Value) (an : Option Addr) (cdv ct : Value) (osl : Array (Option Value)),
    fd = PySem.W.fnOf x qual (defArgs st) (defBody st) (defScope st) dV kV doc pm an cdv ct ∧ K.lookup f = some ⟨oc, od, .func fd, osl⟩ ∧ PySem.W.codeIn K cdv qual = true
structure MethAt (K : PySem.W.Frag) (C : Addr) (m qual : Str) (st : Stmt) (ps : List Str) (f : Addr) (fd : FuncData) : Prop where
  F : FunD K m qual st f fd
  m : Meth K C m f
  b : Binds K fd ps []
structure InitAt (K : PySem.W.Frag) (C : Addr) (qual : Str) (st : Stmt) (ps : List Str) (f : Addr) (fd : FuncData) : Prop where
  F : FunD K "__init__" qual st f fd
  M : Mk K C f
  b : Binds K fd ps []
structure PropAt (K : PySem.W.Frag) (C : Addr) (m qual : Str) (st : Stmt) (ps : List Str) (p f : Addr) (fd : FuncData) : Prop where
  F : FunD K m qual st f fd
  p : PropOf K C m p f
  b : Binds K fd ps []
end Fx
namespace Fx
open PySem L2
theorem tyD_dict (ks : List (PyData × PyData)) : tyD (.dict ks) = "object" ∨ tyD (.dict ks) = "dict" := by
  cases ks with
  | nil => exact .inr rfl
  | cons p r =>
    obtain ⟨a, b⟩ := p
    cases a with
    | list xs =>
      cases xs with
      | nil => exact .inl rfl
      | cons _ _ => exact .inl rfl
    | _ => exact .inr rfl
end Fx
namespace Fx
open PySem L2
theorem strsD_mp : ∀ xs : List Str, strsD (xs.map PyData.str) = some xs
  | [] => rfl
  | x :: xs => by
    show (strsD (xs.map PyData.str)).map (x :: ·) = _
    rw [strsD_mp xs]; rfl
end Fx

namespace Fx
open PySem L2 PySem.Spec PyProof.Rows

def E0 : XK := fun _ _ _ => False
def nx (neg b : Bool) : Bool := match neg with
  | true => !b
  | false => b
section
variable {X : Cx} {k : Nat} {f C : Addr} {fd : FuncData} {ps : List Str} {sp : Sp}
end
section
variable {K : Ck} {W : WX}
end
section
variable {ρ : List SD} {g : Gs} {fa fb : EF}
end
end Fx

namespace Fx
open PySem L2 PySem.Spec PyProof.Rows Fq

def fIxOwn (i : Nat) (fb : EF) : EF := fun ρ g => match ρ[i]? with
  | some (.own xs) => (fDat fb ρ g).bind fun y g1 => (match y with
    | .int k => R.ofO ((atI xs k).map .d) g1
    | _ => .bad)
  | _ => .bad
section
variable {K : Ck} {W : WX}
theorem sm_ixOwn {tb : TE} {fb : EF} (i : Nat) (hb : Sm K W tb fb) : Sm K W (tOp (rIxL K.K) (tVar i) tb) (fIxOwn i fb) := by
  intro S B F0 F H ρ σ g Pd Xd Q E hf k kx
  unfold fIxOwn at hf
  split at hf
  · rename_i xs e
    obtain ⟨v, h1, h2⟩ := E.sl i _ e
    obtain ⟨b, hv, _, _, _, _⟩ := h2.at (by rfl)
    rw [hv] at h1
    refine ⟨.ref b, h1, ?_⟩
    refine hb.dat E (R.wp_bind.mp hf) kx fun y g1 vy F1 H1 q1 e1 E1 r1 => ?_
    split at q1
    · rename_i k1
      obtain ⟨rv, o1, q⟩ := R.wp_ofO q1
      cases ed : atI xs k1 with
      | none => rw [ed] at o1; cases o1
      | some d =>
        rw [ed] at o1
        cases o1
        obtain ⟨v2, h3, h4⟩ := E1.sl i _ e
        obtain ⟨b2, hv2, _, _, _, own⟩ := h4.at (by rfl)
        rw [hv2, h1] at h3
        cases h3
        obtain ⟨vs, hH, ra⟩ := own
        obtain ⟨w, ew, rw'⟩ := atI_rp ra ed
        obtain rfl : vy = .int k1 := by cases r1; rfl
        exact ⟨b, vs, k1, w, rfl, rfl, SqLx.sql (.inl (.inl hH)), ew, k _ g1 w F1 H1 q e1 E1.j rw'⟩
    · exact q1.elim
  · exact hf.elim
end
section
variable {α : Type} {ρ : List SD} {g : Gs} {fb : EF} {e : α → PyData}
theorem atI_mp (xs : List α) (i : Int) : atI (xs.map e) i = (atI xs i).map e := by
  unfold atI
  rw [List.length_map]
  cases ixN xs.length i with
  | none => rfl
  | some j => show (xs.map e)[j]? = (xs[j]?).map e; rw [List.getElem?_map]
theorem v_ixOwn {i : Nat} {xs : List α} {k : Int} {d : α} (h1 : ρ[i]? = some (.own (xs.map e))) (hb : fDat fb ρ g = .ok (.int k) g) (h : (atI xs k).isSome = true) : fIxOwn i fb ρ g = .ok (.d (e ((atI xs k).getD d))) g := by
  unfold fIxOwn
  rw [h1]
  show (fDat fb ρ g).bind _ = _
  rw [hb]
  show R.ofO ((atI (xs.map e) k).map RV.d) g = _
  rw [atI_mp]
  cases c : atI xs k with
  | none => rw [c] at h; cases h
  | some x => rfl
end
def Conn {α : Type} (lt : α → α → Bool) : Prop := ∀ a b, a ≠ b → lt a b = true ∨ lt b a = true
theorem cn_str : Conn slt := fun a b h => by
  unfold slt
  by_cases c : a.cps.toList < b.cps.toList
  · exact .inl (decide_eq_true c)
  · by_cases d : b.cps.toList < a.cps.toList
    · exact .inr (decide_eq_true d)
    · refine absurd ?_ h
      have := List.le_antisymm (List.not_lt.mp d) (List.not_lt.mp c)
      cases a; cases b
      congr
      exact Array.toList_inj.mp this
theorem pw_ext {α : Type} {R : α → α → Prop} (as : ∀ a b, R a b → ¬ R b a) : ∀ {l m : List α}, l.Pairwise R → m.Pairwise R → (∀ x, x ∈ l ↔ x ∈ m) → l = m
  | [], [], _, _, _ => rfl
  | [], y :: m, _, _, h => by have := (h y).mpr (List.mem_cons_self ..); cases this
  | x :: l, [], _, _, h => by have := (h x).mp (List.mem_cons_self ..); cases this
  | x :: l, y :: m, hl, hm, h => by
    have hl' := List.pairwise_cons.mp hl
    have hm' := List.pairwise_cons.mp hm
    have e : x = y := by
      rcases List.mem_cons.mp ((h x).mp (List.mem_cons_self ..)) with e | i
      · exact e
      · rcases List.mem_cons.mp ((h y).mpr (List.mem_cons_self ..)) with e | j
        · exact e.symm
        · exact absurd (hl'.1 y j) (as _ _ (hm'.1 x i))
    subst e
    congr 1
    have irr : ∀ a, ¬ R a a := fun a r => as a a r r
    refine pw_ext as hl'.2 hm'.2 fun z => ?_
    constructor
    · intro i
      rcases List.mem_cons.mp ((h z).mp (List.mem_cons_of_mem _ i)) with e | i'
      · subst e; exact absurd (hl'.1 z i) (irr z)
      · exact i'
    · intro i
      rcases List.mem_cons.mp ((h z).mpr (List.mem_cons_of_mem _ i)) with e | i'
      · subst e; exact absurd (hm'.1 z i) (irr z)
      · exact i'
section
variable {β : Type} [DecidableEq β] {e : β → PyData} {n : Nat} {lt : β → β → Bool}
def UpL (lt : β → β → Bool) (l : List β) : Prop := l.Pairwise fun a b => lt a b = true ∧ lt b a = false
theorem up_ext {l m : List β} (hl : UpL lt l) (hm : UpL lt m) (h : ∀ x, x ∈ l ↔ x ∈ m) : l = m := pw_ext (fun a b r s => by rw [r.1] at s; exact absurd s.2 (by simp)) hl hm h
theorem srt_up (ho : OrdK n e lt) (hc : Conn lt) {xs : List β} (hn : xs.Nodup) : UpL lt (srt lt xs) := by
  have hs := PySem.W.sort_pairwise (PySem.W.sortLe_total (PyProof.Rows.listOrd PyProof.Rows.itemOrd) false fun b : PyData => PySem.W.keyToks (id b)) (xs.map e)
  have hs : (sortD (xs.map e)).Pairwise fun a b => (!PySem.W.dataLt b a) = true := hs
  rw [sortD_mp ho, List.pairwise_map] at hs
  have h1 : (srt lt xs).Pairwise fun a b => lt b a = false := hs.imp fun {a b} q => by rw [ho.lt] at q; simpa using q
  have h2 : (srt lt xs).Pairwise fun a b => a ≠ b := (List.mergeSort_perm ..).nodup_iff.mpr hn
  exact (h1.and h2).imp fun {a b} h => ⟨(hc a b h.2).resolve_right (fun z => by rw [h.1] at z; cases z), h.1⟩
theorem mem_srtF {lt : β → β → Bool} {xs : List β} {x : β} : x ∈ srt lt xs ↔ x ∈ xs := (List.mergeSort_perm ..).mem_iff
/-- sorted: each order of the same comes to the same -/
theorem srt_same (ho : OrdK n e lt) (hc : Conn lt) {xs ys : List β} (hx : xs.Nodup) (hy : ys.Nodup) (h : ∀ x, x ∈ xs ↔ x ∈ ys) : srt lt xs = srt lt ys := up_ext (srt_up ho hc hx) (srt_up ho hc hy) fun x => by rw [mem_srtF, mem_srtF, h]
end
structure NkB {β : Type} (n : Nat) (e : β → PyData) (κ : β → NestedKey) : Prop where
  key : ∀ b, keyO (e b) = some (κ b)
  dep : ∀ b, (κ b).depth ≤ n
structure NkK {β : Type} (e : β → PyData) (κ : β → NestedKey) : Prop where
  key : ∀ b, keyO (e b) = some (κ b)
  good : ∀ b, keyGood (κ b) = true
section
variable {β : Type} [DecidableEq β] {e : β → PyData} {κ : β → NestedKey}
theorem NkK.data (h : NkK e κ) (b : β) : (κ b).data = e b := keyO_data _ _ (h.key b)
theorem NkK.inj (h : NkK e κ) (hi : ∀ a b, e a = e b → a = b) : ∀ a b, κ a = κ b → a = b := fun a b q => hi _ _ (by rw [← h.data, ← h.data, q])
end
section
variable {α : Type} [DecidableEq α]
theorem nubF_id {acc : List α} (nd : acc.Nodup) : nubF acc = acc := by
  have key : ∀ (xs acc : List α), (acc ++ xs).Nodup → xs.foldl one1 acc = acc ++ xs := by
    intro xs
    induction xs with
    | nil => intro acc _; simp
    | cons x xs ih =>
      intro acc hn
      have hx : x ∉ acc := fun z => (List.nodup_append.mp hn).2.2 x z x List.mem_cons_self rfl
      rw [List.foldl_cons, one1, if_neg hx, ih _ (by simpa using hn)]; simp
  exact key acc [] (by simpa using nd)
end
section
variable {α β : Type} [DecidableEq β] {e : α → PyData} {e' : β → PyData} {κ : β → NestedKey} {ρ : List SD} {g : Gs} {fg : EFg} {ft : EFt} {fe : EF} {vs : List Nat} {c : α → Bool} {h : α → β}
end
end Fx

namespace Fx
open PySem L2 PySem.Spec PyProof.Rows Fq
section
variable {ρ : List SD} {g : Gs} {fa : EF}
end
section
variable {β : Type} [DecidableEq β] {e : β → PyData} {κ : β → NestedKey}
end
end Fx

namespace Fq
open PySem PySem.Spec PyProof.Rows L2 Fx
def txt (e : Int × Value) : Str := match e.2 with
  | .str x _ => x
  | _ => Str.empty
def TxE (P : Program) (w : World) (e : Int × Value) : Prop := ∃ x tk, e.2 = Value.str x tk ∧ e.1 = (mixKind P w).hash (.inr x)
section
variable {P : Program} {w : World} {A : Around} {E : Value → Shared → Prop} {s : Shared} {a : Addr} {ws : List Str}
theorem txe_elems {l : List (Int × Value)} (g : ∀ e ∈ l, TxE P w e) : ElemsOf (mixKind P w) l := fun e he => by
  obtain ⟨x, tk, e1, e2⟩ := g e he
  refine ⟨⟨.inr x, ?_, e2⟩, ?_⟩
  · rw [e1]; exact mixKind_str P w x tk
  · rw [e1]; rfl
theorem txe_is {e : Int × Value} (g : TxE P w e) (x : Str) : (mixKind P w).is (.inr x) e.2 = true ↔ txt e = x := by
  obtain ⟨y, tk, e1, _⟩ := g
  have m := mixKind_str P w y tk
  unfold txt
  rw [e1]
  show (mixKind P w).is (.inr x) (.str y tk) = true ↔ y = x
  constructor
  · intro h
    have := (mixKind P w).inj _ _ _ m h
    exact Sum.inr.inj this
  · rintro rfl; exact m
/-- the set of texts at a: so many, in this or another order -/
structure TSet (P : Program) (w : World) (h : Heap) (a : Addr) (ws : List Str) : Prop where
  ex : ∃ (o : Obj) (es : Array (Int × Value)) (ep : Nat) (t : SetTable), h.get? a = some o ∧ o.ExactSet ∧ o.data = .set es ep t ∧ (∀ e ∈ es.toList, TxE P w e) ∧ (es.toList.map txt).Perm ws ∧ ws.Nodup ∧ es.size < scanBound ∧ t.fits es.size = true ∧ Ris t.place.toList ∧ (w.params.followText "set-order" = true ∨ t.led = true)
theorem TSet.stay {h h' : Heap} (R : TSet P w h a ws) (k : ∀ o, h.get? a = some o → h'.get? a = some o) : TSet P w h' a ws := by
  obtain ⟨ob, rows, epo, tab, g0, r⟩ := R.ex
  exact ⟨ob, rows, epo, tab, k ob g0, r⟩
theorem tset_tail {g : Bool → Sem Unit} (hg : ∀ (b : Bool) (s₁ : Shared) (Q' : Unit → Shared → Prop), Q' () s₁ → wpAny (model P w) A (g b) Q' E s₁) {ob : Obj} {rows : Array (Int × Value)} {epo : Nat} {tab : SetTable} (g0 : s.heap.get? a = some ob) (gx : ob.ExactSet) (gd : ob.data = .set rows epo tab)
    {r1 : Array (Int × Value)} {t1 : SetTable} (gg : ∀ e ∈ r1.toList, TxE P w e) (gp : (r1.toList.map txt).Perm ws) (gn : ws.Nodup) (gb : r1.size < scanBound) (gf : t1.fits r1.size = true) (gr : Ris t1.place.toList) (gl : w.params.followText "set-order" = true ∨ t1.led = true) {dm : Bool} {Z : Option Bool → Shared → Prop}
    (k : ∀ h', Heap.SameBut a s.heap h' → TSet P w h' a ws → Z (some true) { s with heap := h' }) :
    wpAny (model P w) A (do
      storeSet a r1 t1
      if (!dm && t1.tooFull) = true then do
        g (relayAll t1 r1 (SetTable.grown r1.size)).2.2
        storeSet a (relayAll t1 r1 (SetTable.grown r1.size)).1 (relayAll t1 r1 (SetTable.grown r1.size)).2.1
        pure (some true)
      else pure (some true)) Z E s := by
  refine wpAny_bind (wpAny_storeSet_of g0 gd ?_ (fits_of_scanBound gb))
  have o1 := L2.store_at (es' := r1) (t' := t1) g0 gd
  have b1 := Heap.SameBut.update s.heap a (Obj.putSet r1 t1)
  split
  · have p2 := relayAll_perm t1 r1 (SetTable.grown r1.size)
    have f2 := relayAll_fits t1 r1 (SetTable.grown r1.size)
    have i2 := relayAll_ris t1 r1 (SetTable.grown r1.size)
    have l2 := relayAll_led t1 r1 (SetTable.grown r1.size)
    generalize relayAll t1 r1 (SetTable.grown r1.size) = Y at p2 f2 i2 l2 ⊢
    obtain ⟨r2, t2, gv⟩ := Y
    dsimp only at p2 f2 i2 l2 ⊢
    have z2 : r2.size = r1.size := by rw [← Array.length_toList, p2.length_eq, Array.length_toList]
    refine wpAny_bind (hg _ _ _ (wpAny_bind (wpAny_storeSet_of o1 rfl ?_ (fits_of_scanBound (by rw [z2]; exact gb)))))
    have o2 := L2.store_at (es' := r2) (t' := t2) o1 rfl
    exact wpAny_pure (k _ (b1.trans (Heap.SameBut.update _ a _)) ⟨_, r2, _, t2, o2, gx, rfl, fun e he => gg e (p2.mem_iff.mp he), (p2.map txt).trans gp, gn, by rw [z2]; exact gb, f2, i2, gl.imp id fun q => by rw [l2]; exact q⟩)
  · exact wpAny_pure (k _ b1 ⟨_, r1, _, t1, o1, gx, rfl, gg, gp, gn, gb, gf, gr, gl⟩)
theorem tset_add {x : Str} {tk : Tok} {Q : Bool → Shared → Prop} (R : TSet P w s.heap a ws) (room : ws.length + 1 < scanBound) (k : ∀ b h', Heap.SameBut a s.heap h' → TSet P w h' a (one1 ws x) → Q b { s with heap := h' }) :
    wpAny (model P w) A (setAddHashed a (.str x tk) ((mixKind P w).hash (.inr x))) Q E s := by
  obtain ⟨ob, rows, epo, tab, g0, gx, gd, gg, gp, gn, gb, gf, gr, gl⟩ := R.ex
  have key := mixKind_str P w x tk
  have sc : (Value.str x tk).scannable = true := rfl
  have els := txe_elems gg
  unfold setAddHashed setAddHashedIn
  refine wpAny_holding (wpAny_bind (wpAny_setState_of g0 gd gf ?_))
  dsimp only
  rw [byScan_of sc gb els]
  simp only [↓reduceIte]
  unfold setAddByScan
  refine wpAny_bind (wpAny_bind (wpAny_rule (wpAny_bind (wpAny_setScan_of key g0 gd gf els ?_))))
  have has : x ∈ ws ↔ ∃ e ∈ rows.toList, (mixKind P w).is (.inr x) e.2 = true := by
    rw [← gp.mem_iff, List.mem_map]
    exact ⟨fun ⟨e, he, q⟩ => ⟨e, he, (txe_is (gg e he) x).mpr q⟩, fun ⟨e, he, q⟩ => ⟨e, he, (txe_is (gg e he) x).mp q⟩⟩
  cases fi : List.findIdx? (fun e => (mixKind P w).is (.inr x) e.2) rows.toList with
  | some j =>
    dsimp only
    obtain ⟨lj, pj, _⟩ := List.findIdx?_eq_some_iff_getElem.mp fi
    have e1 : one1 ws x = ws := if_pos (has.mpr ⟨_, List.getElem_mem lj, pj⟩)
    exact wpAny_pure (wpAny_pure (k _ s.heap (Heap.SameBut.refl a s.heap) (by rw [e1]; exact R)))
  | none =>
    dsimp only
    have no : x ∉ ws := fun m => by
      obtain ⟨e, he, q⟩ := has.mp m
      have := List.findIdx?_eq_none_iff.mp fi e he
      rw [q] at this; cases this
    have e1 : one1 ws x = ws ++ [x] := if_neg no
    rw [e1] at k
    have gw : ∀ (b : Bool) {s₁ : Shared} {Q' : Unit → Shared → Prop}, Q' () s₁ → wpAny (model P w) A (match b with | true => rule "set.scan.the-table-gave-way" | false => pure ()) Q' E s₁ := fun b s₁ Q' q => by
      cases b <;> first | exact wpAny_pure q | exact wpAny_rule q
    have p1 := layNew_perm tab rows ((mixKind P w).hash (.inr x)) (.str x tk)
    have f1 := layNew_fits tab rows ((mixKind P w).hash (.inr x)) (.str x tk)
    have i1 := layNew_ris tab rows ((mixKind P w).hash (.inr x)) (.str x tk) gr
    have l1 := layNew_led tab rows ((mixKind P w).hash (.inr x)) (.str x tk)
    generalize layNew tab rows ((mixKind P w).hash (.inr x)) (.str x tk) = Y at p1 f1 i1 l1 ⊢
    obtain ⟨r1, t1, wd, gv⟩ := Y
    dsimp only at p1 f1 i1 l1 ⊢
    rw [Array.toList_push] at p1
    have n1 : ∀ e ∈ r1.toList, TxE P w e := fun e he => by
      rcases List.mem_append.mp (p1.mem_iff.mp he) with q | q
      · exact gg e q
      · rw [List.mem_singleton.mp q]; exact ⟨x, tk, rfl, rfl⟩
    have m1 : (r1.toList.map txt).Perm (ws ++ [x]) := by
      refine (p1.map txt).trans ?_
      rw [List.map_append]
      exact gp.append_right [x]
    have nd : (ws ++ [x]).Nodup := List.nodup_append.mpr ⟨gn, by simp, fun u hu v hv q => no (by rw [← List.mem_singleton.mp hv, ← q]; exact hu)⟩
    have z1 : r1.size < scanBound := by
      have := m1.length_eq
      rw [List.length_map, Array.length_toList, List.length_append] at this
      rw [this]; exact room
    have ld : w.params.followText "set-order" = true ∨ t1.led = true := gl.imp id fun q => by rw [l1]; exact q
    refine wpAny_bind (gw _ ?_)
    split
    · refine wpAny_bind ?_
      rw [hashByValue_scannable 8 sc]
      refine wpAny_pure ?_
      refine tset_tail ?_ g0 gx gd n1 m1 nd z1 ?_ ?_ ?_ ?_
      · intro b s₁ Q' q; cases b <;> first | exact wpAny_pure q | exact wpAny_rule q
      · first | (split <;> first | exact f1 | exact SetTable.fits_plain_off f1) | exact f1
      · first | (split <;> exact i1) | exact i1
      · first | (split <;> exact ld) | exact ld
      · intro h' sb r; dsimp only; exact wpAny_pure (k _ h' sb r)
    · refine wpAny_bind (wpAny_pure ?_)
      simp only [↓reduceIte]
      refine tset_tail ?_ g0 gx gd n1 m1 nd z1 f1 i1 ld ?_
      · intro b s₁ Q' q; cases b <;> first | exact wpAny_pure q | exact wpAny_rule q
      · intro h' sb r; dsimp only; exact wpAny_pure (k _ h' sb r)
end
/-- the set of texts, as an object of the heap -/
def SetX (P : Program) (w : World) (a : Addr) (ws : List Str) : HO := .ext fun h => TSet P w h a ws
section
variable {P : Program} {w : World} {A : Around} {s : Shared}
theorem setX_new {H : Hp} {h : Heap} {a : Addr} {ws : List Str} (R : TSet P w h a ws) : ObjOk P w H h a (SetX P w a ws) := by
  obtain ⟨ob, _, _, _, g0, _⟩ := R.ex
  exact ⟨R, ⟨ob, g0⟩, fun h1 h2 p k => p.stay k⟩
theorem setJ_txt {items : Array Value} (ws : List Str) (hit : ∀ (i : Nat) v, items[i]? = some v → ∃ x t, ws[i]? = some x ∧ v = .str x t) (hf : ws.length < 4000) :
    SetJ P w A s items fun i h => TSet P w h s.heap.objs.size (nubF (ws.take i)) where
  j0 := fun h _ e => ⟨_, #[], 0, _, e, ⟨rfl, rfl, rfl⟩, rfl, (fun e he => by simp at he), (by simp [nubF]), (by simp [nubF]), (by decide), (by rfl), List.Pairwise.nil, by
    show _ ∨ (!w.params.followText "set-order") = true
    cases w.params.followText "set-order" with
    | true => exact .inl rfl
    | false => exact .inr rfl⟩
  mv := fun i h h' k R => R.stay fun o e => k _ o (Nat.le_refl _) e
  step := fun i v A' s1 Q _ hv R hQ => by
    obtain ⟨x, t, hx, rfl⟩ := hit i v hv
    have il : i < ws.length := (List.getElem?_eq_some_iff.mp hx).1
    have tk : nubF (ws.take (i + 1)) = one1 (nubF (ws.take i)) x := by rw [List.take_succ, hx]; exact nubF_snoc _ _
    have len : (nubF (ws.take i)).length ≤ i := Nat.le_trans (nubF_len _) (List.length_take_le ..)
    unfold setAdd
    refine wpAny_holding (wpAny_bind ((mixKind P w).pyHash (k := .inr x) (mixKind_str P w x t) ?_))
    exact tset_add (s := { s1 with toks := s1.toks + 1 }) R (by unfold scanBound; omega) fun b h' sb R' => hQ _ h' _ sb (Nat.le_succ _) (by rw [tk]; exact R')
end
section
variable {X : Cx}
/-- set(xs), texts -/
def rSetX (C : Ck) (P : Program) (w : World) : List V → Hp → VK → Prop := fun xs H Q => ∃ (l : Addr) (ws : List Str), xs = [V.ref l] ∧ (SqL C.K H l (ws.map V.str) ∨ SqT C.K H l (ws.map V.str)) ∧ ws.length < 4000 ∧ ∀ a, H a = none → Q (.ref a) (upd H a (SetX P w a (nubF ws)))
theorem cr_setX (hc : X.calm = true) : CallR X (.type "set") (rSetX (Cx.ck X) X.prog X.w) := by
  intro pins s σ H xs us Q I r h
  obtain ⟨l, ws, rfl, hl, hf, q⟩ := h
  rw [Vals.ref1 r]
  have hn : H s.heap.objs.size = none := I.hok.fresh (Nat.le_refl _)
  have fin : ∀ (e : Array Value), e.size = ws.length → ∀ (h' : Heap) (tk : Nat), TSet X.prog X.w h' s.heap.objs.size (nubF (ws.take e.size)) → (∀ b o, s.heap.get? b = some o → h'.get? b = some o) → EP X pins σ Q (.ref s.heap.objs.size) { s with heap := h', toks := tk } := by
    intro e he h' tk R k
    rw [he, List.take_length] at R
    exact ⟨.ref s.heap.objs.size, upd H s.heap.objs.size (SetX X.prog X.w s.heap.objs.size (nubF ws)), I.laid (t' := tk) k (Nat.le_refl _) (setX_new R), rfl, q _ hn⟩
  rcases hl with hl | hl
  · obtain ⟨its, rv, pl, hz⟩ := I.list hl
    obtain ⟨e1, e2⟩ := strs_at rv
    exact call_setL (I.ok.hd hc) pl.isList (setJ_txt ws (fun i v h => e2 i v (by simpa using h)) hf) (fin _ (by simpa using e1))
  · obtain ⟨its, rv, ⟨o, ho, hcl, n, hd⟩, hz⟩ := I.tuple hl
    obtain ⟨e1, e2⟩ := strs_at rv
    exact call_setT (I.ok.hd hc) ⟨o, ho, hcl, n, hd⟩ (setJ_txt ws (fun i v h => e2 i v (by simpa using h)) hf) (fin _ (by simpa using e1))
def tv : Value → Str
  | .str x _ => x
  | _ => Str.empty
theorem tv_vals : ∀ us : List Value, (∀ v ∈ us, ∃ x tk, v = Value.str x tk) → Vals ((us.map tv).map V.str) us
  | [], _ => .nil
  | u :: us, h => by
    obtain ⟨x, tk, rfl⟩ := h u (List.mem_cons_self ..)
    exact .cons ⟨tk, rfl⟩ (tv_vals us fun v hv => h v (List.mem_cons_of_mem _ hv))
theorem tv_rpa {C : Ck} {F : Hp} : ∀ xs : List Str, RpA C F (xs.map V.str) (xs.map PyData.str)
  | [] => .nil
  | x :: xs => .cons (Rp.str x) (tv_rpa xs)
/-- sorted(a set of texts) -/
def rSortX (P : Program) (w : World) : List V → Hp → VK → Prop := fun vs H Q => ∃ (a : Addr) (ws : List Str), vs = [V.ref a] ∧ H a = some (SetX P w a ws) ∧ ∀ p, H p = none → Q (.ref p) (upd H p (.lst ((srt slt ws).map V.str)))
theorem cr_sortX (hc : X.calm = true) (hu : X.A.units + 80 < cLine) : CallR X (.builtin "sorted") (rSortX X.prog X.w) := by
  intro pins s σ H vs us Q I r h
  obtain ⟨a, ws, rfl, ha, q⟩ := h
  rw [Vals.ref1 r]
  have R : TSet X.prog X.w s.heap a ws := (I.hok a _ ha).1
  obtain ⟨ob, rows, epo, tab, g0, gx, gd, gg, gp, gn, gb, gf, gr, gl⟩ := R.ex
  refine sorted_call (pins := pins) (σ := σ) (X := X) (collect_set (A := X.A.in1) (I.ok.hd hc) ⟨ob, g0, gx.1, gd⟩ gf gb gr gl fun s1 out k1 hz g1 o1 pm => ?_) hu
  have str : ∀ v ∈ out, ∃ x tk, v = Value.str x tk := fun v hv => by
    obtain ⟨e, he, q⟩ := List.mem_map.mp (pm.mem_iff.mp hv)
    obtain ⟨x, tk, e1, _⟩ := gg e he
    exact ⟨x, tk, by rw [← q]; exact e1⟩
  have py : (out.map tv).Perm ws := by
    have p1 := pm.map tv
    rw [List.map_map] at p1
    have e1 : rows.toList.map (tv ∘ fun e => e.2) = rows.toList.map txt := List.map_congr_left fun e he => by
      obtain ⟨x, tk, e1, _⟩ := gg e he
      show tv e.2 = txt e
      unfold txt tv
      rw [e1]
    exact (p1.trans (.of_eq e1)).trans gp
  have same : srt slt (out.map tv) = srt slt ws := srt_same ok_str cn_str (py.nodup_iff.mpr gn) gn fun x => py.mem_iff
  refine ⟨H, H, (out.map tv).map V.str, (out.map tv).map PyData.str, Inv_any I k1 g1 o1, Le.refl H, tv_vals out str, tv_rpa _, sortOk_mp ok_str (srtb_str _) (by decide), ?_, fun s' p ws' hp J rw' => ?_⟩
  · rw [List.length_map, py.length_eq, ← gp.length_eq, List.length_map, Array.length_toList, sizeLine_eq]
    unfold scanBound at gb
    omega
  · rw [sortD_mp ok_str, same] at rw'
    obtain rfl := strsD_rp rw' (strsD_mp _)
    exact ⟨.ref p, _, J, rfl, q p hp⟩
end
def oSortTx (ds : List PyData) : Option RV := match strsD ds with
  | some ws => if ws.length < 4000 then some (.nl ((srt slt (nubF ws)).map PyData.str)) else none
  | none => none
def oSortSetX : O1 := fun x => match x with
  | .list ds => oSortTx ds
  | .tuple ds => oSortTx ds
  | _ => none
section
variable {K : Ck} {W : WX} {P : Program} {w : World}
theorem sm_sortSetX {te : TE} {fe : EF} (h : Sm K W te fe) : Sm K W (tCB (rSortX P w) (tCons (tCB (rSetX K P w) (tCons te tNil)) tNil)) (fUn oSortSetX fe) := by
  intro S B F0 F H ρ σ g Pd Xd Q E hf k kx
  refine h.dat E (R.wp_bind.mp hf) kx fun x g1 v F1 H1 q e E1 r => ?_
  obtain ⟨rv, o1, q2⟩ := R.wp_ofO q
  have go : ∀ (l : Addr) (vs : List V) (ds : List PyData), v = .ref l → RpA K F1 vs ds → (SqL K.K H1 l vs ∨ SqT K.K H1 l vs) → oSortTx ds = some rv → tCB (rSetX K P w) (fun σ H Q => Q [v] H) σ H1 fun y H2 => rSortX P w [y] H2 Q := by
    intro l vs ds ev ra sq ho
    subst ev
    unfold oSortTx at ho
    cases ew : strsD ds with
    | none => rw [ew] at ho; cases ho
    | some ws =>
      rw [ew] at ho
      have ho : (if ws.length < 4000 then some (RV.nl ((srt slt (nubF ws)).map PyData.str)) else none) = some rv := ho
      split at ho
      · rename_i c
        cases ho
        have ev := strsD_rp ra ew
        subst ev
        refine ⟨l, ws, rfl, sq, c, fun a ha => ?_⟩
        have n1 := Ext.own (S := S) (o := SetX P w a (nubF ws)) E1.sub ha
        have j2 : S.J g1 (upd H1 a (SetX P w a (nubF ws))) := Fx.J.new E1.j ha
        have e2 := e.trans n1 E1.j
        refine ⟨a, _, rfl, upd_same, fun p hp => ?_⟩
        have n2 := Ext.own (S := S) (o := .lst ((srt slt (nubF ws)).map V.str)) n1.sub hp
        exact k _ g1 _ F1 _ q2 (e2.trans n2 j2) (Fx.J.new j2 hp) ⟨p, _, rfl, e2.free j2 hp, fun m => S.there _ _ _ j2 m hp, n1.sub.free hp, upd_same, tv_rpa _⟩
      · cases ho
  have end_ : tCB (rSetX K P w) (fun σ H Q => Q [v] H) σ H1 fun y H2 => rSortX P w [y] H2 Q := by
    cases r with
    | lst hr ra => exact go _ _ _ rfl ra (.inl (Le.sqx E1.sub hr).sql) o1
    | tup hr hk ra => exact go _ _ _ rfl ra (.inr (Le.sqt E1.sub hr)) o1
    | non => cases o1
    | bl b => cases o1
    | int i => cases o1
    | str x => cases o1
    | dK _ _ => cases o1
    | dT _ _ _ => cases o1
    | obj _ _ _ _ => cases o1
    | exc _ _ _ _ => cases o1
    | fn _ => cases o1
  exact end_
theorem q_sortSetXL (xs : List Str) (hz : xs.length < 4000) : oSortSetX (eL PyData.str xs) = some (.nl ((srt slt (nubF xs)).map PyData.str)) := by
  show oSortTx (xs.map PyData.str) = _
  unfold oSortTx
  rw [strsD_mp]
  exact if_pos hz
end
end Fq

namespace Fx
open PySem L2 PySem.Spec PyProof.Rows
section
variable {ρ : List SD} {g : Gs} {fe : EF}
end
end Fx

namespace Fx
open PySem L2
section
variable {ρ : List SD} {g : Gs} {f : EF}
end
theorem q_mul {a b : Int} (h : CMul a b ∨ CMulW a b) : oMul (.int a) (.int b) = some (.d (.int (a * b))) := if_pos h
/-- what a loop that may return comes to -/
def blV {β σ γ : Type} (vr : β → γ) (vn : σ → γ) : Bl β σ → γ
  | .ret b => vr b
  | .nx s => vn s
theorem g_loopK {γ : Type} {ρ : List SD} {g : Gs} {h : EFs} {P : γ → Out → Prop} {α β σ : Type} {w : β → RV} {xs : List α} {ea : α → PyData} {fi : EFi} {fg : EFg} {fb : EFs} {z : σ → α → Prop} {f : σ → α → Bl β σ} {s0 : σ} {vr : β → γ} {vn : σ → γ} (Rσ : σ → List SD → Prop) (hi : fi ρ g = .ok (xs.map ea) g) (h0 : Rσ s0 ρ) (hz : zLoop z f xs s0)
    (hb : ∀ s x ρ, Rσ s ρ → z s x → ∃ ρ1, fg (ea x) ρ = some ρ1 ∧ RG fb ρ1 g (.ok (f s x) g) (Rb w Rσ)) (kr : ∀ b, P (vr b) (.rt (w b))) (k : ∀ s ρ', loopB f xs s0 = .nx s → Rσ s ρ' → RG h ρ' g (.ok (vn s) g) P) :
    RG (fSeq (fFor fi fg fb) h) ρ g (.ok (blV vr vn (loopB f xs s0)) g) P := by
  have q := g_loop (vr := vr) (vn := vn) Rσ hi h0 hz hb (fun b _ => kr b) k
  have e : blV vr vn (loopB f xs s0) = (match loopB f xs s0 with | .ret b => vr b | .nx s => vn s) := by
    cases loopB f xs s0 <;> rfl
  rw [e]
  exact q
end Fx

namespace Fx
open PySem L2
section
variable {X : Cx}
end
theorem q_reprI {i : Int} (h : i.natAbs.log2 < 1920) : oReprD (.int i) = some (.d (.str (PyData.shown (.int i)))) := by
  unfold oReprD
  rw [if_neg (by rintro ⟨_, _, _, _, h⟩; cases h)]
  exact if_pos h
section
variable {ρ : List SD} {g : Gs} {f : EF}
end
end Fx

namespace Fx
open PySem L2 PySem.Spec PyProof.Rows
section
variable {P : Program} {w : World} {A : Around} {E : Value → Shared → Prop} {s : Shared}
end
section
variable {X : Cx} {pos : Pos}
end
section
variable {K : Ck} {W : WX}
theorem ext_upd {S : Sta} {F H F1 H1 : Hp} {D : Addr} {o : HO} (e : Ext S F H F1 H1) (hD : H D = none) (fD : F1 D = none) (nM : ¬ S.M D) : Ext S F H F1 (upd H1 D o) := ⟨fun a u q m => by rw [upd_ne (ne_of_none q hD)]; exact e.keep a u q m, e.grow, e.le, fun a u q => by
  rw [upd_ne (fun z => by rw [z, fD] at q; cases q)]
  exact e.sub a u q, fun t => (e.tb t).off nM⟩
theorem j_upd {S : Sta} {g : Gs} {H : Hp} {D : Addr} {o : HO} (j : S.J g H) (nM : ¬ S.M D) : S.J g (upd H D o) := S.ok _ _ _ j fun a m => upd_ne fun z => nM (z ▸ m)
end
section
variable {α β : Type} [DecidableEq α] {e : α → PyData} {e' : β → PyData} {ρ : List SD} {g : Gs} {k : α → Key}
end
section
variable {ρ : List SD} {g : Gs} {fe : EF}
end
end Fx

namespace Fx
open PySem L2
section
open PySem.W PySem.Calls PyProof.Rows
variable {X : Cx}
end
section
variable {K : Ck} {W : WX}
end
section
variable {α β : Type} [DecidableEq α] {e : α → PyData} {e' : β → PyData} {ρ : List SD} {g : Gs} {k : α → Key}
end
end Fx

namespace Fx
open PySem L2
section
variable {K : Ck} {W : WX}
end
section
variable {ρ : List SD} {g : Gs} {fe : EF} {δ : Type} {h : EFs} {M : R δ} {P : δ → Out → Prop}
end
section
variable {ρ : List SD} {g : Gs} {δ : Type} {h : EFs} {M : R δ} {P : δ → Out → Prop}
end
end Fx

noncomputable section
namespace Fx
open PySem L2
section
variable {K : Ck} {W : WX}
end
section
variable {ρ : List SD} {g : Gs} {fa fb : EF}
end
end Fx

namespace Fx
open PySem L2
def oReprE : O1 := fun x => match x with
  | .str s => if (reprText s).length ≤ sizeLine then some (.d (.str (reprText s))) else none
  | x => oReprD x
def gReprE : GO1 := fun x Q => ∃ r, oReprE x = some r ∧ Q r
theorem call_reprE {X : Cx} (hg : X.A.guards = some []) (hu : X.A.units + 70 < cLine) : CallR X (.builtin "repr") (rA (Cx.ck X) (g1 gReprE)) := cr_one fun pins s σ H v u S F x Qd Q I ru o rx g p => by
  obtain ⟨r, h, q⟩ := g
  unfold oReprE at h
  split at h
  · rename_i z
    split at h
    · rename_i c
      cases h
      cases rx
      obtain ⟨t, rfl⟩ := ru
      exact P.repr_of_str ⟨.str _, H, I.tok _, ⟨_, rfl⟩, p.d o (Rp.str _) q⟩ c
    · cases h
  · have key : rA (Cx.ck X) (g1 gReprD) [v] H Q := ⟨S, F, [.d x], Qd, o, ⟨rx, trivial⟩, ⟨r, h, q⟩, p⟩
    exact call_reprD hg hu pins s σ H [v] [u] Q I (.cons ru .nil) key
theorem F_reprE {K : Ck} : OpAF K (rA K (g1 gReprE)) (o1A oReprE) := opAF_of opd_rA (o1A_of fun _ _ _ h q => ⟨_, h, q⟩)
def eH : Str ⊕ Int → PyData
  | .inl s => .str s
  | .inr i => .int i
def hI : Str ⊕ Int → Int
  | .inl _ => 0
  | .inr i => i
section
variable {ρ : List SD} {g : Gs} {f : EF}
end
end Fx

namespace Fx
open PySem PySem.Spec PyProof.Rows L2
section
variable {prog : Program} {w : World} {A : Around} {E : Value → Shared → Prop} {s : Shared}
theorem adjust_rev (n : Nat) : Builtin.Slice.sliceAdjust none none (-1) (n : Int) = ((n : Int) - 1, -1) := by
  unfold Builtin.Slice.sliceAdjust
  have h1 : ((-1 : Int) < 0) := by decide
  simp only [h1, if_true]
theorem places_rev (n : Nat) : Builtin.Slice.slicePlaces ((n : Int) - 1) (-1) (-1) = n := by
  unfold Builtin.Slice.slicePlaces
  have h1 : ¬ ((-1 : Int) > 0) := by decide
  simp only [h1, if_false]
  have e : (-(-1) : Int) = 1 := by decide
  rw [e]
  simp only [Int.ediv_one]
  split <;> omega
theorem fm_congr {α β : Type} {f g : α → Option β} : ∀ {l : List α}, (∀ x ∈ l, f x = g x) → l.filterMap f = l.filterMap g
  | [], _ => rfl
  | x :: l, h => by rw [List.filterMap_cons, List.filterMap_cons, h x (List.mem_cons_self ..), fm_congr fun y hy => h y (List.mem_cons_of_mem _ hy)]
theorem pick_rev (xs : Array Value) : ((List.range xs.size).filterMap fun (m : Nat) => xs[(((xs.size : Int) - 1) + (m : Int) * (-1)).toNat]?).toArray = xs.toList.reverse.toArray := by
  congr 1
  obtain ⟨l⟩ := xs
  show (List.range l.length).filterMap (fun (m : Nat) => l.toArray[(((l.length : Int) - 1) + (m : Int) * (-1)).toNat]?) = l.reverse
  have e1 : (List.range l.length).filterMap (fun (m : Nat) => l.toArray[(((l.length : Int) - 1) + (m : Int) * (-1)).toNat]?) = (List.range l.length).filterMap (fun (m : Nat) => l.reverse[m]?) := by
    refine fm_congr fun m hm => ?_
    have hm := List.mem_range.mp hm
    have : (((l.length : Int) - 1) + (m : Int) * (-1)).toNat = l.length - 1 - m := by omega
    rw [this, List.getElem?_reverse hm]; simp
  rw [e1]
  have e2 : ∀ k : List Value, (List.range k.length).filterMap (fun m => k[m]?) = k := by
    intro k
    induction k with
    | nil => rfl
    | cons x k ih =>
      rw [List.length_cons, List.range_succ_eq_map, List.filterMap_cons]
      simp only [List.getElem?_cons_zero, List.filterMap_map, Function.comp_def, List.getElem?_cons_succ]
      rw [ih]
  have := e2 l.reverse
  rwa [List.length_reverse] at this
theorem sliceApplied_rev {sl : Addr} {t : Tok} {n : Nat} {Q : Int × Int × Nat → Shared → Prop} (hs : s.heap.IsSliceOf sl .none .none (.int (-1) t))
    (h : Q ((n : Int) - 1, -1, n) s) : wpAny (model prog w) A (Builtin.Slice.sliceApplied (.ref sl) (pure (n : Int))) Q E s := by
  obtain ⟨os, hos, hcs, hds⟩ := id hs
  unfold Builtin.Slice.sliceApplied Builtin.Slice.sliceFields
  refine wpAny_bind (wpAny_bind (wpAny_field hos hds (x := .none) rfl (wpAny_bind (wpAny_field hos hds (x := .none) rfl (wpAny_bind (wpAny_field hos hds (x := .int (-1) t) rfl (wpAny_pure ?_)))))))
  refine wpAny_bind (slicePart_int ?_)
  show wpAny _ _ (if ((-1 : Int) == 0) = true then _ else _) _ _ s
  rw [if_neg (by decide)]
  refine wpAny_bind (slicePart_none (wpAny_bind (slicePart_none (wpAny_bind (wpAny_pure ?_)))))
  show wpAny _ _ (match Builtin.Slice.sliceAdjust none none (-1) (n : Int) with | (lo, hi) => pure (lo, (-1 : Int), Builtin.Slice.slicePlaces lo hi (-1))) _ _ s
  rw [adjust_rev n]
  show wpAny _ _ (pure ((n : Int) - 1, (-1 : Int), Builtin.Slice.slicePlaces ((n : Int) - 1) (-1) (-1))) _ _ s
  rw [places_rev]
  exact wpAny_pure h
theorem getItem_tuple_rev {t sl : Addr} {tk : Tok} {items : Array Value} {Q : Value → Shared → Prop} (ht : IsTup s.heap t items) (hs : s.heap.IsSliceOf sl .none .none (.int (-1) tk))
    (h : Q (.ref s.heap.objs.size) { s with heap := s.heap.push { cls := .type "tuple", data := .seq items.toList.reverse.toArray } })
    (hsz : items.size ≤ sizeLine) : wpAny (model prog w) A (getItem (.ref t) (.ref sl)) Q E s := by
  have htake : sizeOk (.seq items.toList.reverse.toArray) := by
    show items.toList.reverse.toArray.size ≤ sizeLine
    rw [List.size_toArray, List.length_reverse, Array.length_toList]
    omega
  obtain ⟨os, hos, hcs, hds⟩ := id hs
  have hTs : s.TypeIs (.ref sl) "slice" := ⟨os, hos, hcs⟩
  unfold getItem
  try with_reducible refine wpAny_holding ?_
  first | refine wpAny_bind (wpAny_pure ?_) | skip
  refine wpAny_bind (wpAny_sequenceKey ht.typeIs (by decide) ?_)
  refine wpAny_bind (wpAny_callSpecial?_slot (name := Str.ofString "__getitem__") ht.typeIs PyProof.Rows.slot_tuple_getitem
    (wpAny_call_entry PyProof.Rows.slot_tuple_getitem ht.typeIs entry_tuple_getitem ?_ (args_tuple_getitem _ _)))
  show wpAny _ _ (Builtin.Tuple.tupleItemsOf (.ref t) >>= _) _ _ s
  refine wpAny_bind (tupleItemsOf_ ht ?_)
  refine wpAny_bind (wpAny_typeOf hTs ?_)
  rw [if_pos (by decide)]
  refine wpAny_bind (sliceApplied_rev hs ?_)
  have hno : ¬ ((((items.size : Int) - 1) == 0 && (-1 : Int) == 1 && items.size == items.size) = true) := by
    intro q
    rw [Bool.and_eq_true, Bool.and_eq_true] at q
    exact absurd q.1.2 (by decide)
  show wpAny _ _ (if (((items.size : Int) - 1) == 0 && (-1 : Int) == 1 && items.size == items.size) = true then _ else _) _ _ s
  rw [if_neg hno, pick_rev]
  first
    | exact wpAny_bind (m := Builtin.Tuple.tupleExact _) (wpAny_newObj_type (wpAny_pure ⟨_, rfl, wpAny_pure h⟩) htake)
    | exact wpAny_bind (m := Builtin.Tuple.tupleExact _) (wpAny_newObj_type (wpAny_bind (wpAny_pure (wpAny_pure ⟨_, rfl, wpAny_pure h⟩))) htake)
    | exact wpAny_bind (wpAny_bind (m := Builtin.Tuple.tupleExact _) (wpAny_newObj_type (wpAny_pure (wpAny_pure ⟨_, rfl, wpAny_pure h⟩)) htake))
    | exact wpAny_bind (wpAny_bind (m := Builtin.Tuple.tupleExact _) (wpAny_newObj_type (wpAny_pure ⟨_, rfl, wpAny_pure h⟩) htake))
end
theorem vals_rev {xs : List V} {us : List Value} (h : Vals xs us) : Vals xs.reverse us.reverse := by
  induction h with
  | nil => exact .nil
  | cons r _ ih => rw [List.reverse_cons, List.reverse_cons]; exact ih.append (.cons r .nil)
theorem RpA.rev {K : Ck} {F : Hp} : ∀ {vs : List V} {ds : List PyData}, RpA K F vs ds → RpA K F vs.reverse ds.reverse
  | [], _, h => by cases h; exact .nil
  | v :: vs, _, h => by
    cases h with
    | cons r t => rw [List.reverse_cons, List.reverse_cons]; exact (RpA.rev t).append (.cons r .nil)
def gRev : GO2 := fun x y Q => match x, y with
  | .tuple xs, .int i => i = -1 ∧ Q (.d (.tuple xs.reverse))
  | _, _ => False
def oRevT : O2 := fun x y => match x, y with
  | .tuple xs, .int i => if i = -1 then some (.d (.tuple xs.reverse)) else none
  | _, _ => none
theorem rev_of {x y : PyData} {rv : RV} {Q : RV → Prop} (h : oRevT x y = some rv) (q : Q rv) : gRev x y Q := by
  unfold oRevT at h
  split at h
  · split at h
    · rename_i c
      cases h
      exact ⟨c, q⟩
    · cases h
  · cases h
theorem F_rev {K : Ck} : OpF K (rB K gRev) oRevT := opF_of opd_rB fun _ _ _ _ h q => rev_of h q
section
variable {X : Cx} {e st : Expr} {te ts : TE} {pos p2 : Pos}
theorem pe_rev (he : PE X e te) (hst : PE X st ts) : PE X (.Subscript e (.Slice none none (some st) p2) pos) (tOp (rB (Cx.ck X) gRev) te ts) := by
  refine ⟨fun pins s σ H Q I h => ?_⟩
  refine Subscript_ (thn (he.run pins s σ H _ I h) fun v s1 ⟨x, H1, I1, r1, q1⟩ => ?_)
  refine wpAny_Slice ?_
  rw [evalPart_none]
  refine wpAny_pure ?_
  refine wpAny_pure ?_
  rw [evalPart_some]
  refine thn (hst.run pins s1 σ H1 _ I1 q1) fun u s3 ⟨y, H3, I3, r3, q3⟩ => ?_
  obtain ⟨S, F, dx, dy, Qd, o, rx, ry, g, p⟩ := q3
  cases ry with
  | int i =>
    cases rx with
    | @tup a vs ds hr hk ra =>
      obtain ⟨rfl, g⟩ : i = -1 ∧ Qd (.d (.tuple ds.reverse)) := g
      obtain ⟨tk, rfl⟩ := r3
      cases r1
      have I4 : Inv X pins σ H3 { s3 with heap := s3.heap.push { cls := .type "slice", data := .fields #[.none, .none, .int (-1) tk] } } := I3.kept (t' := s3.toks) fun b ob q => Heap.get?_push_of_some _ q
      obtain ⟨its, r, ht, hz⟩ := I4.tuple (Le.sqt o.sub hr)
      show wpAny (model X.prog X.w) X.A (subscriptTail e (.Slice none none (some st) p2) (.ref a) (.ref s3.heap.objs.size)) (EP X pins σ Q) X.xe { s3 with heap := s3.heap.push { cls := .type "slice", data := .fields #[.none, .none, .int (-1) tk] } }
      refine tail_any (ops := [.ref a, .ref s3.heap.objs.size]) ht.typeIs PyProof.Rows.slot_tuple_getitem.lookup ?_ (by with_unfolding_all rfl)
      have hlen : its.toArray.size = vs.length := by rw [List.size_toArray]; exact r.length.symm
      refine getItem_tuple_rev ht (Heap.IsSliceOf.new ..) ?_ (by rw [hlen]; exact hz)
      refine ⟨.ref _, _, I4.laid (t' := s3.toks) (o := .frz { cls := .type "tuple", data := .seq its.reverse.toArray } (.tup vs.reverse)) (fun b ob q => Heap.get?_push_of_some _ q) (Nat.le_refl _) ?_, rfl, p.tup o ra.rev g _ _ (I4.hok.fresh (Nat.le_refl _)) rfl⟩
      exact ⟨Heap.get?_push_size _ rfl, by rw [List.length_reverse]; exact hz, _, vals_rev r, PyProof.Rows.IsTup.new _ _⟩
    | _ => exact g.elim
  | _ => cases rx <;> exact g.elim
end
theorem q_revT {α : Type} (e : α → PyData) (xs : List α) : oRevT (eT e xs) (.int (-(1 : Int))) = some (.d (eT e xs.reverse)) := by
  show (if (-(1 : Int)) = -1 then some (RV.d (.tuple (xs.map e).reverse)) else none) = _
  rw [if_pos rfl, ← List.map_reverse]; rfl
end Fx

namespace Fx
open PySem L2
section
variable {γ : Type} {h : EFs} {ρ : List SD} {g : Gs} {P : γ → Out → Prop}
end
end Fx

namespace Fx
open PySem L2
section
variable {X : Cx}
end
section
variable {α β : Type} {e : α → PyData} {e' : β → PyData}
end
end Fx

namespace Fx
open PySem L2 PySem.Spec PyProof.Rows
section
variable {X : Cx} {k : Nat} {f C : Addr} {fd : FuncData} {ps ks : List Str} {sp : Sp} {E : L2.St → XK} {x m : Str} {p pos apos : Pos} {o : Expr} {kws : List Keyword} {tk : TA} {ta : TE} {n : Nat} {ix : List Nat}
end
section
variable {K : Ck} {W : WX}
end
section
variable {ρ : List SD} {g : Gs}
end
section
variable {X : Cx}
end
end Fx

namespace Fx
open PySem L2 PySem.Spec PyProof.Rows

section
variable {X : Cx} {pins : List (Addr × Obj)} {σ : L2.St} {H : Hp} {s : Shared}
/-- the object of a caught exception is known from now on -/
theorem kept_exc {a : Addr} {oe : Obj} {vs : Array Value} {cls : Value} {d : Option Addr} (I : Inv X pins σ H s) (he : s.heap.get? a = some oe) (hz : Zc cls d oe) (hd : oe.data = .fields vs) (na : H a = none) (nL : a ≠ X.env.locals)
    (n0 : X.s_0.heap.get? a = none) (npin : ∀ p ∈ X.pn ++ pins, p.1 ≠ a) : Inv X pins σ (upd H a (ErC cls d a)) s := by
  have old : ∀ b u, H b = some u → upd H a (ErC cls d a) b = some u := fun b u e => by rw [upd_ne (ne_of_none e na)]; exact e
  have offc : ∀ x c, X.env.cells.lookup x = some c → c ≠ a := fun x c e z => by
    obtain ⟨v, o, h1, h2⟩ := I.cell x c e
    rw [z, he] at h1
    cases h1
    rw [hd] at h2
    cases h2
  refine ⟨I.ok, I.os, I.bare, ⟨I.base.keep, I.base.slot, fun b u e n hx => ?_, I.base.there, fun b xs e => old _ _ (I.base.tups b xs e), fun b u xs e => old _ _ (I.base.frzs b u xs e), fun b ps e => ?_⟩, I.loc, I.cell, ?_, fun x c e => ?_, fun p hp => ?_, fun b u e => ?_, I.len⟩
  · rw [upd_ne fun z => by rw [z, n0] at e; cases e]
    exact I.base.free b u e n hx
  · obtain ⟨m, q⟩ := I.base.tbls b ps e
    exact ⟨m, old _ _ q⟩
  · rw [upd_ne (Ne.symm nL)]; exact I.free
  · rw [upd_ne (offc x c e)]; exact I.freeC x c e
  · obtain ⟨h1, h2, h3⟩ := I.pin p hp
    exact ⟨h1, by rw [upd_ne (npin p hp)]; exact h2, h3⟩
  · by_cases z : b = a
    · subst z
      rw [upd_same] at e
      cases e
      exact ⟨⟨oe, vs, he, hz, hd⟩, ⟨oe, he⟩, fun _ _ ⟨o, v, q, r⟩ k => ⟨o, v, k o q, r⟩⟩
    · rw [upd_ne z] at e
      exact (I.hok b u e).stay (fun _ _ _ q => q) (fun c q => by rw [upd_ne (ne_of_none q na)]; exact q) fun c xs q => old _ _ q
end

/-- what 'except x as n' with a suite that comes to its end wishes of an exception of the body: n's slot is i; the exception is known behind the try -/
def wKept (K : PySem.W.Frag) (c : Value) (i : Nat) (ts : Addr → Value → Option Addr → TS) (D : Ends) : WX := fun cls d σ H => PySem.W.exmOne K cls c = some true ∧
  ∀ a, H a = none → ts a cls d { nx := fun σ' H' => D.nx (σ'.set i none) (upd H' a (ErC cls d a)), rt := fun _ _ => False, bk := fun _ _ => False, ct := fun _ _ => False } (σ.set i (some (.ref a))) H
section
variable {X : Cx} {x n : Str} {c : Value} {i : Nat} {body suite : List Stmt} {b₀ : Stmt} {np pos pos' : Pos} {tb : WX → TS} {ts : Addr → Value → Option Addr → TS}
theorem ps_try_kept (hs : X.stack = X.env :: X.outer) (hf : X.env.frame = some X.env.locals) (hex : X.ex = []) (hN : X.N.Nodup) (hi : X.N[i]? = some n) (hln : X.env.kindOf n = some .local) (hc : Names X x c)
    (hb : ∀ (W : WX) (pn : List (Addr × Obj)) (xe : Value → Shared → Prop), Takes (X.tr pn xe) W → PassesOwn (model X.prog X.w) X.A X.env xe → PSs (X.tr pn xe) body (tb W))
    (hsu : ∀ (a : Addr) (oe : Obj) (cls : Value) (d : Option Addr) (pn : List (Addr × Obj)), Zc cls d oe → (∃ vs, oe.data = .fields vs) → PSs (X.suite a ((a, oe) :: pn)) (b₀ :: suite) (ts a cls d)) :
    PS X (.Try body [.ExceptHandler (some (.Name x np)) (some n) (b₀ :: suite) pos'] [] [] pos) (fun D σ H => tb (wKept X.K c i ts D) D σ H) := by
  refine ⟨fun pins s σ H D I want => wpAny_Try_except ?_⟩
  have frm : X.A.frames = some (X.env :: X.outer) := by rw [I.ok.frames, hs]
  have run := (hb (wKept X.K c i ts D) (X.pn ++ pins) (fun e t₁ => wpAny (model X.prog X.w) X.A (noteFrame e X.env) (fun _ t₂ => wpAny (model X.prog X.w) X.A (setFlight e none) (fun _ t₃ =>
      wpAny (model X.prog X.w) X.A (handleBy e X.env [.ExceptHandler (some (.Name x np)) (some n) (b₀ :: suite) pos']) (SP X pins D) X.xe t₃) X.xe t₂) X.xe t₁) ?caught PassesOwn.looking).run [] s σ H D (I.toTry _) want
  case caught =>
    rintro _ t ⟨a, B, sI, pins', σ1, H1, cls, d, rfl, J', ground, up, sky, na, os, ag, match_, suite_⟩
    have J : Inv X pins σ1 H1 sI := J'.ofTry I.ok
    rw [show (X.tr (X.pn ++ pins) _).stack = X.env :: X.outer from hs] at sky
    refine Sky.land Zc.steady frm hf sky fun h1 fl up1 => ?_
    have onAir : ∀ {h : Heap} {o : Obj} {vs : Array Value}, h.FunFrames B (X.env :: X.outer) → h.get? a = some o → o.data = .fields vs → a ∉ frs (X.env :: X.outer) := fun ff e q m => by
      obtain ⟨_, o', e', no⟩ := ff.mem m
      rw [e] at e'
      cases e'
      exact no _ q
    obtain ⟨o1, v1, e1, z1, d1⟩ := fl.there
    have off := onAir fl.2.2.1 e1 d1
    have offI : ∀ o, sI.heap.get? a ≠ some o := fun o e => by
      have := ground a o e (by rw [hs]; exact off)
      rw [fl.2.1] at this
      cases this
    have n0 : X.s_0.heap.get? a = none := by
      cases e : X.s_0.heap.get? a with
      | none => rfl
      | some o =>
        obtain ⟨o', e'⟩ := J.base.there a o e (by rw [hex]; exact fun z => nomatch z)
        exact (offI o' e').elim
    have npin : ∀ p ∈ X.pn ++ pins, p.1 ≠ a := fun p hp z => offI p.2 (by rw [← z]; exact (J.pin p hp).1)
    have nL : a ≠ X.env.locals := fun z => off (List.mem_filterMap.mpr ⟨X.env, List.mem_cons_self, by rw [hf, z]⟩)
    have nF : a ∉ X.fs := fun m => by
      obtain ⟨e, he, q⟩ := List.mem_filterMap.mp m
      exact off (List.mem_filterMap.mpr ⟨e, List.mem_cons_of_mem _ he, q⟩)
    have J1 : Inv X pins σ1 H1 { t with heap := h1 } := J.landed ground fl.1 (up.trans up1) os ag
    have S1 := J1.suite e1 d1 na nL nF
    refine wpAny_handleBy_cons (codeAny_handlers_test ?_) (by intro q; cases q)
    have ty : PySem.W.Looks (model X.prog X.w) h1 (typeOf (.ref a)) cls := fun A Q E s k q => wpAny_typeOf_ref (k _ _ e1) (by rw [z1.1]; exact q)
    have tells := PySem.W.exm_one (M := model X.prog X.w) J1.kIn ty match_
    have named : ∀ {Q E : Value → Shared → Prop}, Q c { t with heap := h1 } → wpAny (model X.prog X.w) (X.A.mark (some (.ref a))) (eval (.Name x np) X.env) Q E { t with heap := h1 } := fun q => by
      obtain ⟨hg, hdb, hm | ⟨hm, hv, hnn⟩⟩ := hc
      · exact ld_glob (X := X.suite a ((a, o1) :: (X.pn ++ pins))) S1 hg hm q hdb
      · exact ld_blt (X := X.suite a ((a, o1) :: (X.pn ++ pins))) S1 hg hm hv q hnn hdb
    refine named (tells.here (codeAny_handlers_suite_as (HandSPX.lands_againZ fl fun h2 fl2 up2 => ?_)))
    have J2 : Inv X pins σ1 H1 { t with heap := h2 } := J.landed ground fl2.1 ((up.trans up1).trans up2) os ag
    obtain ⟨o2, v2, e2, z2, d2⟩ := fl2.there
    refine store_ok (X := X.suite a ((a, o2) :: (X.pn ++ pins))) (v := .ref a) (J2.suite e2 d2 na nL nF) hN hi (.inl hln) rfl (fun s5 S5 => ?_) (.inr hln)
    refine wpAny_mono ((hsu a o2 cls d (X.pn ++ pins) z2 ⟨_, d2⟩).run [] s5 _ H1 _ S5 (suite_ a na)) (fun f s6 q => ?_) fun _ _ z => z.elim
    cases f with
    | next =>
      obtain ⟨σ6, H6, S6, q6⟩ := q
      refine gone_ok (X := X.suite a ((a, o2) :: (X.pn ++ pins))) S6 hN hi hln fun s7 S7 => ?_
      obtain ⟨ha, hn, _⟩ := S7.pin (a, o2) (List.mem_append_left _ List.mem_cons_self)
      exact ⟨_, _, kept_exc (S7.unsuite I.ok) ha z2 d2 hn nL n0 npin, q6⟩
    | brk => obtain ⟨_, _, _, z⟩ := q; exact z.elim
    | cont => obtain ⟨_, _, _, z⟩ := q; exact z.elim
    | ret u => obtain ⟨_, _, _, _, _, z⟩ := q; exact z.elim
  refine wpAny_mono run (fun f t q => ?_) fun _ _ z => z
  cases f with
  | next => obtain ⟨σ', H', J', q⟩ := q; exact wpAny_execs_nil ⟨σ', H', J'.ofTry I.ok, q⟩
  | brk => obtain ⟨σ', H', J', q⟩ := q; exact ⟨σ', H', J'.ofTry I.ok, q⟩
  | cont => obtain ⟨σ', H', J', q⟩ := q; exact ⟨σ', H', J'.ofTry I.ok, q⟩
  | ret u => obtain ⟨v, σ', H', J', r, q⟩ := q; exact ⟨v, σ', H', J'.ofTry I.ok, r, q⟩
end
end Fx

namespace Fx
open PySem L2 PySem.Spec PyProof.Rows LamX

/-- what the making of a lambda changes: the table of codes tells one more, or nothing -/
def LamTo (P : Addr) (q : Str) (H H1 : Hp) (c' : Addr) : Prop := H1 c' = some (CodeO c' q) ∧ ∃ ps, H P = some (.tbl ps) ∧
  (H1 = H ∨ (H c' = none ∧ ∃ ps' : Array Value, TriplesOk ps'.toList ∧ (∀ (pos : Pos) (cv : Value), codeAmong pos ps'.toList = some cv → codeAmong pos ps.toList = some cv ∨ cv = .ref c') ∧ H1 = upd (upd H P (.tbl ps')) c' (CodeO c' q)))
section
variable {X : Cx} {pins : List (Addr × Obj)} {σ : L2.St} {H : Hp} {s : Shared}
theorem lam_told {c P : Addr} {q : Str} {params : Arguments} {body : Expr} {scope : Scope} {pos : Pos} {E : Value → Shared → Prop} {Q : Value → Shared → Prop} (I : Inv X pins σ H s) (TB : TabB X.base X.mg c P) (hcode : X.env.code = .ref c)
    (hq : X.env.qual ++ "<lambda>" = q) (tab : TabS H P q) (hdef : defaultsOf params X.env = ([], [])) (hfree : ∀ y ∈ scope.names, y.2 = .free → ∃ c, X.env.cells.lookup y.1 = some c)
    (h : ∀ (f c' : Addr) (pm ctv : Value) (H1 : Hp) (s' : Shared), Inv X pins σ H1 s' → LamTo P q H H1 c' →
      s'.heap.get? f = some (PySem.W.kla_obj "<lambda>" q params body scope (cloFrom X.env.cells scope.names []) pm c' ctv) → H1 f = none → f ∉ frs X.stack → Q (.ref f) s') :
    wpAny (model X.prog X.w) X.A (eval (.Lambda params body scope pos) X.env) Q E s := by
  subst hq
  obtain ⟨ps, atP, tri, tells⟩ := tab
  have bare := I.hok P _ atP
  have off : ∀ f, s.heap.objs.size ≤ f → f ∉ frs X.stack := fun f hf m => by
    rcases List.mem_cons.mp (I.stkSub _ m) with e | e
    · subst e; exact Nat.lt_irrefl _ (Nat.lt_of_lt_of_le I.lt hf)
    · exact I.nofs hf e
  refine PySem.W.kla_eval hdef ?_
  cases got : codeAmong pos ps.toList with
  | some cv =>
    obtain ⟨c', rfl, known⟩ := tells pos cv got
    refine PySem.W.kla_makeFunctionHit (mg := X.mg) (c := c) (P := P) (ps := ps) (closure_ok hfree) I.ok.glob (I.mod.glob.keeps I.bk) hcode (TB.code.keeps I.bk) bare tri got (TB.bm.keeps I.bk) fun ctv h' tk kp sz => ?_
    refine h h'.objs.size c' ((X.mg "__name__").getD .none) ctv H _ (I.kept (t' := tk) fun b o e => Heap.get?_push_of_some _ (kp b o e)) ⟨known, ps, atP, .inl rfl⟩ (Heap.get?_push_size _ rfl) (I.hok.fresh sz) (off _ sz)
  | none =>
    refine PySem.W.kla_makeFunction (mg := X.mg) (c := c) (P := P) (ps := ps) (closure_ok hfree) I.ok.glob (I.mod.glob.keeps I.bk) hcode (TB.code.keeps I.bk) bare tri got TB.gP (TB.bm.keeps I.bk) fun c' ctv h' tk but ge lt rec tab' => ?_
    obtain ⟨_, oc, vs, t, e, at', hd, hv⟩ := rec
    cases e
    have n' : H c' = none := I.hok.fresh ge
    have sz : s.heap.objs.size ≤ h'.objs.size := Nat.le_trans ge (Nat.le_of_lt lt)
    have lP : P < s.heap.objs.size := Heap.lt_size bare
    have eL : (ps ++ #[rawInt pos.line, rawInt pos.col, Value.ref c']).toList = ps.toList ++ [rawInt pos.line, rawInt pos.col, .ref c'] := by simp
    refine h h'.objs.size c' ((X.mg "__name__").getD .none) ctv _ _ (inv_table (t' := tk) (more := #[rawInt pos.line, rawInt pos.col, .ref c']) (h' := h'.push (PySem.W.kla_obj "<lambda>" (X.env.qual ++ "<lambda>") params body scope (cloFrom X.env.cells scope.names []) ((X.mg "__name__").getD .none) c' ctv)) I atP
      (fun b o nb e => Heap.get?_push_of_some _ (but b o nb e)) (Heap.get?_push_of_some _ tab') ge ⟨oc, vs, t, Heap.get?_push_of_some _ at', hd, hv⟩) ⟨upd_same, ps, atP, .inr ⟨n', _, ?_, fun p cv g => ?_, rfl⟩⟩ (Heap.get?_push_size _ rfl) ?_ (off _ sz)
    · rw [eL]; exact PySem.TriplesOk_snoc _ _ _ _ tri
    · rw [eL] at g; exact among_app _ tri g
    · rw [upd_ne (Nat.ne_of_gt lt), upd_ne (Nat.ne_of_gt (Nat.lt_of_lt_of_le lP sz))]
      exact I.hok.fresh sz
/-- the call of the lambda in the def that was handed it -/
theorem pe_work {CXg : CXT} {Eg : XK} {Ng : List Str} {qg q : Str} {sg : Scope} {g f c' : Addr} {cdg pm ctv : Value} {params : Arguments} {body : Expr} {scope : Scope} {k i : Nat} {a : Str} {pn : List (Addr × Obj)} {xe : Value → Shared → Prop} {W : WX} {tb : XK → TE} {p1 p2 : Pos}
    (I : Inv X pins σ H s) (hq : X.env.qual ++ "<lambda>" = q) (hgd : X.A.guards = some []) (L : LamS X.env.scope scope) (hf : s.heap.get? f = some (PySem.W.kla_obj "<lambda>" q params body scope (cloFrom X.env.cells scope.names []) pm c' ctv)) (hfn : H f = none) (hfr : f ∉ frs X.stack)
    (hbind : bindArgs (PySem.W.kla_fn "<lambda>" q params body scope (cloFrom X.env.cells scope.names []) pm (.ref c') ctv) ⟨[], []⟩ = pure [])
    (tk : Takes ((cxOf CXg X.prog X.w X.K X.mg X.base Ng qg sg g cdg X.A X.stack s H Eg).tr pn xe) W) (hr : Room (k + 1) (X.A.deeper (envOfC qg sg s.heap.objs.size g cdg)))
    (hbody : ∀ (A : Around) (outer : List Env) (s : Shared) (H : Hp) (E : XK), A.guards = some [] → Room k (A.deeper (lamEnv X scope s.heap.objs.size f c')) → PE (lamCx X A outer s H E scope f c') body (tb E))
    (hN : Ng[i]? = some a) (hv : Vis sg a) (hd : (a == ("__debug__" : Str)) = false := by decide) (hcd : (a == ("__classdict__" : Str)) = false := by decide) :
    PE ((cxOf CXg X.prog X.w X.K X.mg X.base Ng qg sg g cdg X.A X.stack s H Eg).tr pn xe) (.Call (.Name a p1) [] [] p2)
      (fun σZ HZ Q => σZ[i]? = some (some (.ref f)) ∧ HZ c' = some (CodeO c' q) ∧ tb (fun cls d H' => W cls d σZ H') σ HZ Q) := by
  subst hq
  refine ⟨fun pinsZ sZ σZ HZ Q IZ ⟨hs, hc, want⟩ => ?_⟩
  refine wpAny_Call_Name_kw (thn ((pe_var (pos := p1) (i := i) hN hv hd hcd).run pinsZ sZ σZ HZ (fun v H1 => v = .ref f ∧ H1 = HZ) IZ ⟨.ref f, hs, rfl, rfl⟩) fun u s1 ⟨v, H1, I1, r1, ev, eH⟩ => ?_)
  subst ev
  rw [eH] at I1
  obtain rfl : u = Value.ref f := r1
  have there : s1.heap.get? f = some (PySem.W.kla_obj "<lambda>" (X.env.qual ++ "<lambda>") params body scope (cloFrom X.env.cells scope.names []) pm c' ctv) := I1.base.keep f _ hf hfn hfr (fun z => nomatch (show f ∈ ([] : List Addr) from z))
  refine PySem.W.callWith_F0 ⟨_, _, _, _, there⟩ ?_
  obtain ⟨⟨oc, vs, t, at', dc, vc⟩, _, _⟩ := I1.hok c' _ hc
  have rc : codeAny (model X.prog X.w) (X.A.deeper (envOfC qg sg s.heap.objs.size g cdg)) (.call (.ref f) ⟨[], []⟩) (CR (L2.CX X.prog X.w) (envOfC qg sg s.heap.objs.size g cdg :: X.stack) X.prog X.w HZ s1 Q (fun cls d H' => W cls d σZ H')) s1 := by
    refine PySem.W.kla_callFunE hr.depth there rfl L.co L.gen rfl ⟨c', oc, vs, t, rfl, at', dc, vc⟩ ?_
    rw [hbind]
    refine wpAny_pure (wpAny_newFunctionEnv (fun y hy => (L.own y hy).2) (fun y hy => absurd hy (by simp)) (fun h₁ hns hsb => ⟨I1.nolimit.fresh _ hsb, ?_⟩) L.kind)
    show codeAny _ _ (.expr body (lamEnv X scope s1.heap.objs.size f c')) _ _
    have J := lam_start2 (A := X.A.deeper (envOfC qg sg s.heap.objs.size g cdg)) (outer := envOfC qg sg s.heap.objs.size g cdg :: X.stack) (E := fun cls d H' => W cls d σZ H') (f := f) (c' := c') (tk := s1.toks + ([] : List (Str × Value)).length) I L I1.env0 hr.hd I1.base hns
      (fun b o e => hsb.extBut b o (Nat.ne_of_lt (Heap.lt_size e)) (Heap.get?_push_of_some _ e))
    refine PySem.W.kla_codeExpr (wpAny_mono ((hbody (X.A.deeper (envOfC qg sg s.heap.objs.size g cdg)) _ s1 HZ _ hgd (hr.deeper _)).run [] _ _ HZ Q J want) (fun v s' ⟨w', H', J', rv, q⟩ => ⟨w', H', J'.os, J'.bare, J'.base, J'.hok, rv, q⟩) fun _ _ q => q)
  refine wpAny_call (codeAny_mono rc fun r s' q => ?_)
  match r, q with
  | .error e, q => exact tk e s' (XE.of_call I1 (fun _ _ _ h => h) q)
  | .ok (.ret u), q => exact I1.after q
  | .ok .next, q => exact q.elim
  | .ok .brk, q => exact q.elim
  | .ok .cont, q => exact q.elim
end
end Fx

namespace Fx
open PySem L2 PySem.Spec PyProof.Rows LamX

def sRaise (W : WX) (C : Addr) : TS := fun _ σ H => W (.ref C) none σ H
def fRaise (nm : Str) : EFs := fun ρ g => .ok (.ex (objD nm []) ρ) g
theorem sms_raise {K : Ck} {W : WX} {nm : Str} {C : Addr} (m : K.mg nm = some (.ref C)) : SmS K W (sRaise W C) (fRaise nm) := fun S B F0 F H ρ σ g D E hf => hf σ F H (.ref C) none E (.plain m)
theorem ps_raiseC {X : Cx} {W : WX} {x : Str} {C : Addr} {m : Str} {j : Nat} {p p2 pos pos' : Pos} (hc : X.calm = true) (tk : Takes X W) (he : PMk X (.Call (.Name x p) [.Constant (.str m) j p2] [] pos) (fun _ H Q => Q (.ref C) none H)) : PS X (.Raise (some (.Call (.Name x p) [.Constant (.str m) j p2] [] pos)) none pos') (sRaise W C) := ps_raise hc tk he

theorem LamTo.ext {q : SQ} {F H H1 : Hp} {P c' : Addr} {n : Str} {g : Gs} (h : LamTo P n H H1 c') (sub : Sub F H) (tb : Tb (staOf q) F H) (j : (staOf q).J g H) (mF : ∀ a, (staOf q).M a → F a = none) (hm : (P, n) ∈ q.2) (hu : ∀ p ∈ q.2, p.1 = P → p.2 = n) :
    ∃ F1, Ext (staOf q) F H F1 H1 ∧ (staOf q).J g H1 := by
  obtain ⟨h1, ps, hP, rfl | ⟨nc, ps', tri, tell, rfl⟩⟩ := h
  · exact ⟨F, Ext.refl sub, j⟩
  · have eT : (staOf q).T = q.2 := by obtain ⟨o, T⟩ := q; cases o <;> rfl
    have mP : (staOf q).M P := (staOf q).tm (P, n) (by rw [eT]; exact hm)
    have nP : P ≠ c' := ne_of_none hP nc
    have fP : F P = none := mF P mP
    have old : ∀ b o, b ≠ P → H b = some o → upd (upd H P (.tbl ps')) c' (CodeO c' n) b = some o := fun b o ne e => by rw [upd_ne (ne_of_none e nc), upd_ne ne]; exact e
    refine ⟨upd F c' (CodeO c' n), ⟨fun a o e m => old a o (fun z => m (z ▸ mP)) e, fun a e => upd_ne fun z => e (by rw [z]; exact nc), fun a o e => by rw [upd_ne (ne_of_none (sub _ _ e) nc)]; exact e, fun a o e => ?_, fun t p hp => ?_⟩, ?_⟩
    · by_cases z : a = c'
      · subst z; rw [upd_same] at e ⊢; exact e
      · rw [upd_ne z] at e
        exact old a o (fun z => by rw [z, fP] at e; cases e) (sub _ _ e)
    · obtain ⟨qs, a1, a2, a3⟩ := t p hp
      by_cases z : p.1 = P
      · have en : p.2 = n := hu p (by rw [← eT]; exact hp) z
        rw [z, hP] at a1
        cases a1
        refine ⟨ps', by rw [z, upd_ne nP, upd_same], tri, fun pos cv hc => ?_⟩
        rcases tell pos cv hc with k | rfl
        · obtain ⟨c, b1, b2⟩ := a3 pos cv k
          exact ⟨c, b1, by rw [upd_ne (ne_of_none (sub _ _ b2) nc)]; exact b2⟩
        · exact ⟨c', rfl, by rw [en, upd_same]⟩
      · refine ⟨qs, old _ _ z a1, a2, fun pos cv hc => ?_⟩
        obtain ⟨c, b1, b2⟩ := a3 pos cv hc
        exact ⟨c, b1, by rw [upd_ne (ne_of_none (sub _ _ b2) nc)]; exact b2⟩
    · obtain ⟨o, T⟩ := q
      have some_ : ∀ a, H a ≠ none → upd (upd H P (.tbl ps')) c' (CodeO c' n) a ≠ none := fun a e => upd_some (upd_some e)
      cases o with
      | none => exact ⟨j.1, fun p hp => some_ _ (j.2.1 p hp), j.2.2⟩
      | some p =>
        obtain ⟨d, l, k⟩ := p
        have L := j.1.2
        have no : ∀ {a : Addr} {u : HO}, H a = some u → (∀ q, u ≠ .tbl q) → a ≠ P := fun {a u} e n z => by rw [z, hP] at e; cases e; exact n _ rfl
        exact ⟨⟨j.1.1, L.dl, L.dc, L.lc, old _ _ (no L.hd fun q z => by cases z) L.hd, old _ _ (no L.hl fun q z => by cases z) L.hl, old _ _ (no L.hc fun q z => by cases z) L.hc⟩, fun p hp => some_ _ (j.2.1 p hp), j.2.2⟩

def GivesW (X : Cx) (Ng : List Str) (x : Str) (sg : Scope) (g : Addr) (cdg : Value) (bg : List Stmt) (a : Str) (q : Str) (TT : (XK → Hp → VK → Prop) → Hp → VK → Prop) : Prop :=
  ∀ (f c' : Addr) (s : Shared) (H : Hp) (Q : VK) (tl : XK → Hp → VK → Prop),
    (∀ (W : WX) (pn : List (Addr × Obj)) (xe : Value → Shared → Prop) (p1 p2 : Pos), Takes ((cxOf C8.CX0 X.prog X.w X.K X.mg X.base Ng x sg g cdg X.A X.stack s H C8.E0).tr pn xe) W →
      PE ((cxOf C8.CX0 X.prog X.w X.K X.mg X.base Ng x sg g cdg X.A X.stack s H C8.E0).tr pn xe) (.Call (.Name a p1) [] [] p2) (fun σZ HZ Q => σZ[0]? = some (some (.ref f)) ∧ HZ c' = some (CodeO c' q) ∧ tl (fun cls d H' => W cls d σZ H') HZ Q)) →
    H c' = some (CodeO c' q) → TT tl H Q →
    ∃ t, PSs (cxOf C8.CX0 X.prog X.w X.K X.mg X.base Ng x sg g cdg X.A X.stack s H C8.E0).nox bg t ∧ t { nx := fun _ H' => Q .non H', rt := Q } (L2.start Ng [.ref f]) H
def tLamF (P : Addr) (q : Str) (TT : (XK → Hp → VK → Prop) → Hp → VK → Prop) (t : XK → TE) : TE := fun σ H Q => TabS H P q ∧ ∀ H1 c', LamTo P q H H1 c' → TT (fun E H' Q' => t E σ H' Q') H1 Q
section
variable {X : Cx}
/-- x(lambda: body) -/
theorem pe_lamF {TT : (XK → Hp → VK → Prop) → Hp → VK → Prop} {x a : Str} {q : Str} {st : Stmt} {fd : FuncData} {g c P : Addr} {k : Nat} {Ng : List Str} {params : Arguments} {body : Expr} {scope : Scope} {t : XK → TE} {p lpos pos : Pos}
    (Fg : L2.Fun X.K x x st g fd) (hg : Gl X x) (hm : X.mg x = some (.ref g)) (hb : L2.Binds X.K fd [a] []) (Sg : FnScope Ng [a] (defScope st)) (hNg : Ng[0]? = some a) (hva : Vis (defScope st) a)
    (hG : ∀ cdv, GivesW X Ng x (defScope st) g cdv (defBody st) a q TT) (hq : X.env.qual ++ "<lambda>" = q) (hgd : X.A.guards = some [])
    (TB : TabB X.base X.mg c P) (hcode : X.env.code = .ref c) (hr : Room (k + 2) X.A) (L : LamS X.env.scope scope) (hdef : defaultsOf params X.env = ([], []))
    (hbind : ∀ (q : Str) (cl : List (Str × Addr)) (pm cv ctv : Value), bindArgs (PySem.W.kla_fn "<lambda>" q params body scope cl pm cv ctv) ⟨[], []⟩ = pure [])
    (hbody : ∀ (A : Around) (outer : List Env) (s : Shared) (H : Hp) (E : XK) (f c' : Addr), A.guards = some [] → Room k (A.deeper (lamEnv X scope s.heap.objs.size f c')) → PE (lamCx X A outer s H E scope f c') body (t E))
    (hdb : (x == ("__debug__" : Str)) = false := by decide) (hd : (a == ("__debug__" : Str)) = false := by decide) (hcd : (a == ("__classdict__" : Str)) = false := by decide) :
    PE X (.Call (.Name x p) [.Lambda params body scope lpos] [] pos) (tLamF P q TT t) := by
  have kp := Fg.kp
  obtain ⟨oc, od, kV, doc, pm, an, cdv, ct, osl, rfl, lk, hcd'⟩ := Fg.ex
  refine ⟨fun pins s σ H Q I ⟨tab, want⟩ => wpAny_Call_Name_kw (ld_glob I hg hm ?_ hdb)⟩
  refine PySem.W.callWith_K (h₀ := X.base) I.ok.mod.kin kp ?_ (by rfl) (by rfl)
  show wpAny _ _ (spliced ((false, eval (.Lambda params body scope lpos) X.env) :: backTo pos (starEach [] X.env))) _ _ s
  refine Calls.spliced_cons (lam_told I TB hcode hq tab hdef (L.has I.ok) fun f c' pm' ctv H1 s' I1 to hf hfn hfr => Calls.spliced_nil ⟨I1.kIn, ?_⟩)
  have rc : codeAny (model X.prog X.w) X.A (.call (.ref g) ⟨[.ref f], []⟩) (CR C8.CX0 X.stack X.prog X.w H1 s' Q C8.E0) s' := by
    refine run_ofS (N := Ng) (ps := [a]) (us := [.ref f]) (vs := [.ref f]) lk hcd' Sg hr I1.env0 (hb s' [.ref f] I1.kIn rfl) (.cons rfl .nil) rfl fun hr' => ?_
    obtain ⟨t', ht', hq'⟩ := hG cdv f c' s' H1 Q (fun E H' Q' => t E σ H' Q') (fun W pn xe p1 p2 tk => pe_work (i := 0) I1 hq hgd L hf hfn hfr (hbind _ _ _ _ _) tk hr' (fun A outer s H E hg' hr2 => hbody A outer s H E f c' hg' hr2) hNg hva hd hcd) to.1 (want H1 c' to)
    exact ⟨t', ht'.nox, hq'⟩
  refine wpAny_call (codeAny_mono rc fun r s2 hq => ?_)
  match r, hq with
  | .error e, hq => exact (show False from hq).elim
  | .ok (.ret u), hq => exact I1.after hq
  | .ok .next, hq => exact hq.elim
  | .ok .brk, hq => exact hq.elim
  | .ok .cont, hq => exact hq.elim
end
abbrev WkF := V → (Gs → R RV) → Gs → R RV
/-- what the lambda's reading is, behind S F H -/
def WkOk (K : Ck) (S : Sta) (F H : Hp) (tl : XK → Hp → VK → Prop) (wk : Gs → R RV) : Prop := ∀ (g' : Gs) (F' H' : Hp) (E : XK) (Pd : RV → Gs → Prop) (Xd : PyData → Gs → Prop) (Q : VK), Ext S F H F' H' → S.J g' H' → (wk g').wp Pd Xd →
  (∀ r g2 v F2 H2, Pd r g2 → Ext S F' H' F2 H2 → S.J g2 H2 → RepRV K S H' F2 H2 v r → Q v H2) → (∀ x g2 cls d F2 H2, Xd x g2 → Ext S F' H' F2 H2 → S.J g2 H2 → ExcRep K S H' F2 H2 cls d x → E cls d H2) → tl E H' Q
def TTw (K : Ck) (Fm : WkF) : (XK → Hp → VK → Prop) → Hp → VK → Prop := fun tl H Q => ∃ (q : SQ) (F : Hp) (g : Gs) (wk : Gs → R RV), Sub F H ∧ (∀ a, (staOf q).M a → F a = none) ∧ (staOf q).J g H ∧ Tb (staOf q) F H ∧ (q.2 ≠ [] → q.2 = lamT K) ∧ WkOk K (staOf q) F H tl wk ∧
  ∀ v, (Fm v wk g).wp (fun r g' => ∀ v' F' H', RetOk K (staOf q) H F F' H' v' r g' → Q v' H') NoX
noncomputable section
open Classical
def fLam (Fm : WkF) (fe : EF) : EF := fun ρ g => if g.tt = true ∧ ∀ v, Fm v (fe ρ) g = Fm .non (fe ρ) g then (Fm .non (fe ρ) g).nox else .bad
end
section
variable {K : Ck} {W : WX}
theorem sm_lamF {P : Addr} {n : Str} {Fm : WkF} {t : XK → TE} {fe : EF} (hm : (P, n) ∈ lamT K) (hu : ∀ p ∈ lamT K, p.1 = P → p.2 = n) (he : ∀ E, Sm K (WB E) (t E) fe) : Sm K W (tLamF P n (TTw K Fm) t) (fLam Fm fe) := by
  intro S B F0 F H ρ σ g Pd Xd Q E hf k kx
  unfold fLam at hf
  split at hf
  · rename_i c
    obtain ⟨ht, all⟩ := c
    have hf := R.wp_nox.mp hf
    obtain ⟨q, rfl, hq⟩ := E.st
    have eT : (staOf q).T = q.2 := by obtain ⟨o, T⟩ := q; cases o <;> rfl
    have hne : q.2 ≠ [] := by
      have j := E.j
      obtain ⟨o, T⟩ := q
      cases o with
      | none => exact j.2.2 ht
      | some p => obtain ⟨d, l, c⟩ := p; exact j.2.2 ht
    have hT := hq hne
    have mT : (P, n) ∈ q.2 := by rw [hT]; exact hm
    obtain ⟨ps, h1, h2, h3⟩ := E.tb (P, n) (by rw [eT]; exact mT)
    refine ⟨⟨ps, h1, h2, fun pos cv hc => let ⟨c, e1, e2⟩ := h3 pos cv hc; ⟨c, e1, E.sub _ _ e2⟩⟩, fun H1 c' to => ?_⟩
    obtain ⟨F1, e, j⟩ := to.ext E.sub E.tb E.j E.mF mT fun p hp => hu p (hT ▸ hp)
    have E1 := E.ext e j
    refine ⟨q, F1, g, fe ρ, E1.sub, E1.mF, j, E1.tb, hq, fun g' F' H' E' Pd' Xd' Q' e' j' w kk kkx => ?_, fun v => ?_⟩
    · exact he E' (staOf q) B F0 F' H' ρ σ g' Pd' Xd' Q' (E1.ext e' j') w kk kkx
    · rw [all v]
      exact R.wp_imp hf (fun r g' q2 v' F' H' R => k r g' v' F' H' q2 (e.trans R.ext j) R.j (R.rv.wide fun a ha => e.free j ha)) fun _ _ z => z
  · exact hf.elim
end
end Fx

namespace Fx
open PySem L2 PySem.Spec PyProof.Rows LamX

structure ErCls (K : PySem.W.Frag) (C : Addr) : Prop where
  cl : (PySem.W.clsIn K C).isSome = true
  hg : PySem.W.findIn K (.ref C) "__getattribute__" = some (some (.builtin "BaseException.__getattribute__"))
  hk : PySem.W.findIn K (.ref C) "__getattr__" = some none
  hs : PySem.W.subIn K (.ref C) (.type "BaseException") = some true
  hd : PySem.W.hasDictIn K C = true
  ha : PySem.W.findIn K (.ref C) "__class__" = some (some (.builtin "object.__class__"))
  hn : PySem.W.specialIn K (.builtin "object.__class__") "__get__" = some (some (.builtin "getset_descriptor.__get__"))
  ht : PySem.W.takesIn K (.builtin "object.__class__") = some true
  hm : PySem.W.mroIn K C (.type "object") = some true
  ty : PySem.W.typeIn K (.ref C) = some (.type "type")
/-- what is known of the classes es, all of them right under PlanError -/
structure ErAll (K : Ck) (es : List Str) : Prop where
  one : ∀ nm ∈ es, ∀ C, K.mg nm = some (.ref C) → ErCls K.K C
  two : ∀ nm ∈ es, ∀ n2 ∈ es, ∀ C C2, K.mg nm = some (.ref C) → K.mg n2 = some (.ref C2) → PySem.W.kitOne K.K (.ref C) (.ref C2) = some (decide (nm = n2))
  val : ∀ nm ∈ es, ∀ C, K.mg nm = some (.ref C) → PySem.W.kitOne K.K (.ref C) (.type "ValueError") = some true
  cat : ∀ nm ∈ es, ∀ C, K.mg nm = some (.ref C) → ∀ D, K.mg "PlanError" = some (.ref D) → PySem.W.exmOne K.K (.ref C) (.ref D) = some true
  non : ∀ nm ∈ es, ∀ C, K.mg nm = some (.ref C) → PySem.W.kitOne K.K (.type "NoneType") (.ref C) = some false
/-- the exception's name -/
def erN (es : List Str) (x : PyData) : Option Str := match asObj x with
  | some (n, _) => if n ∈ es then some n else none
  | none => none
/-- an exception that was kept, as data -/
def asErr : PyData → Option (Str × List (PyData × PyData))
  | .dict ((.list [.none], .str nm) :: ks) => some (nm, ks)
  | _ => none
@[simp] theorem asErr_err (nm : Str) (fs : List (Str × PyData)) : asErr (errD nm fs) = some (nm, flds fs) := rfl
/-- what is raised, as it is kept -/
def errOf : PyData → PyData
  | .dict ((.list [], k) :: ks) => .dict ((.list [.none], k) :: ks)
  | x => x
@[simp] theorem errOf_obj (nm : Str) (fs : List (Str × PyData)) : errOf (objD nm fs) = errD nm fs := rfl
def erM (es : List Str) (x : PyData) : Option Str := match asErr x with
  | some (n, _) => if n ∈ es then some n else none
  | none => none
theorem rp_err {K : Ck} {F : Hp} {v : V} {x : PyData} {nm : Str} {ks : List (PyData × PyData)} (r : Rp K F v x) (h : asErr x = some (nm, ks)) :
    ∃ a C d fs ds, v = .ref a ∧ F a = some (ErC (.ref C) d a) ∧ K.mg nm = some (.ref C) ∧ ErD F d fs ∧ RpF K F fs ds ∧ ks = flds ds ∧ x = errD nm ds := by
  cases r with
  | @exc a C d nm' fs ds hF m i r =>
    rw [asErr_err] at h
    cases h
    exact ⟨a, C, d, fs, ds, rfl, hF, m, i, r, rfl, rfl⟩
  | dK hF r =>
    cases r with
    | nil => cases h
    | @cons k _ _ _ _ _ _ => cases k <;> cases h
  | dT hF r n =>
    cases r with
    | nil => cases h
    | cons _ _ => cases h
  | _ => cases h
theorem rp_erM {K : Ck} {F : Hp} {v : V} {x : PyData} {es : List Str} {n : Str} (r : Rp K F v x) (e : erM es x = some n) : n ∈ es ∧ ∃ a C d fs ds, v = .ref a ∧ F a = some (ErC (.ref C) d a) ∧ K.mg n = some (.ref C) ∧ ErD F d fs ∧ RpF K F fs ds ∧ x = errD n ds := by
  unfold erM at e
  split at e
  · rename_i m ks ex
    split at e
    · cases e
      obtain ⟨a, C, d, fs, ds, h1, h2, h3, h4, h5, _, h6⟩ := rp_err r ex
      exact ⟨‹_›, a, C, d, fs, ds, h1, h2, h3, h4, h5, h6⟩
    · cases e
  · cases e
/-- isinstance(e, c), e an exception that was kept -/
def rIsEr (K : PySem.W.Frag) : List V → Hp → VK → Prop := fun xs H Q => ∃ (a C : Addr) (d : Option Addr) (c : V) (cv : Value) (b : Bool), xs = [.ref a, c] ∧ (∀ u, RelV c u → u = cv) ∧ H a = some (ErC (.ref C) d a) ∧ (∀ dx, d = some dx → ∃ fs, H dx = some (.xd fs)) ∧ ErCls K C ∧ PySem.W.kitOne K (.ref C) cv = some b ∧ Q (.bl b) H
theorem erInst {X : Cx} {pins : List (Addr × Obj)} {σ : L2.St} {H : Hp} {s : Shared} {a C : Addr} {d : Option Addr} (I : Inv X pins σ H s) (ha : H a = some (ErC (.ref C) d a)) (hd : ∀ dx, d = some dx → ∃ fs, H dx = some (.xd fs)) : ∃ (oe : Obj) (od : Option Obj), PySem.W.InstAt s.heap a oe C od ∧ (d = none → od = none) ∧
    ∀ dx, d = some dx → ∃ o, od = some o ∧ s.heap.get? dx = some o := by
  obtain ⟨⟨oe, vs, h1, h2, h3⟩, _, _⟩ := I.hok a _ ha
  have nc : PySem.W.notCls oe = true := by unfold PySem.W.notCls; rw [h3] <;> rfl
  cases d with
  | none => exact ⟨oe, none, ⟨h1, h2.1, nc, by rw [h2.2]; trivial⟩, fun _ => rfl, fun dx z => by cases z⟩
  | some dx =>
    obtain ⟨fs, hx⟩ := hd dx rfl
    have ob : ObjOk X.prog X.w H s.heap dx (.xd fs) := I.hok dx _ hx
    obtain ⟨mA, hns, hr⟩ := ob
    obtain ⟨od, ho, hl⟩ := lookIn_ns hns
    exact ⟨oe, some od, ⟨h1, h2.1, nc, by rw [h2.2]; exact ho⟩, (fun z => by cases z), fun dy z => by cases z; exact ⟨od, rfl, ho⟩⟩
theorem call_isEr {X : Cx} : CallR X (.builtin "isinstance") (rIsEr X.K) := by
  intro pins s σ H xs us Q I r h
  obtain ⟨a, C, d, c, cv, b, rfl, hcv, ha, hd, E, e, q⟩ := h
  obtain ⟨u1, u2, rfl, r1, r2⟩ := vals2 r
  cases (show u1 = Value.ref a from r1)
  have ec := hcv _ r2
  subst ec
  obtain ⟨oe, od, J, _⟩ := erInst I ha hd
  exact PySem.W.kia_one (PySem.W.kitx_exc E.cl E.hg E.hk E.hs E.ha E.hn E.ht E.hm) I.kIn J e (fun z => nomatch z) fun tk => ⟨.bl b, H, I.kept (t' := tk) fun _ _ z => z, rfl, q⟩
/-- an exception that was kept, or data -/
def rIsEN (K : PySem.W.Frag) : List V → Hp → VK → Prop := fun xs H Q => rIsEr K xs H Q ∨ rIsi K xs H Q
theorem call_isEN {X : Cx} : CallR X (.builtin "isinstance") (rIsEN X.K) := by
  intro pins s σ H xs us Q I r h
  rcases h with h | h
  · exact call_isEr pins s σ H xs us Q I r h
  · exact call_isi pins s σ H xs us Q I r h
/-- e.f -/
def tErF (K : PySem.W.Frag) (f : Str) (te : TE) : TE := fun σ H Q => te σ H fun x H1 => ∃ (a C dx : Addr) (fs : List (Str × V)) (v : V), x = .ref a ∧ H1 a = some (ErC (.ref C) (some dx) a) ∧ H1 dx = some (.xd fs) ∧ XfC K C ∧ PySem.W.findIn K (.ref C) f = some none ∧ fs.lookup f = some v ∧ Q v H1
theorem pe_erF {X : Cx} {e : Expr} {te : TE} {pos : Pos} {n : Str} (he : PE X e te) (hb : attributeBase e n X.env (eval e X.env) = eval e X.env := by rfl) : PE X (.Attribute e n pos) (tErF X.K n te) := by
  refine ⟨fun pins s σ H Q I h => attr_of hb (thn (he.run pins s σ H _ I h) fun u s1 hh => ?_)⟩
  obtain ⟨x, H1, I1, rx, a, C, dx, fs, v, rfl, ha, hx, T, hno, l, q⟩ := hh
  obtain rfl : u = Value.ref a := rx
  obtain ⟨⟨oe, vs, h1, h2, h3⟩, _, _⟩ := I1.hok a _ ha
  have ob : ObjOk X.prog X.w H1 s1.heap dx (.xd fs) := I1.hok dx _ hx
  obtain ⟨mA, hns, hr⟩ := ob
  obtain ⟨od, ho, hl⟩ := lookIn_ns hns
  obtain ⟨u, hu, ru⟩ := RelO.some_of (v := v) (o := mA n) (by rw [← l]; exact hr n)
  have J : PySem.W.InstAt s1.heap a oe C (some od) := ⟨h1, h2.1, by unfold PySem.W.notCls; rw [h3] <;> rfl, by rw [h2.2]; exact ho⟩
  exact HandSPX.exc_get I1.kIn J T.ga T.gg T.exC (PySem.W.findObj_own T.hdC hno rfl (by rw [hl, hu])) (handed_of ru) ⟨v, H1, I1.tok _, ru, q⟩
/-- isinstance of an exception or None: a class; ValueError -/
def fIsEr (es : List Str) (nm : Str) (fe : EF) : EF := fun ρ g => (fDat fe ρ g).bind fun x g1 => match x with
  | .none => .ok (.d (.bool false)) g1
  | x => (match erM es x with
    | some n => .ok (.d (.bool (decide (n = nm)))) g1
    | none => .bad)
/-- e.f -/
def fErF (es : List Str) (f : Str) (fe : EF) : EF := fun ρ g => (fDat fe ρ g).bind fun x g1 => match asErr x with
  | some (n, ks) => if n ∈ es then R.ofO ((lookF f ks).map .d) g1 else .bad
  | none => .bad
/-- the classes' exceptions have the field -/
def ErFld (K : Ck) (es : List Str) (f : Str) : Prop := ∀ nm ∈ es, ∀ C, K.mg nm = some (.ref C) → XfC K.K C ∧ PySem.W.findIn K.K (.ref C) f = some none
section
variable {K : Ck} {W : WX}
theorem erd_sub {F H : Hp} {d : Option Addr} {fs : List (Str × V)} (s : Sub F H) (h : ErD F d fs) : ∀ dx, d = some dx → ∃ fs, H dx = some (.xd fs) := fun dx z => by
  rcases h with ⟨hd, _⟩ | ⟨dy, hd, hx⟩
  · rw [hd] at z; cases z
  · rw [hd] at z; cases z; exact ⟨_, s _ _ hx⟩
theorem sm_isEr {es : List Str} {nm : Str} {C : Addr} {te : TE} {fe : EF} (A : ErAll K es) (hi : nm ∈ es) (hm : K.mg nm = some (.ref C)) (h : Sm K W te fe) : Sm K W (tCB (rIsEN K.K) (tCons te (tCons (tC (.ref C)) tNil))) (fIsEr es nm fe) := by
  intro S B F0 F H ρ σ g Pd Xd Q E hf k kx
  refine h.dat E (R.wp_bind.mp hf) kx fun x g1 v F1 H1 q e E1 r => ?_
  split at q
  · cases r
    exact .inr ⟨_, _, _, _, _, rfl, ClsV.own C, .base .non, A.non _ hi _ hm, k _ g1 _ F1 H1 q e E1.j (Rp.bl _)⟩
  · split at q
    · rename_i n en
      obtain ⟨hn, a, D, d, fs, ds, rfl, hF, mD, hd, _, _⟩ := rp_erM r en
      exact .inl ⟨a, D, d, _, .ref C, _, rfl, (fun u r => r), E1.sub _ _ hF, erd_sub E1.sub hd, A.one _ hn _ mD, A.two _ hn _ hi _ _ mD hm, k _ g1 _ F1 H1 q e E1.j (Rp.bl _)⟩
    · exact q.elim
theorem sm_erF {es : List Str} {f : Str} {te : TE} {fe : EF} (A : ErFld K es f) (h : Sm K W te fe) : Sm K W (tErF K.K f te) (fErF es f fe) := by
  intro S B F0 F H ρ σ g Pd Xd Q E hf k kx
  refine h.dat E (R.wp_bind.mp hf) kx fun x g1 v F1 H1 q e E1 r => ?_
  split at q
  · rename_i n ks ex
    split at q
    · rename_i hn
      obtain ⟨a, C, d, fs, ds, rfl, hF, mC, hd, rf, rfl, rfl⟩ := rp_err r ex
      obtain ⟨rv, o1, q⟩ := R.wp_ofO q
      cases el : lookF f (flds ds) with
      | none => rw [el] at o1; cases o1
      | some y =>
        rw [el] at o1
        cases o1
        obtain ⟨w, l, rw'⟩ := rf.look el
        obtain ⟨T, hno⟩ := A _ hn _ mC
        rcases hd with ⟨_, hfs⟩ | ⟨dx, rfl, hx⟩
        · rw [hfs] at l; cases l
        · exact ⟨a, C, dx, fs, w, rfl, E1.sub _ _ hF, E1.sub _ _ hx, T, hno, l, k _ g1 _ F1 H1 q e E1.j rw'⟩
    · exact q.elim
  · exact q.elim
end
end Fx

namespace Fx
open PySem L2 PySem.Spec PyProof.Rows LamX

theorem exc_land {K : Ck} {S : Sta} {F H F' H' : Hp} {g' : Gs} {cls : Value} {d : Option Addr} {x : PyData} (e : Ext S F H F' H') (j : S.J g' H') (er : ExcRep K S H F' H' cls d x) :
    ∃ C nm, cls = .ref C ∧ K.mg nm = some (.ref C) ∧ (asObj x).map (·.1) = some nm ∧ ∀ a, H' a = none → ∃ F2, Ext S F H F2 (upd H' a (ErC cls d a)) ∧ S.J g' (upd H' a (ErC cls d a)) ∧ Rp K F2 (.ref a) (errOf x) := by
  cases er with
  | @plain C nm m =>
    refine ⟨C, nm, rfl, m, rfl, fun a ha => ?_⟩
    have n := Ext.new (S := S) (o := ErC (.ref C) none a) e.sub ha
    exact ⟨_, e.trans n j, J.new j ha, Rp.exc (ds := []) upd_same m (.inl ⟨rfl, rfl⟩) .nil⟩
  | @att C dx nm n v y m h0 hM hF hH r =>
    refine ⟨C, nm, rfl, m, rfl, fun a ha => ?_⟩
    have le : Le F' (upd F' dx (.xd [(n, v)])) := fun b o q => by rw [upd_ne fun z => by rw [z, hF] at q; cases q]; exact q
    have e1 : Ext S F H (upd F' dx (.xd [(n, v)])) H' := ⟨e.keep, fun b q => (upd_ne fun z => q (by rw [z]; exact h0)).trans (e.grow b q), e.le.trans le, fun b o q => by
      by_cases z : b = dx
      · subst z; rw [upd_same] at q; cases q; exact hH
      · rw [upd_ne z] at q; exact e.sub b o q, fun t => (e.tb t).to le fun _ _ _ z => z⟩
    have n1 := Ext.new (S := S) (o := ErC (.ref C) (some dx) a) e1.sub ha
    have e2 := e1.trans n1 j
    exact ⟨_, e2, J.new j ha, Rp.exc (ds := [(n, y)]) upd_same m (.inr ⟨dx, rfl, n1.le _ _ upd_same⟩) (.cons (Rp.mono (le.trans n1.le) r) .nil)⟩
theorem EnvOk.setU {K : Ck} {S : Sta} {B F0 F H : Hp} {ρ : List SD} {σ : L2.St} {g : Gs} {i : Nat} {w : Option V} (E : EnvOk K S B F0 F H ρ σ g) (h : ρ[i]? = some .u) : EnvOk K S B F0 F H ρ (σ.set i w) g where
  st := E.st
  tb := E.tb
  sub := E.sub
  mono := E.mono
  fz := E.fz
  keep := E.keep
  mF := E.mF
  j := E.j
  len := by simp [E.len]
  sl := fun k t hk => by
    by_cases z : k = i
    · subst z
      rw [h] at hk
      cases hk
      exact ⟨w, List.getElem?_set_self (by rw [E.len]; exact (List.getElem?_eq_some_iff.mp h).1), trivial⟩
    · obtain ⟨v, h1, h2⟩ := E.sl k t hk
      exact ⟨v, by rw [List.getElem?_set_ne (Ne.symm z)]; exact h1, h2⟩
  dist := fun k l s1 s2 h1 h2 o1 o2 q => by
    have nk : k ≠ i := fun z => by rw [z, h] at h1; cases h1; cases o1
    have nl : l ≠ i := fun z => by rw [z, h] at h2; cases h2; cases o2
    rw [List.getElem?_set_ne (Ne.symm nk), List.getElem?_set_ne (Ne.symm nl)] at q
    exact E.dist k l s1 s2 h1 h2 o1 o2 q
/-- the rest of a def, from slots that are known -/
theorem rest_ok {K : Ck} {q : SQ} {H F : Hp} {F1 H1 : Hp} {ρ : List SD} {σ : L2.St} {g : Gs} {t : TS} {b : EFs} {Q : VK} {E : XK} (hb : SmS K (WB E) t b) (E1 : EnvOk K (staOf q) H F F1 H1 ρ σ g)
    (h : ((b ρ g).nox.bind endR).wp (fun r g' => ∀ v' F' H', RetOk K (staOf q) H F F' H' v' r g' → Q v' H') NoX) : t { nx := fun _ H' => Q .non H', rt := Q } σ H1 := by
  refine hb (staOf q) H F F1 H1 ρ σ g _ E1 (R.wp_imp (R.wp_nox.mp (R.wp_bind.mp h)) (fun o g' h => ?_) fun _ _ z => z)
  cases o with
  | nx ρ => exact fun σ F' H' E' => h _ _ _ (E'.ret Rp.non)
  | rt r => exact h
  | bk ρ => exact h.elim
  | ct ρ => exact h.elim
  | ex x ρ => exact h.elim
def rhoM (n im : Nat) (v : V) : List SD := (slots n [.o v]).set im (.d .none)
def fMark (n im : Nat) (es : List Str) (b : EFs) : WkF := fun v wk g => match wk g with
  | .ok _ g1 => (b (rhoM n im v) g1).nox.bind endR
  | .exc x g1 => if (erN es x).isSome = true then (b ((rhoM n im v).set im (.d (errOf x))) g1).nox.bind endR else .bad
  | .bad => .bad
/-- the reading of the call, the exception kept in slot im by way of slot i -/
def tTryM (K : PySem.W.Frag) (CP : Addr) (im i : Nat) (f c' : Addr) (q : Str) (tl : XK → Hp → VK → Prop) : TS := fun D σ H =>
  tDrop (fun σZ HZ Q => σZ[0]? = some (some (.ref f)) ∧ HZ c' = some (CodeO c' q) ∧ tl (fun cls d H' => wKept K (.ref CP) i (fun _ _ _ => tAsg (tVar i) (gName im)) D cls d σZ H') HZ Q) D σ H
theorem mark_ok {K : Ck} {n : Nat} {Ng : List Str} {im i : Nat} {CP : Addr} {es : List Str} {b : EFs} {t : TS} {f c' : Addr} {q : Str} {tl : XK → Hp → VK → Prop} {H : Hp} {Q : VK} {E : XK} (hb : SmS K (WB E) t b) (hl : Ng.length = n) (A : ErAll K es) (mP : K.mg "PlanError" = some (.ref CP))
    (h0 : 0 < im) (hi : im < i) (hn : i < n) (hc : H c' = some (CodeO c' q)) (h : TTw K (fMark n im es b) tl H Q) :
    tSeq (tAsg (tC .non) (gName im)) (tSeq (tTryM K.K CP im i f c' q tl) t) { nx := fun _ H' => Q .non H', rt := Q } (L2.start Ng [.ref f]) H := by
  obtain ⟨qq, F, g, wk, sub, mF, j, tb, hq, ok, all⟩ := h
  have hv := all (.ref f)
  subst hl
  have E0 : EnvOk K (staOf qq) H F F H (slots Ng.length [.o (.ref f)]) (L2.start Ng [.ref f]) g := slots_env sub mF j tb hq ⟨rfl, trivial⟩ fun _ _ h => h
  have ls : (slots Ng.length [.o (.ref f)]).length = Ng.length := by unfold slots; simp; omega
  have E1 : EnvOk K (staOf qq) H F F H (rhoM Ng.length im (.ref f)) ((L2.start Ng [.ref f]).set im (some .non)) g := E0.set (s := .d .none) ⟨_, rfl, Rp.non⟩ fun z => by cases z
  have lr : (rhoM Ng.length im (.ref f)).length = Ng.length := by unfold rhoM; rw [List.length_set]; exact ls
  have hu : (rhoM Ng.length im (.ref f))[i]? = some .u := by
    unfold rhoM slots
    rw [List.getElem?_set_ne (by omega), List.getElem?_append_right (by simp; omega), List.getElem?_replicate]
    simp only [List.map_cons, List.map_nil, List.length_cons, List.length_nil]
    rw [if_pos (by omega)]
  have hs0 : ((L2.start Ng [.ref f]).set im (some .non))[0]? = some (some (.ref f)) := by
    rw [List.getElem?_set_ne (by omega)]
    rfl
  unfold fMark at hv
  refine ⟨hs0, hc, ok g F H _ (fun r g1 => ((b (rhoM Ng.length im (.ref f)) g1).nox.bind endR).wp (fun r g' => ∀ v' F' H', RetOk K (staOf qq) H F F' H' v' r g' → Q v' H') NoX)
    (fun x g1 => (erN es x).isSome = true ∧ ((b ((rhoM Ng.length im (.ref f)).set im (.d (errOf x))) g1).nox.bind endR).wp (fun r g' => ∀ v' F' H', RetOk K (staOf qq) H F F' H' v' r g' → Q v' H') NoX) _ (Ext.refl sub) j ?_ ?_ ?_⟩
  · cases e : wk g with
    | ok r g1 => rw [e] at hv; exact hv
    | exc x g1 =>
      rw [e] at hv
      dsimp only at hv
      split at hv
      · exact ⟨‹_›, hv⟩
      · exact hv.elim
    | bad => rw [e] at hv; exact hv.elim
  · intro r g2 v F2 H2 hp e j2 _
    exact rest_ok hb (E1.ext e j2) hp
  · intro x g2 cls d F2 H2 ⟨he, hp⟩ e j2 er
    obtain ⟨C, nm, rfl, mC, en, land⟩ := exc_land e j2 er
    have hin : nm ∈ es := by
      unfold erN at he
      cases z : asObj x with
      | none => rw [z] at en; cases en
      | some p =>
        obtain ⟨m, ks⟩ := p
        rw [z] at en he
        cases en
        dsimp only at he
        split at he
        · assumption
        · cases he
    refine ⟨A.cat nm hin C mC CP mP, fun a ha => ?_⟩
    obtain ⟨F3, e3, j3, r3⟩ := land a ha
    have E3 := E1.ext e3 j3
    have hi' : i < ((L2.start Ng [.ref f]).set im (some .non)).length := by rw [E1.len, lr]; exact hn
    refine ⟨.ref a, List.getElem?_set_self hi', ?_⟩
    have E4 : EnvOk K (staOf qq) H F F3 _ ((rhoM Ng.length im (.ref f)).set im (.d (errOf x))) _ g2 := ((E3.setU (w := some (.ref a)) hu).set (i := im) (s := .d (errOf x)) (v := .ref a) ⟨_, rfl, r3⟩ fun z => by cases z).setU (i := i) (w := none) (by rw [List.getElem?_set_ne (by omega)]; exact hu)
    exact rest_ok hb E4 hp
/-- the def keeps what it was promised -/
theorem gives_mark {X : Cx} {Ng : List Str} {x a m n : Str} {sg : Scope} {g CP : Addr} {bg : List Stmt} {q : Str} {im i nn : Nat} {es : List Str} {b : EFs} {st : List Stmt} {p1 p2 p3 p4 p5 p6 p7 p8 p9 p10 p11 p12 : Pos} {j : Nat}
    (A : ErAll ⟨X.K, X.mg⟩ es) (mP : X.mg "PlanError" = some (.ref CP)) (hl : Ng.length = nn) (h0 : 0 < im) (hi : im < i) (hn : i < nn) (hN : Ng.Nodup) (hm : Ng[im]? = some m) (hnn : Ng[i]? = some n) (hlm : sg.names.lookup m = some .local) (hln : sg.names.lookup n = some .local) (hk : sg.kind = .function)
    (hge : sg.names.lookup ("PlanError" : Str) = some .globalImplicit) {k : Nat} (hgd : X.A.guards = some []) (hr : Room (k + 1) X.A)
    (hbg : bg = .Assign [.Name m p1] (.Constant .none j p2) p3 :: .Try [.Expr (.Call (.Name a p4) [] [] p5) p6] [.ExceptHandler (some (.Name "PlanError" p7)) (some n) [.Assign [.Name m p8] (.Name n p9) p10] p11] [] [] p12 :: st)
    (hrest : ∀ (cdv : Value) (A : Around) (fr : List Env) (s : Shared) (H : Hp), A.guards = some [] → Room k (A.deeper (envOfC x sg s.heap.objs.size g cdv)) → ∃ t, PSs (cxOf C8.CX0 X.prog X.w X.K X.mg X.base Ng x sg g cdv A fr s H C8.E0).nox st t ∧ SmS ⟨X.K, X.mg⟩ (WB C8.E0) t b) (hd : (n == ("__debug__" : Str)) = false := by decide) (hcd : (n == ("__classdict__" : Str)) = false := by decide) (cdv : Value) :
    GivesW X Ng x sg g cdv bg a q (TTw ⟨X.K, X.mg⟩ (fMark nn im es b)) := by
  intro f c' s H Q tl act hc h
  subst hbg
  obtain ⟨t, ht, hb⟩ := hrest cdv X.A X.stack s H hgd (hr.deeper _)
  refine ⟨_, pss_cons (ps_asg pe_non (pg_name hN hm (.inl hlm) (.inr hlm))) (pss_cons (ps_try_kept (x := "PlanError") (c := .ref CP) (i := i) (tb := fun W => tDrop (fun σZ HZ Q => σZ[0]? = some (some (.ref f)) ∧ HZ c' = some (CodeO c' q) ∧ tl (fun cls d H' => W cls d σZ H') HZ Q)) (ts := fun _ _ _ => tAsg (tVar i) (gName im))
    rfl rfl rfl hN hnn hln ⟨hge, by decide, .inl mP⟩ (fun W pn xe tk _ => pss_one (ps_expr (act W pn xe p4 p5 tk))) fun a oe cls d pn _ _ => pss_one (ps_asg (pe_var hnn (.inl hln) hd hcd) (pg_name hN hm (.inl hlm) (.inr hlm)))) ht), ?_⟩
  exact mark_ok hb hl A mP h0 hi hn hc h
end Fx

namespace Fx
open PySem L2 PySem.Spec PyProof.Rows

section
variable {X : Cx}
end
theorem lam_takes {X : Cx} {A : Around} {outer : List Env} {s : Shared} {H : Hp} {E : XK} {scope : Scope} {f c' : Addr} : Takes (LamX.lamCx X A outer s H E scope f c') (WB E) := takes_of rfl rfl rfl rfl
end Fx

namespace Fx
open PySem L2 PySem.Spec PyProof.Rows
section
variable {K : Ck} {W : WX}
end
end Fx

namespace Fx
open PySem L2 PySem.Spec PyProof.Rows

/-- an exception, or none: its class's name, its fields -/
abbrev ErT := Option (Str × List (Str × PyData))
/-- at this state it raises this, or gives something; the state stays -/
def RzA (wk : Gs → R RV) (g : Gs) (o : ErT) : Prop := match o with
  | none => ∃ r, wk g = .ok r g
  | some p => wk g = .exc (objD p.1 p.2) g
def Rz (wk : Gs → R RV) (o : ErT) : Prop := ∀ g, RzA wk g o
theorem flds_inj : ∀ {a b : List (Str × PyData)}, flds a = flds b → a = b
  | [], [], _ => rfl
  | (n, d) :: r, (m, e) :: t, h => by
    have h : (PyData.str n, d) :: flds r = (PyData.str m, e) :: flds t := h
    injection h with h1 h2
    injection h1 with h1 h3
    injection h1 with h1
    rw [h1, h3, flds_inj h2]
  | [], _ :: _, h => by cases h
  | _ :: _, [], h => by cases h
theorem objD_inj {n m : Str} {a b : List (Str × PyData)} (h : objD n a = objD m b) : n = m ∧ a = b := by
  unfold objD at h
  injection h with h
  injection h with h1 h2
  injection h1 with _ h1
  injection h1 with h1
  exact ⟨h1, flds_inj h2⟩
theorem RzA.uniq {wk : Gs → R RV} {g : Gs} {o p : ErT} (h : RzA wk g o) (k : RzA wk g p) : o = p := by
  cases o with
  | none =>
    obtain ⟨r, e⟩ := h
    cases p with
    | none => rfl
    | some y => have k : wk g = .exc (objD y.1 y.2) g := k; rw [e] at k; cases k
  | some x =>
    have h : wk g = .exc (objD x.1 x.2) g := h
    cases p with
    | none => obtain ⟨r, e⟩ := k; rw [e] at h; cases h
    | some y =>
      have k : wk g = .exc (objD y.1 y.2) g := k
      rw [h] at k
      injection k with k _
      obtain ⟨k1, k2⟩ := objD_inj k
      exact congrArg some (Prod.ext k1 k2)
def gs0 : Gs := ⟨none, [], [], 0, 0, false⟩
noncomputable section
open Classical
/-- what is raised -/
def erO (wk : Gs → R RV) : ErT := if h : ∃ o, Rz wk o then h.choose else none
end
theorem erO_eq {wk : Gs → R RV} {o : ErT} (h : Rz wk o) : erO wk = o := by
  unfold erO
  have ex : ∃ o, Rz wk o := ⟨o, h⟩
  rw [dif_pos ex]
  exact (ex.choose_spec gs0).uniq (h gs0)
/-- of a known class -/
def knE (es : List Str) (o : ErT) : Prop := ∀ p, o = some p → p.1 ∈ es
def ZOk (es : List Str) (wk : Gs → R RV) : Prop := Rz wk (erO wk) ∧ knE es (erO wk)
theorem zok {es : List Str} {wk : Gs → R RV} {o : ErT} (h : Rz wk o) (k : knE es o) : ZOk es wk := by
  unfold ZOk
  rw [erO_eq h]
  exact ⟨h, k⟩
theorem knE_some {es : List Str} {nm : Str} {fs : List (Str × PyData)} (h : nm ∈ es) : knE es (some (nm, fs)) := fun x e => by cases e; exact h
theorem erN_obj {es : List Str} {nm : Str} {fs : List (Str × PyData)} (h : nm ∈ es) : erN es (objD nm fs) = some nm := by
  unfold erN
  rw [asObj_obj]
  exact if_pos h
theorem erM_err {es : List Str} {nm : Str} {fs : List (Str × PyData)} (h : nm ∈ es) : erM es (errD nm fs) = some nm := by
  unfold erM
  rw [asErr_err]
  exact if_pos h
/-- as data -/
def eE : ErT → PyData
  | none => .none
  | some p => errD p.1 p.2
/-- what the def that is handed the work makes of what comes out -/
def MkOk (es : List Str) (Fm : WkF) (w : ErT → RV) : Prop := ∀ (v : V) (wk : Gs → R RV) (g : Gs) (o : ErT), RzA wk g o → knE es o → Fm v wk g = .ok (w o) g
section
variable {ρ : List SD} {g : Gs} {fe : EF}
theorem v_lamE {es : List Str} {Fm : WkF} {w : ErT → RV} {o : ErT} (mk : MkOk es Fm w) (h : RzA (fe ρ) g o) (k : knE es o) (ht : g.tt = true) : fLam Fm fe ρ g = .ok (w o) g := by
  unfold fLam
  rw [if_pos ⟨ht, fun v => (mk v _ _ _ h k).trans (mk .non _ _ _ h k).symm⟩, mk _ _ _ _ h k]
  rfl
theorem rz_call {es : List Str} {F : FnSp} {fa : EFa} {as : List AV} (ha : fa ρ g = .ok as g) (hz : ZOk es (F as)) : RzA (fCall F fa ρ) g (erO (F as)) := by
  have e : fCall F fa ρ g = F as g := by unfold fCall; rw [ha]; rfl
  have := hz.1 g
  cases q : erO (F as) with
  | none => rw [q] at this; obtain ⟨r, h⟩ := this; exact ⟨r, e.trans h⟩
  | some x => rw [q] at this; exact e.trans this
theorem v_lamC {es : List Str} {Fm : WkF} {w : ErT → RV} {F : FnSp} {fa : EFa} {as : List AV} (mk : MkOk es Fm w) (ha : fa ρ g = .ok as g) (hz : ZOk es (F as)) (ht : g.tt = true) : fLam Fm (fCall F fa) ρ g = .ok (w (erO (F as))) g := v_lamE mk (rz_call ha hz) hz.2 ht
/-- keeps it, returns it -/
theorem mk_retE {n im : Nat} {es : List Str} (h : ∀ (v : V) (x : PyData), ((rhoM n im v).set im (.d x))[im]? = some (.d x)) (h0 : ∀ v : V, (rhoM n im v)[im]? = some (.d .none)) : MkOk es (fMark n im es (fRetV im)) fun o => .d (eE o) := by
  intro v wk g o ho k
  cases o with
  | none =>
    obtain ⟨r, e⟩ := ho
    unfold fMark
    rw [e]
    show ((fRetV im (rhoM n im v) g).nox.bind endR) = _
    unfold fRetV
    rw [h0]
    rfl
  | some p =>
    have e : wk g = .exc (objD p.1 p.2) g := ho
    have hn := k p rfl
    unfold fMark
    rw [e]
    dsimp only
    rw [erN_obj hn, if_pos (show (some p.1).isSome = true from rfl)]
    unfold fRetV
    rw [h]
    rfl
/-- isinstance of what was kept -/
def isEr (nm : Str) (o : ErT) : Bool := match o with
  | none => false
  | some p => decide (p.1 = nm)
@[simp] theorem isEr_none {nm : Str} : isEr nm none = false := rfl
@[simp] theorem isEr_some {nm : Str} {p : Str × List (Str × PyData)} : isEr nm (some p) = decide (p.1 = nm) := rfl
theorem v_isEr {es : List Str} {nm : Str} {o : ErT} (ha : fDat fe ρ g = .ok (eE o) g) (k : knE es o) : fIsEr es nm fe ρ g = .ok (.d (.bool (isEr nm o))) g := by
  unfold fIsEr
  rw [ha]
  cases o with
  | none => rfl
  | some p =>
    show (match erM es (errD p.1 p.2) with | some n => R.ok (RV.d (.bool (decide (n = nm)))) g | none => .bad) = _
    rw [erM_err (k p rfl), isEr_some]
/-- e.f -/
def erA (f : Str) (o : ErT) : Option PyData := match o with
  | none => none
  | some p => lookF f (flds p.2)
theorem v_erF {es : List Str} {f : Str} {o : ErT} (ha : fDat fe ρ g = .ok (eE o) g) (k : knE es o ∧ (erA f o).isSome = true) : fErF es f fe ρ g = .ok (.d ((erA f o).getD .none)) g := by
  obtain ⟨kn, k⟩ := k
  unfold fErF
  rw [ha]
  cases o with
  | none => cases k
  | some p =>
    show (if p.1 ∈ es then R.ofO ((lookF f (flds p.2)).map RV.d) g else .bad) = _
    rw [if_pos (kn p rfl)]
    show _ = R.ok (RV.d ((lookF f (flds p.2)).getD .none)) g
    have k : (lookF f (flds p.2)).isSome = true := k
    cases q : lookF f (flds p.2) with
    | none => rw [q] at k; cases k
    | some y => rfl
end
def tupOf : PyData → List PyData
  | .tuple xs => xs
  | _ => []
def strOf : PyData → Str
  | .str s => s
  | _ => Str.empty
def intOf : PyData → Int
  | .int i => i
  | _ => 0
theorem isD_dict (T : String) (hT : T ≠ "dict" := by decide) (hO : T ≠ "object" := by decide) (ks : List (PyData × PyData)) : isD T (.dict ks) = false := by
  unfold isD
  rcases tyD_dict ks with e | e <;> rw [e] <;> simp <;> exact fun h => by first | exact hO h.symm | exact hT h.symm
theorem cA_tup {x : PyData} (h : isD "tuple" x = true) : eA x = eT eA (tupOf x) := by
  cases x with
  | tuple xs => show PyData.tuple xs = .tuple (xs.map eA); rw [show eA = fun x => x from rfl, List.map_id']
  | dict ks => rw [isD_dict "tuple"] at h; cases h
  | _ => cases h
theorem cA_str {x : PyData} (h : isD "str" x = true) : eA x = PyData.str (strOf x) := by
  cases x with
  | str s => rfl
  | dict ks => rw [isD_dict "str"] at h; cases h
  | _ => cases h
theorem cA_allT {α : Type} {x : PyData} {xs : List PyData} {p : PyData → Bool} {e : α → PyData} {dec : PyData → α} (hx : eA x = eT eA xs) (h : (xs.map p).all id = true) (hp : ∀ {y}, p y = true → eA y = e (dec y)) : eA x = eT e (xs.map dec) := by
  rw [hx]
  unfold eT
  rw [List.map_map]
  congr 1
  refine List.map_congr_left fun y hy => hp ?_
  rw [List.all_map, List.all_eq_true] at h
  exact h y hy
mutual
def cln : PyData → Bool
  | .str s => decide (s.length ≤ sizeLine)
  | .list xs => clnA xs
  | .tuple xs => clnA xs
  | .dict ks => !isE (.dict ks)
  | _ => true
def clnA : List PyData → Bool
  | [] => true
  | x :: r => cln x && clnA r
end
theorem clnA_mem : ∀ {xs : List PyData}, clnA xs = true → ∀ x ∈ xs, cln x = true
  | [], _, x, h => by cases h
  | y :: r, h, x, hx => by
    rw [clnA, Bool.and_eq_true] at h
    rcases List.mem_cons.mp hx with rfl | hx
    · exact h.1
    · exact clnA_mem h.2 x hx
theorem clnA_of : ∀ {xs : List PyData}, (∀ x ∈ xs, cln x = true) → clnA xs = true
  | [], _ => rfl
  | y :: r, h => by
    rw [clnA, Bool.and_eq_true]
    exact ⟨h y (List.mem_cons_self ..), clnA_of fun x hx => h x (List.mem_cons_of_mem _ hx)⟩
theorem cln_isE {x : PyData} (h : cln x = true) : isE x = false := by
  cases x with
  | dict ks => rw [cln] at h; simpa using h
  | _ => rfl
theorem cln_tup {x : PyData} (h : cln x = true) : ∀ y ∈ tupOf x, cln y = true := by
  cases x with
  | tuple xs => exact clnA_mem (by rwa [cln] at h)
  | _ => exact fun y hy => by cases hy
theorem cln_str {x : PyData} (h : cln x = true) : (strOf x).length ≤ sizeLine := by
  cases x with
  | str s => rw [cln] at h; exact of_decide_eq_true h
  | _ => exact Nat.zero_le _
end Fx

namespace Fx
open PySem L2 PySem.Spec PyProof.Rows
def keyK : PyData → Option Key
  | .int i => some (.inl i)
  | .str s => some (.inr s)
  | _ => none
theorem keyK_eq {x : PyData} {k : Key} (h : keyK x = some k) : x = keyD k := by
  cases x with
  | int i => cases h; rfl
  | str s => cases h; rfl
  | _ => cases h
def keyKs : List (PyData × PyData) → Option (List (Key × PyData))
  | [] => some []
  | (x, y) :: r => match keyK x, keyKs r with
    | some k, some ks => some ((k, y) :: ks)
    | _, _ => none
def pairsF : List (EF × EF) → List SD → Gs → R (List (PyData × PyData))
  | [], _, g => .ok [] g
  | (fk, fv) :: r, ρ, g => (fDat fk ρ g).bind fun x g1 => (fDat fv ρ g1).bind fun y g2 => (pairsF r ρ g2).bind fun ds g3 => .ok ((x, y) :: ds) g3

def fDisp (fs : List (EF × EF)) : EF := fun ρ g => (pairsF fs ρ g).nox.bind fun ds g1 => match keyKs ds with
  | some qs => if qs.length ≤ 15 then .ok (.nd false (mergeD [] qs)) g1 else .bad
  | none => .bad
inductive SmPs (K : Ck) : List (TE × TE) → List (EF × EF) → Prop
  | nil : SmPs K [] []
  | cons {tk tv : TE} {fk fv : EF} {ts : List (TE × TE)} {fs : List (EF × EF)} : Sm K W0 tk fk → Sm K W0 tv fv → SmPs K ts fs → SmPs K ((tk, tv) :: ts) ((fk, fv) :: fs)
section
variable {K : Ck} {W : WX}
theorem smps_go {ts : List (TE × TE)} {fs : List (EF × EF)} (h : SmPs K ts fs) : ∀ {S : Sta} {B F0 F H : Hp} {ρ : List SD} {σ : L2.St} {g : Gs} {Pd : List (PyData × PyData) → Gs → Prop} {Q : List (V × V) → Hp → Prop}, EnvOk K S B F0 F H ρ σ g → (pairsF fs ρ g).wp Pd NoX →
    (∀ ds g' ps F' H', Pd ds g' → Ext S F H F' H' → S.J g' H' → Paired (fun (p : V × V) (d : PyData × PyData) => Rp K F' p.1 d.1 ∧ Rp K F' p.2 d.2) ps ds → Q ps H') → tPairs ts σ H Q := by
  induction h with
  | nil => intro S B F0 F H ρ σ g Pd Q E hf k; exact k [] g [] F H hf (Ext.refl E.sub) E.j .nil
  | cons hk hv _ ih =>
    intro S B F0 F H ρ σ g Pd Q E hf k
    refine hk.dat E (R.wp_bind.mp hf) (fun _ _ _ _ _ _ z _ _ _ => z.elim) fun x g1 vx F1 H1 q1 e1 E1 r1 => ?_
    refine hv.dat E1 (R.wp_bind.mp q1) (fun _ _ _ _ _ _ z _ _ _ => z.elim) fun y g2 vy F2 H2 q2 e2 E2 r2 => ?_
    refine ih E2 (R.wp_bind.mp q2) fun ds g3 ps F3 H3 q3 e3 j3 rs => ?_
    exact k _ g3 _ F3 H3 q3 ((e1.trans e2 E1.j).trans e3 E2.j) j3 (.cons ⟨(r1.mono e2.le).mono e3.le, r2.mono e3.le⟩ rs)
theorem pairs_keys {F : Hp} : ∀ {ps : List (V × V)} {ds : List (PyData × PyData)} {qs : List (Key × PyData)}, Paired (fun (p : V × V) (d : PyData × PyData) => Rp K F p.1 d.1 ∧ Rp K F p.2 d.2) ps ds → keyKs ds = some qs →
    ∃ kvs : List (Key × V), ps = kvs.map (fun kv => (kV kv.1, kv.2)) ∧ Paired (fun (p : Key × V) (q : Key × PyData) => p.1 = q.1 ∧ Rp K F p.2 q.2) kvs qs
  | _, _, _, .nil, e => by cases e; exact ⟨[], rfl, .nil⟩
  | _, _, qs, @Paired.cons _ _ _ p d ps ds r t, e => by
    obtain ⟨x, y⟩ := d
    obtain ⟨v, w⟩ := p
    unfold keyKs at e
    split at e
    · rename_i k ks hk hks
      cases e
      obtain ⟨kvs, e1, e2⟩ := pairs_keys t hks
      have r1 : Rp K F v x := r.1
      rw [keyK_eq hk] at r1
      have ev := rp_keyD r1
      exact ⟨(k, w) :: kvs, by rw [e1, ev]; rfl, .cons ⟨rfl, r.2⟩ e2⟩
    · cases e
theorem sm_disp {ts : List (TE × TE)} {fs : List (EF × EF)} (h : SmPs K ts fs) : Sm K W (tDisp ts) (fDisp fs) := by
  intro S B F0 F H ρ σ g Pd Xd Q E hf k kx
  have hf := R.wp_nox.mp (R.wp_bind.mp hf)
  intro D hD
  have nM : ¬ S.M D := fun m => E.okh.mt D m hD
  have n := Ext.own (S := S) (o := .dK []) E.sub hD
  have j0 : S.J g (upd H D (.dK [])) := Fx.J.new E.j hD
  have E0 := E.ext n j0
  refine smps_go h E0 hf fun ds g1 ps F1 H1 q e1 j1 rs => ?_
  have D1 : H1 D = some (.dK []) := e1.keep D _ upd_same nM
  have F1D : F1 D = none := (e1.grow D (by rw [upd_same]; exact fun z => by cases z)).trans (E.sub.free hD)
  split at q
  · rename_i qs hq
    split at q
    · rename_i hl
      obtain ⟨kvs, e2, rk⟩ := pairs_keys rs hq
      refine ⟨D1, kvs, e2, by rw [rk.length]; exact hl, ?_⟩
      refine k _ g1 _ F1 _ q (ext_upd (n.trans e1 j0) hD F1D nM) (j_upd j1 nM) ⟨D, .k (mergeK [] kvs), rfl, hD, nM, F1D, upd_same, rfl, ?_⟩
      exact rpk_merge rk RpK.nil
    · exact q.elim
  · exact q.elim
end
section
variable {ρ : List SD} {g : Gs}
/-- one entry; the key is a text -/
theorem v_disp1 {fk fv : EF} {s : Str} {y : PyData} (hk : fk ρ g = .ok (.d (.str s)) g) (hv : fDat fv ρ g = .ok y g) : fDisp [(fk, fv)] ρ g = .ok (.nd false [(.str s, y)]) g := by
  unfold fDisp
  show (((fDat fk ρ g).bind _).nox.bind _) = _
  rw [dd hk]
  show (((fDat fv ρ g).bind _).nox.bind _) = _
  rw [hv]
  rfl
/-- a loop that came to its end -/
theorem loopB_nx {α β : Type} {f : Unit → α → Bl β Unit} : ∀ {xs : List α} {y : Unit}, loopB f xs () = .nx y → ∀ x ∈ xs, f () x = .nx ()
  | [], _, _, x, hx => by cases hx
  | a :: xs, y, h, x, hx => by
    unfold loopB at h
    cases q : f () a with
    | ret b => rw [q] at h; cases h
    | nx u =>
      rw [q] at h
      rcases List.mem_cons.mp hx with rfl | hx
      · exact q
      · exact loopB_nx h x hx
end
end Fx

namespace Fx
open PySem L2 PySem.Spec PyProof.Rows

abbrev exB (C t : Addr) : Obj := { cls := .ref C, dict := none, data := .fields #[.ref t, .none, .none, .none, .bool false, .none] }
/-- super().__init__ called -/
theorem call_mw {prog : Program} {w : World} {A : Around} {E : Value → Shared → Prop} {s : Shared} {C a u t0 : Addr} {rest : List Value} {Q : Value → Shared → Prop} {nm q : Str} {N : Addr} {bs bm : List Value} {hdct : Bool} {sn : List Str} {sub : List Value} {ab : Bool} {col : Option Bool} {dd : Option Addr} {k0 k1 k2 k3 k5 : Option Value}
    (hC : s.heap.get? C = some (excClassObj nm q C N bs bm hdct sn sub ab col dd k0 k1 k2 k3 k5 "ValueError.__new__")) (he : s.heap.get? a = some (exB C t0)) (hu : s.heap.get? u = some (PySem.W.kxs_mw "ValueError.__init__" a)) (hz : rest.length ≤ sizeLine)
    (hq : ∀ h', (∀ b o, b ≠ a → s.heap.get? b = some o → h'.get? b = some o) → h'.get? a = some (exB C s.heap.objs.size) → Q .none { s with heap := h' }) :
    wpAny (model prog w) A (call (.ref u) rest) Q E s := by
  obtain ⟨hh, g, d, tk, os⟩ := s
  refine wpAny_call (codeAny_of_tree ?_)
  show wpAny _ A.in1 (callAny (.ref u) ⟨rest, []⟩) _ _ _
  simp only [callAny]
  refine wpAny_bind (wpAny_load hu ?_)
  simp only [PySem.W.kxs_mw, show (Value.type "method-wrapper" == Value.type "method" || Value.type "method-wrapper" == Value.type "builtin_function_or_method" || Value.type "method-wrapper" == Value.type "method-wrapper") = true by decide, if_true]
  refine PySem.W.KFB.if_so (by decide) ?_
  refine wpAny_bind (PySem.W.check_bound_init F.excBase_ValueError.toExcCallFacts hC he rfl ?_)
  refine wpAny_bind (wpAny_pure (wpAny_pure ?_))
  refine ⟨plainId_quiet F.excBase_ValueError.init.plain _, codeAny_builtin F.excBase_ValueError.initEntry ?_⟩
  exact PySem.W.exc_init_tree (cls := .ref C) (t0 := t0) (dv := none) (c2 := .none) (c3 := .none) (b4 := .bool false) he hz fun h' k e' _ => hq h' k e'
/-- what is known of such a class -/
structure ErIni (P : Program) (K : PySem.W.Frag) (mg : Str → Option Value) (C fI cda cc : Addr) (f : Str) : Prop where
  T : OexC K C
  iC : PySem.W.findIn K (.ref C) "__init__" = some (some (.ref fI))
  tI : PySem.W.typeIn K (.ref fI) = some (.type "function")
  cell : ∃ cl cld csl, K.lookup cc = some ⟨cl, cld, .cell (some (.ref C)), csl⟩
  code : ∃ ccl cdd vs ccs file tf, K.lookup cda = some ⟨ccl, cdd, .fields vs, ccs⟩ ∧ vs[2]? = some (.str file tf) ∧ ((P.main.file : Str) == file) = true
  sup : PySem.W.ks_superIn K C C "__init__" = some (some (.builtin "ValueError.__init__"))
  subB : PySem.W.subIn K (.ref C) (.type "ValueError") = some true
  subC : PySem.W.mroIn K C (.ref C) = some true
  opq : PySem.W.nsIn K cStatics "thirdparty.any" = some none
  sN : mg "super" = none
  top : (P.main.scope.names.lookup ("super" : Str)).isSome = false
  no : PySem.W.findIn K (.ref C) f = some none
/-- the names of its __init__ -/
structure IniS (x : Str) (sc : Scope) : Prop where
  kind : sc.kind = .function
  co : sc.isCoroutine = false
  gen : sc.isGenerator = false
  cellN : ∀ y ∈ sc.names, y.2 ≠ .cell
  free : ∀ y ∈ sc.names, y.2 = .free → y.1 = "__class__"
  sup : sc.names.lookup ("super" : Str) = some .globalImplicit
  cls : sc.names.lookup ("__class__" : Str) = some .free
  slf : sc.names.lookup ("self" : Str) = some .local
  arg : sc.names.lookup x = some .local
  ne : x ≠ "self"
def iniSB (x : Str) (sc : Scope) : Bool := decide (sc.kind = .function) && (!sc.isCoroutine && (!sc.isGenerator && (sc.names.all (fun y => !decide (y.2 = .cell) && (!decide (y.2 = .free) || decide (y.1 = "__class__"))) && (decide (sc.names.lookup ("super" : Str) = some .globalImplicit) &&
  (decide (sc.names.lookup ("__class__" : Str) = some .free) && (decide (sc.names.lookup ("self" : Str) = some .local) && (decide (sc.names.lookup x = some .local) && decide (x ≠ "self"))))))))
theorem iniS_by {x : Str} {sc : Scope} (h : iniSB x sc = true) : IniS x sc := by
  unfold iniSB at h
  simp only [Bool.and_eq_true, Bool.or_eq_true, Bool.not_eq_true', decide_eq_true_eq, decide_eq_false_iff_not, List.all_eq_true] at h
  obtain ⟨h1, h2, h3, h4, h5, h6, h7, h8, h9⟩ := h
  exact ⟨h1, h2, h3, fun y hy => (h4 y hy).1, fun y hy e => ((h4 y hy).2.resolve_left fun z => z e), h5, h6, h7, h8, h9⟩
/-- what its __init__ keeps -/
def spIni (C : Addr) (f : Str) : Sp := fun vs H Q _ => ∃ (a : Addr) (v : V), vs = [.ref a, v] ∧ H a = some (exo a C none) ∧ ∀ dx, H dx = none → dx ≠ a → Q .non (upd (upd H dx (exd dx [(f, v)])) a (exo a C (some dx)))
def iniCx (P : Program) (w : World) (K : PySem.W.Frag) (mg : Str → Option Value) (base : Heap) (x : Str) (env : Env) (A : Around) (outer : List Env) (s : Shared) (H : Hp) (E : XK) : Cx where
  prog := P
  w := w
  K := K
  mg := mg
  base := base
  A := A.deeper env
  N := ["self", x]
  s_0 := s
  H_0 := H
  env := env
  outer := outer
  stack := env :: outer
  ex := []
  fn := fun _ => false
  calm := true
  pn := []
  xe := fun e s' => wpAny (model P w) (A.deeper env) (leaving env e) (fun _ s'' => L2.CX P w outer H s E e s'') (fun e' s'' => L2.CX P w outer H s E e' s'') s'
theorem ini_start {P : Program} {w : World} {K : PySem.W.Frag} {mg : Str → Option Value} {base : Heap} {fI cda cc : Addr} {q x : Str} {scope : Scope} {A : Around} {outer : List Env} {s : Shared} {H : Hp} {E : XK} {a : Addr} {v : V} {u : Value} {h₁ : Heap} {tk : Nat}
    (e0 : Env0 P w K mg base A outer s H) (hd : A.handled = none) (S : IniS x scope) (hc : ∃ cl cld v csl, K.lookup cc = some ⟨cl, cld, .cell v, csl⟩) (ru : RelV v u)
    (hns : h₁.Ns s.heap.objs.size fun y => ([("self" : Str), x].zip [Value.ref a, u]).reverse.lookup y) (kp : ∀ b o, s.heap.get? b = some o → h₁.get? b = some o) :
    Inv (iniCx P w K mg base x (PySem.W.ksEnv q scope s.heap.objs.size fI (.ref cda) cc) A outer s H E) [] [some (.ref a), some v] H { s with heap := h₁, toks := tk } := by
  have noA : ∀ b : Addr, b ∉ (iniCx P w K mg base x (PySem.W.ksEnv q scope s.heap.objs.size fI (.ref cda) cc) A outer s H E).ex := fun b z => absurd (show b ∈ ([] : List Addr) from z) (by simp)
  obtain ⟨cl, cld, cv, csl, lc⟩ := hc
  have bc := e0.mod.kin _ _ lc
  have one : ∀ {y : Str} {c : Addr}, ([("__class__", cc)] : List (Str × Addr)).lookup y = some c → y = "__class__" ∧ c = cc := fun {y c} e => by
    by_cases z : y = "__class__"
    · subst z
      exact ⟨rfl, (Option.some.inj e).symm⟩
    · have e2 : (y == ("__class__" : Str)) = false := by simpa using z
      simp [List.lookup, e2] at e
  refine ⟨⟨e0.mod, S.kind, rfl, rfl, Nat.le_refl _, fun y z c e1 e2 => (one e1).1.trans (one e2).1.symm, fun y hy => ?_, fun y c z _ => ?_, fun _ => hd, Around.frames_deeper e0.frames, .inr ⟨rfl, rfl⟩, fun b z => absurd z (noA b), e0.bs, e0.bsz, fun b _ _ => noA b,
      fun b z => absurd z (noA b), e0.funs, e0.frf⟩,
    rfl, e0.bare, Un.kept kp, ⟨_, hns, fun i y v' e1 e2 e3 => ?_⟩, fun y c e => ?_, e0.hok.fresh (Nat.le_refl _), fun y c e => ?_, fun q hq => absurd (show q ∈ ([] : List (Addr × Obj)) ++ [] from hq) (by simp), e0.hok.kept kp, rfl⟩
  · have hy : scope.names.lookup y = some .cell ∨ scope.names.lookup y = some .free := hy
    rcases hy with hy | hy
    · exact absurd rfl (S.cellN _ (PySem.mem_of_lookup hy))
    · have e := S.free _ (PySem.mem_of_lookup hy) rfl
      have e : y = "__class__" := e
      subst e
      exact ⟨cc, rfl⟩
  · have z : false = true := z
    cases z
  · have e1 : (["self", x] : List Str)[i]? = some y := e1
    match i, e1, e2 with
    | 0, e1, e2 =>
      obtain rfl := Option.some.inj e1
      obtain rfl := Option.some.inj (Option.some.inj e2)
      refine ⟨Value.ref a, rfl, .inl ⟨S.slf, ?_⟩⟩
      have n : (("self" : Str) == x) = false := by simpa using Ne.symm S.ne
      show ([(x, u), (("self" : Str), Value.ref a)] : List (Str × Value)).lookup ("self" : Str) = some (Value.ref a)
      simp [List.lookup, n]
    | 1, e1, e2 =>
      obtain rfl := Option.some.inj e1
      obtain rfl := Option.some.inj (Option.some.inj e2)
      refine ⟨u, ru, .inl ⟨S.arg, ?_⟩⟩
      show ([(x, u), (("self" : Str), Value.ref a)] : List (Str × Value)).lookup x = some u
      simp [List.lookup]
    | n + 2, e1, e2 => simp at e1
  · obtain ⟨rfl, rfl⟩ := one e
    exact ⟨cv, _, kp _ _ (e0.bs _ _ bc).1, rfl⟩
  · obtain ⟨rfl, rfl⟩ := one e
    exact (e0.bs _ _ bc).2
theorem ini_run {P : Program} {w : World} {K : PySem.W.Frag} {mg : Str → Option Value} {base : Heap} {C fI cda cc : Addr} {k : Nat} {q x f m : Str} {j : Nat} {params : Arguments} {scope : Scope} {dV kV doc pm ct oc : Value} {an od : Option Addr} {osl : Array (Option Value)} {p0 p1 p2 p3 p4 p5 p6 p7 p8 p9 : Pos} {ar : Arg} {pl : Env → Sem Bool}
    (I : ErIni P K mg C fI cda cc f) (S : IniS x scope) (hp : (params.posonlyargs ++ params.args).head? = some ar) (har : ar.arg = "self")
    (lk : K.lookup fI = some ⟨oc, od, .func (PySem.W.fnX "__init__" q params [.Expr (.Call (.Attribute (.Call (.Name "super" p0) [] [] p1) "__init__" p2) [.Constant (.str m) j p3] [] p4) p5, .Assign [.Attribute (.Name "self" p6) f p7] (.Name x p8) p9] scope [("__class__", cc)] dV kV doc pm an (.ref cda) ct), osl⟩)
    (hcd : PySem.W.codeIn K (.ref cda) q = true) (hxd : (x == ("__debug__" : Str)) = false) (hxc : (x == ("__classdict__" : Str)) = false)
    (heq : ∀ env, eval (.Call (.Attribute (.Call (.Name "super" p0) [] [] p1) "__init__" p2) [.Constant (.str m) j p3] [] p4) env = (do
      let ov ← attributeBase (.Call (.Name "super" p0) [] [] p1) "__init__" env (eval (.Call (.Name "super" p0) [] [] p1) env)
      standAt p2.atName
      let (f, first) ← holding [ov] (getMethod ov "__init__" (pl env))
      callWith p4 f first (backTo p4 (starEach [.Constant (.str m) j p3] env)) []))
    (hsw : ∀ env, swapsWith (.Name x p8) (some (.Attribute (.Name "self" p6) f p7)) p9.line env = pure false) :
    FnOk P w K mg base (L2.CX P w) k fI (PySem.W.fnX "__init__" q params [.Expr (.Call (.Attribute (.Call (.Name "super" p0) [] [] p1) "__init__" p2) [.Constant (.str m) j p3] [] p4) p5, .Assign [.Attribute (.Name "self" p6) f p7] (.Name x p8) p9] scope [("__class__", cc)] dV kV doc pm an (.ref cda) ct) ["self", x] (spIni C f) := by
  refine ⟨fun vs H Q E h => by obtain ⟨a, v, rfl, _⟩ := h; rfl, fun A outer s H args us vs Q E hr e0 hb r h => ?_⟩
  obtain ⟨a, v, rfl, ha, want⟩ := h
  obtain ⟨u1, u, rfl, r1, r2⟩ := vals2 r
  obtain rfl : u1 = Value.ref a := r1
  have KX : K.In s.heap := e0.mod.kin.keeps fun b o e => (e0.bs b o e).1
  have lim : s.heap.NoLimit := e0.mod.nolimit.keeps fun b o e => (e0.bs b o e).1
  refine PySem.ks_codeAny_call_defAt (body := _) (binds := [("self" : Str), x].zip [Value.ref a, u]) hr.depth (KX _ _ lk) rfl lim (PySem.W.codeRec_of KX hcd) rfl hb S.cellN ?loc (fun h₁ hns kp => ?_) S.co S.gen S.kind
  case loc =>
    intro y hy
    have hy : y = (("self" : Str), Value.ref a) ∨ y = (x, u) := by simpa using hy
    rcases hy with rfl | rfl
    · exact S.slf
    · exact S.arg
  have I0 := ini_start (P := P) (w := w) (q := q) (fI := fI) (cda := cda) (E := E) (tk := s.toks + ([("self" : Str), x].zip [Value.ref a, u]).length) e0 hr.hd S (by obtain ⟨cl, cld, csl, e⟩ := I.cell; exact ⟨cl, cld, _, csl, e⟩) r2 hns kp
  obtain ⟨cl, cld, csl, lcell⟩ := I.cell
  obtain ⟨ccl, cdd, vs, ccs, file, tf, lcode, hvs, hfile⟩ := I.code
  obtain ⟨nm, qn, N, bs, bm, sn, sub, ab, col, dd, k0, k1, k2, k3, k5, hC, hbm⟩ := I.T.cls
  obtain ⟨t0, hoe⟩ := exo_at I0.hok ha
  have X1 : K.In h₁ := I0.kIn
  refine PySem.ks_wpAt_execs_cons (PySem.ks_wpAt_Expr_any (PySem.ks_wpAt_MethodCall (PySem.ks_wpAt_super_base (env := PySem.W.ksEnv q scope s.heap.objs.size fI (.ref cda) cc) S.sup S.cls (by decide) rfl (X1 _ _ lk) rfl hp rfl (X1 _ _ lcode) rfl hvs hfile I.top ?_) (heq _)) I0.quiet)
  obtain ⟨mb, hm1, hm2⟩ := I0.mod.blt
  refine PySem.W.ks_loadName_global S.kind S.sup (Calls.loadGlobal_builtin (show Heap.Ns _ mainGlobals mg from I0.mod.glob.keeps I0.bk) I.sN (show Heap.Ns _ builtinsNs mb from hm1.keeps I0.bk) ((hm2 "super" (by decide)).trans (show bootBuiltins "super" = some (.type "super") by kernel_rfl)) ⟨rfl, ?_⟩)
  refine wpAny_loadName_free S.kind S.cls rfl ⟨_, X1 _ _ lcell, rfl⟩ ?_
  rw [har]
  have hself : (([("self" : Str), x].zip [Value.ref a, u]).reverse.lookup ("self" : Str)) = some (Value.ref a) := by
    have n : (("self" : Str) == x) = false := by simpa using Ne.symm S.ne
    show ([(x, u), (("self" : Str), Value.ref a)] : List (Str × Value)).lookup ("self" : Str) = some (Value.ref a)
    simp [List.lookup, n]
  refine wpAny_loadName_local S.kind S.slf hns hself ?_
  refine PySem.ks_wpAny_isType_cls (X1 _ _ hC) rfl ⟨rfl, ?_⟩
  refine PySem.ks_wpAny_call_super (X1 _ _ hC) rfl hoe rfl (fun c e => nomatch e) (PySem.W.looks_mroIn X1 I.subC) (fun h2 e2 k2 => ?_)
  have X2 : K.In h2 := X1.keeps k2
  obtain ⟨cd, hcd2, hsup⟩ : ∃ cd, PySem.W.clsIn K C = some cd ∧ PySem.W.alongIn K "__init__" ((cd.mro.dropWhile (· != .ref C)).drop 1) = some (some (.builtin "ValueError.__init__")) := by
    have z := I.sup
    unfold PySem.W.ks_superIn at z
    cases e : PySem.W.clsIn K C with
    | none => rw [e] at z; cases z
    | some cd => exact ⟨cd, rfl, by rw [e] at z; exact z⟩
  have hxC : a ≠ C := fun z => by
    rw [z] at hoe
    have y := X1 _ _ hC
    have y2 := Option.some.inj (hoe.symm.trans y)
    unfold excClassObj at y2
    injection y2 with _ _ y3 _
    cases y3
  have hI : PySem.W.Looks (model P w) h2 (isInstance (.ref a) (.type "ValueError")) true :=
    (PySem.W.InstAt.type (show PySem.W.InstAt h2 a _ C none from ⟨k2 _ _ hoe, rfl, rfl, trivial⟩)).andThen (PySem.W.looks_subIn X2 I.subB)
  refine PySem.W.kxs_getMethod PySem.W.kxs_ValueError e2 (PySem.W.looks_opaque X2 I.opq) (l₀ := cd.mro) (fun A Q E s k q => wpAny_bind ((PySem.W.looks_clsIn X2 hcd2) A _ E s k (wpAny_pure q))) rfl X2 hsup hI hxC (by decide) ?_
  have hx : (h2.push (PySem.W.kxs_mw "ValueError.__init__" a)).get? h2.objs.size = some (PySem.W.kxs_mw "ValueError.__init__" a) := Heap.get?_push_size _ rfl
  have I1 := (I0.kept (t' := s.toks + ([("self" : Str), x].zip [Value.ref a, u]).length) k2)
  have I2 := I1.kept (t' := s.toks + ([("self" : Str), x].zip [Value.ref a, u]).length + 1) (h' := h2.push (PySem.W.kxs_mw "ValueError.__init__" a)) fun b o z => Heap.get?_push_of_some _ z
  have I3 := I2.pins_of (pins' := [(h2.objs.size, PySem.W.kxs_mw "ValueError.__init__" a)]) fun p hp => by
    obtain rfl : p = (h2.objs.size, PySem.W.kxs_mw "ValueError.__init__" a) := by simpa using hp
    exact ⟨hx, I1.hok.fresh (Nat.le_refl _), Nat.ne_of_gt I1.lt, I1.nofs (Nat.le_refl _), fun v z => nomatch z⟩
  refine PySem.W.kxs_callWith (i := "ValueError.__init__") (x := a) rfl (Calls.evalArgs_plain (thn ((pa_cons pe_str pa_nil).run p4 _ _ _ H (fun vs H1 => vs = [.str m] ∧ H = H1) I3 ⟨rfl, rfl⟩) fun us s1 ⟨ws, H1, I4, rv, ev, eh⟩ => ?_))
  subst ev eh
  obtain ⟨um, rfl, rum⟩ := vals1 rv
  have hb4 : s1.heap.get? h2.objs.size = some (PySem.W.kxs_mw "ValueError.__init__" a) := (I4.pin (h2.objs.size, PySem.W.kxs_mw "ValueError.__init__" a) (List.mem_append_right _ List.mem_cons_self)).1
  refine ⟨hb4, ?_⟩
  obtain ⟨t4, ho4⟩ := exo_at I4.hok ha
  refine call_mw (I4.kIn _ _ hC) ho4 hb4 (by rw [sizeLine_eq]; show 1 ≤ 16777216; decide) fun h5 k5' hx5 => ?_
  have J := I4.write (t' := s1.toks) (x := a) (e := a) (o := exo a C none) (by rw [ha]; exact True.intro) (.inl rfl) k5' ⟨_, hx5⟩ (exo_ok hx5)
  have eu : upd H a (exo a C none) = H := by
    funext b
    by_cases hb : b = a
    · rw [hb, upd_same, ha]
    · rw [upd_ne hb]
  rw [eu] at J
  have ho : PE (iniCx P w K mg base x (PySem.W.ksEnv q scope s.heap.objs.size fI (.ref cda) cc) A outer s H E) (.Name "self" p6) (tVar 0) := pe_var (i := 0) rfl (.inl S.slf)
  have hv : PE (iniCx P w K mg base x (PySem.W.ksEnv q scope s.heap.objs.size fI (.ref cda) cc) A outer s H E) (.Name x p8) (tVar 1) := pe_var (i := 1) rfl (.inl S.arg) hxd hxc
  refine PySem.ks_wpAt_execs_cons (wpAt_of_wpAny (wpAny_mono ((ps_ost ho hv (hsw _)).run _ _ _ H ⟨fun σ H' => Q .non H', fun _ _ => False, fun _ _ => False, fun _ _ => False⟩ J ?_) (fun fl s' hf => ?_) fun _ _ z => z))
  · exact ⟨v, rfl, .ref a, rfl, a, C, rfl, I.T, I.no, .inl ⟨ha, fun dx n ne => want dx n ne⟩⟩
  · cases fl with
    | next =>
      obtain ⟨σ', H', J2, q2⟩ := hf
      refine wpAt_of_wpAny (wpAny_execs_nil ?_)
      exact ⟨.non, H', J2.os, J2.bare, J2.base, J2.hok, rfl, q2⟩
    | ret u => obtain ⟨_, _, _, _, _, z⟩ := hf; exact z.elim
    | brk => obtain ⟨_, _, _, z⟩ := hf; exact z.elim
    | cont => obtain ⟨_, _, _, z⟩ := hf; exact z.elim
end Fx

namespace Fx
open PySem L2 PySem.Spec PyProof.Rows

/-- what is known of a class whose __init__ keeps the field f -/
def RaA (P : Program) (K : PySem.W.Frag) (mg : Str → Option Value) (C : Addr) (f : Str) : Prop :=
  OexC K C ∧ ∃ (fI : Addr) (fd : FuncData) (ps : List Str), PySem.W.findIn K (.ref C) "__init__" = some (some (.ref fI)) ∧ PySem.W.typeIn K (.ref fI) = some (.type "function") ∧ Binds K fd ps [] ∧
    ∀ (w : World) (base : Heap) (k : Nat), FnOk P w K mg base (L2.CX P w) k fI fd ps (spIni C f)
theorem passF {P : Program} {w : World} {X : Cx} : Passes (L2.CX P w) X (fun _ _ _ => False) := fun _ _ _ _ _ _ _ h => by
  obtain ⟨_, _, _, _, _, _, _, _, _, _, _, _, z⟩ := h
  exact z.elim
abbrev tMkA (C : Addr) (f : Str) (te : TE) : L2.St → Hp → XK → Prop := tMkO C (spIni C f) [] (tCons te tNil)
theorem pmk_A {X : Cx} {x f : Str} {C : Addr} {k : Nat} {e : Expr} {te : TE} {p pos : Pos} (R : RaA X.prog X.K X.mg C f) (hr : Room (k + 1) X.A) (hg : Gl X x) (hm : X.mg x = some (.ref C)) (he : PE X e te)
    (hdb : (x == ("__debug__" : Str)) = false := by decide) (hs : starEach [e] X.env = (false, eval e X.env) :: starEach [] X.env := by rfl) :
    PMk X (.Call (.Name x p) [e] [] pos) (tMkA C f te) := by
  obtain ⟨T, fI, fd, ps, iC, tI, hb, hF⟩ := R
  exact pmk_oex (dvs := []) (ds := []) T iC tI (hF X.w X.base k) hr hb .nil passF hg hm (pa_cons he pa_nil hs) hdb hs (by rfl)
def sRaiseA (W : WX) (C : Addr) (f : Str) (te : TE) : TS := fun _ σ H => tMkA C f te σ H fun cls d H' => W cls d σ H'
theorem ps_raiseA {X : Cx} {W : WX} {x f : Str} {C : Addr} {k : Nat} {e : Expr} {te : TE} {p pos pos' : Pos} (hc : X.calm = true) (tk : Takes X W) (R : RaA X.prog X.K X.mg C f) (hr : Room (k + 1) X.A) (hg : Gl X x) (hm : X.mg x = some (.ref C)) (he : PE X e te)
    (hdb : (x == ("__debug__" : Str)) = false := by decide) (hs : starEach [e] X.env = (false, eval e X.env) :: starEach [] X.env := by rfl) :
    PS X (.Raise (some (.Call (.Name x p) [e] [] pos)) none pos') (sRaiseA W C f te) := ps_raise hc tk (pmk_A (k := k) R hr hg hm he hdb hs)
/-- as a function -/
def fRaiseA (nm f : Str) (fe : EF) : EFs := fun ρ g => (fDat fe ρ g).stx ρ fun x g' => .ok (.ex (objD nm [(f, x)]) ρ) g'
theorem sms_raiseA {K : Ck} {W : WX} {nm f : Str} {C : Addr} {te : TE} {fe : EF} (m : K.mg nm = some (.ref C)) (h : Sm K W te fe) : SmS K W (sRaiseA W C f te) (fRaiseA nm f fe) := by
  intro S B F0 F H ρ σ g D E hf
  show te σ H _
  refine h.dat E (stx_wp hf) (stx_x (t := True) (P := fun _ _ => True) E) fun x g1 v F1 H1 q e E1 r => ?_
  show ([v] : List V).length ≤ 1000 ∧ _
  refine ⟨by show 1 ≤ 1000; decide, fun a ha => ⟨a, v, rfl, upd_same, fun dx hdx ne => ⟨rfl, dx, [(f, v)], upd_same, ?_, ?_, ?_⟩⟩⟩
  · rw [upd_ne ne, upd_same]
  · rwa [upd_ne ne] at hdx
  · have hd : H1 dx = none := by rwa [upd_ne ne] at hdx
    have eH : upd (L2.del (upd (upd (upd H1 a (exo a C none)) dx (exd dx [(f, v)])) a (exo a C (some dx))) a) dx (.xd [(f, v)]) = upd H1 dx (.xd [(f, v)]) := by
      funext b
      by_cases h1 : b = dx
      · rw [h1, upd_same, upd_same]
      · rw [upd_ne h1, upd_ne h1]
        by_cases h2 : b = a
        · rw [h2, L2.del_same, ha]
        · rw [L2.del_ne h2, upd_ne h2, upd_ne h1, upd_ne h2]
    rw [eH]
    have n := Ext.own (S := S) (o := .xd [(f, v)]) E1.sub hd
    exact q σ F1 _ _ _ (E1.ext n (J.new E1.j hd)) (.att m (E.free (e.free E1.j hd)) (fun z => S.there _ _ _ E1.j z hd) (E1.sub.free hd) upd_same r)
def clsB (K : PySem.W.Frag) (C : Addr) : Bool := match K.lookup C with
  | some ⟨.type n, _, .cls cd, sl⟩ => decide (n = "type") && (match cd.mro, sl.toList with
    | .ref C' :: bm, [_, _, _, _, some (.builtin n), _] => decide (C' = C) && (decide (n = "ValueError.__new__") && (!cd.hasDel && (cd.hasDict && PySem.HandSPX.refsVE bm)))
    | _, _ => false)
  | _ => false
theorem clsB_ok {K : PySem.W.Frag} {C : Addr} (h : clsB K C = true) : ∃ nm q N bs bm sn sub ab col dd k0 k1 k2 k3 k5, K.lookup C = some (excClassObj nm q C N bs bm true sn sub ab col dd k0 k1 k2 k3 k5 "ValueError.__new__") ∧ PySem.HandSPX.refsVE bm = true := by
  unfold clsB at h
  split at h
  · rename_i n dd cd sl ho
    obtain ⟨h0, g⟩ := He.ba h
    clear h
    have h0 := of_decide_eq_true h0
    subst h0
    split at g
    · rename_i C' bm k0 k1 k2 k3 n k5 hm hs
      obtain ⟨h1, g⟩ := He.ba g
      obtain ⟨h2, g⟩ := He.ba g
      obtain ⟨h3, g⟩ := He.ba g
      obtain ⟨h4, h5⟩ := He.ba g
      have h1 := of_decide_eq_true h1
      have h2 := of_decide_eq_true h2
      subst h1 h2
      obtain ⟨nm, bs, mro, ns, qn, hd, sn, sub, ab, col, del⟩ := cd
      dsimp only at hm h3 h4
      subst hm h4
      have h3 : del = false := by cases del <;> first | rfl | cases h3
      subst h3
      have hsl : sl = #[k0, k1, k2, k3, some (.builtin "ValueError.__new__"), k5] := by
        obtain ⟨l⟩ := sl
        simp only at hs
        subst hs
        rfl
      subst hsl
      exact ⟨_, _, _, _, _, _, _, _, _, _, _, _, _, _, _, ho, h5⟩
    · cases g
  · cases h
def cellB (K : PySem.W.Frag) (C fI : Addr) : Bool := match K.lookup fI with
  | some ⟨_, _, .func fd, _⟩ => (match fd.closure, fd.code with
    | [(_, cc)], .ref cda => (match K.lookup cc with
      | some ⟨_, _, .cell (some (.ref D)), _⟩ => decide (D = C)
      | _ => false) && (match K.lookup cda with
      | some ⟨_, _, .fields vs, _⟩ => (match (vs[2]? : Option Value) with
        | some (.str file _) => decide (file = "/claim/cut.py")
        | _ => false)
      | _ => false)
    | _, _ => false)
  | _ => false
theorem cellB_ok {K : PySem.W.Frag} {C fI cc : Addr} {oc : Value} {od : Option Addr} {fd : FuncData} {sl : Array (Option Value)} {y : Str} (h : cellB K C fI = true) (l : K.lookup fI = some ⟨oc, od, .func fd, sl⟩) (hc : fd.closure = [(y, cc)]) :
    (∃ cl cld csl, K.lookup cc = some ⟨cl, cld, .cell (some (.ref C)), csl⟩) ∧ ∃ (cda : Addr), fd.code = .ref cda ∧ ∃ ccl cdd vs ccs tf, K.lookup cda = some ⟨ccl, cdd, .fields vs, ccs⟩ ∧ vs[2]? = some (.str "/claim/cut.py" tf) := by
  unfold cellB at h
  rw [l] at h
  dsimp only at h
  rw [hc] at h
  split at h
  · rename_i y2 cc2 cda e1 e2
    cases e1
    obtain ⟨h1, h2⟩ := He.ba h
    constructor
    · split at h1
      · rename_i cl cld D csl e
        have h1 := of_decide_eq_true h1
        subst h1
        exact ⟨_, _, _, e⟩
      · cases h1
    · refine ⟨cda, e2, ?_⟩
      split at h2
      · rename_i ccl cdd vs ccs e
        split at h2
        · rename_i file tf e3
          have h2 := of_decide_eq_true h2
          subst h2
          exact ⟨_, _, _, _, _, e, e3⟩
        · cases h2
      · cases h2
  · cases h
def iniB (K : PySem.W.Frag) (C fI : Addr) (f : Str) : Bool :=
  clsB K C && (cellB K C fI && (He.eqO (PySem.W.findIn K (.ref C) "__setattr__") (some (some (.builtin "object.__setattr__"))) && (decide (PySem.W.subIn K (.ref C) (.type "BaseException") = some true) && (decide (PySem.W.typeIn K (.ref C) = some (.type "type")) &&
  (PySem.W.keepIn K (.ref C) && (He.eqO (PySem.W.ks_superIn K C C "__init__") (some (some (.builtin "ValueError.__init__"))) && (decide (PySem.W.subIn K (.ref C) (.type "ValueError") = some true) && (decide (PySem.W.mroIn K C (.ref C) = some true) &&
  (He.eqO (PySem.W.nsIn K cStatics "thirdparty.any") (some none) && (He.eqO (PySem.W.nsIn K mainGlobals "super") (some none) && (He.eqO (PySem.W.findIn K (.ref C) f) (some none) && decide (PySem.W.typeIn K (.ref fI) = some (.type "function")))))))))))))
theorem raA_mk {P : Program} {K : PySem.W.Frag} {mg : Str → Option Value} {h : Heap} {C fI cc : Addr} {q x f m : Str} {j : Nat} {params : Arguments} {body : List Stmt} {scope : Scope} {dV kV doc pm cdv ct oc : Value} {an od : Option Addr} {osl : Array (Option Value)} {p0 p1 p2 p3 p4 p5 p6 p7 p8 p9 : Pos} {ar : Arg} {pl : Env → Sem Bool}
    (X : K.In h) (G : h.Ns mainGlobals mg) (hpf : (P.main.file : Str) = "/claim/cut.py") (htop : (P.main.scope.names.lookup ("super" : Str)).isSome = false)
    (iC : PySem.W.findIn K (.ref C) "__init__" = some (some (.ref fI))) (b : iniB K C fI f = true)
    (lk : K.lookup fI = some ⟨oc, od, .func (PySem.W.fnX "__init__" q params body scope [("__class__", cc)] dV kV doc pm an cdv ct), osl⟩) (hcd : PySem.W.codeIn K cdv q = true)
    (hbody : body = [.Expr (.Call (.Attribute (.Call (.Name "super" p0) [] [] p1) "__init__" p2) [.Constant (.str m) j p3] [] p4) p5, .Assign [.Attribute (.Name "self" p6) f p7] (.Name x p8) p9]) (S : iniSB x scope = true)
    (hp : (params.posonlyargs ++ params.args).head? = some ar) (har : ar.arg = "self") (hxd : (x == ("__debug__" : Str)) = false) (hxc : (x == ("__classdict__" : Str)) = false)
    (heq : ∀ env, eval (.Call (.Attribute (.Call (.Name "super" p0) [] [] p1) "__init__" p2) [.Constant (.str m) j p3] [] p4) env = (do
      let ov ← attributeBase (.Call (.Name "super" p0) [] [] p1) "__init__" env (eval (.Call (.Name "super" p0) [] [] p1) env)
      standAt p2.atName
      let (f, first) ← holding [ov] (getMethod ov "__init__" (pl env))
      callWith p4 f first (backTo p4 (starEach [.Constant (.str m) j p3] env)) []))
    (hsw : ∀ env, swapsWith (.Name x p8) (some (.Attribute (.Name "self" p6) f p7)) p9.line env = pure false)
    (hb : Binds K (PySem.W.fnX "__init__" q params body scope [("__class__", cc)] dV kV doc pm an cdv ct) ["self", x] []) : RaA P K mg C f := by
  subst hbody
  unfold iniB at b
  obtain ⟨b1, b⟩ := He.ba b
  obtain ⟨b2, b⟩ := He.ba b
  obtain ⟨b3, b⟩ := He.ba b
  obtain ⟨b4, b⟩ := He.ba b
  obtain ⟨b5, b⟩ := He.ba b
  obtain ⟨b6, b⟩ := He.ba b
  obtain ⟨b7, b⟩ := He.ba b
  obtain ⟨b8, b⟩ := He.ba b
  obtain ⟨b9, b⟩ := He.ba b
  obtain ⟨b10, b⟩ := He.ba b
  obtain ⟨b11, b⟩ := He.ba b
  obtain ⟨b12, b13⟩ := He.ba b
  obtain ⟨hcell, cda, ecd, ccl, cdd, vs, ccs, tf, lcode, hvs⟩ := cellB_ok b2 lk rfl
  have ecd : cdv = .ref cda := ecd
  subst ecd
  have T : OexC K C := ⟨clsB_ok b1, He.eqO_ok b3, of_decide_eq_true b4, of_decide_eq_true b5, b6⟩
  refine ⟨T, fI, _, _, iC, of_decide_eq_true b13, hb, fun w base k => ?_⟩
  exact ini_run (cda := cda) (cc := cc) ⟨T, iC, of_decide_eq_true b13, hcell, ⟨ccl, cdd, vs, ccs, _, tf, lcode, hvs, by rw [hpf]; decide⟩, He.eqO_ok b7, of_decide_eq_true b8, of_decide_eq_true b9, He.eqO_ok b10, PySem.W.mg_none_of X G (He.eqO_ok b11), htop, He.eqO_ok b12⟩
    (iniS_by S) hp har lk hcd hxd hxc heq hsw
end Fx

namespace Fx
open PySem L2 PySem.Spec PyProof.Rows
def tUpper (to : TE) : TE := fun σ H Q => to σ H fun v H1 => ∃ z, v = .str z ∧ z.length ≤ 5000000 ∧ Q (.str (Txt.upper z)) H1
theorem pe_upper {X : Cx} {o : Expr} {to : TE} {p1 p2 : Pos} (ho : PE X o to) (hbase : attributeBase o "upper" X.env (eval o X.env) = eval o X.env := by rfl) (hline : (p1.endLine == p2.line) = true := by rfl) :
    PE X (.Call (.Attribute o "upper" p1) [] [] p2) (tUpper to) := by
  refine ⟨fun pins s σ H Q I h => ?_⟩
  refine wpAny_Call_method0_late hbase hline (thn (ho.run pins s σ H _ I h) fun v s1 ⟨x, H1, I1, r1, z, ex, hz, q⟩ => ?_)
  subst ex
  obtain ⟨tz, rfl⟩ := r1
  exact ⟨"str", _, PySem.F.plainAttrs_str, PySem.F.slot_str_upper, PySem.F.type_str_upper, typeIs_str _ _ _, (fun _ e => nomatch e), Calls.callWith_builtin rfl (PySem.evalArgs_none (PySem.SC.upper (PyProof.Rows.short24 (by have := PyProof.Rows.len_upper z; omega)) ⟨.str _, H1, I1.tok _, ⟨_, rfl⟩, q⟩))⟩
def fUpper (fe : EF) : EF := fun ρ g => (fDat fe ρ g).bind fun x g1 => match x with
  | .str z => if z.length ≤ 5000000 then .ok (.d (.str (Txt.upper z))) g1 else .bad
  | _ => .bad
def fStrI (fe : EF) : EF := fun ρ g => (fDat fe ρ g).bind fun x g1 => match x with
  | .int i => if i.natAbs.log2 < 1920 then .ok (.d (.str (toString i))) g1 else .bad
  | _ => .bad
section
variable {K : Ck} {W : WX}
theorem sm_upper {te : TE} {fe : EF} (h : Sm K W te fe) : Sm K W (tUpper te) (fUpper fe) := by
  intro S B F0 F H ρ σ g Pd Xd Q E hf k kx
  refine h.dat E (R.wp_bind.mp hf) kx fun x g1 v F1 H1 q e E1 r => ?_
  split at q
  · rename_i z
    split at q
    · cases r
      exact ⟨z, rfl, ‹_›, k _ g1 _ F1 H1 q e E1.j (Rp.str _)⟩
    · exact q.elim
  · exact q.elim
theorem sm_strI {te : TE} {fe : EF} (h : Sm K W te fe) : Sm K W (tCB (fun xs H Q => ∃ i, xs = [.int i] ∧ i.natAbs.log2 < 1920 ∧ Q (.str (toString i)) H) (tCons te tNil)) (fStrI fe) := by
  intro S B F0 F H ρ σ g Pd Xd Q E hf k kx
  refine h.dat E (R.wp_bind.mp hf) kx fun x g1 v F1 H1 q e E1 r => ?_
  split at q
  · rename_i i
    split at q
    · cases r
      exact ⟨i, rfl, ‹_›, k _ g1 _ F1 H1 q e E1.j (Rp.str _)⟩
    · exact q.elim
  · exact q.elim
end
section
variable {ρ : List SD} {g : Gs} {fe : EF}
theorem v_upper {x : Str} (h : fDat fe ρ g = .ok (.str x) g) (hl : x.length ≤ 5000000) : fUpper fe ρ g = .ok (.d (.str (Txt.upper x))) g := by
  unfold fUpper
  rw [h]
  show (if x.length ≤ 5000000 then _ else _) = _
  exact if_pos hl
theorem v_strI {i : Int} (h : fDat fe ρ g = .ok (.int i) g) (hl : i.natAbs.log2 < 1920) : fStrI fe ρ g = .ok (.d (.str (toString i))) g := by
  unfold fStrI
  rw [h]
  show (if i.natAbs.log2 < 1920 then _ else _) = _
  exact if_pos hl
end
end Fx

namespace Fx
open PySem L2 PySem.Spec PyProof.Rows
def oLSet (xs : List PyData) (y v : PyData) : Option (List PyData) := match y with
  | .int k => (ixN xs.length k).map fun j => xs.set j v
  | _ => none
def fLSet (i : Nat) (fy fv : EF) : EFs := fun ρ g => ownSD ρ[i]? fun xs => (fDat fv ρ g).stx ρ fun v g1 => (fDat fy ρ g1).stx ρ fun y g2 => (R.ofO (oLSet xs y v) g2).bind fun xs' g3 => .ok (.nx (ρ.set i (.own xs'))) g3
section
variable {K : Ck} {W : WX}
theorem sms_lset (i : Nat) {ty tv : TE} {fy fv : EF} (hy : Sm K W ty fy) (hv : Sm K W tv fv) : SmS K W (tAsg tv (L2.gSub (tVar i) ty rSetL)) (fLSet i fy fv) := by
  intro S B F0 F H ρ σ g D E hf
  obtain ⟨xs, e, hf⟩ := ownSD_wp hf
  refine hv.dat E (stx_wp hf) (stx_x (t := True) (P := fun _ _ => True) E) fun v g1 vv F1 H1 q1 e1 E1 r1 => ?_
  obtain ⟨w1, s1, s2⟩ := E1.sl i _ e
  obtain ⟨a, rfl, _⟩ := id s2
  refine ⟨.ref a, s1, ?_⟩
  refine hy.dat E1 (stx_wp q1) (stx_x (t := True) (P := fun _ _ => True) E1) fun y g2 vy F2 H2 q2 e2 E2 r2 => ?_
  obtain ⟨w2, s3, s4⟩ := E2.sl i _ e
  rw [s1] at s3
  cases s3
  obtain ⟨b, hb, c1, c2, c3, vs, c4, c5⟩ := id s4
  cases hb
  obtain ⟨xs', o1, q⟩ := R.wp_ofO (R.wp_bind.mp q2)
  unfold oLSet at o1
  split at o1
  · rename_i k
    cases r2
    cases ej : ixN xs.length k with
    | none => rw [ej] at o1; cases o1
    | some j =>
      rw [ej] at o1
      cases o1
      exact ⟨a, vs, k, j, rfl, rfl, c4, by rw [c5.length]; exact ej, q _ _ _ (E2.mut e rfl s1 rfl fun H3 h3 => ⟨_, h3, c5.set (r1.mono e2.le) j⟩)⟩
  · cases o1
end
section
variable {γ : Type} {h : EFs} {ρ : List SD} {g : Gs} {P : γ → Out → Prop}
theorem h_lsetA {α : Type} {i : Nat} {xs : List α} {e : α → PyData} {A : R PyData} {K : PyData → Gs → R γ} {fy fv : EF} (y : Int) (q0 : ρ[i]? = some (.own (xs.map e))) (q : RX (fDat fv ρ g) A eA) (qy : ∀ g, fDat fy ρ g = .ok (.int y) g) (z : (ixN xs.length y).isSome = true)
    (k : ∀ b g, RG h (ρ.set i (.own (((xs.map e).set ((ixN xs.length y).getD 0) b).map eA))) g (K b g) P) : RG (fSeq (fLSet i fy fv) h) ρ g (A.bind K) P := by
  refine RG.look (h := h) q (k := fun v g1 => (fDat fy ρ g1).stx ρ fun y g2 => (R.ofO (oLSet (xs.map e) y v) g2).bind fun ks' g3 => .ok (.nx (ρ.set i (.own ks'))) g3) ?_ fun b g1 => ?_
  · unfold fSeq fLSet
    rw [q0]; rfl
  · have k1 := k b g1
    have em : ((xs.map e).set ((ixN xs.length y).getD 0) b).map eA = (xs.map e).set ((ixN xs.length y).getD 0) b := List.map_id' _
    rw [em] at k1
    refine RG.eq (t := fun _ g => h (ρ.set i (.own ((xs.map e).set ((ixN xs.length y).getD 0) b))) g) ?_ (by unfold RG at k1 ⊢; exact k1)
    show ((fDat fy ρ g1).stx ρ _).bind (seqO h) = _
    rw [stx_ok (qy g1)]
    have eo : oLSet (xs.map e) (.int y) (eA b) = some ((xs.map e).set ((ixN xs.length y).getD 0) b) := by
      show (ixN (xs.map e).length y).map (fun j => (xs.map e).set j b) = _
      rw [List.length_map]
      cases ej : ixN xs.length y with
      | none => rw [ej] at z; cases z
      | some j => rfl
    rw [eo]; rfl
end
def prOf (x : PyData) : Str × Int := (strOf ((tupOf x).getD 0 .none), intOf ((tupOf x).getD 1 .none))
def plOf (x : PyData) : List (Str × Int) := (tupOf x).map prOf
theorem loopB_ret {α β : Type} {f : Unit → α → Bl β Unit} {b : β} : ∀ {xs : List α}, loopB f xs () = .ret b → ∃ x ∈ xs, f () x = .ret b
  | [], h => by cases h
  | a :: xs, h => by
    unfold loopB at h
    cases q : f () a with
    | ret c =>
      rw [q] at h
      cases h
      exact ⟨a, List.mem_cons_self .., q⟩
    | nx u =>
      rw [q] at h
      obtain ⟨x, hx, e⟩ := loopB_ret h
      exact ⟨x, List.mem_cons_of_mem _ hx, e⟩
/-- what repr shows of anything -/
def shA (x : PyData) : Str := match oReprE x with
  | some (.d (.str s)) => s
  | _ => Str.empty
theorem q_reprEOI {x : Option Int} (h : ∀ i, x = some i → i.natAbs.log2 < 1920) : oReprE (eO PyData.int x) = some (.d (.str (PyData.shown (eO PyData.int x)))) := by
  cases x with
  | none => rfl
  | some i => exact q_reprI (h i rfl)
theorem q_get2N {α β : Type} [DecidableEq α] {e : α → PyData} {e' : β → PyData} {k : α → Key} (h : KeyK e k) (a : α) (ks : List (α × β)) : oGet (eD e e' ks) [.d (e a), .d .none] = some (.d (eO e' (dlk ks a))) := by
  unfold eD oGet
  simp only [h.d, matchK_mp h, if_true, dget_mp h]
  cases dlk ks a <;> rfl
end Fx

noncomputable section
namespace Hd
open PySem PySem.Spec PyProof.Rows L2 Fx
def frcF {α : Type} : PySem.W.Frag → (PySem.W.Frag → α) → α
  | [], k => k []
  | (a, o) :: r, k => HandSHeadRun.frNat a fun a => frcF r fun r => k ((a, o) :: r)
theorem frcF_eq {α : Type} : ∀ (K : PySem.W.Frag) (k : PySem.W.Frag → α), frcF K k = k K
  | [], k => rfl
  | (a, o) :: r, k => by
    show HandSHeadRun.frNat a (fun a => frcF r fun r => k ((a, o) :: r)) = _
    rw [HandSHeadRun.frNat_eq, frcF_eq r]
def frcA {α : Type} : List Addr → (List Addr → α) → α
  | [], k => k []
  | a :: r, k => HandSHeadRun.frNat a fun a => frcA r fun r => k (a :: r)
theorem frcA_eq {α : Type} : ∀ (as : List Addr) (k : List Addr → α), frcA as k = k as
  | [], k => rfl
  | a :: r, k => by
    show HandSHeadRun.frNat a (fun a => frcA r fun r => k (a :: r)) = _
    rw [HandSHeadRun.frNat_eq, frcA_eq r]
/-- what the objects at these addresses name -/
def stg (g : Addr → Option Obj) (as : List Addr) : List Addr := as.flatMap fun a => match g a with
  | some o => He.refsD o
  | none => []
/-- the objects of these names, what they name, and so on -/
def asX (g : Addr → Option Obj) (xs : List Str) : List Addr :=
  frcA (xs.map (He.ga (He.frG g [mainGlobals]))) fun a0 => frcA (stg g a0) fun a1 => frcA (stg g a1) fun a2 => frcA (stg g a2) fun a3 => frcA (stg g a3) fun a4 => mainGlobals :: (PySem.cStatics :: (a0 ++ (a1 ++ (a2 ++ (a3 ++ a4)))))
structure DX where
  kd : Nat
  cls : Str
  nm : Str
  qual : Str
  params : Arguments
  body : List Stmt
  scope : Scope
  dfl : Nat
def pFn (K : PySem.W.Frag) (p : Addr) : Addr := match PySem.W.recIn K p "property" with
  | some (.ref f :: _) => f
  | _ => 0
def pRest (K : PySem.W.Frag) (p : Addr) : List Value := match PySem.W.recIn K p "property" with
  | some (_ :: r) => r
  | _ => []
def DX.st (K : PySem.W.Frag) (d : DX) : Addr := match d.kd with
  | 0 => He.ga K d.nm
  | _ => He.ma K (He.ga K d.cls) d.nm
def DX.ad (K : PySem.W.Frag) (d : DX) : Addr := match d.kd with
  | 3 => pFn K (d.st K)
  | _ => d.st K
def dflOk (K : PySem.W.Frag) (v : Value) : Nat → Bool
  | 0 => (match v with
    | .none => true
    | _ => false)
  | n + 1 => (match v with
    | .ref T => (match K.lookup T with
      | some ⟨_, _, .seq its _, _⟩ => its.size.beq (n + 1)
      | _ => false)
    | _ => false)
def DX.where_ (K : PySem.W.Frag) (d : DX) : Bool := match d.kd with
  | 0 => He.eqO (PySem.W.nsIn K mainGlobals d.nm) (some (some (.ref (d.ad K)))) && PySem.W.keepIn K (.ref (d.ad K))
  | 1 => He.eqO (PySem.W.findIn K (.ref (He.ga K d.cls)) d.nm) (some (some (.ref (d.ad K)))) && (PySem.W.isFn K (.ref (d.ad K)) && PySem.W.keepIn K (.ref (d.ad K)))
  | 2 => He.eqO (PySem.W.findIn K (.ref (He.ga K d.cls)) d.nm) (some (some (.ref (d.ad K)))) && PySem.W.isFn K (.ref (d.ad K))
  | 4 => He.eqO (PySem.W.findIn K (.ref (He.ga K d.cls)) d.nm) (some (some (.ref (d.ad K)))) && PySem.W.isFn K (.ref (d.ad K))
  | _ => He.eqO (PySem.W.findIn K (.ref (He.ga K d.cls)) d.nm) (some (some (.ref (d.st K)))) && (He.eqO (PySem.W.specialIn K (.ref (d.st K)) "__get__") (some (some (.builtin "property.__get__"))) &&
      (decide (PySem.W.takesIn K (.ref (d.st K)) = some true) && (decide (PySem.W.recIn K (d.st K) "property" = some (.ref (pFn K (d.st K)) :: pRest K (d.st K))) && PySem.W.keepIn K (.ref (d.ad K)))))
def DX.ok (K : PySem.W.Frag) (d : DX) : Bool := d.where_ K && (match K.lookup (d.ad K) with
  | some ⟨_, _, .func fd, _⟩ => PySem.W.codeIn K fd.code d.qual && dflOk K fd.defaults d.dfl
  | _ => false)
def fnX (K : PySem.W.Frag) (a : Addr) : He.FnW := match K.lookup a with
  | some ⟨_, _, .func fd, _⟩ => some (fd.name, fd.qualname, fd.params, fd.body, fd.scope, fd.globals, fd.closure.map fun p => (p.1, 0), fd.builtins)
  | _ => none
def DX.val (d : DX) : He.FnW := some (d.nm, d.qual, d.params, .stmts d.body, d.scope, mainGlobals, if d.kd.beq 4 = true then [("__class__", 0)] else [], builtinsNs)
theorem fnX_ok {K : PySem.W.Frag} {d : DX} (n4 : d.kd.beq 4 = false) (e : fnX K (d.ad K) = d.val) (c : d.ok K = true) :
    ∃ oc od osl dV kV doc pm an cdv ct, K.lookup (d.ad K) = some ⟨oc, od, .func (PySem.W.fnOf d.nm d.qual d.params d.body d.scope dV kV doc pm an cdv ct), osl⟩ ∧ PySem.W.codeIn K cdv d.qual = true ∧ dflOk K dV d.dfl = true := by
  obtain ⟨_, c2⟩ := He.ba c
  unfold fnX at e
  cases q : K.lookup (d.ad K) with
  | none =>
    rw [q] at c2
    cases c2
  | some o =>
    obtain ⟨oc, od, dt, osl⟩ := o
    rw [q] at c2 e
    cases dt with
    | func fd =>
      obtain ⟨n1, n2, n3, m4, n5, n6, n7, n8, n9, n10, n11, n12, n13, n14, n15⟩ := fd
      have e2 : (some (n1, n2, n3, m4, n5, n6, n7.map fun p => (p.1, 0), n15) : He.FnW) = (some (d.nm, d.qual, d.params, .stmts d.body, d.scope, mainGlobals, if d.kd.beq 4 = true then [("__class__", 0)] else [], builtinsNs) : He.FnW) := e
      rw [n4] at e2
      simp only [Option.some.injEq, Prod.mk.injEq] at e2
      obtain ⟨h1, h2, h3, h4, h5, h6, h7, h8⟩ := e2
      have h7 : n7 = [] := List.map_eq_nil_iff.mp h7
      subst h1 h2 h3 h4 h5 h6 h7 h8
      obtain ⟨k1, k2⟩ := He.ba (show (PySem.W.codeIn K n13 d.qual && dflOk K n8 d.dfl) = true from c2)
      exact ⟨oc, od, osl, n8, n9, n10, n11, n12, n13, n14, rfl, k1, k2⟩
    | _ => cases c2
theorem fnX_ok4 {K : PySem.W.Frag} {d : DX} (n4 : d.kd.beq 4 = true) (e : fnX K (d.ad K) = d.val) (c : d.ok K = true) :
    ∃ cc oc od osl dV kV doc pm an cdv ct, K.lookup (d.ad K) = some ⟨oc, od, .func (PySem.W.fnX d.nm d.qual d.params d.body d.scope [("__class__", cc)] dV kV doc pm an cdv ct), osl⟩ ∧ PySem.W.codeIn K cdv d.qual = true ∧ dflOk K dV d.dfl = true := by
  obtain ⟨_, c2⟩ := He.ba c
  unfold fnX at e
  cases q : K.lookup (d.ad K) with
  | none =>
    rw [q] at c2
    cases c2
  | some o =>
    obtain ⟨oc, od, dt, osl⟩ := o
    rw [q] at c2 e
    cases dt with
    | func fd =>
      obtain ⟨n1, n2, n3, m4, n5, n6, n7, n8, n9, n10, n11, n12, n13, n14, n15⟩ := fd
      have e2 : (some (n1, n2, n3, m4, n5, n6, n7.map fun p => (p.1, 0), n15) : He.FnW) = (some (d.nm, d.qual, d.params, .stmts d.body, d.scope, mainGlobals, if d.kd.beq 4 = true then [("__class__", 0)] else [], builtinsNs) : He.FnW) := e
      rw [n4, if_pos rfl] at e2
      simp only [Option.some.injEq, Prod.mk.injEq] at e2
      obtain ⟨h1, h2, h3, h4, h5, h6, h7, h8⟩ := e2
      obtain ⟨cc, h7⟩ : ∃ cc : Addr, n7 = [(("__class__" : Str), cc)] := by
        cases n7 with
        | nil => cases h7
        | cons p r =>
          obtain ⟨y, cc⟩ := p
          rw [List.map_cons] at h7
          have h8 := List.cons.inj h7
          have h9 : r = [] := List.map_eq_nil_iff.mp h8.2
          have h10 : y = "__class__" := congrArg Prod.fst h8.1
          exact ⟨cc, by rw [h9, h10]⟩
      subst h1 h2 h3 h4 h5 h6 h7 h8
      obtain ⟨k1, k2⟩ := He.ba (show (PySem.W.codeIn K n13 d.qual && dflOk K n8 d.dfl) = true from c2)
      exact ⟨cc, oc, od, osl, n8, n9, n10, n11, n12, n13, n14, rfl, k1, k2⟩
    | _ => cases c2
theorem dfl0 {K : PySem.W.Frag} {v : Value} {n : Nat} (hn : n = 0) (h : dflOk K v n = true) : v = .none := by
  subst hn
  cases v with
  | none => rfl
  | _ => cases h
def codeTab (K : PySem.W.Frag) (f : Addr) : Option (Addr × Addr) := match K.lookup f with
  | some ⟨_, _, .func fd, _⟩ => (match fd.code with
    | .ref c => (match K.lookup c with
      | some ⟨_, _, .fields vs, _⟩ => (match (vs[11]? : Option Value) with
        | some (.ref P) => some (c, P)
        | _ => none)
      | _ => none)
    | _ => none)
  | _ => none
theorem tabOf_code {K : PySem.W.Frag} {f : Addr} : Fx.tabOf K f = (codeTab K f).map (·.2) := by
  unfold Fx.tabOf codeTab
  cases K.lookup f with
  | none => rfl
  | some o =>
    obtain ⟨oc, od, dt, sl⟩ := o
    cases dt with
    | func fd =>
      dsimp only
      generalize fd.code = cv
      cases cv with
      | ref c =>
        dsimp only
        cases K.lookup c with
        | none => rfl
        | some o2 =>
          obtain ⟨oc2, od2, dt2, sl2⟩ := o2
          cases dt2 with
          | fields vs =>
            dsimp only
            generalize (vs[11]? : Option Value) = q
            cases q with
            | none => rfl
            | some v => cases v <;> rfl
          | _ => rfl
      | _ => rfl
    | _ => rfl
theorem codeTab_code {K : PySem.W.Frag} {f c P : Addr} {oc : Value} {od : Option Addr} {fd : FuncData} {sl : Array (Option Value)} (h : codeTab K f = some (c, P)) (l : K.lookup f = some ⟨oc, od, .func fd, sl⟩) : fd.code = .ref c := by
  unfold codeTab at h
  rw [l] at h
  dsimp only at h
  split at h
  · rename_i c' e
    split at h
    · split at h
      · cases h; exact e
      · cases h
    · cases h
  · cases h
def codeHdB (K : PySem.W.Frag) (c P : Addr) : Bool := match K.lookup c with
  | some ⟨.type n, _, .fields vs, _⟩ => decide (n = "code") && ((match (vs[11]? : Option Value) with
      | some (.ref P') => Nat.beq P' P
      | _ => false) && ((match vs.getD 18 .none with
      | .str _ _ => true
      | _ => false) && ((match vs.getD 7 .none with
      | .int _ _ => true
      | _ => false) && ((match vs.getD 9 .none with
      | .bool _ => true
      | _ => false) && ((match vs.getD 10 .none with
      | .int _ _ => true
      | _ => false) && !(Nat.beq c P))))))
  | _ => false
theorem codeHd_of {K : PySem.W.Frag} {h : Heap} {c P : Addr} (X : K.In h) (e : codeHdB K c P = true) : PySem.W.CodeHd h c P := by
  unfold codeHdB at e
  split at e
  · rename_i n od vs sl l
    obtain ⟨e1, e⟩ := He.ba e
    obtain ⟨e2, e⟩ := He.ba e
    obtain ⟨e3, e⟩ := He.ba e
    obtain ⟨e4, e⟩ := He.ba e
    obtain ⟨e5, e⟩ := He.ba e
    obtain ⟨e6, e7⟩ := He.ba e
    have e1 := of_decide_eq_true e1
    subst e1
    split at e2
    · rename_i P' q
      have e2 := Nat.eq_of_beq_eq_true e2
      subst e2
      split at e3
      · rename_i x3 t3 q3
        split at e4
        · rename_i x4 t4 q4
          split at e5
          · rename_i x5 q5
            split at e6
            · rename_i x6 t6 q6
              refine ⟨_, vs, x3, t3, x4, t4, x5, x6, t6, X _ _ l, rfl, rfl, q, ?_, q3, q4, q5, q6, fun z => ?_⟩
              · rw [Array.getD_eq_getD_getElem?, q]; rfl
              · rw [z, Nat.beq_refl] at e7; cases e7
            · cases e6
          · cases e5
        · cases e4
      · cases e3
    · cases e2
  · cases e
def tabAt (T : PySem.W.Frag) (P : Addr) : Bool := match T.lookup P with
  | some ⟨.none, .none, .fields vs, sl⟩ => Nat.beq vs.size 0 && Nat.beq sl.size 0
  | _ => false
theorem tab_of {T : PySem.W.Frag} {h : Heap} {P : Addr} (X : T.In h) (e : tabAt T P = true) : h.get? P = some { cls := .none, data := .fields #[] } := by
  unfold tabAt at e
  split at e
  · rename_i vs sl l
    obtain ⟨e1, e2⟩ := He.ba e
    have e1 := Array.eq_empty_of_size_eq_zero (Nat.eq_of_beq_eq_true e1)
    have e2 := Array.eq_empty_of_size_eq_zero (Nat.eq_of_beq_eq_true e2)
    subst e1 e2
    exact X _ _ l
  · cases e
def isTab : Obj → Bool
  | ⟨.none, .none, .fields vs, _⟩ => Nat.beq vs.size 0
  | _ => false
def nodB : List Nat → Bool
  | [] => true
  | a :: r => !(r.any (Nat.beq a)) && nodB r
theorem nodB_ok : ∀ {l : List Nat}, nodB l = true → l.Nodup
  | [], _ => List.nodup_nil
  | a :: r, h => by
    obtain ⟨h1, h2⟩ := He.ba h
    refine List.nodup_cons.mpr ⟨fun m => ?_, nodB_ok h2⟩
    have : r.any (Nat.beq a) = true := List.any_eq_true.mpr ⟨a, m, Nat.beq_refl a⟩
    rw [this] at h1
    cases h1
def lamC (K : PySem.W.Frag) : List (Addr × Addr) := lamDefs.filterMap fun x => match PySem.W.nsIn K mainGlobals x with
  | some (some (.ref f)) => codeTab K f
  | _ => none
def tabsB (K T : PySem.W.Frag) : Bool := (lamDefs.all fun x => match PySem.W.nsIn K mainGlobals x with
  | some none => true
  | some (some (.ref f)) => (match codeTab K f with
    | some (c, P) => tabAt T P && ((match K.lookup P with
      | none => true
      | some _ => false) && codeHdB K c P)
    | none => false)
  | _ => false) && nodB ((lamC K).map (·.2))
abbrev AlX : Type := Bool × List He.FnW
def obsX (B : PySem.W.Frag → List Bool) (ds : List DX) (K T : PySem.W.Frag) : AlX := ((B K).all id && ((ds.all fun d => d.ok K) && tabsB K T), ds.map fun d => fnX K (d.ad K))
def valX (ds : List DX) : AlX := (true, ds.map DX.val)
def SaysX (B : PySem.W.Frag → List Bool) (ds : List DX) (K T : PySem.W.Frag) : Prop := obsX B ds K T = valX ds
def tabG (g : Addr → Option Obj) (a : Addr) : Bool := match g a with
  | some o => isTab o
  | none => false
def obsG (xs : List Str) (B : PySem.W.Frag → List Bool) (ds : List DX) (g : Addr → Option Obj) : AlX := frcA (asX g xs) fun as => frcF (He.frG g (as.filter fun a => !(tabG g a))) fun K => frcF (He.frG g (as.filter (tabG g))) fun T => obsX B ds K T
def hookX (xs : List Str) (B : PySem.W.Frag → List Bool) (ds : List DX) : PySem.W.Hook where
  α := AlX
  obs := fun s => obsG xs B ds s.heap.get?
  val := fun _ => valX ds
  says := fun _ h => ∃ K T : PySem.W.Frag, K.In h ∧ T.In h ∧ SaysX B ds K T
  of := fun _ s e => ⟨He.frG s.heap.get? ((asX s.heap.get? xs).filter fun a => !(tabG s.heap.get? a)), He.frG s.heap.get? ((asX s.heap.get? xs).filter (tabG s.heap.get?)), He.frG_in, He.frG_in, by
    have e : obsG xs B ds s.heap.get? = valX ds := e
    unfold obsG at e
    rw [frcA_eq, frcF_eq, frcF_eq] at e
    exact e⟩
  keeps := fun _ _ _ ⟨K, T, hK, hT, c⟩ k => ⟨K, T, PySem.W.Frag.In.keeps hK k, PySem.W.Frag.In.keeps hT k, c⟩
theorem obsG_eq {xs : List Str} {B : PySem.W.Frag → List Bool} {ds : List DX} {g : Addr → Option Obj} {s : Shared} (h : ∀ a, g a = s.heap.get? a) : obsG xs B ds g = (hookX xs B ds).obs s := by
  have e : g = s.heap.get? := funext h
  rw [e] <;> rfl
section
variable {B : PySem.W.Frag → List Bool} {ds : List DX} {K T : PySem.W.Frag}
theorem SaysX.fact (c : SaysX B ds K T) (i : Nat) {b : Bool} (h : (B K)[i]? = some b) : b = true := by
  have c1 := (He.ba (show ((B K).all id && ((ds.all fun d => d.ok K) && tabsB K T)) = true from congrArg (fun z : AlX => z.1) c)).1
  exact List.all_eq_true.mp c1 b (List.mem_of_getElem? h)
theorem SaysX.def_ (c : SaysX B ds K T) (i : Nat) {d : DX} (h : ds[i]? = some d) (n4 : d.kd.beq 4 = false := by rfl) : d.where_ K = true ∧
    ∃ oc od osl dV kV doc pm an cdv ct, K.lookup (d.ad K) = some ⟨oc, od, .func (PySem.W.fnOf d.nm d.qual d.params d.body d.scope dV kV doc pm an cdv ct), osl⟩ ∧ PySem.W.codeIn K cdv d.qual = true ∧ dflOk K dV d.dfl = true := by
  have c2 := (He.ba (He.ba (show ((B K).all id && ((ds.all fun d => d.ok K) && tabsB K T)) = true from congrArg (fun z : AlX => z.1) c)).2).1
  have c3 := List.all_eq_true.mp c2 d (List.mem_of_getElem? h)
  have e : ds.map (fun d => fnX K (d.ad K)) = ds.map DX.val := congrArg (fun z : AlX => z.2) c
  have e2 : (ds.map fun d => fnX K (d.ad K))[i]? = (ds.map DX.val)[i]? := by rw [e]
  rw [List.getElem?_map, List.getElem?_map, h] at e2
  exact ⟨(He.ba c3).1, fnX_ok n4 (Option.some.inj e2) c3⟩
theorem SaysX.def4 (c : SaysX B ds K T) (i : Nat) {d : DX} (h : ds[i]? = some d) (n4 : d.kd.beq 4 = true := by rfl) : d.where_ K = true ∧
    ∃ cc oc od osl dV kV doc pm an cdv ct, K.lookup (d.ad K) = some ⟨oc, od, .func (PySem.W.fnX d.nm d.qual d.params d.body d.scope [("__class__", cc)] dV kV doc pm an cdv ct), osl⟩ ∧ PySem.W.codeIn K cdv d.qual = true ∧ dflOk K dV d.dfl = true := by
  have c2 := (He.ba (He.ba (show ((B K).all id && ((ds.all fun d => d.ok K) && tabsB K T)) = true from congrArg (fun z : AlX => z.1) c)).2).1
  have c3 := List.all_eq_true.mp c2 d (List.mem_of_getElem? h)
  have e : ds.map (fun d => fnX K (d.ad K)) = ds.map DX.val := congrArg (fun z : AlX => z.2) c
  have e2 : (ds.map fun d => fnX K (d.ad K))[i]? = (ds.map DX.val)[i]? := by rw [e]
  rw [List.getElem?_map, List.getElem?_map, h] at e2
  exact ⟨(He.ba c3).1, fnX_ok4 n4 (Option.some.inj e2) c3⟩
theorem SaysX.tab (c : SaysX B ds K T) : tabsB K T = true := (He.ba (He.ba (show ((B K).all id && ((ds.all fun d => d.ok K) && tabsB K T)) = true from congrArg (fun z : AlX => z.1) c)).2).2
/-- what the tables come to -/
structure TabsOk (K : PySem.W.Frag) (mg : Str → Option Value) (h : Heap) (cs : List (Addr × Addr)) : Prop where
  tabs : ∀ p ∈ cs, h.get? p.2 = some { cls := .none, data := .fields #[] }
  off : ∀ p ∈ cs, K.lookup p.2 = none
  codes : ∀ p ∈ cs, PySem.W.CodeHd h p.1 p.2
  lam : ∀ p ∈ lamT ⟨K, mg⟩, p.1 ∈ cs.map (·.2)
  at_ : ∀ x ∈ lamDefs, ∀ f, PySem.W.nsIn K mainGlobals x = some (some (.ref f)) → ∃ c P, codeTab K f = some (c, P) ∧ (c, P) ∈ cs ∧ (P, x ++ ".<locals>.<lambda>") ∈ lamT ⟨K, mg⟩ ∧ ∀ p ∈ lamT ⟨K, mg⟩, p.1 = P → p.2 = x ++ ".<locals>.<lambda>"
theorem tabs_ok {mg : Str → Option Value} {h : Heap} (X : K.In h) (XT : T.In h) (G : h.Ns mainGlobals mg) (e : tabsB K T = true) : TabsOk K mg h (lamC K) := by
  obtain ⟨e1, e2⟩ := He.ba e
  have one : ∀ x ∈ lamDefs, (PySem.W.nsIn K mainGlobals x = some none) ∨ ∃ f c P, PySem.W.nsIn K mainGlobals x = some (some (.ref f)) ∧ codeTab K f = some (c, P) ∧ tabAt T P = true ∧ K.lookup P = none ∧ codeHdB K c P = true := fun x hx => by
    have z := List.all_eq_true.mp e1 x hx
    split at z
    · exact .inl ‹_›
    · rename_i f q
      split at z
      · rename_i c P r
        obtain ⟨z1, z⟩ := He.ba z
        obtain ⟨z2, z3⟩ := He.ba z
        refine .inr ⟨f, c, P, q, r, z1, ?_, z3⟩
        split at z2
        · assumption
        · cases z2
      · cases z
    · cases z
  have inC : ∀ p ∈ lamC K, ∃ x ∈ lamDefs, ∃ f, PySem.W.nsIn K mainGlobals x = some (some (.ref f)) ∧ codeTab K f = some p := fun p hp => by
    obtain ⟨x, hx, q⟩ := List.mem_filterMap.mp hp
    refine ⟨x, hx, ?_⟩
    split at q
    · exact ⟨_, ‹_›, q⟩
    · cases q
  have good : ∀ p ∈ lamC K, tabAt T p.2 = true ∧ K.lookup p.2 = none ∧ codeHdB K p.1 p.2 = true := fun p hp => by
    obtain ⟨x, hx, f, q, r⟩ := inC p hp
    rcases one x hx with z | ⟨f', c, P, q', r', z1, z2, z3⟩
    · rw [q] at z; cases z
    · rw [q] at q'
      cases q'
      rw [r] at r'
      cases r'
      exact ⟨z1, z2, z3⟩
  have inT : ∀ p, p ∈ lamT ⟨K, mg⟩ ↔ ∃ x ∈ lamDefs, ∃ f c, PySem.W.nsIn K mainGlobals x = some (some (.ref f)) ∧ codeTab K f = some (c, p.1) ∧ p.2 = x ++ ".<locals>.<lambda>" := fun p => by
    constructor
    · intro hp
      obtain ⟨x, hx, q⟩ := List.mem_filterMap.mp hp
      refine ⟨x, hx, ?_⟩
      rcases one x hx with z | ⟨f, c, P, z, r, _⟩
      · have m : mg x = none := PySem.W.mg_none_of X G z
        simp only [m] at q
        cases q
      · have m : mg x = some (.ref f) := PySem.W.mg_of X G z
        simp only [m] at q
        rw [tabOf_code, r] at q
        cases q
        exact ⟨f, c, z, r, rfl⟩
    · rintro ⟨x, hx, f, c, z, r, e⟩
      refine List.mem_filterMap.mpr ⟨x, hx, ?_⟩
      have m : mg x = some (.ref f) := PySem.W.mg_of X G z
      simp only [m]
      rw [tabOf_code, r]
      obtain ⟨a, b⟩ := p
      simp only at e ⊢
      rw [e]; rfl
  have mk : ∀ x ∈ lamDefs, ∀ f c P, PySem.W.nsIn K mainGlobals x = some (some (.ref f)) → codeTab K f = some (c, P) → (c, P) ∈ lamC K := fun x hx f c P z r => List.mem_filterMap.mpr ⟨x, hx, by simp only [z]; exact r⟩
  have nd := nodB_ok e2
  refine ⟨fun p hp => tab_of XT (good p hp).1, fun p hp => (good p hp).2.1, fun p hp => codeHd_of X (good p hp).2.2, fun p hp => ?_, fun x hx f z => ?_⟩
  · obtain ⟨x, hx, f, c, z, r, _⟩ := (inT p).mp hp
    exact List.mem_map.mpr ⟨(c, p.1), mk x hx f c _ z r, rfl⟩
  · rcases one x hx with q | ⟨f', c, P, q, r, _⟩
    · rw [z] at q; cases q
    · rw [z] at q
      cases q
      refine ⟨c, P, r, mk x hx f c P z r, (inT _).mpr ⟨x, hx, f, c, z, r, rfl⟩, fun p hp e => ?_⟩
      obtain ⟨y, hy, f2, c2, z2, r2, e3⟩ := (inT p).mp hp
      rw [e3]
      -- the same table, the same def
      rw [e] at r2
      by_cases hij : x = y
      · rw [hij]
      · exfalso
        have key : ∀ l : List Str, ((l.filterMap fun x => match PySem.W.nsIn K mainGlobals x with
            | some (some (.ref f)) => codeTab K f
            | _ => none).map (·.2)).Nodup → x ∈ l → y ∈ l → False := by
          intro l
          induction l with
          | nil => intro _ h; cases h
          | cons a l ih =>
            intro nd h1 h2
            have tail : ∀ b ∈ l, ∀ f' c', PySem.W.nsIn K mainGlobals b = some (some (.ref f')) → codeTab K f' = some (c', P) → P ∈ (l.filterMap fun x => match PySem.W.nsIn K mainGlobals x with
                | some (some (.ref f)) => codeTab K f
                | _ => none).map (·.2) := fun b hb f' c' z' r' => List.mem_map.mpr ⟨(c', P), List.mem_filterMap.mpr ⟨b, hb, by simp only [z']; exact r'⟩, rfl⟩
            have nd' : ((l.filterMap fun x => match PySem.W.nsIn K mainGlobals x with
                | some (some (.ref f)) => codeTab K f
                | _ => none).map (·.2)).Nodup := by
              rw [List.filterMap_cons] at nd
              split at nd
              · exact nd
              · exact (List.nodup_cons.mp (by simpa using nd)).2
            rcases List.mem_cons.mp h1 with rfl | h3
            · rcases List.mem_cons.mp h2 with rfl | h4
              · exact hij rfl
              · rw [List.filterMap_cons_some (by simp only [z]; exact r), List.map_cons] at nd
                exact (List.nodup_cons.mp nd).1 (tail y h4 f2 c2 z2 r2)
            · rcases List.mem_cons.mp h2 with rfl | h4
              · rw [List.filterMap_cons_some (by simp only [z2]; exact r2), List.map_cons] at nd
                exact (List.nodup_cons.mp nd).1 (tail x h3 f c z r)
              · exact ih nd' h3 h4
        exact key lamDefs nd hx hy
end
section
variable {K : PySem.W.Frag} {d : DX}
theorem wh0 (hk : d.kd = 0) (h : d.where_ K = true) : PySem.W.nsIn K mainGlobals d.nm = some (some (.ref (d.ad K))) ∧ PySem.W.keepIn K (.ref (d.ad K)) = true := by
  unfold DX.where_ at h
  rw [hk] at h
  exact ⟨He.eqO_ok (He.ba h).1, (He.ba h).2⟩
theorem wh1 (hk : d.kd = 1) (h : d.where_ K = true) : PySem.W.findIn K (.ref (He.ga K d.cls)) d.nm = some (some (.ref (d.ad K))) ∧ PySem.W.isFn K (.ref (d.ad K)) = true ∧ PySem.W.keepIn K (.ref (d.ad K)) = true := by
  unfold DX.where_ at h
  rw [hk] at h
  exact ⟨He.eqO_ok (He.ba h).1, (He.ba (He.ba h).2).1, (He.ba (He.ba h).2).2⟩
theorem wh2 (hk : d.kd = 2) (h : d.where_ K = true) : PySem.W.findIn K (.ref (He.ga K d.cls)) d.nm = some (some (.ref (d.ad K))) ∧ PySem.W.isFn K (.ref (d.ad K)) = true := by
  unfold DX.where_ at h
  rw [hk] at h
  exact ⟨He.eqO_ok (He.ba h).1, (He.ba h).2⟩
theorem wh4 (hk : d.kd = 4) (h : d.where_ K = true) : PySem.W.findIn K (.ref (He.ga K d.cls)) d.nm = some (some (.ref (d.ad K))) ∧ PySem.W.isFn K (.ref (d.ad K)) = true := by
  unfold DX.where_ at h
  rw [hk] at h
  exact ⟨He.eqO_ok (He.ba h).1, (He.ba h).2⟩
theorem wh3 (hk : d.kd = 3) (h : d.where_ K = true) : PySem.W.findIn K (.ref (He.ga K d.cls)) d.nm = some (some (.ref (d.st K))) ∧ PySem.W.specialIn K (.ref (d.st K)) "__get__" = some (some (.builtin "property.__get__")) ∧
    PySem.W.takesIn K (.ref (d.st K)) = some true ∧ PySem.W.recIn K (d.st K) "property" = some (.ref (d.ad K) :: pRest K (d.st K)) ∧ PySem.W.keepIn K (.ref (d.ad K)) = true := by
  have ea : d.ad K = pFn K (d.st K) := by
    unfold DX.ad
    rw [hk]
    rfl
  unfold DX.where_ at h
  rw [hk] at h
  obtain ⟨h1, h⟩ := He.ba h
  obtain ⟨h2, h⟩ := He.ba h
  obtain ⟨h3, h⟩ := He.ba h
  obtain ⟨h4, h5⟩ := He.ba h
  refine ⟨He.eqO_ok h1, He.eqO_ok h2, of_decide_eq_true h3, ?_, h5⟩
  rw [ea]
  exact of_decide_eq_true h4
end
/-- the token of a constant -/
def tokAt (K : PySem.W.Frag) (x : Str) : Tok := match PySem.W.nsIn K mainGlobals x with
  | some (some (.int _ t)) => t
  | some (some (.str _ t)) => t
  | _ => default
theorem walk_lawH {l : PySem.W.OpenLaw} {k : Nat} {q : Program} {loose : List Str} {XP : (Str → Option Value) → Heap → Prop} {YP : World → Heap → Prop} {d : DefRec} {x : Str}
    (hn : l.most = some 63) (hdf : d.params.defaults = []) (hr : Room k callerA)
    (F : ∀ (w : World) (mg : Str → Option Value) (fa : Addr) (h : Heap), YP w h → h.Ns mainGlobals mg → mg d.name = some (.ref fa) →
      ∃ (K : PySem.W.Frag) (fd : FuncData) (cs : List (Addr × Addr)), K.In h ∧ TabsOk K mg h cs ∧ lamT ⟨K, mg⟩ ≠ [] ∧ (∀ (s : Shared) (u : Value), BindsTo s fd ⟨[u], []⟩ [(x, u)]) ∧
        ∀ base : Heap, K.In base → base.Ns mainGlobals mg → (∀ p ∈ cs, LamX.TabB base mg p.1 p.2) → FnG l.prog w K mg base k fa fd [x] (spLaw ⟨K, mg⟩)) :
    PySem.W.WalkO q loose XP YP l.row.toRowW d [] (fun f vs => PySem.call f vs) := by
  refine Att.attach_call hn hdf fun w s₀ s₁ mg mb fa o pm cd doc a vs ns G Y ho hd hcd hmg hobj hints hlen hg => ?_
  obtain ⟨K, fd, cs, KX, TO, ne, hb, hF⟩ := F w mg fa _ Y G.T.g hmg
  exact law_callG KX G.T.g G.T.b G.T.builtins G.T.nolimit hg TO.tabs TO.off TO.codes ⟨ne, TO.lam⟩ G.T.bmain hobj hints hlen hr hF hb
end Hd

namespace Pg
open PySem L2 Fx

theorem slt_irrefl (a : Str) : slt a a = false := by
  unfold slt
  exact decide_eq_false (List.lt_irrefl _)
theorem slt_trans {a b c : Str} (h1 : slt a b = true) (h2 : slt b c = true) : slt a c = true := by
  unfold slt at *
  exact decide_eq_true (List.lt_trans (of_decide_eq_true h1) (of_decide_eq_true h2))
theorem str_ext {a b : Str} (h : a.cps.toList = b.cps.toList) : a = b := by
  cases a; cases b
  congr
  exact Array.toList_inj.mp h
theorem slt_conn {a b : Str} (h : a ≠ b) : slt a b = true ∨ slt b a = true := by
  unfold slt
  by_cases c : a.cps.toList < b.cps.toList
  · exact .inl (decide_eq_true c)
  · by_cases d : b.cps.toList < a.cps.toList
    · exact .inr (decide_eq_true d)
    · exact absurd (str_ext (List.le_antisymm (List.not_lt.mp d) (List.not_lt.mp c))) h
theorem slt_ne {a b : Str} (h : slt a b = true) : a ≠ b := by
  intro e
  subst e
  rw [slt_irrefl] at h
  cases h
theorem slt_asymm {a b : Str} (h : slt a b = true) : slt b a = false := by
  cases c : slt b a with
  | false => rfl
  | true =>
    have := slt_trans h c
    rw [slt_irrefl] at this
    cases this

abbrev Plan := List (Str × Int)
def Asc (p : Plan) : Prop := p.Pairwise fun a b => slt a.1 b.1 = true
def get : Plan → Str → Option Int
  | [], _ => none
  | x :: r, n => if x.1 = n then some x.2 else get r n
theorem get_cons (x : Str × Int) (r : Plan) (n : Str) : get (x :: r) n = if x.1 = n then some x.2 else get r n := rfl
theorem get_none {p : Plan} {n : Str} : get p n = none ↔ ∀ x ∈ p, x.1 ≠ n := by
  induction p with
  | nil => simp [get]
  | cons x r ih =>
    rw [get_cons]
    by_cases c : x.1 = n
    · rw [if_pos c]
      constructor
      · intro h; cases h
      · intro h; exact absurd c (h x (by simp))
    · rw [if_neg c, ih]
      constructor
      · intro h y hy
        rcases List.mem_cons.mp hy with rfl | hy
        · exact c
        · exact h y hy
      · intro h y hy; exact h y (by simp [hy])
theorem get_mem {p : Plan} {n : Str} {m : Int} (h : get p n = some m) : (n, m) ∈ p := by
  induction p with
  | nil => cases h
  | cons x r ih =>
    rw [get_cons] at h
    by_cases c : x.1 = n
    · rw [if_pos c] at h
      cases h
      cases c
      simp
    · rw [if_neg c] at h
      simp [ih h]
theorem mem_get {p : Plan} (hn : (p.map (·.1)).Nodup) {n : Str} {m : Int} (h : (n, m) ∈ p) : get p n = some m := by
  induction p with
  | nil => cases h
  | cons x r ih =>
    rw [List.map_cons, List.nodup_cons] at hn
    rw [get_cons]
    rcases List.mem_cons.mp h with h | h
    · subst h; simp
    · have : x.1 ≠ n := fun e => hn.1 (by rw [e]; exact List.mem_map.mpr ⟨_, h, rfl⟩)
      rw [if_neg this]
      exact ih hn.2 h
theorem Asc.nodup {p : Plan} (h : Asc p) : (p.map (·.1)).Nodup := by
  induction p with
  | nil => exact List.nodup_nil
  | cons x r ih =>
    have h' := List.pairwise_cons.mp h
    rw [List.map_cons, List.nodup_cons]
    refine ⟨fun hm => ?_, ih h'.2⟩
    obtain ⟨y, hy, e⟩ := List.mem_map.mp hm
    exact slt_ne (h'.1 y hy) e.symm
theorem Asc.tail {x : Str × Int} {p : Plan} (h : Asc (x :: p)) : Asc p := (List.pairwise_cons.mp h).2
theorem Asc.head {x : Str × Int} {p : Plan} (h : Asc (x :: p)) : ∀ y ∈ p, slt x.1 y.1 = true := (List.pairwise_cons.mp h).1
theorem asc_ext : ∀ {p q : Plan}, Asc p → Asc q → (∀ n, get p n = get q n) → p = q
  | [], [], _, _, _ => rfl
  | [], y :: q, _, _, h => by have := h y.1; simp [get] at this
  | x :: p, [], _, _, h => by have := h x.1; simp [get] at this
  | x :: p, y :: q, hp, hq, h => by
    have e : x.1 = y.1 := by
      by_cases c : x.1 = y.1
      · exact c
      · exfalso
        have h1 := h x.1
        have h2 := h y.1
        simp only [get, if_true, if_neg c, if_neg (Ne.symm c)] at h1 h2
        have m1 := get_mem h1.symm
        have m2 := get_mem h2
        have a1 := hq.head _ m1
        have a2 := hp.head _ m2
        rw [slt_asymm a1] at a2
        cases a2
    have v : x.2 = y.2 := by
      have h1 := h x.1
      simp only [get, if_true, if_pos e.symm] at h1
      exact Option.some.inj h1
    have t : p = q := asc_ext hp.tail hq.tail fun n => by
      by_cases c : x.1 = n
      · have n1 : get p n = none := get_none.mpr fun z hz => fun e2 => slt_ne (hp.head z hz) (c.trans e2.symm)
        have n2 : get q n = none := get_none.mpr fun z hz => fun e2 => slt_ne (hq.head z hz) (e.symm.trans (c.trans e2.symm))
        rw [n1, n2]
      · have h1 := h n
        simp only [get, if_neg c, if_neg (fun z => c (e.trans z))] at h1
        exact h1
    rw [t]
    congr 1
    exact Prod.ext e v

def putP (p : Plan) (k : Int) : Plan := p.map fun x => (x.1, x.2 + k)
theorem putP_get (p : Plan) (k : Int) (n : Str) : get (putP p k) n = (get p n).map (· + k) := by
  induction p with
  | nil => rfl
  | cons x r ih =>
    show (if x.1 = n then some (x.2 + k) else get (putP r k) n) = _
    rw [get_cons]
    by_cases c : x.1 = n
    · rw [if_pos c, if_pos c]; rfl
    · rw [if_neg c, if_neg c]; exact ih
theorem putP_asc {p : Plan} (h : Asc p) (k : Int) : Asc (putP p k) := by
  unfold Asc putP
  rw [List.pairwise_map]
  exact h
theorem putP_zero (p : Plan) : putP p 0 = p := by
  unfold putP
  have : (fun x : Str × Int => (x.1, x.2 + 0)) = id := by funext x; simp
  rw [this, List.map_id]
theorem putP_putP (p : Plan) (a b : Int) : putP (putP p a) b = putP p (a + b) := by
  unfold putP
  rw [List.map_map]
  congr 1
  funext x
  simp [Int.add_assoc]

def maxO : Option Int → Option Int → Option Int
  | none, b => b
  | some a, none => some a
  | some a, some b => some (max a b)
theorem maxO_assoc (a b c : Option Int) : maxO (maxO a b) c = maxO a (maxO b c) := by cases a <;> cases b <;> cases c <;> simp [maxO, Int.max_assoc]
theorem maxO_none (a : Option Int) : maxO a none = a := by cases a <;> rfl
theorem none_maxO (a : Option Int) : maxO none a = a := by cases a <;> rfl
def insP : Plan → Str × Int → Plan
  | [], y => [y]
  | x :: r, y => if x.1 = y.1 then (x.1, max x.2 y.2) :: r else if slt y.1 x.1 = true then y :: x :: r else x :: insP r y
theorem insP_mem {p : Plan} {y z : Str × Int} (h : z ∈ insP p y) : z.1 = y.1 ∨ z ∈ p := by
  induction p with
  | nil => rw [insP, List.mem_singleton] at h; rw [h]; exact .inl rfl
  | cons x r ih =>
    unfold insP at h
    split at h
    · rename_i c
      rcases List.mem_cons.mp h with h | h
      · rw [h]; exact .inl c
      · exact .inr (by simp [h])
    · split at h
      · rcases List.mem_cons.mp h with h | h
        · rw [h]; exact .inl rfl
        · exact .inr h
      · rcases List.mem_cons.mp h with h | h
        · rw [h]; exact .inr (by simp)
        · exact (ih h).imp id fun h => by simp [h]
theorem insP_asc {p : Plan} (h : Asc p) (y : Str × Int) : Asc (insP p y) := by
  induction p with
  | nil => exact List.pairwise_singleton _ _
  | cons x r ih =>
    unfold insP
    split
    · exact List.pairwise_cons.mpr ⟨h.head, h.tail⟩
    · rename_i c
      split
      · rename_i d
        refine List.pairwise_cons.mpr ⟨fun z hz => ?_, h⟩
        rcases List.mem_cons.mp hz with rfl | hz
        · exact d
        · exact slt_trans d (h.head z hz)
      · rename_i d
        refine List.pairwise_cons.mpr ⟨fun z hz => ?_, ih h.tail⟩
        rcases insP_mem hz with e | hz
        · rw [e]; exact (slt_conn c).resolve_right d
        · exact h.head z hz
theorem insP_get {p : Plan} (h : Asc p) (y : Str × Int) (n : Str) : get (insP p y) n = if y.1 = n then maxO (get p n) (some y.2) else get p n := by
  induction p with
  | nil =>
    show (if y.1 = n then some y.2 else none) = _
    rfl
  | cons x r ih =>
    unfold insP
    split
    · rename_i c
      show (if x.1 = n then some (max x.2 y.2) else get r n) = _
      rw [get_cons]
      by_cases d : x.1 = n
      · rw [if_pos d, if_pos (c.symm.trans d), if_pos d]; rfl
      · rw [if_neg d, if_neg (fun z => d (c.trans z)), if_neg d]
    · rename_i c
      split
      · rename_i d
        show (if y.1 = n then some y.2 else get (x :: r) n) = _
        by_cases e : y.1 = n
        · rw [if_pos e, if_pos e]
          have : get (x :: r) n = none := get_none.mpr fun z hz => by
            rcases List.mem_cons.mp hz with rfl | hz
            · exact fun q => c (q.trans e.symm)
            · exact fun q => slt_ne (slt_trans d (h.head z hz)) (e.trans q.symm)
          rw [this]; rfl
        · rw [if_neg e, if_neg e]
      · show (if x.1 = n then some x.2 else get (insP r y) n) = _
        by_cases e : x.1 = n
        · rw [if_pos e, if_neg (fun z => c (e.trans z.symm))]
          rw [get_cons]
          rw [if_pos e]
        · rw [if_neg e, ih h.tail]
          show _ = if y.1 = n then maxO (if x.1 = n then some x.2 else get r n) (some y.2) else if x.1 = n then some x.2 else get r n
          rw [if_neg e]
def topP (l : Plan) (n : Str) : Option Int := l.foldl (fun o x => if x.1 = n then maxO o (some x.2) else o) none
theorem top_from (l : Plan) (n : Str) : ∀ o, l.foldl (fun o x => if x.1 = n then maxO o (some x.2) else o) o = maxO o (topP l n) := by
  induction l with
  | nil => intro o; exact (maxO_none o).symm
  | cons x r ih =>
    intro o
    show r.foldl _ (if x.1 = n then maxO o (some x.2) else o) = maxO o (r.foldl _ (if x.1 = n then maxO none (some x.2) else none))
    rw [ih, ih]
    by_cases c : x.1 = n
    · rw [if_pos c, if_pos c, ← maxO_assoc, none_maxO]
    · rw [if_neg c, if_neg c, none_maxO]
theorem top_app (l m : Plan) (n : Str) : topP (l ++ m) n = maxO (topP l n) (topP m n) := by
  unfold topP
  rw [List.foldl_append, top_from]
  rfl
theorem top_get {p : Plan} (h : (p.map (·.1)).Nodup) (n : Str) : topP p n = get p n := by
  induction p with
  | nil => rfl
  | cons x r ih =>
    rw [List.map_cons, List.nodup_cons] at h
    show r.foldl _ (if x.1 = n then maxO none (some x.2) else none) = _
    rw [top_from, ih h.2]
    rw [get_cons]
    by_cases c : x.1 = n
    · rw [if_pos c, if_pos c]
      have : get r n = none := get_none.mpr fun z hz e => h.1 (by rw [c, ← e]; exact List.mem_map.mpr ⟨z, hz, rfl⟩)
      rw [this]; rfl
    · rw [if_neg c, if_neg c, none_maxO]
def joinP (ps : List Plan) : Plan := ps.flatten.foldl insP []
theorem ins_fold (l : Plan) : ∀ p, Asc p → Asc (l.foldl insP p) ∧ ∀ n, get (l.foldl insP p) n = maxO (get p n) (topP l n) := by
  induction l with
  | nil => intro p h; exact ⟨h, fun n => (maxO_none _).symm⟩
  | cons x r ih =>
    intro p h
    obtain ⟨h1, h2⟩ := ih (insP p x) (insP_asc h x)
    refine ⟨h1, fun n => ?_⟩
    show get (r.foldl insP (insP p x)) n = maxO (get p n) (r.foldl _ (if x.1 = n then maxO none (some x.2) else none))
    rw [h2, insP_get h, top_from]
    by_cases c : x.1 = n
    · rw [if_pos c, if_pos c, none_maxO, maxO_assoc]
    · rw [if_neg c, if_neg c, none_maxO]
theorem joinP_asc (ps : List Plan) : Asc (joinP ps) := (ins_fold _ [] List.Pairwise.nil).1
theorem joinP_top (ps : List Plan) (n : Str) : get (joinP ps) n = topP ps.flatten n := ((ins_fold _ [] List.Pairwise.nil).2 n).trans (none_maxO _)
theorem joinP_get (ps : List Plan) (h : ∀ p ∈ ps, Asc p) (n : Str) : get (joinP ps) n = ps.foldr (fun p o => maxO (get p n) o) none := by
  rw [joinP_top]
  induction ps with
  | nil => rfl
  | cons p ps ih =>
    rw [List.flatten_cons, top_app, ih fun q hq => h q (by simp [hq]), top_get (h p (by simp)).nodup]
    rfl
theorem joinP_names (ps : List Plan) {x : Str × Int} (h : x ∈ joinP ps) : ∃ p ∈ ps, ∃ y ∈ p, y.1 = x.1 := by
  have h1 := mem_get (joinP_asc ps).nodup (n := x.1) (m := x.2) h
  rw [joinP_top] at h1
  have : ∀ l : Plan, topP l x.1 = some x.2 → ∃ y ∈ l, y.1 = x.1 := by
    intro l hl
    refine Classical.byContradiction fun hno => ?_
    have : ∀ l : Plan, (∀ y ∈ l, y.1 ≠ x.1) → topP l x.1 = none := by
      intro l
      induction l with
      | nil => intro _; rfl
      | cons y r ih =>
        intro hh
        show r.foldl _ (if y.1 = x.1 then maxO none (some y.2) else none) = _
        rw [if_neg (hh y (by simp)), top_from, none_maxO]
        exact ih fun z hz => hh z (by simp [hz])
    rw [this l fun y hy e => hno ⟨y, hy, e⟩] at hl
    cases hl
  obtain ⟨y, hy, e⟩ := this _ h1
  obtain ⟨p, hp, hy⟩ := List.mem_flatten.mp hy
  exact ⟨p, hp, y, hy, e⟩

def roomP (p q : Plan) : Option Int := if p = [] ∨ ¬ (p.all fun x => (get q x.1).isSome) = true then none else some (minI (p.map fun x => (get q x.1).getD 0 - x.2))
def lastP (p : Plan) : Int := if p = [] then 0 else maxI (p.map (·.2))
def normalP (p : Plan) : Plan := putP p (-(lastP p))

def letters : Str := "abcdefghijklmnopqrstuvwxyz"
structure OkName (n : Str) : Prop where
  lo : 1 ≤ n.length
  hi : n.length ≤ 6
  al : ∀ c ∈ n.cps.toList, c ∈ letters.cps.toList
/-- words that may be things' names -/
structure Wd (W : List Str) : Prop where
  nm : ∀ n ∈ W, OkName n
  sz : W.length ≤ 1000
/-- a plan over the words W -/
structure Pl (W : List Str) (p : Plan) : Prop where
  w : Wd W
  asc : Asc p
  sub : ∀ x ∈ p, x.1 ∈ W
theorem Pl.nm {W : List Str} {p : Plan} (h : Pl W p) : ∀ x ∈ p, OkName x.1 := fun x hx => h.w.nm _ (h.sub x hx)
theorem nodup_len [DecidableEq α] : ∀ {l W : List α}, l.Nodup → (∀ x ∈ l, x ∈ W) → l.length ≤ W.length
  | [], W, _, _ => Nat.zero_le _
  | x :: l, W, hn, hs => by
    have hx := hs x (by simp)
    have hn' := List.nodup_cons.mp hn
    have := nodup_len (W := W.erase x) hn'.2 fun y hy => (List.mem_erase_of_ne (fun e : y = x => hn'.1 (by rw [← e]; exact hy))).mpr (hs y (by simp [hy]))
    rw [List.length_erase_of_mem hx] at this
    have : 0 < W.length := List.length_pos_of_mem hx
    simp only [List.length_cons]
    omega
theorem Pl.put {W : List Str} {p : Plan} (h : Pl W p) (k : Int) : Pl W (putP p k) := ⟨h.w, putP_asc h.asc k, fun x hx => by
  unfold putP at hx
  obtain ⟨y, hy, rfl⟩ := List.mem_map.mp hx
  exact h.sub y hy⟩
theorem Pl.join {W : List Str} {ps : List Plan} (w : Wd W) (h : ∀ p ∈ ps, Pl W p) : Pl W (joinP ps) := ⟨w, joinP_asc ps, fun x hx => by
  obtain ⟨p, hp, y, hy, e⟩ := joinP_names ps hx
  exact e ▸ (h p hp).sub y hy⟩
theorem Pl.nil {W : List Str} (w : Wd W) : Pl W [] := ⟨w, List.Pairwise.nil, by simp⟩
theorem plainAll_map {α : Type} (f : α → PyData) : ∀ l : List α, (∀ x ∈ l, (f x).plain = true) → PyData.plainAll (l.map f) = true
  | [], _ => rfl
  | x :: l, h => by
    show ((f x).plain && PyData.plainAll (l.map f)) = true
    rw [h x (by simp), plainAll_map f l fun y hy => h y (by simp [hy])]; rfl
theorem depthAll_map {α : Type} (f : α → PyData) (n : Nat) : ∀ l : List α, (∀ x ∈ l, (f x).depth ≤ n) → PyData.depthAll (l.map f) ≤ n
  | [], _ => Nat.zero_le _
  | x :: l, h => by
    show max (f x).depth (PyData.depthAll (l.map f)) ≤ n
    have h1 := h x (by simp)
    have h2 := depthAll_map f n l fun y hy => h y (by simp [hy])
    omega
theorem pl_str (n : Str) : pl (.str n) = true := by simp [pl, PyData.plain, PyData.depth]
theorem pl_int (n : Int) : pl (.int n) = true := by simp [pl, PyData.plain, PyData.depth]
theorem eqv_str (a b : Str) : PyData.eqv (.str a) (.str b) = decide (a = b) := by simp only [PyData.eqv]; by_cases c : a = b <;> simp [c]
theorem eqv_int (a b : Int) : PyData.eqv (.int a) (.int b) = decide (a = b) := by simp only [PyData.eqv]; by_cases c : a = b <;> simp [c]
theorem fn_rt {np n : Nat} {b : EFs} {as : List AV} {g g' : Gs} {r : RV} (hl : as.length = np) (h : b (slots n as) g = .ok (.rt r) g') : fnR np n b as g = .ok r g' := by
  unfold fnR; rw [if_pos hl, h]; rfl
theorem fn_nx {np n : Nat} {b : EFs} {as : List AV} {g g' : Gs} {ρ : List SD} (hl : as.length = np) (h : b (slots n as) g = .ok (.nx ρ) g') : fnR np n b as g = .ok (.d .none) g' := by
  unfold fnR; rw [if_pos hl, h]; rfl
theorem sl1 : (1 ≤ sizeLine) = True := eq_true (by decide)
theorem sl2 : (2 ≤ sizeLine) = True := eq_true (by decide)
theorem sl3 : (3 ≤ sizeLine) = True := eq_true (by decide)
theorem sl4 : (4 ≤ sizeLine) = True := eq_true (by decide)
theorem sl5 : (5 ≤ sizeLine) = True := eq_true (by decide)
theorem sl6 : (6 ≤ sizeLine) = True := eq_true (by decide)
theorem sl7 : (7 ≤ sizeLine) = True := eq_true (by decide)
theorem sl8 : (8 ≤ sizeLine) = True := eq_true (by decide)
theorem sl9 : (9 ≤ sizeLine) = True := eq_true (by decide)
theorem sl10 : (10 ≤ sizeLine) = True := eq_true (by decide)
theorem sl11 : (11 ≤ sizeLine) = True := eq_true (by decide)
theorem sl12 : (12 ≤ sizeLine) = True := eq_true (by decide)
theorem sl13 : (13 ≤ sizeLine) = True := eq_true (by decide)
theorem sl14 : (14 ≤ sizeLine) = True := eq_true (by decide)
theorem sl15 : (15 ≤ sizeLine) = True := eq_true (by decide)
theorem sl16 : (16 ≤ sizeLine) = True := eq_true (by decide)
theorem sl17 : (17 ≤ sizeLine) = True := eq_true (by decide)
theorem sl18 : (18 ≤ sizeLine) = True := eq_true (by decide)
theorem sl19 : (19 ≤ sizeLine) = True := eq_true (by decide)
theorem sl20 : (20 ≤ sizeLine) = True := eq_true (by decide)
theorem sl21 : (21 ≤ sizeLine) = True := eq_true (by decide)
theorem sl22 : (22 ≤ sizeLine) = True := eq_true (by decide)
theorem sl23 : (23 ≤ sizeLine) = True := eq_true (by decide)
theorem sl24 : (24 ≤ sizeLine) = True := eq_true (by decide)
theorem sl25 : (25 ≤ sizeLine) = True := eq_true (by decide)
theorem sl26 : (26 ≤ sizeLine) = True := eq_true (by decide)
theorem sl27 : (27 ≤ sizeLine) = True := eq_true (by decide)
theorem sl28 : (28 ≤ sizeLine) = True := eq_true (by decide)
theorem sl29 : (29 ≤ sizeLine) = True := eq_true (by decide)
theorem sl30 : (30 ≤ sizeLine) = True := eq_true (by decide)
theorem R.bind_cg {α β : Type} {m m' : R α} (k : α → Gs → R β) (h : m = m') : m.bind k = m'.bind k := by rw [h]
theorem oLen_str {n : Str} (h : n.length ≤ sizeLine) : oLen (.str n) = some (.d (.int n.length)) := if_pos h
theorem oLen_list (xs : List PyData) : oLen (.list xs) = some (.d (.int xs.length)) := rfl
theorem oEq_int (a b : Int) : oEq (.int a) (.int b) = some (.d (.bool (decide (a = b)))) := by unfold oEq; rw [if_pos ⟨pl_int a, pl_int b⟩, eqv_int]
def okName (n : Str) : Bool := decide (1 ≤ n.length) && decide (n.length ≤ 6) && n.cps.toList.all fun c => decide (c ∈ letters.cps.toList)
theorem okName_iff (n : Str) : okName n = true ↔ OkName n := by
  unfold okName
  simp only [Bool.and_eq_true, decide_eq_true_eq, List.all_eq_true]
  exact ⟨fun h => ⟨h.1.1, h.1.2, h.2⟩, fun h => ⟨⟨h.lo, h.hi⟩, h.al⟩⟩
end Pg

namespace Pg
open PySem L2 Fx
def top (i : Nat) : Stmt := PySem.Challenge.pw_lastmakers_k02_plans_judged.main.body.getD i (.Pass ⟨0, 0, 0, 0⟩)
abbrev s__law_begun : Stmt := top 16
abbrev s__law_draw : Stmt := top 17
abbrev s__law_pick : Stmt := top 18
abbrev s__law_words : Stmt := top 19
abbrev s__law_row : Stmt := top 20
abbrev s__law_odd : Stmt := top 21
abbrev s__law_bent : Stmt := top 24
abbrev s__law_is_row : Stmt := top 22
abbrev s_is_name : Stmt := top 8
abbrev s_is_number : Stmt := top 7
abbrev s_is_pair : Stmt := top 9
abbrev s_are_pairs : Stmt := top 10
abbrev s_is_plan : Stmt := top 11
abbrev s_need_plan : Stmt := top 12
abbrev s_moment_in : Stmt := top 13
abbrev s_moment_of : Stmt := top 14
abbrev s__law_error : Stmt := top 23
abbrev s_law : Stmt := top 25
abbrev s_BadThing___init__ : Stmt := inClass (top 3) 0
end Pg
namespace Hx
open PySem PySem.Spec PyProof.Rows L2 Fx Pg
def d0 : Hd.DX := ⟨0, "", "_law_begun", "_law_begun", defArgs s__law_begun, defBody s__law_begun, defScope s__law_begun, 0⟩
def d1 : Hd.DX := ⟨0, "", "_law_draw", "_law_draw", defArgs s__law_draw, defBody s__law_draw, defScope s__law_draw, 0⟩
def d2 : Hd.DX := ⟨0, "", "_law_pick", "_law_pick", defArgs s__law_pick, defBody s__law_pick, defScope s__law_pick, 0⟩
def d3 : Hd.DX := ⟨0, "", "_law_words", "_law_words", defArgs s__law_words, defBody s__law_words, defScope s__law_words, 0⟩
def d4 : Hd.DX := ⟨0, "", "_law_row", "_law_row", defArgs s__law_row, defBody s__law_row, defScope s__law_row, 0⟩
def d5 : Hd.DX := ⟨0, "", "_law_odd", "_law_odd", defArgs s__law_odd, defBody s__law_odd, defScope s__law_odd, 0⟩
def d6 : Hd.DX := ⟨0, "", "_law_bent", "_law_bent", defArgs s__law_bent, defBody s__law_bent, defScope s__law_bent, 0⟩
def d7 : Hd.DX := ⟨0, "", "_law_is_row", "_law_is_row", defArgs s__law_is_row, defBody s__law_is_row, defScope s__law_is_row, 0⟩
def d8 : Hd.DX := ⟨0, "", "is_name", "is_name", defArgs s_is_name, defBody s_is_name, defScope s_is_name, 0⟩
def d9 : Hd.DX := ⟨0, "", "is_number", "is_number", defArgs s_is_number, defBody s_is_number, defScope s_is_number, 0⟩
def d10 : Hd.DX := ⟨0, "", "is_pair", "is_pair", defArgs s_is_pair, defBody s_is_pair, defScope s_is_pair, 0⟩
def d11 : Hd.DX := ⟨0, "", "are_pairs", "are_pairs", defArgs s_are_pairs, defBody s_are_pairs, defScope s_are_pairs, 0⟩
def d12 : Hd.DX := ⟨0, "", "is_plan", "is_plan", defArgs s_is_plan, defBody s_is_plan, defScope s_is_plan, 0⟩
def d13 : Hd.DX := ⟨0, "", "need_plan", "need_plan", defArgs s_need_plan, defBody s_need_plan, defScope s_need_plan, 0⟩
def d14 : Hd.DX := ⟨0, "", "moment_in", "moment_in", defArgs s_moment_in, defBody s_moment_in, defScope s_moment_in, 0⟩
def d15 : Hd.DX := ⟨0, "", "moment_of", "moment_of", defArgs s_moment_of, defBody s_moment_of, defScope s_moment_of, 0⟩
def d16 : Hd.DX := ⟨0, "", "_law_error", "_law_error", defArgs s__law_error, defBody s__law_error, defScope s__law_error, 0⟩
def d17 : Hd.DX := ⟨0, "", "law", "law", defArgs s_law, defBody s_law, defScope s_law, 0⟩
def d18 : Hd.DX := ⟨4, "BadThing", "__init__", "BadThing.__init__", defArgs s_BadThing___init__, defBody s_BadThing___init__, defScope s_BadThing___init__, 0⟩
def ds0 : List Hd.DX := [d0, d1, d2, d3, d4, d5, d6, d7, d8, d9, d10, d11, d12, d13, d14, d15, d16, d17, d18]
def ds : List Hd.DX := ds0
def xs0 : List Str := ["_law_begun", "_law_draw", "_law_pick", "_law_words", "_law_row", "_law_odd", "_law_bent", "_law_is_row", "is_name", "is_number", "is_pair", "are_pairs", "is_plan", "need_plan", "moment_in", "moment_of", "_law_error", "law", "BadPlan", "BadThing", "PlanError"]
def xs : List Str := xs0
def B0 (K : PySem.W.Frag) : List Bool := [He.eqO (PySem.W.nsIn K mainGlobals "BadPlan") (some (some (.ref (He.ga K "BadPlan")))), (PySem.W.clsIn K (He.ga K "BadPlan")).isSome, He.eqO (PySem.W.findIn K (.ref (He.ga K "BadPlan")) "__getattribute__") (some (some (.builtin "BaseException.__getattribute__"))), He.eqO (PySem.W.findIn K (.ref (He.ga K "BadPlan")) "__getattr__") (some none), decide (PySem.W.subIn K (.ref (He.ga K "BadPlan")) (.type "BaseException") = some true), PySem.W.hasDictIn K (He.ga K "BadPlan"), He.eqO (PySem.W.findIn K (.ref (He.ga K "BadPlan")) "__class__") (some (some (.builtin "object.__class__"))), decide (PySem.W.mroIn K (He.ga K "BadPlan") (.type "object") = some true), decide (PySem.W.typeIn K (.ref (He.ga K "BadPlan")) = some (.type "type")), decide (PySem.W.kitOne K (.ref (He.ga K "BadPlan")) (.type "ValueError") = some true), decide (PySem.W.exmOne K (.ref (He.ga K "BadPlan")) (.ref (He.ga K "PlanError")) = some true), decide (PySem.W.kitOne K (.type "NoneType") (.ref (He.ga K "BadPlan")) = some false), decide (PySem.W.kitOne K (.ref (He.ga K "BadPlan")) (.ref (He.ga K "BadPlan")) = some true), decide (PySem.W.kitOne K (.ref (He.ga K "BadPlan")) (.ref (He.ga K "BadThing")) = some false), PySem.W.excIn K (He.ga K "BadPlan") [.type "ValueError", .type "Exception", .type "BaseException", .type "object"] "ValueError.__new__", PySem.W.keepIn K (.ref (He.ga K "BadPlan")), He.eqO (PySem.W.nsIn K mainGlobals "BadThing") (some (some (.ref (He.ga K "BadThing")))), (PySem.W.clsIn K (He.ga K "BadThing")).isSome, He.eqO (PySem.W.findIn K (.ref (He.ga K "BadThing")) "__getattribute__") (some (some (.builtin "BaseException.__getattribute__"))), He.eqO (PySem.W.findIn K (.ref (He.ga K "BadThing")) "__getattr__") (some none), decide (PySem.W.subIn K (.ref (He.ga K "BadThing")) (.type "BaseException") = some true), PySem.W.hasDictIn K (He.ga K "BadThing"), He.eqO (PySem.W.findIn K (.ref (He.ga K "BadThing")) "__class__") (some (some (.builtin "object.__class__"))), decide (PySem.W.mroIn K (He.ga K "BadThing") (.type "object") = some true), decide (PySem.W.typeIn K (.ref (He.ga K "BadThing")) = some (.type "type")), decide (PySem.W.kitOne K (.ref (He.ga K "BadThing")) (.type "ValueError") = some true), decide (PySem.W.exmOne K (.ref (He.ga K "BadThing")) (.ref (He.ga K "PlanError")) = some true), decide (PySem.W.kitOne K (.type "NoneType") (.ref (He.ga K "BadThing")) = some false), He.eqO (PySem.W.findIn K (.ref (He.ga K "BadThing")) "thing") (some none), decide (PySem.W.kitOne K (.ref (He.ga K "BadThing")) (.ref (He.ga K "BadPlan")) = some false)]
def B1 (K : PySem.W.Frag) : List Bool := [decide (PySem.W.kitOne K (.ref (He.ga K "BadThing")) (.ref (He.ga K "BadThing")) = some true), He.eqO (PySem.W.nsIn K mainGlobals "PlanError") (some (some (.ref (He.ga K "PlanError")))), He.eqO (PySem.W.specialIn K (.builtin "object.__class__") "__get__") (some (some (.builtin "getset_descriptor.__get__"))), decide (PySem.W.takesIn K (.builtin "object.__class__") = some true), He.eqO (PySem.W.nsIn K mainGlobals "abs") (some none), He.eqO (PySem.W.nsIn K mainGlobals "all") (some none), He.eqO (PySem.W.nsIn K mainGlobals "bool") (some none), He.eqO (PySem.W.nsIn K mainGlobals "dict") (some none), He.eqO (PySem.W.nsIn K mainGlobals "int") (some none), He.eqO (PySem.W.nsIn K mainGlobals "isinstance") (some none), He.eqO (PySem.W.nsIn K mainGlobals "len") (some none), He.eqO (PySem.W.nsIn K mainGlobals "list") (some none), He.eqO (PySem.W.nsIn K mainGlobals "min") (some none), He.eqO (PySem.W.nsIn K mainGlobals "range") (some none), He.eqO (PySem.W.nsIn K mainGlobals "repr") (some none), He.eqO (PySem.W.nsIn K mainGlobals "set") (some none), He.eqO (PySem.W.nsIn K mainGlobals "sorted") (some none), He.eqO (PySem.W.nsIn K mainGlobals "str") (some none), He.eqO (PySem.W.nsIn K mainGlobals "tuple") (some none), He.eqO (PySem.W.nsIn K mainGlobals "zip") (some none), He.eqO (PySem.W.nsIn K mainGlobals "LETTERS") (some (some (.str "abcdefghijklmnopqrstuvwxyz" (Hd.tokAt K "LETTERS")))), He.eqO (PySem.W.nsIn K mainGlobals "MOST_LETTERS") (some (some (.int 6 (Hd.tokAt K "MOST_LETTERS")))), He.eqO (PySem.W.nsIn K mainGlobals "Book") (some none), He.eqO (PySem.W.nsIn K mainGlobals "Plans") (some none), He.eqO (PySem.W.nsIn K mainGlobals "RoundBook") (some none), He.eqO (PySem.W.nsIn K mainGlobals "Stand") (some none), He.eqO (PySem.W.nsIn K mainGlobals "Held") (some none), He.eqO (PySem.W.nsIn K mainGlobals "Live") (some none), He.eqO (PySem.W.nsIn K mainGlobals "Desk") (some none), iniB K (He.ga K "BadThing") (He.ma K (He.ga K "BadThing") "__init__") "thing"]
def B (K : PySem.W.Frag) : List Bool := B0 K ++ B1 K
def loose0 : List PySem.Str := ["__name__", "PlanError", "BadPlan", "BadThing", "LETTERS", "MOST_LETTERS", "is_number", "is_name", "is_pair", "are_pairs", "is_plan", "need_plan", "moment_in", "moment_of", "_law_begun", "_law_draw", "_law_pick", "_law_words", "_law_row", "_law_odd", "_law_is_row", "_law_error", "_law_bent"]
def loose : List PySem.Str := loose0
abbrev R : PySem.W.OpenRow := PySem.W.OpenLaw.row PySem.Challenge.rw_lastmakers_k02_plans_judged
def ob (s : PySem.W.SharedT) : Hd.AlX := Hd.obsG xs B ds (HandSHeadRun.getT s)
theorem ob_eq (s : PySem.W.SharedT) : ob s = (Hd.hookX xs B ds).obs s.abs := Hd.obsG_eq (HandSHeadRun.getT_eq s)
theorem run (w : World) : HandSHeadRun.RunEq R (PySem.W.view R.prog [25]) (Hd.hookX xs B ds) ob 20000 loose w := by
  intro os
  kernel_rfl
end Hx
namespace Pg
open PySem L2 Fx Fq
noncomputable section
def b__law_draw : EFs :=
    (fSeq (fWhile (fAnd (fTest (fOp oEq (fStRest 0) (fC (.int 0)))) (fStLargeNe 0))
    (fStPop 0))
    (fSeq (fIfS (fTest (fOp oGt (fStRest 0) (fC (.int 0))))
    (fSeq (fAsg (fOp oMod (fCB (o1A oInt) (aCons (fStRest 0) aNil)) (fVar 1)) (agName 5))
    (fSeq (fStPutRest 0 (fOp oDiv (fStRest 0) (fVar 1)))
    (fRetV 5)))
    fNext)
    (fSeq (fAsg (fOp oAdd (fStTurn 0) (fC (.int 1))) (agName 2))
    (fSeq (fStPutTurn 0 (fVar 2))
    (fSeq (fAsg (fIf (fStCellsNe 0) (fStCell 0 (fOp oMod (fCB (o1A oInt) (aCons (fVar 2) aNil)) (fStCellsLen 0))) (fC (.int 0))) (agName 3))
    (fSeq (fAsg (fOp oMod (fCB (o1A oInt) (aCons (fOp oPow (fOp oAdd (fOp oAdd (fOp oMod (fCB (o1A oInt) (aCons (fVar 3) aNil)) (fC (.int 2147483629))) (fOp oMul (fC (.int 48271)) (fVar 2))) (fC (.int 13579))) (fC (.int 3))) aNil)) (fC (.int 2147483647))) (agName 4))
    (fRet (fOp oMod (fCB (o1A oInt) (aCons (fOp oDiv (fOp oMod (fCB (o1A oInt) (aCons (fOp oPow (fOp oAdd (fVar 4) (fOp oMul (fC (.int 99991)) (fVar 2))) (fC (.int 5))) aNil)) (fC (.int 2147483587))) (fC (.int 23))) aNil)) (fVar 1)))))))))
def F__law_draw : FnSp := fnR 2 6 b__law_draw
def b__law_pick : EFs :=
    (fRet (fOp oIx (fVar 1) (fCall F__law_draw (aCons (fVar 0) (aCons (fCB (o1A oLen) (aCons (fVar 1) aNil)) aNil)))))
def F__law_pick : FnSp := fnR 2 2 b__law_pick
def b__law_words : EFs :=
    (fSeq (fPar 2 3 (fC (.str "abcdefghijklmnopqrstuvwxyz")) (fLst aNil))
    (fFz 2 (fSeq (fWhile (fTest (fOp oLt (fBor 3 (fCB (o1A oLen) (aCons (fVar 3) aNil))) (fVar 1)))
    (fSeq (fAsg (fM "str" oJoin (fC (.str "")) (aCons (fLcU (iaB (oRngZ oRng1) (aCons (fOp oAdd (fC (.int 1)) (fCall F__law_draw (aCons (fVar 0) (aCons (fC (.int 6)) aNil)))) aNil)) (agName 7) fYes (fCall F__law_pick (aCons (fVar 0) (aCons (fVar 2) aNil))) [7]) aNil)) (agName 4))
    (fSeq (fAsg (fCall F__law_pick (aCons (fVar 0) (aCons (fLst (aCons (fC (.str "a")) (aCons (fC (.str "b")) (aCons (fC (.str "c")) (aCons (fC (.str "aa")) (aCons (fC (.str "none")) (aCons (fC (.str "things")) (aCons (fC (.str "zzzzzz")) (aCons (fVar 4) (aCons (fVar 4) aNil)))))))))) aNil))) (agName 5))
    (fSeq (fAsg (fOp oAdd (fLst (aCons (fVar 5) aNil)) (fLcU (iaSeqZ (fVar 2)) (agName 8) fYes (fOp oAdd (fSl (fVar 5) oN (oS (fC (.int 5)))) (fVar 8)) [8])) (agName 6))
    (fApp 3 (fOp oIx (fLcU (iaSeqZ (fVar 6)) (agName 9) (fBorT 3 (fTest (fOp (oIn true) (fVar 9) (fVar 3)))) (fVar 9) [9]) (fC (.int 0))))))))
    (fFz 3 (fRet (fCB (o1A oSorted) (aCons (fVar 3) aNil)))))))
def F__law_words : FnSp := fnR 2 10 b__law_words
def b__law_row : EFs :=
    (fSeq (fPar 4 5 (fLst aNil) (fCall F__law_pick (aCons (fVar 0) (aCons (fLst (aCons (fC (.int 0)) (aCons (fC (.int 0)) (aCons (fC (.int 0)) (aCons (fC (.int 0)) (aCons (fC (.int 0)) (aCons (fOp oPow (fC (.int 10)) (fC (.int 9))) aNil))))))) aNil))))
    (fFz 5 (fSeq (fFor (iaSeq (fVar 1)) (agName 3)
    (fIfS (fTest (fOp oGt (fCall F__law_draw (aCons (fVar 0) (aCons (fC (.int 4)) aNil))) (fC (.int 0))))
    (fApp 4 (fTup (aCons (fVar 3) (aCons (fOp oAdd (fOp oSub (fCall F__law_draw (aCons (fVar 0) (aCons (fOp oAdd (fOp oMul (fC (.int 2)) (fVar 2)) (fC (.int 1))) aNil))) (fVar 2)) (fVar 5)) aNil))))
    fNext))
    (fFz 4 (fRet (fCB (o1A oTuple) (aCons (fVar 4) aNil)))))))
def F__law_row : FnSp := fnR 3 6 b__law_row
def b__law_odd : EFs :=
    (fSeq (fAsg (fLst (aCons (fC .none) (aCons (fC (.int 0)) (aCons (fC (.int 5)) (aCons (fC (.bool true)) (aCons (fC (.bool false)) (aCons (fUn oNeg (fC (.int 1))) (aCons (fC (.str "")) (aCons (fC (.str "a")) (aCons (fC (.str "ab")) (aCons (fTup aNil) (aCons (fLst aNil) (aCons (fNewD false) (aCons (fTup (aCons (fTup (aCons (fC (.str "a")) (aCons (fC (.int 0)) aNil))) aNil)) (aCons (fLst (aCons (fTup (aCons (fC (.str "a")) (aCons (fC (.int 0)) aNil))) aNil)) (aCons (fTup (aCons (fTup (aCons (fC (.str "a")) (aCons (fC (.int 0)) aNil))) (aCons (fTup (aCons (fC (.str "b")) (aCons (fC (.int 1)) aNil))) aNil))) (aCons (fTup (aCons (fTup aNil) (aCons (fTup aNil) aNil))) aNil))))))))))))))))) (agName 1))
    (fSeq (fAsg (fOp oAdd (fVar 1) (fLst (aCons (fTup (aCons (fTup (aCons (fC (.str "a")) (aCons (fC (.int 0)) aNil))) (aCons (fTup (aCons (fC (.str "a")) (aCons (fC (.int 1)) aNil))) aNil))) (aCons (fTup (aCons (fTup (aCons (fC (.str "b")) (aCons (fC (.int 0)) aNil))) (aCons (fTup (aCons (fC (.str "a")) (aCons (fC (.int 0)) aNil))) aNil))) (aCons (fTup (aCons (fTup (aCons (fC (.str "a")) (aCons (fC (.bool true)) aNil))) aNil)) (aCons (fTup (aCons (fTup (aCons (fC (.str "A")) (aCons (fC (.int 0)) aNil))) aNil)) (aCons (fTup (aCons (fC (.str "a")) (aCons (fC (.int 0)) aNil))) (aCons (fTup (aCons (fTup (aCons (fC (.str "a")) aNil)) aNil)) (aCons (fTup (aCons (fC (.int 5)) aNil)) aNil))))))))) (agName 1))
    (fRet (fCall F__law_pick (aCons (fVar 0) (aCons (fOp oAdd (fVar 1) (fLst (aCons (fTup (aCons (fLst (aCons (fC (.str "a")) (aCons (fC (.int 0)) aNil))) aNil)) (aCons (fTup (aCons (fTup (aCons (fC (.str "abcdefg")) (aCons (fC (.int 0)) aNil))) aNil)) (aCons (fTup (aCons (fTup (aCons (fC (.str "")) (aCons (fC (.int 0)) aNil))) aNil)) (aCons (fTup (aCons (fTup (aCons (fC (.str "a")) (aCons (fC .none) aNil))) aNil)) (aCons (fDisp (((fC (.str "a")), (fC (.int 0))) :: [])) (aCons (fTup (aCons (fTup (aCons (fTup (aCons (fC (.str "a")) (aCons (fC (.int 0)) aNil))) aNil)) (aCons (fTup aNil) aNil))) aNil)))))))) aNil))))))
def F__law_odd : FnSp := fnR 1 2 b__law_odd
def b__law_bent : EFs :=
    (fSeq (fPar 3 4 (fCB (o1A oList) (aCons (fVar 1) aNil)) (fIf (fTest (fOp oNe (fVar 1) (fTup aNil))) (fCall F__law_draw (aCons (fVar 0) (aCons (fCB (o1A oLen) (aCons (fVar 1) aNil)) aNil))) (fC (.int 0))))
    (fSeq (fAsg (fCall F__law_draw (aCons (fVar 0) (aCons (fC (.int 7)) aNil))) (agName 2))
    (fSeq (fIfS (fTest (fOp oEq (fVar 2) (fC (.int 0))))
    (fFz 3 (fRetV 3))
    fNext)
    (fSeq (fIfS (fOr (fTest (fOp oEq (fVar 1) (fTup aNil))) (fTest (fOp oEq (fVar 2) (fC (.int 1)))))
    (fRet (fCall F__law_odd (aCons (fVar 0) aNil)))
    fNext)
    (fSeq (fIfS (fTest (fOp oEq (fVar 2) (fC (.int 2))))
    (fRet (fOp oRevT (fVar 1) (fUn oNeg (fC (.int 1)))))
    fNext)
    (fFz 4 (fSeq (fIfS (fTest (fOp oEq (fVar 2) (fC (.int 3))))
    (fRet (fOp oAdd (fVar 1) (fSl (fVar 1) (oS (fVar 4)) (oS (fOp oAdd (fVar 4) (fC (.int 1)))))))
    fNext)
    (fSeq (fAsg (fIxOwn 3 (fVar 4)) (agTup 2 (agCons (agName 5) (agCons (agName 6) agNil))))
    (fSeq (fLSet 3 (fVar 4) (fCall F__law_pick (aCons (fVar 0) (aCons (fLst (aCons (fTup (aCons (fVar 5) (aCons (fC (.bool true)) aNil))) (aCons (fTup (aCons (fUpper (fVar 5)) (aCons (fVar 6) aNil))) (aCons (fTup (aCons (fOp oAdd (fVar 5) (fC (.str "a"))) (aCons (fVar 6) aNil))) (aCons (fLst (aCons (fVar 5) (aCons (fVar 6) aNil))) (aCons (fTup (aCons (fVar 5) (aCons (fVar 6) (aCons (fC (.int 0)) aNil)))) (aCons (fTup (aCons (fVar 5) (aCons (fStrI (fVar 6)) aNil))) aNil))))))) aNil))))
    (fFz 3 (fRet (fCB (o1A oTuple) (aCons (fVar 3) aNil)))))))))))))
def F__law_bent : FnSp := fnR 2 7 b__law_bent
def b__law_is_row : EFs :=
    (fSeq (fIfS (fNot (fTest (fIsi "tuple" (fVar 0))))
    (fRet (fC (.bool false)))
    fNext)
    (fSeq (fFor (iaSeq (fVar 0)) (agName 1)
    (fSeq (fIfS (fOr (fNot (fTest (fIsi "tuple" (fVar 1)))) (fOr (fTest (fOp oNe (fCB (o1A oLen) (aCons (fVar 1) aNil)) (fC (.int 2)))) (fOr (fNot (fTest (fIsi "str" (fOp oIx (fVar 1) (fC (.int 0)))))) (fNot (fTest (fChain oLe oLe (fC (.int 1)) (fCB (o1A oLen) (aCons (fOp oIx (fVar 1) (fC (.int 0))) aNil)) (fC (.int 6))))))))
    (fRet (fC (.bool false)))
    fNext)
    (fSeq (fIfS (fTest (fOp oNe (fLcU (iaSeqZ (fOp oIx (fVar 1) (fC (.int 0)))) (agName 2) (fTest (fOp (oIn true) (fVar 2) (fC (.str "abcdefghijklmnopqrstuvwxyz")))) (fVar 2) [2]) (fLst aNil)))
    (fRet (fC (.bool false)))
    fNext)
    (fIfS (fOr (fNot (fTest (fIsi "int" (fOp oIx (fVar 1) (fC (.int 1)))))) (fTest (fIsi "bool" (fOp oIx (fVar 1) (fC (.int 1))))))
    (fRet (fC (.bool false)))
    fNext))))
    (fRet (fOp oEq (fLcU (iaSeqZ (fVar 0)) (agName 1) fYes (fOp oIx (fVar 1) (fC (.int 0))) [1]) (fUn oSortSetX (fLcU (iaSeqZ (fVar 0)) (agName 1) fYes (fOp oIx (fVar 1) (fC (.int 0))) [1]))))))
def F__law_is_row : FnSp := fnR 1 3 b__law_is_row
def b_is_name : EFs :=
    (fSeq (fIfS (fOr (fNot (fTest (fIsi "str" (fVar 0)))) (fOr (fTest (fOp oLt (fCB (o1A oLen) (aCons (fVar 0) aNil)) (fC (.int 1)))) (fTest (fOp oGt (fCB (o1A oLen) (aCons (fVar 0) aNil)) (fC (.int 6))))))
    (fRet (fC (.bool false)))
    fNext)
    (fRet (fCB (o1A oAll) (aCons (fLcU (iaSeqZ (fVar 0)) (agName 1) fYes (fOp (oIn false) (fVar 1) (fC (.str "abcdefghijklmnopqrstuvwxyz"))) [1]) aNil))))
def F_is_name : FnSp := fnR 1 2 b_is_name
def b_is_number : EFs :=
    (fRet (fAndV (fIsi "int" (fVar 0)) (fNotV (fIsi "bool" (fVar 0)))))
def F_is_number : FnSp := fnR 1 1 b_is_number
def b_is_pair : EFs :=
    (fRet (fAndV (fIsi "tuple" (fVar 0)) (fAndV (fOp oEq (fCB (o1A oLen) (aCons (fVar 0) aNil)) (fC (.int 2))) (fAndV (fCall F_is_name (aCons (fOp oIx (fVar 0) (fC (.int 0))) aNil)) (fCall F_is_number (aCons (fOp oIx (fVar 0) (fC (.int 1))) aNil))))))
def F_is_pair : FnSp := fnR 1 1 b_is_pair
def b_are_pairs : EFs :=
    (fSeq (fIfS (fOr (fNot (fTest (fIsi "tuple" (fVar 0)))) (fNot (fTest (fCB (o1A oAll) (aCons (fLcU (iaSeqZ (fVar 0)) (agName 3) fYes (fCall F_is_pair (aCons (fVar 3) aNil)) [3]) aNil)))))
    (fRet (fC (.bool false)))
    fNext)
    (fRet (fCB (o1A oAll) (aCons (fLcU (iaZip (aCons (fVar 0) (aCons (fSl (fVar 0) (oS (fC (.int 1))) oN) aNil))) (agTup 2 (agCons (agName 1) (agCons (agName 2) agNil))) fYes (fOp oLt (fOp oIx (fVar 1) (fC (.int 0))) (fOp oIx (fVar 2) (fC (.int 0)))) [1, 2]) aNil))))
def F_are_pairs : FnSp := fnR 1 4 b_are_pairs
def b_is_plan : EFs :=
    (fRet (fCall F_are_pairs (aCons (fVar 0) aNil)))
def F_is_plan : FnSp := fnR 1 1 b_is_plan
def b_need_plan : EFs :=
    (fIfS (fNot (fTest (fCall F_are_pairs (aCons (fVar 0) aNil))))
    (fRaise "BadPlan")
    fNext)
def F_need_plan : FnSp := fnR 1 1 b_need_plan
def b_moment_in : EFs :=
    (fSeq (fFor (iaSeq (fVar 0)) (agTup 2 (agCons (agName 2) (agCons (agName 3) agNil)))
    (fIfS (fTest (fOp oEq (fVar 2) (fVar 1)))
    (fRetV 3)
    fNext))
    (fRet (fC .none)))
def F_moment_in : FnSp := fnR 2 4 b_moment_in
def b_moment_of : EFs :=
    (fSeq (fDrop (fCall F_need_plan (aCons (fVar 0) aNil)))
    (fSeq (fIfS (fNot (fTest (fCall F_is_name (aCons (fVar 1) aNil))))
    (fRaiseA "BadThing" "thing" (fVar 1))
    fNext)
    (fRet (fCall F_moment_in (aCons (fVar 0) (aCons (fVar 1) aNil))))))
def F_moment_of : FnSp := fnR 2 2 b_moment_of
def b__law_error : EFs :=
    (fRetV 1)
def F__law_error : WkF := fMark 3 1 ["BadPlan", "BadThing"] b__law_error
def b_law : EFs :=
    (fSeq (fFor (iaRng1 (aCons (fOp oAdd (fC (.int 10)) (fCB (o2A oMin2) (aCons (fCB (o1A oLen) (aCons (fVar 0) aNil)) (aCons (fC (.int 40)) aNil)))) aNil)) (agName 2)
    (fSeq (fAsg (fCall F__law_words (aCons (fVar 1) (aCons (fOp oAdd (fC (.int 1)) (fCall F__law_draw (aCons (fVar 1) (aCons (fC (.int 6)) aNil)))) aNil))) (agName 3))
    (fSeq (fAsg (fCall F__law_row (aCons (fVar 1) (aCons (fVar 3) (aCons (fC (.int 5)) aNil)))) (agName 4))
    (fSeq (fAsg (fIf (fTest (fOp oGt (fCall F__law_draw (aCons (fVar 1) (aCons (fC (.int 3)) aNil))) (fC (.int 0)))) (fCall F__law_bent (aCons (fVar 1) (aCons (fVar 4) aNil))) (fVar 4)) (agName 5))
    (fSeq (fAsg (fCall F__law_is_row (aCons (fVar 5) aNil)) (agName 6))
    (fSeq (fIfS (fTest (fOp oNe (fCB (o1A oReprE) (aCons (fLst (aCons (fCall F_is_plan (aCons (fVar 5) aNil)) (aCons (fCallK 0 1 [0] F_is_plan aNil (aCons (fVar 5) aNil)) aNil))) aNil)) (fCB (o1A oReprE) (aCons (fLst (aCons (fVar 6) (aCons (fVar 6) aNil))) aNil))))
    (fRet (fC (.bool false)))
    fNext)
    (fSeq (fAsg (fCall F__law_pick (aCons (fVar 1) (aCons (fOp oAdd (fVar 3) (fLst (aCons (fC (.str "zzzzz")) aNil))) aNil))) (agName 7))
    (fSeq (fIfS (fTest (fVar 6))
    (fIfS (fOr (fTest (fOp oNe (fCB (o1A oReprE) (aCons (fCall F_moment_of (aCons (fVar 5) (aCons (fVar 7) aNil))) aNil)) (fCB (o1A oReprE) (aCons (fM "dict" oGet (fCB (o1A oDict) (aCons (fVar 5) aNil)) (aCons (fVar 7) (aCons (fC .none) aNil))) aNil)))) (fTest (fOp oNe (fCallK 0 2 [1, 0] F_moment_of aNil (aCons (fVar 7) (aCons (fVar 5) aNil))) (fCall F_moment_of (aCons (fVar 5) (aCons (fVar 7) aNil))))))
    (fRet (fC (.bool false)))
    fNext)
    (fIfS (fNot (fTest (fIsEr ["BadPlan", "BadThing"] "BadPlan" (fLam F__law_error (fCall F_moment_of (aCons (fVar 5) (aCons (fC .none) aNil)))))))
    (fRet (fC (.bool false)))
    fNext))
    (fSeq (fAsg (fCall F__law_pick (aCons (fVar 1) (aCons (fLst (aCons (fC .none) (aCons (fC (.int 5)) (aCons (fC (.str "")) (aCons (fC (.str "A")) (aCons (fC (.str "abcdefg")) (aCons (fLst (aCons (fC (.str "a")) aNil)) (aCons (fTup (aCons (fC (.str "a")) (aCons (fC (.int 0)) aNil))) (aCons (fC (.bool true)) (aCons (fC (.str "a b")) (aCons (fC (.str "a1")) aNil))))))))))) aNil))) (agName 8))
    (fSeq (fAsg (fLam F__law_error (fCall F_moment_of (aCons (fVar 4) (aCons (fVar 8) aNil)))) (agName 9))
    (fIfS (fOr (fNot (fTest (fIsEr ["BadPlan", "BadThing"] "BadThing" (fVar 9)))) (fTest (fOp oNe (fCB (o1A oReprE) (aCons (fErF ["BadThing"] "thing" (fVar 9)) aNil)) (fCB (o1A oReprE) (aCons (fVar 8) aNil)))))
    (fRet (fC (.bool false)))
    fNext)))))))))))
    (fRet (fC (.bool true))))
end
end Pg
namespace Pg
open PySem L2 Fx Fq
noncomputable section

noncomputable def m__law_draw (d : Addr) (k : Int) (g : Gs) : R Int := pullM (F__law_draw [.o (.ref d), .d (.int k)] g) (fun x => RV.d (PyData.int x))
theorem e__law_draw (d : Addr) (k : Int) (g : Gs) : RX (F__law_draw [.o (.ref d), .d (.int k)] g) (m__law_draw d k g) (fun x => RV.d (PyData.int x)) := pullM_rx _ _
noncomputable def m__law_words (d : Addr) (k : Int) (g : Gs) : R (List Str) := pullM (F__law_words [.o (.ref d), .d (.int k)] g) (fun x => RV.nl (x.map PyData.str))
theorem e__law_words (d : Addr) (k : Int) (g : Gs) : RX (F__law_words [.o (.ref d), .d (.int k)] g) (m__law_words d k g) (fun x => RV.nl (x.map PyData.str)) := pullM_rx _ _
noncomputable def m__law_pick {α : Type} (e : α → PyData) (d : Addr) (xs : List α) (g : Gs) : R α := pullM (F__law_pick [.o (.ref d), .d (eL e xs)] g) (fun x => RV.d (e x))
theorem e__law_pick {α : Type} (e : α → PyData) (d : Addr) (xs : List α) (g : Gs) : RX (F__law_pick [.o (.ref d), .d (eL e xs)] g) (m__law_pick e d xs g) (fun x => RV.d (e x)) := pullM_rx _ _
noncomputable def m__law_row (v0 : Addr) (v1 : (List Str)) (v2 : Int) (g : Gs) : R (List (Str × Int)) := (((.ok [] g) : R (List (Str × Int))).bind fun (y2 : (List (Str × Int))) g => ((m__law_pick PyData.int v0 [(0 : Int), (0 : Int), (0 : Int), (0 : Int), (0 : Int), ((10 : Int) ^ ((9 : Int)).toNat)] g) : R Int).bind fun (y3 : Int) g => ((forM (fun (s4 : (List (Str × Int))) (x5 : Str) g => ((((m__law_draw v0 (4 : Int) g).mp fun (u7 : Int) => (decide ((0 : Int) < u7))).bind fun (c : Bool) g => if c = true then (R.asrt (s4.length < sizeLine) (((((R.asrt (CMul (2 : Int) v2 ∨ CMulW (2 : Int) v2) (m__law_draw v0 (((2 : Int) * v2) + (1 : Int)) g)).mp fun (u13 : Int) => (u13 - v2)).mp fun (u14 : Int) => (u14 + y3)).mp fun (p18 : Int) => (x5, p18)).bind fun (y20 : (Str × Int)) g => (.ok (s4 ++ [y20]) g))) else (.ok s4 g)) : R ((List (Str × Int))))) v1 y2 g).bind fun (y23 : (List (Str × Int))) g => (.ok y23 g)))
theorem e__law_row (v0 : Addr) (v1 : (List Str)) (v2 : Int) (g : Gs) : RX (F__law_row [.o (.ref v0), .d ((eL PyData.str) v1), .d (PyData.int v2)] g) (m__law_row v0 v1 v2 g) (fun (x : (List (Str × Int))) => RV.d (ePl x)) := by
  show RX (fnR 3 6 b__law_row _ g) (((.ok [] g) : R (List (Str × Int))).bind fun (y2 : (List (Str × Int))) g => ((m__law_pick PyData.int v0 [(0 : Int), (0 : Int), (0 : Int), (0 : Int), (0 : Int), ((10 : Int) ^ ((9 : Int)).toNat)] g) : R Int).bind fun (y3 : Int) g => ((forM (fun (s4 : (List (Str × Int))) (x5 : Str) g => ((((m__law_draw v0 (4 : Int) g).mp fun (u7 : Int) => (decide ((0 : Int) < u7))).bind fun (c : Bool) g => if c = true then (R.asrt (s4.length < sizeLine) (((((R.asrt (CMul (2 : Int) v2 ∨ CMulW (2 : Int) v2) (m__law_draw v0 (((2 : Int) * v2) + (1 : Int)) g)).mp fun (u13 : Int) => (u13 - v2)).mp fun (u14 : Int) => (u14 + y3)).mp fun (p18 : Int) => (x5, p18)).bind fun (y20 : (Str × Int)) g => (.ok (s4 ++ [y20]) g))) else (.ok s4 g)) : R ((List (Str × Int))))) v1 y2 g).bind fun (y23 : (List (Str × Int))) g => (.ok y23 g))) _
  unfold b__law_row
  refine f_retM (w := (fun (x : (List (Str × Int))) => RV.d (ePl x))) rfl (g_last ?_)
  refine g_assoc ?_
  refine h_par (A := (.ok [] g)) (B := fun g => (m__law_pick PyData.int v0 [(0 : Int), (0 : Int), (0 : Int), (0 : Int), (0 : Int), ((10 : Int) ^ ((9 : Int)).toNat)] g)) (w1 := (fun (x : (List (Str × Int))) => RV.nl (x.map ePr))) (w2 := (fun (x : Int) => RV.d (PyData.int x))) ?_ ?_ ?_
  · exact (rx_p (w := (fun (x : (List (Str × Int))) => RV.nl (x.map ePr))) (v_lst va_nil rfl rfl))
  · intro g; exact (m_callP (va_conso (v_varo rfl) (va_l (v_lst (va_d v_c (va_d v_c (va_d v_c (va_d v_c (va_d v_c (va_d (v_op (dd v_c) (dd v_c) (q_pow (by decide +kernel))) va_nil)))))) rfl rfl) va_nil)) (e__law_pick PyData.int v0 [(0 : Int), (0 : Int), (0 : Int), (0 : Int), (0 : Int), ((10 : Int) ^ ((9 : Int)).toNat)] _))
  intro y2 y3 g
  refine g_fz0 rfl ?_
  refine g_assoc ?_
  refine h_for (ea := PyData.str) (fun (s4 : (List (Str × Int))) ρ => ∃ j6 : SD, ρ = [.o (.ref v0), .d ((eL PyData.str) v1), .d (PyData.int v2), j6, .own (s4.map ePr), .d (PyData.int y3)]) ?_ ?_ ?_ ?_
  · exact (vi_seq (dd (v_var (x := (eL PyData.str) v1) rfl)) rfl)
  · exact ⟨_, rfl⟩
  · intro s4 x5 ρ g hr22
    obtain ⟨j6, rfl⟩ := hr22
    refine ⟨_, rfl, g_last ?_⟩
    refine h_if (C := ((m__law_draw v0 (4 : Int) g).mp fun (u7 : Int) => (decide ((0 : Int) < u7)))) ?_ ?_ ?_
    · exact (m_test (m_opL (ea := PyData.int) (w := (fun (x : Bool) => RV.d (PyData.bool x))) (h := fun (u7 : Int) => (decide ((0 : Int) < u7))) (rd (m_callP (va_conso (v_varo rfl) (va_d v_c va_nil)) (e__law_draw v0 (4 : Int) _))) (fun g => (dd v_c)) (fun u7 => rfl)))
    · intro g
      refine h_asrt fun hz21 => ?_
      refine h_app (A := ((((R.asrt (CMul (2 : Int) v2 ∨ CMulW (2 : Int) v2) (m__law_draw v0 (((2 : Int) * v2) + (1 : Int)) g)).mp fun (u13 : Int) => (u13 - v2)).mp fun (u14 : Int) => (u14 + y3)).mp fun (p18 : Int) => (x5, p18))) (ea := ePr) (xs := s4) rfl ?_ hz21 ?_
      · exact (rd (m_tup (as := (fun (p18 : Int) => [.d (PyData.str x5), .d (PyData.int p18)])) (e := ePr) (h := fun (p18 : Int) => (x5, p18)) (ma_p (v_var (x := PyData.str x5) rfl) (fun _ => rfl) (ma_1 (m_opL (ea := PyData.int) (w := (fun (x : Int) => RV.d (PyData.int x))) (h := fun (u14 : Int) => (u14 + y3)) (rd (m_opL (ea := PyData.int) (w := (fun (x : Int) => RV.d (PyData.int x))) (h := fun (u13 : Int) => (u13 - v2)) (rd (RX.asrt fun hp12 => (m_callP (va_conso (v_varo rfl) (va_d (v_op (dd (v_op (dd v_c) (dd (v_var (x := PyData.int v2) rfl)) (q_mul hp12))) (dd v_c) rfl) va_nil)) (e__law_draw v0 (((2 : Int) * v2) + (1 : Int)) _)))) (fun g => (dd (v_var (x := PyData.int v2) rfl))) (fun u13 => rfl))) (fun g => (dd (v_var (x := PyData.int y3) rfl))) (fun u14 => rfl)) (fun _ _ => rfl) (fun g => va_nil))) (fun _ => rfl) (fun _ => ⟨_, rfl, rfl⟩)))
      intro y20 g
      exact g_next ⟨_, .inl rfl, ⟨_, rfl⟩⟩
    · intro g
      refine g_nextS ?_
      exact g_next ⟨_, .inl rfl, ⟨_, rfl⟩⟩
  · intro y23 ρ g hr24
    obtain ⟨j25, rfl⟩ := hr24
    refine g_fz rfl ?_
    exact g_ret (v_cb (va_d (v_var (x := (eL ePr) y23) rfl) va_nil) rfl) rfl
noncomputable def m__law_odd (v0 : Addr) (g : Gs) : R PyData := (letv [((eO eU) none), (PyData.int (0 : Int)), (PyData.int (5 : Int)), (PyData.bool true), (PyData.bool false), (PyData.int (-(1 : Int))), (PyData.str ("" : Str)), (PyData.str ("a" : Str)), (PyData.str ("ab" : Str)), ((eT eU) ([] : (List Unit))), ((eL eU) []), ((eD eU eU) []), (ePl [(("a" : Str), (0 : Int))]), ((eL ePr) [(("a" : Str), (0 : Int))]), ((eP ePr ePr) ((("a" : Str), (0 : Int)), (("b" : Str), (1 : Int)))), ((eP (eT eU) (eT eU)) (([] : (List Unit)), ([] : (List Unit))))] fun (y1 : (List PyData)) => (R.asrt (y1.length + [((eP ePr ePr) ((("a" : Str), (0 : Int)), (("a" : Str), (1 : Int)))), ((eP ePr ePr) ((("b" : Str), (0 : Int)), (("a" : Str), (0 : Int)))), ((eT (eP PyData.str PyData.bool)) [(("a" : Str), true)]), (ePl [(("A" : Str), (0 : Int))]), (ePr (("a" : Str), (0 : Int))), ((eT (eT PyData.str)) [[("a" : Str)]]), ((eT PyData.int) [(5 : Int)])].length ≤ sizeLine) (letv (y1 ++ [((eP ePr ePr) ((("a" : Str), (0 : Int)), (("a" : Str), (1 : Int)))), ((eP ePr ePr) ((("b" : Str), (0 : Int)), (("a" : Str), (0 : Int)))), ((eT (eP PyData.str PyData.bool)) [(("a" : Str), true)]), (ePl [(("A" : Str), (0 : Int))]), (ePr (("a" : Str), (0 : Int))), ((eT (eT PyData.str)) [[("a" : Str)]]), ((eT PyData.int) [(5 : Int)])]) fun (y2 : (List PyData)) => (R.asrt (y2.length + [((eT (eL eA)) [[(PyData.str ("a" : Str)), (PyData.int (0 : Int))]]), (ePl [(("abcdefg" : Str), (0 : Int))]), (ePl [(("" : Str), (0 : Int))]), ((eT (eP PyData.str (eO eU))) [(("a" : Str), none)]), ((eD PyData.str PyData.int) [(("a" : Str), (0 : Int))]), ((eP ePl (eT eU)) ([(("a" : Str), (0 : Int))], ([] : (List Unit))))].length ≤ sizeLine) (m__law_pick eA v0 (y2 ++ [((eT (eL eA)) [[(PyData.str ("a" : Str)), (PyData.int (0 : Int))]]), (ePl [(("abcdefg" : Str), (0 : Int))]), (ePl [(("" : Str), (0 : Int))]), ((eT (eP PyData.str (eO eU))) [(("a" : Str), none)]), ((eD PyData.str PyData.int) [(("a" : Str), (0 : Int))]), ((eP ePl (eT eU)) ([(("a" : Str), (0 : Int))], ([] : (List Unit))))]) g)))))
theorem e__law_odd (v0 : Addr) (g : Gs) : RX (F__law_odd [.o (.ref v0)] g) (m__law_odd v0 g) (fun (x : PyData) => RV.d (eA x)) := by
  show RX (fnR 1 2 b__law_odd _ g) (letv [((eO eU) none), (PyData.int (0 : Int)), (PyData.int (5 : Int)), (PyData.bool true), (PyData.bool false), (PyData.int (-(1 : Int))), (PyData.str ("" : Str)), (PyData.str ("a" : Str)), (PyData.str ("ab" : Str)), ((eT eU) ([] : (List Unit))), ((eL eU) []), ((eD eU eU) []), (ePl [(("a" : Str), (0 : Int))]), ((eL ePr) [(("a" : Str), (0 : Int))]), ((eP ePr ePr) ((("a" : Str), (0 : Int)), (("b" : Str), (1 : Int)))), ((eP (eT eU) (eT eU)) (([] : (List Unit)), ([] : (List Unit))))] fun (y1 : (List PyData)) => (R.asrt (y1.length + [((eP ePr ePr) ((("a" : Str), (0 : Int)), (("a" : Str), (1 : Int)))), ((eP ePr ePr) ((("b" : Str), (0 : Int)), (("a" : Str), (0 : Int)))), ((eT (eP PyData.str PyData.bool)) [(("a" : Str), true)]), (ePl [(("A" : Str), (0 : Int))]), (ePr (("a" : Str), (0 : Int))), ((eT (eT PyData.str)) [[("a" : Str)]]), ((eT PyData.int) [(5 : Int)])].length ≤ sizeLine) (letv (y1 ++ [((eP ePr ePr) ((("a" : Str), (0 : Int)), (("a" : Str), (1 : Int)))), ((eP ePr ePr) ((("b" : Str), (0 : Int)), (("a" : Str), (0 : Int)))), ((eT (eP PyData.str PyData.bool)) [(("a" : Str), true)]), (ePl [(("A" : Str), (0 : Int))]), (ePr (("a" : Str), (0 : Int))), ((eT (eT PyData.str)) [[("a" : Str)]]), ((eT PyData.int) [(5 : Int)])]) fun (y2 : (List PyData)) => (R.asrt (y2.length + [((eT (eL eA)) [[(PyData.str ("a" : Str)), (PyData.int (0 : Int))]]), (ePl [(("abcdefg" : Str), (0 : Int))]), (ePl [(("" : Str), (0 : Int))]), ((eT (eP PyData.str (eO eU))) [(("a" : Str), none)]), ((eD PyData.str PyData.int) [(("a" : Str), (0 : Int))]), ((eP ePl (eT eU)) ([(("a" : Str), (0 : Int))], ([] : (List Unit))))].length ≤ sizeLine) (m__law_pick eA v0 (y2 ++ [((eT (eL eA)) [[(PyData.str ("a" : Str)), (PyData.int (0 : Int))]]), (ePl [(("abcdefg" : Str), (0 : Int))]), (ePl [(("" : Str), (0 : Int))]), ((eT (eP PyData.str (eO eU))) [(("a" : Str), none)]), ((eD PyData.str PyData.int) [(("a" : Str), (0 : Int))]), ((eP ePl (eT eU)) ([(("a" : Str), (0 : Int))], ([] : (List Unit))))]) g))))) _
  unfold b__law_odd
  refine f_retM (w := (fun (x : PyData) => RV.d (eA x))) rfl (g_last ?_)
  refine g_assoc ?_
  refine h_asgP (w := (eL eA)) (v := [((eO eU) none), (PyData.int (0 : Int)), (PyData.int (5 : Int)), (PyData.bool true), (PyData.bool false), (PyData.int (-(1 : Int))), (PyData.str ("" : Str)), (PyData.str ("a" : Str)), (PyData.str ("ab" : Str)), ((eT eU) ([] : (List Unit))), ((eL eU) []), ((eD eU eU) []), (ePl [(("a" : Str), (0 : Int))]), ((eL ePr) [(("a" : Str), (0 : Int))]), ((eP ePr ePr) ((("a" : Str), (0 : Int)), (("b" : Str), (1 : Int)))), ((eP (eT eU) (eT eU)) (([] : (List Unit)), ([] : (List Unit))))]) ?_ (fun _ => rfl) ?_
  · exact (dl (v_lst (va_d v_c (va_d v_c (va_d v_c (va_d v_c (va_d v_c (va_d (v_un (dd v_c) rfl) (va_d v_c (va_d v_c (va_d v_c (va_d (v_tup va_nil rfl rfl) (va_l (v_lst va_nil rfl rfl) (va_n rfl (va_d (v_tup (va_d (v_tup (va_d v_c (va_d v_c va_nil)) rfl rfl) va_nil) rfl rfl) (va_l (v_lst (va_d (v_tup (va_d v_c (va_d v_c va_nil)) rfl rfl) va_nil) rfl rfl) (va_d (v_tup (va_d (v_tup (va_d v_c (va_d v_c va_nil)) rfl rfl) (va_d (v_tup (va_d v_c (va_d v_c va_nil)) rfl rfl) va_nil)) rfl rfl) (va_d (v_tup (va_d (v_tup va_nil rfl rfl) (va_d (v_tup va_nil rfl rfl) va_nil)) rfl rfl) va_nil)))))))))))))))) rfl rfl))
  intro y1
  refine g_assoc ?_
  refine h_asrt fun hz5 => ?_
  refine h_asgP (w := (eL eA)) (v := (y1 ++ [((eP ePr ePr) ((("a" : Str), (0 : Int)), (("a" : Str), (1 : Int)))), ((eP ePr ePr) ((("b" : Str), (0 : Int)), (("a" : Str), (0 : Int)))), ((eT (eP PyData.str PyData.bool)) [(("a" : Str), true)]), (ePl [(("A" : Str), (0 : Int))]), (ePr (("a" : Str), (0 : Int))), ((eT (eT PyData.str)) [[("a" : Str)]]), ((eT PyData.int) [(5 : Int)])])) ?_ (fun _ => rfl) ?_
  · exact (dl (v_op (dd (v_var (x := (eL eA) y1) rfl)) (dl (v_lst (va_d (v_tup (va_d (v_tup (va_d v_c (va_d v_c va_nil)) rfl rfl) (va_d (v_tup (va_d v_c (va_d v_c va_nil)) rfl rfl) va_nil)) rfl rfl) (va_d (v_tup (va_d (v_tup (va_d v_c (va_d v_c va_nil)) rfl rfl) (va_d (v_tup (va_d v_c (va_d v_c va_nil)) rfl rfl) va_nil)) rfl rfl) (va_d (v_tup (va_d (v_tup (va_d v_c (va_d v_c va_nil)) rfl rfl) va_nil) rfl rfl) (va_d (v_tup (va_d (v_tup (va_d v_c (va_d v_c va_nil)) rfl rfl) va_nil) rfl rfl) (va_d (v_tup (va_d v_c (va_d v_c va_nil)) rfl rfl) (va_d (v_tup (va_d (v_tup (va_d v_c va_nil) rfl rfl) va_nil) rfl rfl) (va_d (v_tup (va_d v_c va_nil) rfl rfl) va_nil))))))) rfl rfl)) (q_addL y1 [((eP ePr ePr) ((("a" : Str), (0 : Int)), (("a" : Str), (1 : Int)))), ((eP ePr ePr) ((("b" : Str), (0 : Int)), (("a" : Str), (0 : Int)))), ((eT (eP PyData.str PyData.bool)) [(("a" : Str), true)]), (ePl [(("A" : Str), (0 : Int))]), (ePr (("a" : Str), (0 : Int))), ((eT (eT PyData.str)) [[("a" : Str)]]), ((eT PyData.int) [(5 : Int)])] hz5)))
  intro y2
  exact h_ret0 (w := (fun (x : PyData) => RV.d (eA x))) (RX.asrt fun hp3 => (m_callP (va_conso (v_varo rfl) (va_l (v_op (dd (v_var (x := (eL eA) y2) rfl)) (dl (v_lst (va_d (v_tup (va_l (v_lst (va_d v_c (va_d v_c va_nil)) rfl rfl) va_nil) rfl rfl) (va_d (v_tup (va_d (v_tup (va_d v_c (va_d v_c va_nil)) rfl rfl) va_nil) rfl rfl) (va_d (v_tup (va_d (v_tup (va_d v_c (va_d v_c va_nil)) rfl rfl) va_nil) rfl rfl) (va_d (v_tup (va_d (v_tup (va_d v_c (va_d v_c va_nil)) rfl rfl) va_nil) rfl rfl) (va_n (v_disp1 v_c (dd v_c)) (va_d (v_tup (va_d (v_tup (va_d (v_tup (va_d v_c (va_d v_c va_nil)) rfl rfl) va_nil) rfl rfl) (va_d (v_tup va_nil rfl rfl) va_nil)) rfl rfl) va_nil)))))) rfl rfl)) (q_addL y2 [((eT (eL eA)) [[(PyData.str ("a" : Str)), (PyData.int (0 : Int))]]), (ePl [(("abcdefg" : Str), (0 : Int))]), (ePl [(("" : Str), (0 : Int))]), ((eT (eP PyData.str (eO eU))) [(("a" : Str), none)]), ((eD PyData.str PyData.int) [(("a" : Str), (0 : Int))]), ((eP ePl (eT eU)) ([(("a" : Str), (0 : Int))], ([] : (List Unit))))] hp3)) va_nil)) (e__law_pick eA v0 (y2 ++ [((eT (eL eA)) [[(PyData.str ("a" : Str)), (PyData.int (0 : Int))]]), (ePl [(("abcdefg" : Str), (0 : Int))]), (ePl [(("" : Str), (0 : Int))]), ((eT (eP PyData.str (eO eU))) [(("a" : Str), none)]), ((eD PyData.str PyData.int) [(("a" : Str), (0 : Int))]), ((eP ePl (eT eU)) ([(("a" : Str), (0 : Int))], ([] : (List Unit))))]) _))) (fun _ => rfl)
noncomputable def m__law_bent (v0 : Addr) (v1 : (List (Str × Int))) (g : Gs) : R PyData := (((.ok v1 g) : R (List (Str × Int))).bind fun (y7 : (List (Str × Int))) g => ((if (decide (v1 ≠ ([] : (List (Str × Int))))) = true then (m__law_draw v0 (v1.length : Int) g) else (.ok (0 : Int) g)) : R Int).bind fun (y8 : Int) g => ((m__law_draw v0 (7 : Int) g).bind fun (y10 : Int) g => (if (decide (y10 = (0 : Int))) = true then (.ok ((eL ePr) y7) g) else (if ((decide (v1 = ([] : (List (Str × Int))))) || (decide (y10 = (1 : Int)))) = true then (m__law_odd v0 g) else (if (decide (y10 = (2 : Int))) = true then (.ok (ePl v1.reverse) g) else (if (decide (y10 = (3 : Int))) = true then (R.asrt (v1.length + (cut v1 (some y8) (some (y8 + (1 : Int)))).length ≤ sizeLine) (.ok (ePl (v1 ++ (cut v1 (some y8) (some (y8 + (1 : Int)))))) g)) else (R.asrt ((atI y7 y8).isSome = true) (R.asrt ((ixN y7.length y8).isSome = true) ((R.asrt ((((atI y7 y8).getD (("" : Str), 0)).1.length ≤ 5000000) ∧ ((((atI y7 y8).getD (("" : Str), 0)).1.length + ("a" : Str).length ≤ sizeLine) ∧ (((atI y7 y8).getD (("" : Str), 0)).2.natAbs.log2 < 1920))) (m__law_pick eA v0 [((eP PyData.str PyData.bool) (((atI y7 y8).getD (("" : Str), 0)).1, true)), (ePr ((Txt.upper ((atI y7 y8).getD (("" : Str), 0)).1), ((atI y7 y8).getD (("" : Str), 0)).2)), (ePr ((((atI y7 y8).getD (("" : Str), 0)).1 ++ ("a" : Str)), ((atI y7 y8).getD (("" : Str), 0)).2)), ((eL eA) [(PyData.str ((atI y7 y8).getD (("" : Str), 0)).1), (PyData.int ((atI y7 y8).getD (("" : Str), 0)).2)]), ((eP3 PyData.str PyData.int PyData.int) (((atI y7 y8).getD (("" : Str), 0)).1, ((atI y7 y8).getD (("" : Str), 0)).2, (0 : Int))), ((eP PyData.str PyData.str) (((atI y7 y8).getD (("" : Str), 0)).1, (toString ((atI y7 y8).getD (("" : Str), 0)).2 : Str)))] g)).bind fun (y24 : PyData) g => (.ok ((eT eA) ((y7.map ePr).set ((ixN y7.length y8).getD 0) y24)) g))))))))))
theorem e__law_bent (v0 : Addr) (v1 : (List (Str × Int))) (g : Gs) : RX (F__law_bent [.o (.ref v0), .d (ePl v1)] g) (m__law_bent v0 v1 g) (fun (x : PyData) => RV.d (eA x)) := by
  show RX (fnR 2 7 b__law_bent _ g) (((.ok v1 g) : R (List (Str × Int))).bind fun (y7 : (List (Str × Int))) g => ((if (decide (v1 ≠ ([] : (List (Str × Int))))) = true then (m__law_draw v0 (v1.length : Int) g) else (.ok (0 : Int) g)) : R Int).bind fun (y8 : Int) g => ((m__law_draw v0 (7 : Int) g).bind fun (y10 : Int) g => (if (decide (y10 = (0 : Int))) = true then (.ok ((eL ePr) y7) g) else (if ((decide (v1 = ([] : (List (Str × Int))))) || (decide (y10 = (1 : Int)))) = true then (m__law_odd v0 g) else (if (decide (y10 = (2 : Int))) = true then (.ok (ePl v1.reverse) g) else (if (decide (y10 = (3 : Int))) = true then (R.asrt (v1.length + (cut v1 (some y8) (some (y8 + (1 : Int)))).length ≤ sizeLine) (.ok (ePl (v1 ++ (cut v1 (some y8) (some (y8 + (1 : Int)))))) g)) else (R.asrt ((atI y7 y8).isSome = true) (R.asrt ((ixN y7.length y8).isSome = true) ((R.asrt ((((atI y7 y8).getD (("" : Str), 0)).1.length ≤ 5000000) ∧ ((((atI y7 y8).getD (("" : Str), 0)).1.length + ("a" : Str).length ≤ sizeLine) ∧ (((atI y7 y8).getD (("" : Str), 0)).2.natAbs.log2 < 1920))) (m__law_pick eA v0 [((eP PyData.str PyData.bool) (((atI y7 y8).getD (("" : Str), 0)).1, true)), (ePr ((Txt.upper ((atI y7 y8).getD (("" : Str), 0)).1), ((atI y7 y8).getD (("" : Str), 0)).2)), (ePr ((((atI y7 y8).getD (("" : Str), 0)).1 ++ ("a" : Str)), ((atI y7 y8).getD (("" : Str), 0)).2)), ((eL eA) [(PyData.str ((atI y7 y8).getD (("" : Str), 0)).1), (PyData.int ((atI y7 y8).getD (("" : Str), 0)).2)]), ((eP3 PyData.str PyData.int PyData.int) (((atI y7 y8).getD (("" : Str), 0)).1, ((atI y7 y8).getD (("" : Str), 0)).2, (0 : Int))), ((eP PyData.str PyData.str) (((atI y7 y8).getD (("" : Str), 0)).1, (toString ((atI y7 y8).getD (("" : Str), 0)).2 : Str)))] g)).bind fun (y24 : PyData) g => (.ok ((eT eA) ((y7.map ePr).set ((ixN y7.length y8).getD 0) y24)) g)))))))))) _
  unfold b__law_bent
  refine f_retM (w := (fun (x : PyData) => RV.d (eA x))) rfl (g_last ?_)
  refine g_assoc ?_
  refine h_par (A := (.ok v1 g)) (B := fun g => (if (decide (v1 ≠ ([] : (List (Str × Int))))) = true then (m__law_draw v0 (v1.length : Int) g) else (.ok (0 : Int) g))) (w1 := (fun (x : (List (Str × Int))) => RV.nl (x.map ePr))) (w2 := (fun (x : Int) => RV.d (PyData.int x))) ?_ ?_ ?_
  · exact (rx_p (w := (fun (x : (List (Str × Int))) => RV.nl (x.map ePr))) (v_cb (va_d (v_var (x := ePl v1) rfl) va_nil) rfl))
  · intro g; exact (m_ifP (w := (fun (x : Int) => RV.d (PyData.int x))) (v_test (v_op (dd (v_var (x := ePl v1) rfl)) (dd (v_tup va_nil rfl rfl)) (q_ne (ek_T (ek_P ek_str ek_int)) v1 ([] : (List (Str × Int))) (by decide)))) (fun hc1 => (m_callP (va_conso (v_varo rfl) (va_d (v_cb (va_d (v_var (x := ePl v1) rfl) va_nil) (q_lenT v1)) va_nil)) (e__law_draw v0 (v1.length : Int) _))) (fun hc2 => (rx_p (w := (fun (x : Int) => RV.d (PyData.int x))) v_c)))
  intro y7 y8 g
  refine g_assoc ?_
  refine h_asg (A := (m__law_draw v0 (7 : Int) g)) (e := PyData.int) ?_ (fun _ => rfl) ?_
  · exact (rd (m_callP (va_conso (v_varo rfl) (va_d v_c va_nil)) (e__law_draw v0 (7 : Int) _)))
  intro y10 g
  refine g_assoc ?_
  refine h_ifP (c := (decide (y10 = (0 : Int)))) ?_ (fun hc11 => ?_) (fun hc12 => ?_)
  · exact (v_test (v_op (dd (v_var (x := PyData.int y10) rfl)) (dd v_c) (q_eq ek_int y10 (0 : Int) (by decide))))
  · refine g_fz rfl ?_
    exact g_retV rfl rfl
  · refine g_nextS ?_
    refine g_assoc ?_
    refine h_ifP (c := ((decide (v1 = ([] : (List (Str × Int))))) || (decide (y10 = (1 : Int))))) ?_ (fun hc14 => ?_) (fun hc15 => ?_)
    · exact (v_or (v_test (v_op (dd (v_var (x := ePl v1) rfl)) (dd (v_tup va_nil rfl rfl)) (q_eq (ek_T (ek_P ek_str ek_int)) v1 ([] : (List (Str × Int))) (by decide)))) (fun hb13 => (v_test (v_op (dd (v_var (x := PyData.int y10) rfl)) (dd v_c) (q_eq ek_int y10 (1 : Int) (by decide))))))
    · exact h_ret0 (w := (fun (x : PyData) => RV.d (eA x))) (m_callP (va_conso (v_varo rfl) va_nil) (e__law_odd v0 _)) (fun _ => rfl)
    · refine g_nextS ?_
      refine g_assoc ?_
      refine h_ifP (c := (decide (y10 = (2 : Int)))) ?_ (fun hc17 => ?_) (fun hc18 => ?_)
      · exact (v_test (v_op (dd (v_var (x := PyData.int y10) rfl)) (dd v_c) (q_eq ek_int y10 (2 : Int) (by decide))))
      · exact g_ret (v_op (dd (v_var (x := ePl v1) rfl)) (dd (v_un (dd v_c) rfl)) (q_revT ePr v1)) rfl
      · refine g_nextS ?_
        refine g_fz0 rfl ?_
        refine g_assoc ?_
        refine h_ifP (c := (decide (y10 = (3 : Int)))) ?_ (fun hc19 => ?_) (fun hc20 => ?_)
        · exact (v_test (v_op (dd (v_var (x := PyData.int y10) rfl)) (dd v_c) (q_eq ek_int y10 (3 : Int) (by decide))))
        · refine h_asrt fun hz21 => ?_
          exact g_ret (v_op (dd (v_var (x := ePl v1) rfl)) (dd (v_sl (dd (v_var (x := ePl v1) rfl)) (vo_s (v_var (x := PyData.int y8) rfl)) (vo_s (v_op (dd (v_var (x := PyData.int y8) rfl)) (dd v_c) rfl)) (q_slT v1 (some y8) (some (y8 + (1 : Int)))))) (q_addT v1 (cut v1 (some y8) (some (y8 + (1 : Int)))) hz21)) rfl
        · refine g_nextS ?_
          refine g_assoc ?_
          refine h_asrt fun hz26 => ?_
          refine g_asg (x := ePr ((atI y7 y8).getD (("" : Str), 0))) ?_ rfl ?_
          · exact (dd (v_ixOwn (e := ePr) (xs := y7) (d := (("" : Str), 0)) rfl (dd (v_var (x := PyData.int y8) rfl)) hz26))
          refine g_assoc ?_
          refine h_asrt fun hz25 => ?_
          refine h_lsetA (A := (R.asrt ((((atI y7 y8).getD (("" : Str), 0)).1.length ≤ 5000000) ∧ ((((atI y7 y8).getD (("" : Str), 0)).1.length + ("a" : Str).length ≤ sizeLine) ∧ (((atI y7 y8).getD (("" : Str), 0)).2.natAbs.log2 < 1920))) (m__law_pick eA v0 [((eP PyData.str PyData.bool) (((atI y7 y8).getD (("" : Str), 0)).1, true)), (ePr ((Txt.upper ((atI y7 y8).getD (("" : Str), 0)).1), ((atI y7 y8).getD (("" : Str), 0)).2)), (ePr ((((atI y7 y8).getD (("" : Str), 0)).1 ++ ("a" : Str)), ((atI y7 y8).getD (("" : Str), 0)).2)), ((eL eA) [(PyData.str ((atI y7 y8).getD (("" : Str), 0)).1), (PyData.int ((atI y7 y8).getD (("" : Str), 0)).2)]), ((eP3 PyData.str PyData.int PyData.int) (((atI y7 y8).getD (("" : Str), 0)).1, ((atI y7 y8).getD (("" : Str), 0)).2, (0 : Int))), ((eP PyData.str PyData.str) (((atI y7 y8).getD (("" : Str), 0)).1, (toString ((atI y7 y8).getD (("" : Str), 0)).2 : Str)))] g))) (xs := y7) (e := ePr) y8 rfl ?_ ?_ hz25 ?_
          · exact (rd (RX.asrt fun hp22 => (m_callP (va_conso (v_varo rfl) (va_l (v_lst (va_d (v_tup (va_d (v_var (x := PyData.str ((atI y7 y8).getD (("" : Str), 0)).1) rfl) (va_d v_c va_nil)) rfl rfl) (va_d (v_tup (va_d (v_upper (dd (v_var (x := PyData.str ((atI y7 y8).getD (("" : Str), 0)).1) rfl)) hp22.1) (va_d (v_var (x := PyData.int ((atI y7 y8).getD (("" : Str), 0)).2) rfl) va_nil)) rfl rfl) (va_d (v_tup (va_d (v_op (dd (v_var (x := PyData.str ((atI y7 y8).getD (("" : Str), 0)).1) rfl)) (dd v_c) (q_addS ((atI y7 y8).getD (("" : Str), 0)).1 ("a" : Str) hp22.2.1)) (va_d (v_var (x := PyData.int ((atI y7 y8).getD (("" : Str), 0)).2) rfl) va_nil)) rfl rfl) (va_l (v_lst (va_d (v_var (x := PyData.str ((atI y7 y8).getD (("" : Str), 0)).1) rfl) (va_d (v_var (x := PyData.int ((atI y7 y8).getD (("" : Str), 0)).2) rfl) va_nil)) rfl rfl) (va_d (v_tup (va_d (v_var (x := PyData.str ((atI y7 y8).getD (("" : Str), 0)).1) rfl) (va_d (v_var (x := PyData.int ((atI y7 y8).getD (("" : Str), 0)).2) rfl) (va_d v_c va_nil))) rfl rfl) (va_d (v_tup (va_d (v_var (x := PyData.str ((atI y7 y8).getD (("" : Str), 0)).1) rfl) (va_d (v_strI (dd (v_var (x := PyData.int ((atI y7 y8).getD (("" : Str), 0)).2) rfl)) hp22.2.2) va_nil)) rfl rfl) va_nil)))))) rfl rfl) va_nil)) (e__law_pick eA v0 [((eP PyData.str PyData.bool) (((atI y7 y8).getD (("" : Str), 0)).1, true)), (ePr ((Txt.upper ((atI y7 y8).getD (("" : Str), 0)).1), ((atI y7 y8).getD (("" : Str), 0)).2)), (ePr ((((atI y7 y8).getD (("" : Str), 0)).1 ++ ("a" : Str)), ((atI y7 y8).getD (("" : Str), 0)).2)), ((eL eA) [(PyData.str ((atI y7 y8).getD (("" : Str), 0)).1), (PyData.int ((atI y7 y8).getD (("" : Str), 0)).2)]), ((eP3 PyData.str PyData.int PyData.int) (((atI y7 y8).getD (("" : Str), 0)).1, ((atI y7 y8).getD (("" : Str), 0)).2, (0 : Int))), ((eP PyData.str PyData.str) (((atI y7 y8).getD (("" : Str), 0)).1, (toString ((atI y7 y8).getD (("" : Str), 0)).2 : Str)))] _))))
          · intro g; exact (dd (v_var (x := PyData.int y8) rfl))
          intro y24 g
          refine g_fz rfl ?_
          exact g_ret (v_cb (va_d (v_var (x := (eL eA) ((y7.map ePr).set ((ixN y7.length y8).getD 0) y24)) rfl) va_nil) rfl) rfl
abbrev rowF : Unit → PyData → Bl Bool Unit := (fun (s3 : Unit) (x4 : PyData) => ((if ((!(isD "tuple" x4)) || ((decide (((tupOf x4).length : Int) ≠ (2 : Int))) || ((!(isD "str" ((atI (tupOf x4) (0 : Int)).getD PyData.none))) || (!((decide ((1 : Int) ≤ ((strOf ((atI (tupOf x4) (0 : Int)).getD PyData.none)).length : Int))) && (decide (((strOf ((atI (tupOf x4) (0 : Int)).getD PyData.none)).length : Int) ≤ (6 : Int)))))))) = true then (Bl.ret false) else (if (decide ((((chars (strOf ((atI (tupOf x4) (0 : Int)).getD PyData.none))).filter fun (x11 : Str) => (!hasS ("abcdefghijklmnopqrstuvwxyz" : Str) x11)).map fun (x11 : Str) => x11) ≠ [])) = true then (Bl.ret false) else (if ((!(isD "int" ((atI (tupOf x4) (1 : Int)).getD PyData.none))) || (isD "bool" ((atI (tupOf x4) (1 : Int)).getD PyData.none))) = true then (Bl.ret false) else (Bl.nx ())))) : Bl Bool (Unit)))
theorem cA_row {v0 : PyData} {y : Unit} (hx : eA v0 = eT eA (tupOf v0)) (h : loopB rowF (tupOf v0) () = .nx y) : eA v0 = ePl (plOf v0) := by
  rw [hx]
  refine congrArg PyData.tuple ?_
  unfold plOf
  rw [List.map_map]
  refine List.map_congr_left fun x hx => ?_
  have q := loopB_nx h x hx
  dsimp only [rowF] at q
  split at q
  · cases q
  rename_i c1
  split at q
  · cases q
  split at q
  · cases q
  rename_i c3
  have c1 := Bool.eq_false_iff.mpr c1
  have c3 := Bool.eq_false_iff.mpr c3
  have t1 := not_ofF (or_l c1)
  have t2 := or_l (or_r c1)
  have t3 := not_ofF (or_l (or_r (or_r c1)))
  have t4 := not_ofF (or_l c3)
  have t5 := or_r c3
  cases x with
  | tuple xs =>
    have t2 : xs.length = 2 := by
      have := of_decide_eq_false t2
      show xs.length = 2
      have h2 : ¬ ((xs.length : Int) ≠ 2) := this
      omega
    match xs, t2 with
    | [a, b], _ =>
      have u3 : isD "str" a = true := t3
      have u4 : isD "int" b = true := t4
      have u5 : isD "bool" b = false := t5
      cases a with
      | str s =>
        cases b with
        | int i => rfl
        | bool c => cases u5
        | dict ks => rw [isD_dict "int"] at u4; cases u4
        | _ => cases u4
      | dict ks => rw [isD_dict "str"] at u3; cases u3
      | _ => cases u3
  | dict ks => rw [isD_dict "tuple"] at t1; cases t1
  | _ => cases t1

def p__law_is_rowA (v0 : PyData) : Bool := (if (!(isD "tuple" v0)) = true then false else (blV (fun (b31 : Bool) => b31) (fun (y21 : Unit) => (decide (((plOf v0).map fun (x25 : (Str × Int)) => x25.1) = (srt slt (nubF ((plOf v0).map fun (x28 : (Str × Int)) => x28.1)))))) (loopB (fun (s3 : Unit) (x4 : PyData) => ((if ((!(isD "tuple" x4)) || ((decide (((tupOf x4).length : Int) ≠ (2 : Int))) || ((!(isD "str" ((atI (tupOf x4) (0 : Int)).getD PyData.none))) || (!((decide ((1 : Int) ≤ ((strOf ((atI (tupOf x4) (0 : Int)).getD PyData.none)).length : Int))) && (decide (((strOf ((atI (tupOf x4) (0 : Int)).getD PyData.none)).length : Int) ≤ (6 : Int)))))))) = true then (Bl.ret false) else (if (decide ((((chars (strOf ((atI (tupOf x4) (0 : Int)).getD PyData.none))).filter fun (x11 : Str) => (!hasS ("abcdefghijklmnopqrstuvwxyz" : Str) x11)).map fun (x11 : Str) => x11) ≠ [])) = true then (Bl.ret false) else (if ((!(isD "int" ((atI (tupOf x4) (1 : Int)).getD PyData.none))) || (isD "bool" ((atI (tupOf x4) (1 : Int)).getD PyData.none))) = true then (Bl.ret false) else (Bl.nx ())))) : Bl Bool (Unit))) (tupOf v0) ())))
def z__law_is_rowA (v0 : PyData) : Prop := ((isE v0 = false) ∧ (∀ hc2 : (!(isD "tuple" v0)) = false, ((zLoop (fun (s3 : Unit) (x4 : PyData) => (((isE x4 = false) ∧ ((!(isD "tuple" x4)) = false → ((decide (((tupOf x4).length : Int) ≠ (2 : Int))) = false → ((((atI (tupOf x4) (0 : Int)).isSome = true) ∧ (isE ((atI (tupOf x4) (0 : Int)).getD PyData.none) = false)) ∧ ((!(isD "str" ((atI (tupOf x4) (0 : Int)).getD PyData.none))) = false → (((atI (tupOf x4) (0 : Int)).isSome = true) ∧ ((strOf ((atI (tupOf x4) (0 : Int)).getD PyData.none)).length ≤ sizeLine))))))) ∧ (∀ hc10 : ((!(isD "tuple" x4)) || ((decide (((tupOf x4).length : Int) ≠ (2 : Int))) || ((!(isD "str" ((atI (tupOf x4) (0 : Int)).getD PyData.none))) || (!((decide ((1 : Int) ≤ ((strOf ((atI (tupOf x4) (0 : Int)).getD PyData.none)).length : Int))) && (decide (((strOf ((atI (tupOf x4) (0 : Int)).getD PyData.none)).length : Int) ≤ (6 : Int)))))))) = false, (((((atI (tupOf x4) (0 : Int)).isSome = true) ∧ ((strOf ((atI (tupOf x4) (0 : Int)).getD PyData.none)).length ≤ sizeLine)) ∧ (∀ x11 ∈ (chars (strOf ((atI (tupOf x4) (0 : Int)).getD PyData.none))), (sgn x11))) ∧ (∀ hc15 : (decide ((((chars (strOf ((atI (tupOf x4) (0 : Int)).getD PyData.none))).filter fun (x11 : Str) => (!hasS ("abcdefghijklmnopqrstuvwxyz" : Str) x11)).map fun (x11 : Str) => x11) ≠ [])) = false, ((((atI (tupOf x4) (1 : Int)).isSome = true) ∧ (isE ((atI (tupOf x4) (1 : Int)).getD PyData.none) = false)) ∧ ((!(isD "int" ((atI (tupOf x4) (1 : Int)).getD PyData.none))) = false → (((atI (tupOf x4) (1 : Int)).isSome = true) ∧ (isE ((atI (tupOf x4) (1 : Int)).getD PyData.none) = false))))))))) (fun (s3 : Unit) (x4 : PyData) => ((if ((!(isD "tuple" x4)) || ((decide (((tupOf x4).length : Int) ≠ (2 : Int))) || ((!(isD "str" ((atI (tupOf x4) (0 : Int)).getD PyData.none))) || (!((decide ((1 : Int) ≤ ((strOf ((atI (tupOf x4) (0 : Int)).getD PyData.none)).length : Int))) && (decide (((strOf ((atI (tupOf x4) (0 : Int)).getD PyData.none)).length : Int) ≤ (6 : Int)))))))) = true then (Bl.ret false) else (if (decide ((((chars (strOf ((atI (tupOf x4) (0 : Int)).getD PyData.none))).filter fun (x11 : Str) => (!hasS ("abcdefghijklmnopqrstuvwxyz" : Str) x11)).map fun (x11 : Str) => x11) ≠ [])) = true then (Bl.ret false) else (if ((!(isD "int" ((atI (tupOf x4) (1 : Int)).getD PyData.none))) || (isD "bool" ((atI (tupOf x4) (1 : Int)).getD PyData.none))) = true then (Bl.ret false) else (Bl.nx ())))) : Bl Bool (Unit))) (tupOf v0) ()) ∧ (∀ y21 : Unit, (loopB (fun (s3 : Unit) (x4 : PyData) => ((if ((!(isD "tuple" x4)) || ((decide (((tupOf x4).length : Int) ≠ (2 : Int))) || ((!(isD "str" ((atI (tupOf x4) (0 : Int)).getD PyData.none))) || (!((decide ((1 : Int) ≤ ((strOf ((atI (tupOf x4) (0 : Int)).getD PyData.none)).length : Int))) && (decide (((strOf ((atI (tupOf x4) (0 : Int)).getD PyData.none)).length : Int) ≤ (6 : Int)))))))) = true then (Bl.ret false) else (if (decide ((((chars (strOf ((atI (tupOf x4) (0 : Int)).getD PyData.none))).filter fun (x11 : Str) => (!hasS ("abcdefghijklmnopqrstuvwxyz" : Str) x11)).map fun (x11 : Str) => x11) ≠ [])) = true then (Bl.ret false) else (if ((!(isD "int" ((atI (tupOf x4) (1 : Int)).getD PyData.none))) || (isD "bool" ((atI (tupOf x4) (1 : Int)).getD PyData.none))) = true then (Bl.ret false) else (Bl.nx ())))) : Bl Bool (Unit))) (tupOf v0) ()) = .nx y21 → (((plOf v0).map fun (x28 : (Str × Int)) => x28.1).length < 4000)))))
theorem e__law_is_rowA (v0 : PyData) (hz : z__law_is_rowA v0) (g : Gs) : F__law_is_row [.d (eA v0)] g = .ok ((fun (x : Bool) => RV.d (PyData.bool x)) (p__law_is_rowA v0)) g := by
  have hz : ((isE v0 = false) ∧ (∀ hc2 : (!(isD "tuple" v0)) = false, ((zLoop (fun (s3 : Unit) (x4 : PyData) => (((isE x4 = false) ∧ ((!(isD "tuple" x4)) = false → ((decide (((tupOf x4).length : Int) ≠ (2 : Int))) = false → ((((atI (tupOf x4) (0 : Int)).isSome = true) ∧ (isE ((atI (tupOf x4) (0 : Int)).getD PyData.none) = false)) ∧ ((!(isD "str" ((atI (tupOf x4) (0 : Int)).getD PyData.none))) = false → (((atI (tupOf x4) (0 : Int)).isSome = true) ∧ ((strOf ((atI (tupOf x4) (0 : Int)).getD PyData.none)).length ≤ sizeLine))))))) ∧ (∀ hc10 : ((!(isD "tuple" x4)) || ((decide (((tupOf x4).length : Int) ≠ (2 : Int))) || ((!(isD "str" ((atI (tupOf x4) (0 : Int)).getD PyData.none))) || (!((decide ((1 : Int) ≤ ((strOf ((atI (tupOf x4) (0 : Int)).getD PyData.none)).length : Int))) && (decide (((strOf ((atI (tupOf x4) (0 : Int)).getD PyData.none)).length : Int) ≤ (6 : Int)))))))) = false, (((((atI (tupOf x4) (0 : Int)).isSome = true) ∧ ((strOf ((atI (tupOf x4) (0 : Int)).getD PyData.none)).length ≤ sizeLine)) ∧ (∀ x11 ∈ (chars (strOf ((atI (tupOf x4) (0 : Int)).getD PyData.none))), (sgn x11))) ∧ (∀ hc15 : (decide ((((chars (strOf ((atI (tupOf x4) (0 : Int)).getD PyData.none))).filter fun (x11 : Str) => (!hasS ("abcdefghijklmnopqrstuvwxyz" : Str) x11)).map fun (x11 : Str) => x11) ≠ [])) = false, ((((atI (tupOf x4) (1 : Int)).isSome = true) ∧ (isE ((atI (tupOf x4) (1 : Int)).getD PyData.none) = false)) ∧ ((!(isD "int" ((atI (tupOf x4) (1 : Int)).getD PyData.none))) = false → (((atI (tupOf x4) (1 : Int)).isSome = true) ∧ (isE ((atI (tupOf x4) (1 : Int)).getD PyData.none) = false))))))))) (fun (s3 : Unit) (x4 : PyData) => ((if ((!(isD "tuple" x4)) || ((decide (((tupOf x4).length : Int) ≠ (2 : Int))) || ((!(isD "str" ((atI (tupOf x4) (0 : Int)).getD PyData.none))) || (!((decide ((1 : Int) ≤ ((strOf ((atI (tupOf x4) (0 : Int)).getD PyData.none)).length : Int))) && (decide (((strOf ((atI (tupOf x4) (0 : Int)).getD PyData.none)).length : Int) ≤ (6 : Int)))))))) = true then (Bl.ret false) else (if (decide ((((chars (strOf ((atI (tupOf x4) (0 : Int)).getD PyData.none))).filter fun (x11 : Str) => (!hasS ("abcdefghijklmnopqrstuvwxyz" : Str) x11)).map fun (x11 : Str) => x11) ≠ [])) = true then (Bl.ret false) else (if ((!(isD "int" ((atI (tupOf x4) (1 : Int)).getD PyData.none))) || (isD "bool" ((atI (tupOf x4) (1 : Int)).getD PyData.none))) = true then (Bl.ret false) else (Bl.nx ())))) : Bl Bool (Unit))) (tupOf v0) ()) ∧ (∀ y21 : Unit, (loopB (fun (s3 : Unit) (x4 : PyData) => ((if ((!(isD "tuple" x4)) || ((decide (((tupOf x4).length : Int) ≠ (2 : Int))) || ((!(isD "str" ((atI (tupOf x4) (0 : Int)).getD PyData.none))) || (!((decide ((1 : Int) ≤ ((strOf ((atI (tupOf x4) (0 : Int)).getD PyData.none)).length : Int))) && (decide (((strOf ((atI (tupOf x4) (0 : Int)).getD PyData.none)).length : Int) ≤ (6 : Int)))))))) = true then (Bl.ret false) else (if (decide ((((chars (strOf ((atI (tupOf x4) (0 : Int)).getD PyData.none))).filter fun (x11 : Str) => (!hasS ("abcdefghijklmnopqrstuvwxyz" : Str) x11)).map fun (x11 : Str) => x11) ≠ [])) = true then (Bl.ret false) else (if ((!(isD "int" ((atI (tupOf x4) (1 : Int)).getD PyData.none))) || (isD "bool" ((atI (tupOf x4) (1 : Int)).getD PyData.none))) = true then (Bl.ret false) else (Bl.nx ())))) : Bl Bool (Unit))) (tupOf v0) ()) = .nx y21 → (((plOf v0).map fun (x28 : (Str × Int)) => x28.1).length < 4000))))) := hz
  show fnR 1 3 b__law_is_row _ g = .ok ((fun (x : Bool) => RV.d (PyData.bool x)) ((if (!(isD "tuple" v0)) = true then false else (blV (fun (b31 : Bool) => b31) (fun (y21 : Unit) => (decide (((plOf v0).map fun (x25 : (Str × Int)) => x25.1) = (srt slt (nubF ((plOf v0).map fun (x28 : (Str × Int)) => x28.1)))))) (loopB (fun (s3 : Unit) (x4 : PyData) => ((if ((!(isD "tuple" x4)) || ((decide (((tupOf x4).length : Int) ≠ (2 : Int))) || ((!(isD "str" ((atI (tupOf x4) (0 : Int)).getD PyData.none))) || (!((decide ((1 : Int) ≤ ((strOf ((atI (tupOf x4) (0 : Int)).getD PyData.none)).length : Int))) && (decide (((strOf ((atI (tupOf x4) (0 : Int)).getD PyData.none)).length : Int) ≤ (6 : Int)))))))) = true then (Bl.ret false) else (if (decide ((((chars (strOf ((atI (tupOf x4) (0 : Int)).getD PyData.none))).filter fun (x11 : Str) => (!hasS ("abcdefghijklmnopqrstuvwxyz" : Str) x11)).map fun (x11 : Str) => x11) ≠ [])) = true then (Bl.ret false) else (if ((!(isD "int" ((atI (tupOf x4) (1 : Int)).getD PyData.none))) || (isD "bool" ((atI (tupOf x4) (1 : Int)).getD PyData.none))) = true then (Bl.ret false) else (Bl.nx ())))) : Bl Bool (Unit))) (tupOf v0) ()))))) g
  unfold b__law_is_row
  refine f_ret (w := (fun (x : Bool) => RV.d (PyData.bool x))) rfl (g_last ?_)
  refine g_assoc ?_
  refine g_if (c := (!(isD "tuple" v0))) ?_ (fun hc1 => ?_) (fun hc2 => ?_)
  · exact (v_not (v_test (v_isi (dd (v_var (x := eA v0) rfl)) hz.1)))
  · exact g_ret v_c rfl
  · refine g_nextS ?_
    refine g_assoc ?_
    refine g_loopK (w := (fun (x : Bool) => RV.d (PyData.bool x))) (ea := eA) (z := (fun (s3 : Unit) (x4 : PyData) => (((isE x4 = false) ∧ ((!(isD "tuple" x4)) = false → ((decide (((tupOf x4).length : Int) ≠ (2 : Int))) = false → ((((atI (tupOf x4) (0 : Int)).isSome = true) ∧ (isE ((atI (tupOf x4) (0 : Int)).getD PyData.none) = false)) ∧ ((!(isD "str" ((atI (tupOf x4) (0 : Int)).getD PyData.none))) = false → (((atI (tupOf x4) (0 : Int)).isSome = true) ∧ ((strOf ((atI (tupOf x4) (0 : Int)).getD PyData.none)).length ≤ sizeLine))))))) ∧ (∀ hc10 : ((!(isD "tuple" x4)) || ((decide (((tupOf x4).length : Int) ≠ (2 : Int))) || ((!(isD "str" ((atI (tupOf x4) (0 : Int)).getD PyData.none))) || (!((decide ((1 : Int) ≤ ((strOf ((atI (tupOf x4) (0 : Int)).getD PyData.none)).length : Int))) && (decide (((strOf ((atI (tupOf x4) (0 : Int)).getD PyData.none)).length : Int) ≤ (6 : Int)))))))) = false, (((((atI (tupOf x4) (0 : Int)).isSome = true) ∧ ((strOf ((atI (tupOf x4) (0 : Int)).getD PyData.none)).length ≤ sizeLine)) ∧ (∀ x11 ∈ (chars (strOf ((atI (tupOf x4) (0 : Int)).getD PyData.none))), (sgn x11))) ∧ (∀ hc15 : (decide ((((chars (strOf ((atI (tupOf x4) (0 : Int)).getD PyData.none))).filter fun (x11 : Str) => (!hasS ("abcdefghijklmnopqrstuvwxyz" : Str) x11)).map fun (x11 : Str) => x11) ≠ [])) = false, ((((atI (tupOf x4) (1 : Int)).isSome = true) ∧ (isE ((atI (tupOf x4) (1 : Int)).getD PyData.none) = false)) ∧ ((!(isD "int" ((atI (tupOf x4) (1 : Int)).getD PyData.none))) = false → (((atI (tupOf x4) (1 : Int)).isSome = true) ∧ (isE ((atI (tupOf x4) (1 : Int)).getD PyData.none) = false)))))))))) (vr := fun (b31 : Bool) => b31) (vn := fun (y21 : Unit) => (decide (((plOf v0).map fun (x25 : (Str × Int)) => x25.1) = (srt slt (nubF ((plOf v0).map fun (x28 : (Str × Int)) => x28.1)))))) (fun (s3 : Unit) ρ => ∃ j5 : SD, ρ = [.d (eA v0), j5, .u]) ?_ ?_ ?_ ?_ ?_ ?_
    · exact (vi_seq (dd (v_cast (v_var (x := eA v0) rfl) (cA_tup (not_ofF hc2)))) rfl)
    · exact ⟨_, rfl⟩
    · exact (hz.2 hc2).1
    · intro s3 x4 ρ hr19 hz20
      obtain ⟨j5, rfl⟩ := hr19
      refine ⟨_, rfl, g_last ?_⟩
      refine g_assoc ?_
      refine g_if (c := ((!(isD "tuple" x4)) || ((decide (((tupOf x4).length : Int) ≠ (2 : Int))) || ((!(isD "str" ((atI (tupOf x4) (0 : Int)).getD PyData.none))) || (!((decide ((1 : Int) ≤ ((strOf ((atI (tupOf x4) (0 : Int)).getD PyData.none)).length : Int))) && (decide (((strOf ((atI (tupOf x4) (0 : Int)).getD PyData.none)).length : Int) ≤ (6 : Int))))))))) ?_ (fun hc9 => ?_) (fun hc10 => ?_)
      · exact (v_or (v_not (v_test (v_isi (dd (v_var (x := eA x4) rfl)) hz20.1.1))) (fun hb6 => (v_or (v_test (v_op (dd (v_cb (va_d (v_cast (v_var (x := eA x4) rfl) (cA_tup (not_ofF hb6))) va_nil) (q_lenT (tupOf x4)))) (dd v_c) (q_ne ek_int ((tupOf x4).length : Int) (2 : Int) (by decide)))) (fun hb7 => (v_or (v_not (v_test (v_isi (dd (v_op (dd (v_cast (v_var (x := eA x4) rfl) (cA_tup (not_ofF hb6)))) (dd v_c) (q_ixT (d := PyData.none) ((hz20.1.2 hb6) hb7).1.1))) ((hz20.1.2 hb6) hb7).1.2))) (fun hb8 => (v_not (v_test (v_chain (dd v_c) (dd (v_cb (va_d (v_cast (v_op (dd (v_cast (v_var (x := eA x4) rfl) (cA_tup (not_ofF hb6)))) (dd v_c) (q_ixT (d := PyData.none) (((hz20.1.2 hb6) hb7).2 hb8).1)) (cA_str (not_ofF hb8))) va_nil) (q_lenS (strOf ((atI (tupOf x4) (0 : Int)).getD PyData.none)) (((hz20.1.2 hb6) hb7).2 hb8).2))) rfl (fun _ => (dd v_c)) (fun _ => rfl))))))))))
      · exact g_ret v_c rfl
      · refine g_nextS ?_
        refine g_assoc ?_
        refine g_if (c := (decide ((((chars (strOf ((atI (tupOf x4) (0 : Int)).getD PyData.none))).filter fun (x11 : Str) => (!hasS ("abcdefghijklmnopqrstuvwxyz" : Str) x11)).map fun (x11 : Str) => x11) ≠ []))) ?_ (fun hc14 => ?_) (fun hc15 => ?_)
        · exact (v_test (v_op (dl (v_lc (c := fun (x11 : Str) => (!hasS ("abcdefghijklmnopqrstuvwxyz" : Str) x11)) (h := fun (x11 : Str) => x11) (e' := PyData.str) (vi_strZ (dd (v_cast (v_op (dd (v_cast (v_var (x := eA x4) rfl) (cA_tup (not_ofF (or_l hc10))))) (dd v_c) (q_ixT (d := PyData.none) (hz20.2 hc10).1.1.1)) (cA_str (not_ofF (or_l (or_r (or_r hc10))))))) (hz20.2 hc10).1.1.2) (fun x11 hx13 => ⟨_, rfl, (v_test (v_op (dd (v_var (x := PyData.str x11) rfl)) (dd v_c) (q_ninS ("abcdefghijklmnopqrstuvwxyz" : Str) ((hz20.2 hc10).1.2 x11 hx13)))), fun hc12 => (dd (v_var (x := PyData.str x11) rfl))⟩))) (dl (v_lst va_nil rfl rfl)) (q_ne (ek_L ek_str) (((chars (strOf ((atI (tupOf x4) (0 : Int)).getD PyData.none))).filter fun (x11 : Str) => (!hasS ("abcdefghijklmnopqrstuvwxyz" : Str) x11)).map fun (x11 : Str) => x11) [] (by decide))))
        · exact g_ret v_c rfl
        · refine g_nextS ?_
          refine g_if (c := ((!(isD "int" ((atI (tupOf x4) (1 : Int)).getD PyData.none))) || (isD "bool" ((atI (tupOf x4) (1 : Int)).getD PyData.none)))) ?_ (fun hc17 => ?_) (fun hc18 => ?_)
          · exact (v_or (v_not (v_test (v_isi (dd (v_op (dd (v_cast (v_var (x := eA x4) rfl) (cA_tup (not_ofF (or_l hc10))))) (dd v_c) (q_ixT (d := PyData.none) ((hz20.2 hc10).2 hc15).1.1))) ((hz20.2 hc10).2 hc15).1.2))) (fun hb16 => (v_test (v_isi (dd (v_op (dd (v_cast (v_var (x := eA x4) rfl) (cA_tup (not_ofF (or_l hc10))))) (dd v_c) (q_ixT (d := PyData.none) (((hz20.2 hc10).2 hc15).2 hb16).1))) (((hz20.2 hc10).2 hc15).2 hb16).2))))
          · exact g_ret v_c rfl
          · refine g_nextS ?_
            exact g_next ⟨_, .inl rfl, ⟨_, rfl⟩⟩
    · exact fun _ => rfl
    · intro y21 ρ he24 hr22
      obtain ⟨j23, rfl⟩ := hr22
      exact g_ret (v_op (dl (v_lc0 (h := fun (x25 : (Str × Int)) => x25.1) (e' := PyData.str) (vi_seqZ (dd (v_cast (v_var (x := eA v0) rfl) (cA_row (cA_tup (not_ofF hc2)) he24))) rfl) (fun x25 hx27 => ⟨_, rfl, (dd (v_op (dd (v_var (x := ePr x25) rfl)) (dd v_c) rfl))⟩))) (dl (v_un (dl (v_lc0 (h := fun (x28 : (Str × Int)) => x28.1) (e' := PyData.str) (vi_seqZ (dd (v_cast (v_var (x := eA v0) rfl) (cA_row (cA_tup (not_ofF hc2)) he24))) rfl) (fun x28 hx30 => ⟨_, rfl, (dd (v_op (dd (v_var (x := ePr x28) rfl)) (dd v_c) rfl))⟩))) (q_sortSetXL ((plOf v0).map fun (x28 : (Str × Int)) => x28.1) ((hz.2 hc2).2 y21 he24)))) (q_eq (ek_L ek_str) ((plOf v0).map fun (x25 : (Str × Int)) => x25.1) (srt slt (nubF ((plOf v0).map fun (x28 : (Str × Int)) => x28.1))) (by decide))) rfl
theorem cA__law_is_row {x : PyData} (h : p__law_is_rowA x = true) : eA x = ePl (plOf x) := by
  unfold p__law_is_rowA at h
  split at h
  · cases h
  · rename_i c
    have t := not_ofF (Bool.eq_false_iff.mpr c)
    cases q : loopB rowF (tupOf x) () with
    | nx y => exact cA_row (cA_tup t) q
    | ret b =>
      have h : blV _ _ (loopB rowF (tupOf x) ()) = true := h
      rw [q] at h
      have h : b = true := h
      obtain ⟨y, _, e⟩ := loopB_ret q
      dsimp only [rowF] at e
      subst h
      split at e
      · cases e
      split at e
      · cases e
      split at e
      · cases e
      cases e

def p_is_name (v0 : Str) : Bool := (if ((!true) || ((decide ((v0.length : Int) < (1 : Int))) || (decide ((6 : Int) < (v0.length : Int))))) = true then false else (((chars v0).map fun (x5 : Str) => (hasS ("abcdefghijklmnopqrstuvwxyz" : Str) x5)).all id))
def z_is_name (v0 : Str) : Prop := (((!true) = false → ((v0.length ≤ sizeLine) ∧ ((decide ((v0.length : Int) < (1 : Int))) = false → (v0.length ≤ sizeLine)))) ∧ (∀ hc4 : ((!true) || ((decide ((v0.length : Int) < (1 : Int))) || (decide ((6 : Int) < (v0.length : Int))))) = false, ((v0.length ≤ sizeLine) ∧ (∀ x5 ∈ (chars v0), (sgn x5)))))
theorem e_is_name (v0 : Str) (hz : z_is_name v0) (g : Gs) : F_is_name [.d (PyData.str v0)] g = .ok ((fun (x : Bool) => RV.d (PyData.bool x)) (p_is_name v0)) g := by
  have hz : (((!true) = false → ((v0.length ≤ sizeLine) ∧ ((decide ((v0.length : Int) < (1 : Int))) = false → (v0.length ≤ sizeLine)))) ∧ (∀ hc4 : ((!true) || ((decide ((v0.length : Int) < (1 : Int))) || (decide ((6 : Int) < (v0.length : Int))))) = false, ((v0.length ≤ sizeLine) ∧ (∀ x5 ∈ (chars v0), (sgn x5))))) := hz
  show fnR 1 2 b_is_name _ g = .ok ((fun (x : Bool) => RV.d (PyData.bool x)) ((if ((!true) || ((decide ((v0.length : Int) < (1 : Int))) || (decide ((6 : Int) < (v0.length : Int))))) = true then false else (((chars v0).map fun (x5 : Str) => (hasS ("abcdefghijklmnopqrstuvwxyz" : Str) x5)).all id)))) g
  unfold b_is_name
  refine f_ret (w := (fun (x : Bool) => RV.d (PyData.bool x))) rfl (g_last ?_)
  refine g_assoc ?_
  refine g_if (c := ((!true) || ((decide ((v0.length : Int) < (1 : Int))) || (decide ((6 : Int) < (v0.length : Int)))))) ?_ (fun hc3 => ?_) (fun hc4 => ?_)
  · exact (v_or (v_not (v_test (v_isiC (dd (v_var (x := PyData.str v0) rfl)) rfl))) (fun hb1 => (v_or (v_test (v_op (dd (v_cb (va_d (v_var (x := PyData.str v0) rfl) va_nil) (q_lenS v0 (hz.1 hb1).1))) (dd v_c) rfl)) (fun hb2 => (v_test (v_op (dd (v_cb (va_d (v_var (x := PyData.str v0) rfl) va_nil) (q_lenS v0 ((hz.1 hb1).2 hb2)))) (dd v_c) rfl))))))
  · exact g_ret v_c rfl
  · refine g_nextS ?_
    exact g_ret (v_cb (va_l (v_lc0 (h := fun (x5 : Str) => (hasS ("abcdefghijklmnopqrstuvwxyz" : Str) x5)) (e' := PyData.bool) (vi_strZ (dd (v_var (x := PyData.str v0) rfl)) (hz.2 hc4).1) (fun x5 hx7 => ⟨_, rfl, (dd (v_op (dd (v_var (x := PyData.str x5) rfl)) (dd v_c) (q_inS ("abcdefghijklmnopqrstuvwxyz" : Str) ((hz.2 hc4).2 x5 hx7))))⟩)) va_nil) (q_all ((chars v0).map fun (x5 : Str) => (hasS ("abcdefghijklmnopqrstuvwxyz" : Str) x5)))) rfl
def p_is_nameA (v0 : PyData) : Bool := (if ((!(isD "str" v0)) || ((decide (((strOf v0).length : Int) < (1 : Int))) || (decide ((6 : Int) < ((strOf v0).length : Int))))) = true then false else (((chars (strOf v0)).map fun (x5 : Str) => (hasS ("abcdefghijklmnopqrstuvwxyz" : Str) x5)).all id))
def z_is_nameA (v0 : PyData) : Prop := (((isE v0 = false) ∧ ((!(isD "str" v0)) = false → (((strOf v0).length ≤ sizeLine) ∧ ((decide (((strOf v0).length : Int) < (1 : Int))) = false → ((strOf v0).length ≤ sizeLine))))) ∧ (∀ hc4 : ((!(isD "str" v0)) || ((decide (((strOf v0).length : Int) < (1 : Int))) || (decide ((6 : Int) < ((strOf v0).length : Int))))) = false, (((strOf v0).length ≤ sizeLine) ∧ (∀ x5 ∈ (chars (strOf v0)), (sgn x5)))))
theorem e_is_nameA (v0 : PyData) (hz : z_is_nameA v0) (g : Gs) : F_is_name [.d (eA v0)] g = .ok ((fun (x : Bool) => RV.d (PyData.bool x)) (p_is_nameA v0)) g := by
  have hz : (((isE v0 = false) ∧ ((!(isD "str" v0)) = false → (((strOf v0).length ≤ sizeLine) ∧ ((decide (((strOf v0).length : Int) < (1 : Int))) = false → ((strOf v0).length ≤ sizeLine))))) ∧ (∀ hc4 : ((!(isD "str" v0)) || ((decide (((strOf v0).length : Int) < (1 : Int))) || (decide ((6 : Int) < ((strOf v0).length : Int))))) = false, (((strOf v0).length ≤ sizeLine) ∧ (∀ x5 ∈ (chars (strOf v0)), (sgn x5))))) := hz
  show fnR 1 2 b_is_name _ g = .ok ((fun (x : Bool) => RV.d (PyData.bool x)) ((if ((!(isD "str" v0)) || ((decide (((strOf v0).length : Int) < (1 : Int))) || (decide ((6 : Int) < ((strOf v0).length : Int))))) = true then false else (((chars (strOf v0)).map fun (x5 : Str) => (hasS ("abcdefghijklmnopqrstuvwxyz" : Str) x5)).all id)))) g
  unfold b_is_name
  refine f_ret (w := (fun (x : Bool) => RV.d (PyData.bool x))) rfl (g_last ?_)
  refine g_assoc ?_
  refine g_if (c := ((!(isD "str" v0)) || ((decide (((strOf v0).length : Int) < (1 : Int))) || (decide ((6 : Int) < ((strOf v0).length : Int)))))) ?_ (fun hc3 => ?_) (fun hc4 => ?_)
  · exact (v_or (v_not (v_test (v_isi (dd (v_var (x := eA v0) rfl)) hz.1.1))) (fun hb1 => (v_or (v_test (v_op (dd (v_cb (va_d (v_cast (v_var (x := eA v0) rfl) (cA_str (not_ofF hb1))) va_nil) (q_lenS (strOf v0) (hz.1.2 hb1).1))) (dd v_c) rfl)) (fun hb2 => (v_test (v_op (dd (v_cb (va_d (v_cast (v_var (x := eA v0) rfl) (cA_str (not_ofF hb1))) va_nil) (q_lenS (strOf v0) ((hz.1.2 hb1).2 hb2)))) (dd v_c) rfl))))))
  · exact g_ret v_c rfl
  · refine g_nextS ?_
    exact g_ret (v_cb (va_l (v_lc0 (h := fun (x5 : Str) => (hasS ("abcdefghijklmnopqrstuvwxyz" : Str) x5)) (e' := PyData.bool) (vi_strZ (dd (v_cast (v_var (x := eA v0) rfl) (cA_str (not_ofF (or_l hc4))))) (hz.2 hc4).1) (fun x5 hx7 => ⟨_, rfl, (dd (v_op (dd (v_var (x := PyData.str x5) rfl)) (dd v_c) (q_inS ("abcdefghijklmnopqrstuvwxyz" : Str) ((hz.2 hc4).2 x5 hx7))))⟩)) va_nil) (q_all ((chars (strOf v0)).map fun (x5 : Str) => (hasS ("abcdefghijklmnopqrstuvwxyz" : Str) x5)))) rfl
theorem cA_is_name {x : PyData} (h : p_is_nameA x = true) : eA x = PyData.str (strOf x) := by
  cases x with
  | str s => rfl
  | dict ks => unfold p_is_nameA at h; rw [isD_dict "str"] at h; cases h
  | _ => cases h

def p_is_number (v0 : Int) : Bool := (true && (!false))
theorem e_is_number (v0 : Int) (g : Gs) : F_is_number [.d (PyData.int v0)] g = .ok ((fun (x : Bool) => RV.d (PyData.bool x)) (p_is_number v0)) g := by
  show fnR 1 1 b_is_number _ g = .ok ((fun (x : Bool) => RV.d (PyData.bool x)) ((true && (!false)))) g
  unfold b_is_number
  refine f_ret (w := (fun (x : Bool) => RV.d (PyData.bool x))) rfl (g_last ?_)
  exact g_ret (v_andV (v_isiC (dd (v_var (x := PyData.int v0) rfl)) rfl) (fun hb1 => (v_notV (v_isiC (dd (v_var (x := PyData.int v0) rfl)) rfl)))) rfl
def p_is_numberA (v0 : PyData) : Bool := ((isD "int" v0) && (!(isD "bool" v0)))
def z_is_numberA (v0 : PyData) : Prop := ((isE v0 = false) ∧ ((isD "int" v0) = true → (isE v0 = false)))
theorem e_is_numberA (v0 : PyData) (hz : z_is_numberA v0) (g : Gs) : F_is_number [.d (eA v0)] g = .ok ((fun (x : Bool) => RV.d (PyData.bool x)) (p_is_numberA v0)) g := by
  have hz : ((isE v0 = false) ∧ ((isD "int" v0) = true → (isE v0 = false))) := hz
  show fnR 1 1 b_is_number _ g = .ok ((fun (x : Bool) => RV.d (PyData.bool x)) (((isD "int" v0) && (!(isD "bool" v0))))) g
  unfold b_is_number
  refine f_ret (w := (fun (x : Bool) => RV.d (PyData.bool x))) rfl (g_last ?_)
  exact g_ret (v_andV (v_isi (dd (v_var (x := eA v0) rfl)) hz.1) (fun hb1 => (v_notV (v_isi (dd (v_var (x := eA v0) rfl)) (hz.2 hb1))))) rfl
theorem cA_is_number {x : PyData} (h : p_is_numberA x = true) : eA x = PyData.int (intOf x) := by
  cases x with
  | int i => rfl
  | dict ks => unfold p_is_numberA at h; rw [isD_dict "int"] at h; cases h
  | _ => cases h

def p_is_pair (v0 : (Str × Int)) : Bool := (true && ((decide ((2 : Int) = (2 : Int))) && ((p_is_name v0.1) && (p_is_number v0.2))))
def z_is_pair (v0 : (Str × Int)) : Prop := (true = true → ((decide ((2 : Int) = (2 : Int))) = true → (z_is_name v0.1)))
theorem e_is_pair (v0 : (Str × Int)) (hz : z_is_pair v0) (g : Gs) : F_is_pair [.d (ePr v0)] g = .ok ((fun (x : Bool) => RV.d (PyData.bool x)) (p_is_pair v0)) g := by
  have hz : (true = true → ((decide ((2 : Int) = (2 : Int))) = true → (z_is_name v0.1))) := hz
  show fnR 1 1 b_is_pair _ g = .ok ((fun (x : Bool) => RV.d (PyData.bool x)) ((true && ((decide ((2 : Int) = (2 : Int))) && ((p_is_name v0.1) && (p_is_number v0.2)))))) g
  unfold b_is_pair
  refine f_ret (w := (fun (x : Bool) => RV.d (PyData.bool x))) rfl (g_last ?_)
  exact g_ret (v_andV (v_isiC (dd (v_var (x := ePr v0) rfl)) rfl) (fun hb1 => (v_andV (v_op (dd (v_cb (va_d (v_var (x := ePr v0) rfl) va_nil) (q_lenX v0))) (dd v_c) (q_eq ek_int (2 : Int) (2 : Int) (by decide))) (fun hb2 => (v_andV (v_call (va_d (v_op (dd (v_var (x := ePr v0) rfl)) (dd v_c) rfl) va_nil) (e_is_name v0.1 ((hz hb1) hb2) _)) (fun hb3 => (v_call (va_d (v_op (dd (v_var (x := ePr v0) rfl)) (dd v_c) rfl) va_nil) (e_is_number v0.2 _)))))))) rfl
def p_is_pairA (v0 : PyData) : Bool := ((isD "tuple" v0) && ((decide (((tupOf v0).length : Int) = (2 : Int))) && ((p_is_nameA ((atI (tupOf v0) (0 : Int)).getD PyData.none)) && (p_is_numberA ((atI (tupOf v0) (1 : Int)).getD PyData.none)))))
def z_is_pairA (v0 : PyData) : Prop := ((isE v0 = false) ∧ ((isD "tuple" v0) = true → ((decide (((tupOf v0).length : Int) = (2 : Int))) = true → ((((atI (tupOf v0) (0 : Int)).isSome = true) ∧ (z_is_nameA ((atI (tupOf v0) (0 : Int)).getD PyData.none))) ∧ ((p_is_nameA ((atI (tupOf v0) (0 : Int)).getD PyData.none)) = true → (((atI (tupOf v0) (1 : Int)).isSome = true) ∧ (z_is_numberA ((atI (tupOf v0) (1 : Int)).getD PyData.none))))))))
theorem e_is_pairA (v0 : PyData) (hz : z_is_pairA v0) (g : Gs) : F_is_pair [.d (eA v0)] g = .ok ((fun (x : Bool) => RV.d (PyData.bool x)) (p_is_pairA v0)) g := by
  have hz : ((isE v0 = false) ∧ ((isD "tuple" v0) = true → ((decide (((tupOf v0).length : Int) = (2 : Int))) = true → ((((atI (tupOf v0) (0 : Int)).isSome = true) ∧ (z_is_nameA ((atI (tupOf v0) (0 : Int)).getD PyData.none))) ∧ ((p_is_nameA ((atI (tupOf v0) (0 : Int)).getD PyData.none)) = true → (((atI (tupOf v0) (1 : Int)).isSome = true) ∧ (z_is_numberA ((atI (tupOf v0) (1 : Int)).getD PyData.none)))))))) := hz
  show fnR 1 1 b_is_pair _ g = .ok ((fun (x : Bool) => RV.d (PyData.bool x)) (((isD "tuple" v0) && ((decide (((tupOf v0).length : Int) = (2 : Int))) && ((p_is_nameA ((atI (tupOf v0) (0 : Int)).getD PyData.none)) && (p_is_numberA ((atI (tupOf v0) (1 : Int)).getD PyData.none))))))) g
  unfold b_is_pair
  refine f_ret (w := (fun (x : Bool) => RV.d (PyData.bool x))) rfl (g_last ?_)
  exact g_ret (v_andV (v_isi (dd (v_var (x := eA v0) rfl)) hz.1) (fun hb1 => (v_andV (v_op (dd (v_cb (va_d (v_cast (v_var (x := eA v0) rfl) (cA_tup hb1)) va_nil) (q_lenT (tupOf v0)))) (dd v_c) (q_eq ek_int ((tupOf v0).length : Int) (2 : Int) (by decide))) (fun hb2 => (v_andV (v_call (va_d (v_op (dd (v_cast (v_var (x := eA v0) rfl) (cA_tup hb1))) (dd v_c) (q_ixT (d := PyData.none) ((hz.2 hb1) hb2).1.1)) va_nil) (e_is_nameA ((atI (tupOf v0) (0 : Int)).getD PyData.none) ((hz.2 hb1) hb2).1.2 _)) (fun hb3 => (v_call (va_d (v_op (dd (v_cast (v_var (x := eA v0) rfl) (cA_tup hb1))) (dd v_c) (q_ixT (d := PyData.none) (((hz.2 hb1) hb2).2 hb3).1)) va_nil) (e_is_numberA ((atI (tupOf v0) (1 : Int)).getD PyData.none) (((hz.2 hb1) hb2).2 hb3).2 _)))))))) rfl
theorem cA_is_pair {x : PyData} (h : p_is_pairA x = true) : eA x = ePr (prOf x) := by
  unfold p_is_pairA at h
  obtain ⟨h1, h⟩ := Bool.and_eq_true_iff.mp h
  obtain ⟨h2, h⟩ := Bool.and_eq_true_iff.mp h
  obtain ⟨h3, h4⟩ := Bool.and_eq_true_iff.mp h
  cases x with
  | tuple xs =>
    have h2 := of_decide_eq_true h2
    match xs, h2 with
    | [a, b], _ =>
      have h3 : p_is_nameA a = true := h3
      have h4 : p_is_numberA b = true := h4
      have e1 := cA_is_name h3
      have e2 := cA_is_number h4
      show PyData.tuple [a, b] = .tuple [.str (strOf a), .int (intOf b)]
      rw [← e1, ← e2]
  | dict ks => rw [isD_dict "tuple"] at h1; cases h1
  | _ => cases h1

def p_are_pairs (v0 : (List (Str × Int))) : Bool := (if ((!true) || (!((v0.map fun (x2 : (Str × Int)) => (p_is_pair x2)).all id))) = true then false else (((v0.zip (cut v0 (some (1 : Int)) none)).map fun (x7 : ((Str × Int) × (Str × Int))) => (slt x7.1.1 x7.2.1)).all id))
def z_are_pairs (v0 : (List (Str × Int))) : Prop := ((!true) = false → (∀ x2 ∈ v0, (z_is_pair x2)))
theorem e_are_pairs (v0 : (List (Str × Int))) (hz : z_are_pairs v0) (g : Gs) : F_are_pairs [.d (ePl v0)] g = .ok ((fun (x : Bool) => RV.d (PyData.bool x)) (p_are_pairs v0)) g := by
  have hz : ((!true) = false → (∀ x2 ∈ v0, (z_is_pair x2))) := hz
  show fnR 1 4 b_are_pairs _ g = .ok ((fun (x : Bool) => RV.d (PyData.bool x)) ((if ((!true) || (!((v0.map fun (x2 : (Str × Int)) => (p_is_pair x2)).all id))) = true then false else (((v0.zip (cut v0 (some (1 : Int)) none)).map fun (x7 : ((Str × Int) × (Str × Int))) => (slt x7.1.1 x7.2.1)).all id)))) g
  unfold b_are_pairs
  refine f_ret (w := (fun (x : Bool) => RV.d (PyData.bool x))) rfl (g_last ?_)
  refine g_assoc ?_
  refine g_if (c := ((!true) || (!((v0.map fun (x2 : (Str × Int)) => (p_is_pair x2)).all id)))) ?_ (fun hc5 => ?_) (fun hc6 => ?_)
  · exact (v_or (v_not (v_test (v_isiC (dd (v_var (x := ePl v0) rfl)) rfl))) (fun hb1 => (v_not (v_test (v_cb (va_l (v_lc0 (h := fun (x2 : (Str × Int)) => (p_is_pair x2)) (e' := PyData.bool) (vi_seqZ (dd (v_var (x := ePl v0) rfl)) rfl) (fun x2 hx4 => ⟨_, rfl, (dd (v_call (va_d (v_var (x := ePr x2) rfl) va_nil) (e_is_pair x2 ((hz hb1) x2 hx4) _)))⟩)) va_nil) (q_all (v0.map fun (x2 : (Str × Int)) => (p_is_pair x2))))))))
  · exact g_ret v_c rfl
  · refine g_nextS ?_
    exact g_ret (v_cb (va_l (v_lc0 (h := fun (x7 : ((Str × Int) × (Str × Int))) => (slt x7.1.1 x7.2.1)) (e' := PyData.bool) (vi_b (va_d (v_var (x := ePl v0) rfl) (va_d (v_sl (dd (v_var (x := ePl v0) rfl)) (vo_s v_c) vo_n (q_slT v0 (some (1 : Int)) none)) va_nil)) (q_zipT v0 (cut v0 (some (1 : Int)) none))) (fun x7 hx9 => ⟨_, rfl, (dd (v_op (dd (v_op (dd (v_var (x := ePr x7.1) rfl)) (dd v_c) rfl)) (dd (v_op (dd (v_var (x := ePr x7.2) rfl)) (dd v_c) rfl)) rfl))⟩)) va_nil) (q_all ((v0.zip (cut v0 (some (1 : Int)) none)).map fun (x7 : ((Str × Int) × (Str × Int))) => (slt x7.1.1 x7.2.1)))) rfl
def p_are_pairsA (v0 : PyData) : Bool := (if ((!(isD "tuple" v0)) || (!(((tupOf v0).map fun (x2 : PyData) => (p_is_pairA x2)).all id))) = true then false else (((((tupOf v0).map prOf).zip (cut ((tupOf v0).map prOf) (some (1 : Int)) none)).map fun (x7 : ((Str × Int) × (Str × Int))) => (slt x7.1.1 x7.2.1)).all id))
def z_are_pairsA (v0 : PyData) : Prop := ((isE v0 = false) ∧ ((!(isD "tuple" v0)) = false → (∀ x2 ∈ (tupOf v0), (z_is_pairA x2))))
theorem e_are_pairsA (v0 : PyData) (hz : z_are_pairsA v0) (g : Gs) : F_are_pairs [.d (eA v0)] g = .ok ((fun (x : Bool) => RV.d (PyData.bool x)) (p_are_pairsA v0)) g := by
  have hz : ((isE v0 = false) ∧ ((!(isD "tuple" v0)) = false → (∀ x2 ∈ (tupOf v0), (z_is_pairA x2)))) := hz
  show fnR 1 4 b_are_pairs _ g = .ok ((fun (x : Bool) => RV.d (PyData.bool x)) ((if ((!(isD "tuple" v0)) || (!(((tupOf v0).map fun (x2 : PyData) => (p_is_pairA x2)).all id))) = true then false else (((((tupOf v0).map prOf).zip (cut ((tupOf v0).map prOf) (some (1 : Int)) none)).map fun (x7 : ((Str × Int) × (Str × Int))) => (slt x7.1.1 x7.2.1)).all id)))) g
  unfold b_are_pairs
  refine f_ret (w := (fun (x : Bool) => RV.d (PyData.bool x))) rfl (g_last ?_)
  refine g_assoc ?_
  refine g_if (c := ((!(isD "tuple" v0)) || (!(((tupOf v0).map fun (x2 : PyData) => (p_is_pairA x2)).all id)))) ?_ (fun hc5 => ?_) (fun hc6 => ?_)
  · exact (v_or (v_not (v_test (v_isi (dd (v_var (x := eA v0) rfl)) hz.1))) (fun hb1 => (v_not (v_test (v_cb (va_l (v_lc0 (h := fun (x2 : PyData) => (p_is_pairA x2)) (e' := PyData.bool) (vi_seqZ (dd (v_cast (v_var (x := eA v0) rfl) (cA_tup (not_ofF hb1)))) rfl) (fun x2 hx4 => ⟨_, rfl, (dd (v_call (va_d (v_var (x := eA x2) rfl) va_nil) (e_is_pairA x2 ((hz.2 hb1) x2 hx4) _)))⟩)) va_nil) (q_all ((tupOf v0).map fun (x2 : PyData) => (p_is_pairA x2))))))))
  · exact g_ret v_c rfl
  · refine g_nextS ?_
    exact g_ret (v_cb (va_l (v_lc0 (h := fun (x7 : ((Str × Int) × (Str × Int))) => (slt x7.1.1 x7.2.1)) (e' := PyData.bool) (vi_b (va_d (v_cast (v_var (x := eA v0) rfl) (cA_allT (cA_tup (not_ofF (or_l hc6))) (not_ofF (or_r hc6)) fun h => cA_is_pair h)) (va_d (v_sl (dd (v_cast (v_var (x := eA v0) rfl) (cA_allT (cA_tup (not_ofF (or_l hc6))) (not_ofF (or_r hc6)) fun h => cA_is_pair h))) (vo_s v_c) vo_n (q_slT ((tupOf v0).map prOf) (some (1 : Int)) none)) va_nil)) (q_zipT ((tupOf v0).map prOf) (cut ((tupOf v0).map prOf) (some (1 : Int)) none))) (fun x7 hx9 => ⟨_, rfl, (dd (v_op (dd (v_op (dd (v_var (x := ePr x7.1) rfl)) (dd v_c) rfl)) (dd (v_op (dd (v_var (x := ePr x7.2) rfl)) (dd v_c) rfl)) rfl))⟩)) va_nil) (q_all ((((tupOf v0).map prOf).zip (cut ((tupOf v0).map prOf) (some (1 : Int)) none)).map fun (x7 : ((Str × Int) × (Str × Int))) => (slt x7.1.1 x7.2.1)))) rfl
theorem cA_are_pairs {x : PyData} (h : p_are_pairsA x = true) : eA x = ePl (plOf x) := by
  unfold p_are_pairsA at h
  split at h
  · cases h
  · rename_i c
    have c := Bool.eq_false_iff.mpr c
    exact cA_allT (cA_tup (not_ofF (or_l c))) (not_ofF (or_r c)) fun h => cA_is_pair h

def p_is_planA (v0 : PyData) : Bool := (p_are_pairsA v0)
def z_is_planA (v0 : PyData) : Prop := (z_are_pairsA v0)
theorem e_is_planA (v0 : PyData) (hz : z_is_planA v0) (g : Gs) : F_is_plan [.d (eA v0)] g = .ok ((fun (x : Bool) => RV.d (PyData.bool x)) (p_is_planA v0)) g := by
  have hz : (z_are_pairsA v0) := hz
  show fnR 1 1 b_is_plan _ g = .ok ((fun (x : Bool) => RV.d (PyData.bool x)) ((p_are_pairsA v0))) g
  unfold b_is_plan
  refine f_ret (w := (fun (x : Bool) => RV.d (PyData.bool x))) rfl (g_last ?_)
  exact g_ret (v_call (va_d (v_var (x := eA v0) rfl) va_nil) (e_are_pairsA v0 hz _)) rfl
def z_need_plan (v0 : (List (Str × Int))) : Prop := ((z_are_pairs v0) ∧ ((!(p_are_pairs v0)) = false))
theorem e_need_plan (v0 : (List (Str × Int))) (hz : z_need_plan v0) (g : Gs) : F_need_plan [.d (ePl v0)] g = .ok (.d .none) g := by
  have hz : ((z_are_pairs v0) ∧ ((!(p_are_pairs v0)) = false)) := hz
  show fnR 1 1 b_need_plan _ g = .ok (.d .none) g
  unfold b_need_plan
  refine f_none rfl (g_last ?_)
  have hf1 := hz.2
  refine g_ifF (ok_of hz.2 ?_) (g_nextS ?_)
  · exact (v_not (v_test (v_call (va_d (v_var (x := ePl v0) rfl) va_nil) (e_are_pairs v0 hz.1 _))))
  exact g_next (.inl ⟨_, rfl⟩)
def p_moment_in (v0 : (List (Str × Int))) (v1 : Str) : (Option Int) := (blV (fun (b14 : (Option Int)) => b14) (fun (y9 : Unit) => none) (loopB (fun (s1 : Unit) (x2 : (Str × Int)) => ((if (decide (x2.1 = v1)) = true then (Bl.ret (some x2.2)) else (Bl.nx ())) : Bl (Option Int) (Unit))) v0 ()))
theorem e_moment_in (v0 : (List (Str × Int))) (v1 : Str) (g : Gs) : F_moment_in [.d (ePl v0), .d (PyData.str v1)] g = .ok ((fun (x : (Option Int)) => RV.d ((eO PyData.int) x)) (p_moment_in v0 v1)) g := by
  show fnR 2 4 b_moment_in _ g = .ok ((fun (x : (Option Int)) => RV.d ((eO PyData.int) x)) ((blV (fun (b14 : (Option Int)) => b14) (fun (y9 : Unit) => none) (loopB (fun (s1 : Unit) (x2 : (Str × Int)) => ((if (decide (x2.1 = v1)) = true then (Bl.ret (some x2.2)) else (Bl.nx ())) : Bl (Option Int) (Unit))) v0 ())))) g
  unfold b_moment_in
  refine f_ret (w := (fun (x : (Option Int)) => RV.d ((eO PyData.int) x))) rfl (g_last ?_)
  refine g_assoc ?_
  refine g_loopK (w := (fun (x : (Option Int)) => RV.d ((eO PyData.int) x))) (ea := ePr) (z := (fun (s1 : Unit) (x2 : (Str × Int)) => True)) (vr := fun (b14 : (Option Int)) => b14) (vn := fun (y9 : Unit) => none) (fun (s1 : Unit) ρ => ∃ j3 j4 : SD, ρ = [.d (ePl v0), .d (PyData.str v1), j3, j4]) ?_ ?_ ?_ ?_ ?_ ?_
  · exact (vi_seq (dd (v_var (x := ePl v0) rfl)) rfl)
  · exact ⟨_, _, rfl⟩
  · exact (zLoop_true v0)
  · intro s1 x2 ρ hr7 hz8
    obtain ⟨j3, j4, rfl⟩ := hr7
    refine ⟨_, rfl, g_last ?_⟩
    refine g_if (c := (decide (x2.1 = v1))) ?_ (fun hc5 => ?_) (fun hc6 => ?_)
    · exact (v_test (v_op (dd (v_var (x := PyData.str x2.1) rfl)) (dd (v_var (x := PyData.str v1) rfl)) (q_eq ek_str x2.1 v1 (by decide))))
    · exact g_retV rfl rfl
    · refine g_nextS ?_
      exact g_next ⟨_, .inl rfl, ⟨_, _, rfl⟩⟩
  · exact fun _ => rfl
  · intro y9 ρ he13 hr10
    obtain ⟨j11, j12, rfl⟩ := hr10
    exact g_ret v_c rfl
def p_moment_of (v0 : (List (Str × Int))) (v1 : Str) : (Option Int) := (p_moment_in v0 v1)
def z_moment_of (v0 : (List (Str × Int))) (v1 : Str) : Prop := ((z_need_plan v0) ∧ ((z_is_name v1) ∧ ((!(p_is_name v1)) = false)))
theorem e_moment_of (v0 : (List (Str × Int))) (v1 : Str) (hz : z_moment_of v0 v1) (g : Gs) : F_moment_of [.d (ePl v0), .d (PyData.str v1)] g = .ok ((fun (x : (Option Int)) => RV.d ((eO PyData.int) x)) (p_moment_of v0 v1)) g := by
  have hz : ((z_need_plan v0) ∧ ((z_is_name v1) ∧ ((!(p_is_name v1)) = false))) := hz
  show fnR 2 2 b_moment_of _ g = .ok ((fun (x : (Option Int)) => RV.d ((eO PyData.int) x)) ((p_moment_in v0 v1))) g
  unfold b_moment_of
  refine f_ret (w := (fun (x : (Option Int)) => RV.d ((eO PyData.int) x))) rfl (g_last ?_)
  refine g_assoc ?_
  refine g_drop (r := RV.d .none) ?_ ?_
  · exact (v_call (va_d (v_var (x := ePl v0) rfl) va_nil) (e_need_plan v0 hz.1 _))
  refine g_assoc ?_
  have hf1 := hz.2.2
  refine g_ifF (ok_of hz.2.2 ?_) (g_nextS ?_)
  · exact (v_not (v_test (v_call (va_d (v_var (x := PyData.str v1) rfl) va_nil) (e_is_name v1 hz.2.1 _))))
  exact g_ret (v_call (va_d (v_var (x := ePl v0) rfl) (va_d (v_var (x := PyData.str v1) rfl) va_nil)) (e_moment_in v0 v1 _)) rfl
theorem mk__law_error : MkOk ["BadPlan", "BadThing"] F__law_error (fun o => .d (eE o)) := mk_retE (fun v x => rfl) (fun v => rfl)
noncomputable def m_law (v0 : (List Int)) (v1 : Addr) (g : Gs) : R Bool := (R.asrt (-(2 ^ 62) ≤ ((10 : Int) + (min (v0.length : Int) (40 : Int))) ∧ ((10 : Int) + (min (v0.length : Int) (40 : Int))) < 2 ^ 62) ((loopM (fun (s1 : Unit) (x2 : Int) g => (((((m__law_draw v1 (6 : Int) g).mp fun (u11 : Int) => ((1 : Int) + u11)).bind fun (p14 : Int) g => m__law_words v1 p14 g).bind fun (y16 : (List Str)) g => ((m__law_row v1 y16 (5 : Int) g).bind fun (y18 : (List (Str × Int))) g => ((((m__law_draw v1 (3 : Int) g).mp fun (u19 : Int) => (decide ((0 : Int) < u19))).bind fun c g => if c = true then (m__law_bent v1 y18 g) else (.ok (ePl y18) g)).bind fun (y28 : PyData) g => (R.asrt (z__law_is_rowA y28) (R.asrt ((((z_is_planA y28) ∧ (z_is_planA y28)) ∧ (Shd ((eL PyData.bool) [(p_is_planA y28), (p_is_planA y28)]))) ∧ (Shd ((eL PyData.bool) [(p__law_is_rowA y28), (p__law_is_rowA y28)]))) (if (decide ((PyData.shown ((eL PyData.bool) [(p_is_planA y28), (p_is_planA y28)])) ≠ (PyData.shown ((eL PyData.bool) [(p__law_is_rowA y28), (p__law_is_rowA y28)])))) = true then (.ok (Bl.ret false) g) else ((R.asrt (y16.length + [("zzzzz" : Str)].length ≤ sizeLine) (m__law_pick PyData.str v1 (y16 ++ [("zzzzz" : Str)]) g)).bind fun (y34 : Str) g => (if (p__law_is_rowA y28) = true then (R.asrt ((((z_moment_of (plOf y28) y34) ∧ (∀ i, (p_moment_of (plOf y28) y34) = some i → i.natAbs.log2 < 1920)) ∧ (∀ i, (dlk (dmk (plOf y28)) y34) = some i → i.natAbs.log2 < 1920)) ∧ (∀ hb37 : (decide ((PyData.shown (eO PyData.int (p_moment_of (plOf y28) y34))) ≠ (PyData.shown (eO PyData.int (dlk (dmk (plOf y28)) y34))))) = false, ((z_moment_of (plOf y28) y34) ∧ (z_moment_of (plOf y28) y34)))) (if ((decide ((PyData.shown (eO PyData.int (p_moment_of (plOf y28) y34))) ≠ (PyData.shown (eO PyData.int (dlk (dmk (plOf y28)) y34))))) || (decide ((p_moment_of (plOf y28) y34) ≠ (p_moment_of (plOf y28) y34)))) = true then (.ok (Bl.ret false) g) else ((m__law_pick eA v1 [((eO eU) none), (PyData.int (5 : Int)), (PyData.str ("" : Str)), (PyData.str ("A" : Str)), (PyData.str ("abcdefg" : Str)), ((eL PyData.str) [("a" : Str)]), (ePr (("a" : Str), (0 : Int))), (PyData.bool true), (PyData.str ("a b" : Str)), (PyData.str ("a1" : Str))] g).bind fun (y41 : PyData) g => (R.asrt ((ZOk ["BadPlan", "BadThing"] (F_moment_of [.d (ePl y18), .d (eA y41)])) ∧ (g.tt = true)) (letv (erO (F_moment_of [.d (ePl y18), .d (eA y41)])) fun (y42 : ErT) => (R.asrt ((knE ["BadPlan", "BadThing"] y42) ∧ (∀ hb43 : (!(isEr "BadThing" y42)) = false, (((knE ["BadThing"] y42 ∧ (erA "thing" y42).isSome = true) ∧ (oReprE ((erA "thing" y42).getD .none) = some (.d (.str (shA ((erA "thing" y42).getD .none)))))) ∧ (oReprE y41 = some (.d (.str (shA y41))))))) (if ((!(isEr "BadThing" y42)) || (decide ((shA ((erA "thing" y42).getD .none)) ≠ (shA y41)))) = true then (.ok (Bl.ret false) g) else (.ok (Bl.nx ()) g)))))))) else (R.asrt (((ZOk ["BadPlan", "BadThing"] (F_moment_of [.d (eA y28), .d ((eO eU) none)])) ∧ (g.tt = true)) ∧ (knE ["BadPlan", "BadThing"] (erO (F_moment_of [.d (eA y28), .d ((eO eU) none)])))) (if (!(isEr "BadPlan" (erO (F_moment_of [.d (eA y28), .d ((eO eU) none)])))) = true then (.ok (Bl.ret false) g) else ((m__law_pick eA v1 [((eO eU) none), (PyData.int (5 : Int)), (PyData.str ("" : Str)), (PyData.str ("A" : Str)), (PyData.str ("abcdefg" : Str)), ((eL PyData.str) [("a" : Str)]), (ePr (("a" : Str), (0 : Int))), (PyData.bool true), (PyData.str ("a b" : Str)), (PyData.str ("a1" : Str))] g).bind fun (y52 : PyData) g => (R.asrt ((ZOk ["BadPlan", "BadThing"] (F_moment_of [.d (ePl y18), .d (eA y52)])) ∧ (g.tt = true)) (letv (erO (F_moment_of [.d (ePl y18), .d (eA y52)])) fun (y53 : ErT) => (R.asrt ((knE ["BadPlan", "BadThing"] y53) ∧ (∀ hb54 : (!(isEr "BadThing" y53)) = false, (((knE ["BadThing"] y53 ∧ (erA "thing" y53).isSome = true) ∧ (oReprE ((erA "thing" y53).getD .none) = some (.d (.str (shA ((erA "thing" y53).getD .none)))))) ∧ (oReprE y52 = some (.d (.str (shA y52))))))) (if ((!(isEr "BadThing" y53)) || (decide ((shA ((erA "thing" y53).getD .none)) ≠ (shA y52)))) = true then (.ok (Bl.ret false) g) else (.ok (Bl.nx ()) g)))))))))))))))) : R (Bl Bool (Unit)))) (rng 0 ((10 : Int) + (min (v0.length : Int) (40 : Int)))) () g).bind (blK (fun (b73 : Bool) => b73) (fun (y63 : Unit) g => (.ok true g)))))
theorem law_g (v0 : (List Int)) (v1 : Addr) (g : Gs) : RG b_law (lawSlots 8 v0 v1) g (m_law v0 v1 g) (Rt (fun x => RV.d (PyData.bool x))) := by
  show RG b_law ([.d ((eL PyData.int) v0), .o (.ref v1), .u, .u, .u, .u, .u, .u, .u, .u] : List SD) g (R.asrt (-(2 ^ 62) ≤ ((10 : Int) + (min (v0.length : Int) (40 : Int))) ∧ ((10 : Int) + (min (v0.length : Int) (40 : Int))) < 2 ^ 62) ((loopM (fun (s1 : Unit) (x2 : Int) g => (((((m__law_draw v1 (6 : Int) g).mp fun (u11 : Int) => ((1 : Int) + u11)).bind fun (p14 : Int) g => m__law_words v1 p14 g).bind fun (y16 : (List Str)) g => ((m__law_row v1 y16 (5 : Int) g).bind fun (y18 : (List (Str × Int))) g => ((((m__law_draw v1 (3 : Int) g).mp fun (u19 : Int) => (decide ((0 : Int) < u19))).bind fun c g => if c = true then (m__law_bent v1 y18 g) else (.ok (ePl y18) g)).bind fun (y28 : PyData) g => (R.asrt (z__law_is_rowA y28) (R.asrt ((((z_is_planA y28) ∧ (z_is_planA y28)) ∧ (Shd ((eL PyData.bool) [(p_is_planA y28), (p_is_planA y28)]))) ∧ (Shd ((eL PyData.bool) [(p__law_is_rowA y28), (p__law_is_rowA y28)]))) (if (decide ((PyData.shown ((eL PyData.bool) [(p_is_planA y28), (p_is_planA y28)])) ≠ (PyData.shown ((eL PyData.bool) [(p__law_is_rowA y28), (p__law_is_rowA y28)])))) = true then (.ok (Bl.ret false) g) else ((R.asrt (y16.length + [("zzzzz" : Str)].length ≤ sizeLine) (m__law_pick PyData.str v1 (y16 ++ [("zzzzz" : Str)]) g)).bind fun (y34 : Str) g => (if (p__law_is_rowA y28) = true then (R.asrt ((((z_moment_of (plOf y28) y34) ∧ (∀ i, (p_moment_of (plOf y28) y34) = some i → i.natAbs.log2 < 1920)) ∧ (∀ i, (dlk (dmk (plOf y28)) y34) = some i → i.natAbs.log2 < 1920)) ∧ (∀ hb37 : (decide ((PyData.shown (eO PyData.int (p_moment_of (plOf y28) y34))) ≠ (PyData.shown (eO PyData.int (dlk (dmk (plOf y28)) y34))))) = false, ((z_moment_of (plOf y28) y34) ∧ (z_moment_of (plOf y28) y34)))) (if ((decide ((PyData.shown (eO PyData.int (p_moment_of (plOf y28) y34))) ≠ (PyData.shown (eO PyData.int (dlk (dmk (plOf y28)) y34))))) || (decide ((p_moment_of (plOf y28) y34) ≠ (p_moment_of (plOf y28) y34)))) = true then (.ok (Bl.ret false) g) else ((m__law_pick eA v1 [((eO eU) none), (PyData.int (5 : Int)), (PyData.str ("" : Str)), (PyData.str ("A" : Str)), (PyData.str ("abcdefg" : Str)), ((eL PyData.str) [("a" : Str)]), (ePr (("a" : Str), (0 : Int))), (PyData.bool true), (PyData.str ("a b" : Str)), (PyData.str ("a1" : Str))] g).bind fun (y41 : PyData) g => (R.asrt ((ZOk ["BadPlan", "BadThing"] (F_moment_of [.d (ePl y18), .d (eA y41)])) ∧ (g.tt = true)) (letv (erO (F_moment_of [.d (ePl y18), .d (eA y41)])) fun (y42 : ErT) => (R.asrt ((knE ["BadPlan", "BadThing"] y42) ∧ (∀ hb43 : (!(isEr "BadThing" y42)) = false, (((knE ["BadThing"] y42 ∧ (erA "thing" y42).isSome = true) ∧ (oReprE ((erA "thing" y42).getD .none) = some (.d (.str (shA ((erA "thing" y42).getD .none)))))) ∧ (oReprE y41 = some (.d (.str (shA y41))))))) (if ((!(isEr "BadThing" y42)) || (decide ((shA ((erA "thing" y42).getD .none)) ≠ (shA y41)))) = true then (.ok (Bl.ret false) g) else (.ok (Bl.nx ()) g)))))))) else (R.asrt (((ZOk ["BadPlan", "BadThing"] (F_moment_of [.d (eA y28), .d ((eO eU) none)])) ∧ (g.tt = true)) ∧ (knE ["BadPlan", "BadThing"] (erO (F_moment_of [.d (eA y28), .d ((eO eU) none)])))) (if (!(isEr "BadPlan" (erO (F_moment_of [.d (eA y28), .d ((eO eU) none)])))) = true then (.ok (Bl.ret false) g) else ((m__law_pick eA v1 [((eO eU) none), (PyData.int (5 : Int)), (PyData.str ("" : Str)), (PyData.str ("A" : Str)), (PyData.str ("abcdefg" : Str)), ((eL PyData.str) [("a" : Str)]), (ePr (("a" : Str), (0 : Int))), (PyData.bool true), (PyData.str ("a b" : Str)), (PyData.str ("a1" : Str))] g).bind fun (y52 : PyData) g => (R.asrt ((ZOk ["BadPlan", "BadThing"] (F_moment_of [.d (ePl y18), .d (eA y52)])) ∧ (g.tt = true)) (letv (erO (F_moment_of [.d (ePl y18), .d (eA y52)])) fun (y53 : ErT) => (R.asrt ((knE ["BadPlan", "BadThing"] y53) ∧ (∀ hb54 : (!(isEr "BadThing" y53)) = false, (((knE ["BadThing"] y53 ∧ (erA "thing" y53).isSome = true) ∧ (oReprE ((erA "thing" y53).getD .none) = some (.d (.str (shA ((erA "thing" y53).getD .none)))))) ∧ (oReprE y52 = some (.d (.str (shA y52))))))) (if ((!(isEr "BadThing" y53)) || (decide ((shA ((erA "thing" y53).getD .none)) ≠ (shA y52)))) = true then (.ok (Bl.ret false) g) else (.ok (Bl.nx ()) g)))))))))))))))) : R (Bl Bool (Unit)))) (rng 0 ((10 : Int) + (min (v0.length : Int) (40 : Int)))) () g).bind (blK (fun (b73 : Bool) => b73) (fun (y63 : Unit) g => (.ok true g))))) _
  unfold b_law
  refine g_last ?_
  refine g_assoc ?_
  refine h_asrt fun hz74 => ?_
  refine h_loopK (w := (fun (x : Bool) => RV.d (PyData.bool x))) (ea := PyData.int) (vr := fun (b73 : Bool) => b73) (fun (s1 : Unit) ρ => ∃ j3 j4 j5 j6 j7 j8 j9 j10 : SD, ρ = [.d ((eL PyData.int) v0), .o (.ref v1), j3, j4, j5, j6, j7, j8, j9, j10]) ?_ ?_ ?_ ?_ ?_
  · exact (vi_b (va_d (v_op (dd v_c) (dd (v_cb (va_d (v_cb (va_d (v_var (x := (eL PyData.int) v0) rfl) va_nil) (q_lenL v0)) (va_d v_c va_nil)) (q_min2 (v0.length : Int) (40 : Int)))) rfl) va_nil) (q_rng1 hz74.2 hz74.1))
  · exact ⟨_, _, _, _, _, _, _, _, rfl⟩
  · intro s1 x2 ρ g hr62
    obtain ⟨j3, j4, j5, j6, j7, j8, j9, j10, rfl⟩ := hr62
    refine ⟨_, rfl, g_last ?_⟩
    refine g_assoc ?_
    refine h_asg (A := (((m__law_draw v1 (6 : Int) g).mp fun (u11 : Int) => ((1 : Int) + u11)).bind fun (p14 : Int) g => m__law_words v1 p14 g)) (e := (eL PyData.str)) ?_ (fun _ => rfl) ?_
    · exact (rl (m_call (as := (fun (p14 : Int) => [.o (.ref v1), .d (PyData.int p14)])) (K := fun (p14 : Int) g => m__law_words v1 p14 g) (w := (fun (x : (List Str)) => RV.nl (x.map PyData.str))) (ma_p (v_varo rfl) (fun _ => rfl) (ma_1 (m_opR (eb := PyData.int) (w := (fun (x : Int) => RV.d (PyData.int x))) (h := fun (u11 : Int) => ((1 : Int) + u11)) (dd v_c) (rd (m_callP (va_conso (v_varo rfl) (va_d v_c va_nil)) (e__law_draw v1 (6 : Int) _))) (fun u11 => rfl)) (fun _ _ => rfl) (fun g => va_nil))) (fun p14 g => e__law_words v1 p14 g)))
    intro y16 g
    refine g_assoc ?_
    refine h_asg (A := (m__law_row v1 y16 (5 : Int) g)) (e := ePl) ?_ (fun _ => rfl) ?_
    · exact (rd (m_callP (va_conso (v_varo rfl) (va_d (v_var (x := (eL PyData.str) y16) rfl) (va_d v_c va_nil))) (e__law_row v1 y16 (5 : Int) _)))
    intro y18 g
    refine g_assoc ?_
    refine h_asg (A := (((m__law_draw v1 (3 : Int) g).mp fun (u19 : Int) => (decide ((0 : Int) < u19))).bind fun c g => if c = true then (m__law_bent v1 y18 g) else (.ok (ePl y18) g))) (e := eA) ?_ (fun _ => rfl) ?_
    · exact (rd (m_if (w := (fun (x : PyData) => RV.d (eA x))) (m_test (m_opL (ea := PyData.int) (w := (fun (x : Bool) => RV.d (PyData.bool x))) (h := fun (u19 : Int) => (decide ((0 : Int) < u19))) (rd (m_callP (va_conso (v_varo rfl) (va_d v_c va_nil)) (e__law_draw v1 (3 : Int) _))) (fun g => (dd v_c)) (fun u19 => rfl))) (fun g => (m_callP (va_conso (v_varo rfl) (va_d (v_var (x := ePl y18) rfl) va_nil)) (e__law_bent v1 y18 _))) (fun g => (rx_p (w := (fun (x : PyData) => RV.d (eA x))) (v_var (x := ePl y18) rfl)))))
    intro y28 g
    refine g_assoc ?_
    refine h_asrt fun hz61 => ?_
    refine g_asg (x := PyData.bool (p__law_is_rowA y28)) ?_ rfl ?_
    · exact (dd (v_call (va_d (v_var (x := eA y28) rfl) va_nil) (e__law_is_rowA y28 hz61 _)))
    refine g_assoc ?_
    refine h_asrt fun hz60 => ?_
    refine h_ifP (c := (decide ((PyData.shown ((eL PyData.bool) [(p_is_planA y28), (p_is_planA y28)])) ≠ (PyData.shown ((eL PyData.bool) [(p__law_is_rowA y28), (p__law_is_rowA y28)]))))) ?_ (fun hc30 => ?_) (fun hc31 => ?_)
    · exact (v_test (v_op (dd (v_cb (va_l (v_lst (va_d (v_call (va_d (v_var (x := eA y28) rfl) va_nil) (e_is_planA y28 hz60.1.1.1 _)) (va_d (v_callK va_nil (va_d (v_var (x := eA y28) rfl) va_nil) (e_is_planA y28 hz60.1.1.2 _)) va_nil)) rfl rfl) va_nil) (q_repr hz60.1.2))) (dd (v_cb (va_l (v_lst (va_d (v_var (x := PyData.bool (p__law_is_rowA y28)) rfl) (va_d (v_var (x := PyData.bool (p__law_is_rowA y28)) rfl) va_nil)) rfl rfl) va_nil) (q_repr hz60.2))) (q_ne ek_str (PyData.shown ((eL PyData.bool) [(p_is_planA y28), (p_is_planA y28)])) (PyData.shown ((eL PyData.bool) [(p__law_is_rowA y28), (p__law_is_rowA y28)])) (by decide))))
    · exact g_ret v_c rfl
    · refine g_nextS ?_
      refine g_assoc ?_
      refine h_asg (A := (R.asrt (y16.length + [("zzzzz" : Str)].length ≤ sizeLine) (m__law_pick PyData.str v1 (y16 ++ [("zzzzz" : Str)]) g))) (e := PyData.str) ?_ (fun _ => rfl) ?_
      · exact (rd (RX.asrt fun hp32 => (m_callP (va_conso (v_varo rfl) (va_l (v_op (dd (v_var (x := (eL PyData.str) y16) rfl)) (dl (v_lst (va_d v_c va_nil) rfl rfl)) (q_addL y16 [("zzzzz" : Str)] hp32)) va_nil)) (e__law_pick PyData.str v1 (y16 ++ [("zzzzz" : Str)]) _))))
      intro y34 g
      refine g_assoc ?_
      refine h_ifP (c := (p__law_is_rowA y28)) ?_ (fun hc35 => ?_) (fun hc36 => ?_)
      · exact (v_test (v_var (x := PyData.bool (p__law_is_rowA y28)) rfl))
      · refine h_asrt fun hz48 => ?_
        refine h_ifP (c := ((decide ((PyData.shown (eO PyData.int (p_moment_of (plOf y28) y34))) ≠ (PyData.shown (eO PyData.int (dlk (dmk (plOf y28)) y34))))) || (decide ((p_moment_of (plOf y28) y34) ≠ (p_moment_of (plOf y28) y34))))) ?_ (fun hc38 => ?_) (fun hc39 => ?_)
        · exact (v_or (v_test (v_op (dd (v_cb (va_d (v_call (va_d (v_cast (v_var (x := eA y28) rfl) (cA__law_is_row hc35)) (va_d (v_var (x := PyData.str y34) rfl) va_nil)) (e_moment_of (plOf y28) y34 hz48.1.1.1 _)) va_nil) (q_reprEOI hz48.1.1.2))) (dd (v_cb (va_d (v_m (dn (v_cb (va_d (v_cast (v_var (x := eA y28) rfl) (cA__law_is_row hc35)) va_nil) (q_dictT kk_str (plOf y28)))) (q_tyD kk_str _) (va_d (v_var (x := PyData.str y34) rfl) (va_d v_c va_nil)) (q_get2N kk_str y34 (dmk (plOf y28)))) va_nil) (q_reprEOI hz48.1.2))) (q_ne ek_str (PyData.shown (eO PyData.int (p_moment_of (plOf y28) y34))) (PyData.shown (eO PyData.int (dlk (dmk (plOf y28)) y34))) (by decide)))) (fun hb37 => (v_test (v_op (dd (v_callK va_nil (va_d (v_var (x := PyData.str y34) rfl) (va_d (v_cast (v_var (x := eA y28) rfl) (cA__law_is_row hc35)) va_nil)) (e_moment_of (plOf y28) y34 (hz48.2 hb37).1 _))) (dd (v_call (va_d (v_cast (v_var (x := eA y28) rfl) (cA__law_is_row hc35)) (va_d (v_var (x := PyData.str y34) rfl) va_nil)) (e_moment_of (plOf y28) y34 (hz48.2 hb37).2 _))) (q_ne (ek_O ek_int nn_int) (p_moment_of (plOf y28) y34) (p_moment_of (plOf y28) y34) (by decide))))))
        · exact g_ret v_c rfl
        · refine g_nextS ?_
          refine g_assoc ?_
          refine h_asg (A := (m__law_pick eA v1 [((eO eU) none), (PyData.int (5 : Int)), (PyData.str ("" : Str)), (PyData.str ("A" : Str)), (PyData.str ("abcdefg" : Str)), ((eL PyData.str) [("a" : Str)]), (ePr (("a" : Str), (0 : Int))), (PyData.bool true), (PyData.str ("a b" : Str)), (PyData.str ("a1" : Str))] g)) (e := eA) ?_ (fun _ => rfl) ?_
          · exact (rd (m_callP (va_conso (v_varo rfl) (va_l (v_lst (va_d v_c (va_d v_c (va_d v_c (va_d v_c (va_d v_c (va_l (v_lst (va_d v_c va_nil) rfl rfl) (va_d (v_tup (va_d v_c (va_d v_c va_nil)) rfl rfl) (va_d v_c (va_d v_c (va_d v_c va_nil)))))))))) rfl rfl) va_nil)) (e__law_pick eA v1 [((eO eU) none), (PyData.int (5 : Int)), (PyData.str ("" : Str)), (PyData.str ("A" : Str)), (PyData.str ("abcdefg" : Str)), ((eL PyData.str) [("a" : Str)]), (ePr (("a" : Str), (0 : Int))), (PyData.bool true), (PyData.str ("a b" : Str)), (PyData.str ("a1" : Str))] _)))
          intro y41 g
          refine g_assoc ?_
          refine h_asrt fun hz47 => ?_
          refine h_asgP (w := eE) (v := (erO (F_moment_of [.d (ePl y18), .d (eA y41)]))) ?_ (fun _ => rfl) ?_
          · exact (dd (v_lamC mk__law_error (va_d (v_var (x := ePl y18) rfl) (va_d (v_var (x := eA y41) rfl) va_nil)) hz47.1 hz47.2))
          intro y42
          refine h_asrt fun hz46 => ?_
          refine h_ifP (c := ((!(isEr "BadThing" y42)) || (decide ((shA ((erA "thing" y42).getD .none)) ≠ (shA y41))))) ?_ (fun hc44 => ?_) (fun hc45 => ?_)
          · exact (v_or (v_not (v_test (v_isEr (dd (v_var (x := eE y42) rfl)) hz46.1))) (fun hb43 => (v_test (v_op (dd (v_cb (va_d (v_erF (dd (v_var (x := eE y42) rfl)) (hz46.2 hb43).1.1) va_nil) (hz46.2 hb43).1.2)) (dd (v_cb (va_d (v_var (x := eA y41) rfl) va_nil) (hz46.2 hb43).2)) (q_ne ek_str (shA ((erA "thing" y42).getD .none)) (shA y41) (by decide))))))
          · exact g_ret v_c rfl
          · refine g_nextS ?_
            exact g_next ⟨_, .inl rfl, ⟨_, _, _, _, _, _, _, _, rfl⟩⟩
      · refine h_asrt fun hz59 => ?_
        refine h_ifP (c := (!(isEr "BadPlan" (erO (F_moment_of [.d (eA y28), .d ((eO eU) none)]))))) ?_ (fun hc49 => ?_) (fun hc50 => ?_)
        · exact (v_not (v_test (v_isEr (dd (v_lamC mk__law_error (va_d (v_var (x := eA y28) rfl) (va_d v_c va_nil)) hz59.1.1 hz59.1.2)) hz59.2)))
        · exact g_ret v_c rfl
        · refine g_nextS ?_
          refine g_assoc ?_
          refine h_asg (A := (m__law_pick eA v1 [((eO eU) none), (PyData.int (5 : Int)), (PyData.str ("" : Str)), (PyData.str ("A" : Str)), (PyData.str ("abcdefg" : Str)), ((eL PyData.str) [("a" : Str)]), (ePr (("a" : Str), (0 : Int))), (PyData.bool true), (PyData.str ("a b" : Str)), (PyData.str ("a1" : Str))] g)) (e := eA) ?_ (fun _ => rfl) ?_
          · exact (rd (m_callP (va_conso (v_varo rfl) (va_l (v_lst (va_d v_c (va_d v_c (va_d v_c (va_d v_c (va_d v_c (va_l (v_lst (va_d v_c va_nil) rfl rfl) (va_d (v_tup (va_d v_c (va_d v_c va_nil)) rfl rfl) (va_d v_c (va_d v_c (va_d v_c va_nil)))))))))) rfl rfl) va_nil)) (e__law_pick eA v1 [((eO eU) none), (PyData.int (5 : Int)), (PyData.str ("" : Str)), (PyData.str ("A" : Str)), (PyData.str ("abcdefg" : Str)), ((eL PyData.str) [("a" : Str)]), (ePr (("a" : Str), (0 : Int))), (PyData.bool true), (PyData.str ("a b" : Str)), (PyData.str ("a1" : Str))] _)))
          intro y52 g
          refine g_assoc ?_
          refine h_asrt fun hz58 => ?_
          refine h_asgP (w := eE) (v := (erO (F_moment_of [.d (ePl y18), .d (eA y52)]))) ?_ (fun _ => rfl) ?_
          · exact (dd (v_lamC mk__law_error (va_d (v_var (x := ePl y18) rfl) (va_d (v_var (x := eA y52) rfl) va_nil)) hz58.1 hz58.2))
          intro y53
          refine h_asrt fun hz57 => ?_
          refine h_ifP (c := ((!(isEr "BadThing" y53)) || (decide ((shA ((erA "thing" y53).getD .none)) ≠ (shA y52))))) ?_ (fun hc55 => ?_) (fun hc56 => ?_)
          · exact (v_or (v_not (v_test (v_isEr (dd (v_var (x := eE y53) rfl)) hz57.1))) (fun hb54 => (v_test (v_op (dd (v_cb (va_d (v_erF (dd (v_var (x := eE y53) rfl)) (hz57.2 hb54).1.1) va_nil) (hz57.2 hb54).1.2)) (dd (v_cb (va_d (v_var (x := eA y52) rfl) va_nil) (hz57.2 hb54).2)) (q_ne ek_str (shA ((erA "thing" y53).getD .none)) (shA y52) (by decide))))))
          · exact g_ret v_c rfl
          · refine g_nextS ?_
            exact g_next ⟨_, .inl rfl, ⟨_, _, _, _, _, _, _, _, rfl⟩⟩
  · exact fun _ => rfl
  · intro y63 ρ g hr64
    obtain ⟨j65, j66, j67, j68, j69, j70, j71, j72, rfl⟩ := hr64
    exact g_ret v_c rfl
end
end Pg
namespace Pg
open PySem L2 Fx
/-- the law's state is at d; n draws may still be made -/
structure GD (d : Addr) (n : Nat) (g : Gs) : Prop where
  q : ∃ l c, g.q = some (d, l, c)
  ok : GOk g n
theorem GD.le {d : Addr} {n m : Nat} {g : Gs} (h : GD d n g) (e : m ≤ n) : GD d m g := ⟨h.q, h.ok.le e⟩
theorem GD.st {d : Addr} {n : Nat} {g : Gs} (h : GD d n g) (ρ : List SD) : StOk (.o (.ref d) :: ρ) 0 g := by
  obtain ⟨l, c, e⟩ := h.q
  exact ⟨d, l, c, rfl, e⟩
theorem bits60 {i : Int} (h0 : 0 ≤ i) (h : i < 2 ^ 60) : Builtin.Int.intBits i ≤ 60 := by
  unfold Builtin.Int.intBits
  split
  · omega
  · have : i.natAbs.log2 < 60 := (Nat.log2_lt (by intro e; rename_i c; apply c; simp; omega)).mpr (by omega)
    omega
theorem oPow_ok {i : Int} {k : Int} (h0 : 0 ≤ i) (h : i < 2 ^ 60) (k0 : 0 ≤ k) (k1 : k ≤ 100) : oPow (.int i) (.int k) = some (.d (.int (i ^ k.toNat))) := by
  unfold oPow
  have := bits60 h0 h
  refine if_pos ⟨k0, ?_⟩
  have h1 : ((Builtin.Int.intBits i : Nat) : Int) * k ≤ 60 * 100 := Int.mul_le_mul (by omega) k1 k0 (by omega)
  exact Int.le_trans h1 (by decide)
theorem pop_loop (d : Addr) (ρ : List SD) (n : Nat) : ∀ (ls : List Int) (g : Gs), g.ls = ls → GD d n g →
    ∃ m g', whR (fAnd (fTest (fOp oEq (fStRest 0) (fC (.int 0)))) (fStLargeNe 0)) (fStPop 0) m (.o (.ref d) :: ρ) g = .ok (.nx (.o (.ref d) :: ρ)) g' ∧ GD d n g' := by
  intro ls
  induction ls with
  | nil =>
    intro g hl h
    refine ⟨1, g, ?_, h⟩
    have : fAnd (fTest (fOp oEq (fStRest 0) (fC (.int 0)))) (fStLargeNe 0) (.o (.ref d) :: ρ) g = .ok false g := by
      simp only [fVar, fC, fDat, fOp, fUn, fTest, fAnd, fOr, fNot, fAndV, fOrV, fNotV, fIf, aNil, aCons, allDR, allD, fTup, fLst, fCB, fCall, fSeq, fAsg, fSet, fRet, fRetV, fRetN, fIfS, fDrop, fNext, fIsi, fIsi2, fM, fSl, oS, oN, agName, sdRV, R.bind_ok, R.ofO_some, R.stx_ok, rdSD_d, rdSD_o, asDR_d, asDR_nl, asAR_d, asAR_nl, asAR_o, asBR_b, seqO_nx, seqO_rt, o1A_d, o2A_d, asIR_i, rtSD_d, List.getElem?_cons_zero, List.getElem?_cons_succ, List.set_cons_zero, List.set_cons_succ, if_true, if_false, Bool.false_eq_true, reduceIte, Bool.not_true, Bool.not_false, slots, List.map_cons, List.map_nil, avS, List.length_cons, List.length_nil, List.replicate_succ, List.replicate_zero, List.cons_append, List.nil_append, Nat.reduceAdd, Nat.reduceSub, Nat.reduceLeDiff, sl1, sl2, sl3, sl4, sl5, sl6, sl7, sl8, sl9, sl10, sl11, sl12, sl13, sl14, sl15, sl16, sl17, sl18, sl19, sl20, sl21, sl22, sl23, sl24, sl25, sl26, sl27, sl28, sl29, sl30, Nat.zero_le, R.bind_cg, Nat.zero_add, Option.map_some, Option.map_none, fStRest, fStLargeNe, stIf_eq _ (h.st ρ), oEq_int, hl]
      by_cases c : g.rest = 0 <;> simp [c]
    rw [whR, this]
    rfl
  | cons x r ih =>
    intro g hl h
    by_cases c : g.rest = 0
    · have h' : GD d n { g with ls := r, rest := x } := ⟨h.q, ⟨h.ok.l0 x (by rw [hl]; simp), fun y hy => h.ok.l0 y (by rw [hl]; simp [hy]), h.ok.t0, h.ok.tn, h.ok.q0, h.ok.tt⟩⟩
      obtain ⟨m, g', e, k⟩ := ih _ rfl h'
      refine ⟨m + 1, g', ?_, k⟩
      have e1 : fAnd (fTest (fOp oEq (fStRest 0) (fC (.int 0)))) (fStLargeNe 0) (.o (.ref d) :: ρ) g = .ok true g := by
        simp only [fVar, fC, fDat, fOp, fUn, fTest, fAnd, fOr, fNot, fAndV, fOrV, fNotV, fIf, aNil, aCons, allDR, allD, fTup, fLst, fCB, fCall, fSeq, fAsg, fSet, fRet, fRetV, fRetN, fIfS, fDrop, fNext, fIsi, fIsi2, fM, fSl, oS, oN, agName, sdRV, R.bind_ok, R.ofO_some, R.stx_ok, rdSD_d, rdSD_o, asDR_d, asDR_nl, asAR_d, asAR_nl, asAR_o, asBR_b, seqO_nx, seqO_rt, o1A_d, o2A_d, asIR_i, rtSD_d, List.getElem?_cons_zero, List.getElem?_cons_succ, List.set_cons_zero, List.set_cons_succ, if_true, if_false, Bool.false_eq_true, reduceIte, Bool.not_true, Bool.not_false, slots, List.map_cons, List.map_nil, avS, List.length_cons, List.length_nil, List.replicate_succ, List.replicate_zero, List.cons_append, List.nil_append, Nat.reduceAdd, Nat.reduceSub, Nat.reduceLeDiff, sl1, sl2, sl3, sl4, sl5, sl6, sl7, sl8, sl9, sl10, sl11, sl12, sl13, sl14, sl15, sl16, sl17, sl18, sl19, sl20, sl21, sl22, sl23, sl24, sl25, sl26, sl27, sl28, sl29, sl30, Nat.zero_le, R.bind_cg, Nat.zero_add, Option.map_some, Option.map_none, fStRest, fStLargeNe, stIf_eq _ (h.st ρ), oEq_int, hl, c, decide_true]
        rfl
      have e2 : fStPop 0 (.o (.ref d) :: ρ) g = .ok (.nx (.o (.ref d) :: ρ)) { g with ls := r, rest := x } := by
        unfold fStPop
        rw [stIf_eq _ (h.st ρ), hl]
      rw [whR, e1]
      simp only [fVar, fC, fDat, fOp, fUn, fTest, fAnd, fOr, fNot, fAndV, fOrV, fNotV, fIf, aNil, aCons, allDR, allD, fTup, fLst, fCB, fCall, fSeq, fAsg, fSet, fRet, fRetV, fRetN, fIfS, fDrop, fNext, fIsi, fIsi2, fM, fSl, oS, oN, agName, sdRV, R.bind_ok, R.ofO_some, R.stx_ok, rdSD_d, rdSD_o, asDR_d, asDR_nl, asAR_d, asAR_nl, asAR_o, asBR_b, seqO_nx, seqO_rt, o1A_d, o2A_d, asIR_i, rtSD_d, List.getElem?_cons_zero, List.getElem?_cons_succ, List.set_cons_zero, List.set_cons_succ, if_true, if_false, Bool.false_eq_true, reduceIte, Bool.not_true, Bool.not_false, slots, List.map_cons, List.map_nil, avS, List.length_cons, List.length_nil, List.replicate_succ, List.replicate_zero, List.cons_append, List.nil_append, Nat.reduceAdd, Nat.reduceSub, Nat.reduceLeDiff, sl1, sl2, sl3, sl4, sl5, sl6, sl7, sl8, sl9, sl10, sl11, sl12, sl13, sl14, sl15, sl16, sl17, sl18, sl19, sl20, sl21, sl22, sl23, sl24, sl25, sl26, sl27, sl28, sl29, sl30, Nat.zero_le, R.bind_cg, Nat.zero_add, Option.map_some, Option.map_none, e2, forO_nx]
      exact e
    · refine ⟨1, g, ?_, h⟩
      have : fAnd (fTest (fOp oEq (fStRest 0) (fC (.int 0)))) (fStLargeNe 0) (.o (.ref d) :: ρ) g = .ok false g := by
        simp only [fVar, fC, fDat, fOp, fUn, fTest, fAnd, fOr, fNot, fAndV, fOrV, fNotV, fIf, aNil, aCons, allDR, allD, fTup, fLst, fCB, fCall, fSeq, fAsg, fSet, fRet, fRetV, fRetN, fIfS, fDrop, fNext, fIsi, fIsi2, fM, fSl, oS, oN, agName, sdRV, R.bind_ok, R.ofO_some, R.stx_ok, rdSD_d, rdSD_o, asDR_d, asDR_nl, asAR_d, asAR_nl, asAR_o, asBR_b, seqO_nx, seqO_rt, o1A_d, o2A_d, asIR_i, rtSD_d, List.getElem?_cons_zero, List.getElem?_cons_succ, List.set_cons_zero, List.set_cons_succ, if_true, if_false, Bool.false_eq_true, reduceIte, Bool.not_true, Bool.not_false, slots, List.map_cons, List.map_nil, avS, List.length_cons, List.length_nil, List.replicate_succ, List.replicate_zero, List.cons_append, List.nil_append, Nat.reduceAdd, Nat.reduceSub, Nat.reduceLeDiff, sl1, sl2, sl3, sl4, sl5, sl6, sl7, sl8, sl9, sl10, sl11, sl12, sl13, sl14, sl15, sl16, sl17, sl18, sl19, sl20, sl21, sl22, sl23, sl24, sl25, sl26, sl27, sl28, sl29, sl30, Nat.zero_le, R.bind_cg, Nat.zero_add, Option.map_some, Option.map_none, fStRest, fStLargeNe, stIf_eq _ (h.st ρ), oEq_int, c, decide_false]
      rw [whR, this]
      rfl
theorem atI_in {α : Type} (xs : List α) {i : Int} (h0 : 0 ≤ i) (h1 : i < xs.length) : ∃ x ∈ xs, atI xs i = some x := by
  have hi : i.toNat < xs.length := by omega
  refine ⟨xs[i.toNat], List.getElem_mem hi, ?_⟩
  show (ixN xs.length i).bind (fun j => xs[j]?) = _
  unfold ixN
  rw [if_pos h0, if_pos h1]
  exact List.getElem?_eq_getElem hi
theorem draw_ok {d : Addr} {n : Nat} {g : Gs} (h : GD d n g) (hn : 1 ≤ n) {k : Int} (hk : 0 < k) (hk2 : k < 2 ^ 40) :
    ∃ v g', F__law_draw [.o (.ref d), .d (.int k)] g = .ok (.d (.int v)) g' ∧ 0 ≤ v ∧ v < k ∧ GD d (n - 1) g' := by
  obtain ⟨m, g1, e, h1⟩ := pop_loop d [.d (.int k), .u, .u, .u, .u] n g.ls g rfl h
  have ew := fWhile_eq e (fun z => by cases z)
  by_cases c : g1.rest > 0
  · refine ⟨g1.rest % k, { g1 with rest := g1.rest / k }, fn_rt rfl ?_, Int.emod_nonneg _ (by omega), Int.emod_lt_of_pos _ hk, h1.q, ⟨Int.ediv_nonneg (by omega) (by omega), h1.ok.l0, h1.ok.t0, by have := h1.ok.tn; show g1.turn + ((n - 1 : Nat) : Int) ≤ _; omega, h1.ok.q0, h1.ok.tt⟩⟩
    unfold b__law_draw
    have st := h1.st
    have lk : k.natAbs.log2 < 9000 := by
      have : k.natAbs.log2 < 40 := (Nat.log2_lt (by omega)).mpr (by omega)
      omega
    simp only [fVar, fC, fDat, fOp, fUn, fTest, fAnd, fOr, fNot, fAndV, fOrV, fNotV, fIf, aNil, aCons, allDR, allD, fTup, fLst, fCB, fCall, fSeq, fAsg, fSet, fRet, fRetV, fRetN, fIfS, fDrop, fNext, fIsi, fIsi2, fM, fSl, oS, oN, agName, sdRV, R.bind_ok, R.ofO_some, R.stx_ok, rdSD_d, rdSD_o, asDR_d, asDR_nl, asAR_d, asAR_nl, asAR_o, asBR_b, seqO_nx, seqO_rt, o1A_d, o2A_d, asIR_i, rtSD_d, List.getElem?_cons_zero, List.getElem?_cons_succ, List.set_cons_zero, List.set_cons_succ, if_true, if_false, Bool.false_eq_true, reduceIte, Bool.not_true, Bool.not_false, slots, List.map_cons, List.map_nil, avS, List.length_cons, List.length_nil, List.replicate_succ, List.replicate_zero, List.cons_append, List.nil_append, Nat.reduceAdd, Nat.reduceSub, Nat.reduceLeDiff, sl1, sl2, sl3, sl4, sl5, sl6, sl7, sl8, sl9, sl10, sl11, sl12, sl13, sl14, sl15, sl16, sl17, sl18, sl19, sl20, sl21, sl22, sl23, sl24, sl25, sl26, sl27, sl28, sl29, sl30, Nat.zero_le, R.bind_cg, Nat.zero_add, Option.map_some, Option.map_none, ew, fStRest, stIf_eq _ (st _), oGt, oCmp, c, decide_true, oInt, oMod, hk, fStPutRest, oDiv, lk, and_self]
  · have e0 : g1.rest = 0 := by have := h1.ok.r0; omega
    have st := h1.st
    have t1 := h1.ok.t0
    have tn := h1.ok.tn
    have ht : GD d (n - 1) { g1 with turn := g1.turn + 1 } := ⟨h1.q, ⟨h1.ok.r0, h1.ok.l0, by show 0 ≤ g1.turn + 1; omega, by show g1.turn + 1 + ((n - 1 : Nat) : Int) ≤ _; omega, h1.ok.q0, h1.ok.tt⟩⟩
    have hcell : ∃ z : Int, fIf (fStCellsNe 0) (fStCell 0 (fOp oMod (fCB (o1A oInt) (aCons (fVar 2) aNil)) (fStCellsLen 0))) (fC (.int 0)) [.o (.ref d), .d (.int k), .d (.int (g1.turn + 1)), .u, .u, .u] { g1 with turn := g1.turn + 1 } = .ok (.d (.int z)) { g1 with turn := g1.turn + 1 } := by
      by_cases ce : g1.cs = []
      · refine ⟨0, ?_⟩
        have ie : g1.cs.isEmpty = true := by rw [ce]; rfl
        simp only [fVar, fC, fDat, fOp, fUn, fTest, fAnd, fOr, fNot, fAndV, fOrV, fNotV, fIf, aNil, aCons, allDR, allD, fTup, fLst, fCB, fCall, fSeq, fAsg, fSet, fRet, fRetV, fRetN, fIfS, fDrop, fNext, fIsi, fIsi2, fM, fSl, oS, oN, agName, sdRV, R.bind_ok, R.ofO_some, R.stx_ok, rdSD_d, rdSD_o, asDR_d, asDR_nl, asAR_d, asAR_nl, asAR_o, asBR_b, seqO_nx, seqO_rt, o1A_d, o2A_d, asIR_i, rtSD_d, List.getElem?_cons_zero, List.getElem?_cons_succ, List.set_cons_zero, List.set_cons_succ, if_true, if_false, Bool.false_eq_true, reduceIte, Bool.not_true, Bool.not_false, slots, List.map_cons, List.map_nil, avS, List.length_cons, List.length_nil, List.replicate_succ, List.replicate_zero, List.cons_append, List.nil_append, Nat.reduceAdd, Nat.reduceSub, Nat.reduceLeDiff, sl1, sl2, sl3, sl4, sl5, sl6, sl7, sl8, sl9, sl10, sl11, sl12, sl13, sl14, sl15, sl16, sl17, sl18, sl19, sl20, sl21, sl22, sl23, sl24, sl25, sl26, sl27, sl28, sl29, sl30, Nat.zero_le, R.bind_cg, Nat.zero_add, Option.map_some, Option.map_none, fStCellsNe, stIf_eq _ (ht.st _), ie]
      · have hp : (0 : Int) < g1.cs.length := by have := List.length_pos_iff.mpr ce; omega
        obtain ⟨z, _, hz⟩ := atI_in g1.cs (i := (g1.turn + 1) % (g1.cs.length : Int)) (Int.emod_nonneg _ (by omega)) (Int.emod_lt_of_pos _ hp)
        have ie : g1.cs.isEmpty = false := by cases hc : g1.cs with
          | nil => exact absurd hc ce
          | cons _ _ => rfl
        refine ⟨z, ?_⟩
        simp only [fVar, fC, fDat, fOp, fUn, fTest, fAnd, fOr, fNot, fAndV, fOrV, fNotV, fIf, aNil, aCons, allDR, allD, fTup, fLst, fCB, fCall, fSeq, fAsg, fSet, fRet, fRetV, fRetN, fIfS, fDrop, fNext, fIsi, fIsi2, fM, fSl, oS, oN, agName, sdRV, R.bind_ok, R.ofO_some, R.stx_ok, rdSD_d, rdSD_o, asDR_d, asDR_nl, asAR_d, asAR_nl, asAR_o, asBR_b, seqO_nx, seqO_rt, o1A_d, o2A_d, asIR_i, rtSD_d, List.getElem?_cons_zero, List.getElem?_cons_succ, List.set_cons_zero, List.set_cons_succ, if_true, if_false, Bool.false_eq_true, reduceIte, Bool.not_true, Bool.not_false, slots, List.map_cons, List.map_nil, avS, List.length_cons, List.length_nil, List.replicate_succ, List.replicate_zero, List.cons_append, List.nil_append, Nat.reduceAdd, Nat.reduceSub, Nat.reduceLeDiff, sl1, sl2, sl3, sl4, sl5, sl6, sl7, sl8, sl9, sl10, sl11, sl12, sl13, sl14, sl15, sl16, sl17, sl18, sl19, sl20, sl21, sl22, sl23, sl24, sl25, sl26, sl27, sl28, sl29, sl30, Nat.zero_le, R.bind_cg, Nat.zero_add, Option.map_some, Option.map_none, fStCellsNe, stIf_eq _ (ht.st _), ie, fStCell, fStCellsLen, oInt, oMod, hp, keepG_ok, hz]
    obtain ⟨z, hz⟩ := hcell
    have z0 : 0 ≤ z % 2147483629 := Int.emod_nonneg _ (by omega)
    have z1 : z % 2147483629 < 2147483629 := Int.emod_lt_of_pos _ (by omega)
    have q1 : oPow (.int (z % 2147483629 + 48271 * (g1.turn + 1) + 13579)) (.int 3) = some (.d (.int ((z % 2147483629 + 48271 * (g1.turn + 1) + 13579) ^ (3 : Int).toNat))) := oPow_ok (by omega) (by omega) (by omega) (by omega)
    have m1 : ∀ a b : Int, 0 ≤ a → a < 2 ^ 60 → oMul (.int a) (.int b) = some (.d (.int (a * b))) := fun a b ha hb => if_pos (.inl (.inl ⟨by omega, by omega⟩))
    generalize hx : (z % 2147483629 + 48271 * (g1.turn + 1) + 13579) ^ (3 : Int).toNat = X at q1
    have x0 : 0 ≤ X % 2147483647 := Int.emod_nonneg _ (by omega)
    have x1 : X % 2147483647 < 2147483647 := Int.emod_lt_of_pos _ (by omega)
    have q2 : oPow (.int (X % 2147483647 + 99991 * (g1.turn + 1))) (.int 5) = some (.d (.int ((X % 2147483647 + 99991 * (g1.turn + 1)) ^ (5 : Int).toNat))) := oPow_ok (by omega) (by omega) (by omega) (by omega)
    generalize hy : (X % 2147483647 + 99991 * (g1.turn + 1)) ^ (5 : Int).toNat = Y at q2
    have d1 : oDiv (.int (Y % 2147483587)) (.int 23) = some (.d (.int (Y % 2147483587 / 23))) := by
      have hc : (0 : Int) < 23 ∧ (23 : Int).natAbs.log2 < 9000 := ⟨by omega, by decide⟩
      show (if (0 : Int) < 23 ∧ (23 : Int).natAbs.log2 < 9000 then some (RV.d (.int (Y % 2147483587 / 23))) else none) = _
      rw [if_pos hc]
    refine ⟨Y % 2147483587 / 23 % k, { g1 with turn := g1.turn + 1 }, fn_rt rfl ?_, Int.emod_nonneg _ (by omega), Int.emod_lt_of_pos _ hk, ht⟩
    unfold b__law_draw
    have n1 : (0 : Int) < 2147483629 := by omega
    have n2 : (0 : Int) < 2147483647 := by omega
    have n3 : (0 : Int) < 2147483587 := by omega
    have m2 := m1 48271 (g1.turn + 1) (by omega) (by omega)
    have m3 := m1 99991 (g1.turn + 1) (by omega) (by omega)
    have e0d : decide (0 < g1.rest) = false := decide_eq_false c
    simp only [fVar, fC, fDat, fOp, fUn, fTest, fAnd, fOr, fNot, fAndV, fOrV, fNotV, aNil, aCons, allDR, allD, fTup, fLst, fCB, fCall, fSeq, fAsg, fSet, fRet, fRetV, fRetN, fIfS, fDrop, fNext, fIsi, fIsi2, fM, fSl, oS, oN, agName, sdRV, R.bind_ok, R.ofO_some, R.stx_ok, rdSD_d, rdSD_o, asDR_d, asDR_nl, asAR_d, asAR_nl, asAR_o, asBR_b, seqO_nx, seqO_rt, o1A_d, o2A_d, asIR_i, rtSD_d, List.getElem?_cons_zero, List.getElem?_cons_succ, List.set_cons_zero, List.set_cons_succ, if_true, if_false, Bool.false_eq_true, reduceIte, Bool.not_true, Bool.not_false, slots, List.map_cons, List.map_nil, avS, List.length_cons, List.length_nil, List.replicate_succ, List.replicate_zero, List.cons_append, List.nil_append, Nat.reduceAdd, Nat.reduceSub, Nat.reduceLeDiff, sl1, sl2, sl3, sl4, sl5, sl6, sl7, sl8, sl9, sl10, sl11, sl12, sl13, sl14, sl15, sl16, sl17, sl18, sl19, sl20, sl21, sl22, sl23, sl24, sl25, sl26, sl27, sl28, sl29, sl30, Nat.zero_le, R.bind_cg, Nat.zero_add, Option.map_some, Option.map_none, ew, fStRest, fStTurn, stIf_eq _ (st _), oGt, oCmp, e0d, oAdd, fStPutTurn, hz, oInt, oMod, n1, n2, n3, m2, q1, m3, q2, d1, hk]
theorem pick_ok {d : Addr} {n : Nat} {g : Gs} (h : GD d n g) (hn : 1 ≤ n) (xs : List PyData) (hx : xs ≠ []) (hl : xs.length ≤ 1000) :
    ∃ x ∈ xs, ∃ g', F__law_pick [.o (.ref d), .d (.list xs)] g = .ok (.d x) g' ∧ GD d (n - 1) g' := by
  have hp := List.length_pos_iff.mpr hx
  obtain ⟨v, g', e, v0, v1, h'⟩ := draw_ok h hn (k := (xs.length : Int)) (by omega) (by omega)
  obtain ⟨x, hm, ex⟩ := atI_in xs v0 v1
  refine ⟨x, hm, g', fn_rt rfl ?_, h'⟩
  unfold b__law_pick
  have : oIx (.list xs) (.int v) = some (.d x) := by show (atI xs v).map RV.d = _; rw [ex]; rfl
  simp only [fVar, fC, fDat, fOp, fUn, fTest, fAnd, fOr, fNot, fAndV, fOrV, fNotV, fIf, aNil, aCons, allDR, allD, fTup, fLst, fCB, fCall, fSeq, fAsg, fSet, fRet, fRetV, fRetN, fIfS, fDrop, fNext, fIsi, fIsi2, fM, fSl, oS, oN, agName, sdRV, R.bind_ok, R.ofO_some, R.stx_ok, rdSD_d, rdSD_o, asDR_d, asDR_nl, asAR_d, asAR_nl, asAR_o, asBR_b, seqO_nx, seqO_rt, o1A_d, o2A_d, asIR_i, rtSD_d, List.getElem?_cons_zero, List.getElem?_cons_succ, List.set_cons_zero, List.set_cons_succ, if_true, if_false, Bool.false_eq_true, reduceIte, Bool.not_true, Bool.not_false, slots, List.map_cons, List.map_nil, avS, List.length_cons, List.length_nil, List.replicate_succ, List.replicate_zero, List.cons_append, List.nil_append, Nat.reduceAdd, Nat.reduceSub, Nat.reduceLeDiff, sl1, sl2, sl3, sl4, sl5, sl6, sl7, sl8, sl9, sl10, sl11, sl12, sl13, sl14, sl15, sl16, sl17, sl18, sl19, sl20, sl21, sl22, sl23, sl24, sl25, sl26, sl27, sl28, sl29, sl30, Nat.zero_le, R.bind_cg, Nat.zero_add, Option.map_some, Option.map_none, oLen_list, e, this]
theorem pickS_ok {d : Addr} {n : Nat} {g : Gs} (h : GD d n g) (hn : 1 ≤ n) (z : Str) (hz : 1 ≤ z.length) (hl : z.length ≤ 1000) :
    ∃ c ∈ z.cps.toList, ∃ g', F__law_pick [.o (.ref d), .d (.str z)] g = .ok (.d (.str ⟨#[c]⟩)) g' ∧ GD d (n - 1) g' := by
  obtain ⟨v, g', e, v0, v1, h'⟩ := draw_ok h hn (k := (z.length : Int)) (by omega) (by omega)
  obtain ⟨x, hm, ex⟩ := atI_in z.cps.toList v0 v1
  have hs : z.length ≤ sizeLine := Nat.le_trans hl (by decide)
  refine ⟨x, hm, g', fn_rt rfl ?_, h'⟩
  unfold b__law_pick
  have : oIx (.str z) (.int v) = some (.d (.str ⟨#[x]⟩)) := by show (if z.length ≤ sizeLine then (atI z.cps.toList v).map _ else none) = _; rw [if_pos hs, ex]; rfl
  simp only [fVar, fC, fDat, fOp, fUn, fTest, fAnd, fOr, fNot, fAndV, fOrV, fNotV, fIf, aNil, aCons, allDR, allD, fTup, fLst, fCB, fCall, fSeq, fAsg, fSet, fRet, fRetV, fRetN, fIfS, fDrop, fNext, fIsi, fIsi2, fM, fSl, oS, oN, agName, sdRV, R.bind_ok, R.ofO_some, R.stx_ok, rdSD_d, rdSD_o, asDR_d, asDR_nl, asAR_d, asAR_nl, asAR_o, asBR_b, seqO_nx, seqO_rt, o1A_d, o2A_d, asIR_i, rtSD_d, List.getElem?_cons_zero, List.getElem?_cons_succ, List.set_cons_zero, List.set_cons_succ, if_true, if_false, Bool.false_eq_true, reduceIte, Bool.not_true, Bool.not_false, slots, List.map_cons, List.map_nil, avS, List.length_cons, List.length_nil, List.replicate_succ, List.replicate_zero, List.cons_append, List.nil_append, Nat.reduceAdd, Nat.reduceSub, Nat.reduceLeDiff, sl1, sl2, sl3, sl4, sl5, sl6, sl7, sl8, sl9, sl10, sl11, sl12, sl13, sl14, sl15, sl16, sl17, sl18, sl19, sl20, sl21, sl22, sl23, sl24, sl25, sl26, sl27, sl28, sl29, sl30, Nat.zero_le, R.bind_cg, Nat.zero_add, Option.map_some, Option.map_none, oLen_str hs, e, this]
end Pg

namespace Pg
open PySem L2 Fx
theorem cpR_st {step : PyData → List PyData → Gs → R (List PyData)} (Inv : Nat → Gs → Prop) (Pr : PyData → Prop) : ∀ (ds : List PyData) (acc : List PyData) (g : Gs), Inv ds.length g → acc.length + ds.length ≤ sizeLine →
    (∀ x ∈ ds, ∀ (m : Nat) (acc : List PyData) (g : Gs), Inv (m + 1) g → acc.length < sizeLine → ∃ y g', step x acc g = .ok (acc ++ [y]) g' ∧ Pr y ∧ Inv m g') →
    ∃ ys g', cpR step ds acc g = .ok (acc ++ ys) g' ∧ ys.length = ds.length ∧ (∀ y ∈ ys, Pr y) ∧ Inv 0 g'
  | [], acc, g, h, _, _ => ⟨[], g, by simp [cpR], rfl, by simp, h⟩
  | x :: ds, acc, g, h, hz, hs => by
    have hz' : acc.length + (ds.length + 1) ≤ sizeLine := hz
    obtain ⟨y, g1, e, py, i1⟩ := hs x (by simp) ds.length acc g h (by omega)
    obtain ⟨ys, g2, e2, l2, p2, i2⟩ := cpR_st Inv Pr ds (acc ++ [y]) g1 i1 (by simp; omega) fun z hz => hs z (by simp [hz])
    refine ⟨y :: ys, g2, ?_, by simp [l2], fun z hz => ?_, i2⟩
    · rw [cpR, e]
      simp only [R.bind_ok]
      rw [e2, List.append_assoc]
      rfl
    · rcases List.mem_cons.mp hz with rfl | hz
      · exact py
      · exact p2 z hz
theorem fLc_st {fi : EFi} {fg : EFg} {fe : EF} {vs : List Nat} {ρ : List SD} {g g1 : Gs} {ds : List PyData} (Inv : Nat → Gs → Prop) (Pr : PyData → Prop) (hi : fi ρ g = .ok ds g1) (h0 : Inv ds.length g1) (hz : ds.length ≤ sizeLine)
    (hs : ∀ x ∈ ds, ∀ (m : Nat) (g : Gs), Inv (m + 1) g → ∃ ρ2 y g', fg x (wipeD ρ vs) = some ρ2 ∧ fDat fe ρ2 g = .ok y g' ∧ Pr y ∧ Inv m g') :
    ∃ ys g', fLc fi fg fYes fe vs ρ g = .ok (.nl ys) g' ∧ ys.length = ds.length ∧ (∀ y ∈ ys, Pr y) ∧ Inv 0 g' := by
  obtain ⟨ys, g', e, l, p, i⟩ := cpR_st (step := cpStep fg fYes (bLst fe) (wipeD ρ vs)) Inv Pr ds [] g1 h0 (by simpa using hz) (fun x hx m acc g h ha => by
    obtain ⟨ρ2, y, g', h1, h2, h3, h4⟩ := hs x hx m g h
    refine ⟨y, g', ?_, h3, h4⟩
    rw [cpStep_eq h1]
    unfold fYes bLst
    simp only [R.bind_ok, if_true, h2]
    rw [if_pos ha])
  refine ⟨ys, g', ?_, l, p, i⟩
  unfold fLc fCp
  rw [hi]
  simp only [R.bind_ok, e, List.nil_append, R.nox_ok]
theorem lcU_eq {fi : EFi} {fg : EFg} {ft : EFt} {fe : EF} {vs : List Nat} {ρ : List SD} {g g1 : Gs} {ds : List PyData} (hi : fi ρ g = .ok ds g1) (hz : ds.length ≤ sizeLine) : fLcU fi fg ft fe vs ρ g = fLc fi fg ft fe vs ρ g := by
  unfold fLcU fLc fCp
  rw [hi]
  simp only [R.bind_ok]
  rw [cp_same ds [] g1 (by simpa using hz)]
theorem fLcU_st {fi : EFi} {fg : EFg} {fe : EF} {vs : List Nat} {ρ : List SD} {g g1 : Gs} {ds : List PyData} (Inv : Nat → Gs → Prop) (Pr : PyData → Prop) (hi : fi ρ g = .ok ds g1) (h0 : Inv ds.length g1) (hz : ds.length ≤ sizeLine)
    (hs : ∀ x ∈ ds, ∀ (m : Nat) (g : Gs), Inv (m + 1) g → ∃ ρ2 y g', fg x (wipeD ρ vs) = some ρ2 ∧ fDat fe ρ2 g = .ok y g' ∧ Pr y ∧ Inv m g') :
    ∃ ys g', fLcU fi fg fYes fe vs ρ g = .ok (.nl ys) g' ∧ ys.length = ds.length ∧ (∀ y ∈ ys, Pr y) ∧ Inv 0 g' := by
  rw [lcU_eq hi hz]
  exact fLc_st Inv Pr hi h0 hz hs
theorem fLcU_map {α : Type} {fi : EFi} {fg : EFg} {ft : EFt} {fe : EF} {vs : List Nat} {ρ : List SD} {g g1 : Gs} (l : List α) (f : α → PyData) (k : α → PyData) (hi : fi ρ g = .ok (l.map f) g1)
    (hs : ∀ x ∈ l, ∃ ρ2, fg (f x) (wipeD ρ vs) = some ρ2 ∧ ft ρ2 g1 = .ok true g1 ∧ fDat fe ρ2 g1 = .ok (k x) g1) (hz : l.length ≤ sizeLine) : fLcU fi fg ft fe vs ρ g = .ok (.nl (l.map k)) g1 := by
  rw [lcU_eq hi (by rw [List.length_map]; exact hz)]
  exact fLc_map l f k hi hs hz
theorem fLcU_filter {α : Type} {fi : EFi} {fg : EFg} {ft : EFt} {fe : EF} {vs : List Nat} {ρ : List SD} {g g1 : Gs} (l : List α) (f : α → PyData) (p : α → Bool) (k : α → PyData) (hi : fi ρ g = .ok (l.map f) g1)
    (hs : ∀ x ∈ l, ∃ ρ2, fg (f x) (wipeD ρ vs) = some ρ2 ∧ ft ρ2 g1 = .ok (p x) g1 ∧ (p x = true → fDat fe ρ2 g1 = .ok (k x) g1)) (hz : l.length ≤ sizeLine) : fLcU fi fg ft fe vs ρ g = .ok (.nl ((l.filter p).map k)) g1 := by
  rw [lcU_eq hi (by rw [List.length_map]; exact hz)]
  exact fLc_filter l f p k hi hs hz
theorem join_cps : ∀ cs : List Nat, (Txt.join (Str.ofString "") (cs.map fun c => (⟨#[c]⟩ : Str))).cps.toList = cs := by
  intro cs
  have key : ∀ cs : List Nat, (Str.join (Str.ofString "") (cs.map fun c => (⟨#[c]⟩ : Str))).cps.toList = cs := by
    intro cs
    induction cs with
    | nil => rfl
    | cons c r ih =>
      cases r with
      | nil => rfl
      | cons d r =>
        show ((⟨#[c]⟩ : Str) ++ Str.ofString "" ++ Str.join (Str.ofString "") ((d :: r).map fun c => (⟨#[c]⟩ : Str))).cps.toList = _
        have e : ∀ a b : Str, (a ++ b).cps.toList = a.cps.toList ++ b.cps.toList := fun a b => by
          show (a.cps ++ b.cps).toList = _
          simp
        rw [e, e, ih]
        rfl
  show (Builtin.Str.glued (Str.ofString "") _).cps.toList = _
  rw [StrLaws.glued_eq_join]
  exact key cs
theorem strsD_map {α : Type} (f : α → Str) (l : List α) : strsD (l.map fun x => PyData.str (f x)) = some (l.map f) := by
  induction l with
  | nil => rfl
  | cons x l ih => show (strsD (l.map fun x => PyData.str (f x))).map (f x :: ·) = _; rw [ih]; rfl
theorem len_cps (n : Str) : n.length = n.cps.toList.length := rfl
theorem okName_of {n : Str} (h : okName n = true) : OkName n := (okName_iff n).mp h
theorem sortOk_strs (q : List Str) : SortOk (q.map .str) where
  al := fun d hd d' hd' => by
    obtain ⟨x, _, rfl⟩ := List.mem_map.mp hd
    obtain ⟨y, _, rfl⟩ := List.mem_map.mp hd'
    simp [PySem.W.alike]
  so := .inr fun d hd => by
    obtain ⟨x, _, rfl⟩ := List.mem_map.mp hd
    exact And.intro (fun z => nomatch z) (fun ys z => nomatch z)
  no := by
    induction q with
    | nil => rfl
    | cons x r ih => show (noL (.str x) && noLA (r.map PyData.str)) = true; rw [ih]; rfl
  dp := fun d hd => by
    obtain ⟨x, _, rfl⟩ := List.mem_map.mp hd
    simp [PyData.depth]
def unstr : PyData → Str
  | .str n => n
  | _ => ""
theorem sort_strs (q : List Str) (hn : q.Nodup) : ∃ q' : List Str, sortD (q.map .str) = q'.map .str ∧ q'.Perm q ∧ q'.Pairwise fun a b => slt a b = true := by
  have hp := List.mergeSort_perm (q.map PyData.str) (PySem.W.dataLe false id)
  have hs := PySem.W.sort_pairwise (PySem.W.sortLe_total (PyProof.Rows.listOrd PyProof.Rows.itemOrd) false fun b : PyData => PySem.W.keyToks (id b)) (q.map PyData.str)
  have perm : ((sortD (q.map PyData.str)).map unstr).Perm q := by
    have := hp.map unstr
    rw [List.map_map] at this
    have e : (unstr ∘ PyData.str) = id := rfl
    rw [e, List.map_id] at this
    exact this
  refine ⟨(sortD (q.map PyData.str)).map unstr, ?_, perm, ?_⟩
  · rw [List.map_map]
    have : ∀ d ∈ sortD (q.map PyData.str), (PyData.str ∘ unstr) d = d := fun d hd => by
      obtain ⟨x, _, rfl⟩ := List.mem_map.mp (hp.mem_iff.mp hd)
      rfl
    rw [List.map_congr_left this, List.map_id']
  · rw [List.pairwise_map]
    have hne : (sortD (q.map PyData.str)).Pairwise fun a b => unstr a ≠ unstr b := List.pairwise_map.mp (perm.nodup_iff.mpr hn)
    refine (List.Pairwise.and hs hne).imp_of_mem fun {a b} ha hb h => ?_
    obtain ⟨x, _, rfl⟩ := List.mem_map.mp (hp.mem_iff.mp ha)
    obtain ⟨y, _, rfl⟩ := List.mem_map.mp (hp.mem_iff.mp hb)
    have le : (!PySem.W.dataLt (.str y) (.str x)) = true := h.1
    rw [PySem.W.dataLt_str] at le
    show slt x y = true
    refine (slt_conn h.2).resolve_right fun z => ?_
    have z : decide (y.cps.toList < x.cps.toList) = true := z
    rw [z] at le; cases le
theorem letters_len : letters.length = 26 := by decide +kernel
theorem drawn_ok {d : Addr} {n : Nat} {g : Gs} (h : GD d n g) (hn : 7 ≤ n) (ρ : List SD) (hs : ρ = .o (.ref d) :: ρ.tail) (h2 : ρ[2]? = some (.d (.str letters))) (h7 : 7 < ρ.length) :
    ∃ w g', fM "str" oJoin (fC (.str "")) (aCons (fLcU (iaB (oRngZ oRng1) (aCons (fOp oAdd (fC (.int 1)) (fCall F__law_draw (aCons (fVar 0) (aCons (fC (.int 6)) aNil)))) aNil)) (agName 7) fYes (fCall F__law_pick (aCons (fVar 0) (aCons (fVar 2) aNil))) [7]) aNil) ρ g = .ok (.d (.str w)) g' ∧ OkName w ∧ GD d (n - 7) g' := by
  have h0 : ρ[0]? = some (.o (.ref d)) := by rw [hs]; rfl
  obtain ⟨v, g1, e1, v0, v1, i1⟩ := draw_ok h (by omega) (k := 6) (by omega) (by omega)
  have hi : iaB (oRngZ oRng1) (aCons (fOp oAdd (fC (.int 1)) (fCall F__law_draw (aCons (fVar 0) (aCons (fC (.int 6)) aNil)))) aNil) ρ g = .ok (rngD 0 (1 + v).toNat) g1 := by
    unfold iaB
    simp only [fVar, fC, fDat, fOp, fUn, fTest, fAnd, fOr, fNot, fAndV, fOrV, fNotV, fIf, aNil, aCons, allDR, allD, fTup, fLst, fCB, fCall, fSeq, fAsg, fSet, fRet, fRetV, fRetN, fIfS, fDrop, fNext, fIsi, fIsi2, fM, fSl, oS, oN, agName, sdRV, R.bind_ok, R.ofO_some, R.stx_ok, rdSD_d, rdSD_o, asDR_d, asDR_nl, asAR_d, asAR_nl, asAR_o, asBR_b, seqO_nx, seqO_rt, o1A_d, o2A_d, asIR_i, rtSD_d, List.getElem?_cons_zero, List.getElem?_cons_succ, List.set_cons_zero, List.set_cons_succ, if_true, if_false, Bool.false_eq_true, reduceIte, Bool.not_true, Bool.not_false, slots, List.map_cons, List.map_nil, avS, List.length_cons, List.length_nil, List.replicate_succ, List.replicate_zero, List.cons_append, List.nil_append, Nat.reduceAdd, Nat.reduceSub, Nat.reduceLeDiff, sl1, sl2, sl3, sl4, sl5, sl6, sl7, sl8, sl9, sl10, sl11, sl12, sl13, sl14, sl15, sl16, sl17, sl18, sl19, sl20, sl21, sl22, sl23, sl24, sl25, sl26, sl27, sl28, sl29, sl30, Nat.zero_le, R.bind_cg, Nat.zero_add, Option.map_some, Option.map_none, h0, e1, oAdd]
    have : oRngZ oRng1 [.d (.int (1 + v))] = some (rngD 0 (1 + v).toNat) := by
      have : oRng1 [.d (.int (1 + v))] = some (rngD 0 (1 + v).toNat) := by
        show (if -(2 ^ 62) ≤ 1 + v ∧ 1 + v < 2 ^ 62 then some (rngD 0 (1 + v).toNat) else none) = _
        rw [if_pos ⟨by omega, by omega⟩]
      unfold oRngZ
      rw [this]
      show (if (rngD 0 (1 + v).toNat).length ≤ sizeLine then _ else _) = _
      rw [if_pos (by unfold rngD; rw [List.length_map, List.length_range, sizeLine_eq]; omega)]
    rw [this]
    rfl
  have hl : (rngD 0 (1 + v).toNat).length = (1 + v).toNat := by unfold rngD; simp
  obtain ⟨ys, g2, e2, l2, p2, i2⟩ := fLcU_st (fg := agName 7) (fe := fCall F__law_pick (aCons (fVar 0) (aCons (fVar 2) aNil))) (vs := [7]) (fun m g => GD d (n - 7 + m) g) (fun y => ∃ c ∈ letters.cps.toList, y = .str ⟨#[c]⟩) hi
    (i1.le (by rw [hl]; omega)) (by rw [hl, sizeLine_eq]; omega) (fun x hx m g hg => by
      obtain ⟨c, hc, g', e, i⟩ := pickS_ok hg (by omega) letters (by rw [letters_len]; omega) (by rw [letters_len]; omega)
      refine ⟨_, _, g', rfl, ?_, ⟨c, hc, rfl⟩, i.le (by omega)⟩
      have q0 : ((wipeD ρ [7]).set 7 (.d x))[0]? = some (.o (.ref d)) := by
        show ((ρ.set 7 .u).set 7 (.d x))[0]? = _
        rw [List.getElem?_set_ne (by omega), List.getElem?_set_ne (by omega), h0]
      have q2 : ((wipeD ρ [7]).set 7 (.d x))[2]? = some (.d (.str letters)) := by
        show ((ρ.set 7 .u).set 7 (.d x))[2]? = _
        rw [List.getElem?_set_ne (by omega), List.getElem?_set_ne (by omega), h2]
      simp only [fVar, fC, fDat, fOp, fUn, fTest, fAnd, fOr, fNot, fAndV, fOrV, fNotV, fIf, aNil, aCons, allDR, allD, fTup, fLst, fCB, fCall, fSeq, fAsg, fSet, fRet, fRetV, fRetN, fIfS, fDrop, fNext, fIsi, fIsi2, fM, fSl, oS, oN, agName, sdRV, R.bind_ok, R.ofO_some, R.stx_ok, rdSD_d, rdSD_o, asDR_d, asDR_nl, asAR_d, asAR_nl, asAR_o, asBR_b, seqO_nx, seqO_rt, o1A_d, o2A_d, asIR_i, rtSD_d, List.getElem?_cons_zero, List.getElem?_cons_succ, List.set_cons_zero, List.set_cons_succ, if_true, if_false, Bool.false_eq_true, reduceIte, Bool.not_true, Bool.not_false, slots, List.map_cons, List.map_nil, avS, List.length_cons, List.length_nil, List.replicate_succ, List.replicate_zero, List.cons_append, List.nil_append, Nat.reduceAdd, Nat.reduceSub, Nat.reduceLeDiff, sl1, sl2, sl3, sl4, sl5, sl6, sl7, sl8, sl9, sl10, sl11, sl12, sl13, sl14, sl15, sl16, sl17, sl18, sl19, sl20, sl21, sl22, sl23, sl24, sl25, sl26, sl27, sl28, sl29, sl30, Nat.zero_le, R.bind_cg, Nat.zero_add, Option.map_some, Option.map_none, q0, q2, e])
  obtain ⟨cs, hcs, hy⟩ : ∃ cs : List Nat, (∀ c ∈ cs, c ∈ letters.cps.toList) ∧ ys = cs.map fun c => PyData.str ⟨#[c]⟩ := by
    clear e2 l2 i2
    induction ys with
    | nil => exact ⟨[], by simp, rfl⟩
    | cons y r ih =>
      obtain ⟨c, hc, rfl⟩ := p2 y (by simp)
      obtain ⟨cs, h1, rfl⟩ := ih fun y hy => p2 y (by simp [hy])
      exact ⟨c :: cs, fun z hz => (List.mem_cons.mp hz).elim (fun e => e ▸ hc) (h1 z), rfl⟩
  have hlen : cs.length = (1 + v).toNat := by rw [← hl, ← l2, hy, List.length_map]
  have ej : oJoin (.str "") [.d (.list ys)] = some (.d (.str (Txt.join (Str.ofString "") (cs.map fun c => ⟨#[c]⟩)))) := by
    show (strsD ys).bind _ = _
    rw [hy, strsD_map (fun c : Nat => (⟨#[c]⟩ : Str))]
    show (if ((cs.map fun c => (⟨#[c]⟩ : Str)).map (·.length)).sum + (cs.map fun c => (⟨#[c]⟩ : Str)).length * (Str.ofString "").length ≤ 16777216 then _ else _) = _
    rw [if_pos]
    have z : (Str.ofString "").length = 0 := by decide
    rw [z, Nat.mul_zero, Nat.add_zero, List.map_map]
    have : ∀ cs : List Nat, (cs.map ((fun x : Str => x.length) ∘ fun c => (⟨#[c]⟩ : Str))).sum = cs.length := by
      intro cs
      induction cs with
      | nil => rfl
      | cons c r ih => rw [List.map_cons, List.sum_cons, ih]; show 1 + r.length = r.length + 1; omega
    rw [this, hlen]; omega
  have ht : tyD (.str "") = "str" := rfl
  have ewr : (Txt.join (Str.ofString "") (cs.map fun c => (⟨#[c]⟩ : Str))).length = cs.length := by rw [len_cps, join_cps]
  refine ⟨_, g2, ?_, ⟨by rw [ewr, hlen]; omega, by rw [ewr, hlen]; omega, fun c hc => hcs c (by rw [join_cps] at hc; exact hc)⟩, i2⟩
  simp only [fVar, fC, fDat, fOp, fUn, fTest, fAnd, fOr, fNot, fAndV, fOrV, fNotV, fIf, aNil, aCons, allDR, allD, fTup, fLst, fCB, fCall, fSeq, fAsg, fSet, fRet, fRetV, fRetN, fIfS, fDrop, fNext, fIsi, fIsi2, fM, fSl, oS, oN, agName, sdRV, R.bind_ok, R.ofO_some, R.stx_ok, rdSD_d, rdSD_o, asDR_d, asDR_nl, asAR_d, asAR_nl, asAR_o, asBR_b, seqO_nx, seqO_rt, o1A_d, o2A_d, asIR_i, rtSD_d, List.getElem?_cons_zero, List.getElem?_cons_succ, List.set_cons_zero, List.set_cons_succ, if_true, if_false, Bool.false_eq_true, reduceIte, Bool.not_true, Bool.not_false, slots, List.map_cons, List.map_nil, avS, List.length_cons, List.length_nil, List.replicate_succ, List.replicate_zero, List.cons_append, List.nil_append, Nat.reduceAdd, Nat.reduceSub, Nat.reduceLeDiff, sl1, sl2, sl3, sl4, sl5, sl6, sl7, sl8, sl9, sl10, sl11, sl12, sl13, sl14, sl15, sl16, sl17, sl18, sl19, sl20, sl21, sl22, sl23, sl24, sl25, sl26, sl27, sl28, sl29, sl30, Nat.zero_le, R.bind_cg, Nat.zero_add, Option.map_some, Option.map_none, ht, e2, ej]
theorem cut5_len (w : Str) : (cutS w none (some 5)).cps.toList = w.cps.toList.take 5 := by
  unfold cutS
  show ((w.cps.toList.drop (HT.sIx w.length 0 none)).take (HT.sIx w.length w.length (some ((5 : Nat) : Int)) - HT.sIx w.length 0 none)) = _
  rw [HT.sIx_nat, HT.sIx_none, List.drop_zero, Nat.sub_zero, len_cps]
  by_cases c : 5 ≤ w.cps.toList.length
  · rw [Nat.min_eq_left c]
  · rw [Nat.min_eq_right (by omega), List.take_of_length_le (Nat.le_refl _), List.take_of_length_le (by omega)]
def spare (w : Str) : List Str := w :: letters.cps.toList.map fun c => cutS w none (some 5) ++ ⟨#[c]⟩
theorem app_cps (a b : Str) : (a ++ b).cps.toList = a.cps.toList ++ b.cps.toList := by
  show (a.cps ++ b.cps).toList = _
  simp
theorem spare_ok {w : Str} (h : OkName w) : ∀ x ∈ spare w, OkName x := by
  intro x hx
  rcases List.mem_cons.mp hx with rfl | hx
  · exact h
  · obtain ⟨c, hc, rfl⟩ := List.mem_map.mp hx
    have hl : (cutS w none (some 5) ++ (⟨#[c]⟩ : Str)).cps.toList = w.cps.toList.take 5 ++ [c] := by rw [app_cps, cut5_len]
    refine ⟨by rw [len_cps, hl]; simp, by rw [len_cps, hl]; simp; omega, fun z hz => ?_⟩
    rw [hl] at hz
    rcases List.mem_append.mp hz with hz | hz
    · exact h.al z (List.mem_of_mem_take hz)
    · rw [List.mem_singleton.mp hz]; exact hc
theorem spare_new (w : Str) (found : List Str) (hf : found.length < 26) : ∃ x ∈ spare w, x ∉ found := by
  refine Classical.byContradiction fun hc => ?_
  have hall : ∀ x ∈ spare w, x ∈ found := fun x hx => Classical.byContradiction fun z => hc ⟨x, hx, z⟩
  have hn : (letters.cps.toList.map fun c => cutS w none (some 5) ++ (⟨#[c]⟩ : Str)).Nodup := by
    rw [List.nodup_iff_pairwise_ne, List.pairwise_map]
    have h0 : letters.cps.toList.Nodup := by decide +kernel
    refine List.Pairwise.imp (fun {a b} hab e => ?_) (List.nodup_iff_pairwise_ne.mp h0)
    have := congrArg (fun s : Str => s.cps.toList) e
    simp only [app_cps] at this
    have := List.append_cancel_left this
    simp at this
    exact hab this
  have := nodup_len hn fun x hx => hall x (List.mem_cons_of_mem _ hx)
  rw [List.length_map] at this
  have h26 : letters.cps.toList.length = 26 := letters_len
  omega
theorem pl_strs (l : List Str) : pl (.list (l.map .str)) = true := by
  unfold pl
  have h1 : PyData.plain (.list (l.map PyData.str)) = true := by rw [PyData.plain]; exact plainAll_map _ _ fun x _ => by simp [PyData.plain]
  have h2 : PyData.depth (.list (l.map PyData.str)) ≤ 64 := by
    have := depthAll_map PyData.str 1 l fun x _ => by simp [PyData.depth]
    rw [PyData.depth]
    omega
  rw [h1, decide_eq_true h2]; rfl
theorem any_strs (l : List Str) (n : Str) : ((l.map PyData.str).any fun z => PyData.eqv z (.str n)) = decide (n ∈ l) := by
  induction l with
  | nil => simp
  | cons x l ih =>
    rw [List.map_cons, List.any_cons, ih, eqv_str]
    by_cases c : x = n
    · simp [c]
    · simp [c, Ne.symm c]
theorem atI_zero {α : Type} (x : α) (r : List α) : atI (x :: r) 0 = some x := by
  show (ixN (r.length + 1) 0).bind (fun j => (x :: r)[j]?) = _
  unfold ixN
  rw [if_pos (by omega), if_pos (by omega)]
  rfl
theorem oIx_zero (x : PyData) (r : List PyData) : oIx (.list (x :: r)) (.int 0) = some (.d x) := by
  show (atI (x :: r) 0).map RV.d = _
  rw [atI_zero]
  rfl
theorem words_turn {d : Addr} {n : Nat} {g : Gs} (h : GD d n g) (hn : 8 ≤ n) (found : List Str) (hf : found.length < 26) (m : Int) (s4 s5 s6 : SD) :
    ∃ (w : Str) (t4 t5 t6 : SD) (g' : Gs), (fSeq (fAsg (fM "str" oJoin (fC (.str "")) (aCons (fLcU (iaB (oRngZ oRng1) (aCons (fOp oAdd (fC (.int 1)) (fCall F__law_draw (aCons (fVar 0) (aCons (fC (.int 6)) aNil)))) aNil)) (agName 7) fYes (fCall F__law_pick (aCons (fVar 0) (aCons (fVar 2) aNil))) [7]) aNil)) (agName 4))
    (fSeq (fAsg (fCall F__law_pick (aCons (fVar 0) (aCons (fLst (aCons (fC (.str "a")) (aCons (fC (.str "b")) (aCons (fC (.str "c")) (aCons (fC (.str "aa")) (aCons (fC (.str "none")) (aCons (fC (.str "things")) (aCons (fC (.str "zzzzzz")) (aCons (fVar 4) (aCons (fVar 4) aNil)))))))))) aNil))) (agName 5))
    (fSeq (fAsg (fOp oAdd (fLst (aCons (fVar 5) aNil)) (fLcU (iaSeqZ (fVar 2)) (agName 8) fYes (fOp oAdd (fSl (fVar 5) oN (oS (fC (.int 5)))) (fVar 8)) [8])) (agName 6))
    (fApp 3 (fOp oIx (fLcU (iaSeqZ (fVar 6)) (agName 9) (fBorT 3 (fTest (fOp (oIn true) (fVar 9) (fVar 3)))) (fVar 9) [9]) (fC (.int 0))))))) [.o (.ref d), .d (.int m), .d (.str letters), .own (found.map .str), s4, s5, s6, .u, .u, .u] g
      = .ok (.nx [.o (.ref d), .d (.int m), .d (.str letters), .own ((found ++ [w]).map .str), t4, t5, t6, .u, .u, .u]) g' ∧ OkName w ∧ w ∉ found ∧ GD d (n - 8) g' := by
  obtain ⟨w0, g1, e1, k1, i1⟩ := drawn_ok h (by omega) [.o (.ref d), .d (.int m), .d (.str letters), .own (found.map .str), s4, s5, s6, .u, .u, .u] rfl rfl (by simp)
  obtain ⟨y, hy, g2, e2, i2⟩ := pick_ok i1 (by omega) [.str "a", .str "b", .str "c", .str "aa", .str "none", .str "things", .str "zzzzzz", .str w0, .str w0] (by simp) (by simp)
  obtain ⟨w, ew, kw⟩ : ∃ w, y = .str w ∧ OkName w := by
    simp only [List.mem_cons, List.not_mem_nil, or_false] at hy
    have k : ∀ n : Str, okName n = true → OkName n := fun n h => okName_of h
    rcases hy with rfl | rfl | rfl | rfl | rfl | rfl | rfl | rfl | rfl
    · exact ⟨_, rfl, k _ (by decide +kernel)⟩
    · exact ⟨_, rfl, k _ (by decide +kernel)⟩
    · exact ⟨_, rfl, k _ (by decide +kernel)⟩
    · exact ⟨_, rfl, k _ (by decide +kernel)⟩
    · exact ⟨_, rfl, k _ (by decide +kernel)⟩
    · exact ⟨_, rfl, k _ (by decide +kernel)⟩
    · exact ⟨_, rfl, k _ (by decide +kernel)⟩
    · exact ⟨_, rfl, k1⟩
    · exact ⟨_, rfl, k1⟩
  subst ew
  have wz : w.length ≤ sizeLine := Nat.le_trans kw.hi (by decide)
  have e3 : ∀ ρ : List SD, ρ[2]? = some (.d (.str letters)) → ρ[5]? = some (.d (.str w)) → 8 < ρ.length → fLcU (iaSeqZ (fVar 2)) (agName 8) fYes (fOp oAdd (fSl (fVar 5) oN (oS (fC (.int 5)))) (fVar 8)) [8] ρ g2 = .ok (.nl ((letters.cps.toList.map fun c => cutS w none (some 5) ++ (⟨#[c]⟩ : Str)).map .str)) g2 := by
    intro ρ r2 r5 r8
    rw [fLcU_map letters.cps.toList (fun c => .str ⟨#[c]⟩) (fun c => .str (cutS w none (some 5) ++ ⟨#[c]⟩)) (g1 := g2) (by simp only [iaSeqZ, fVar, fC, fDat, fOp, fUn, fTest, fAnd, fOr, fNot, fAndV, fOrV, fNotV, fIf, aNil, aCons, allDR, allD, fTup, fLst, fCB, fCall, fSeq, fAsg, fSet, fRet, fRetV, fRetN, fIfS, fDrop, fNext, fIsi, fIsi2, fM, fSl, oS, oN, agName, sdRV, R.bind_ok, R.ofO_some, R.stx_ok, rdSD_d, rdSD_o, asDR_d, asDR_nl, asAR_d, asAR_nl, asAR_o, asBR_b, seqO_nx, seqO_rt, o1A_d, o2A_d, asIR_i, rtSD_d, List.getElem?_cons_zero, List.getElem?_cons_succ, List.set_cons_zero, List.set_cons_succ, if_true, if_false, Bool.false_eq_true, reduceIte, Bool.not_true, Bool.not_false, slots, List.map_cons, List.map_nil, avS, List.length_cons, List.length_nil, List.replicate_succ, List.replicate_zero, List.cons_append, List.nil_append, Nat.reduceAdd, Nat.reduceSub, Nat.reduceLeDiff, sl1, sl2, sl3, sl4, sl5, sl6, sl7, sl8, sl9, sl10, sl11, sl12, sl13, sl14, sl15, sl16, sl17, sl18, sl19, sl20, sl21, sl22, sl23, sl24, sl25, sl26, sl27, sl28, sl29, sl30, Nat.zero_le, R.bind_cg, Nat.zero_add, Option.map_some, Option.map_none, r2, itemsZ, show letters.cps.toList.length ≤ sizeLine from by rw [show letters.cps.toList.length = 26 from letters_len, sizeLine_eq]; omega]) (fun c hc => ⟨_, rfl, rfl, ?_⟩) (by rw [show letters.cps.toList.length = 26 from letters_len, sizeLine_eq]; omega), List.map_map]
    · rfl
    · have q5 : ((wipeD ρ [8]).set 8 (.d (.str ⟨#[c]⟩)))[5]? = some (.d (.str w)) := by
        show ((ρ.set 8 .u).set 8 _)[5]? = _
        rw [List.getElem?_set_ne (by omega), List.getElem?_set_ne (by omega), r5]
      have q8 : ((wipeD ρ [8]).set 8 (.d (.str ⟨#[c]⟩)))[8]? = some (.d (.str ⟨#[c]⟩)) := by
        show ((ρ.set 8 .u).set 8 _)[8]? = _
        rw [List.getElem?_set_self (by simpa using r8)]
      have qs : oSl (.str w) none (some 5) = some (.d (.str (cutS w none (some 5)))) := if_pos wz
      have qa : oAdd (.str (cutS w none (some 5))) (.str ⟨#[c]⟩) = some (.d (.str (cutS w none (some 5) ++ ⟨#[c]⟩))) := if_pos (by
        have : (cutS w none (some 5)).length ≤ 5 := by rw [len_cps, cut5_len]; simp; omega
        rw [sizeLine_eq]
        show _ + 1 ≤ _
        omega)
      simp only [fVar, fC, fDat, fOp, fUn, fTest, fAnd, fOr, fNot, fAndV, fOrV, fNotV, fIf, aNil, aCons, allDR, allD, fTup, fLst, fCB, fCall, fSeq, fAsg, fSet, fRet, fRetV, fRetN, fIfS, fDrop, fNext, fIsi, fIsi2, fM, fSl, oS, oN, agName, sdRV, R.bind_ok, R.ofO_some, R.stx_ok, rdSD_d, rdSD_o, asDR_d, asDR_nl, asAR_d, asAR_nl, asAR_o, asBR_b, seqO_nx, seqO_rt, o1A_d, o2A_d, asIR_i, rtSD_d, List.getElem?_cons_zero, List.getElem?_cons_succ, List.set_cons_zero, List.set_cons_succ, if_true, if_false, Bool.false_eq_true, reduceIte, Bool.not_true, Bool.not_false, slots, List.map_cons, List.map_nil, avS, List.length_cons, List.length_nil, List.replicate_succ, List.replicate_zero, List.cons_append, List.nil_append, Nat.reduceAdd, Nat.reduceSub, Nat.reduceLeDiff, sl1, sl2, sl3, sl4, sl5, sl6, sl7, sl8, sl9, sl10, sl11, sl12, sl13, sl14, sl15, sl16, sl17, sl18, sl19, sl20, sl21, sl22, sl23, sl24, sl25, sl26, sl27, sl28, sl29, sl30, Nat.zero_le, R.bind_cg, Nat.zero_add, Option.map_some, Option.map_none, q5, q8, qs, qa]
  have ea : oAdd (.list [.str w]) (.list ((letters.cps.toList.map fun c => cutS w none (some 5) ++ (⟨#[c]⟩ : Str)).map .str)) = some (.nl ((spare w).map .str)) := by
    unfold oAdd
    simp only
    rw [if_pos (by simp only [List.length_map, List.length_cons, List.length_nil, show letters.cps.toList.length = 26 from letters_len, sizeLine_eq]; omega)]
    rfl
  obtain ⟨x0, hx0, hx1⟩ := spare_new w found hf
  have hne : (spare w).filter (fun x => !decide (x ∈ found)) ≠ [] := fun z => by
    have : x0 ∈ (spare w).filter (fun x => !decide (x ∈ found)) := List.mem_filter.mpr ⟨hx0, by rw [decide_eq_false hx1]; rfl⟩
    rw [z] at this
    cases this
  obtain ⟨x, r, hxr⟩ := List.exists_cons_of_ne_nil hne
  have hx := List.mem_filter.mp (hxr ▸ List.mem_cons_self (a := x) (l := r))
  have e4 : ∀ ρ : List SD, ρ[3]? = some (.own (found.map .str)) → ρ[6]? = some (.d (.list ((spare w).map .str))) → 9 < ρ.length → fLcU (iaSeqZ (fVar 6)) (agName 9) (fBorT 3 (fTest (fOp (oIn true) (fVar 9) (fVar 3)))) (fVar 9) [9] ρ g2 = .ok (.nl ((x :: r).map .str)) g2 := by
    intro ρ r3 r6 r9
    rw [← hxr, fLcU_filter (spare w) .str (fun x => !decide (x ∈ found)) .str (g1 := g2) (by simp only [iaSeqZ, fVar, fC, fDat, fOp, fUn, fTest, fAnd, fOr, fNot, fAndV, fOrV, fNotV, fIf, aNil, aCons, allDR, allD, fTup, fLst, fCB, fCall, fSeq, fAsg, fSet, fRet, fRetV, fRetN, fIfS, fDrop, fNext, fIsi, fIsi2, fM, fSl, oS, oN, agName, sdRV, R.bind_ok, R.ofO_some, R.stx_ok, rdSD_d, rdSD_o, asDR_d, asDR_nl, asAR_d, asAR_nl, asAR_o, asBR_b, seqO_nx, seqO_rt, o1A_d, o2A_d, asIR_i, rtSD_d, List.getElem?_cons_zero, List.getElem?_cons_succ, List.set_cons_zero, List.set_cons_succ, if_true, if_false, Bool.false_eq_true, reduceIte, Bool.not_true, Bool.not_false, slots, List.map_cons, List.map_nil, avS, List.length_cons, List.length_nil, List.replicate_succ, List.replicate_zero, List.cons_append, List.nil_append, Nat.reduceAdd, Nat.reduceSub, Nat.reduceLeDiff, sl1, sl2, sl3, sl4, sl5, sl6, sl7, sl8, sl9, sl10, sl11, sl12, sl13, sl14, sl15, sl16, sl17, sl18, sl19, sl20, sl21, sl22, sl23, sl24, sl25, sl26, sl27, sl28, sl29, sl30, Nat.zero_le, R.bind_cg, Nat.zero_add, Option.map_some, Option.map_none, r6, itemsZ]) (fun c hc => ⟨_, rfl, ?_, ?_⟩) (by unfold spare; simp only [List.length_map, List.length_cons, show letters.cps.toList.length = 26 from letters_len, sizeLine_eq]; omega)]
    · have q3 : ((wipeD ρ [9]).set 9 (.d (.str c)))[3]? = some (.own (found.map .str)) := by
        show ((ρ.set 9 .u).set 9 _)[3]? = _
        rw [List.getElem?_set_ne (by omega), List.getElem?_set_ne (by omega), r3]
      have q33 : (((wipeD ρ [9]).set 9 (.d (.str c))).set 3 (.d (.list (found.map .str))))[3]? = some (.d (.list (found.map .str))) := by
        rw [List.getElem?_set_self (by show 3 < ((ρ.set 9 .u).set 9 (.d (.str c))).length; rw [List.length_set, List.length_set]; omega)]
      have q39 : (((wipeD ρ [9]).set 9 (.d (.str c))).set 3 (.d (.list (found.map .str))))[9]? = some (.d (.str c)) := by
        rw [List.getElem?_set_ne (by omega)]
        show ((ρ.set 9 .u).set 9 _)[9]? = _
        rw [List.getElem?_set_self (by simpa using r9)]
      have qi : oIn true (.str c) (.list (found.map .str)) = some (.d (.bool (!decide (c ∈ found)))) := by
        show (if _ then some (RV.d (.bool (true ^^ ((found.map PyData.str).any fun z => PyData.eqv z (.str c))))) else none) = _
        rw [if_pos ⟨pl_str c, pl_strs found⟩, any_strs, Bool.true_xor]
      unfold fBorT
      rw [q3]
      simp only [fzSD, fVar, fC, fDat, fOp, fUn, fTest, fAnd, fOr, fNot, fAndV, fOrV, fNotV, fIf, aNil, aCons, allDR, allD, fTup, fLst, fCB, fCall, fSeq, fAsg, fSet, fRet, fRetV, fRetN, fIfS, fDrop, fNext, fIsi, fIsi2, fM, fSl, oS, oN, agName, sdRV, R.bind_ok, R.ofO_some, R.stx_ok, rdSD_d, rdSD_o, asDR_d, asDR_nl, asAR_d, asAR_nl, asAR_o, asBR_b, seqO_nx, seqO_rt, o1A_d, o2A_d, asIR_i, rtSD_d, List.getElem?_cons_zero, List.getElem?_cons_succ, List.set_cons_zero, List.set_cons_succ, if_true, if_false, Bool.false_eq_true, reduceIte, Bool.not_true, Bool.not_false, slots, List.map_cons, List.map_nil, avS, List.length_cons, List.length_nil, List.replicate_succ, List.replicate_zero, List.cons_append, List.nil_append, Nat.reduceAdd, Nat.reduceSub, Nat.reduceLeDiff, sl1, sl2, sl3, sl4, sl5, sl6, sl7, sl8, sl9, sl10, sl11, sl12, sl13, sl14, sl15, sl16, sl17, sl18, sl19, sl20, sl21, sl22, sl23, sl24, sl25, sl26, sl27, sl28, sl29, sl30, Nat.zero_le, R.bind_cg, Nat.zero_add, Option.map_some, Option.map_none, q33, q39, qi, R.nox_ok]
    · intro _
      have q9 : ((wipeD ρ [9]).set 9 (.d (.str c)))[9]? = some (.d (.str c)) := by
        show ((ρ.set 9 .u).set 9 _)[9]? = _
        rw [List.getElem?_set_self (by simpa using r9)]
      simp only [fVar, fC, fDat, fOp, fUn, fTest, fAnd, fOr, fNot, fAndV, fOrV, fNotV, fIf, aNil, aCons, allDR, allD, fTup, fLst, fCB, fCall, fSeq, fAsg, fSet, fRet, fRetV, fRetN, fIfS, fDrop, fNext, fIsi, fIsi2, fM, fSl, oS, oN, agName, sdRV, R.bind_ok, R.ofO_some, R.stx_ok, rdSD_d, rdSD_o, asDR_d, asDR_nl, asAR_d, asAR_nl, asAR_o, asBR_b, seqO_nx, seqO_rt, o1A_d, o2A_d, asIR_i, rtSD_d, List.getElem?_cons_zero, List.getElem?_cons_succ, List.set_cons_zero, List.set_cons_succ, if_true, if_false, Bool.false_eq_true, reduceIte, Bool.not_true, Bool.not_false, slots, List.map_cons, List.map_nil, avS, List.length_cons, List.length_nil, List.replicate_succ, List.replicate_zero, List.cons_append, List.nil_append, Nat.reduceAdd, Nat.reduceSub, Nat.reduceLeDiff, sl1, sl2, sl3, sl4, sl5, sl6, sl7, sl8, sl9, sl10, sl11, sl12, sl13, sl14, sl15, sl16, sl17, sl18, sl19, sl20, sl21, sl22, sl23, sl24, sl25, sl26, sl27, sl28, sl29, sl30, Nat.zero_le, R.bind_cg, Nat.zero_add, Option.map_some, Option.map_none, q9]
  have ei := oIx_zero (.str x) (r.map .str)
  have hz : (found.map PyData.str).length < sizeLine := by rw [List.length_map, sizeLine_eq]; omega
  have e3' := e3 [.o (.ref d), .d (.int m), .d (.str letters), .own (found.map .str), .d (.str w0), .d (.str w), s6, .u, .u, .u] rfl rfl (by simp)
  have e4' := e4 [.o (.ref d), .d (.int m), .d (.str letters), .own (found.map .str), .d (.str w0), .d (.str w), .d (.list ((spare w).map .str)), .u, .u, .u] rfl rfl (by simp)
  refine ⟨x, .d (.str w0), .d (.str w), .d (.list ((spare w).map .str)), g2, ?_, spare_ok kw x hx.1, by simpa using hx.2, i2.le (by omega)⟩
  simp only [fSeq, fAsg, fDat, e1, R.bind_ok, asDR_d, R.stx_ok, agName, R.ofO_some, seqO_nx]
  simp only [fVar, fC, fDat, fOp, fUn, fTest, fAnd, fOr, fNot, fAndV, fOrV, fNotV, fIf, aNil, aCons, allDR, allD, fTup, fLst, fCB, fCall, fSeq, fAsg, fSet, fRet, fRetV, fRetN, fIfS, fDrop, fNext, fIsi, fIsi2, fM, fSl, oS, oN, agName, sdRV, R.bind_ok, R.ofO_some, R.stx_ok, rdSD_d, rdSD_o, asDR_d, asDR_nl, asAR_d, asAR_nl, asAR_o, asBR_b, seqO_nx, seqO_rt, o1A_d, o2A_d, asIR_i, rtSD_d, List.getElem?_cons_zero, List.getElem?_cons_succ, List.set_cons_zero, List.set_cons_succ, if_true, if_false, Bool.false_eq_true, reduceIte, Bool.not_true, Bool.not_false, slots, List.map_cons, List.map_nil, avS, List.length_cons, List.length_nil, List.replicate_succ, List.replicate_zero, List.cons_append, List.nil_append, Nat.reduceAdd, Nat.reduceSub, Nat.reduceLeDiff, sl1, sl2, sl3, sl4, sl5, sl6, sl7, sl8, sl9, sl10, sl11, sl12, sl13, sl14, sl15, sl16, sl17, sl18, sl19, sl20, sl21, sl22, sl23, sl24, sl25, sl26, sl27, sl28, sl29, sl30, Nat.zero_le, R.bind_cg, Nat.zero_add, Option.map_some, Option.map_none, e2, e3', ea, fApp, ownSD_own, e4', ei, hz, List.map_append]
def Words (W : List Str) : Prop := Wd W ∧ W.Pairwise fun a b => slt a b = true
theorem words_ok {d : Addr} {n : Nat} {g : Gs} (h : GD d n g) (m : Nat) (hm : m ≤ 20) (hn : 8 * m ≤ n) :
    ∃ (W : List Str) (g' : Gs), F__law_words [.o (.ref d), .d (.int m)] g = .ok (.nl (W.map .str)) g' ∧ Words W ∧ W.length = m ∧ GD d (n - 8 * m) g' := by
  have key : ∀ (k : Nat) (found : List Str) (n : Nat) (g : Gs) (s4 s5 s6 : SD), GD d n g → 8 * k ≤ n → found.length + k = m → found.Nodup → (∀ x ∈ found, OkName x) →
      ∃ (W : List Str) (g' : Gs) (t4 t5 t6 : SD) (j : Nat), whR (fTest (fOp oLt (fBor 3 (fCB (o1A oLen) (aCons (fVar 3) aNil))) (fVar 1))) (fSeq (fAsg (fM "str" oJoin (fC (.str "")) (aCons (fLcU (iaB (oRngZ oRng1) (aCons (fOp oAdd (fC (.int 1)) (fCall F__law_draw (aCons (fVar 0) (aCons (fC (.int 6)) aNil)))) aNil)) (agName 7) fYes (fCall F__law_pick (aCons (fVar 0) (aCons (fVar 2) aNil))) [7]) aNil)) (agName 4))
    (fSeq (fAsg (fCall F__law_pick (aCons (fVar 0) (aCons (fLst (aCons (fC (.str "a")) (aCons (fC (.str "b")) (aCons (fC (.str "c")) (aCons (fC (.str "aa")) (aCons (fC (.str "none")) (aCons (fC (.str "things")) (aCons (fC (.str "zzzzzz")) (aCons (fVar 4) (aCons (fVar 4) aNil)))))))))) aNil))) (agName 5))
    (fSeq (fAsg (fOp oAdd (fLst (aCons (fVar 5) aNil)) (fLcU (iaSeqZ (fVar 2)) (agName 8) fYes (fOp oAdd (fSl (fVar 5) oN (oS (fC (.int 5)))) (fVar 8)) [8])) (agName 6))
    (fApp 3 (fOp oIx (fLcU (iaSeqZ (fVar 6)) (agName 9) (fBorT 3 (fTest (fOp (oIn true) (fVar 9) (fVar 3)))) (fVar 9) [9]) (fC (.int 0))))))) j [.o (.ref d), .d (.int m), .d (.str letters), .own (found.map .str), s4, s5, s6, .u, .u, .u] g
        = .ok (.nx [.o (.ref d), .d (.int m), .d (.str letters), .own (W.map .str), t4, t5, t6, .u, .u, .u]) g' ∧ W.length = m ∧ W.Nodup ∧ (∀ x ∈ W, OkName x) ∧ GD d (n - 8 * k) g' := by
    have ht : ∀ (found : List Str) (g : Gs) (s4 s5 s6 : SD), fTest (fOp oLt (fBor 3 (fCB (o1A oLen) (aCons (fVar 3) aNil))) (fVar 1)) [.o (.ref d), .d (.int m), .d (.str letters), .own (found.map .str), s4, s5, s6, .u, .u, .u] g = .ok (decide ((found.length : Int) < m)) g := by
      intro found g s4 s5 s6
      have e : fBor 3 (fCB (o1A oLen) (aCons (fVar 3) aNil)) [.o (.ref d), .d (.int m), .d (.str letters), .own (found.map .str), s4, s5, s6, .u, .u, .u] g = .ok (.d (.int found.length)) g := by
        unfold fBor
        simp only [fVar, fC, fDat, fOp, fUn, fTest, fAnd, fOr, fNot, fAndV, fOrV, fNotV, fIf, aNil, aCons, allDR, allD, fTup, fLst, fCB, fCall, fSeq, fAsg, fSet, fRet, fRetV, fRetN, fIfS, fDrop, fNext, fIsi, fIsi2, fM, fSl, oS, oN, agName, sdRV, R.bind_ok, R.ofO_some, R.stx_ok, rdSD_d, rdSD_o, asDR_d, asDR_nl, asAR_d, asAR_nl, asAR_o, asBR_b, seqO_nx, seqO_rt, o1A_d, o2A_d, asIR_i, rtSD_d, List.getElem?_cons_zero, List.getElem?_cons_succ, List.set_cons_zero, List.set_cons_succ, if_true, if_false, Bool.false_eq_true, reduceIte, Bool.not_true, Bool.not_false, slots, List.map_cons, List.map_nil, avS, List.length_cons, List.length_nil, List.replicate_succ, List.replicate_zero, List.cons_append, List.nil_append, Nat.reduceAdd, Nat.reduceSub, Nat.reduceLeDiff, sl1, sl2, sl3, sl4, sl5, sl6, sl7, sl8, sl9, sl10, sl11, sl12, sl13, sl14, sl15, sl16, sl17, sl18, sl19, sl20, sl21, sl22, sl23, sl24, sl25, sl26, sl27, sl28, sl29, sl30, Nat.zero_le, R.bind_cg, Nat.zero_add, Option.map_some, Option.map_none, fzSD, oLen_list, List.length_map]
        rfl
      simp only [fVar, fC, fDat, fOp, fUn, fTest, fAnd, fOr, fNot, fAndV, fOrV, fNotV, fIf, aNil, aCons, allDR, allD, fTup, fLst, fCB, fCall, fSeq, fAsg, fSet, fRet, fRetV, fRetN, fIfS, fDrop, fNext, fIsi, fIsi2, fM, fSl, oS, oN, agName, sdRV, R.bind_ok, R.ofO_some, R.stx_ok, rdSD_d, rdSD_o, asDR_d, asDR_nl, asAR_d, asAR_nl, asAR_o, asBR_b, seqO_nx, seqO_rt, o1A_d, o2A_d, asIR_i, rtSD_d, List.getElem?_cons_zero, List.getElem?_cons_succ, List.set_cons_zero, List.set_cons_succ, if_true, if_false, Bool.false_eq_true, reduceIte, Bool.not_true, Bool.not_false, slots, List.map_cons, List.map_nil, avS, List.length_cons, List.length_nil, List.replicate_succ, List.replicate_zero, List.cons_append, List.nil_append, Nat.reduceAdd, Nat.reduceSub, Nat.reduceLeDiff, sl1, sl2, sl3, sl4, sl5, sl6, sl7, sl8, sl9, sl10, sl11, sl12, sl13, sl14, sl15, sl16, sl17, sl18, sl19, sl20, sl21, sl22, sl23, sl24, sl25, sl26, sl27, sl28, sl29, sl30, Nat.zero_le, R.bind_cg, Nat.zero_add, Option.map_some, Option.map_none, e, oLt]
    intro k
    induction k with
    | zero =>
      intro found n g s4 s5 s6 h _ hl hn ho
      refine ⟨found, g, s4, s5, s6, 1, ?_, by omega, hn, ho, h⟩
      rw [whR, ht, decide_eq_false (by omega)]
      rfl
    | succ k ih =>
      intro found n g s4 s5 s6 h hk hl hn ho
      obtain ⟨w, t4, t5, t6, g1, e, kw, kf, i1⟩ := words_turn h (by omega) found (by omega) m s4 s5 s6
      obtain ⟨W, g2, u4, u5, u6, j, e2, l2, n2, o2, i2⟩ := ih (found ++ [w]) (n - 8) g1 t4 t5 t6 i1 (by omega) (by simp; omega) (by
        rw [List.nodup_append]
        exact ⟨hn, by simp, fun a ha b hb => by rw [List.mem_singleton.mp hb]; exact fun z => kf (z ▸ ha)⟩) (fun x hx => (List.mem_append.mp hx).elim (ho x) fun hx => by rw [List.mem_singleton.mp hx]; exact kw)
      refine ⟨W, g2, u4, u5, u6, j + 1, ?_, l2, n2, o2, i2.le (by omega)⟩
      rw [whR, ht, decide_eq_true (by omega)]
      simp only [R.stx_ok, if_true]
      rw [e]
      exact e2
  obtain ⟨W, g', t4, t5, t6, j, e, l, hn, ho, i⟩ := key m [] n g .u .u .u h hn (by simp) List.nodup_nil (by simp)
  obtain ⟨W', e1, pm, pw⟩ := sort_strs W hn
  refine ⟨W', g', fn_rt rfl ?_, ⟨⟨fun x hx => ho x (pm.mem_iff.mp hx), by rw [pm.length_eq]; omega⟩, pw⟩, by rw [pm.length_eq]; exact l, i⟩
  have ew := fWhile_eq e (fun z => by cases z)
  have es : oSorted (.list (W.map .str)) = some (.nl (W'.map .str)) := by rw [oSorted_eq (sortOk_strs W), e1]
  have e0 : ∀ f : EFs, fFz 2 f [.o (.ref d), .d (.int m), .d (.str letters), .own [], .u, .u, .u, .u, .u, .u] g = f [.o (.ref d), .d (.int m), .d (.str letters), .own [], .u, .u, .u, .u, .u, .u] g := fun f => rfl
  have e3 : ∀ (f : EFs), fFz 3 f [.o (.ref d), .d (.int m), .d (.str letters), .own (W.map .str), t4, t5, t6, .u, .u, .u] g' = f [.o (.ref d), .d (.int m), .d (.str letters), .d (.list (W.map .str)), t4, t5, t6, .u, .u, .u] g' := fun f => rfl
  have ew : fWhile _ _ [.o (.ref d), .d (.int m), .d (.str letters), .own [], .u, .u, .u, .u, .u, .u] g = _ := ew
  unfold b__law_words
  rw [show slots 10 [.o (.ref d), .d (.int m)] = [.o (.ref d), .d (.int m), .u, .u, .u, .u, .u, .u, .u, .u] from rfl, fSeq]
  have ep : fPar 2 3 (fC (.str "abcdefghijklmnopqrstuvwxyz")) (fLst aNil) [.o (.ref d), .d (.int m), .u, .u, .u, .u, .u, .u, .u, .u] g = .ok (.nx [.o (.ref d), .d (.int m), .d (.str letters), .own [], .u, .u, .u, .u, .u, .u]) g := by
    unfold fPar
    simp only [fVar, fC, fDat, fOp, fUn, fTest, fAnd, fOr, fNot, fAndV, fOrV, fNotV, fIf, aNil, aCons, allDR, allD, fTup, fLst, fCB, fCall, fSeq, fAsg, fSet, fRet, fRetV, fRetN, fIfS, fDrop, fNext, fIsi, fIsi2, fM, fSl, oS, oN, agName, sdRV, R.bind_ok, R.ofO_some, R.stx_ok, rdSD_d, rdSD_o, asDR_d, asDR_nl, asAR_d, asAR_nl, asAR_o, asBR_b, seqO_nx, seqO_rt, o1A_d, o2A_d, asIR_i, rtSD_d, List.getElem?_cons_zero, List.getElem?_cons_succ, List.set_cons_zero, List.set_cons_succ, if_true, if_false, Bool.false_eq_true, reduceIte, Bool.not_true, Bool.not_false, slots, List.map_cons, List.map_nil, avS, List.length_cons, List.length_nil, List.replicate_succ, List.replicate_zero, List.cons_append, List.nil_append, Nat.reduceAdd, Nat.reduceSub, Nat.reduceLeDiff, sl1, sl2, sl3, sl4, sl5, sl6, sl7, sl8, sl9, sl10, sl11, sl12, sl13, sl14, sl15, sl16, sl17, sl18, sl19, sl20, sl21, sl22, sl23, sl24, sl25, sl26, sl27, sl28, sl29, sl30, Nat.zero_le, R.bind_cg, Nat.zero_add, Option.map_some, Option.map_none]
    rfl
  rw [ep]
  simp only [R.bind_ok, seqO_nx]
  rw [e0, fSeq, ew]
  simp only [R.bind_ok, seqO_nx, e3]
  simp only [fVar, fC, fDat, fOp, fUn, fTest, fAnd, fOr, fNot, fAndV, fOrV, fNotV, fIf, aNil, aCons, allDR, allD, fTup, fLst, fCB, fCall, fSeq, fAsg, fSet, fRet, fRetV, fRetN, fIfS, fDrop, fNext, fIsi, fIsi2, fM, fSl, oS, oN, agName, sdRV, R.bind_ok, R.ofO_some, R.stx_ok, rdSD_d, rdSD_o, asDR_d, asDR_nl, asAR_d, asAR_nl, asAR_o, asBR_b, seqO_nx, seqO_rt, o1A_d, o2A_d, asIR_i, rtSD_d, List.getElem?_cons_zero, List.getElem?_cons_succ, List.set_cons_zero, List.set_cons_succ, if_true, if_false, Bool.false_eq_true, reduceIte, Bool.not_true, Bool.not_false, slots, List.map_cons, List.map_nil, avS, List.length_cons, List.length_nil, List.replicate_succ, List.replicate_zero, List.cons_append, List.nil_append, Nat.reduceAdd, Nat.reduceSub, Nat.reduceLeDiff, sl1, sl2, sl3, sl4, sl5, sl6, sl7, sl8, sl9, sl10, sl11, sl12, sl13, sl14, sl15, sl16, sl17, sl18, sl19, sl20, sl21, sl22, sl23, sl24, sl25, sl26, sl27, sl28, sl29, sl30, Nat.zero_le, R.bind_cg, Nat.zero_add, Option.map_some, Option.map_none, es]
end Pg

namespace Pg
open PySem L2 Fx
theorem map_inj {α β : Type} {f : α → β} (inj : ∀ a b, f a = f b → a = b) : ∀ {xs ys : List α}, xs.map f = ys.map f → xs = ys
  | [], [], _ => rfl
  | [], _ :: _, h => by cases h
  | _ :: _, [], h => by cases h
  | x :: xs, y :: ys, h => by
    have h : f x :: xs.map f = f y :: ys.map f := h
    injection h with h1 h2
    rw [inj _ _ h1, map_inj inj h2]
theorem draw_s {d : Addr} {n : Nat} {g : Gs} (h : GD d n g) (hn : 1 ≤ n) {k : Int} (hk : 0 < k) (hk2 : k < 2 ^ 40) {P : Int → Gs → Prop} {X : PyData → Gs → Prop} (p : ∀ v g', 0 ≤ v → v < k → GD d (n - 1) g' → P v g') : (m__law_draw d k g).wp P X := by
  obtain ⟨v, g', e, a, b, c⟩ := draw_ok h hn hk hk2
  exact pullM_wp (fun a b h => by cases h; rfl) e (p v g' a b c)
theorem pick_s {α : Type} {e : α → PyData} (inj : ∀ a b, e a = e b → a = b) {d : Addr} {n : Nat} {g : Gs} (h : GD d n g) (hn : 1 ≤ n) {xs : List α} (hx : xs ≠ []) (hl : xs.length ≤ 1000) {P : α → Gs → Prop} {X : PyData → Gs → Prop} (p : ∀ x g', x ∈ xs → GD d (n - 1) g' → P x g') : (m__law_pick e d xs g).wp P X := by
  obtain ⟨y, hy, g', e1, h'⟩ := pick_ok h hn (xs.map e) (by simpa using hx) (by simpa using hl)
  obtain ⟨x, hx, rfl⟩ := List.mem_map.mp hy
  exact pullM_wp (fun a b h => inj a b (by injection h)) e1 (p x g' hx h')
theorem words_s {d : Addr} {n : Nat} {g : Gs} (h : GD d n g) {k : Int} (k0 : 0 ≤ k) (k1 : k ≤ 20) (hn : 160 ≤ n) {P : List Str → Gs → Prop} {X : PyData → Gs → Prop} (p : ∀ W g', Words W → (W.length : Int) = k → GD d (n - 160) g' → P W g') : (m__law_words d k g).wp P X := by
  obtain ⟨W, g', e, a, b, c⟩ := words_ok h k.toNat (by omega) (by omega)
  rw [Int.toNat_of_nonneg k0] at e
  exact pullM_wp (fun a b h => map_inj (f := PyData.str) (fun x y h => by cases h; rfl) (by injection h)) e (p W g' a (by omega) (c.le (by omega)))
end Pg

namespace Pg
open PySem L2 Fx
section
variable {α β : Type} [DecidableEq α] {e : α → PyData} {n : Nat} {lt : α → α → Bool}
theorem srt_perm (lt : α → α → Bool) (xs : List α) : (srt lt xs).Perm xs := List.mergeSort_perm ..
theorem srt_pw (h : OrdK n e lt) (xs : List α) : (srt lt xs).Pairwise fun a b => lt b a = false := by
  have hs := PySem.W.sort_pairwise (PySem.W.sortLe_total (PyProof.Rows.listOrd PyProof.Rows.itemOrd) false fun b : PyData => PySem.W.keyToks (id b)) (xs.map e)
  have hs : (sortD (xs.map e)).Pairwise fun a b => (!PySem.W.dataLt b a) = true := hs
  rw [sortD_mp h, List.pairwise_map] at hs
  exact hs.imp fun {a b} q => by rw [h.lt] at q; simpa using q
end
theorem srt_asc {xs : List Str} (hn : xs.Nodup) : (srt slt xs).Pairwise fun a b => slt a b = true := by
  have h1 := srt_pw ok_str xs
  have h2 : (srt slt xs).Pairwise fun a b => a ≠ b := (srt_perm slt xs).nodup_iff.mpr hn
  exact (h1.and h2).imp fun {a b} h => (slt_conn h.2).resolve_right fun z => by rw [h.1] at z; cases z
section
variable {α β : Type} [DecidableEq α]
theorem dlk_cons (x : α × β) (r : List (α × β)) (a : α) : dlk (x :: r) a = if x.1 = a then some x.2 else dlk r a := by
  unfold dlk
  rw [List.find?_cons]
  by_cases c : x.1 = a <;> simp [c]
theorem dlk_mem {m : List (α × β)} {a : α} {b : β} (h : dlk m a = some b) : (a, b) ∈ m := by
  induction m with
  | nil => cases h
  | cons x m ih =>
    rw [dlk_cons] at h
    by_cases c : x.1 = a
    · rw [if_pos c] at h; cases h; subst c; exact List.mem_cons_self ..
    · rw [if_neg c] at h; exact List.mem_cons_of_mem _ (ih h)
theorem dset_new {m : List (α × β)} {a : α} (b : β) (h : a ∉ m.map Prod.fst) : dset m a b = m ++ [(a, b)] := by
  unfold dset
  rw [if_neg]
  intro z
  obtain ⟨p, hp, q⟩ := List.any_eq_true.mp z
  exact h (List.mem_map.mpr ⟨p, hp, of_decide_eq_true q⟩)
theorem dmk_id {m : List (α × β)} (h : (m.map Prod.fst).Nodup) : dmk m = m := by
  have key : ∀ (m acc : List (α × β)), ((acc ++ m).map Prod.fst).Nodup → m.foldl (fun ks p => dset ks p.1 p.2) acc = acc ++ m := by
    intro m
    induction m with
    | nil => intro acc _; simp
    | cons x m ih =>
      intro acc hn
      have hx : x.1 ∉ acc.map Prod.fst := by
        rw [List.map_append, List.nodup_append] at hn
        intro z
        exact hn.2.2 _ z x.1 (by simp) rfl
      rw [List.foldl_cons, dset_new _ hx, ih _ (by simpa using hn)]
      simp
  exact (key m [] (by simpa using h)).trans (List.nil_append m)
end
theorem dlk_get (p : Plan) (n : Str) : dlk p n = get p n := by
  induction p with
  | nil => rfl
  | cons x p ih => rw [dlk_cons, get_cons, ih]
end Pg

namespace Pg
open PySem L2 Fx
theorem chars_all (z n : Str) : ((chars n).map fun x => hasS z x).all id = n.cps.toList.all fun c => decide (c ∈ z.cps.toList) := by
  unfold chars
  rw [List.map_map, List.all_map]
  rfl
theorem is_name_eq (n : Str) : p_is_name n = okName n := by
  have e : p_is_name n = (if ((!true) || ((decide ((n.length : Int) < (1 : Int))) || (decide ((6 : Int) < (n.length : Int))))) = true then false else n.cps.toList.all fun c => decide (c ∈ letters.cps.toList)) := by
    rw [← chars_all]; rfl
  rw [e]
  unfold okName
  by_cases c1 : 1 ≤ n.length
  · by_cases c2 : n.length ≤ 6
    · have d1 : ¬ ((n.length : Int) < 1) := by omega
      have d2 : ¬ ((6 : Int) < (n.length : Int)) := by omega
      simp [c1, c2, d1, d2]
    · have d2 : (6 : Int) < (n.length : Int) := by omega
      simp [c2, d2]
  · have d1 : (n.length : Int) < 1 := by omega
    simp [c1, d1]
theorem is_name_ok {n : Str} (h : OkName n) : p_is_name n = true := (is_name_eq n).trans ((okName_iff n).mpr h)
theorem is_name_z {n : Str} (h : n.length ≤ sizeLine) : z_is_name n := ⟨fun _ => ⟨h, fun _ => h⟩, fun _ => ⟨h, fun x hx => chars_sgn hx⟩⟩
theorem OkName.z {n : Str} (h : OkName n) : z_is_name n := is_name_z (Nat.le_trans h.hi (by decide))
theorem is_pair_ok {x : Str × Int} (h : OkName x.1) : p_is_pair x = true := by
  unfold p_is_pair p_is_number
  rw [is_name_ok h]; rfl
theorem is_pair_z {x : Str × Int} (h : OkName x.1) : z_is_pair x := fun _ _ => h.z
theorem cut_tail {α : Type} (xs : List α) : cut xs (some (1 : Int)) none = xs.drop 1 := by
  unfold cut
  rw [show (some (1 : Int)) = some ((1 : Nat) : Int) from rfl, HT.sIx_nat, HT.sIx_none]
  cases xs with
  | nil => rfl
  | cons x xs => simp
/-- a plan whose names may be names, in their order -/
structure PlN (p : Plan) : Prop where
  nm : ∀ x ∈ p, OkName x.1
  asc : Asc p
theorem Pl.n {W : List Str} {p : Plan} (h : Pl W p) : PlN p := ⟨h.nm, h.asc⟩
theorem are_pairs_ok {p : Plan} (h : PlN p) : p_are_pairs p = true := by
  have a1 : ((p.map fun (x2 : Str × Int) => p_is_pair x2).all id) = true := by
    rw [List.all_map, List.all_eq_true]
    exact fun x hx => is_pair_ok (h.nm x hx)
  have a2 : (((p.zip (cut p (some (1 : Int)) none)).map fun (x7 : (Str × Int) × (Str × Int)) => slt x7.1.1 x7.2.1).all id) = true := by
    rw [cut_tail, List.all_map, List.all_eq_true]
    have : ∀ p : Plan, Asc p → ∀ x ∈ p.zip (p.drop 1), slt x.1.1 x.2.1 = true := by
      intro p
      induction p with
      | nil => intro _ x hx; cases hx
      | cons y p ih =>
        intro ha x hx
        cases p with
        | nil => cases hx
        | cons z p =>
          have hx : x ∈ (y, z) :: (z :: p).zip p := hx
          rcases List.mem_cons.mp hx with rfl | hx
          · exact ha.head z (List.mem_cons_self ..)
          · exact ih ha.tail x hx
    exact fun x hx => this p h.asc x hx
  unfold p_are_pairs
  rw [a1, a2]; rfl
theorem are_pairs_z {p : Plan} (h : ∀ x ∈ p, OkName x.1) : z_are_pairs p := fun _ x hx => is_pair_z (h x hx)
theorem need_plan_z {p : Plan} (h : PlN p) : z_need_plan p := ⟨are_pairs_z h.nm, by rw [are_pairs_ok h]; rfl⟩
end Pg

namespace Pg
open PySem L2 Fx
theorem forM_s {α σ : Type} {f : σ → α → Gs → R σ} {P : σ → Gs → Prop} {X : PyData → Gs → Prop} (I : List α → σ → Gs → Prop) (step : ∀ x r s g, I (x :: r) s g → (f s x g).wp (fun s' g' => I r s' g') X) : ∀ (xs : List α) (s : σ) (g : Gs), I xs s g → (∀ s g, I [] s g → P s g) → (forM f xs s g).wp P X
  | [], s, g, i, p => p s g i
  | x :: xs, s, g, i, p => R.wp_bind.mpr (R.wp_imp (step x xs s g i) (fun s' g' i' => forM_s I step xs s' g' i' p) fun _ _ z => z)
theorem loopM_s {α β σ : Type} {f : σ → α → Gs → R (Bl β σ)} {P : Bl β σ → Gs → Prop} {X : PyData → Gs → Prop} (I : List α → σ → Gs → Prop) (step : ∀ x r s g, I (x :: r) s g → (f s x g).wp (fun o g' => ∃ s', o = .nx s' ∧ I r s' g') X) : ∀ (xs : List α) (s : σ) (g : Gs), I xs s g → (∀ s g, I [] s g → P (.nx s) g) → (loopM f xs s g).wp P X
  | [], s, g, i, p => p s g i
  | x :: xs, s, g, i, p => by
    refine R.wp_bind.mpr (R.wp_imp (step x xs s g i) (fun o g' h => ?_) fun _ _ z => z)
    obtain ⟨s', rfl, i'⟩ := h
    exact loopM_s I step xs s' g' i' p
theorem mulOk {k : Int} (h0 : 0 ≤ k) (h1 : k ≤ 2 ^ 30) : CMul 2 k ∨ CMulW 2 k := .inl (.inl ⟨by omega, by omega⟩)
theorem row_s {d : Addr} {n : Nat} {g : Gs} (h : GD d n g) {W : List Str} (hW : Words W) (hl : W.length ≤ 20) {wide : Int} (w0 : 0 ≤ wide) (w1 : wide ≤ 2 ^ 30) (hn : 41 ≤ n) {P : Plan → Gs → Prop} {X : PyData → Gs → Prop}
    (p : ∀ r g', Pl W r → (∀ x ∈ r, -wide ≤ x.2 ∧ x.2 ≤ 10 ^ 9 + wide) → r.length ≤ 20 → GD d (n - 41) g' → P r g') : (m__law_row d W wide g).wp P X := by
  unfold m__law_row
  refine R.wp_bind.mpr ?_
  show R.wp (R.bind _ _) P X
  refine R.wp_bind.mpr (pick_s (fun a b h => by injection h) h (by omega) (by simp) (by simp) fun far g1 hf h1 => ?_)
  have f01 : 0 ≤ far ∧ far ≤ 10 ^ 9 := by
    have e9 : ((10 : Int) ^ (9 : Int).toNat) = 10 ^ 9 := by decide
    simp only [List.mem_cons, List.not_mem_nil, or_false, e9] at hf
    rcases hf with rfl | rfl | rfl | rfl | rfl | rfl <;> exact ⟨by decide, by decide⟩
  refine R.wp_bind.mpr (forM_s (fun (r : List Str) (s : Plan) g => ∃ pre, W = pre ++ r ∧ Asc s ∧ (∀ x ∈ s, x.1 ∈ pre) ∧ (∀ x ∈ s, -wide ≤ x.2 ∧ x.2 ≤ 10 ^ 9 + wide) ∧ s.length ≤ pre.length ∧ GD d (n - 41 + 2 * r.length) g) (fun x r s g i => ?_) W [] g1 ⟨[], rfl, List.Pairwise.nil, by simp, by simp, by simp, h1.le (by omega)⟩ fun s g i => ?_)
  · obtain ⟨pre, e, a1, a2, a3, a4, a5⟩ := i
    have hlen : pre.length + (r.length + 1) = W.length := by rw [e]; simp
    simp only [List.length_cons] at a5
    have asc := hW.2
    rw [e, List.pairwise_append] at asc
    refine R.wp_bind.mpr (R.wp_mp (draw_s a5 (by omega) (by decide) (by decide) fun v g2 v0 v1 h2 => ?_))
    by_cases c : decide ((0 : Int) < v) = true
    · rw [if_pos c]
      refine R.wp_asrt (by rw [sizeLine_eq]; omega) (R.wp_bind.mpr (R.wp_mp (R.wp_mp (R.wp_mp (R.wp_asrt (mulOk w0 w1) (draw_s h2 (by omega) (by omega) (by omega) fun u g3 u0 u1 h3 => ?_))))))
      refine ⟨pre ++ [x], by rw [e]; simp, ?_, ?_, ?_, by simp; omega, h3.le (by omega)⟩
      · unfold Asc
        rw [List.pairwise_append]
        exact ⟨a1, by simp, fun y hy z hz => by rw [List.mem_singleton.mp hz]; exact asc.2.2 _ (a2 y hy) x (List.mem_cons_self ..)⟩
      · intro y hy
        rcases List.mem_append.mp hy with hy | hy
        · exact List.mem_append_left _ (a2 y hy)
        · rw [List.mem_singleton.mp hy]; exact List.mem_append_right _ (List.mem_singleton.mpr rfl)
      · intro y hy
        rcases List.mem_append.mp hy with hy | hy
        · exact a3 y hy
        · rw [List.mem_singleton.mp hy]; show -wide ≤ u - wide + far ∧ u - wide + far ≤ _; omega
    · rw [if_neg c]
      exact ⟨pre ++ [x], by rw [e]; simp, a1, fun y hy => List.mem_append_left _ (a2 y hy), a3, by simp; omega, h2.le (by omega)⟩
  · obtain ⟨pre, e, a1, a2, a3, a4, a5⟩ := i
    rw [List.append_nil] at e
    subst e
    exact p s g ⟨hW.1, a1, a2⟩ a3 (by omega) (a5.le (by simp))
end Pg

namespace Pg
open PySem L2 Fx
theorem cut_sub {α : Type} (xs : List α) (lo hi : Option Int) : (cut xs lo hi).Sublist xs := by
  unfold cut
  exact (List.take_sublist ..).trans (List.drop_sublist ..)
/-- a side, a seen plan: names in order, waits not too large -/
structure Sd (b : Int) (p : Plan) : Prop extends PlN p where
  bd : ∀ x ∈ p, -b ≤ x.2 ∧ x.2 ≤ b
  sz : p.length ≤ 20
/-- a chart: things' names, a side for each -/
structure Ch (N : List Str) (b : Int) (m : List (Str × Plan)) : Prop where
  ks : (m.map Prod.fst).Perm N
  sd : ∀ x ∈ m, Sd b x.2
theorem map_maxO (a b : Option Int) (k : Int) : (maxO a b).map (· + k) = maxO (a.map (· + k)) (b.map (· + k)) := by
  cases a <;> cases b <;> simp [maxO]
  try omega
def valP (s r : Plan) : Option Int := s.foldr (fun x o => maxO ((get r x.1).map (· + x.2)) o) none
theorem val_put (s r : Plan) (k : Int) : valP s (putP r k) = (valP s r).map (· + k) := by
  induction s with
  | nil => rfl
  | cons x s ih =>
    show maxO ((get (putP r k) x.1).map (· + x.2)) (valP s (putP r k)) = (maxO ((get r x.1).map (· + x.2)) (valP s r)).map (· + k)
    rw [ih, putP_get, map_maxO]
    congr 1
    cases get r x.1 with
    | none => rfl
    | some m => show some (m + k + x.2) = some (m + x.2 + k); congr 1; omega
end Pg

namespace Pg
open PySem L2 Fx
structure Shx (n m : Nat) (d : PyData) : Prop where
  ok : okS d = true
  dp : d.depth ≤ m
  sh : d.showable = true
  lv : d.leavesShort 41 = true
  bk : d.bulk ≤ n
theorem Shx.le {n m n' m' : Nat} {d : PyData} (h : Shx n m d) (e : n ≤ n') (e' : m ≤ m') : Shx n' m' d := ⟨h.ok, Nat.le_trans h.dp e', h.sh, h.lv, Nat.le_trans h.bk e⟩
theorem Shx.shd {n m : Nat} {d : PyData} (h : Shx n m d) (hn : n ≤ 300000) (hm : m ≤ 64) : Shd d := by
  have := PyData.shown_le_bulk 41 (by decide) d h.lv
  have hb := h.bk
  exact ⟨h.ok, Nat.le_trans h.dp hm, h.sh, by rw [sizeLine_eq]; omega⟩
def BigI (i : Int) : Prop := -(10 ^ 39) ≤ i ∧ i ≤ 10 ^ 39
structure ShA (n m : Nat) (ds : List PyData) : Prop where
  ok : okSA ds = true
  dp : PyData.depthAll ds ≤ m
  sh : PyData.showableAll ds = true
  lv : PyData.leavesShortAll 41 ds = true
  bk : PyData.bulkAll ds ≤ n
theorem ShA.nil {m : Nat} : ShA 0 m [] := ⟨by simp only [okSA], by simp [PyData.depthAll], by simp only [PyData.showableAll], by simp only [PyData.leavesShortAll], by simp [PyData.bulkAll]⟩
theorem ShA.cons {n n' m : Nat} {d : PyData} {ds : List PyData} (a : Shx n m d) (b : ShA n' m ds) : ShA (n + 1 + n') m (d :: ds) := by
  refine ⟨by simp only [okSA, a.ok, b.ok, Bool.and_self], ?_, by simp only [PyData.showableAll, a.sh, b.sh, Bool.and_self], by simp only [PyData.leavesShortAll, a.lv, b.lv, Bool.and_self], ?_⟩
  · have := a.dp; have := b.dp; simp only [PyData.depthAll]; omega
  · have := a.bk; have := b.bk; simp only [PyData.bulkAll]; omega
theorem shA_map {α : Type} {e : α → PyData} {n m : Nat} : ∀ {xs : List α}, (∀ x ∈ xs, Shx n m (e x)) → ShA ((n + 1) * xs.length) m (xs.map e)
  | [], _ => ShA.nil
  | x :: xs, h => by
    have := (h x (List.mem_cons_self ..)).dp
    have q := ShA.cons (h x (List.mem_cons_self ..)) (shA_map fun y hy => h y (List.mem_cons_of_mem _ hy))
    rw [List.length_cons, Nat.mul_add, Nat.mul_one, Nat.add_comm]
    exact q
theorem ShA.list {n m : Nat} {ds : List PyData} (h : ShA n m ds) : Shx n (m + 1) (.list ds) :=
  ⟨by simp only [okS, h.ok], by have := h.dp; simp only [PyData.depth]; omega, by simp only [PyData.showable, h.sh], by simp only [PyData.leavesShort, h.lv], by simp only [PyData.bulk]; exact h.bk⟩
theorem ShA.tuple {n m : Nat} {ds : List PyData} (h : ShA n m ds) : Shx n (m + 1) (.tuple ds) :=
  ⟨by simp only [okS, h.ok], by have := h.dp; simp only [PyData.depth]; omega, by simp only [PyData.showable, h.sh], by simp only [PyData.leavesShort, h.lv], by simp only [PyData.bulk]; exact h.bk⟩
theorem shx_L {α : Type} {e : α → PyData} {n m : Nat} {xs : List α} (h : ∀ x ∈ xs, Shx n m (e x)) : Shx ((n + 1) * xs.length) (m + 1) (eL e xs) := (shA_map h).list
structure ShK (n m : Nat) (ks : List (PyData × PyData)) : Prop where
  ok : okSK ks = true
  dp : PyData.depthKv ks ≤ m
  sh : PyData.showableKv ks = true
  lv : PyData.leavesShortKv 41 ks = true
  bk : PyData.bulkKv ks ≤ n
end Pg

namespace Pg
open PySem L2 Fx
theorem right_of {m : Nat} {b : EFs} {M : List Int → Addr → Gs → R Bool} (hg : ∀ v0 v1 g, RG b (lawSlots m v0 v1) g (M v0 v1 g) (Rt fun x => RV.d (PyData.bool x))) (hw : ∀ ns d g, ns.length ≤ 63 → GD d (2 ^ 39) g → (M ns d g).wp (fun b _ => b = true) NoX) : LawRight m b := by
  intro ns d l c g hl hq hk
  have w := hw ns d g hl ⟨⟨l, c, hq⟩, hk⟩
  have r := hg ns d g
  unfold RG at r
  cases e : M ns d g with
  | ok b g' =>
    rw [e] at w r
    obtain rfl : b = true := w
    obtain ⟨o, h1, h2⟩ := r
    exact ⟨g', by rw [h1, h2]⟩
  | exc x g' => rw [e] at w; exact w.elim
  | bad => rw [e] at w; exact w.elim
section
variable {N : List Str} {m : List (Str × Plan)} {b : Int} (hm : Ch N b m) (hN : Words N)
include hm hN
theorem Ch.nd : (m.map Prod.fst).Nodup := hm.ks.nodup_iff.mpr (hN.2.imp fun {a b} h => slt_ne h)
theorem Ch.asc : (srt slt (m.map Prod.fst)).Pairwise fun a b => slt a b = true := srt_asc (hm.nd hN)
theorem Ch.nm : ∀ x ∈ m.map Prod.fst, OkName x := fun x hx => hN.1.nm x (hm.ks.mem_iff.mp hx)
end
end Pg

namespace Pg
open PySem L2 Fx
/-- a side of some names -/
structure Sw (Z : List Str) (b : Int) (p : Plan) : Prop extends Sd b p where
  nz : ∀ x ∈ p, x.1 ∈ Z
/-- a chart to some names -/
structure Ct (N Z : List Str) (b : Int) (m : List (Str × Plan)) : Prop where
  ks : (m.map Prod.fst).Perm N
  sw : ∀ x ∈ m, Sw Z b x.2
theorem valP_cons (x : Str × Int) (s r : Plan) : valP (x :: s) r = maxO ((get r x.1).map (· + x.2)) (valP s r) := rfl
/-- a plan is known by the values of the sides -/
theorem val_one (p : Plan) (n : Str) (hn : (p.map (·.1)).Nodup) : valP p [(n, 0)] = get p n := by
  induction p with
  | nil => rfl
  | cons x p ih =>
    have hn : x.1 ∉ p.map (·.1) ∧ (p.map (·.1)).Nodup := List.nodup_cons.mp (by simpa using hn)
    rw [valP_cons, get_cons, ih hn.2, get_cons]
    by_cases c : x.1 = n
    · subst c
      rw [if_pos rfl, if_pos rfl]
      have : get p x.1 = none := get_none.mpr fun y hy e => hn.1 (List.mem_map.mpr ⟨y, hy, e⟩)
      rw [this]
      show some (0 + x.2) = some x.2
      rw [Int.zero_add]
    · rw [if_neg c, if_neg (fun z => c z.symm)]
      exact none_maxO _
theorem asc_eq : ∀ {A B : List Str}, A.Pairwise (fun a b => slt a b = true) → B.Pairwise (fun a b => slt a b = true) → A.Perm B → A = B := by
  intro A B ha hb hp
  have key : ∀ (L : List Str) (n : Str), get (L.map fun x => (x, (0 : Int))) n = if n ∈ L then some 0 else none := by
    intro L n
    induction L with
    | nil => rfl
    | cons a L ih =>
      rw [List.map_cons, get_cons, ih]
      by_cases c : a = n
      · subst c; simp
      · have : (n ∈ a :: L) ↔ n ∈ L := by simp [show ¬ n = a from fun z => c z.symm]
        simp only [this]
        rw [if_neg c]
  have e := asc_ext (p := A.map fun x => (x, (0 : Int))) (q := B.map fun x => (x, (0 : Int))) (List.pairwise_map.mpr ha) (List.pairwise_map.mpr hb) fun n => by rw [key, key]; simp only [hp.mem_iff]
  have := congrArg (List.map Prod.fst) e
  rw [List.map_map, List.map_map] at this
  have h0 : (Prod.fst ∘ fun x : Str => (x, (0 : Int))) = id := rfl
  rw [h0, List.map_id, List.map_id] at this
  exact this
theorem srt_id {A : List Str} (h : A.Pairwise (fun a b => slt a b = true)) : srt slt A = A :=
  asc_eq (srt_asc (h.imp fun {a b} h => slt_ne h)) h (srt_perm _ _)
section
variable {N0 N1 N2 W : List Str} {b0 b1 b2 : Int} {m0 m1 m2 : List (Str × Plan)}
theorem Ct.names (h1 : Ct N1 N0 b1 m1) (h0 : Ct N0 W b0 m0) {n : Str} : ∀ x ∈ (dlk m1 n).getD [], x.1 ∈ m0.map Prod.fst := by
  intro x hx
  cases e : dlk m1 n with
  | none => rw [e] at hx; cases hx
  | some s =>
    rw [e] at hx
    exact h0.ks.mem_iff.mpr ((h1.sw _ (dlk_mem e)).nz x hx)
theorem Ct.nd (h : Ct N1 N0 b1 m1) (hN : Words N1) : (m1.map Prod.fst).Nodup := h.ks.nodup_iff.mpr (hN.2.imp fun {a b} h => slt_ne h)
end
end Pg

namespace Pg
open PySem L2 Fx
abbrev Rule := Plan × Plan
def leO : Option Int → Option Int → Bool
  | none, _ => true
  | some _, none => false
  | some a, some b => decide (a ≤ b)
/-- a plan keeps a rule -/
def keepR (u : Rule) (r : Plan) : Bool := leO (valP u.1 r) (valP u.2 r)
theorem leO_add (a b : Option Int) (k : Int) : leO (a.map (· + k)) (b.map (· + k)) = leO a b := by
  cases a <;> cases b <;> simp [leO]
theorem keep_put (u : Rule) (r : Plan) (k : Int) : keepR u (putP r k) = keepR u r := by
  unfold keepR
  rw [val_put, val_put, leO_add]
/-- a rule of some things -/
structure Ru (W : List Str) (b : Int) (u : Rule) : Prop where
  l : Sw W b u.1
  r : Sw W b u.2
end Pg

namespace Mk
open PySem L2 Fx
open Pg (Plan Asc get get_mem mem_get asc_ext putP putP_get putP_asc putP_zero putP_putP maxO joinP joinP_asc joinP_get joinP_names roomP lastP normalP slt_conn slt_irrefl get_none)

def Le (p q : Plan) : Prop := ∀ n m, get p n = some m → ∃ k, get q n = some k ∧ m ≤ k
theorem Le.refl (p : Plan) : Le p p := fun n m h => ⟨m, h, Int.le_refl m⟩
theorem Le.trans {p q r : Plan} (h1 : Le p q) (h2 : Le q r) : Le p r := fun n m h => by
  obtain ⟨k, h, l⟩ := h1 n m h
  obtain ⟨j, h, l'⟩ := h2 n k h
  exact ⟨j, h, Int.le_trans l l'⟩
theorem get_put {p : Plan} {k : Int} {n : Str} {m : Int} (h : get (putP p k) n = some m) : get p n = some (m - k) := by
  rw [putP_get] at h
  cases e : get p n with
  | none => rw [e] at h; cases h
  | some v => rw [e] at h; obtain rfl : v + k = m := Option.some.inj h; congr 1; omega
theorem put_get {p : Plan} (k : Int) {n : Str} {m : Int} (h : get p n = some m) : get (putP p k) n = some (m + k) := by rw [putP_get, h]; rfl
theorem Le.put {p q : Plan} (h : Le p q) (k : Int) : Le (putP p k) (putP q k) := fun n m e => by
  obtain ⟨j, e, l⟩ := h n _ (get_put e)
  exact ⟨j + k, put_get k e, by omega⟩
theorem put_mem {p : Plan} {k : Int} {x : Str × Int} (h : x ∈ putP p k) : ∃ y ∈ p, x = (y.1, y.2 + k) := by
  unfold putP at h
  obtain ⟨y, hy, rfl⟩ := List.mem_map.mp h
  exact ⟨y, hy, rfl⟩
/-- at this thing one of the makers, put off, stays within the plan and comes to the plan's moment -/
def Hit (ms : List Plan) (p : Plan) (n : Str) (v : Int) : Prop := ∃ m ∈ ms, ∃ k, Le (putP m k) p ∧ get (putP m k) n = some v
def Made (ms : List Plan) (p : Plan) : Prop := ∀ n v, get p n = some v → Hit ms p n v
theorem Hit.up {ms : List Plan} {p q : Plan} {n : Str} {v : Int} (h : Hit ms p n v) (l : Le p q) : Hit ms q n v := by
  obtain ⟨m, hm, k, a, b⟩ := h
  exact ⟨m, hm, k, a.trans l, b⟩
theorem Made.mono {ms ns : List Plan} {p : Plan} (h : Made ms p) (hs : ∀ m ∈ ms, m ∈ ns) : Made ns p := fun n v e => by
  obtain ⟨m, hm, k, a, b⟩ := h n v e
  exact ⟨m, hs m hm, k, a, b⟩
theorem Made.put {ms : List Plan} {p : Plan} (h : Made ms p) (k : Int) : Made ms (putP p k) := fun n v e => by
  obtain ⟨m, hm, j, a, b⟩ := h n _ (get_put e)
  refine ⟨m, hm, j + k, ?_, ?_⟩
  · have := a.put k
    rwa [putP_putP] at this
  · have := put_get k b
    rw [putP_putP] at this
    rw [this]; congr 1; omega
/-- what is made of what is made is made -/
theorem Made.trans {ms ns : List Plan} {p : Plan} (h : Made ns p) (hs : ∀ q ∈ ns, Made ms q) : Made ms p := fun n v e => by
  obtain ⟨q, hq, k, a, b⟩ := h n v e
  exact ((hs q hq).put k n v b).up a
/-- a list of makers as least_of sees it: normal, none of them empty -/
structure Nf (fs : List Plan) : Prop where
  asc : ∀ m ∈ fs, Asc m
  nil : ∀ m ∈ fs, m ≠ []
  nrm : ∀ m ∈ fs, lastP m = 0
/-- told by what is made alone: who is a maker of the least lot -/
def Ext (S : Plan → Prop) (m : Plan) : Prop := Asc m ∧ m ≠ [] ∧ lastP m = 0 ∧ S m ∧ ∃ n v, get m n = some v ∧ ∀ q, Asc q → S q → Le q m → get q n = some v → q = m
theorem pw_ext {α : Type} {R : α → α → Prop} (as : ∀ a b, R a b → ¬ R b a) : ∀ {l m : List α}, l.Pairwise R → m.Pairwise R → (∀ x, x ∈ l ↔ x ∈ m) → l = m
  | [], [], _, _, _ => rfl
  | [], y :: m, _, _, h => by have := (h y).mpr (List.mem_cons_self ..); cases this
  | x :: l, [], _, _, h => by have := (h x).mp (List.mem_cons_self ..); cases this
  | x :: l, y :: m, hl, hm, h => by
    have hl' := List.pairwise_cons.mp hl
    have hm' := List.pairwise_cons.mp hm
    have e : x = y := by
      rcases List.mem_cons.mp ((h x).mp (List.mem_cons_self ..)) with e | i
      · exact e
      · rcases List.mem_cons.mp ((h y).mpr (List.mem_cons_self ..)) with e | j
        · exact e.symm
        · exact absurd (hl'.1 y j) (as _ _ (hm'.1 x i))
    subst e
    congr 1
    refine pw_ext as hl'.2 hm'.2 fun z => ?_
    have irr : ∀ a, ¬ R a a := fun a r => as a a r r
    constructor
    · intro i
      rcases List.mem_cons.mp ((h z).mp (List.mem_cons_of_mem _ i)) with e | i'
      · subst e; exact absurd (hl'.1 z i) (irr z)
      · exact i'
    · intro i
      rcases List.mem_cons.mp ((h z).mpr (List.mem_cons_of_mem _ i)) with e | i'
      · subst e; exact absurd (hm'.1 z i) (irr z)
      · exact i'
theorem lxL_conn {α : Type} [DecidableEq α] {lt : α → α → Bool} (c : ∀ a b, a ≠ b → lt a b = true ∨ lt b a = true) : ∀ a b : List α, a ≠ b → lxL lt a b = true ∨ lxL lt b a = true
  | [], [], h => absurd rfl h
  | [], y :: b, _ => .inl rfl
  | x :: a, [], _ => .inr rfl
  | x :: a, y :: b, h => by
    unfold lxL
    by_cases e : x = y
    · subst e
      rw [if_pos rfl, if_pos rfl]
      exact lxL_conn c a b fun z => h (by rw [z])
    · rw [if_neg e, if_neg (Ne.symm e)]
      exact c x y e
theorem lxP_conn {α β : Type} [DecidableEq α] {l1 : α → α → Bool} {l2 : β → β → Bool} (c1 : ∀ a b, a ≠ b → l1 a b = true ∨ l1 b a = true) (c2 : ∀ a b, a ≠ b → l2 a b = true ∨ l2 b a = true) (a b : α × β) (h : a ≠ b) : lxP l1 l2 a b = true ∨ lxP l1 l2 b a = true := by
  unfold lxP
  by_cases e : a.1 = b.1
  · rw [if_pos e, if_pos e.symm]
    exact c2 _ _ fun z => h (Prod.ext e z)
  · rw [if_neg e, if_neg (Ne.symm e)]
    exact c1 _ _ e
theorem ilt_conn (a b : Int) (h : a ≠ b) : ilt a b = true ∨ ilt b a = true := by
  unfold ilt
  simp only [decide_eq_true_eq]
  omega
/-- the order of plans -/
def plt : Plan → Plan → Bool := lxL (lxP slt ilt)
theorem plt_conn (a b : Plan) (h : a ≠ b) : plt a b = true ∨ plt b a = true := lxL_conn (lxP_conn (fun a b h => slt_conn h) ilt_conn) a b h
def Up (l : List Plan) : Prop := l.Pairwise fun a b => plt a b = true ∧ plt b a = false
theorem up_ext {l m : List Plan} (hl : Up l) (hm : Up m) (h : ∀ x, x ∈ l ↔ x ∈ m) : l = m := pw_ext (fun a b r s => by rw [r.1] at s; exact absurd s.2 (by simp)) hl hm h
theorem ok_plan : OrdK 2 (eT (eP PyData.str PyData.int)) plt := ok_T (ok_P ok_str ok_int)
theorem srt_up {xs : List Plan} (hn : xs.Nodup) : Up (srt plt xs) := by
  have hs := PySem.W.sort_pairwise (PySem.W.sortLe_total (PyProof.Rows.listOrd PyProof.Rows.itemOrd) false fun b : PyData => PySem.W.keyToks (id b)) (xs.map (eT (eP PyData.str PyData.int)))
  have hs : (sortD (xs.map (eT (eP PyData.str PyData.int)))).Pairwise fun a b => (!PySem.W.dataLt b a) = true := hs
  rw [sortD_mp ok_plan, List.pairwise_map] at hs
  have h1 : (srt plt xs).Pairwise fun a b => plt b a = false := hs.imp fun {a b} q => by rw [ok_plan.lt] at q; simpa using q
  have h2 : (srt plt xs).Pairwise fun a b => a ≠ b := (List.mergeSort_perm ..).nodup_iff.mpr hn
  exact (h1.and h2).imp fun {a b} h => ⟨(plt_conn a b h.2).resolve_right (fun z => by rw [h.1] at z; cases z), h.1⟩
def val (s r : Plan) : Option Int := s.foldr (fun x o => maxO ((get r x.1).map (· + x.2)) o) none
def lo : Option Int → Option Int → Bool
  | none, _ => true
  | some _, none => false
  | some a, some b => decide (a ≤ b)
def keep (u : Plan × Plan) (r : Plan) : Bool := lo (val u.1 r) (val u.2 r)
theorem keep_iff {u : Plan × Plan} {r : Plan} : keep u r = true ↔ ∀ a, val u.1 r = some a → ∃ b, val u.2 r = some b ∧ a ≤ b := by
  unfold keep
  cases val u.1 r with
  | none => simp [lo]
  | some a =>
    cases val u.2 r with
    | none => simp [lo]
    | some b => simp [lo]
theorem val_hit {r : Plan} : ∀ {s : Plan} {v : Int}, val s r = some v → ∃ x ∈ s, ∃ k, get r x.1 = some k ∧ v = k + x.2
  | [], v, h => by cases h
  | x :: s, v, h => by
    have h : maxO ((get r x.1).map (· + x.2)) (val s r) = some v := h
    cases e : get r x.1 with
    | none =>
      rw [e] at h
      obtain ⟨y, hy, z⟩ := val_hit (s := s) (v := v) h
      exact ⟨y, List.mem_cons_of_mem _ hy, z⟩
    | some k =>
      rw [e] at h
      cases f : val s r with
      | none => rw [f] at h; exact ⟨x, List.mem_cons_self .., k, e, (Option.some.inj h).symm⟩
      | some w =>
        rw [f] at h
        have h : max (k + x.2) w = v := Option.some.inj h
        by_cases c : w ≤ k + x.2
        · exact ⟨x, List.mem_cons_self .., k, e, by omega⟩
        · obtain ⟨y, hy, z⟩ := val_hit (s := s) f
          exact ⟨y, List.mem_cons_of_mem _ hy, by rw [show v = w from by omega]; exact z⟩
theorem val_ge {r : Plan} : ∀ {s : Plan} {x : Str × Int} {k : Int}, x ∈ s → get r x.1 = some k → ∃ v, val s r = some v ∧ k + x.2 ≤ v
  | [], x, k, h, _ => by cases h
  | y :: s, x, k, h, e => by
    show ∃ v, maxO ((get r y.1).map (· + y.2)) (val s r) = some v ∧ _
    rcases List.mem_cons.mp h with rfl | h
    · rw [e]
      cases val s r with
      | none => exact ⟨_, rfl, Int.le_refl _⟩
      | some w => exact ⟨max (k + x.2) w, rfl, by omega⟩
    · obtain ⟨v, ev, l⟩ := val_ge h e
      rw [ev]
      cases get r y.1 with
      | none => exact ⟨v, rfl, l⟩
      | some j => exact ⟨max (j + y.2) v, rfl, by omega⟩
theorem val_put {s p : Plan} {a : Int} (k : Int) (e : val s p = some a) : val s (putP p k) = some (a + k) := by
  obtain ⟨x, hx, j, ej, rfl⟩ := val_hit e
  obtain ⟨b, eb, l⟩ := val_ge hx (put_get k ej)
  obtain ⟨y, hy, i, ei, rfl⟩ := val_hit eb
  obtain ⟨c, ec, l'⟩ := val_ge hy (get_put ei)
  rw [e] at ec
  have : j + x.2 = c := Option.some.inj ec
  rw [eb]; congr 1; omega
theorem val_of_put {s p : Plan} {a k : Int} (e : val s (putP p k) = some a) : val s p = some (a - k) := by
  have := val_put (-k) e
  rw [putP_putP, show k + -k = 0 from by omega, putP_zero] at this
  rw [this]; rfl
theorem keep_put {u : Plan × Plan} {p : Plan} {k : Int} (h : keep u p = true) : keep u (putP p k) = true := keep_iff.mpr fun a e => by
  obtain ⟨b, eb, l⟩ := keep_iff.mp h _ (val_of_put e)
  exact ⟨b + k, val_put k eb, by omega⟩
def good (u : Plan × Plan) (ms : List Plan) : List Plan := ms.filter fun m => keep u m && (val u.2 m).isSome
def bad (u : Plan × Plan) (ms : List Plan) : List Plan := ms.filter fun m => !keep u m
def cross (u : Plan × Plan) (a b : Plan) : Plan := joinP [putP a ((val u.1 b).getD 0), putP b ((val u.2 a).getD 0)]
def crossed (u : Plan × Plan) (ms : List Plan) : List Plan := (good u ms).flatMap fun a => (bad u ms).map fun b => cross u a b
def wide (u : Plan × Plan) (ms : List Plan) : List Plan := (ms.filter fun m => keep u m) ++ crossed u ms
def In (W : List Str) (p : Plan) : Prop := ∀ x ∈ p, x.1 ∈ W
theorem put_in {W : List Str} {p : Plan} (h : In W p) (k : Int) : In W (putP p k) := fun x hx => by
  obtain ⟨y, hy, rfl⟩ := put_mem hx
  exact h y hy
def step (m : Nat) : Nat := (m + 1) * (m + 1) / 4
end Mk

namespace Mk
open PySem L2 Fx
open Pg (maxO joinP joinP_asc joinP_get Plan Asc get get_mem mem_get asc_ext putP putP_get putP_asc putP_zero putP_putP slt_conn slt_irrefl slt_ne get_none get_cons)
def plain (n : Str) (s : Plan) : Plan × Plan := ([(n, 0)], s)
theorem val_one (n : Str) (r : Plan) : val [(n, 0)] r = get r n := by
  show maxO ((get r n).map (· + 0)) none = _
  cases get r n with
  | none => rfl
  | some a => show some (a + 0) = some a; rw [Int.add_zero]
theorem val_wide {s t r : Plan} (hs : Asc s) (h : Le s t) {a : Int} (e : val s r = some a) : ∃ b, val t r = some b ∧ a ≤ b := by
  obtain ⟨x, hx, k, ek, rfl⟩ := val_hit e
  obtain ⟨y, ey, ly⟩ := h x.1 x.2 (mem_get hs.nodup hx)
  obtain ⟨b, eb, lb⟩ := val_ge (get_mem ey) ek
  exact ⟨b, eb, by have lb : k + y ≤ b := lb; omega⟩
theorem keep_plain {n : Str} {s r : Plan} : keep (plain n s) r = true ↔ ∀ v, get r n = some v → ∃ b, val s r = some b ∧ v ≤ b := by
  rw [keep_iff]
  show (∀ a, val [(n, 0)] r = some a → _) ↔ _
  rw [val_one]
  exact Iff.rfl
theorem keep_wide {n : Str} {s t r : Plan} (hs : Asc s) (h : Le s t) (k : keep (plain n s) r = true) : keep (plain n t) r = true := keep_plain.mpr fun v e => by
  obtain ⟨b, eb, lb⟩ := keep_plain.mp k v e
  obtain ⟨c, ec, lc⟩ := val_wide hs h eb
  exact ⟨c, ec, by omega⟩
/-- all of some plans keep the plain rule -/
def Fit (ms : List Plan) (n : Str) (s : Plan) : Prop := ∀ m ∈ ms, keep (plain n s) m = true
theorem Fit.wide {ms : List Plan} {n : Str} {s t : Plan} (hs : Asc s) (h : Le s t) (f : Fit ms n s) : Fit ms n t := fun m hm => keep_wide hs h (f m hm)
/-- a side in whose list a thing has another wait -/
def setS (s : Plan) (o : Str) (w : Int) : Plan := joinP [s.filter fun x => decide (x.1 ≠ o), [(o, w)]]
def raised (s m : Plan) (n : Str) : List Plan := (m.filter fun x => decide (x.1 ≠ n)).map fun x => setS s x.1 ((get m n).getD 0 - x.2)
/-- the sides that do for some plans, none of which another one is under -/
structure Sides (ms : List Plan) (n : Str) (ss : List Plan) : Prop where
  asc : ∀ s ∈ ss, Asc s
  no : ∀ s ∈ ss, get s n = none
  fit : ∀ s ∈ ss, Fit ms n s
  all : ∀ t, Asc t → get t n = none → Fit ms n t → ∃ s ∈ ss, Le s t
  apart : ∀ s ∈ ss, ∀ t ∈ ss, Le s t → s = t
  up : Up ss
def more (ss : List Plan) (m : Plan) (n : Str) : List Plan := (ss.filter fun s => keep (plain n s) m) ++ ((ss.filter fun s => !keep (plain n s) m).flatMap fun s => raised s m n)
end Mk

namespace Mk
open PySem L2 Fx
open Pg (Plan Asc get get_mem mem_get asc_ext putP putP_get putP_asc putP_zero putP_putP maxO maxO_none joinP joinP_asc joinP_get lastP nodup_len get_cons get_none)
def oLe : Option Int → Option Int → Prop
  | none, _ => True
  | some _, none => False
  | some a, some b => a ≤ b
/-- the plans of some things that keep some rules -/
def Sr (W : List Str) (us : List (Plan × Plan)) (p : Plan) : Prop := In W p ∧ ∀ u ∈ us, keep u p = true
theorem Sr.put {W : List Str} {us : List (Plan × Plan)} {p : Plan} (h : Sr W us p) (k : Int) : Sr W us (putP p k) := ⟨put_in h.1 k, fun u hu => keep_put (h.2 u hu)⟩
structure Fib (W : List Str) (us : List (Plan × Plan)) (i c : Str) (t : Int) (y : Plan) : Prop where
  asc : Asc y
  s : Sr W us y
  root : get y i = some 0
  at' : get y c = some t
  min : ∀ q, Asc q → Sr W us q → Le q y → get q i = some 0 → q = y
section
variable {W : List Str} {us : List (Plan × Plan)} {i c k l : Str} {t : Int} (hW : ∀ n ∈ W, n = i ∨ n = c ∨ n = k ∨ n = l)
include hW
variable (ki : k ≠ i) (kc : k ≠ c) (kl : k ≠ l)
include ki kc kl
end
structure Code (W : List Str) (us : List (Plan × Plan)) (u : Plan × Plan) (i c : Str) (m : Plan) : Prop where
  ne : i ≠ c
  ex : ∃ v w z, get u.1 i = some w ∧ get u.2 c = some z ∧ get m i = some v ∧ get m c = some (v + w - z) ∧ ∀ q, Asc q → Sr W us q → Le q m → get q i = some v → q = m
def effA (W : List Str) (u : Plan × Plan) : List Str := W.filter fun n => match get u.1 n with
  | some w => (match get u.2 n with | some z => decide (z < w) | none => true)
  | none => false
def effB (W : List Str) (u : Plan × Plan) : List Str := W.filter fun n => match get u.2 n with
  | some z => (match get u.1 n with | some w => decide (w ≤ z) | none => true)
  | none => false
def codes (W : List Str) (us : List (Plan × Plan)) : List ((Plan × Plan) × Str × Str) := us.flatMap fun u => (effA W u).flatMap fun i => (effB W u).map fun c => (u, i, c)
theorem Ext.imp {S T : Plan → Prop} (h : ∀ p, Asc p → (S p ↔ T p)) {m : Plan} (e : Ext S m) : Ext T m := by
  obtain ⟨a, b, c, d, n, v, en, mn⟩ := e
  exact ⟨a, b, c, (h m a).mp d, n, v, en, fun q qa qs => mn q qa ((h q qa).mpr qs)⟩
end Mk

namespace Mk
open PySem L2 Fx
open Pg (maxO joinP joinP_asc joinP_get Plan Asc get get_mem mem_get asc_ext putP slt_conn slt_irrefl slt_ne get_none get_cons nodup_len)
/-- each wait is the least one of some maker -/
def Waits (ms : List Plan) (n : Str) (s : Plan) : Prop := ∀ x ∈ s, ∃ m ∈ ms, ∃ u v, get m x.1 = some u ∧ get m n = some v ∧ x.2 = v - u
theorem Waits.more {ms ns : List Plan} {n : Str} {s : Plan} (h : Waits ms n s) (hs : ∀ m ∈ ms, m ∈ ns) : Waits ns n s := fun x hx => by
  obtain ⟨m, hm, r⟩ := h x hx
  exact ⟨m, hs m hm, r⟩
end Mk

namespace Mk
open PySem L2 Fx
open Pg (Plan Asc get get_mem mem_get asc_ext putP putP_get putP_asc putP_zero putP_putP maxO maxO_none joinP joinP_asc joinP_get)
end Mk

namespace Mk
open PySem L2 Fx
open Pg (Plan Asc get get_mem mem_get asc_ext putP putP_get putP_asc putP_zero putP_putP maxO maxO_none joinP joinP_asc joinP_get)
def offs (m F : Plan) : List Int := (F.filter fun x => (get m x.1).isSome).map fun x => x.2 - (get m x.1).getD 0
def mostO (m F : Plan) : Option Int := if offs m F = [] then none else some (minI (offs m F))
def putMost (ms : List Plan) (F : Plan) : List Plan := (ms.filter fun m => (mostO m F).isSome).map fun m => putP m ((mostO m F).getD 0)
def thoseAt (ps : List Plan) (n : Str) (t : Int) : List Plan := ps.filter fun q => decide (get q n = some t)
/-- one of some plans in which a thing comes first, or not at all -/
structure Early (ps : List Plan) (w : Str) (e : Plan) : Prop where
  mem : e ∈ ps
  low : ∀ u, get e w = some u → ∀ q ∈ ps, ∃ v, get q w = some v ∧ u ≤ v
section
variable {ms : List Plan} {F : Plan} {w : Str} {E : Str × Int → Plan} (ha : ∀ m ∈ ms, Asc m) (hE : ∀ x ∈ F, Early (thoseAt (putMost ms F) x.1 x.2) w (E x))
include ha hE
end
end Mk

namespace Mk
open PySem L2 Fx
open Pg (maxO joinP joinP_asc joinP_get Plan Asc get get_mem mem_get asc_ext putP nodup_len slt_conn slt_irrefl slt_ne get_none get_cons)
/-- each wait of a side is a difference within a maker -/
def Told (ms : List Plan) (n : Str) (ss : List Plan) : Prop := ∀ s ∈ ss, Asc s ∧ ∀ o w, get s o = some w → o ≠ n ∧ ∃ m ∈ ms, ∃ v u, get m n = some v ∧ get m o = some u ∧ w = v - u
theorem Told.mono {ms ns : List Plan} {n : Str} {ss : List Plan} (h : Told ms n ss) (hs : ∀ m ∈ ms, m ∈ ns) : Told ns n ss := fun s hs' => ⟨(h s hs').1, fun o w e => by
  obtain ⟨a, m, hm, r⟩ := (h s hs').2 o w e
  exact ⟨a, m, hs m hm, r⟩⟩
end Mk

namespace Mk
open PySem L2 Fx
open Pg (Plan Asc get get_mem mem_get asc_ext putP putP_get putP_asc maxO joinP joinP_asc joinP_get)
/-- a plan has each of these things, no earlier than told -/
def Meets (f p : Plan) : Prop := ∀ x ∈ f, ∃ k, get p x.1 = some k ∧ x.2 ≤ k
theorem Meets.up {f p q : Plan} (h : Meets f p) (l : Le p q) : Meets f q := fun x hx => by
  obtain ⟨k, e, h1⟩ := h x hx
  obtain ⟨j, e', h2⟩ := l _ _ e
  exact ⟨j, e', by omega⟩
/-- all least plans above floors -/
structure Abv (ms : List Plan) (f : Plan) (s : List Plan) : Prop where
  asc : ∀ p ∈ s, Asc p
  made : ∀ p ∈ s, Made ms p
  meets : ∀ p ∈ s, Meets f p
  least : ∀ q, Made ms q → Meets f q → ∃ p ∈ s, Le p q
  apart : ∀ p ∈ s, ∀ q ∈ s, Le p q → p = q
  up : Up s
section
variable {ms : List Plan} {g : Plan} {s : List Plan} {x : Str × Int} (ha : ∀ m ∈ ms, Asc m) (h : Abv ms g s)
include ha h
end
end Mk

namespace Mk
open PySem L2 Fx
open Pg (maxO joinP joinP_asc joinP_get Plan Asc get get_mem mem_get asc_ext putP nodup_len slt_conn slt_irrefl slt_ne get_none get_cons)
abbrev O3 := Option Int × Option Int × Option Int
/-- a wait holds a limit (none: no wait does) -/
def hB : Option Int → Option Int → Prop
  | some w, some l => l ≤ w
  | _, _ => False
/-- this maker is held by the second wait alone, just so -/
def YDef (m s : O3) : Prop := (∃ w, s.2.1 = some w ∧ m.2.1 = some w) ∧ ¬ hB s.1 m.1 ∧ ¬ hB s.2.2 m.2.2
def ZDef (m s : O3) : Prop := (∃ w, s.2.2 = some w ∧ m.2.2 = some w) ∧ ¬ hB s.1 m.1 ∧ ¬ hB s.2.1 m.2.1
def fl (s : O3) : O3 := (s.1, s.2.2, s.2.1)
structure Stair (ms ss : List O3) : Prop where
  fit : ∀ s ∈ ss, ∀ m ∈ ms, hB s.1 m.1 ∨ hB s.2.1 m.2.1 ∨ hB s.2.2 m.2.2
  apart : ∀ s ∈ ss, ∀ t ∈ ss, oLe s.1 t.1 → oLe s.2.1 t.2.1 → oLe s.2.2 t.2.2 → s = t
  y : ∀ s ∈ ss, ∀ w, s.2.1 = some w → ∃ m ∈ ms, YDef m s
  z : ∀ s ∈ ss, ∀ w, s.2.2 = some w → ∃ m ∈ ms, ZDef m s
/-- the least wait of a thing by which a maker keeps the rule -/
def lim (m : Plan) (n i : Str) : Option Int := match get m n, get m i with
  | some v, some u => some (v - u)
  | _, _ => none
end Mk

namespace Mk
open PySem L2 Fx
open Pg (maxO joinP joinP_asc joinP_get Plan Asc get get_mem mem_get asc_ext putP putP_get putP_asc putP_zero putP_putP nodup_len slt_conn slt_irrefl slt_ne get_none get_cons)
end Mk

namespace Pg
open PySem L2 Fx Fq
theorem two_of {xs : List PyData} (h : (decide ((xs.length : Int) = (2 : Int))) = true) : ∃ a b, xs = [a, b] := by
  have h := of_decide_eq_true h
  have h : xs.length = 2 := by omega
  match xs, h with
  | [a, b], _ => exact ⟨a, b, rfl⟩
theorem at0 {a b : PyData} : atI [a, b] (0 : Int) = some a := rfl
theorem at1 {a b : PyData} : atI [a, b] (1 : Int) = some b := rfl
theorem is_nameA_z {x : PyData} (h : cln x = true) : z_is_nameA x := ⟨⟨cln_isE h, fun _ => ⟨cln_str h, fun _ => cln_str h⟩⟩, fun _ => ⟨cln_str h, fun y hy => chars_sgn hy⟩⟩
theorem is_numberA_z {x : PyData} (h : cln x = true) : z_is_numberA x := ⟨cln_isE h, fun _ => cln_isE h⟩
theorem is_pairA_z {x : PyData} (h : cln x = true) : z_is_pairA x := ⟨cln_isE h, fun _ h2 => by
  obtain ⟨a, b, e⟩ := two_of h2
  have c := cln_tup h
  rw [e] at c ⊢
  rw [at0, at1]
  exact ⟨⟨rfl, is_nameA_z (c a (by simp))⟩, fun _ => ⟨rfl, is_numberA_z (c b (by simp))⟩⟩⟩
theorem are_pairsA_z {x : PyData} (h : cln x = true) : z_are_pairsA x := ⟨cln_isE h, fun _ y hy => is_pairA_z (cln_tup h y hy)⟩
theorem is_name_iff (n : Str) : p_is_name n = true ↔ OkName n := by rw [is_name_eq, okName_iff]
theorem zip_asc : ∀ p : Plan, (∀ x ∈ p.zip (p.drop 1), slt x.1.1 x.2.1 = true) → Asc p
  | [], _ => List.Pairwise.nil
  | [y], _ => List.pairwise_singleton ..
  | y :: z :: r, h => by
    have ih := zip_asc (z :: r) fun x hx => h x (List.mem_cons_of_mem _ hx)
    have hd : slt y.1 z.1 = true := h (y, z) (List.mem_cons_self ..)
    refine List.pairwise_cons.mpr ⟨fun w hw => ?_, ih⟩
    rcases List.mem_cons.mp hw with rfl | hw
    · exact hd
    · exact slt_trans hd (ih.head w hw)
theorem plN_of {p : Plan} (h : p_are_pairs p = true) : PlN p := by
  unfold p_are_pairs at h
  split at h
  · cases h
  · rename_i c
    have c := Bool.eq_false_iff.mpr c
    have c := not_ofF (or_r c)
    rw [List.all_map, List.all_eq_true] at c h
    refine ⟨fun x hx => ?_, zip_asc p fun x hx => ?_⟩
    · have := c x hx
      have this : p_is_pair x = true := this
      unfold p_is_pair at this
      exact (is_name_iff _).mp (and_l (and_r (and_r this)))
    · rw [cut_tail] at h
      exact h x hx
theorem tup_pl (p : Plan) : tupOf (ePl p) = p.map ePr := rfl
theorem plOf_pl (p : Plan) : plOf (ePl p) = p := by
  unfold plOf
  rw [tup_pl, List.map_map]
  exact List.map_id p
theorem are_pairsA_pl (p : Plan) : p_are_pairsA (ePl p) = p_are_pairs p := by
  unfold p_are_pairsA p_are_pairs
  have e : (tupOf (ePl p)).map prOf = p := plOf_pl p
  have e2 : ((tupOf (ePl p)).map fun (x2 : PyData) => p_is_pairA x2) = p.map fun (x2 : Str × Int) => p_is_pair x2 := by
    rw [tup_pl, List.map_map]; rfl
  rw [e, e2]
  rfl
theorem plan_of {x : PyData} (h : p_are_pairsA x = true) : x = ePl (plOf x) ∧ PlN (plOf x) := by
  have e : x = ePl (plOf x) := cA_are_pairs h
  refine ⟨e, plN_of ?_⟩
  rw [e, are_pairsA_pl] at h
  exact h
theorem are_pairsA_ok {p : Plan} (h : PlN p) : p_are_pairsA (ePl p) = true := (are_pairsA_pl p).trans (are_pairs_ok h)
theorem cln_pr {x : Str × Int} (h : OkName x.1) : cln (ePr x) = true := by
  show (cln (.str x.1) && (cln (.int x.2) && true)) = true
  have : decide (x.1.length ≤ sizeLine) = true := decide_eq_true (Nat.le_trans h.hi (by decide))
  show (decide (x.1.length ≤ sizeLine) && (true && true)) = true
  rw [this]; rfl
theorem cln_pl {p : Plan} (h : PlN p) : cln (ePl p) = true := clnA_of fun x hx => by
  obtain ⟨y, hy, rfl⟩ := List.mem_map.mp hx
  exact cln_pr (h.nm y hy)
theorem cln_two {x y : PyData} (h1 : cln x = true) (h2 : cln y = true) : cln (.tuple [x, y]) = true := by
  show (cln x && (cln y && true)) = true
  rw [h1, h2]; rfl
theorem cln_tupA {xs : List PyData} (h : ∀ x ∈ xs, cln x = true) : cln (.tuple xs) = true := clnA_of h
theorem cln_lstA {xs : List PyData} (h : ∀ x ∈ xs, cln x = true) : cln (.list xs) = true := clnA_of h
theorem cln_name {s : Str} (h : OkName s) : cln (.str s) = true := decide_eq_true (Nat.le_trans h.hi (by decide))
theorem row_turn (y : PyData) : rowF () y = if p_is_pairA y = true then .nx () else .ret false := by
  have nt : isD "tuple" y = false → rowF () y = if p_is_pairA y = true then .nx () else .ret false := fun h => by
    unfold rowF p_is_pairA
    rw [h]; rfl
  cases y with
  | tuple xs =>
    by_cases hl : xs.length = 2
    · match xs, hl with
      | [a, b], _ =>
        have e1 : p_is_pairA (.tuple [a, b]) = (p_is_nameA a && p_is_numberA b) := rfl
        have e2 : rowF () (.tuple [a, b]) = ((if ((!(isD "str" a)) || (!((decide ((1 : Int) ≤ ((strOf a).length : Int))) && (decide (((strOf a).length : Int) ≤ (6 : Int)))))) = true then (Bl.ret false) else (if (decide ((((chars (strOf a)).filter fun (x11 : Str) => (!hasS ("abcdefghijklmnopqrstuvwxyz" : Str) x11)).map fun (x11 : Str) => x11) ≠ [])) = true then (Bl.ret false) else (if ((!(isD "int" b)) || (isD "bool" b)) = true then (Bl.ret false) else (Bl.nx ())))) : Bl Bool Unit) := rfl
        rw [e1, e2]
        have en : p_is_nameA a = (isD "str" a && ((decide ((1 : Int) ≤ ((strOf a).length : Int))) && (decide (((strOf a).length : Int) ≤ (6 : Int))) && (decide ((((chars (strOf a)).filter fun (x11 : Str) => (!hasS ("abcdefghijklmnopqrstuvwxyz" : Str) x11)).map fun (x11 : Str) => x11) = [])))) := by
          unfold p_is_nameA
          have e3 : (((chars (strOf a)).map fun (x5 : Str) => (hasS ("abcdefghijklmnopqrstuvwxyz" : Str) x5)).all id) = decide ((((chars (strOf a)).filter fun (x11 : Str) => (!hasS ("abcdefghijklmnopqrstuvwxyz" : Str) x11)).map fun (x11 : Str) => x11) = []) := by
            rw [Bool.eq_iff_iff, decide_eq_true_iff, List.map_eq_nil_iff, List.filter_eq_nil_iff, List.all_map, List.all_eq_true]
            refine forall_congr' fun x => forall_congr' fun _ => ?_
            show hasS _ x = true ↔ _
            rw [Bool.not_eq_true', Bool.not_eq_false]
          rw [e3]
          have d1 : decide (((strOf a).length : Int) < (1 : Int)) = !(decide ((1 : Int) ≤ ((strOf a).length : Int))) := by
            rw [← decide_not]; exact decide_eq_decide.mpr (by omega)
          have d2 : decide ((6 : Int) < ((strOf a).length : Int)) = !(decide (((strOf a).length : Int) ≤ (6 : Int))) := by
            rw [← decide_not]; exact decide_eq_decide.mpr (by omega)
          rw [d1, d2]
          cases isD "str" a <;> cases decide ((1 : Int) ≤ ((strOf a).length : Int)) <;> cases decide (((strOf a).length : Int) ≤ (6 : Int)) <;> rfl
        rw [en]
        have d3 : decide ((((chars (strOf a)).filter fun (x11 : Str) => (!hasS ("abcdefghijklmnopqrstuvwxyz" : Str) x11)).map fun (x11 : Str) => x11) ≠ []) = !(decide ((((chars (strOf a)).filter fun (x11 : Str) => (!hasS ("abcdefghijklmnopqrstuvwxyz" : Str) x11)).map fun (x11 : Str) => x11) = [])) := decide_not
        rw [d3]
        unfold p_is_numberA
        cases isD "str" a <;> cases decide ((1 : Int) ≤ ((strOf a).length : Int)) <;> cases decide (((strOf a).length : Int) ≤ (6 : Int)) <;> cases decide ((((chars (strOf a)).filter fun (x11 : Str) => (!hasS ("abcdefghijklmnopqrstuvwxyz" : Str) x11)).map fun (x11 : Str) => x11) = []) <;> cases isD "int" b <;> cases isD "bool" b <;> rfl
    · have d : decide ((xs.length : Int) = (2 : Int)) = false := decide_eq_false (by omega)
      have d2 : decide ((xs.length : Int) ≠ (2 : Int)) = true := decide_eq_true (by omega)
      have e1 : p_is_pairA (.tuple xs) = (decide ((xs.length : Int) = (2 : Int)) && ((p_is_nameA ((atI xs (0 : Int)).getD PyData.none)) && (p_is_numberA ((atI xs (1 : Int)).getD PyData.none)))) := rfl
      rw [e1, d]
      unfold rowF
      show (if ((false || ((decide ((xs.length : Int) ≠ (2 : Int))) || _)) = true) then _ else _) = _
      rw [d2]; rfl
  | dict ks => exact nt (isD_dict "tuple" (ks := ks))
  | _ => exact nt rfl
theorem row_loop : ∀ xs : List PyData, loopB rowF xs () = if (xs.map p_is_pairA).all id = true then .nx () else .ret false
  | [] => rfl
  | y :: r => by
    unfold loopB
    rw [row_turn]
    rw [List.map_cons, List.all_cons]
    cases h : p_is_pairA y with
    | true =>
      show loopB rowF r () = _
      rw [row_loop r]; rfl
    | false => rfl
theorem names_asc (p : Plan) : (p.map fun (x : Str × Int) => x.1) = srt slt (nubF (p.map fun (x : Str × Int) => x.1)) ↔ Asc p := by
  constructor
  · intro h
    have q := srt_asc (nubF_nodup (p.map fun (x : Str × Int) => x.1))
    rw [← h, List.pairwise_map] at q
    exact q
  · intro h
    have pw : (p.map fun (x : Str × Int) => x.1).Pairwise fun a b => slt a b = true := List.pairwise_map.mpr h
    have nd : (p.map fun (x : Str × Int) => x.1).Nodup := pw.imp fun {a b} h => slt_ne h
    rw [nubF_id nd, srt_id pw]
theorem row_same (x : PyData) : p__law_is_rowA x = p_are_pairsA x := by
  have e : p__law_is_rowA x = (if (!(isD "tuple" x)) = true then false else (blV (fun (b31 : Bool) => b31) (fun (y21 : Unit) => (decide (((plOf x).map fun (x25 : (Str × Int)) => x25.1) = (srt slt (nubF ((plOf x).map fun (x28 : (Str × Int)) => x28.1)))))) (loopB rowF (tupOf x) ()))) := rfl
  rw [e, row_loop]
  unfold p_are_pairsA
  cases isD "tuple" x with
  | false => rfl
  | true =>
    show blV _ _ _ = _
    cases h : ((tupOf x).map p_is_pairA).all id with
    | false =>
      rfl
    | true =>
      show decide (((plOf x).map fun (x25 : (Str × Int)) => x25.1) = (srt slt (nubF ((plOf x).map fun (x28 : (Str × Int)) => x28.1)))) = (((plOf x).zip (cut (plOf x) (some (1 : Int)) none)).map fun (x7 : ((Str × Int) × (Str × Int))) => (slt x7.1.1 x7.2.1)).all id
      rw [Bool.eq_iff_iff, decide_eq_true_iff, names_asc, cut_tail, List.all_map, List.all_eq_true]
      constructor
      · intro ha
        have : ∀ p : Plan, Asc p → ∀ x ∈ p.zip (p.drop 1), slt x.1.1 x.2.1 = true := by
          intro p
          induction p with
          | nil => intro _ x hx; cases hx
          | cons y p ih =>
            intro ha x hx
            cases p with
            | nil => cases hx
            | cons z p =>
              have hx : x ∈ (y, z) :: (z :: p).zip p := hx
              rcases List.mem_cons.mp hx with rfl | hx
              · exact ha.head z (List.mem_cons_self ..)
              · exact ih ha.tail x hx
        exact fun w hw => this _ ha w hw
      · exact fun h => zip_asc _ h
theorem zLoopA {α β σ : Type} {z : σ → α → Prop} {f : σ → α → Bl β σ} : ∀ (xs : List α) (s : σ), (∀ s x, x ∈ xs → z s x) → zLoop z f xs s
  | [], _, _ => trivial
  | x :: xs, s, h => by
    unfold zLoop
    refine ⟨h s x (List.mem_cons_self ..), ?_⟩
    cases f s x with
    | ret b => trivial
    | nx s' => exact zLoopA xs s' fun s y hy => h s y (List.mem_cons_of_mem _ hy)
theorem row_z {x : PyData} (h : cln x = true) (hl : (tupOf x).length < 4000) : z__law_is_rowA x := by
  refine ⟨cln_isE h, fun hc2 => ⟨zLoopA _ _ fun _ y hy => ?_, fun y21 he => ?_⟩⟩
  · have hy := cln_tup h y hy
    have two : ∀ {P : Prop}, (decide (((tupOf y).length : Int) ≠ (2 : Int))) = false → (∀ a b, tupOf y = [a, b] → P) → P := fun {P} c k => by
      have c := of_decide_eq_false c
      have c : decide (((tupOf y).length : Int) = (2 : Int)) = true := decide_eq_true (Classical.not_not.mp c)
      obtain ⟨a, b, e⟩ := two_of c
      exact k a b e
    refine ⟨⟨cln_isE hy, fun _ c2 => two c2 fun a b e => ?_⟩, fun hc10 => ⟨?_, fun _ => ?_⟩⟩
    · have c := cln_tup hy
      rw [e] at c ⊢
      rw [at0]
      exact ⟨⟨rfl, cln_isE (c a (by simp))⟩, fun _ => ⟨rfl, cln_str (c a (by simp))⟩⟩
    · refine two (or_l (or_r hc10)) fun a b e => ?_
      have c := cln_tup hy
      rw [e] at c ⊢
      rw [at0]
      exact ⟨⟨rfl, cln_str (c a (by simp))⟩, fun x hx => chars_sgn hx⟩
    · refine two (or_l (or_r hc10)) fun a b e => ?_
      have c := cln_tup hy
      rw [e] at c ⊢
      rw [at1]
      exact ⟨⟨rfl, cln_isE (c b (by simp))⟩, fun _ => ⟨rfl, cln_isE (c b (by simp))⟩⟩
  · unfold plOf
    rw [List.length_map, List.length_map]
    exact hl
theorem seq_nx {f h : EFs} {ρ ρ' : List SD} {g g' : Gs} (q : f ρ g = .ok (.nx ρ') g') : fSeq f h ρ g = h ρ' g' := by
  unfold fSeq
  rw [q]; rfl
theorem seq_ex {f h : EFs} {ρ ρ' : List SD} {g g' : Gs} {x : PyData} (q : f ρ g = .ok (.ex x ρ') g') : fSeq f h ρ g = .ok (.ex x ρ') g' := by
  unfold fSeq
  rw [q]; rfl
theorem drop_ex {fe : EF} {ρ : List SD} {g g' : Gs} {x : PyData} (q : fe ρ g = .exc x g') : fDrop fe ρ g = .ok (.ex x ρ) g' := by
  unfold fDrop
  rw [q]; rfl
theorem drop_ok {fe : EF} {ρ : List SD} {g g' : Gs} {r : RV} (q : fe ρ g = .ok r g') : fDrop fe ρ g = .ok (.nx ρ) g' := by
  unfold fDrop
  rw [q]; rfl
theorem if_ex {ft : EFt} {ρ : List SD} {g : Gs} {nm : Str} (t : ft ρ g = .ok true g) : fIfS ft (fRaise nm) fNext ρ g = .ok (.ex (objD nm []) ρ) g := by
  unfold fIfS
  rw [stx_ok t]; rfl
theorem if_nx {ft : EFt} {ρ : List SD} {g : Gs} {nm : Str} (t : ft ρ g = .ok false g) : fIfS ft (fRaise nm) fNext ρ g = .ok (.nx ρ) g := by
  unfold fIfS
  rw [stx_ok t]; rfl
theorem fn_ex {np n : Nat} {b : EFs} {as : List AV} {g : Gs} {x : PyData} {ρ' : List SD} (hl : as.length = np) (h : b (slots n as) g = .ok (.ex x ρ') g) : fnR np n b as g = .exc x g := by
  unfold fnR
  rw [if_pos hl, h]; rfl
theorem call_ex {F : FnSp} {fa : EFa} {as : List AV} {ρ : List SD} {g : Gs} {nm : Str} {fs : List (Str × PyData)} (ha : fa ρ g = .ok as g) (hz : Rz (F as) (some (nm, fs))) : fCall F fa ρ g = .exc (objD nm fs) g := by
  unfold fCall
  rw [ha]
  exact hz g
theorem call_ok {F : FnSp} {fa : EFa} {as : List AV} {ρ : List SD} {g : Gs} (ha : fa ρ g = .ok as g) (hz : Rz (F as) none) : ∃ r, fCall F fa ρ g = .ok r g := by
  unfold fCall
  rw [ha]
  exact hz g
theorem rz_need_plan {x : PyData} (h : cln x = true) : Rz (F_need_plan [.d x]) (if p_are_pairsA x = true then none else some ("BadPlan", [])) := fun g => by
  have t : (fNot (fTest (fCall F_are_pairs (aCons (fVar 0) aNil)))) (slots 1 [.d x]) g = .ok (!(p_are_pairsA x)) g := v_not (v_test (v_call (va_d (v_var (x := eA x) rfl) va_nil) (e_are_pairsA x (are_pairsA_z h) _)))
  cases c : p_are_pairsA x with
  | true =>
    rw [c] at t
    rw [if_pos rfl]
    exact ⟨.d .none, fn_nx rfl (if_nx t)⟩
  | false =>
    rw [c] at t
    rw [if_neg (by decide)]
    exact fn_ex rfl (if_ex t)
end Pg

namespace Pg
open PySem L2 Fx Fq
instance (i : Int) : Decidable (BigI i) := inferInstanceAs (Decidable (_ ∧ _))
theorem if_exA {ft : EFt} {fe : EF} {ρ : List SD} {g : Gs} {nm f : Str} {x : PyData} (t : ft ρ g = .ok true g) (q : fDat fe ρ g = .ok x g) : fIfS ft (fRaiseA nm f fe) fNext ρ g = .ok (.ex (objD nm [(f, x)]) ρ) g := by
  unfold fIfS
  rw [stx_ok t]
  show fRaiseA nm f fe ρ g = _
  unfold fRaiseA
  rw [stx_ok q]
theorem rz_m1 {x y : PyData} (hx : cln x = true) (c : p_are_pairsA x = false) : Rz (F_moment_of [.d x, .d y]) (some ("BadPlan", [])) := fun g => by
  have ha : (aCons (fVar 0) aNil : EFa) (slots 2 [.d x, .d y]) g = .ok [.d x] g := va_d (v_var (x := eA x) rfl) va_nil
  have q := rz_need_plan hx
  rw [c, if_neg (by decide)] at q
  exact fn_ex rfl (seq_ex (drop_ex (call_ex ha q)))
theorem rz_m2 {x y : PyData} (hx : cln x = true) (c : p_are_pairsA x = true) (hy : cln y = true) (cy : p_is_nameA y = false) : Rz (F_moment_of [.d x, .d y]) (some ("BadThing", [("thing", y)])) := fun g => by
  have ha : (aCons (fVar 0) aNil : EFa) (slots 2 [.d x, .d y]) g = .ok [.d x] g := va_d (v_var (x := eA x) rfl) va_nil
  have q := rz_need_plan hx
  rw [c, if_pos rfl] at q
  obtain ⟨r, e⟩ := call_ok ha q
  have t : (fNot (fTest (fCall F_is_name (aCons (fVar 1) aNil)))) (slots 2 [.d x, .d y]) g = .ok (!(p_is_nameA y)) g := v_not (v_test (v_call (va_d (v_var (x := eA y) rfl) va_nil) (e_is_nameA y (is_nameA_z hy) _)))
  rw [cy] at t
  exact fn_ex rfl ((seq_nx (drop_ok e)).trans (seq_ex (if_exA t (dd (v_var (x := eA y) rfl)))))
/-- what may be handed: clean, not long, its numbers not far -/
structure A2 (x : PyData) : Prop where
  c : cln x = true
  l : (tupOf x).length < 4000
  b : ∀ e ∈ plOf x, BigI e.2
theorem a2_tup {xs : List PyData} (h : ∀ y ∈ xs, cln y = true ∧ BigI (prOf y).2) (l : xs.length < 4000) : A2 (.tuple xs) := ⟨cln_tupA fun y hy => (h y hy).1, l, fun e he => by
  have he : e ∈ xs.map prOf := he
  obtain ⟨y, hy, rfl⟩ := List.mem_map.mp he
  exact (h y hy).2⟩
theorem it_ok {x : Str × Int} (h : OkName x.1) (b : BigI x.2) : cln (ePr x) = true ∧ BigI (prOf (ePr x)).2 := ⟨cln_pr h, b⟩
theorem a2_pl {p : Plan} (h : ∀ x ∈ p, OkName x.1) (b : ∀ x ∈ p, BigI x.2) (l : p.length < 4000) : A2 (ePl p) := a2_tup (xs := p.map ePr) (fun y hy => by
  obtain ⟨x, hx, rfl⟩ := List.mem_map.mp hy
  exact it_ok (h x hx) (b x hx)) (by rw [List.length_map]; exact l)
theorem a2_lst {p : Plan} (h : ∀ x ∈ p, OkName x.1) : A2 (eL ePr p) := ⟨cln_lstA fun y hy => by
  obtain ⟨x, hx, rfl⟩ := List.mem_map.mp hy
  exact cln_pr (h x hx), by show (0 : Nat) < 4000; omega, fun e he => by
  have he : e ∈ ([] : List (Str × Int)) := he
  cases he⟩
theorem odd_s {d : Addr} {n : Nat} {g : Gs} (h : GD d n g) (hn : 1 ≤ n) {P : PyData → Gs → Prop} {X : PyData → Gs → Prop} (p : ∀ x g', A2 x → GD d (n - 1) g' → P x g') : (m__law_odd d g).wp P X := by
  unfold m__law_odd
  dsimp only [letv]
  refine R.wp_asrt (by simp only [List.length_cons, List.length_nil, List.length_append]; exact Nat.le_of_ble_eq_true (by decide)) (R.wp_asrt (by simp only [List.length_cons, List.length_nil, List.length_append]; exact Nat.le_of_ble_eq_true (by decide)) (pick_s (fun a b h => h) h hn (by simp) (by simp) fun x g' hx h' => p x g' ?_ h'))
  simp only [List.cons_append, List.nil_append, List.mem_cons, List.not_mem_nil, or_false] at hx
  rcases hx with rfl | rfl | rfl | rfl | rfl | rfl | rfl | rfl | rfl | rfl | rfl | rfl | rfl | rfl | rfl | rfl | rfl | rfl | rfl | rfl | rfl | rfl | rfl | rfl | rfl | rfl | rfl | rfl | rfl <;> exact ⟨by decide +kernel, by decide +kernel, by decide +kernel⟩
theorem big_bd {i : Int} (h : -(2 * 10 ^ 9) ≤ i ∧ i ≤ 2 * 10 ^ 9) : BigI i := by
  unfold BigI
  constructor <;> omega
theorem big_log {i : Int} (h : BigI i) : i.natAbs.log2 < 1920 := by
  obtain ⟨h1, h2⟩ := h
  by_cases c : i.natAbs = 0
  · rw [c]; decide
  · have : i.natAbs.log2 < 200 := (Nat.log2_lt c).mpr (by omega)
    omega
theorem cln_num {i : Int} (h : BigI i) : cln (.str (toString i : Str)) = true := by
  obtain ⟨h1, h2⟩ := h
  have e := int_text_length_le10 (a := i) (k := 40) (by decide) (by omega)
  refine decide_eq_true ?_
  show (Str.ofString (toString i)).length ≤ sizeLine
  rw [ofString_length, sizeLine_eq]
  omega
theorem cln_s {s : Str} (h : s.length ≤ 100) : cln (.str s) = true := decide_eq_true (by rw [sizeLine_eq]; omega)
theorem bent_s {d : Addr} {n : Nat} {g : Gs} {p : Plan} (h : GD d n g) (hn : 10 ≤ n) (hp : PlN p) (hl : p.length ≤ 20) (hb : ∀ x ∈ p, BigI x.2) {P : PyData → Gs → Prop} {X : PyData → Gs → Prop} (k : ∀ x g', A2 x → GD d (n - 10) g' → P x g') : (m__law_bent d p g).wp P X := by
  unfold m__law_bent
  refine R.wp_bind.mpr ?_
  show R.wp (R.bind _ _) _ _
  refine R.wp_bind.mpr (R.wp_imp (P := fun (y : Int) g1 => (p = [] ∨ 0 ≤ y ∧ y < p.length) ∧ GD d (n - 1) g1) (X := X) ?_ (fun y8 g1 ⟨hy, h1⟩ => ?_) fun _ _ z => z)
  · by_cases e : p = []
    · rw [if_neg (by rw [decide_eq_true_iff]; exact fun z => z e)]
      exact ⟨.inl e, h.le (by omega)⟩
    · rw [if_pos (decide_eq_true e)]
      have : 0 < p.length := List.length_pos_iff.mpr e
      exact draw_s h (by omega) (by omega) (by omega) fun v g1 v0 v1 h1 => ⟨.inr ⟨v0, v1⟩, h1⟩
  refine R.wp_bind.mpr (draw_s h1 (by omega) (by decide) (by decide) fun way g2 w0 w1 h2 => ?_)
  split
  · exact k _ _ (a2_lst hp.nm) (h2.le (by omega))
  split
  · exact odd_s h2 (by omega) fun x g3 a h3 => k _ _ a (h3.le (by omega))
  rename_i c1 c2
  have c2 := Bool.eq_false_iff.mpr c2
  have ne : p ≠ [] := of_decide_eq_false (or_l c2)
  split
  · exact k _ _ (a2_pl (fun x hx => hp.nm x (List.mem_reverse.mp hx)) (fun x hx => hb x (List.mem_reverse.mp hx)) (by rw [List.length_reverse]; omega)) (h2.le (by omega))
  have lc : (cut p (some y8) (some (y8 + 1))).length ≤ p.length := (cut_sub _ _ _).length_le
  split
  · have mem : ∀ x ∈ p ++ cut p (some y8) (some (y8 + 1)), x ∈ p := fun x hx => (List.mem_append.mp hx).elim id fun z => (cut_sub _ _ _).subset z
    exact R.wp_asrt (by rw [sizeLine_eq]; omega) (k _ _ (a2_pl (fun x hx => hp.nm x (mem x hx)) (fun x hx => hb x (mem x hx)) (by rw [List.length_append]; omega)) (h2.le (by omega)))
  obtain ⟨y0, y1⟩ := hy.resolve_left ne
  have hix : ixN p.length y8 = some y8.toNat := by
    unfold ixN
    rw [if_pos y0, if_pos y1]
  have hlt : y8.toNat < p.length := by omega
  have hat : atI p y8 = some p[y8.toNat] := by
    unfold atI
    rw [hix]
    exact List.getElem?_eq_getElem hlt
  have me : p[y8.toNat] ∈ p := List.getElem_mem hlt
  rw [hat, hix]
  generalize p[y8.toNat] = e at me
  have ok := hp.nm e me
  have be := hb e me
  have l6 := ok.hi
  have la : (e.1 ++ ("a" : Str)).length = e.1.length + 1 := PySem.Str.length_append _ _
  refine R.wp_asrt rfl (R.wp_asrt rfl (R.wp_bind.mpr (R.wp_asrt ⟨?_, ?_, big_log be⟩ (pick_s (fun a b h => h) h2 (by omega) (by simp) (by simp) fun y g3 hy3 h3 => k _ _ ?_ (h3.le (by omega))))))
  · show e.1.length ≤ 5000000
    omega
  · show e.1.length + 1 ≤ sizeLine
    rw [sizeLine_eq]; omega
  have yok : cln y = true ∧ BigI (prOf y).2 := by
    simp only [Option.getD_some, List.mem_cons, List.not_mem_nil, or_false] at hy3
    have nm : cln (.str e.1) = true := cln_name ok
    rcases hy3 with rfl | rfl | rfl | rfl | rfl | rfl
    · exact ⟨cln_two nm rfl, show BigI 0 by decide⟩
    · exact ⟨cln_two (cln_s (show (Txt.upper e.1).length ≤ 100 from Nat.le_trans (PyProof.Rows.len_upper e.1) (by omega))) rfl, be⟩
    · exact ⟨cln_two (cln_s (show (e.1 ++ ("a" : Str)).length ≤ 100 by rw [la]; omega)) rfl, be⟩
    · exact ⟨cln_lstA (xs := [.str e.1, .int e.2]) fun z hz => by
        simp only [List.mem_cons, List.not_mem_nil, or_false] at hz
        rcases hz with rfl | rfl
        · exact nm
        · rfl, show BigI 0 by decide⟩
    · exact ⟨cln_tupA (xs := [.str e.1, .int e.2, .int 0]) fun z hz => by
        simp only [List.mem_cons, List.not_mem_nil, or_false] at hz
        rcases hz with rfl | rfl | rfl
        · exact nm
        · rfl
        · rfl, be⟩
    · exact ⟨cln_two nm (cln_num be), show BigI 0 by decide⟩
  have em : eT eA ((p.map ePr).set y8.toNat y) = .tuple ((p.map ePr).set y8.toNat y) := congrArg PyData.tuple (List.map_id' _)
  show A2 (eT eA ((p.map ePr).set y8.toNat y))
  rw [em]
  refine a2_tup (fun z hz => ?_) (by rw [List.length_set, List.length_map]; omega)
  rcases List.mem_or_eq_of_mem_set hz with hz | rfl
  · obtain ⟨x, hx, rfl⟩ := List.mem_map.mp hz
    exact it_ok (hp.nm x hx) (hb x hx)
  · exact yok
theorem loop_find {α β : Type} (c : α → Bool) (f : α → β) : ∀ xs : List α, loopB (fun (_ : Unit) (x : α) => ((if c x = true then (Bl.ret (f x)) else (Bl.nx ())) : Bl β Unit)) xs () = match xs.find? c with
    | some x => .ret (f x)
    | none => .nx ()
  | [] => rfl
  | x :: xs => by
    unfold loopB
    cases h : c x with
    | true => rw [if_pos rfl, List.find?_cons_of_pos h]
    | false =>
      rw [if_neg Bool.false_ne_true, List.find?_cons_of_neg (by rw [h]; exact Bool.false_ne_true)]
      exact loop_find c f xs
theorem moment_in_eq (p : Plan) (n : Str) : p_moment_in p n = get p n := by
  unfold p_moment_in
  rw [loop_find (fun (x : Str × Int) => decide (x.1 = n)) (fun x => some x.2)]
  induction p with
  | nil => rfl
  | cons x p ih =>
    rw [get_cons]
    by_cases h : x.1 = n
    · rw [List.find?_cons_of_pos (by simpa using h), if_pos h]; rfl
    · rw [List.find?_cons_of_neg (by simpa using h), if_neg h, ← ih]
theorem dm_get {p : Plan} (h : Asc p) (n : Str) : dlk (dmk p) n = get p n := by rw [dmk_id h.nodup, dlk_get]
theorem shd_b2 (a b : Bool) : Shd (eL PyData.bool [a, b]) := by cases a <;> cases b <;> exact (shx_L (n := 0) (m := 0) (xs := [_, _]) fun x _ => ⟨by simp only [okS], by simp [PyData.depth], by simp only [PyData.showable], by cases x <;> decide, by simp [PyData.bulk]⟩).shd (by simp only [List.length_cons, List.length_nil]; omega) (by decide)
theorem wp_if {α : Type} {c : Bool} {A B : R α} {P : α → Gs → Prop} {X : PyData → Gs → Prop} (hc : c = false) (h : B.wp P X) : (if c = true then A else B).wp P X := by
  rw [hc, if_neg Bool.false_ne_true]; exact h
theorem ok_zz : OkName "zzzzz" := ⟨by decide, by decide, by decide +kernel⟩
abbrev E2 : List Str := ["BadPlan", "BadThing"]
theorem rp_of {x : PyData} {s : Str} (e : oReprE x = some (.d (.str s))) : oReprE x = some (.d (.str (shA x))) := by
  unfold shA
  rw [e]
theorem rp_str {s : Str} (h : (reprText s).length ≤ sizeLine) : oReprE (.str s) = some (.d (.str (shA (.str s)))) := rp_of (s := reprText s) (if_pos h)
theorem rp_lst {xs : List PyData} (h : Shd (.list xs)) : oReprE (.list xs) = some (.d (.str (shA (.list xs)))) := rp_of (q_repr h)
theorem rp_tup {xs : List PyData} (h : Shd (.tuple xs)) : oReprE (.tuple xs) = some (.d (.str (shA (.tuple xs)))) := rp_of (q_repr h)
structure Od (y : PyData) : Prop where
  c : cln y = true
  n : p_is_nameA y = false
  r : oReprE y = some (.d (.str (shA y)))
theorem law_s (ns : List Int) (d : Addr) (g : Gs) (hl : ns.length ≤ 63) (h : GD d (2 ^ 39) g) : (m_law ns d g).wp (fun b _ => b = true) NoX := by
  unfold m_law
  refine R.wp_asrt ⟨by omega, by omega⟩ (R.wp_bind.mpr (loopM_s (fun (r : List Int) (_ : Unit) g => GD d (10000 * r.length) g) (fun x rs s g i => ?_) _ () g (h.le ?_) fun s g i => ?_))
  · simp only [List.length_cons] at i
    refine R.wp_bind.mpr (R.wp_bind.mpr (R.wp_mp (draw_s i (by omega) (by decide) (by decide) fun v g1 v0 v1 h1 => words_s h1 (by omega) (by omega) (by omega) fun W g2 hW lW h2 => ?_)))
    have l20 : W.length ≤ 20 := by omega
    refine R.wp_bind.mpr (row_s h2 hW l20 (by decide) (by decide) (by omega) fun r0 g4 hr br lr h4 => ?_)
    have b0 : ∀ x ∈ r0, BigI x.2 := fun x hx => big_bd (by have := br x hx; constructor <;> omega)
    refine R.wp_bind.mpr (R.wp_imp (P := fun x g' => A2 x ∧ GD d (10000 * rs.length + 5000) g') (X := NoX) ?_ (fun it g5 ⟨ai, h5⟩ => ?_) fun _ _ z => z)
    · refine R.wp_bind.mpr (R.wp_mp (draw_s h4 (by omega) (by decide) (by decide) fun v g5 v0 v1 h5 => ?_))
      split
      · exact bent_s h5 (by omega) hr.n lr b0 fun x g6 a h6 => ⟨a, h6.le (by omega)⟩
      · exact ⟨a2_pl hr.n.nm b0 (by omega), h5.le (by omega)⟩
    have same : p_is_planA it = p__law_is_rowA it := (row_same it).symm
    have zp : z_is_planA it := are_pairsA_z ai.c
    refine R.wp_asrt (row_z ai.c ai.l) (R.wp_asrt ⟨⟨⟨zp, zp⟩, shd_b2 _ _⟩, shd_b2 _ _⟩ (wp_if (by rw [same]; exact decide_eq_false fun z => z rfl) ?_))
    refine R.wp_bind.mpr (R.wp_asrt (by rw [sizeLine_eq]; simp only [List.length_cons, List.length_nil]; omega) (pick_s (fun a b h => by injection h) h5 (by omega) (by simp) (by rw [List.length_append]; simp only [List.length_cons, List.length_nil]; omega) fun w g6 hw h6 => ?_))
    have wok : OkName w := by
      rcases List.mem_append.mp hw with hw | hw
      · exact hW.1.nm w hw
      · rw [List.mem_singleton.mp hw]; exact ok_zz
    cases c : p__law_is_rowA it with
    | true =>
      rw [if_pos rfl]
      obtain ⟨ep, np⟩ := plan_of ((row_same it).symm.trans c)
      have em : p_moment_of (plOf it) w = dlk (dmk (plOf it)) w := (moment_in_eq _ _).trans (dm_get np.asc w).symm
      have lg : ∀ i, dlk (dmk (plOf it)) w = some i → i.natAbs.log2 < 1920 := fun i e => by
        rw [dm_get np.asc] at e
        exact big_log (ai.b _ (get_mem e))
      have zm : z_moment_of (plOf it) w := ⟨need_plan_z np, wok.z, by rw [is_name_ok wok]; rfl⟩
      rw [em]
      refine R.wp_asrt ⟨⟨⟨zm, lg⟩, lg⟩, fun _ => ⟨zm, zm⟩⟩ (wp_if (by rw [decide_eq_false (fun z => z rfl), decide_eq_false (fun z => z rfl)]; rfl) ?_)
      refine R.wp_bind.mpr (pick_s (fun a b h => h) h6 (by omega) (by simp) (by simp) fun y g7 hy h7 => ?_)
      have ay : Od y := by
        simp only [List.mem_cons, List.not_mem_nil, or_false] at hy
        rcases hy with rfl | rfl | rfl | rfl | rfl | rfl | rfl | rfl | rfl | rfl <;> exact ⟨by decide +kernel, by decide +kernel, by first | exact rfl | exact rp_str (by decide +kernel) | exact rp_lst ⟨by decide +kernel, by decide +kernel, by decide +kernel, by decide +kernel⟩ | exact rp_tup ⟨by decide +kernel, by decide +kernel, by decide +kernel, by decide +kernel⟩⟩
      have rz := rz_m2 (cln_pl hr.n) (are_pairsA_ok hr.n) ay.c ay.n
      have e1 : erO (F_moment_of [.d (ePl r0), .d (eA y)]) = (some (("BadThing" : Str), [(("thing" : Str), y)]) : ErT) := erO_eq rz
      refine R.wp_asrt ⟨zok rz (knE_some (by decide)), h7.ok.tt⟩ ?_
      dsimp only [letv]
      rw [e1]
      refine R.wp_asrt ⟨knE_some (by decide), fun _ => ⟨⟨⟨knE_some (by decide), rfl⟩, ay.r⟩, ay.r⟩⟩ (wp_if ?_ ⟨(), rfl, h7.le (by omega)⟩)
      show (false || decide (shA y ≠ shA y)) = false
      rw [decide_eq_false (fun z => z rfl)]
      rfl
    | false =>
      rw [if_neg (by decide)]
      have c' := (row_same it).symm.trans c
      have e0 : erO (F_moment_of [.d (eA it), .d ((eO eU) none)]) = (some (("BadPlan" : Str), []) : ErT) := erO_eq (rz_m1 ai.c c')
      rw [e0]
      refine R.wp_asrt ⟨⟨zok (rz_m1 ai.c c') (knE_some (by decide)), h6.ok.tt⟩, knE_some (by decide)⟩ (wp_if (by decide) ?_)
      refine R.wp_bind.mpr (pick_s (fun a b h => h) h6 (by omega) (by simp) (by simp) fun y g7 hy h7 => ?_)
      have ay : Od y := by
        simp only [List.mem_cons, List.not_mem_nil, or_false] at hy
        rcases hy with rfl | rfl | rfl | rfl | rfl | rfl | rfl | rfl | rfl | rfl <;> exact ⟨by decide +kernel, by decide +kernel, by first | exact rfl | exact rp_str (by decide +kernel) | exact rp_lst ⟨by decide +kernel, by decide +kernel, by decide +kernel, by decide +kernel⟩ | exact rp_tup ⟨by decide +kernel, by decide +kernel, by decide +kernel, by decide +kernel⟩⟩
      have rz := rz_m2 (cln_pl hr.n) (are_pairsA_ok hr.n) ay.c ay.n
      have e1 : erO (F_moment_of [.d (ePl r0), .d (eA y)]) = (some (("BadThing" : Str), [(("thing" : Str), y)]) : ErT) := erO_eq rz
      refine R.wp_asrt ⟨zok rz (knE_some (by decide)), h7.ok.tt⟩ ?_
      dsimp only [letv]
      rw [e1]
      refine R.wp_asrt ⟨knE_some (by decide), fun _ => ⟨⟨⟨knE_some (by decide), rfl⟩, ay.r⟩, ay.r⟩⟩ (wp_if ?_ ⟨(), rfl, h7.le (by omega)⟩)
      show (false || decide (shA y ≠ shA y)) = false
      rw [decide_eq_false (fun z => z rfl)]
      rfl
  · unfold rng
    rw [List.length_map, List.length_range]
    omega
  · exact rfl
theorem right : LawRight 8 b_law := right_of law_g law_s
end Pg

namespace Pg
open PySem L2 Fx Fq
noncomputable section
structure Txt (K : PySem.W.Frag) (mg : Str → Option Value) (E_BadPlan : Addr) (E_BadThing : Addr) (E_PlanError : Addr) (P : Program) : Prop where
  A : AllCls ⟨K, mg⟩
  E : ErAll ⟨K, mg⟩ ["BadPlan", "BadThing"]
  e_BadPlan : mg "BadPlan" = some (.ref E_BadPlan)
  e_BadThing : mg "BadThing" = some (.ref E_BadThing)
  e_PlanError : mg "PlanError" = some (.ref E_PlanError)
  f_thing : ErFld ⟨K, mg⟩ ["BadThing"] "thing"
  x_BadPlan : PySem.W.excIn K E_BadPlan [.type "ValueError", .type "Exception", .type "BaseException", .type "object"] "ValueError.__new__" = true
  k_BadPlan : PySem.W.keepIn K (.ref E_BadPlan) = true
  s_BadPlan : PySem.W.subIn K (.ref E_BadPlan) (.type "BaseException") = some true
  y_BadPlan : PySem.W.typeIn K (.ref E_BadPlan) = some (.type "type")
  i_BadThing : RaA P K mg E_BadThing "thing"
  b_abs : mg "abs" = none
  b_all : mg "all" = none
  b_bool : mg "bool" = none
  b_dict : mg "dict" = none
  b_int : mg "int" = none
  b_isinstance : mg "isinstance" = none
  b_len : mg "len" = none
  b_list : mg "list" = none
  b_min : mg "min" = none
  b_range : mg "range" = none
  b_repr : mg "repr" = none
  b_set : mg "set" = none
  b_sorted : mg "sorted" = none
  b_str : mg "str" = none
  b_tuple : mg "tuple" = none
  b_zip : mg "zip" = none
  g_LETTERS : ∃ u, mg "LETTERS" = some u ∧ RelV (.str "abcdefghijklmnopqrstuvwxyz") u
  g_MOST_LETTERS : ∃ u, mg "MOST_LETTERS" = some u ∧ RelV (.int 6) u
section
variable {P : Program} {w : World} {K : PySem.W.Frag} {mg : Str → Option Value} {base : Heap}

variable {E_BadPlan E_BadThing E_PlanError : Addr}
theorem sc__law_begun : FnScope ["_law_script", "_law_cells", "_law_cell"] ["_law_script"] (defScope s__law_begun) := ⟨rfl, rfl, rfl, by decide +kernel, rfl, by decide +kernel, by decide +kernel⟩
theorem ok__law_begun {f : Addr} {fd : FuncData} (D : DefAt K mg "_law_begun" s__law_begun ["_law_script"] f fd) (T : Txt K mg E_BadPlan E_BadThing E_PlanError P) :
    FnG P w K mg base 1 f fd ["_law_script"] (spBegun ⟨K, mg⟩) := by
  refine Fun.okG D.F sc__law_begun (fun vs H Q E h => by obtain ⟨a, ns, rfl, _⟩ := h; rfl) (fun cdv A fr s H vs Q E hgd hr h => ?_)
  exact ⟨_, pss_cons (ps_setLc (i := 1) (own := [("_law_cell", 2)]) (g := gName 2) (tt := tYes) (te := tCB rAbs (tCons (tVar 2) tNil)) rfl sc__law_begun.nd rfl rfl (sw_true rfl rfl rfl (by decide +kernel)) (pi_seq (pv 0)) (blkOk_by (by kernel_rfl)) (fun _ _ _ _ _ => pg_name (i := 2) sc__law_begun.nd rfl (Or.inl rfl)) (fun _ _ _ _ _ => pts_nil) (fun _ _ _ _ _ => pe_callB call_abs (by rfl) T.b_abs (by rfl) (pa_cons (pv 2) pa_nil)))
    (pss_one (ps_ret (pe_disp (pps_cons pe_str (pe_lc (own := [("_law_cell", 2)]) (g := gName 2) (tt := tTest (tOp (rB ⟨K, mg⟩ gGe) (tVar 2) (tOp (rB ⟨K, mg⟩ gPow) (tC (.int 10)) (tC (.int 18))))) (te := tOp (rB ⟨K, mg⟩ gSub) (tVar 2) (tOp (rB ⟨K, mg⟩ gPow) (tC (.int 10)) (tC (.int 18)))) rfl sc__law_begun.nd (pi_seq (pv 1)) (blkOk_by (by kernel_rfl)) (fun _ _ _ _ _ => pg_name (i := 2) sc__law_begun.nd rfl (Or.inl rfl)) (fun _ _ _ _ _ => pts_one (pt_cmpR op_geP (pv 2) (pe_op op_powP pe_int pe_int) (nomark _))) (fun _ _ _ _ _ => pe_op op_subP (pv 2) (pe_op op_powP pe_int pe_int)))
      (pps_cons pe_str (pv 1) (pps_cons pe_str pe_int (pps_cons pe_str pe_int pps_nil)))) (by rfl) (by rfl) (fun z => by cases z) (by decide)))),
    begun_reads (n1 := "_law_script") (n2 := "_law_cells") (n3 := "_law_cell") h⟩
theorem sc__law_draw : FnScope ["_law_state", "_law_size", "_law_turn", "_law_cell", "_law_mixed", "_law_found"] ["_law_state", "_law_size"] (defScope s__law_draw) := ⟨rfl, rfl, rfl, by decide +kernel, rfl, by decide +kernel, by decide +kernel⟩
theorem ok__law_draw {f : Addr} {fd : FuncData} (D : DefAt K mg "_law_draw" s__law_draw ["_law_state", "_law_size"] f fd) (T : Txt K mg E_BadPlan E_BadThing E_PlanError P) :
    FnG P w K mg base 1 f fd ["_law_state", "_law_size"] (spF ⟨K, mg⟩ F__law_draw) := by
  refine Fun.okG D.F sc__law_draw spF_len (fun cdv A fr s H vs Q E hgd hr h => ?_)
  have tk := takes_of (X := cxOf (L2.CX P w) P w K mg base ["_law_state", "_law_size", "_law_turn", "_law_cell", "_law_mixed", "_law_found"] "_law_draw" (defScope s__law_draw) f cdv A fr s H E) (E := E) rfl rfl rfl rfl
  exact ⟨tSf ⟨K, mg⟩ (WB E) b__law_draw, (xss (pss_cons (xs (ps_while (passes_of rfl) (xt ((pw_and (xt (pt_cmpR (op_eqP (huN hr (by decide))) (xe (pe_dget (huN hr (by decide)) (pv 0) pe_str (fun _ _ => rfl)) (sm_stRest 0)) (xe pe_int sm_int) (nomark _)) (smt_test (sm_op F_eq sm_s sm_s))) (pw_and1 (xt (pt_cmpR (op_neP (huN hr (by decide))) (pe_dget (huN hr (by decide)) (pv 0) pe_str (fun _ _ => rfl)) (pe_lst pa_nil) (nomark _)) (smt_stLargeNe 0))))).pt (smt_and smt_s smt_s))
    (xss (pss_one (xs (ps_dput (huN hr (by decide)) (pv 0) pe_str (pe_bm PySem.F.plainAttrs_list PySem.F.slot_list_pop PySem.F.type_list_pop mt_popAt (pe_dget (huN hr (by decide)) (pv 0) pe_str (fun _ _ => rfl)) (pa_cons pe_int pa_nil)) rfl) (sms_stPop 0))) sms_s)) (sms_while smt_s sms_s))
    (xss (pss_cons (xs (ps_if (xt (pt_cmpR op_gtP (xe (pe_dget (huN hr (by decide)) (pv 0) pe_str (fun _ _ => rfl)) (sm_stRest 0)) (xe pe_int sm_int) (nomark _)) (smt_test (sm_op F_gt sm_s sm_s)))
    (xss (pss_cons (xs (ps_set (i := 5) sc__law_draw.nd rfl (Or.inl rfl) (xe (pe_op op_modP (xe (pe_callTy call_int1 (by rfl) T.b_int (by rfl) (xa (pa_cons (xe (pe_dget (huN hr (by decide)) (pv 0) pe_str (fun _ _ => rfl)) (sm_stRest 0)) (xa pa_nil sma_nil)) (sma_cons sm_s sma_s))) (sm_cb F_int sma_s)) (xe (pv 1) (sm_var 1))) (sm_op F_mod sm_s sm_s))) (sms_asg sm_s (smg_name 5)))
    (xss (pss_cons (xs (ps_dput (huN hr (by decide)) (pv 0) pe_str (xe (pe_op op_divP (xe (pe_dget (huN hr (by decide)) (pv 0) pe_str (fun _ _ => rfl)) (sm_stRest 0)) (xe (pv 1) (sm_var 1))) (sm_op F_div sm_s sm_s)) rfl) (sms_stPutRest 0 sm_s))
    (xss (pss_one (xs (ps_ret (pv 5)) (sms_retV 5))) sms_s)) (sms_seq sms_s sms_s))) (sms_seq sms_s sms_s))
    (xss pss_nil sms_next)) (sms_if smt_s sms_s sms_s))
    (xss (pss_cons (xs (ps_set (i := 2) sc__law_draw.nd rfl (Or.inl rfl) (xe (pe_op op_addP (xe (pe_dget (huN hr (by decide)) (pv 0) pe_str (fun _ _ => rfl)) (sm_stTurn 0)) (xe pe_int sm_int)) (sm_op F_add sm_s sm_s))) (sms_asg sm_s (smg_name 2)))
    (xss (pss_cons (xs (ps_dput (huN hr (by decide)) (pv 0) pe_str (xe (pv 2) (sm_var 2)) rfl) (sms_stPutTurn 0 sm_s))
    (xss (pss_cons (xs (ps_set (i := 3) sc__law_draw.nd rfl (Or.inl rfl) (xe (pe_ifExp (xt (pt_cmpR (op_neP (huN hr (by decide))) (pe_dget (huN hr (by decide)) (pv 0) pe_str (fun _ _ => rfl)) (pe_lst pa_nil) (nomark _)) (smt_stCellsNe 0)) (xe (pe_ix (ix_anyP (huN hr (by decide))) (pe_dget (huN hr (by decide)) (pv 0) pe_str (fun _ _ => rfl)) (xe (pe_op op_modP (xe (pe_callTy call_int1 (by rfl) T.b_int (by rfl) (xa (pa_cons (xe (pv 2) (sm_var 2)) (xa pa_nil sma_nil)) (sma_cons sm_s sma_s))) (sm_cb F_int sma_s)) (xe (pe_callB call_len (by rfl) T.b_len (by rfl) (pa_cons (pe_dget (huN hr (by decide)) (pv 0) pe_str (fun _ _ => rfl)) pa_nil)) (sm_stCellsLen 0))) (sm_op F_mod sm_s sm_s)) (fun _ _ => rfl)) (sm_stCell 0 sm_s)) (xe pe_int sm_int)) (sm_if smt_s sm_s sm_s))) (sms_asg sm_s (smg_name 3)))
    (xss (pss_cons (xs (ps_set (i := 4) sc__law_draw.nd rfl (Or.inl rfl) (xe (pe_op op_modP (xe (pe_callTy call_int1 (by rfl) T.b_int (by rfl) (xa (pa_cons (xe (pe_op op_powP (xe (pe_op op_addP (xe (pe_op op_addP (xe (pe_op op_modP (xe (pe_callTy call_int1 (by rfl) T.b_int (by rfl) (xa (pa_cons (xe (pv 3) (sm_var 3)) (xa pa_nil sma_nil)) (sma_cons sm_s sma_s))) (sm_cb F_int sma_s)) (xe pe_int sm_int)) (sm_op F_mod sm_s sm_s)) (xe (pe_op op_mulP (xe pe_int sm_int) (xe (pv 2) (sm_var 2))) (sm_op F_mul sm_s sm_s))) (sm_op F_add sm_s sm_s)) (xe pe_int sm_int)) (sm_op F_add sm_s sm_s)) (xe pe_int sm_int)) (sm_op F_pow sm_s sm_s)) (xa pa_nil sma_nil)) (sma_cons sm_s sma_s))) (sm_cb F_int sma_s)) (xe pe_int sm_int)) (sm_op F_mod sm_s sm_s))) (sms_asg sm_s (smg_name 4)))
    (xss (pss_one (xs (ps_ret (xe (pe_op op_modP (xe (pe_callTy call_int1 (by rfl) T.b_int (by rfl) (xa (pa_cons (xe (pe_op op_divP (xe (pe_op op_modP (xe (pe_callTy call_int1 (by rfl) T.b_int (by rfl) (xa (pa_cons (xe (pe_op op_powP (xe (pe_op op_addP (xe (pv 4) (sm_var 4)) (xe (pe_op op_mulP (xe pe_int sm_int) (xe (pv 2) (sm_var 2))) (sm_op F_mul sm_s sm_s))) (sm_op F_add sm_s sm_s)) (xe pe_int sm_int)) (sm_op F_pow sm_s sm_s)) (xa pa_nil sma_nil)) (sma_cons sm_s sma_s))) (sm_cb F_int sma_s)) (xe pe_int sm_int)) (sm_op F_mod sm_s sm_s)) (xe pe_int sm_int)) (sm_op F_div sm_s sm_s)) (xa pa_nil sma_nil)) (sma_cons sm_s sma_s))) (sm_cb F_int sma_s)) (xe (pv 1) (sm_var 1))) (sm_op F_mod sm_s sm_s))) (sms_ret sm_s))) sms_s)) (sms_seq sms_s sms_s))) (sms_seq sms_s sms_s))) (sms_seq sms_s sms_s))) (sms_seq sms_s sms_s))) (sms_seq sms_s sms_s))) (sms_seq sms_s sms_s)),
    body_ok sms_s h⟩
theorem sc__law_pick : FnScope ["_law_state", "_law_several"] ["_law_state", "_law_several"] (defScope s__law_pick) := ⟨rfl, rfl, rfl, by decide +kernel, rfl, by decide +kernel, by decide +kernel⟩
theorem ok__law_pick {f : Addr} {fd : FuncData} (D : DefAt K mg "_law_pick" s__law_pick ["_law_state", "_law_several"] f fd) (T : Txt K mg E_BadPlan E_BadThing E_PlanError P) {f__law_draw : Addr} {fd__law_draw : FuncData} (D__law_draw : DefAt K mg "_law_draw" s__law_draw ["_law_state", "_law_size"] f__law_draw fd__law_draw) (G__law_draw : FnG P w K mg base 1 f__law_draw fd__law_draw ["_law_state", "_law_size"] (spF ⟨K, mg⟩ F__law_draw)) :
    FnG P w K mg base 2 f fd ["_law_state", "_law_several"] (spF ⟨K, mg⟩ F__law_pick) := by
  refine Fun.okG D.F sc__law_pick spF_len (fun cdv A fr s H vs Q E hgd hr h => ?_)
  have tk := takes_of (X := cxOf (L2.CX P w) P w K mg base ["_law_state", "_law_several"] "_law_pick" (defScope s__law_pick) f cdv A fr s H E) (E := E) rfl rfl rfl rfl
  exact ⟨tSf ⟨K, mg⟩ (WB E) b__law_pick, (xss (pss_one (xs (ps_ret (xe (pe_ix (ix_anyP (huN hr (by decide))) (xe (pv 1) (sm_var 1)) (xe (pe_callG G__law_draw hgd (hr.mono (by decide)) (by rfl) D__law_draw.g D__law_draw.F.kp D__law_draw.b (fun σ => passAt (W := WB E) tk σ) (xa (pa_cons (xe (pv 0) (sm_var 0)) (xa (pa_cons (xe (pe_callB call_lenR (by rfl) T.b_len (by rfl) (xa (pa_cons (xe (pv 1) (sm_var 1)) (xa pa_nil sma_nil)) (sma_cons sm_s sma_s))) (sm_cb F_len sma_s)) (xa pa_nil sma_nil)) (sma_cons sm_s sma_s))) (sma_cons sm_s sma_s))) (sm_call sma_s)) (fun _ _ => rfl)) (sm_op F_ix sm_s sm_s))) (sms_ret sm_s))) sms_s),
    body_ok sms_s h⟩
theorem sc__law_words : FnScope ["_law_state", "_law_many", "_law_letters", "_law_found", "_law_drawn", "_law_word", "_law_spare", "_law_sign", "_law_letter", "_law_each"] ["_law_state", "_law_many"] (defScope s__law_words) := ⟨rfl, rfl, rfl, by decide +kernel, rfl, by decide +kernel, by decide +kernel⟩
theorem ok__law_words {f : Addr} {fd : FuncData} (D : DefAt K mg "_law_words" s__law_words ["_law_state", "_law_many"] f fd) (T : Txt K mg E_BadPlan E_BadThing E_PlanError P) {f__law_draw : Addr} {fd__law_draw : FuncData} (D__law_draw : DefAt K mg "_law_draw" s__law_draw ["_law_state", "_law_size"] f__law_draw fd__law_draw) (G__law_draw : FnG P w K mg base 1 f__law_draw fd__law_draw ["_law_state", "_law_size"] (spF ⟨K, mg⟩ F__law_draw)) {f__law_pick : Addr} {fd__law_pick : FuncData} (D__law_pick : DefAt K mg "_law_pick" s__law_pick ["_law_state", "_law_several"] f__law_pick fd__law_pick) (G__law_pick : FnG P w K mg base 2 f__law_pick fd__law_pick ["_law_state", "_law_several"] (spF ⟨K, mg⟩ F__law_pick)) :
    FnG P w K mg base 3 f fd ["_law_state", "_law_many"] (spF ⟨K, mg⟩ F__law_words) := by
  refine Fun.okG D.F sc__law_words spF_len (fun cdv A fr s H vs Q E hgd hr h => ?_)
  have tk := takes_of (X := cxOf (L2.CX P w) P w K mg base ["_law_state", "_law_many", "_law_letters", "_law_found", "_law_drawn", "_law_word", "_law_spare", "_law_sign", "_law_letter", "_law_each"] "_law_words" (defScope s__law_words) f cdv A fr s H E) (E := E) rfl rfl rfl rfl
  exact ⟨tSf ⟨K, mg⟩ (WB E) b__law_words, (xss (pss_cons (xs (ps_asg (pe_tup (pa_cons (xe pe_str sm_str) (pa_cons (xe (pe_lst (xa pa_nil sma_nil)) (sm_lst sma_s)) pa_nil))) (pg_tup rfl (pgs_cons (pg_name (i := 2) sc__law_words.nd rfl (Or.inr rfl)) (pgs_cons (pg_name (i := 3) sc__law_words.nd rfl (Or.inr rfl)) pgs_nil)))) (sms_parT 2 3 sm_s sm_s))
    (xss (xss (pss_cons (xs (ps_while (passes_of rfl) (xt (pt_cmpR op_ltP (xe (xe (pe_callB call_lenR (by rfl) T.b_len (by rfl) (xa (pa_cons (xe (pv 3) (sm_var 3)) (xa pa_nil sma_nil)) (sma_cons sm_s sma_s))) (sm_cb F_len sma_s)) (sm_bor 3 sm_s)) (xe (pv 1) (sm_var 1)) (nomark _)) (smt_test (sm_op F_lt sm_s sm_s)))
    (xss (pss_cons (xs (ps_set (i := 4) sc__law_words.nd rfl (Or.inl rfl) (xe (pe_mr PySem.F.plainAttrs_str PySem.F.slot_str_join PySem.F.type_str_join mt_joinF (xe pe_str sm_str) (xa (pa_cons (xe (pe_lc (own := [("_law_sign", 7)]) (g := (gName 7)) (tt := tT ⟨K, mg⟩ W0 fYes) (te := tE ⟨K, mg⟩ W0 (fCall F__law_pick (aCons (fVar 0) (aCons (fVar 2) aNil)))) rfl sc__law_words.nd (xiZ (pi_range1 (by rfl) T.b_range (xa (pa_cons (xe (pe_op op_addP (xe pe_int sm_int) (xe (pe_callG G__law_draw hgd (hr.mono (by decide)) (by rfl) D__law_draw.g D__law_draw.F.kp D__law_draw.b (fun σ => passAt (W := WB E) tk σ) (xa (pa_cons (xe (pv 0) (sm_var 0)) (xa (pa_cons (xe pe_int sm_int) (xa pa_nil sma_nil)) (sma_cons sm_s sma_s))) (sma_cons sm_s sma_s))) (sm_call sma_s))) (sm_op F_add sm_s sm_s)) (xa pa_nil sma_nil)) (sma_cons sm_s sma_s))) (smi_rngZ smi_rng1 sma_s)) (blkOk_by (by kernel_rfl)) (fun _ _ _ _ _ => (pg_name (i := 7) sc__law_words.nd rfl (Or.inl rfl))) (fun _ _ _ _ _ => (xts pts_nil smt_yes)) (fun _ _ _ _ _ => (xe (pe_callG G__law_pick hgd (hr.mono (by decide)) (by rfl) D__law_pick.g D__law_pick.F.kp D__law_pick.b (fun σ => passAt (W := W0) takes0 σ) (xa (pa_cons (xe (pv 0) (sm_var 0)) (xa (pa_cons (xe (pv 2) (sm_var 2)) (xa pa_nil sma_nil)) (sma_cons sm_s sma_s))) (sma_cons sm_s sma_s))) (sm_call sma_s)))) (sm_lcU (w := false) smiZ_s (smg_name 7) smt_s sm_s (by decide))) (xa pa_nil sma_nil)) (sma_cons sm_s sma_s))) (sm_m (.inl rfl) sm_s sma_s))) (sms_asg sm_s (smg_name 4)))
    (xss (pss_cons (xs (ps_set (i := 5) sc__law_words.nd rfl (Or.inr rfl) (xe (pe_callG G__law_pick hgd (hr.mono (by decide)) (by rfl) D__law_pick.g D__law_pick.F.kp D__law_pick.b (fun σ => passAt (W := WB E) tk σ) (xa (pa_cons (xe (pv 0) (sm_var 0)) (xa (pa_cons (xe (pe_lst (xa (pa_cons (xe pe_str sm_str) (xa (pa_cons (xe pe_str sm_str) (xa (pa_cons (xe pe_str sm_str) (xa (pa_cons (xe pe_str sm_str) (xa (pa_cons (xe pe_str sm_str) (xa (pa_cons (xe pe_str sm_str) (xa (pa_cons (xe pe_str sm_str) (xa (pa_cons (xe (pv 4) (sm_var 4)) (xa (pa_cons (xe (pv 4) (sm_var 4)) (xa pa_nil sma_nil)) (sma_cons sm_s sma_s))) (sma_cons sm_s sma_s))) (sma_cons sm_s sma_s))) (sma_cons sm_s sma_s))) (sma_cons sm_s sma_s))) (sma_cons sm_s sma_s))) (sma_cons sm_s sma_s))) (sma_cons sm_s sma_s))) (sma_cons sm_s sma_s))) (sm_lst sma_s)) (xa pa_nil sma_nil)) (sma_cons sm_s sma_s))) (sma_cons sm_s sma_s))) (sm_call sma_s))) (sms_asg sm_s (smg_name 5)))
    (xss (pss_cons (xs (ps_set (i := 6) sc__law_words.nd rfl (Or.inl rfl) (xe (pe_op op_addP (xe (pe_lst (xa (pa_cons (xe (pv 5) (sm_var 5)) (xa pa_nil sma_nil)) (sma_cons sm_s sma_s))) (sm_lst sma_s)) (xe (pe_lc (own := [("_law_letter", 8)]) (g := (gName 8)) (tt := tT ⟨K, mg⟩ W0 fYes) (te := tE ⟨K, mg⟩ W0 (fOp oAdd (fSl (fVar 5) oN (oS (fC (.int 5)))) (fVar 8))) rfl sc__law_words.nd (xiZ (pi_seq (pe_z (xe (pv 2) (sm_var 2)))) (smi_seqZ sm_s)) (blkOk_by (by kernel_rfl)) (fun _ _ _ _ _ => (pg_name (i := 8) sc__law_words.nd rfl (Or.inl rfl))) (fun _ _ _ _ _ => (xts pts_nil smt_yes)) (fun _ _ _ _ _ => (xe (pe_op op_addP (xe (pe_slice sl_anyP (xe (pv 5) (sm_var 5)) (xo po_none smo_none) (xo (po_some (xe pe_int sm_int)) (smo_some sm_s))) (sm_sl sm_s smo_s smo_s)) (xe (pv 8) (sm_var 8))) (sm_op F_add sm_s sm_s)))) (sm_lcU (w := false) smiZ_s (smg_name 8) smt_s sm_s (by decide)))) (sm_op F_add sm_s sm_s))) (sms_asg sm_s (smg_name 6)))
    (xss (pss_one (xs (ps_expr (pe_bm PySem.F.plainAttrs_list PySem.F.slot_list_append PySem.F.type_list_append mt_append (pv 3) (pa_cons (xe (pe_ix (ix_anyP (huN hr (by decide))) (xe (pe_lc (own := [("_law_each", 9)]) (g := (gName 9)) (tt := tT ⟨K, mg⟩ W0 (fBorT 3 (fTest (fOp (oIn true) (fVar 9) (fVar 3))))) (te := tE ⟨K, mg⟩ W0 (fVar 9)) rfl sc__law_words.nd (xiZ (pi_seq (pe_z (xe (pv 6) (sm_var 6)))) (smi_seqZ sm_s)) (blkOk_by (by kernel_rfl)) (fun _ _ _ _ _ => (pg_name (i := 9) sc__law_words.nd rfl (Or.inl rfl))) (fun _ _ _ _ _ => (xts (pts_one (xt (xt (pt_cmpR (op_notInP (huN hr (by decide))) (xe (pv 9) (sm_var 9)) (xe (pv 3) (sm_var 3)) (by rfl)) (smt_test (sm_op F_notIn sm_s sm_s))) (smt_bor 3 smt_s))) smt_s)) (fun _ _ _ _ _ => (xe (pv 9) (sm_var 9)))) (sm_lcU (w := false) smiZ_s (smg_name 9) smt_s sm_s (by decide))) (xe pe_int sm_int) (fun _ _ => rfl)) (sm_op F_ix sm_s sm_s)) pa_nil))) (sms_app 3 sm_s))) sms_s)) (sms_seq sms_s sms_s))) (sms_seq sms_s sms_s))) (sms_seq sms_s sms_s))) (sms_while smt_s sms_s))
    (xss (xss (pss_one (xs (ps_ret (xe (pe_callB (cr_sortedP rfl (huN hr (by decide))) (by rfl) T.b_sorted (by rfl) (xa (pa_cons (xe (pv 3) (sm_var 3)) (xa pa_nil sma_nil)) (sma_cons sm_s sma_s))) (sm_cb F_sorted sma_s))) (sms_ret sm_s))) sms_s) (sms_fz 3 sms_s))) (sms_seq sms_s sms_s)) (sms_fz 2 sms_s))) (sms_seq sms_s sms_s)),
    body_ok sms_s h⟩
theorem sc__law_row : FnScope ["_law_state", "_law_words_here", "_law_wide", "_law_word", "_law_found", "_law_far"] ["_law_state", "_law_words_here", "_law_wide"] (defScope s__law_row) := ⟨rfl, rfl, rfl, by decide +kernel, rfl, by decide +kernel, by decide +kernel⟩
theorem ok__law_row {f : Addr} {fd : FuncData} (D : DefAt K mg "_law_row" s__law_row ["_law_state", "_law_words_here", "_law_wide"] f fd) (T : Txt K mg E_BadPlan E_BadThing E_PlanError P) {f__law_pick : Addr} {fd__law_pick : FuncData} (D__law_pick : DefAt K mg "_law_pick" s__law_pick ["_law_state", "_law_several"] f__law_pick fd__law_pick) (G__law_pick : FnG P w K mg base 2 f__law_pick fd__law_pick ["_law_state", "_law_several"] (spF ⟨K, mg⟩ F__law_pick)) {f__law_draw : Addr} {fd__law_draw : FuncData} (D__law_draw : DefAt K mg "_law_draw" s__law_draw ["_law_state", "_law_size"] f__law_draw fd__law_draw) (G__law_draw : FnG P w K mg base 1 f__law_draw fd__law_draw ["_law_state", "_law_size"] (spF ⟨K, mg⟩ F__law_draw)) :
    FnG P w K mg base 3 f fd ["_law_state", "_law_words_here", "_law_wide"] (spF ⟨K, mg⟩ F__law_row) := by
  refine Fun.okG D.F sc__law_row spF_len (fun cdv A fr s H vs Q E hgd hr h => ?_)
  have tk := takes_of (X := cxOf (L2.CX P w) P w K mg base ["_law_state", "_law_words_here", "_law_wide", "_law_word", "_law_found", "_law_far"] "_law_row" (defScope s__law_row) f cdv A fr s H E) (E := E) rfl rfl rfl rfl
  exact ⟨tSf ⟨K, mg⟩ (WB E) b__law_row, (xss (pss_cons (xs (ps_par (i := 4) (j := 5) rfl sc__law_row.nd rfl rfl (by decide) rfl rfl (pa_cons (xe (pe_lst (xa pa_nil sma_nil)) (sm_lst sma_s)) (pa_cons (xe (pe_callG G__law_pick hgd (hr.mono (by decide)) (by rfl) D__law_pick.g D__law_pick.F.kp D__law_pick.b (fun σ => passAt (W := WB E) tk σ) (xa (pa_cons (xe (pv 0) (sm_var 0)) (xa (pa_cons (xe (pe_lst (xa (pa_cons (xe pe_int sm_int) (xa (pa_cons (xe pe_int sm_int) (xa (pa_cons (xe pe_int sm_int) (xa (pa_cons (xe pe_int sm_int) (xa (pa_cons (xe pe_int sm_int) (xa (pa_cons (xe (pe_op op_powP (xe pe_int sm_int) (xe pe_int sm_int)) (sm_op F_pow sm_s sm_s)) (xa pa_nil sma_nil)) (sma_cons sm_s sma_s))) (sma_cons sm_s sma_s))) (sma_cons sm_s sma_s))) (sma_cons sm_s sma_s))) (sma_cons sm_s sma_s))) (sma_cons sm_s sma_s))) (sm_lst sma_s)) (xa pa_nil sma_nil)) (sma_cons sm_s sma_s))) (sma_cons sm_s sma_s))) (sm_call sma_s)) pa_nil)) rfl) (sms_par 4 5 sm_s sm_s))
    (xss (xss (pss_cons (xs (ps_for (passes_of rfl) rfl (xi (pi_seq (xe (pv 1) (sm_var 1))) (smi_seq sm_s)) (pg_name (i := 3) sc__law_row.nd rfl (Or.inl rfl))
    (xss (pss_one (xs (ps_if (xt (pt_cmpR op_gtP (xe (pe_callG G__law_draw hgd (hr.mono (by decide)) (by rfl) D__law_draw.g D__law_draw.F.kp D__law_draw.b (fun σ => passAt (W := WB E) tk σ) (xa (pa_cons (xe (pv 0) (sm_var 0)) (xa (pa_cons (xe pe_int sm_int) (xa pa_nil sma_nil)) (sma_cons sm_s sma_s))) (sma_cons sm_s sma_s))) (sm_call sma_s)) (xe pe_int sm_int) (nomark _)) (smt_test (sm_op F_gt sm_s sm_s)))
    (xss (pss_one (xs (ps_expr (pe_bm PySem.F.plainAttrs_list PySem.F.slot_list_append PySem.F.type_list_append mt_append (pv 4) (pa_cons (xe (pe_tupF (xa (pa_cons (xe (pv 3) (sm_var 3)) (xa (pa_cons (xe (pe_op op_addP (xe (pe_op op_subP (xe (pe_callG G__law_draw hgd (hr.mono (by decide)) (by rfl) D__law_draw.g D__law_draw.F.kp D__law_draw.b (fun σ => passAt (W := WB E) tk σ) (xa (pa_cons (xe (pv 0) (sm_var 0)) (xa (pa_cons (xe (pe_op op_addP (xe (pe_op op_mulP (xe pe_int sm_int) (xe (pv 2) (sm_var 2))) (sm_op F_mul sm_s sm_s)) (xe pe_int sm_int)) (sm_op F_add sm_s sm_s)) (xa pa_nil sma_nil)) (sma_cons sm_s sma_s))) (sma_cons sm_s sma_s))) (sm_call sma_s)) (xe (pv 2) (sm_var 2))) (sm_op F_sub sm_s sm_s)) (xe (pv 5) (sm_var 5))) (sm_op F_add sm_s sm_s)) (xa pa_nil sma_nil)) (sma_cons sm_s sma_s))) (sma_cons sm_s sma_s))) (sm_tup sma_s)) pa_nil))) (sms_app 4 sm_s))) sms_s)
    (xss pss_nil sms_next)) (sms_if smt_s sms_s sms_s))) sms_s)) (sms_for (w := false) smi_s (smg_name 3) sms_s))
    (xss (xss (pss_one (xs (ps_ret (xe (pe_callTy call_tupleP (by rfl) T.b_tuple (by rfl) (xa (pa_cons (xe (pv 4) (sm_var 4)) (xa pa_nil sma_nil)) (sma_cons sm_s sma_s))) (sm_cb F_tuple sma_s))) (sms_ret sm_s))) sms_s) (sms_fz 4 sms_s))) (sms_seq sms_s sms_s)) (sms_fz 5 sms_s))) (sms_seq sms_s sms_s)),
    body_ok sms_s h⟩
theorem sc__law_odd : FnScope ["_law_state", "_law_several"] ["_law_state"] (defScope s__law_odd) := ⟨rfl, rfl, rfl, by decide +kernel, rfl, by decide +kernel, by decide +kernel⟩
theorem ok__law_odd {f : Addr} {fd : FuncData} (D : DefAt K mg "_law_odd" s__law_odd ["_law_state"] f fd) (T : Txt K mg E_BadPlan E_BadThing E_PlanError P) {f__law_pick : Addr} {fd__law_pick : FuncData} (D__law_pick : DefAt K mg "_law_pick" s__law_pick ["_law_state", "_law_several"] f__law_pick fd__law_pick) (G__law_pick : FnG P w K mg base 2 f__law_pick fd__law_pick ["_law_state", "_law_several"] (spF ⟨K, mg⟩ F__law_pick)) :
    FnG P w K mg base 3 f fd ["_law_state"] (spF ⟨K, mg⟩ F__law_odd) := by
  refine Fun.okG D.F sc__law_odd spF_len (fun cdv A fr s H vs Q E hgd hr h => ?_)
  have tk := takes_of (X := cxOf (L2.CX P w) P w K mg base ["_law_state", "_law_several"] "_law_odd" (defScope s__law_odd) f cdv A fr s H E) (E := E) rfl rfl rfl rfl
  exact ⟨tSf ⟨K, mg⟩ (WB E) b__law_odd, (xss (pss_cons (xs (ps_set (i := 1) sc__law_odd.nd rfl (Or.inl rfl) (xe (pe_lst (xa (pa_cons (xe pe_non sm_non) (xa (pa_cons (xe pe_int sm_int) (xa (pa_cons (xe pe_int sm_int) (xa (pa_cons (xe pe_bl sm_bl) (xa (pa_cons (xe pe_bl sm_bl) (xa (pa_cons (xe (pe_un un_negP (xe pe_int sm_int)) (sm_un F_neg sm_s)) (xa (pa_cons (xe pe_str sm_str) (xa (pa_cons (xe pe_str sm_str) (xa (pa_cons (xe pe_str sm_str) (xa (pa_cons (xe (pe_tupF (xa pa_nil sma_nil)) (sm_tup sma_s)) (xa (pa_cons (xe (pe_lst (xa pa_nil sma_nil)) (sm_lst sma_s)) (xa (pa_cons (xe pe_dnewK sm_newK) (xa (pa_cons (xe (pe_tupF (xa (pa_cons (xe (pe_tupF (xa (pa_cons (xe pe_str sm_str) (xa (pa_cons (xe pe_int sm_int) (xa pa_nil sma_nil)) (sma_cons sm_s sma_s))) (sma_cons sm_s sma_s))) (sm_tup sma_s)) (xa pa_nil sma_nil)) (sma_cons sm_s sma_s))) (sm_tup sma_s)) (xa (pa_cons (xe (pe_lst (xa (pa_cons (xe (pe_tupF (xa (pa_cons (xe pe_str sm_str) (xa (pa_cons (xe pe_int sm_int) (xa pa_nil sma_nil)) (sma_cons sm_s sma_s))) (sma_cons sm_s sma_s))) (sm_tup sma_s)) (xa pa_nil sma_nil)) (sma_cons sm_s sma_s))) (sm_lst sma_s)) (xa (pa_cons (xe (pe_tupF (xa (pa_cons (xe (pe_tupF (xa (pa_cons (xe pe_str sm_str) (xa (pa_cons (xe pe_int sm_int) (xa pa_nil sma_nil)) (sma_cons sm_s sma_s))) (sma_cons sm_s sma_s))) (sm_tup sma_s)) (xa (pa_cons (xe (pe_tupF (xa (pa_cons (xe pe_str sm_str) (xa (pa_cons (xe pe_int sm_int) (xa pa_nil sma_nil)) (sma_cons sm_s sma_s))) (sma_cons sm_s sma_s))) (sm_tup sma_s)) (xa pa_nil sma_nil)) (sma_cons sm_s sma_s))) (sma_cons sm_s sma_s))) (sm_tup sma_s)) (xa (pa_cons (xe (pe_tupF (xa (pa_cons (xe (pe_tupF (xa pa_nil sma_nil)) (sm_tup sma_s)) (xa (pa_cons (xe (pe_tupF (xa pa_nil sma_nil)) (sm_tup sma_s)) (xa pa_nil sma_nil)) (sma_cons sm_s sma_s))) (sma_cons sm_s sma_s))) (sm_tup sma_s)) (xa pa_nil sma_nil)) (sma_cons sm_s sma_s))) (sma_cons sm_s sma_s))) (sma_cons sm_s sma_s))) (sma_cons sm_s sma_s))) (sma_cons sm_s sma_s))) (sma_cons sm_s sma_s))) (sma_cons sm_s sma_s))) (sma_cons sm_s sma_s))) (sma_cons sm_s sma_s))) (sma_cons sm_s sma_s))) (sma_cons sm_s sma_s))) (sma_cons sm_s sma_s))) (sma_cons sm_s sma_s))) (sma_cons sm_s sma_s))) (sma_cons sm_s sma_s))) (sma_cons sm_s sma_s))) (sm_lst sma_s))) (sms_asg sm_s (smg_name 1)))
    (xss (pss_cons (xs (ps_set (i := 1) sc__law_odd.nd rfl (Or.inl rfl) (xe (pe_op op_addP (xe (pv 1) (sm_var 1)) (xe (pe_lst (xa (pa_cons (xe (pe_tupF (xa (pa_cons (xe (pe_tupF (xa (pa_cons (xe pe_str sm_str) (xa (pa_cons (xe pe_int sm_int) (xa pa_nil sma_nil)) (sma_cons sm_s sma_s))) (sma_cons sm_s sma_s))) (sm_tup sma_s)) (xa (pa_cons (xe (pe_tupF (xa (pa_cons (xe pe_str sm_str) (xa (pa_cons (xe pe_int sm_int) (xa pa_nil sma_nil)) (sma_cons sm_s sma_s))) (sma_cons sm_s sma_s))) (sm_tup sma_s)) (xa pa_nil sma_nil)) (sma_cons sm_s sma_s))) (sma_cons sm_s sma_s))) (sm_tup sma_s)) (xa (pa_cons (xe (pe_tupF (xa (pa_cons (xe (pe_tupF (xa (pa_cons (xe pe_str sm_str) (xa (pa_cons (xe pe_int sm_int) (xa pa_nil sma_nil)) (sma_cons sm_s sma_s))) (sma_cons sm_s sma_s))) (sm_tup sma_s)) (xa (pa_cons (xe (pe_tupF (xa (pa_cons (xe pe_str sm_str) (xa (pa_cons (xe pe_int sm_int) (xa pa_nil sma_nil)) (sma_cons sm_s sma_s))) (sma_cons sm_s sma_s))) (sm_tup sma_s)) (xa pa_nil sma_nil)) (sma_cons sm_s sma_s))) (sma_cons sm_s sma_s))) (sm_tup sma_s)) (xa (pa_cons (xe (pe_tupF (xa (pa_cons (xe (pe_tupF (xa (pa_cons (xe pe_str sm_str) (xa (pa_cons (xe pe_bl sm_bl) (xa pa_nil sma_nil)) (sma_cons sm_s sma_s))) (sma_cons sm_s sma_s))) (sm_tup sma_s)) (xa pa_nil sma_nil)) (sma_cons sm_s sma_s))) (sm_tup sma_s)) (xa (pa_cons (xe (pe_tupF (xa (pa_cons (xe (pe_tupF (xa (pa_cons (xe pe_str sm_str) (xa (pa_cons (xe pe_int sm_int) (xa pa_nil sma_nil)) (sma_cons sm_s sma_s))) (sma_cons sm_s sma_s))) (sm_tup sma_s)) (xa pa_nil sma_nil)) (sma_cons sm_s sma_s))) (sm_tup sma_s)) (xa (pa_cons (xe (pe_tupF (xa (pa_cons (xe pe_str sm_str) (xa (pa_cons (xe pe_int sm_int) (xa pa_nil sma_nil)) (sma_cons sm_s sma_s))) (sma_cons sm_s sma_s))) (sm_tup sma_s)) (xa (pa_cons (xe (pe_tupF (xa (pa_cons (xe (pe_tupF (xa (pa_cons (xe pe_str sm_str) (xa pa_nil sma_nil)) (sma_cons sm_s sma_s))) (sm_tup sma_s)) (xa pa_nil sma_nil)) (sma_cons sm_s sma_s))) (sm_tup sma_s)) (xa (pa_cons (xe (pe_tupF (xa (pa_cons (xe pe_int sm_int) (xa pa_nil sma_nil)) (sma_cons sm_s sma_s))) (sm_tup sma_s)) (xa pa_nil sma_nil)) (sma_cons sm_s sma_s))) (sma_cons sm_s sma_s))) (sma_cons sm_s sma_s))) (sma_cons sm_s sma_s))) (sma_cons sm_s sma_s))) (sma_cons sm_s sma_s))) (sma_cons sm_s sma_s))) (sm_lst sma_s))) (sm_op F_add sm_s sm_s))) (sms_asg sm_s (smg_name 1)))
    (xss (pss_one (xs (ps_ret (xe (pe_callG G__law_pick hgd (hr.mono (by decide)) (by rfl) D__law_pick.g D__law_pick.F.kp D__law_pick.b (fun σ => passAt (W := WB E) tk σ) (xa (pa_cons (xe (pv 0) (sm_var 0)) (xa (pa_cons (xe (pe_op op_addP (xe (pv 1) (sm_var 1)) (xe (pe_lst (xa (pa_cons (xe (pe_tupF (xa (pa_cons (xe (pe_lst (xa (pa_cons (xe pe_str sm_str) (xa (pa_cons (xe pe_int sm_int) (xa pa_nil sma_nil)) (sma_cons sm_s sma_s))) (sma_cons sm_s sma_s))) (sm_lst sma_s)) (xa pa_nil sma_nil)) (sma_cons sm_s sma_s))) (sm_tup sma_s)) (xa (pa_cons (xe (pe_tupF (xa (pa_cons (xe (pe_tupF (xa (pa_cons (xe pe_str sm_str) (xa (pa_cons (xe pe_int sm_int) (xa pa_nil sma_nil)) (sma_cons sm_s sma_s))) (sma_cons sm_s sma_s))) (sm_tup sma_s)) (xa pa_nil sma_nil)) (sma_cons sm_s sma_s))) (sm_tup sma_s)) (xa (pa_cons (xe (pe_tupF (xa (pa_cons (xe (pe_tupF (xa (pa_cons (xe pe_str sm_str) (xa (pa_cons (xe pe_int sm_int) (xa pa_nil sma_nil)) (sma_cons sm_s sma_s))) (sma_cons sm_s sma_s))) (sm_tup sma_s)) (xa pa_nil sma_nil)) (sma_cons sm_s sma_s))) (sm_tup sma_s)) (xa (pa_cons (xe (pe_tupF (xa (pa_cons (xe (pe_tupF (xa (pa_cons (xe pe_str sm_str) (xa (pa_cons (xe pe_non sm_non) (xa pa_nil sma_nil)) (sma_cons sm_s sma_s))) (sma_cons sm_s sma_s))) (sm_tup sma_s)) (xa pa_nil sma_nil)) (sma_cons sm_s sma_s))) (sm_tup sma_s)) (xa (pa_cons (xe (pe_disp (trs := ((tE ⟨K, mg⟩ W0 (fC (.str "a")), tE ⟨K, mg⟩ W0 (fC (.int 0))) :: [])) (pps_cons (xe pe_str sm_str) (xe pe_int sm_int) pps_nil) (by rfl) (by rfl) (fun z => by cases z) (by decide)) (sm_disp (.cons sm_s sm_s .nil))) (xa (pa_cons (xe (pe_tupF (xa (pa_cons (xe (pe_tupF (xa (pa_cons (xe (pe_tupF (xa (pa_cons (xe pe_str sm_str) (xa (pa_cons (xe pe_int sm_int) (xa pa_nil sma_nil)) (sma_cons sm_s sma_s))) (sma_cons sm_s sma_s))) (sm_tup sma_s)) (xa pa_nil sma_nil)) (sma_cons sm_s sma_s))) (sm_tup sma_s)) (xa (pa_cons (xe (pe_tupF (xa pa_nil sma_nil)) (sm_tup sma_s)) (xa pa_nil sma_nil)) (sma_cons sm_s sma_s))) (sma_cons sm_s sma_s))) (sm_tup sma_s)) (xa pa_nil sma_nil)) (sma_cons sm_s sma_s))) (sma_cons sm_s sma_s))) (sma_cons sm_s sma_s))) (sma_cons sm_s sma_s))) (sma_cons sm_s sma_s))) (sma_cons sm_s sma_s))) (sm_lst sma_s))) (sm_op F_add sm_s sm_s)) (xa pa_nil sma_nil)) (sma_cons sm_s sma_s))) (sma_cons sm_s sma_s))) (sm_call sma_s))) (sms_ret sm_s))) sms_s)) (sms_seq sms_s sms_s))) (sms_seq sms_s sms_s)),
    body_ok sms_s h⟩
theorem sc__law_bent : FnScope ["_law_state", "_law_row_here", "_law_way", "_law_pairs", "_law_spot", "_law_word", "_law_num"] ["_law_state", "_law_row_here"] (defScope s__law_bent) := ⟨rfl, rfl, rfl, by decide +kernel, rfl, by decide +kernel, by decide +kernel⟩
theorem ok__law_bent {f : Addr} {fd : FuncData} (D : DefAt K mg "_law_bent" s__law_bent ["_law_state", "_law_row_here"] f fd) (T : Txt K mg E_BadPlan E_BadThing E_PlanError P) {f__law_draw : Addr} {fd__law_draw : FuncData} (D__law_draw : DefAt K mg "_law_draw" s__law_draw ["_law_state", "_law_size"] f__law_draw fd__law_draw) (G__law_draw : FnG P w K mg base 1 f__law_draw fd__law_draw ["_law_state", "_law_size"] (spF ⟨K, mg⟩ F__law_draw)) {f__law_odd : Addr} {fd__law_odd : FuncData} (D__law_odd : DefAt K mg "_law_odd" s__law_odd ["_law_state"] f__law_odd fd__law_odd) (G__law_odd : FnG P w K mg base 3 f__law_odd fd__law_odd ["_law_state"] (spF ⟨K, mg⟩ F__law_odd)) {f__law_pick : Addr} {fd__law_pick : FuncData} (D__law_pick : DefAt K mg "_law_pick" s__law_pick ["_law_state", "_law_several"] f__law_pick fd__law_pick) (G__law_pick : FnG P w K mg base 2 f__law_pick fd__law_pick ["_law_state", "_law_several"] (spF ⟨K, mg⟩ F__law_pick)) :
    FnG P w K mg base 4 f fd ["_law_state", "_law_row_here"] (spF ⟨K, mg⟩ F__law_bent) := by
  refine Fun.okG D.F sc__law_bent spF_len (fun cdv A fr s H vs Q E hgd hr h => ?_)
  have tk := takes_of (X := cxOf (L2.CX P w) P w K mg base ["_law_state", "_law_row_here", "_law_way", "_law_pairs", "_law_spot", "_law_word", "_law_num"] "_law_bent" (defScope s__law_bent) f cdv A fr s H E) (E := E) rfl rfl rfl rfl
  exact ⟨tSf ⟨K, mg⟩ (WB E) b__law_bent, (xss (pss_cons (xs (ps_par (i := 3) (j := 4) rfl sc__law_bent.nd rfl rfl (by decide) rfl rfl (pa_cons (xe (pe_callTy call_list_of (by rfl) T.b_list (by rfl) (xa (pa_cons (xe (pv 1) (sm_var 1)) (xa pa_nil sma_nil)) (sma_cons sm_s sma_s))) (sm_cb F_list sma_s)) (pa_cons (xe (pe_ifExp (xt (pt_cmpR (op_neP (huN hr (by decide))) (xe (pv 1) (sm_var 1)) (xe (pe_tupF (xa pa_nil sma_nil)) (sm_tup sma_s)) (nomark _)) (smt_test (sm_op F_ne sm_s sm_s))) (xe (pe_callG G__law_draw hgd (hr.mono (by decide)) (by rfl) D__law_draw.g D__law_draw.F.kp D__law_draw.b (fun σ => passAt (W := WB E) tk σ) (xa (pa_cons (xe (pv 0) (sm_var 0)) (xa (pa_cons (xe (pe_callB call_lenR (by rfl) T.b_len (by rfl) (xa (pa_cons (xe (pv 1) (sm_var 1)) (xa pa_nil sma_nil)) (sma_cons sm_s sma_s))) (sm_cb F_len sma_s)) (xa pa_nil sma_nil)) (sma_cons sm_s sma_s))) (sma_cons sm_s sma_s))) (sm_call sma_s)) (xe pe_int sm_int)) (sm_if smt_s sm_s sm_s)) pa_nil)) rfl) (sms_par 3 4 sm_s sm_s))
    (xss (pss_cons (xs (ps_set (i := 2) sc__law_bent.nd rfl (Or.inl rfl) (xe (pe_callG G__law_draw hgd (hr.mono (by decide)) (by rfl) D__law_draw.g D__law_draw.F.kp D__law_draw.b (fun σ => passAt (W := WB E) tk σ) (xa (pa_cons (xe (pv 0) (sm_var 0)) (xa (pa_cons (xe pe_int sm_int) (xa pa_nil sma_nil)) (sma_cons sm_s sma_s))) (sma_cons sm_s sma_s))) (sm_call sma_s))) (sms_asg sm_s (smg_name 2)))
    (xss (pss_cons (xs (ps_if (xt (pt_cmpR (op_eqP (huN hr (by decide))) (xe (pv 2) (sm_var 2)) (xe pe_int sm_int) (nomark _)) (smt_test (sm_op F_eq sm_s sm_s)))
    (xss (xss (pss_one (xs (ps_ret (pv 3)) (sms_retV 3))) sms_s) (sms_fz 3 sms_s))
    (xss pss_nil sms_next)) (sms_if smt_s sms_s sms_s))
    (xss (pss_cons (xs (ps_if (xt ((pw_or (xt (pt_cmpR (op_eqP (huN hr (by decide))) (xe (pv 1) (sm_var 1)) (xe (pe_tupF (xa pa_nil sma_nil)) (sm_tup sma_s)) (nomark _)) (smt_test (sm_op F_eq sm_s sm_s))) (pw_or1 (xt (pt_cmpR (op_eqP (huN hr (by decide))) (xe (pv 2) (sm_var 2)) (xe pe_int sm_int) (nomark _)) (smt_test (sm_op F_eq sm_s sm_s)))))).pt (smt_or smt_s smt_s))
    (xss (pss_one (xs (ps_ret (xe (pe_callG G__law_odd hgd (hr.mono (by decide)) (by rfl) D__law_odd.g D__law_odd.F.kp D__law_odd.b (fun σ => passAt (W := WB E) tk σ) (xa (pa_cons (xe (pv 0) (sm_var 0)) (xa pa_nil sma_nil)) (sma_cons sm_s sma_s))) (sm_call sma_s))) (sms_ret sm_s))) sms_s)
    (xss pss_nil sms_next)) (sms_if smt_s sms_s sms_s))
    (xss (pss_cons (xs (ps_if (xt (pt_cmpR (op_eqP (huN hr (by decide))) (xe (pv 2) (sm_var 2)) (xe pe_int sm_int) (nomark _)) (smt_test (sm_op F_eq sm_s sm_s)))
    (xss (pss_one (xs (ps_ret (xe (pe_rev (xe (pv 1) (sm_var 1)) (xe (pe_un un_negP (xe pe_int sm_int)) (sm_un F_neg sm_s))) (sm_op F_rev sm_s sm_s))) (sms_ret sm_s))) sms_s)
    (xss pss_nil sms_next)) (sms_if smt_s sms_s sms_s))
    (xss (xss (pss_cons (xs (ps_if (xt (pt_cmpR (op_eqP (huN hr (by decide))) (xe (pv 2) (sm_var 2)) (xe pe_int sm_int) (nomark _)) (smt_test (sm_op F_eq sm_s sm_s)))
    (xss (pss_one (xs (ps_ret (xe (pe_op op_addP (xe (pv 1) (sm_var 1)) (xe (pe_slice sl_anyP (xe (pv 1) (sm_var 1)) (xo (po_some (xe (pv 4) (sm_var 4))) (smo_some sm_s)) (xo (po_some (xe (pe_op op_addP (xe (pv 4) (sm_var 4)) (xe pe_int sm_int)) (sm_op F_add sm_s sm_s))) (smo_some sm_s))) (sm_sl sm_s smo_s smo_s))) (sm_op F_add sm_s sm_s))) (sms_ret sm_s))) sms_s)
    (xss pss_nil sms_next)) (sms_if smt_s sms_s sms_s))
    (xss (pss_cons (xs (ps_asg (xe (pe_ix ix_list (pv 3) (xe (pv 4) (sm_var 4)) (fun _ _ => rfl)) (sm_ixOwn 3 sm_s)) (pg_tup rfl (pgs_cons (pg_name (i := 5) sc__law_bent.nd rfl (Or.inl rfl)) (pgs_cons (pg_name (i := 6) sc__law_bent.nd rfl (Or.inl rfl)) pgs_nil)))) (sms_asg sm_s (smg_tup (smgs_cons (smg_name 5) (smgs_cons (smg_name 6) smgs_nil)))))
    (xss (pss_cons (xs (ps_asg (xe (pe_callG G__law_pick hgd (hr.mono (by decide)) (by rfl) D__law_pick.g D__law_pick.F.kp D__law_pick.b (fun σ => passAt (W := WB E) tk σ) (xa (pa_cons (xe (pv 0) (sm_var 0)) (xa (pa_cons (xe (pe_lst (xa (pa_cons (xe (pe_tupF (xa (pa_cons (xe (pv 5) (sm_var 5)) (xa (pa_cons (xe pe_bl sm_bl) (xa pa_nil sma_nil)) (sma_cons sm_s sma_s))) (sma_cons sm_s sma_s))) (sm_tup sma_s)) (xa (pa_cons (xe (pe_tupF (xa (pa_cons (xe (Fx.pe_upper (xe (pv 5) (sm_var 5))) (sm_upper sm_s)) (xa (pa_cons (xe (pv 6) (sm_var 6)) (xa pa_nil sma_nil)) (sma_cons sm_s sma_s))) (sma_cons sm_s sma_s))) (sm_tup sma_s)) (xa (pa_cons (xe (pe_tupF (xa (pa_cons (xe (pe_op op_addP (xe (pv 5) (sm_var 5)) (xe pe_str sm_str)) (sm_op F_add sm_s sm_s)) (xa (pa_cons (xe (pv 6) (sm_var 6)) (xa pa_nil sma_nil)) (sma_cons sm_s sma_s))) (sma_cons sm_s sma_s))) (sm_tup sma_s)) (xa (pa_cons (xe (pe_lst (xa (pa_cons (xe (pv 5) (sm_var 5)) (xa (pa_cons (xe (pv 6) (sm_var 6)) (xa pa_nil sma_nil)) (sma_cons sm_s sma_s))) (sma_cons sm_s sma_s))) (sm_lst sma_s)) (xa (pa_cons (xe (pe_tupF (xa (pa_cons (xe (pv 5) (sm_var 5)) (xa (pa_cons (xe (pv 6) (sm_var 6)) (xa (pa_cons (xe pe_int sm_int) (xa pa_nil sma_nil)) (sma_cons sm_s sma_s))) (sma_cons sm_s sma_s))) (sma_cons sm_s sma_s))) (sm_tup sma_s)) (xa (pa_cons (xe (pe_tupF (xa (pa_cons (xe (pv 5) (sm_var 5)) (xa (pa_cons (xe (pe_callTy call_str_int (by rfl) T.b_str (by rfl) (pa_cons (xe (pv 6) (sm_var 6)) pa_nil)) (sm_strI sm_s)) (xa pa_nil sma_nil)) (sma_cons sm_s sma_s))) (sma_cons sm_s sma_s))) (sm_tup sma_s)) (xa pa_nil sma_nil)) (sma_cons sm_s sma_s))) (sma_cons sm_s sma_s))) (sma_cons sm_s sma_s))) (sma_cons sm_s sma_s))) (sma_cons sm_s sma_s))) (sma_cons sm_s sma_s))) (sm_lst sma_s)) (xa pa_nil sma_nil)) (sma_cons sm_s sma_s))) (sma_cons sm_s sma_s))) (sm_call sma_s)) (pg_sub (pv 3) (xe (pv 4) (sm_var 4)) set_list)) (sms_lset 3 sm_s sm_s))
    (xss (xss (pss_one (xs (ps_ret (xe (pe_callTy call_tupleP (by rfl) T.b_tuple (by rfl) (xa (pa_cons (xe (pv 3) (sm_var 3)) (xa pa_nil sma_nil)) (sma_cons sm_s sma_s))) (sm_cb F_tuple sma_s))) (sms_ret sm_s))) sms_s) (sms_fz 3 sms_s))) (sms_seq sms_s sms_s))) (sms_seq sms_s sms_s))) (sms_seq sms_s sms_s)) (sms_fz 4 sms_s))) (sms_seq sms_s sms_s))) (sms_seq sms_s sms_s))) (sms_seq sms_s sms_s))) (sms_seq sms_s sms_s))) (sms_seq sms_s sms_s)),
    body_ok sms_s h⟩
theorem sc__law_is_row : FnScope ["_law_thing", "_law_pair", "_law_sign"] ["_law_thing"] (defScope s__law_is_row) := ⟨rfl, rfl, rfl, by decide +kernel, rfl, by decide +kernel, by decide +kernel⟩
theorem ok__law_is_row {f : Addr} {fd : FuncData} (D : DefAt K mg "_law_is_row" s__law_is_row ["_law_thing"] f fd) (T : Txt K mg E_BadPlan E_BadThing E_PlanError P) :
    FnG P w K mg base 1 f fd ["_law_thing"] (spF ⟨K, mg⟩ F__law_is_row) := by
  refine Fun.okG D.F sc__law_is_row spF_len (fun cdv A fr s H vs Q E hgd hr h => ?_)
  have tk := takes_of (X := cxOf (L2.CX P w) P w K mg base ["_law_thing", "_law_pair", "_law_sign"] "_law_is_row" (defScope s__law_is_row) f cdv A fr s H E) (E := E) rfl rfl rfl rfl
  exact ⟨tSf ⟨K, mg⟩ (WB E) b__law_is_row, (xss (pss_cons (xs (ps_if (xt (pt_not (xt (pt_val (xe (pe_callB call_isi (by rfl) T.b_isinstance (by rfl) (pa_cons (xe (pv 0) (sm_var 0)) (pa_cons (pe_bltn (v := .ty "tuple") (u := .type "tuple") (by rfl) T.b_tuple (by rfl) rfl) pa_nil))) (sm_isi T.A (by decide) sm_s))) (smt_test sm_s))) (smt_not smt_s))
    (xss (pss_one (xs (ps_ret (xe pe_bl sm_bl)) (sms_ret sm_s))) sms_s)
    (xss pss_nil sms_next)) (sms_if smt_s sms_s sms_s))
    (xss (pss_cons (xs (ps_for (passes_of rfl) rfl (xi (pi_seq (xe (pv 0) (sm_var 0))) (smi_seq sm_s)) (pg_name (i := 1) sc__law_is_row.nd rfl (Or.inl rfl))
    (xss (pss_cons (xs (ps_if (xt ((pw_or (xt (pt_not (xt (pt_val (xe (pe_callB call_isi (by rfl) T.b_isinstance (by rfl) (pa_cons (xe (pv 1) (sm_var 1)) (pa_cons (pe_bltn (v := .ty "tuple") (u := .type "tuple") (by rfl) T.b_tuple (by rfl) rfl) pa_nil))) (sm_isi T.A (by decide) sm_s))) (smt_test sm_s))) (smt_not smt_s)) (pw_or (xt (pt_cmpR (op_neP (huN hr (by decide))) (xe (pe_callB call_lenR (by rfl) T.b_len (by rfl) (xa (pa_cons (xe (pv 1) (sm_var 1)) (xa pa_nil sma_nil)) (sma_cons sm_s sma_s))) (sm_cb F_len sma_s)) (xe pe_int sm_int) (nomark _)) (smt_test (sm_op F_ne sm_s sm_s))) (pw_or (xt (pt_not (xt (pt_val (xe (pe_callB call_isi (by rfl) T.b_isinstance (by rfl) (pa_cons (xe (pe_ix (ix_anyP (huN hr (by decide))) (xe (pv 1) (sm_var 1)) (xe pe_int sm_int) (fun _ _ => rfl)) (sm_op F_ix sm_s sm_s)) (pa_cons (pe_bltn (v := .ty "str") (u := .type "str") (by rfl) T.b_str (by rfl) rfl) pa_nil))) (sm_isi T.A (by decide) sm_s))) (smt_test sm_s))) (smt_not smt_s)) (pw_or1 (xt (pt_not (xt (pt_chain op_leP op_leP (xe pe_int sm_int) (xe (pe_callB call_lenR (by rfl) T.b_len (by rfl) (xa (pa_cons (xe (pe_ix (ix_anyP (huN hr (by decide))) (xe (pv 1) (sm_var 1)) (xe pe_int sm_int) (fun _ _ => rfl)) (sm_op F_ix sm_s sm_s)) (xa pa_nil sma_nil)) (sma_cons sm_s sma_s))) (sm_cb F_len sma_s)) (xe pe_int sm_int)) (smt_test (sm_chain F_le F_le sm_s sm_s sm_s)))) (smt_not smt_s))))))).pt (smt_or smt_s (smt_or smt_s (smt_or smt_s smt_s))))
    (xss (pss_one (xs (ps_ret (xe pe_bl sm_bl)) (sms_ret sm_s))) sms_s)
    (xss pss_nil sms_next)) (sms_if smt_s sms_s sms_s))
    (xss (pss_cons (xs (ps_if (xt (pt_cmpR (op_neP (huN hr (by decide))) (xe (pe_lc (own := [("_law_sign", 2)]) (g := (gName 2)) (tt := tT ⟨K, mg⟩ W0 (fTest (fOp (oIn true) (fVar 2) (fC (.str "abcdefghijklmnopqrstuvwxyz"))))) (te := tE ⟨K, mg⟩ W0 (fVar 2)) rfl sc__law_is_row.nd (xiZ (pi_seq (pe_z (xe (pe_ix (ix_anyP (huN hr (by decide))) (xe (pv 1) (sm_var 1)) (xe pe_int sm_int) (fun _ _ => rfl)) (sm_op F_ix sm_s sm_s)))) (smi_seqZ sm_s)) (blkOk_by (by kernel_rfl)) (fun _ _ _ _ _ => (pg_name (i := 2) sc__law_is_row.nd rfl (Or.inl rfl))) (fun _ _ _ _ _ => (xts (pts_one (xt (pt_cmpR (op_notInP (huN hr (by decide))) (xe (pv 2) (sm_var 2)) (xe pe_str sm_str) (by rfl)) (smt_test (sm_op F_notIn sm_s sm_s)))) smt_s)) (fun _ _ _ _ _ => (xe (pv 2) (sm_var 2)))) (sm_lcU (w := false) smiZ_s (smg_name 2) smt_s sm_s (by decide))) (xe (pe_lst (xa pa_nil sma_nil)) (sm_lst sma_s)) (nomark _)) (smt_test (sm_op F_ne sm_s sm_s)))
    (xss (pss_one (xs (ps_ret (xe pe_bl sm_bl)) (sms_ret sm_s))) sms_s)
    (xss pss_nil sms_next)) (sms_if smt_s sms_s sms_s))
    (xss (pss_one (xs (ps_if (xt ((pw_or (xt (pt_not (xt (pt_val (xe (pe_callB call_isi (by rfl) T.b_isinstance (by rfl) (pa_cons (xe (pe_ix (ix_anyP (huN hr (by decide))) (xe (pv 1) (sm_var 1)) (xe pe_int sm_int) (fun _ _ => rfl)) (sm_op F_ix sm_s sm_s)) (pa_cons (pe_bltn (v := .ty "int") (u := .type "int") (by rfl) T.b_int (by rfl) rfl) pa_nil))) (sm_isi T.A (by decide) sm_s))) (smt_test sm_s))) (smt_not smt_s)) (pw_or1 (xt (pt_val (xe (pe_callB call_isi (by rfl) T.b_isinstance (by rfl) (pa_cons (xe (pe_ix (ix_anyP (huN hr (by decide))) (xe (pv 1) (sm_var 1)) (xe pe_int sm_int) (fun _ _ => rfl)) (sm_op F_ix sm_s sm_s)) (pa_cons (pe_bltn (v := .ty "bool") (u := .type "bool") (by rfl) T.b_bool (by rfl) rfl) pa_nil))) (sm_isi T.A (by decide) sm_s))) (smt_test sm_s))))).pt (smt_or smt_s smt_s))
    (xss (pss_one (xs (ps_ret (xe pe_bl sm_bl)) (sms_ret sm_s))) sms_s)
    (xss pss_nil sms_next)) (sms_if smt_s sms_s sms_s))) sms_s)) (sms_seq sms_s sms_s))) (sms_seq sms_s sms_s))) (sms_for (w := false) smi_s (smg_name 1) sms_s))
    (xss (pss_one (xs (ps_ret (xe (pe_cmpR (op_eqP (huN hr (by decide))) (xe (pe_lc (own := [("_law_pair", 1)]) (g := (gName 1)) (tt := tT ⟨K, mg⟩ W0 fYes) (te := tE ⟨K, mg⟩ W0 (fOp oIx (fVar 1) (fC (.int 0)))) rfl sc__law_is_row.nd (xiZ (pi_seq (pe_z (xe (pv 0) (sm_var 0)))) (smi_seqZ sm_s)) (blkOk_by (by kernel_rfl)) (fun _ _ _ _ _ => (pg_name (i := 1) sc__law_is_row.nd rfl (Or.inl rfl))) (fun _ _ _ _ _ => (xts pts_nil smt_yes)) (fun _ _ _ _ _ => (xe (pe_ix (ix_anyP (huN hr (by decide))) (xe (pv 1) (sm_var 1)) (xe pe_int sm_int) (fun _ _ => rfl)) (sm_op F_ix sm_s sm_s)))) (sm_lcU (w := false) smiZ_s (smg_name 1) smt_s sm_s (by decide))) (xe (pe_callB (cr_sortX rfl (huN hr (by decide))) (by rfl) T.b_sorted (by rfl) (pa_cons (pe_callTy (cr_setX rfl) (by rfl) T.b_set (by rfl) (pa_cons (xe (pe_lc (own := [("_law_pair", 1)]) (g := (gName 1)) (tt := tT ⟨K, mg⟩ W0 fYes) (te := tE ⟨K, mg⟩ W0 (fOp oIx (fVar 1) (fC (.int 0)))) rfl sc__law_is_row.nd (xiZ (pi_seq (pe_z (xe (pv 0) (sm_var 0)))) (smi_seqZ sm_s)) (blkOk_by (by kernel_rfl)) (fun _ _ _ _ _ => (pg_name (i := 1) sc__law_is_row.nd rfl (Or.inl rfl))) (fun _ _ _ _ _ => (xts pts_nil smt_yes)) (fun _ _ _ _ _ => (xe (pe_ix (ix_anyP (huN hr (by decide))) (xe (pv 1) (sm_var 1)) (xe pe_int sm_int) (fun _ _ => rfl)) (sm_op F_ix sm_s sm_s)))) (sm_lcU (w := false) smiZ_s (smg_name 1) smt_s sm_s (by decide))) pa_nil)) pa_nil)) (sm_sortSetX sm_s)) (nomark _)) (sm_op F_eq sm_s sm_s))) (sms_ret sm_s))) sms_s)) (sms_seq sms_s sms_s))) (sms_seq sms_s sms_s)),
    body_ok sms_s h⟩
theorem sc_is_name : FnScope ["thing", "sign"] ["thing"] (defScope s_is_name) := ⟨rfl, rfl, rfl, by decide +kernel, rfl, by decide +kernel, by decide +kernel⟩
theorem ok_is_name {f : Addr} {fd : FuncData} (D : DefAt K mg "is_name" s_is_name ["thing"] f fd) (T : Txt K mg E_BadPlan E_BadThing E_PlanError P) :
    FnG P w K mg base 1 f fd ["thing"] (spF ⟨K, mg⟩ F_is_name) := by
  obtain ⟨u_LETTERS, g_LETTERS, r_LETTERS⟩ := T.g_LETTERS
  obtain ⟨u_MOST_LETTERS, g_MOST_LETTERS, r_MOST_LETTERS⟩ := T.g_MOST_LETTERS
  refine Fun.okG D.F sc_is_name spF_len (fun cdv A fr s H vs Q E hgd hr h => ?_)
  have tk := takes_of (X := cxOf (L2.CX P w) P w K mg base ["thing", "sign"] "is_name" (defScope s_is_name) f cdv A fr s H E) (E := E) rfl rfl rfl rfl
  exact ⟨tSf ⟨K, mg⟩ (WB E) b_is_name, (xss (pss_cons (xs (ps_if (xt ((pw_or (xt (pt_not (xt (pt_val (xe (pe_callB call_isi (by rfl) T.b_isinstance (by rfl) (pa_cons (xe (pv 0) (sm_var 0)) (pa_cons (pe_bltn (v := .ty "str") (u := .type "str") (by rfl) T.b_str (by rfl) rfl) pa_nil))) (sm_isi T.A (by decide) sm_s))) (smt_test sm_s))) (smt_not smt_s)) (pw_or (xt (pt_cmpR op_ltP (xe (pe_callB call_lenR (by rfl) T.b_len (by rfl) (xa (pa_cons (xe (pv 0) (sm_var 0)) (xa pa_nil sma_nil)) (sma_cons sm_s sma_s))) (sm_cb F_len sma_s)) (xe pe_int sm_int) (nomark _)) (smt_test (sm_op F_lt sm_s sm_s))) (pw_or1 (xt (pt_cmpR op_gtP (xe (pe_callB call_lenR (by rfl) T.b_len (by rfl) (xa (pa_cons (xe (pv 0) (sm_var 0)) (xa pa_nil sma_nil)) (sma_cons sm_s sma_s))) (sm_cb F_len sma_s)) (xe (pe_glob (by rfl) g_MOST_LETTERS r_MOST_LETTERS) sm_int) (nomark _)) (smt_test (sm_op F_gt sm_s sm_s))))))).pt (smt_or smt_s (smt_or smt_s smt_s)))
    (xss (pss_one (xs (ps_ret (xe pe_bl sm_bl)) (sms_ret sm_s))) sms_s)
    (xss pss_nil sms_next)) (sms_if smt_s sms_s sms_s))
    (xss (pss_one (xs (ps_ret (xe (pe_callB (cr_all rfl) (by rfl) T.b_all (by rfl) (xa (pa_cons (xe (pe_lc (own := [("sign", 1)]) (g := (gName 1)) (tt := tT ⟨K, mg⟩ W0 fYes) (te := tE ⟨K, mg⟩ W0 (fOp (oIn false) (fVar 1) (fC (.str "abcdefghijklmnopqrstuvwxyz")))) rfl sc_is_name.nd (xiZ (pi_seq (pe_z (xe (pv 0) (sm_var 0)))) (smi_seqZ sm_s)) (blkOk_by (by kernel_rfl)) (fun _ _ _ _ _ => (pg_name (i := 1) sc_is_name.nd rfl (Or.inl rfl))) (fun _ _ _ _ _ => (xts pts_nil smt_yes)) (fun _ _ _ _ _ => (xe (pe_cmpR (op_inP (huN hr (by decide))) (xe (pv 1) (sm_var 1)) (xe (pe_glob (by rfl) g_LETTERS r_LETTERS) sm_str) (by rfl)) (sm_op F_in sm_s sm_s)))) (sm_lcU (w := false) smiZ_s (smg_name 1) smt_s sm_s (by decide))) (xa pa_nil sma_nil)) (sma_cons sm_s sma_s))) (sm_cb F_all sma_s))) (sms_ret sm_s))) sms_s)) (sms_seq sms_s sms_s)),
    body_ok sms_s h⟩
theorem sc_is_number : FnScope ["thing"] ["thing"] (defScope s_is_number) := ⟨rfl, rfl, rfl, by decide +kernel, rfl, by decide +kernel, by decide +kernel⟩
theorem ok_is_number {f : Addr} {fd : FuncData} (D : DefAt K mg "is_number" s_is_number ["thing"] f fd) (T : Txt K mg E_BadPlan E_BadThing E_PlanError P) :
    FnG P w K mg base 1 f fd ["thing"] (spF ⟨K, mg⟩ F_is_number) := by
  refine Fun.okG D.F sc_is_number spF_len (fun cdv A fr s H vs Q E hgd hr h => ?_)
  have tk := takes_of (X := cxOf (L2.CX P w) P w K mg base ["thing"] "is_number" (defScope s_is_number) f cdv A fr s H E) (E := E) rfl rfl rfl rfl
  exact ⟨tSf ⟨K, mg⟩ (WB E) b_is_number, (xss (pss_one (xs (ps_ret (xe (pe_and (xe (pe_callB call_isi (by rfl) T.b_isinstance (by rfl) (pa_cons (xe (pv 0) (sm_var 0)) (pa_cons (pe_bltn (v := .ty "int") (u := .type "int") (by rfl) T.b_int (by rfl) rfl) pa_nil))) (sm_isi T.A (by decide) sm_s)) (pe_one (xe (pe_not (xe (pe_callB call_isi (by rfl) T.b_isinstance (by rfl) (pa_cons (xe (pv 0) (sm_var 0)) (pa_cons (pe_bltn (v := .ty "bool") (u := .type "bool") (by rfl) T.b_bool (by rfl) rfl) pa_nil))) (sm_isi T.A (by decide) sm_s))) (sm_notV sm_s)))) (sm_andV sm_s sm_s))) (sms_ret sm_s))) sms_s),
    body_ok sms_s h⟩
theorem sc_is_pair : FnScope ["thing"] ["thing"] (defScope s_is_pair) := ⟨rfl, rfl, rfl, by decide +kernel, rfl, by decide +kernel, by decide +kernel⟩
theorem ok_is_pair {f : Addr} {fd : FuncData} (D : DefAt K mg "is_pair" s_is_pair ["thing"] f fd) (T : Txt K mg E_BadPlan E_BadThing E_PlanError P) {f_is_name : Addr} {fd_is_name : FuncData} (D_is_name : DefAt K mg "is_name" s_is_name ["thing"] f_is_name fd_is_name) (G_is_name : FnG P w K mg base 1 f_is_name fd_is_name ["thing"] (spF ⟨K, mg⟩ F_is_name)) {f_is_number : Addr} {fd_is_number : FuncData} (D_is_number : DefAt K mg "is_number" s_is_number ["thing"] f_is_number fd_is_number) (G_is_number : FnG P w K mg base 1 f_is_number fd_is_number ["thing"] (spF ⟨K, mg⟩ F_is_number)) :
    FnG P w K mg base 2 f fd ["thing"] (spF ⟨K, mg⟩ F_is_pair) := by
  refine Fun.okG D.F sc_is_pair spF_len (fun cdv A fr s H vs Q E hgd hr h => ?_)
  have tk := takes_of (X := cxOf (L2.CX P w) P w K mg base ["thing"] "is_pair" (defScope s_is_pair) f cdv A fr s H E) (E := E) rfl rfl rfl rfl
  exact ⟨tSf ⟨K, mg⟩ (WB E) b_is_pair, (xss (pss_one (xs (ps_ret (xe (pe_and (xe (pe_callB call_isi (by rfl) T.b_isinstance (by rfl) (pa_cons (xe (pv 0) (sm_var 0)) (pa_cons (pe_bltn (v := .ty "tuple") (u := .type "tuple") (by rfl) T.b_tuple (by rfl) rfl) pa_nil))) (sm_isi T.A (by decide) sm_s)) (pe_and (xe (pe_cmpR (op_eqP (huN hr (by decide))) (xe (pe_callB call_lenR (by rfl) T.b_len (by rfl) (xa (pa_cons (xe (pv 0) (sm_var 0)) (xa pa_nil sma_nil)) (sma_cons sm_s sma_s))) (sm_cb F_len sma_s)) (xe pe_int sm_int) (nomark _)) (sm_op F_eq sm_s sm_s)) (pe_and (xe (pe_callG G_is_name hgd (hr.mono (by decide)) (by rfl) D_is_name.g D_is_name.F.kp D_is_name.b (fun σ => passAt (W := WB E) tk σ) (xa (pa_cons (xe (pe_ix (ix_anyP (huN hr (by decide))) (xe (pv 0) (sm_var 0)) (xe pe_int sm_int) (fun _ _ => rfl)) (sm_op F_ix sm_s sm_s)) (xa pa_nil sma_nil)) (sma_cons sm_s sma_s))) (sm_call sma_s)) (pe_one (xe (pe_callG G_is_number hgd (hr.mono (by decide)) (by rfl) D_is_number.g D_is_number.F.kp D_is_number.b (fun σ => passAt (W := WB E) tk σ) (xa (pa_cons (xe (pe_ix (ix_anyP (huN hr (by decide))) (xe (pv 0) (sm_var 0)) (xe pe_int sm_int) (fun _ _ => rfl)) (sm_op F_ix sm_s sm_s)) (xa pa_nil sma_nil)) (sma_cons sm_s sma_s))) (sm_call sma_s)))))) (sm_andV sm_s (sm_andV sm_s (sm_andV sm_s sm_s))))) (sms_ret sm_s))) sms_s),
    body_ok sms_s h⟩
theorem sc_are_pairs : FnScope ["thing", "one", "other", "pair"] ["thing"] (defScope s_are_pairs) := ⟨rfl, rfl, rfl, by decide +kernel, rfl, by decide +kernel, by decide +kernel⟩
theorem ok_are_pairs {f : Addr} {fd : FuncData} (D : DefAt K mg "are_pairs" s_are_pairs ["thing"] f fd) (T : Txt K mg E_BadPlan E_BadThing E_PlanError P) {f_is_pair : Addr} {fd_is_pair : FuncData} (D_is_pair : DefAt K mg "is_pair" s_is_pair ["thing"] f_is_pair fd_is_pair) (G_is_pair : FnG P w K mg base 2 f_is_pair fd_is_pair ["thing"] (spF ⟨K, mg⟩ F_is_pair)) :
    FnG P w K mg base 3 f fd ["thing"] (spF ⟨K, mg⟩ F_are_pairs) := by
  refine Fun.okG D.F sc_are_pairs spF_len (fun cdv A fr s H vs Q E hgd hr h => ?_)
  have tk := takes_of (X := cxOf (L2.CX P w) P w K mg base ["thing", "one", "other", "pair"] "are_pairs" (defScope s_are_pairs) f cdv A fr s H E) (E := E) rfl rfl rfl rfl
  exact ⟨tSf ⟨K, mg⟩ (WB E) b_are_pairs, (xss (pss_cons (xs (ps_if (xt ((pw_or (xt (pt_not (xt (pt_val (xe (pe_callB call_isi (by rfl) T.b_isinstance (by rfl) (pa_cons (xe (pv 0) (sm_var 0)) (pa_cons (pe_bltn (v := .ty "tuple") (u := .type "tuple") (by rfl) T.b_tuple (by rfl) rfl) pa_nil))) (sm_isi T.A (by decide) sm_s))) (smt_test sm_s))) (smt_not smt_s)) (pw_or1 (xt (pt_not (xt (pt_val (xe (pe_callB (cr_all rfl) (by rfl) T.b_all (by rfl) (xa (pa_cons (xe (pe_lc (own := [("pair", 3)]) (g := (gName 3)) (tt := tT ⟨K, mg⟩ W0 fYes) (te := tE ⟨K, mg⟩ W0 (fCall F_is_pair (aCons (fVar 3) aNil))) rfl sc_are_pairs.nd (xiZ (pi_seq (pe_z (xe (pv 0) (sm_var 0)))) (smi_seqZ sm_s)) (blkOk_by (by kernel_rfl)) (fun _ _ _ _ _ => (pg_name (i := 3) sc_are_pairs.nd rfl (Or.inl rfl))) (fun _ _ _ _ _ => (xts pts_nil smt_yes)) (fun _ _ _ _ _ => (xe (pe_callG G_is_pair hgd (hr.mono (by decide)) (by rfl) D_is_pair.g D_is_pair.F.kp D_is_pair.b (fun σ => passAt (W := W0) takes0 σ) (xa (pa_cons (xe (pv 3) (sm_var 3)) (xa pa_nil sma_nil)) (sma_cons sm_s sma_s))) (sm_call sma_s)))) (sm_lcU (w := false) smiZ_s (smg_name 3) smt_s sm_s (by decide))) (xa pa_nil sma_nil)) (sma_cons sm_s sma_s))) (sm_cb F_all sma_s))) (smt_test sm_s))) (smt_not smt_s))))).pt (smt_or smt_s smt_s))
    (xss (pss_one (xs (ps_ret (xe pe_bl sm_bl)) (sms_ret sm_s))) sms_s)
    (xss pss_nil sms_next)) (sms_if smt_s sms_s sms_s))
    (xss (pss_one (xs (ps_ret (xe (pe_callB (cr_all rfl) (by rfl) T.b_all (by rfl) (xa (pa_cons (xe (pe_lc (own := [("one", 1), ("other", 2)]) (g := (gTup K 2 (gCons (gName 1) (gCons (gName 2) gNil)))) (tt := tT ⟨K, mg⟩ W0 fYes) (te := tE ⟨K, mg⟩ W0 (fOp oLt (fOp oIx (fVar 1) (fC (.int 0))) (fOp oIx (fVar 2) (fC (.int 0))))) rfl sc_are_pairs.nd (xiZ (RZ.pi_zipA (by rfl) T.b_zip (pa_z (xa (pa_cons (xe (pv 0) (sm_var 0)) (xa (pa_cons (xe (pe_slice sl_anyP (xe (pv 0) (sm_var 0)) (xo (po_some (xe pe_int sm_int)) (smo_some sm_s)) (xo po_none smo_none)) (sm_sl sm_s smo_s smo_s)) (xa pa_nil sma_nil)) (sma_cons sm_s sma_s))) (sma_cons sm_s sma_s)))) (smi_zipZ sma_s)) (blkOk_by (by kernel_rfl)) (fun _ _ _ _ _ => (pg_tup rfl (pgs_cons (pg_name (i := 1) sc_are_pairs.nd rfl (Or.inl rfl)) (pgs_cons (pg_name (i := 2) sc_are_pairs.nd rfl (Or.inl rfl)) pgs_nil)))) (fun _ _ _ _ _ => (xts pts_nil smt_yes)) (fun _ _ _ _ _ => (xe (pe_cmpR op_ltP (xe (pe_ix (ix_anyP (huN hr (by decide))) (xe (pv 1) (sm_var 1)) (xe pe_int sm_int) (fun _ _ => rfl)) (sm_op F_ix sm_s sm_s)) (xe (pe_ix (ix_anyP (huN hr (by decide))) (xe (pv 2) (sm_var 2)) (xe pe_int sm_int) (fun _ _ => rfl)) (sm_op F_ix sm_s sm_s)) (nomark _)) (sm_op F_lt sm_s sm_s)))) (sm_lcU (w := true) smiZ_s (smg_tup (smgs_cons (smg_name 1) (smgs_cons (smg_name 2) smgs_nil))) smt_s sm_s (by decide))) (xa pa_nil sma_nil)) (sma_cons sm_s sma_s))) (sm_cb F_all sma_s))) (sms_ret sm_s))) sms_s)) (sms_seq sms_s sms_s)),
    body_ok sms_s h⟩
theorem sc_is_plan : FnScope ["thing"] ["thing"] (defScope s_is_plan) := ⟨rfl, rfl, rfl, by decide +kernel, rfl, by decide +kernel, by decide +kernel⟩
theorem ok_is_plan {f : Addr} {fd : FuncData} (D : DefAt K mg "is_plan" s_is_plan ["thing"] f fd) (T : Txt K mg E_BadPlan E_BadThing E_PlanError P) {f_are_pairs : Addr} {fd_are_pairs : FuncData} (D_are_pairs : DefAt K mg "are_pairs" s_are_pairs ["thing"] f_are_pairs fd_are_pairs) (G_are_pairs : FnG P w K mg base 3 f_are_pairs fd_are_pairs ["thing"] (spF ⟨K, mg⟩ F_are_pairs)) :
    FnG P w K mg base 4 f fd ["thing"] (spF ⟨K, mg⟩ F_is_plan) := by
  refine Fun.okG D.F sc_is_plan spF_len (fun cdv A fr s H vs Q E hgd hr h => ?_)
  have tk := takes_of (X := cxOf (L2.CX P w) P w K mg base ["thing"] "is_plan" (defScope s_is_plan) f cdv A fr s H E) (E := E) rfl rfl rfl rfl
  exact ⟨tSf ⟨K, mg⟩ (WB E) b_is_plan, (xss (pss_one (xs (ps_ret (xe (pe_callG G_are_pairs hgd (hr.mono (by decide)) (by rfl) D_are_pairs.g D_are_pairs.F.kp D_are_pairs.b (fun σ => passAt (W := WB E) tk σ) (xa (pa_cons (xe (pv 0) (sm_var 0)) (xa pa_nil sma_nil)) (sma_cons sm_s sma_s))) (sm_call sma_s))) (sms_ret sm_s))) sms_s),
    body_ok sms_s h⟩
theorem sc_need_plan : FnScope ["plan"] ["plan"] (defScope s_need_plan) := ⟨rfl, rfl, rfl, by decide +kernel, rfl, by decide +kernel, by decide +kernel⟩
theorem ok_need_plan {f : Addr} {fd : FuncData} (D : DefAt K mg "need_plan" s_need_plan ["plan"] f fd) (T : Txt K mg E_BadPlan E_BadThing E_PlanError P) {f_are_pairs : Addr} {fd_are_pairs : FuncData} (D_are_pairs : DefAt K mg "are_pairs" s_are_pairs ["thing"] f_are_pairs fd_are_pairs) (G_are_pairs : FnG P w K mg base 3 f_are_pairs fd_are_pairs ["thing"] (spF ⟨K, mg⟩ F_are_pairs)) :
    FnG P w K mg base 4 f fd ["plan"] (spF ⟨K, mg⟩ F_need_plan) := by
  refine Fun.okG D.F sc_need_plan spF_len (fun cdv A fr s H vs Q E hgd hr h => ?_)
  have tk := takes_of (X := cxOf (L2.CX P w) P w K mg base ["plan"] "need_plan" (defScope s_need_plan) f cdv A fr s H E) (E := E) rfl rfl rfl rfl
  exact ⟨tSf ⟨K, mg⟩ (WB E) b_need_plan, (xss (pss_one (xs (ps_if (xt (pt_not (xt (pt_val (xe (pe_callG G_are_pairs hgd (hr.mono (by decide)) (by rfl) D_are_pairs.g D_are_pairs.F.kp D_are_pairs.b (fun σ => passAt (W := WB E) tk σ) (xa (pa_cons (xe (pv 0) (sm_var 0)) (xa pa_nil sma_nil)) (sma_cons sm_s sma_s))) (sm_call sma_s))) (smt_test sm_s))) (smt_not smt_s))
    (xss (pss_one (xs (ps_raiseC rfl tk (pmk_own PySem.F.excBase_ValueError T.x_BadPlan T.e_BadPlan T.k_BadPlan (raises_own T.s_BadPlan T.y_BadPlan) (by rfl))) (sms_raise T.e_BadPlan))) sms_s)
    (xss pss_nil sms_next)) (sms_if smt_s sms_s sms_s))) sms_s),
    body_ok sms_s h⟩
theorem sc_moment_in : FnScope ["plan", "name", "own", "moment"] ["plan", "name"] (defScope s_moment_in) := ⟨rfl, rfl, rfl, by decide +kernel, rfl, by decide +kernel, by decide +kernel⟩
theorem ok_moment_in {f : Addr} {fd : FuncData} (D : DefAt K mg "moment_in" s_moment_in ["plan", "name"] f fd) (T : Txt K mg E_BadPlan E_BadThing E_PlanError P) :
    FnG P w K mg base 1 f fd ["plan", "name"] (spF ⟨K, mg⟩ F_moment_in) := by
  refine Fun.okG D.F sc_moment_in spF_len (fun cdv A fr s H vs Q E hgd hr h => ?_)
  have tk := takes_of (X := cxOf (L2.CX P w) P w K mg base ["plan", "name", "own", "moment"] "moment_in" (defScope s_moment_in) f cdv A fr s H E) (E := E) rfl rfl rfl rfl
  exact ⟨tSf ⟨K, mg⟩ (WB E) b_moment_in, (xss (pss_cons (xs (ps_for (passes_of rfl) rfl (xi (pi_seq (xe (pv 0) (sm_var 0))) (smi_seq sm_s)) (pg_tup rfl (pgs_cons (pg_name (i := 2) sc_moment_in.nd rfl (Or.inl rfl)) (pgs_cons (pg_name (i := 3) sc_moment_in.nd rfl (Or.inl rfl)) pgs_nil)))
    (xss (pss_one (xs (ps_if (xt (pt_cmpR (op_eqP (huN hr (by decide))) (xe (pv 2) (sm_var 2)) (xe (pv 1) (sm_var 1)) (nomark _)) (smt_test (sm_op F_eq sm_s sm_s)))
    (xss (pss_one (xs (ps_ret (pv 3)) (sms_retV 3))) sms_s)
    (xss pss_nil sms_next)) (sms_if smt_s sms_s sms_s))) sms_s)) (sms_for (w := false) smi_s (smg_tup (smgs_cons (smg_name 2) (smgs_cons (smg_name 3) smgs_nil))) sms_s))
    (xss (pss_one (xs (ps_ret (xe pe_non sm_non)) (sms_ret sm_s))) sms_s)) (sms_seq sms_s sms_s)),
    body_ok sms_s h⟩
theorem sc_moment_of : FnScope ["plan", "name"] ["plan", "name"] (defScope s_moment_of) := ⟨rfl, rfl, rfl, by decide +kernel, rfl, by decide +kernel, by decide +kernel⟩
theorem ok_moment_of {f : Addr} {fd : FuncData} (D : DefAt K mg "moment_of" s_moment_of ["plan", "name"] f fd) (T : Txt K mg E_BadPlan E_BadThing E_PlanError P) {f_need_plan : Addr} {fd_need_plan : FuncData} (D_need_plan : DefAt K mg "need_plan" s_need_plan ["plan"] f_need_plan fd_need_plan) (G_need_plan : FnG P w K mg base 4 f_need_plan fd_need_plan ["plan"] (spF ⟨K, mg⟩ F_need_plan)) {f_is_name : Addr} {fd_is_name : FuncData} (D_is_name : DefAt K mg "is_name" s_is_name ["thing"] f_is_name fd_is_name) (G_is_name : FnG P w K mg base 1 f_is_name fd_is_name ["thing"] (spF ⟨K, mg⟩ F_is_name)) {f_moment_in : Addr} {fd_moment_in : FuncData} (D_moment_in : DefAt K mg "moment_in" s_moment_in ["plan", "name"] f_moment_in fd_moment_in) (G_moment_in : FnG P w K mg base 1 f_moment_in fd_moment_in ["plan", "name"] (spF ⟨K, mg⟩ F_moment_in)) :
    FnG P w K mg base 5 f fd ["plan", "name"] (spF ⟨K, mg⟩ F_moment_of) := by
  refine Fun.okG D.F sc_moment_of spF_len (fun cdv A fr s H vs Q E hgd hr h => ?_)
  have tk := takes_of (X := cxOf (L2.CX P w) P w K mg base ["plan", "name"] "moment_of" (defScope s_moment_of) f cdv A fr s H E) (E := E) rfl rfl rfl rfl
  exact ⟨tSf ⟨K, mg⟩ (WB E) b_moment_of, (xss (pss_cons (xs (ps_expr (xe (pe_callG G_need_plan hgd (hr.mono (by decide)) (by rfl) D_need_plan.g D_need_plan.F.kp D_need_plan.b (fun σ => passAt (W := WB E) tk σ) (xa (pa_cons (xe (pv 0) (sm_var 0)) (xa pa_nil sma_nil)) (sma_cons sm_s sma_s))) (sm_call sma_s))) (sms_drop sm_s))
    (xss (pss_cons (xs (ps_if (xt (pt_not (xt (pt_val (xe (pe_callG G_is_name hgd (hr.mono (by decide)) (by rfl) D_is_name.g D_is_name.F.kp D_is_name.b (fun σ => passAt (W := WB E) tk σ) (xa (pa_cons (xe (pv 1) (sm_var 1)) (xa pa_nil sma_nil)) (sma_cons sm_s sma_s))) (sm_call sma_s))) (smt_test sm_s))) (smt_not smt_s))
    (xss (pss_one (xs (ps_raiseA (k := 0) rfl tk T.i_BadThing (hr.mono (by decide)) (by rfl) T.e_BadThing (xe (pv 1) (sm_var 1))) (sms_raiseA T.e_BadThing sm_s))) sms_s)
    (xss pss_nil sms_next)) (sms_if smt_s sms_s sms_s))
    (xss (pss_one (xs (ps_ret (xe (pe_callG G_moment_in hgd (hr.mono (by decide)) (by rfl) D_moment_in.g D_moment_in.F.kp D_moment_in.b (fun σ => passAt (W := WB E) tk σ) (xa (pa_cons (xe (pv 0) (sm_var 0)) (xa (pa_cons (xe (pv 1) (sm_var 1)) (xa pa_nil sma_nil)) (sma_cons sm_s sma_s))) (sma_cons sm_s sma_s))) (sm_call sma_s))) (sms_ret sm_s))) sms_s)) (sms_seq sms_s sms_s))) (sms_seq sms_s sms_s)),
    body_ok sms_s h⟩
theorem sc__law_error : FnScope ["_law_work", "_law_caught", "_law_error_here"] ["_law_work"] (defScope s__law_error) := ⟨rfl, rfl, rfl, by decide +kernel, rfl, by decide +kernel, by decide +kernel⟩
theorem ok__law_error {N : List Str} {qual q : Str} {sc : Scope} {f g : Addr} {cdv : Value} {A : Around} {fr : List Env} {s : Shared} {H : Hp} {E : XK} (T : Txt K mg E_BadPlan E_BadThing E_PlanError P) (hgd : (cxOf (L2.CX P w) P w K mg base N qual sc f cdv A fr s H E).A.guards = some []) (hr : Room 3 (cxOf (L2.CX P w) P w K mg base N qual sc f cdv A fr s H E).A) (cdg : Value) :
    GivesW (cxOf (L2.CX P w) P w K mg base N qual sc f cdv A fr s H E) ["_law_work", "_law_caught", "_law_error_here"] "_law_error" (defScope s__law_error) g cdg (defBody s__law_error) "_law_work" q (TTw ⟨K, mg⟩ F__law_error) := by
  refine gives_mark (k := 2) (i := 2) (m := "_law_caught") (n := "_law_error_here") T.E T.e_PlanError rfl (by decide) (by decide) (by decide) sc__law_error.nd rfl rfl rfl rfl rfl rfl hgd hr rfl (fun cdv A fr s H hgd hr => ?_) (by decide) (by decide) cdg
  exact ⟨tSf ⟨K, mg⟩ (WB C8.E0) b__law_error, (xss (pss_one (xs (ps_ret (pv 1)) (sms_retV 1))) sms_s), sms_s⟩
theorem sc_law : FnScope ["_law_script", "_law_state", "_law_turn", "_law_words_here", "_law_row_here", "_law_item", "_law_due", "_law_name", "_law_odd_here", "_law_error_here"] ["_law_script"] (defScope s_law) := ⟨rfl, rfl, rfl, by decide +kernel, rfl, by decide +kernel, by decide +kernel⟩
theorem ok_law {f : Addr} {fd : FuncData} (D : DefAt K mg "law" s_law ["_law_script"] f fd) (T : Txt K mg E_BadPlan E_BadThing E_PlanError P) {f_b : Addr} {fd_b : FuncData} (D_b : DefAt K mg "_law_begun" s__law_begun ["_law_script"] f_b fd_b) (G_b : FnG P w K mg base 1 f_b fd_b ["_law_script"] (spBegun ⟨K, mg⟩)) (right : LawRight 8 b_law) {f__law_words : Addr} {fd__law_words : FuncData} (D__law_words : DefAt K mg "_law_words" s__law_words ["_law_state", "_law_many"] f__law_words fd__law_words) (G__law_words : FnG P w K mg base 3 f__law_words fd__law_words ["_law_state", "_law_many"] (spF ⟨K, mg⟩ F__law_words)) {f__law_draw : Addr} {fd__law_draw : FuncData} (D__law_draw : DefAt K mg "_law_draw" s__law_draw ["_law_state", "_law_size"] f__law_draw fd__law_draw) (G__law_draw : FnG P w K mg base 1 f__law_draw fd__law_draw ["_law_state", "_law_size"] (spF ⟨K, mg⟩ F__law_draw)) {f__law_row : Addr} {fd__law_row : FuncData} (D__law_row : DefAt K mg "_law_row" s__law_row ["_law_state", "_law_words_here", "_law_wide"] f__law_row fd__law_row) (G__law_row : FnG P w K mg base 3 f__law_row fd__law_row ["_law_state", "_law_words_here", "_law_wide"] (spF ⟨K, mg⟩ F__law_row)) {f__law_bent : Addr} {fd__law_bent : FuncData} (D__law_bent : DefAt K mg "_law_bent" s__law_bent ["_law_state", "_law_row_here"] f__law_bent fd__law_bent) (G__law_bent : FnG P w K mg base 4 f__law_bent fd__law_bent ["_law_state", "_law_row_here"] (spF ⟨K, mg⟩ F__law_bent)) {f__law_is_row : Addr} {fd__law_is_row : FuncData} (D__law_is_row : DefAt K mg "_law_is_row" s__law_is_row ["_law_thing"] f__law_is_row fd__law_is_row) (G__law_is_row : FnG P w K mg base 1 f__law_is_row fd__law_is_row ["_law_thing"] (spF ⟨K, mg⟩ F__law_is_row)) {f_is_plan : Addr} {fd_is_plan : FuncData} (D_is_plan : DefAt K mg "is_plan" s_is_plan ["thing"] f_is_plan fd_is_plan) (G_is_plan : FnG P w K mg base 4 f_is_plan fd_is_plan ["thing"] (spF ⟨K, mg⟩ F_is_plan)) {f__law_pick : Addr} {fd__law_pick : FuncData} (D__law_pick : DefAt K mg "_law_pick" s__law_pick ["_law_state", "_law_several"] f__law_pick fd__law_pick) (G__law_pick : FnG P w K mg base 2 f__law_pick fd__law_pick ["_law_state", "_law_several"] (spF ⟨K, mg⟩ F__law_pick)) {f_moment_of : Addr} {fd_moment_of : FuncData} (D_moment_of : DefAt K mg "moment_of" s_moment_of ["plan", "name"] f_moment_of fd_moment_of) (G_moment_of : FnG P w K mg base 5 f_moment_of fd_moment_of ["plan", "name"] (spF ⟨K, mg⟩ F_moment_of)) {f__law_error : Addr} {fd__law_error : FuncData} (D__law_error : DefAt K mg "_law_error" s__law_error ["_law_work"] f__law_error fd__law_error) {cT pT : Addr} (hcT : fd.code = .ref cT) (TB : LamX.TabB base mg cT pT) (lamM : (pT, ("law" : Str) ++ ".<locals>.<lambda>") ∈ lamT ⟨K, mg⟩) (lamU : ∀ p ∈ lamT ⟨K, mg⟩, p.1 = pT → p.2 = ("law" : Str) ++ ".<locals>.<lambda>") :
    FnG P w K mg base 8 f fd ["_law_script"] (spLaw ⟨K, mg⟩) := by
  refine Fun.okGC D.F sc_law (fun vs H Q E h => by obtain ⟨a, ns, rfl, _⟩ := h; rfl) (fun cdv h0 A fr s H vs Q E hgd hr h => ?_)
  obtain rfl := h0.symm.trans hcT
  have tk := takes_of (X := cxOf (L2.CX P w) P w K mg base ["_law_script", "_law_state", "_law_turn", "_law_words_here", "_law_row_here", "_law_item", "_law_due", "_law_name", "_law_odd_here", "_law_error_here"] "law" (defScope s_law) f (.ref cT) A fr s H E) (E := E) rfl rfl rfl rfl
  exact ⟨_, pss_cons (ps_set (i := 1) sc_law.nd rfl (Or.inl rfl) (pe_callG G_b hgd (hr.mono (by decide)) (by rfl) D_b.g D_b.F.kp D_b.b (fun σ => passAt (W := WB E) tk σ) (pa_cons (pv 0) pa_nil)))
    (xss (pss_cons (xs (ps_for (passes_of rfl) rfl (xi (pi_range1 (by rfl) T.b_range (xa (pa_cons (xe (pe_op op_addP (xe pe_int sm_int) (xe (pe_callB (call_min2 rfl) (by rfl) T.b_min (by rfl) (xa (pa_cons (xe (pe_callB call_lenR (by rfl) T.b_len (by rfl) (xa (pa_cons (xe (pv 0) (sm_var 0)) (xa pa_nil sma_nil)) (sma_cons sm_s sma_s))) (sm_cb F_len sma_s)) (xa (pa_cons (xe pe_int sm_int) (xa pa_nil sma_nil)) (sma_cons sm_s sma_s))) (sma_cons sm_s sma_s))) (sm_cb F_min2 sma_s))) (sm_op F_add sm_s sm_s)) (xa pa_nil sma_nil)) (sma_cons sm_s sma_s))) (smi_rng1 sma_s)) (pg_name (i := 2) sc_law.nd rfl (Or.inl rfl))
    (xss (pss_cons (xs (ps_set (i := 3) sc_law.nd rfl (Or.inl rfl) (xe (pe_callG G__law_words hgd (hr.mono (by decide)) (by rfl) D__law_words.g D__law_words.F.kp D__law_words.b (fun σ => passAt (W := WB E) tk σ) (xa (pa_cons (xe (pv 1) (sm_var 1)) (xa (pa_cons (xe (pe_op op_addP (xe pe_int sm_int) (xe (pe_callG G__law_draw hgd (hr.mono (by decide)) (by rfl) D__law_draw.g D__law_draw.F.kp D__law_draw.b (fun σ => passAt (W := WB E) tk σ) (xa (pa_cons (xe (pv 1) (sm_var 1)) (xa (pa_cons (xe pe_int sm_int) (xa pa_nil sma_nil)) (sma_cons sm_s sma_s))) (sma_cons sm_s sma_s))) (sm_call sma_s))) (sm_op F_add sm_s sm_s)) (xa pa_nil sma_nil)) (sma_cons sm_s sma_s))) (sma_cons sm_s sma_s))) (sm_call sma_s))) (sms_asg sm_s (smg_name 3)))
    (xss (pss_cons (xs (ps_set (i := 4) sc_law.nd rfl (Or.inr rfl) (xe (pe_callG G__law_row hgd (hr.mono (by decide)) (by rfl) D__law_row.g D__law_row.F.kp D__law_row.b (fun σ => passAt (W := WB E) tk σ) (xa (pa_cons (xe (pv 1) (sm_var 1)) (xa (pa_cons (xe (pv 3) (sm_var 3)) (xa (pa_cons (xe pe_int sm_int) (xa pa_nil sma_nil)) (sma_cons sm_s sma_s))) (sma_cons sm_s sma_s))) (sma_cons sm_s sma_s))) (sm_call sma_s))) (sms_asg sm_s (smg_name 4)))
    (xss (pss_cons (xs (ps_set (i := 5) sc_law.nd rfl (Or.inr rfl) (xe (pe_ifExp (xt (pt_cmpR op_gtP (xe (pe_callG G__law_draw hgd (hr.mono (by decide)) (by rfl) D__law_draw.g D__law_draw.F.kp D__law_draw.b (fun σ => passAt (W := WB E) tk σ) (xa (pa_cons (xe (pv 1) (sm_var 1)) (xa (pa_cons (xe pe_int sm_int) (xa pa_nil sma_nil)) (sma_cons sm_s sma_s))) (sma_cons sm_s sma_s))) (sm_call sma_s)) (xe pe_int sm_int) (nomark _)) (smt_test (sm_op F_gt sm_s sm_s))) (xe (pe_callG G__law_bent hgd (hr.mono (by decide)) (by rfl) D__law_bent.g D__law_bent.F.kp D__law_bent.b (fun σ => passAt (W := WB E) tk σ) (xa (pa_cons (xe (pv 1) (sm_var 1)) (xa (pa_cons (xe (pv 4) (sm_var 4)) (xa pa_nil sma_nil)) (sma_cons sm_s sma_s))) (sma_cons sm_s sma_s))) (sm_call sma_s)) (xe (pv 4) (sm_var 4))) (sm_if smt_s sm_s sm_s))) (sms_asg sm_s (smg_name 5)))
    (xss (pss_cons (xs (ps_set (i := 6) sc_law.nd rfl (Or.inl rfl) (xe (pe_callG G__law_is_row hgd (hr.mono (by decide)) (by rfl) D__law_is_row.g D__law_is_row.F.kp D__law_is_row.b (fun σ => passAt (W := WB E) tk σ) (xa (pa_cons (xe (pv 5) (sm_var 5)) (xa pa_nil sma_nil)) (sma_cons sm_s sma_s))) (sm_call sma_s))) (sms_asg sm_s (smg_name 6)))
    (xss (pss_cons (xs (ps_if (xt (pt_cmpR (op_neP (huN hr (by decide))) (xe (pe_callB (call_reprE hgd (huN hr (by decide))) (by rfl) T.b_repr (by rfl) (xa (pa_cons (xe (pe_lst (xa (pa_cons (xe (pe_callG G_is_plan hgd (hr.mono (by decide)) (by rfl) D_is_plan.g D_is_plan.F.kp D_is_plan.b (fun σ => passAt (W := WB E) tk σ) (xa (pa_cons (xe (pv 5) (sm_var 5)) (xa pa_nil sma_nil)) (sma_cons sm_s sma_s))) (sm_call sma_s)) (xa (pa_cons (xe (pe_callGK0 G_is_plan hgd (hr.mono (by decide)) (by rfl) D_is_plan.g D_is_plan.F.kp (kb_of (n := 0) (m := 1) (ix := [0]) D_is_plan.F (by decide) (fun _ _ _ _ _ _ us ws hu hw => match us, ws, hu, hw with | [], [_], _, _ => rfl)) (fun σ => passAt (W := WB E) tk σ) (xk (pk_cons (xe (pv 5) (sm_var 5)) (xk pk_nil sma_nil)) (sma_cons sm_s sma_s))) (sm_callK sma_nil sma_s)) (xa pa_nil sma_nil)) (sma_cons sm_s sma_s))) (sma_cons sm_s sma_s))) (sm_lst sma_s)) (xa pa_nil sma_nil)) (sma_cons sm_s sma_s))) (sm_cb F_reprE sma_s)) (xe (pe_callB (call_reprE hgd (huN hr (by decide))) (by rfl) T.b_repr (by rfl) (xa (pa_cons (xe (pe_lst (xa (pa_cons (xe (pv 6) (sm_var 6)) (xa (pa_cons (xe (pv 6) (sm_var 6)) (xa pa_nil sma_nil)) (sma_cons sm_s sma_s))) (sma_cons sm_s sma_s))) (sm_lst sma_s)) (xa pa_nil sma_nil)) (sma_cons sm_s sma_s))) (sm_cb F_reprE sma_s)) (nomark _)) (smt_test (sm_op F_ne sm_s sm_s)))
    (xss (pss_one (xs (ps_ret (xe pe_bl sm_bl)) (sms_ret sm_s))) sms_s)
    (xss pss_nil sms_next)) (sms_if smt_s sms_s sms_s))
    (xss (pss_cons (xs (ps_set (i := 7) sc_law.nd rfl (Or.inl rfl) (xe (pe_callG G__law_pick hgd (hr.mono (by decide)) (by rfl) D__law_pick.g D__law_pick.F.kp D__law_pick.b (fun σ => passAt (W := WB E) tk σ) (xa (pa_cons (xe (pv 1) (sm_var 1)) (xa (pa_cons (xe (pe_op op_addP (xe (pv 3) (sm_var 3)) (xe (pe_lst (xa (pa_cons (xe pe_str sm_str) (xa pa_nil sma_nil)) (sma_cons sm_s sma_s))) (sm_lst sma_s))) (sm_op F_add sm_s sm_s)) (xa pa_nil sma_nil)) (sma_cons sm_s sma_s))) (sma_cons sm_s sma_s))) (sm_call sma_s))) (sms_asg sm_s (smg_name 7)))
    (xss (pss_cons (xs (ps_if (xt (pt_val (xe (pv 6) (sm_var 6))) (smt_test sm_s))
    (xss (pss_one (xs (ps_if (xt ((pw_or (xt (pt_cmpR (op_neP (huN hr (by decide))) (xe (pe_callB (call_reprE hgd (huN hr (by decide))) (by rfl) T.b_repr (by rfl) (xa (pa_cons (xe (pe_callG G_moment_of hgd (hr.mono (by decide)) (by rfl) D_moment_of.g D_moment_of.F.kp D_moment_of.b (fun σ => passAt (W := WB E) tk σ) (xa (pa_cons (xe (pv 5) (sm_var 5)) (xa (pa_cons (xe (pv 7) (sm_var 7)) (xa pa_nil sma_nil)) (sma_cons sm_s sma_s))) (sma_cons sm_s sma_s))) (sm_call sma_s)) (xa pa_nil sma_nil)) (sma_cons sm_s sma_s))) (sm_cb F_reprE sma_s)) (xe (pe_callB (call_reprE hgd (huN hr (by decide))) (by rfl) T.b_repr (by rfl) (xa (pa_cons (xe (pe_mr PySem.F.plainAttrs_dict PySem.F.slot_dict_get PySem.F.type_dict_get (mt_getF (huN hr (by decide))) (xe (pe_callTy (cr_dictP rfl) (by rfl) T.b_dict (by rfl) (xa (pa_cons (xe (pv 5) (sm_var 5)) (xa pa_nil sma_nil)) (sma_cons sm_s sma_s))) (sm_cb F_dict sma_s)) (xa (pa_cons (xe (pv 7) (sm_var 7)) (xa (pa_cons (xe pe_non sm_non) (xa pa_nil sma_nil)) (sma_cons sm_s sma_s))) (sma_cons sm_s sma_s))) (sm_m (.inr (.inl rfl)) sm_s sma_s)) (xa pa_nil sma_nil)) (sma_cons sm_s sma_s))) (sm_cb F_reprE sma_s)) (nomark _)) (smt_test (sm_op F_ne sm_s sm_s))) (pw_or1 (xt (pt_cmpR (op_neP (huN hr (by decide))) (xe (pe_callGK0 G_moment_of hgd (hr.mono (by decide)) (by rfl) D_moment_of.g D_moment_of.F.kp (kb_of (n := 0) (m := 2) (ix := [1, 0]) D_moment_of.F (by decide) (fun _ _ _ _ _ _ us ws hu hw => match us, ws, hu, hw with | [], [_, _], _, _ => rfl)) (fun σ => passAt (W := WB E) tk σ) (xk (pk_cons (xe (pv 7) (sm_var 7)) (xk (pk_cons (xe (pv 5) (sm_var 5)) (xk pk_nil sma_nil)) (sma_cons sm_s sma_s))) (sma_cons sm_s sma_s))) (sm_callK sma_nil sma_s)) (xe (pe_callG G_moment_of hgd (hr.mono (by decide)) (by rfl) D_moment_of.g D_moment_of.F.kp D_moment_of.b (fun σ => passAt (W := WB E) tk σ) (xa (pa_cons (xe (pv 5) (sm_var 5)) (xa (pa_cons (xe (pv 7) (sm_var 7)) (xa pa_nil sma_nil)) (sma_cons sm_s sma_s))) (sma_cons sm_s sma_s))) (sm_call sma_s)) (nomark _)) (smt_test (sm_op F_ne sm_s sm_s)))))).pt (smt_or smt_s smt_s))
    (xss (pss_one (xs (ps_ret (xe pe_bl sm_bl)) (sms_ret sm_s))) sms_s)
    (xss pss_nil sms_next)) (sms_if smt_s sms_s sms_s))) sms_s)
    (xss (pss_one (xs (ps_if (xt (pt_not (xt (pt_val (xe (pe_callB call_isEN (by rfl) T.b_isinstance (by rfl) (pa_cons (xe (pe_lamF (k := 5) D__law_error.F (by rfl) D__law_error.g D__law_error.b sc__law_error (by rfl) (.inl rfl) (ok__law_error T hgd (hr.mono (by decide))) (by rfl) hgd TB rfl (hr.mono (by decide)) (LamX.lamS_by (sc := defScope s_law) (by decide +kernel)) (by rfl) (fun _ _ _ _ _ => rfl) (fun A outer s H E f c' hgd hr => (xe (pe_callG G_moment_of hgd (hr.mono (by decide)) (by rfl) D_moment_of.g D_moment_of.F.kp D_moment_of.b (fun σ => passAt (W := WB E) lam_takes σ) (xa (pa_cons (xe (pv 5) (sm_var 5)) (xa (pa_cons (xe pe_non sm_non) (xa pa_nil sma_nil)) (sma_cons sm_s sma_s))) (sma_cons sm_s sma_s))) (sm_call sma_s)))) (sm_lamF lamM lamU fun E => sm_s)) (pa_cons (pe_glob (v := .ref E_BadPlan) (by rfl) T.e_BadPlan rfl) pa_nil))) (sm_isEr T.E (by decide +kernel) T.e_BadPlan sm_s))) (smt_test sm_s))) (smt_not smt_s))
    (xss (pss_one (xs (ps_ret (xe pe_bl sm_bl)) (sms_ret sm_s))) sms_s)
    (xss pss_nil sms_next)) (sms_if smt_s sms_s sms_s))) sms_s)) (sms_if smt_s sms_s sms_s))
    (xss (pss_cons (xs (ps_set (i := 8) sc_law.nd rfl (Or.inr rfl) (xe (pe_callG G__law_pick hgd (hr.mono (by decide)) (by rfl) D__law_pick.g D__law_pick.F.kp D__law_pick.b (fun σ => passAt (W := WB E) tk σ) (xa (pa_cons (xe (pv 1) (sm_var 1)) (xa (pa_cons (xe (pe_lst (xa (pa_cons (xe pe_non sm_non) (xa (pa_cons (xe pe_int sm_int) (xa (pa_cons (xe pe_str sm_str) (xa (pa_cons (xe pe_str sm_str) (xa (pa_cons (xe pe_str sm_str) (xa (pa_cons (xe (pe_lst (xa (pa_cons (xe pe_str sm_str) (xa pa_nil sma_nil)) (sma_cons sm_s sma_s))) (sm_lst sma_s)) (xa (pa_cons (xe (pe_tupF (xa (pa_cons (xe pe_str sm_str) (xa (pa_cons (xe pe_int sm_int) (xa pa_nil sma_nil)) (sma_cons sm_s sma_s))) (sma_cons sm_s sma_s))) (sm_tup sma_s)) (xa (pa_cons (xe pe_bl sm_bl) (xa (pa_cons (xe pe_str sm_str) (xa (pa_cons (xe pe_str sm_str) (xa pa_nil sma_nil)) (sma_cons sm_s sma_s))) (sma_cons sm_s sma_s))) (sma_cons sm_s sma_s))) (sma_cons sm_s sma_s))) (sma_cons sm_s sma_s))) (sma_cons sm_s sma_s))) (sma_cons sm_s sma_s))) (sma_cons sm_s sma_s))) (sma_cons sm_s sma_s))) (sma_cons sm_s sma_s))) (sm_lst sma_s)) (xa pa_nil sma_nil)) (sma_cons sm_s sma_s))) (sma_cons sm_s sma_s))) (sm_call sma_s))) (sms_asg sm_s (smg_name 8)))
    (xss (pss_cons (xs (ps_set (i := 9) sc_law.nd rfl (Or.inl rfl) (xe (pe_lamF (k := 5) D__law_error.F (by rfl) D__law_error.g D__law_error.b sc__law_error (by rfl) (.inl rfl) (ok__law_error T hgd (hr.mono (by decide))) (by rfl) hgd TB rfl (hr.mono (by decide)) (LamX.lamS_by (sc := defScope s_law) (by decide +kernel)) (by rfl) (fun _ _ _ _ _ => rfl) (fun A outer s H E f c' hgd hr => (xe (pe_callG G_moment_of hgd (hr.mono (by decide)) (by rfl) D_moment_of.g D_moment_of.F.kp D_moment_of.b (fun σ => passAt (W := WB E) lam_takes σ) (xa (pa_cons (xe (pv 4) (sm_var 4)) (xa (pa_cons (xe (pv 8) (sm_var 8)) (xa pa_nil sma_nil)) (sma_cons sm_s sma_s))) (sma_cons sm_s sma_s))) (sm_call sma_s)))) (sm_lamF lamM lamU fun E => sm_s))) (sms_asg sm_s (smg_name 9)))
    (xss (pss_one (xs (ps_if (xt ((pw_or (xt (pt_not (xt (pt_val (xe (pe_callB call_isEN (by rfl) T.b_isinstance (by rfl) (pa_cons (xe (pv 9) (sm_var 9)) (pa_cons (pe_glob (v := .ref E_BadThing) (by rfl) T.e_BadThing rfl) pa_nil))) (sm_isEr T.E (by decide +kernel) T.e_BadThing sm_s))) (smt_test sm_s))) (smt_not smt_s)) (pw_or1 (xt (pt_cmpR (op_neP (huN hr (by decide))) (xe (pe_callB (call_reprE hgd (huN hr (by decide))) (by rfl) T.b_repr (by rfl) (xa (pa_cons (xe (pe_erF (xe (pv 9) (sm_var 9)) rfl) (sm_erF T.f_thing sm_s)) (xa pa_nil sma_nil)) (sma_cons sm_s sma_s))) (sm_cb F_reprE sma_s)) (xe (pe_callB (call_reprE hgd (huN hr (by decide))) (by rfl) T.b_repr (by rfl) (xa (pa_cons (xe (pv 8) (sm_var 8)) (xa pa_nil sma_nil)) (sma_cons sm_s sma_s))) (sm_cb F_reprE sma_s)) (nomark _)) (smt_test (sm_op F_ne sm_s sm_s)))))).pt (smt_or smt_s smt_s))
    (xss (pss_one (xs (ps_ret (xe pe_bl sm_bl)) (sms_ret sm_s))) sms_s)
    (xss pss_nil sms_next)) (sms_if smt_s sms_s sms_s))) sms_s)) (sms_seq sms_s sms_s))) (sms_seq sms_s sms_s))) (sms_seq sms_s sms_s))) (sms_seq sms_s sms_s))) (sms_seq sms_s sms_s))) (sms_seq sms_s sms_s))) (sms_seq sms_s sms_s))) (sms_seq sms_s sms_s))) (sms_seq sms_s sms_s))) (sms_for (w := false) smi_s (smg_name 2) sms_s))
    (xss (pss_one (xs (ps_ret (xe pe_bl sm_bl)) (sms_ret sm_s))) sms_s)) (sms_seq sms_s sms_s)),
    law_reads (n0 := "_law_script") (n1 := "_law_state") (Ns := ["_law_turn", "_law_words_here", "_law_row_here", "_law_item", "_law_due", "_law_name", "_law_odd_here", "_law_error_here"]) sms_s right h⟩
end
theorem all_mk {l : PySem.W.OpenLaw} {w : World} {K : PySem.W.Frag} {h : Heap} {mg : Str → Option Value} {fa : Addr} {cs : List (Addr × Addr)} (X : K.In h) (G : h.Ns mainGlobals mg) (hfa : mg "law" = some (.ref fa))
    {E_BadPlan : Addr}
    {E_BadThing : Addr}
    {E_PlanError : Addr}
    {f0 : Addr} {od0 an0 : Option Addr} {sl0 : Array (Option Value)} {oc0 kV0 dc0 pm0 cd0 ct0 : Value}
    {f1 : Addr} {od1 an1 : Option Addr} {sl1 : Array (Option Value)} {oc1 kV1 dc1 pm1 cd1 ct1 : Value}
    {f2 : Addr} {od2 an2 : Option Addr} {sl2 : Array (Option Value)} {oc2 kV2 dc2 pm2 cd2 ct2 : Value}
    {f3 : Addr} {od3 an3 : Option Addr} {sl3 : Array (Option Value)} {oc3 kV3 dc3 pm3 cd3 ct3 : Value}
    {f4 : Addr} {od4 an4 : Option Addr} {sl4 : Array (Option Value)} {oc4 kV4 dc4 pm4 cd4 ct4 : Value}
    {f5 : Addr} {od5 an5 : Option Addr} {sl5 : Array (Option Value)} {oc5 kV5 dc5 pm5 cd5 ct5 : Value}
    {f6 : Addr} {od6 an6 : Option Addr} {sl6 : Array (Option Value)} {oc6 kV6 dc6 pm6 cd6 ct6 : Value}
    {f7 : Addr} {od7 an7 : Option Addr} {sl7 : Array (Option Value)} {oc7 kV7 dc7 pm7 cd7 ct7 : Value}
    {f8 : Addr} {od8 an8 : Option Addr} {sl8 : Array (Option Value)} {oc8 kV8 dc8 pm8 cd8 ct8 : Value}
    {f9 : Addr} {od9 an9 : Option Addr} {sl9 : Array (Option Value)} {oc9 kV9 dc9 pm9 cd9 ct9 : Value}
    {f10 : Addr} {od10 an10 : Option Addr} {sl10 : Array (Option Value)} {oc10 kV10 dc10 pm10 cd10 ct10 : Value}
    {f11 : Addr} {od11 an11 : Option Addr} {sl11 : Array (Option Value)} {oc11 kV11 dc11 pm11 cd11 ct11 : Value}
    {f12 : Addr} {od12 an12 : Option Addr} {sl12 : Array (Option Value)} {oc12 kV12 dc12 pm12 cd12 ct12 : Value}
    {f13 : Addr} {od13 an13 : Option Addr} {sl13 : Array (Option Value)} {oc13 kV13 dc13 pm13 cd13 ct13 : Value}
    {f14 : Addr} {od14 an14 : Option Addr} {sl14 : Array (Option Value)} {oc14 kV14 dc14 pm14 cd14 ct14 : Value}
    {f15 : Addr} {od15 an15 : Option Addr} {sl15 : Array (Option Value)} {oc15 kV15 dc15 pm15 cd15 ct15 : Value}
    {f16 : Addr} {od16 an16 : Option Addr} {sl16 : Array (Option Value)} {oc16 kV16 dc16 pm16 cd16 ct16 : Value}
    {f17 : Addr} {od17 an17 : Option Addr} {sl17 : Array (Option Value)} {oc17 kV17 dc17 pm17 cd17 ct17 : Value}
    {cT17 pT17 : Addr}
    {t_LETTERS : Tok}
    {t_MOST_LETTERS : Tok}
    (ynBadPlan : PySem.W.nsIn K mainGlobals "BadPlan" = some (some (.ref E_BadPlan)))
    (yaBadPlan : (PySem.W.clsIn K E_BadPlan).isSome = true)
    (ybBadPlan : PySem.W.findIn K (.ref E_BadPlan) "__getattribute__" = some (some (.builtin "BaseException.__getattribute__")))
    (ycBadPlan : PySem.W.findIn K (.ref E_BadPlan) "__getattr__" = some none)
    (ydBadPlan : PySem.W.subIn K (.ref E_BadPlan) (.type "BaseException") = some true)
    (yeBadPlan : PySem.W.hasDictIn K E_BadPlan = true)
    (yfBadPlan : PySem.W.findIn K (.ref E_BadPlan) "__class__" = some (some (.builtin "object.__class__")))
    (ygBadPlan : PySem.W.mroIn K E_BadPlan (.type "object") = some true)
    (yhBadPlan : PySem.W.typeIn K (.ref E_BadPlan) = some (.type "type"))
    (yiBadPlan : PySem.W.kitOne K (.ref E_BadPlan) (.type "ValueError") = some true)
    (yjBadPlan : PySem.W.exmOne K (.ref E_BadPlan) (.ref E_PlanError) = some true)
    (yoBadPlan : PySem.W.kitOne K (.type "NoneType") (.ref E_BadPlan) = some false)
    (ykBadPlan_BadPlan : PySem.W.kitOne K (.ref E_BadPlan) (.ref E_BadPlan) = some true)
    (ykBadPlan_BadThing : PySem.W.kitOne K (.ref E_BadPlan) (.ref E_BadThing) = some false)
    (ylBadPlan : PySem.W.excIn K E_BadPlan [.type "ValueError", .type "Exception", .type "BaseException", .type "object"] "ValueError.__new__" = true)
    (ymBadPlan : PySem.W.keepIn K (.ref E_BadPlan) = true)
    (ynBadThing : PySem.W.nsIn K mainGlobals "BadThing" = some (some (.ref E_BadThing)))
    (yaBadThing : (PySem.W.clsIn K E_BadThing).isSome = true)
    (ybBadThing : PySem.W.findIn K (.ref E_BadThing) "__getattribute__" = some (some (.builtin "BaseException.__getattribute__")))
    (ycBadThing : PySem.W.findIn K (.ref E_BadThing) "__getattr__" = some none)
    (ydBadThing : PySem.W.subIn K (.ref E_BadThing) (.type "BaseException") = some true)
    (yeBadThing : PySem.W.hasDictIn K E_BadThing = true)
    (yfBadThing : PySem.W.findIn K (.ref E_BadThing) "__class__" = some (some (.builtin "object.__class__")))
    (ygBadThing : PySem.W.mroIn K E_BadThing (.type "object") = some true)
    (yhBadThing : PySem.W.typeIn K (.ref E_BadThing) = some (.type "type"))
    (yiBadThing : PySem.W.kitOne K (.ref E_BadThing) (.type "ValueError") = some true)
    (yjBadThing : PySem.W.exmOne K (.ref E_BadThing) (.ref E_PlanError) = some true)
    (yoBadThing : PySem.W.kitOne K (.type "NoneType") (.ref E_BadThing) = some false)
    (ypBadThing_thing : PySem.W.findIn K (.ref E_BadThing) "thing" = some none)
    (ykBadThing_BadPlan : PySem.W.kitOne K (.ref E_BadThing) (.ref E_BadPlan) = some false)
    (ykBadThing_BadThing : PySem.W.kitOne K (.ref E_BadThing) (.ref E_BadThing) = some true)
    (ynPlanError : PySem.W.nsIn K mainGlobals "PlanError" = some (some (.ref E_PlanError)))
    (ri_BadThing : RaA l.prog K mg E_BadThing "thing")
    (qhn : PySem.W.specialIn K (.builtin "object.__class__") "__get__" = some (some (.builtin "getset_descriptor.__get__")))
    (qhtk : PySem.W.takesIn K (.builtin "object.__class__") = some true)
    (a0 : PySem.W.nsIn K mainGlobals "_law_begun" = some (some (.ref f0)))
    (l0 : K.lookup f0 = some ⟨oc0, od0, .func (PySem.W.fnOf "_law_begun" "_law_begun" (defArgs s__law_begun) (defBody s__law_begun) (defScope s__law_begun) .none kV0 dc0 pm0 an0 cd0 ct0), sl0⟩)
    (c0 : PySem.W.codeIn K cd0 "_law_begun" = true)
    (k0 : PySem.W.keepIn K (.ref f0) = true)
    (a1 : PySem.W.nsIn K mainGlobals "_law_draw" = some (some (.ref f1)))
    (l1 : K.lookup f1 = some ⟨oc1, od1, .func (PySem.W.fnOf "_law_draw" "_law_draw" (defArgs s__law_draw) (defBody s__law_draw) (defScope s__law_draw) .none kV1 dc1 pm1 an1 cd1 ct1), sl1⟩)
    (c1 : PySem.W.codeIn K cd1 "_law_draw" = true)
    (k1 : PySem.W.keepIn K (.ref f1) = true)
    (a2 : PySem.W.nsIn K mainGlobals "_law_pick" = some (some (.ref f2)))
    (l2 : K.lookup f2 = some ⟨oc2, od2, .func (PySem.W.fnOf "_law_pick" "_law_pick" (defArgs s__law_pick) (defBody s__law_pick) (defScope s__law_pick) .none kV2 dc2 pm2 an2 cd2 ct2), sl2⟩)
    (c2 : PySem.W.codeIn K cd2 "_law_pick" = true)
    (k2 : PySem.W.keepIn K (.ref f2) = true)
    (a3 : PySem.W.nsIn K mainGlobals "_law_words" = some (some (.ref f3)))
    (l3 : K.lookup f3 = some ⟨oc3, od3, .func (PySem.W.fnOf "_law_words" "_law_words" (defArgs s__law_words) (defBody s__law_words) (defScope s__law_words) .none kV3 dc3 pm3 an3 cd3 ct3), sl3⟩)
    (c3 : PySem.W.codeIn K cd3 "_law_words" = true)
    (k3 : PySem.W.keepIn K (.ref f3) = true)
    (a4 : PySem.W.nsIn K mainGlobals "_law_row" = some (some (.ref f4)))
    (l4 : K.lookup f4 = some ⟨oc4, od4, .func (PySem.W.fnOf "_law_row" "_law_row" (defArgs s__law_row) (defBody s__law_row) (defScope s__law_row) .none kV4 dc4 pm4 an4 cd4 ct4), sl4⟩)
    (c4 : PySem.W.codeIn K cd4 "_law_row" = true)
    (k4 : PySem.W.keepIn K (.ref f4) = true)
    (a5 : PySem.W.nsIn K mainGlobals "_law_odd" = some (some (.ref f5)))
    (l5 : K.lookup f5 = some ⟨oc5, od5, .func (PySem.W.fnOf "_law_odd" "_law_odd" (defArgs s__law_odd) (defBody s__law_odd) (defScope s__law_odd) .none kV5 dc5 pm5 an5 cd5 ct5), sl5⟩)
    (c5 : PySem.W.codeIn K cd5 "_law_odd" = true)
    (k5 : PySem.W.keepIn K (.ref f5) = true)
    (a6 : PySem.W.nsIn K mainGlobals "_law_bent" = some (some (.ref f6)))
    (l6 : K.lookup f6 = some ⟨oc6, od6, .func (PySem.W.fnOf "_law_bent" "_law_bent" (defArgs s__law_bent) (defBody s__law_bent) (defScope s__law_bent) .none kV6 dc6 pm6 an6 cd6 ct6), sl6⟩)
    (c6 : PySem.W.codeIn K cd6 "_law_bent" = true)
    (k6 : PySem.W.keepIn K (.ref f6) = true)
    (a7 : PySem.W.nsIn K mainGlobals "_law_is_row" = some (some (.ref f7)))
    (l7 : K.lookup f7 = some ⟨oc7, od7, .func (PySem.W.fnOf "_law_is_row" "_law_is_row" (defArgs s__law_is_row) (defBody s__law_is_row) (defScope s__law_is_row) .none kV7 dc7 pm7 an7 cd7 ct7), sl7⟩)
    (c7 : PySem.W.codeIn K cd7 "_law_is_row" = true)
    (k7 : PySem.W.keepIn K (.ref f7) = true)
    (a8 : PySem.W.nsIn K mainGlobals "is_name" = some (some (.ref f8)))
    (l8 : K.lookup f8 = some ⟨oc8, od8, .func (PySem.W.fnOf "is_name" "is_name" (defArgs s_is_name) (defBody s_is_name) (defScope s_is_name) .none kV8 dc8 pm8 an8 cd8 ct8), sl8⟩)
    (c8 : PySem.W.codeIn K cd8 "is_name" = true)
    (k8 : PySem.W.keepIn K (.ref f8) = true)
    (a9 : PySem.W.nsIn K mainGlobals "is_number" = some (some (.ref f9)))
    (l9 : K.lookup f9 = some ⟨oc9, od9, .func (PySem.W.fnOf "is_number" "is_number" (defArgs s_is_number) (defBody s_is_number) (defScope s_is_number) .none kV9 dc9 pm9 an9 cd9 ct9), sl9⟩)
    (c9 : PySem.W.codeIn K cd9 "is_number" = true)
    (k9 : PySem.W.keepIn K (.ref f9) = true)
    (a10 : PySem.W.nsIn K mainGlobals "is_pair" = some (some (.ref f10)))
    (l10 : K.lookup f10 = some ⟨oc10, od10, .func (PySem.W.fnOf "is_pair" "is_pair" (defArgs s_is_pair) (defBody s_is_pair) (defScope s_is_pair) .none kV10 dc10 pm10 an10 cd10 ct10), sl10⟩)
    (c10 : PySem.W.codeIn K cd10 "is_pair" = true)
    (k10 : PySem.W.keepIn K (.ref f10) = true)
    (a11 : PySem.W.nsIn K mainGlobals "are_pairs" = some (some (.ref f11)))
    (l11 : K.lookup f11 = some ⟨oc11, od11, .func (PySem.W.fnOf "are_pairs" "are_pairs" (defArgs s_are_pairs) (defBody s_are_pairs) (defScope s_are_pairs) .none kV11 dc11 pm11 an11 cd11 ct11), sl11⟩)
    (c11 : PySem.W.codeIn K cd11 "are_pairs" = true)
    (k11 : PySem.W.keepIn K (.ref f11) = true)
    (a12 : PySem.W.nsIn K mainGlobals "is_plan" = some (some (.ref f12)))
    (l12 : K.lookup f12 = some ⟨oc12, od12, .func (PySem.W.fnOf "is_plan" "is_plan" (defArgs s_is_plan) (defBody s_is_plan) (defScope s_is_plan) .none kV12 dc12 pm12 an12 cd12 ct12), sl12⟩)
    (c12 : PySem.W.codeIn K cd12 "is_plan" = true)
    (k12 : PySem.W.keepIn K (.ref f12) = true)
    (a13 : PySem.W.nsIn K mainGlobals "need_plan" = some (some (.ref f13)))
    (l13 : K.lookup f13 = some ⟨oc13, od13, .func (PySem.W.fnOf "need_plan" "need_plan" (defArgs s_need_plan) (defBody s_need_plan) (defScope s_need_plan) .none kV13 dc13 pm13 an13 cd13 ct13), sl13⟩)
    (c13 : PySem.W.codeIn K cd13 "need_plan" = true)
    (k13 : PySem.W.keepIn K (.ref f13) = true)
    (a14 : PySem.W.nsIn K mainGlobals "moment_in" = some (some (.ref f14)))
    (l14 : K.lookup f14 = some ⟨oc14, od14, .func (PySem.W.fnOf "moment_in" "moment_in" (defArgs s_moment_in) (defBody s_moment_in) (defScope s_moment_in) .none kV14 dc14 pm14 an14 cd14 ct14), sl14⟩)
    (c14 : PySem.W.codeIn K cd14 "moment_in" = true)
    (k14 : PySem.W.keepIn K (.ref f14) = true)
    (a15 : PySem.W.nsIn K mainGlobals "moment_of" = some (some (.ref f15)))
    (l15 : K.lookup f15 = some ⟨oc15, od15, .func (PySem.W.fnOf "moment_of" "moment_of" (defArgs s_moment_of) (defBody s_moment_of) (defScope s_moment_of) .none kV15 dc15 pm15 an15 cd15 ct15), sl15⟩)
    (c15 : PySem.W.codeIn K cd15 "moment_of" = true)
    (k15 : PySem.W.keepIn K (.ref f15) = true)
    (a16 : PySem.W.nsIn K mainGlobals "_law_error" = some (some (.ref f16)))
    (l16 : K.lookup f16 = some ⟨oc16, od16, .func (PySem.W.fnOf "_law_error" "_law_error" (defArgs s__law_error) (defBody s__law_error) (defScope s__law_error) .none kV16 dc16 pm16 an16 cd16 ct16), sl16⟩)
    (c16 : PySem.W.codeIn K cd16 "_law_error" = true)
    (k16 : PySem.W.keepIn K (.ref f16) = true)
    (a17 : PySem.W.nsIn K mainGlobals "law" = some (some (.ref f17)))
    (l17 : K.lookup f17 = some ⟨oc17, od17, .func (PySem.W.fnOf "law" "law" (defArgs s_law) (defBody s_law) (defScope s_law) .none kV17 dc17 pm17 an17 cd17 ct17), sl17⟩)
    (c17 : PySem.W.codeIn K cd17 "law" = true)
    (k17 : PySem.W.keepIn K (.ref f17) = true)
    (lc17 : cd17 = .ref cT17)
    (lt17 : (cT17, pT17) ∈ cs)
    (lm17 : (pT17, ("law" : Str) ++ ".<locals>.<lambda>") ∈ lamT ⟨K, mg⟩)
    (lu17 : ∀ p ∈ lamT ⟨K, mg⟩, p.1 = pT17 → p.2 = ("law" : Str) ++ ".<locals>.<lambda>")
    (b_abs : PySem.W.nsIn K mainGlobals "abs" = some none)
    (b_all : PySem.W.nsIn K mainGlobals "all" = some none)
    (b_bool : PySem.W.nsIn K mainGlobals "bool" = some none)
    (b_dict : PySem.W.nsIn K mainGlobals "dict" = some none)
    (b_int : PySem.W.nsIn K mainGlobals "int" = some none)
    (b_isinstance : PySem.W.nsIn K mainGlobals "isinstance" = some none)
    (b_len : PySem.W.nsIn K mainGlobals "len" = some none)
    (b_list : PySem.W.nsIn K mainGlobals "list" = some none)
    (b_min : PySem.W.nsIn K mainGlobals "min" = some none)
    (b_range : PySem.W.nsIn K mainGlobals "range" = some none)
    (b_repr : PySem.W.nsIn K mainGlobals "repr" = some none)
    (b_set : PySem.W.nsIn K mainGlobals "set" = some none)
    (b_sorted : PySem.W.nsIn K mainGlobals "sorted" = some none)
    (b_str : PySem.W.nsIn K mainGlobals "str" = some none)
    (b_tuple : PySem.W.nsIn K mainGlobals "tuple" = some none)
    (b_zip : PySem.W.nsIn K mainGlobals "zip" = some none)
    (g_LETTERS : PySem.W.nsIn K mainGlobals "LETTERS" = some (some (.str "abcdefghijklmnopqrstuvwxyz" t_LETTERS)))
    (g_MOST_LETTERS : PySem.W.nsIn K mainGlobals "MOST_LETTERS" = some (some (.int 6 t_MOST_LETTERS)))
    (n_Book : PySem.W.nsIn K mainGlobals "Book" = some none)
    (n_Plans : PySem.W.nsIn K mainGlobals "Plans" = some none)
    (n_RoundBook : PySem.W.nsIn K mainGlobals "RoundBook" = some none)
    (n_Stand : PySem.W.nsIn K mainGlobals "Stand" = some none)
    (n_Held : PySem.W.nsIn K mainGlobals "Held" = some none)
    (n_Live : PySem.W.nsIn K mainGlobals "Live" = some none)
    (n_Desk : PySem.W.nsIn K mainGlobals "Desk" = some none) :
    ∃ fd : FuncData, (∀ (s : Shared) (v : Value), BindsTo s fd ⟨[v], []⟩ [("_law_script", v)]) ∧ ∀ base : Heap, K.In base → base.Ns mainGlobals mg → (∀ p ∈ cs, LamX.TabB base mg p.1 p.2) → FnG l.prog w K mg base 8 fa fd ["_law_script"] (spLaw ⟨K, mg⟩) := by
  have e := hfa.symm.trans (PySem.W.mg_of X G a17)
  cases e
  have byC : ∀ (Pr : Str → Addr → Prop), ∀ nm C, isCls nm = true → mg nm = some (.ref C) → Pr nm C := fun Pr nm C hi hm => by
    have hi : nm ∈ (["Book", "Plans", "RoundBook", "Stand", "Held", "Live", "Desk"] : List Str) := of_decide_eq_true hi
    simp only [List.mem_cons, List.not_mem_nil, or_false] at hi
    rcases hi with rfl | rfl | rfl | rfl | rfl | rfl | rfl
    · exact absurd (hm.symm.trans (PySem.W.mg_none_of X G n_Book)) (fun z => by cases z)
    · exact absurd (hm.symm.trans (PySem.W.mg_none_of X G n_Plans)) (fun z => by cases z)
    · exact absurd (hm.symm.trans (PySem.W.mg_none_of X G n_RoundBook)) (fun z => by cases z)
    · exact absurd (hm.symm.trans (PySem.W.mg_none_of X G n_Stand)) (fun z => by cases z)
    · exact absurd (hm.symm.trans (PySem.W.mg_none_of X G n_Held)) (fun z => by cases z)
    · exact absurd (hm.symm.trans (PySem.W.mg_none_of X G n_Live)) (fun z => by cases z)
    · exact absurd (hm.symm.trans (PySem.W.mg_none_of X G n_Desk)) (fun z => by cases z)
  have mE_BadPlan : mg "BadPlan" = some (.ref E_BadPlan) := PySem.W.mg_of X G ynBadPlan
  have mE_BadThing : mg "BadThing" = some (.ref E_BadThing) := PySem.W.mg_of X G ynBadThing
  have mE_PlanError : mg "PlanError" = some (.ref E_PlanError) := PySem.W.mg_of X G ynPlanError
  have byE : ∀ (Pr : Str → Addr → Prop) (_ : Pr "BadPlan" E_BadPlan) (_ : Pr "BadThing" E_BadThing), ∀ nm ∈ (["BadPlan", "BadThing"] : List Str), ∀ C, mg nm = some (.ref C) → Pr nm C := fun Pr p_BadPlan p_BadThing nm hi C hm => by
    simp only [List.mem_cons, List.not_mem_nil, or_false] at hi
    rcases hi with rfl | rfl
    · have e := mE_BadPlan.symm.trans hm; cases e; exact p_BadPlan
    · have e := mE_BadThing.symm.trans hm; cases e; exact p_BadThing
  have AE : ErAll ⟨K, mg⟩ ["BadPlan", "BadThing"] := ⟨byE (fun _ C => ErCls K C) ⟨yaBadPlan, ybBadPlan, ycBadPlan, ydBadPlan, yeBadPlan, yfBadPlan, qhn, qhtk, ygBadPlan, yhBadPlan⟩ ⟨yaBadThing, ybBadThing, ycBadThing, ydBadThing, yeBadThing, yfBadThing, qhn, qhtk, ygBadThing, yhBadThing⟩, fun nm hi n2 hi2 C C2 m m2 => byE (fun nm C => ∀ n2 ∈ (["BadPlan", "BadThing"] : List Str), ∀ C2, mg n2 = some (.ref C2) → PySem.W.kitOne K (.ref C) (.ref C2) = some (decide (nm = n2))) (byE (fun n2 C2 => PySem.W.kitOne K (.ref E_BadPlan) (.ref C2) = some (decide (("BadPlan" : Str) = n2))) (by rw [ykBadPlan_BadPlan]; decide +kernel) (by rw [ykBadPlan_BadThing]; decide +kernel)) (byE (fun n2 C2 => PySem.W.kitOne K (.ref E_BadThing) (.ref C2) = some (decide (("BadThing" : Str) = n2))) (by rw [ykBadThing_BadPlan]; decide +kernel) (by rw [ykBadThing_BadThing]; decide +kernel)) nm hi C m n2 hi2 C2 m2, byE (fun _ C => PySem.W.kitOne K (.ref C) (.type "ValueError") = some true) yiBadPlan yiBadThing, fun nm hi C m D mD => by
    have e := mE_PlanError.symm.trans mD
    cases e
    exact byE (fun _ C => PySem.W.exmOne K (.ref C) (.ref E_PlanError) = some true) yjBadPlan yjBadThing nm hi C m, byE (fun _ C => PySem.W.kitOne K (.type "NoneType") (.ref C) = some false) yoBadPlan yoBadThing⟩
  have T : Txt K mg E_BadPlan E_BadThing E_PlanError l.prog := ⟨⟨byC (fun nm C => ClsF ⟨K, mg⟩ nm C), fun nm C nm2 C2 hi hm hi2 hm2 => byC (fun nm C => ∀ nm2 C2, isCls nm2 = true → mg nm2 = some (.ref C2) → PySem.W.kitOne K (.ref C) (.ref C2) = some (decide (nm = nm2))) nm C hi hm nm2 C2 hi2 hm2⟩, AE, mE_BadPlan, mE_BadThing, mE_PlanError, (fun nm hi C hm => by
    simp only [List.mem_cons, List.not_mem_nil, or_false] at hi
    subst hi
    · have e := mE_BadThing.symm.trans hm; cases e; exact ⟨⟨ybBadThing, ycBadThing, ydBadThing, yeBadThing⟩, ypBadThing_thing⟩), ylBadPlan, ymBadPlan, ydBadPlan, yhBadPlan, ri_BadThing, PySem.W.mg_none_of X G b_abs, PySem.W.mg_none_of X G b_all, PySem.W.mg_none_of X G b_bool, PySem.W.mg_none_of X G b_dict, PySem.W.mg_none_of X G b_int, PySem.W.mg_none_of X G b_isinstance, PySem.W.mg_none_of X G b_len, PySem.W.mg_none_of X G b_list, PySem.W.mg_none_of X G b_min, PySem.W.mg_none_of X G b_range, PySem.W.mg_none_of X G b_repr, PySem.W.mg_none_of X G b_set, PySem.W.mg_none_of X G b_sorted, PySem.W.mg_none_of X G b_str, PySem.W.mg_none_of X G b_tuple, PySem.W.mg_none_of X G b_zip, ⟨_, PySem.W.mg_of X G g_LETTERS, ⟨_, rfl⟩⟩, ⟨_, PySem.W.mg_of X G g_MOST_LETTERS, ⟨_, rfl⟩⟩⟩
  have D0 : DefAt K mg "_law_begun" s__law_begun ["_law_script"] f0 (PySem.W.fnOf "_law_begun" "_law_begun" (defArgs s__law_begun) (defBody s__law_begun) (defScope s__law_begun) .none kV0 dc0 pm0 an0 cd0 ct0) := ⟨fun_mk (st := s__law_begun) l0 c0 k0, PySem.W.mg_of X G a0, (fun_mk (st := s__law_begun) l0 c0 k0).binds (ps := ["_law_script"]) fun _ _ _ _ _ _ us hl => match us, hl with | [_], _ => rfl⟩
  have D1 : DefAt K mg "_law_draw" s__law_draw ["_law_state", "_law_size"] f1 (PySem.W.fnOf "_law_draw" "_law_draw" (defArgs s__law_draw) (defBody s__law_draw) (defScope s__law_draw) .none kV1 dc1 pm1 an1 cd1 ct1) := ⟨fun_mk (st := s__law_draw) l1 c1 k1, PySem.W.mg_of X G a1, (fun_mk (st := s__law_draw) l1 c1 k1).binds (ps := ["_law_state", "_law_size"]) fun _ _ _ _ _ _ us hl => match us, hl with | [_, _], _ => rfl⟩
  have D2 : DefAt K mg "_law_pick" s__law_pick ["_law_state", "_law_several"] f2 (PySem.W.fnOf "_law_pick" "_law_pick" (defArgs s__law_pick) (defBody s__law_pick) (defScope s__law_pick) .none kV2 dc2 pm2 an2 cd2 ct2) := ⟨fun_mk (st := s__law_pick) l2 c2 k2, PySem.W.mg_of X G a2, (fun_mk (st := s__law_pick) l2 c2 k2).binds (ps := ["_law_state", "_law_several"]) fun _ _ _ _ _ _ us hl => match us, hl with | [_, _], _ => rfl⟩
  have D3 : DefAt K mg "_law_words" s__law_words ["_law_state", "_law_many"] f3 (PySem.W.fnOf "_law_words" "_law_words" (defArgs s__law_words) (defBody s__law_words) (defScope s__law_words) .none kV3 dc3 pm3 an3 cd3 ct3) := ⟨fun_mk (st := s__law_words) l3 c3 k3, PySem.W.mg_of X G a3, (fun_mk (st := s__law_words) l3 c3 k3).binds (ps := ["_law_state", "_law_many"]) fun _ _ _ _ _ _ us hl => match us, hl with | [_, _], _ => rfl⟩
  have D4 : DefAt K mg "_law_row" s__law_row ["_law_state", "_law_words_here", "_law_wide"] f4 (PySem.W.fnOf "_law_row" "_law_row" (defArgs s__law_row) (defBody s__law_row) (defScope s__law_row) .none kV4 dc4 pm4 an4 cd4 ct4) := ⟨fun_mk (st := s__law_row) l4 c4 k4, PySem.W.mg_of X G a4, (fun_mk (st := s__law_row) l4 c4 k4).binds (ps := ["_law_state", "_law_words_here", "_law_wide"]) fun _ _ _ _ _ _ us hl => match us, hl with | [_, _, _], _ => rfl⟩
  have D5 : DefAt K mg "_law_odd" s__law_odd ["_law_state"] f5 (PySem.W.fnOf "_law_odd" "_law_odd" (defArgs s__law_odd) (defBody s__law_odd) (defScope s__law_odd) .none kV5 dc5 pm5 an5 cd5 ct5) := ⟨fun_mk (st := s__law_odd) l5 c5 k5, PySem.W.mg_of X G a5, (fun_mk (st := s__law_odd) l5 c5 k5).binds (ps := ["_law_state"]) fun _ _ _ _ _ _ us hl => match us, hl with | [_], _ => rfl⟩
  have D6 : DefAt K mg "_law_bent" s__law_bent ["_law_state", "_law_row_here"] f6 (PySem.W.fnOf "_law_bent" "_law_bent" (defArgs s__law_bent) (defBody s__law_bent) (defScope s__law_bent) .none kV6 dc6 pm6 an6 cd6 ct6) := ⟨fun_mk (st := s__law_bent) l6 c6 k6, PySem.W.mg_of X G a6, (fun_mk (st := s__law_bent) l6 c6 k6).binds (ps := ["_law_state", "_law_row_here"]) fun _ _ _ _ _ _ us hl => match us, hl with | [_, _], _ => rfl⟩
  have D7 : DefAt K mg "_law_is_row" s__law_is_row ["_law_thing"] f7 (PySem.W.fnOf "_law_is_row" "_law_is_row" (defArgs s__law_is_row) (defBody s__law_is_row) (defScope s__law_is_row) .none kV7 dc7 pm7 an7 cd7 ct7) := ⟨fun_mk (st := s__law_is_row) l7 c7 k7, PySem.W.mg_of X G a7, (fun_mk (st := s__law_is_row) l7 c7 k7).binds (ps := ["_law_thing"]) fun _ _ _ _ _ _ us hl => match us, hl with | [_], _ => rfl⟩
  have D8 : DefAt K mg "is_name" s_is_name ["thing"] f8 (PySem.W.fnOf "is_name" "is_name" (defArgs s_is_name) (defBody s_is_name) (defScope s_is_name) .none kV8 dc8 pm8 an8 cd8 ct8) := ⟨fun_mk (st := s_is_name) l8 c8 k8, PySem.W.mg_of X G a8, (fun_mk (st := s_is_name) l8 c8 k8).binds (ps := ["thing"]) fun _ _ _ _ _ _ us hl => match us, hl with | [_], _ => rfl⟩
  have D9 : DefAt K mg "is_number" s_is_number ["thing"] f9 (PySem.W.fnOf "is_number" "is_number" (defArgs s_is_number) (defBody s_is_number) (defScope s_is_number) .none kV9 dc9 pm9 an9 cd9 ct9) := ⟨fun_mk (st := s_is_number) l9 c9 k9, PySem.W.mg_of X G a9, (fun_mk (st := s_is_number) l9 c9 k9).binds (ps := ["thing"]) fun _ _ _ _ _ _ us hl => match us, hl with | [_], _ => rfl⟩
  have D10 : DefAt K mg "is_pair" s_is_pair ["thing"] f10 (PySem.W.fnOf "is_pair" "is_pair" (defArgs s_is_pair) (defBody s_is_pair) (defScope s_is_pair) .none kV10 dc10 pm10 an10 cd10 ct10) := ⟨fun_mk (st := s_is_pair) l10 c10 k10, PySem.W.mg_of X G a10, (fun_mk (st := s_is_pair) l10 c10 k10).binds (ps := ["thing"]) fun _ _ _ _ _ _ us hl => match us, hl with | [_], _ => rfl⟩
  have D11 : DefAt K mg "are_pairs" s_are_pairs ["thing"] f11 (PySem.W.fnOf "are_pairs" "are_pairs" (defArgs s_are_pairs) (defBody s_are_pairs) (defScope s_are_pairs) .none kV11 dc11 pm11 an11 cd11 ct11) := ⟨fun_mk (st := s_are_pairs) l11 c11 k11, PySem.W.mg_of X G a11, (fun_mk (st := s_are_pairs) l11 c11 k11).binds (ps := ["thing"]) fun _ _ _ _ _ _ us hl => match us, hl with | [_], _ => rfl⟩
  have D12 : DefAt K mg "is_plan" s_is_plan ["thing"] f12 (PySem.W.fnOf "is_plan" "is_plan" (defArgs s_is_plan) (defBody s_is_plan) (defScope s_is_plan) .none kV12 dc12 pm12 an12 cd12 ct12) := ⟨fun_mk (st := s_is_plan) l12 c12 k12, PySem.W.mg_of X G a12, (fun_mk (st := s_is_plan) l12 c12 k12).binds (ps := ["thing"]) fun _ _ _ _ _ _ us hl => match us, hl with | [_], _ => rfl⟩
  have D13 : DefAt K mg "need_plan" s_need_plan ["plan"] f13 (PySem.W.fnOf "need_plan" "need_plan" (defArgs s_need_plan) (defBody s_need_plan) (defScope s_need_plan) .none kV13 dc13 pm13 an13 cd13 ct13) := ⟨fun_mk (st := s_need_plan) l13 c13 k13, PySem.W.mg_of X G a13, (fun_mk (st := s_need_plan) l13 c13 k13).binds (ps := ["plan"]) fun _ _ _ _ _ _ us hl => match us, hl with | [_], _ => rfl⟩
  have D14 : DefAt K mg "moment_in" s_moment_in ["plan", "name"] f14 (PySem.W.fnOf "moment_in" "moment_in" (defArgs s_moment_in) (defBody s_moment_in) (defScope s_moment_in) .none kV14 dc14 pm14 an14 cd14 ct14) := ⟨fun_mk (st := s_moment_in) l14 c14 k14, PySem.W.mg_of X G a14, (fun_mk (st := s_moment_in) l14 c14 k14).binds (ps := ["plan", "name"]) fun _ _ _ _ _ _ us hl => match us, hl with | [_, _], _ => rfl⟩
  have D15 : DefAt K mg "moment_of" s_moment_of ["plan", "name"] f15 (PySem.W.fnOf "moment_of" "moment_of" (defArgs s_moment_of) (defBody s_moment_of) (defScope s_moment_of) .none kV15 dc15 pm15 an15 cd15 ct15) := ⟨fun_mk (st := s_moment_of) l15 c15 k15, PySem.W.mg_of X G a15, (fun_mk (st := s_moment_of) l15 c15 k15).binds (ps := ["plan", "name"]) fun _ _ _ _ _ _ us hl => match us, hl with | [_, _], _ => rfl⟩
  have D16 : DefAt K mg "_law_error" s__law_error ["_law_work"] f16 (PySem.W.fnOf "_law_error" "_law_error" (defArgs s__law_error) (defBody s__law_error) (defScope s__law_error) .none kV16 dc16 pm16 an16 cd16 ct16) := ⟨fun_mk (st := s__law_error) l16 c16 k16, PySem.W.mg_of X G a16, (fun_mk (st := s__law_error) l16 c16 k16).binds (ps := ["_law_work"]) fun _ _ _ _ _ _ us hl => match us, hl with | [_], _ => rfl⟩
  have D17 : DefAt K mg "law" s_law ["_law_script"] fa (PySem.W.fnOf "law" "law" (defArgs s_law) (defBody s_law) (defScope s_law) .none kV17 dc17 pm17 an17 cd17 ct17) := ⟨fun_mk (st := s_law) l17 c17 k17, PySem.W.mg_of X G a17, (fun_mk (st := s_law) l17 c17 k17).binds (ps := ["_law_script"]) fun _ _ _ _ _ _ us hl => match us, hl with | [_], _ => rfl⟩
  refine ⟨(PySem.W.fnOf "law" "law" (defArgs s_law) (defBody s_law) (defScope s_law) .none kV17 dc17 pm17 an17 cd17 ct17), fun s v => .of_eq rfl, fun base _ _ hTB => ?_⟩
  have G0 := ok__law_begun (P := l.prog) (w := w) (base := base) D0 T
  have G1 := ok__law_draw (P := l.prog) (w := w) (base := base) D1 T
  have G2 := ok__law_pick (P := l.prog) (w := w) (base := base) D2 T D1 G1
  have G3 := ok__law_words (P := l.prog) (w := w) (base := base) D3 T D1 G1 D2 G2
  have G4 := ok__law_row (P := l.prog) (w := w) (base := base) D4 T D2 G2 D1 G1
  have G5 := ok__law_odd (P := l.prog) (w := w) (base := base) D5 T D2 G2
  have G6 := ok__law_bent (P := l.prog) (w := w) (base := base) D6 T D1 G1 D5 G5 D2 G2
  have G7 := ok__law_is_row (P := l.prog) (w := w) (base := base) D7 T
  have G8 := ok_is_name (P := l.prog) (w := w) (base := base) D8 T
  have G9 := ok_is_number (P := l.prog) (w := w) (base := base) D9 T
  have G10 := ok_is_pair (P := l.prog) (w := w) (base := base) D10 T D8 G8 D9 G9
  have G11 := ok_are_pairs (P := l.prog) (w := w) (base := base) D11 T D10 G10
  have G12 := ok_is_plan (P := l.prog) (w := w) (base := base) D12 T D11 G11
  have G13 := ok_need_plan (P := l.prog) (w := w) (base := base) D13 T D11 G11
  have G14 := ok_moment_in (P := l.prog) (w := w) (base := base) D14 T
  have G15 := ok_moment_of (P := l.prog) (w := w) (base := base) D15 T D13 G13 D8 G8 D14 G14
  exact ok_law D17 T D0 G0 right D3 G3 D1 G1 D4 G4 D6 G6 D7 G7 D12 G12 D2 G2 D15 G15 D16 lc17 (hTB _ lt17) lm17 lu17
end
end Pg
namespace Hx
open PySem PySem.Spec PyProof.Rows L2 Fx Pg
theorem facts {l : PySem.W.OpenLaw} (pf : (l.prog.main.file : Str) = "/claim/cut.py") (ptop : (l.prog.main.scope.names.lookup ("super" : Str)).isSome = false) {w : World} {K : PySem.W.Frag} {h : Heap} {mg : Str → Option Value} {fa : Addr} (X : K.In h) (G : h.Ns mainGlobals mg) (hfa : mg "law" = some (.ref fa)) {T : PySem.W.Frag} (XT : T.In h) (c : Hd.SaysX B ds K T) :
    ∃ fd : FuncData, Hd.TabsOk K mg h (Hd.lamC K) ∧ lamT ⟨K, mg⟩ ≠ [] ∧ (∀ (s : Shared) (v : Value), BindsTo s fd ⟨[v], []⟩ [("_law_script", v)]) ∧ ∀ base : Heap, K.In base → base.Ns mainGlobals mg → (∀ p ∈ Hd.lamC K, LamX.TabB base mg p.1 p.2) → FnG l.prog w K mg base 8 fa fd ["_law_script"] (spLaw ⟨K, mg⟩) := by
  have TO := Hd.tabs_ok X XT G c.tab
  obtain ⟨wh0, oc0, od0, sl0, dV0, kV0, dc0, pm0, an0, cd0, ct0, l0, c0, df0⟩ := c.def_ 0 (d := d0) rfl
  obtain rfl := Hd.dfl0 (n := d0.dfl) rfl df0
  obtain ⟨a0, k0⟩ := Hd.wh0 (d := d0) rfl wh0
  obtain ⟨wh1, oc1, od1, sl1, dV1, kV1, dc1, pm1, an1, cd1, ct1, l1, c1, df1⟩ := c.def_ 1 (d := d1) rfl
  obtain rfl := Hd.dfl0 (n := d1.dfl) rfl df1
  obtain ⟨a1, k1⟩ := Hd.wh0 (d := d1) rfl wh1
  obtain ⟨wh2, oc2, od2, sl2, dV2, kV2, dc2, pm2, an2, cd2, ct2, l2, c2, df2⟩ := c.def_ 2 (d := d2) rfl
  obtain rfl := Hd.dfl0 (n := d2.dfl) rfl df2
  obtain ⟨a2, k2⟩ := Hd.wh0 (d := d2) rfl wh2
  obtain ⟨wh3, oc3, od3, sl3, dV3, kV3, dc3, pm3, an3, cd3, ct3, l3, c3, df3⟩ := c.def_ 3 (d := d3) rfl
  obtain rfl := Hd.dfl0 (n := d3.dfl) rfl df3
  obtain ⟨a3, k3⟩ := Hd.wh0 (d := d3) rfl wh3
  obtain ⟨wh4, oc4, od4, sl4, dV4, kV4, dc4, pm4, an4, cd4, ct4, l4, c4, df4⟩ := c.def_ 4 (d := d4) rfl
  obtain rfl := Hd.dfl0 (n := d4.dfl) rfl df4
  obtain ⟨a4, k4⟩ := Hd.wh0 (d := d4) rfl wh4
  obtain ⟨wh5, oc5, od5, sl5, dV5, kV5, dc5, pm5, an5, cd5, ct5, l5, c5, df5⟩ := c.def_ 5 (d := d5) rfl
  obtain rfl := Hd.dfl0 (n := d5.dfl) rfl df5
  obtain ⟨a5, k5⟩ := Hd.wh0 (d := d5) rfl wh5
  obtain ⟨wh6, oc6, od6, sl6, dV6, kV6, dc6, pm6, an6, cd6, ct6, l6, c6, df6⟩ := c.def_ 6 (d := d6) rfl
  obtain rfl := Hd.dfl0 (n := d6.dfl) rfl df6
  obtain ⟨a6, k6⟩ := Hd.wh0 (d := d6) rfl wh6
  obtain ⟨wh7, oc7, od7, sl7, dV7, kV7, dc7, pm7, an7, cd7, ct7, l7, c7, df7⟩ := c.def_ 7 (d := d7) rfl
  obtain rfl := Hd.dfl0 (n := d7.dfl) rfl df7
  obtain ⟨a7, k7⟩ := Hd.wh0 (d := d7) rfl wh7
  obtain ⟨wh8, oc8, od8, sl8, dV8, kV8, dc8, pm8, an8, cd8, ct8, l8, c8, df8⟩ := c.def_ 8 (d := d8) rfl
  obtain rfl := Hd.dfl0 (n := d8.dfl) rfl df8
  obtain ⟨a8, k8⟩ := Hd.wh0 (d := d8) rfl wh8
  obtain ⟨wh9, oc9, od9, sl9, dV9, kV9, dc9, pm9, an9, cd9, ct9, l9, c9, df9⟩ := c.def_ 9 (d := d9) rfl
  obtain rfl := Hd.dfl0 (n := d9.dfl) rfl df9
  obtain ⟨a9, k9⟩ := Hd.wh0 (d := d9) rfl wh9
  obtain ⟨wh10, oc10, od10, sl10, dV10, kV10, dc10, pm10, an10, cd10, ct10, l10, c10, df10⟩ := c.def_ 10 (d := d10) rfl
  obtain rfl := Hd.dfl0 (n := d10.dfl) rfl df10
  obtain ⟨a10, k10⟩ := Hd.wh0 (d := d10) rfl wh10
  obtain ⟨wh11, oc11, od11, sl11, dV11, kV11, dc11, pm11, an11, cd11, ct11, l11, c11, df11⟩ := c.def_ 11 (d := d11) rfl
  obtain rfl := Hd.dfl0 (n := d11.dfl) rfl df11
  obtain ⟨a11, k11⟩ := Hd.wh0 (d := d11) rfl wh11
  obtain ⟨wh12, oc12, od12, sl12, dV12, kV12, dc12, pm12, an12, cd12, ct12, l12, c12, df12⟩ := c.def_ 12 (d := d12) rfl
  obtain rfl := Hd.dfl0 (n := d12.dfl) rfl df12
  obtain ⟨a12, k12⟩ := Hd.wh0 (d := d12) rfl wh12
  obtain ⟨wh13, oc13, od13, sl13, dV13, kV13, dc13, pm13, an13, cd13, ct13, l13, c13, df13⟩ := c.def_ 13 (d := d13) rfl
  obtain rfl := Hd.dfl0 (n := d13.dfl) rfl df13
  obtain ⟨a13, k13⟩ := Hd.wh0 (d := d13) rfl wh13
  obtain ⟨wh14, oc14, od14, sl14, dV14, kV14, dc14, pm14, an14, cd14, ct14, l14, c14, df14⟩ := c.def_ 14 (d := d14) rfl
  obtain rfl := Hd.dfl0 (n := d14.dfl) rfl df14
  obtain ⟨a14, k14⟩ := Hd.wh0 (d := d14) rfl wh14
  obtain ⟨wh15, oc15, od15, sl15, dV15, kV15, dc15, pm15, an15, cd15, ct15, l15, c15, df15⟩ := c.def_ 15 (d := d15) rfl
  obtain rfl := Hd.dfl0 (n := d15.dfl) rfl df15
  obtain ⟨a15, k15⟩ := Hd.wh0 (d := d15) rfl wh15
  obtain ⟨wh16, oc16, od16, sl16, dV16, kV16, dc16, pm16, an16, cd16, ct16, l16, c16, df16⟩ := c.def_ 16 (d := d16) rfl
  obtain rfl := Hd.dfl0 (n := d16.dfl) rfl df16
  obtain ⟨a16, k16⟩ := Hd.wh0 (d := d16) rfl wh16
  obtain ⟨wh17, oc17, od17, sl17, dV17, kV17, dc17, pm17, an17, cd17, ct17, l17, c17, df17⟩ := c.def_ 17 (d := d17) rfl
  obtain rfl := Hd.dfl0 (n := d17.dfl) rfl df17
  obtain ⟨a17, k17⟩ := Hd.wh0 (d := d17) rfl wh17
  obtain ⟨cT17, pT17, ctt17, lt17, lm17, lu17⟩ := TO.at_ "law" (by decide +kernel) _ a17
  have lc17 : cd17 = .ref cT17 := Hd.codeTab_code ctt17 l17
  obtain ⟨wh18, cc18, oc18, od18, sl18, dV18, kV18, dc18, pm18, an18, cd18, ct18, l18, c18, df18⟩ := c.def4 18 (d := d18) rfl
  obtain rfl := Hd.dfl0 (n := d18.dfl) rfl df18
  obtain ⟨a18, i18⟩ := Hd.wh4 (d := d18) rfl wh18
  have ri_BadThing : RaA l.prog K mg (He.ga K "BadThing") "thing" := raA_mk (x := "thing") (m := "no such thing") (scope := defScope s_BadThing___init__) (params := defArgs s_BadThing___init__) (body := defBody s_BadThing___init__) X G pf ptop a18 (c.fact 59 rfl) l18 c18 rfl (by decide +kernel) rfl rfl (by rfl) (by rfl) (fun env => rfl) (fun env => rfl) (.all fun us hl => match us, hl with | [_, _], _ => rfl)
  obtain ⟨fd, hb, hF⟩ := Pg.all_mk (cs := Hd.lamC K) X G hfa (He.eqO_ok (c.fact 0 rfl)) (c.fact 1 rfl) (He.eqO_ok (c.fact 2 rfl)) (He.eqO_ok (c.fact 3 rfl)) (of_decide_eq_true (c.fact 4 rfl)) (c.fact 5 rfl) (He.eqO_ok (c.fact 6 rfl)) (of_decide_eq_true (c.fact 7 rfl)) (of_decide_eq_true (c.fact 8 rfl)) (of_decide_eq_true (c.fact 9 rfl)) (of_decide_eq_true (c.fact 10 rfl)) (of_decide_eq_true (c.fact 11 rfl)) (of_decide_eq_true (c.fact 12 rfl)) (of_decide_eq_true (c.fact 13 rfl)) (c.fact 14 rfl) (c.fact 15 rfl) (He.eqO_ok (c.fact 16 rfl)) (c.fact 17 rfl) (He.eqO_ok (c.fact 18 rfl)) (He.eqO_ok (c.fact 19 rfl)) (of_decide_eq_true (c.fact 20 rfl)) (c.fact 21 rfl) (He.eqO_ok (c.fact 22 rfl)) (of_decide_eq_true (c.fact 23 rfl)) (of_decide_eq_true (c.fact 24 rfl)) (of_decide_eq_true (c.fact 25 rfl)) (of_decide_eq_true (c.fact 26 rfl)) (of_decide_eq_true (c.fact 27 rfl)) (He.eqO_ok (c.fact 28 rfl)) (of_decide_eq_true (c.fact 29 rfl)) (of_decide_eq_true (c.fact 30 rfl)) (He.eqO_ok (c.fact 31 rfl)) ri_BadThing (He.eqO_ok (c.fact 32 rfl)) (of_decide_eq_true (c.fact 33 rfl)) a0 l0 c0 k0 a1 l1 c1 k1 a2 l2 c2 k2 a3 l3 c3 k3 a4 l4 c4 k4 a5 l5 c5 k5 a6 l6 c6 k6 a7 l7 c7 k7 a8 l8 c8 k8 a9 l9 c9 k9 a10 l10 c10 k10 a11 l11 c11 k11 a12 l12 c12 k12 a13 l13 c13 k13 a14 l14 c14 k14 a15 l15 c15 k15 a16 l16 c16 k16 a17 l17 c17 k17 lc17 lt17 lm17 lu17 (He.eqO_ok (c.fact 34 rfl)) (He.eqO_ok (c.fact 35 rfl)) (He.eqO_ok (c.fact 36 rfl)) (He.eqO_ok (c.fact 37 rfl)) (He.eqO_ok (c.fact 38 rfl)) (He.eqO_ok (c.fact 39 rfl)) (He.eqO_ok (c.fact 40 rfl)) (He.eqO_ok (c.fact 41 rfl)) (He.eqO_ok (c.fact 42 rfl)) (He.eqO_ok (c.fact 43 rfl)) (He.eqO_ok (c.fact 44 rfl)) (He.eqO_ok (c.fact 45 rfl)) (He.eqO_ok (c.fact 46 rfl)) (He.eqO_ok (c.fact 47 rfl)) (He.eqO_ok (c.fact 48 rfl)) (He.eqO_ok (c.fact 49 rfl)) (He.eqO_ok (c.fact 50 rfl)) (He.eqO_ok (c.fact 51 rfl)) (He.eqO_ok (c.fact 52 rfl)) (He.eqO_ok (c.fact 53 rfl)) (He.eqO_ok (c.fact 54 rfl)) (He.eqO_ok (c.fact 55 rfl)) (He.eqO_ok (c.fact 56 rfl)) (He.eqO_ok (c.fact 57 rfl)) (He.eqO_ok (c.fact 58 rfl))
  refine ⟨fd, TO, ?_, hb, hF⟩
  obtain ⟨_, _, _, _, m, _⟩ := TO.at_ "law" (by decide +kernel) _ a17
  exact fun z => by rw [z] at m; cases m
end Hx
open PySem PySem.W PyProof.Rows Fx in
set_option maxRecDepth 100000 in
set_option maxHeartbeats 0 in
theorem PySem.Challenge.cw_lastmakers_k02_plans_judged_holds : PySem.Challenge.rw_lastmakers_k02_plans_judged.Holds := by
  w_on; o_law
  refine HandSHeadRun.head_any (r := OpenLaw.row PySem.Challenge.rw_lastmakers_k02_plans_judged) (q := view (OpenLaw.row PySem.Challenge.rw_lastmakers_k02_plans_judged).prog [25]) (H := Hd.hookX Hx.xs Hx.B Hx.ds) (ob := Hx.ob) (M := 20000) (loose := Hx.loose) (d := HandSHeadRun.topDef (OpenLaw.row PySem.Challenge.rw_lastmakers_k02_plans_judged).prog 25) (kwd := []) Hx.ob_eq
    (by kernel_rfl) (fun s => by kernel_rfl) Hx.run (by kernel_rfl) (by kernel_rfl) (by kernel_rfl) (by rfl) (by first | assumption | decide +kernel) (by decide +kernel) ⟨rfl, rfl, rfl, rfl, rfl, by decide +kernel⟩ ?hw ?hc
  case hw => w_witness2
  case hc =>
    refine Hd.walk_lawH (l := PySem.Challenge.rw_lastmakers_k02_plans_judged) (k := 8) (x := "_law_script") rfl (by kernel_rfl) ⟨rfl, by decide, by decide⟩ ?F
    intro w mg fa h Y G hmg0
    obtain ⟨K, T, KX, XT, c⟩ := Y
    have hmg : mg ("law" : PySem.Str) = some (.ref fa) := by
      have e : (HandSHeadRun.topDef (OpenLaw.row PySem.Challenge.rw_lastmakers_k02_plans_judged).prog 25).name = ("law" : PySem.Str) := by kernel_rfl
      rw [← e]
      exact hmg0
    obtain ⟨fd, TO, ne, hb, hF⟩ := Hx.facts (l := PySem.Challenge.rw_lastmakers_k02_plans_judged) (by kernel_rfl) (by kernel_rfl) (w := w) KX G hmg XT c
    exact ⟨K, fd, _, KX, TO, ne, hb, hF⟩

