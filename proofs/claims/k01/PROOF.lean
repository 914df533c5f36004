import PyProof.Rows.All
import Wide.All
import OpenK.AllK
import Wide.FinOn
import HandS.ForMost
import HandS.Lambda
import HandS.ForExc
import HandS.Deep
import HandS.TupAny
import HandS.CallSlots
import HandS.Walk
import HandS.TryOnly
import HandS.Zip
import HandS.DictComp
import KE.GoesMore
import KE.GoesEnum
import HandS.IsInst
import KE.DataEq
import HandS.Wide
import HandS.Conv
import KE.SortData
import KE.KDictPairs
import PyProof.ReprRoads
import PyProof.Rows.RuleB_pow
import HandS.SortKw
import HandS.DictTup
import HandS.ListItems
import HandS.WordsDict
import KE.KDictItemsList
import HandS.TupLen
import PyProof.CallFns
import HandS.EndTab
import HandS.Property
import HandS.Iter
import HandS.Finally
import HandS.TupSets
import KE.KeyNested
import KE.KDictKeyed
import KE.GoesSet
import HandS.SetKeys
import HandS.Star
import HandS.Style
import PyProof.InstNe
import HandS.Set
import KE.KDictList
import HandS.Flow
import HandS.ExcIs
import HandS.ExcField
import KE.KExcIs
import KE.DataFind
import HandS.ExcInit
import KE.KExcSuper
import KE.KExcMake
import HandS.HeadHook1
import HandS.JoinGen
import HandS.TupMul
import HandS.IterVal
import KE.KDictWalk
import KE.KDictCopyH
import HandS.Text
import HandS.Head0
import HandS.Head1
import HandS.Head2
import HandS.HeadHook2
import KE.KxText
import PyProof.ReprBulk
import PySem.Challenge.RW_lastmakers_k01_errors_by_hand
set_option Elab.async false
set_option linter.all false
set_option maxRecDepth 100000
set_option maxHeartbeats 4000000
set_option synthInstance.maxSize 1024
set_option synthInstance.maxHeartbeats 400000
namespace Fx
open PySem L2

/-- what is known of the program: the written part, the module's names -/
structure Ck where
 K : PySem.W.Frag
 mg : Str → Option Value
 w : World
instance : Coe Ck PySem.W.Frag := ⟨Ck.K⟩
/-- the classes whose objects are seen as data -/
def a0o (nm : Str) : Bool := decide (nm ∈ (["Book", "Plans", "RoundBook", "Stand", "Held", "Live", "Desk"] : List Str))
/-- an object as data: its class's name, its fields -/
def I7 : List (Str × PyData) → List (PyData × PyData)
 | [] => []
 | (n, d) :: r => (.str n, d) :: I7 r
def a1l (nm : Str) (fs : List (Str × PyData)) : PyData := .dict ((.list [], .str nm) :: I7 fs)
/-- an exception that was kept; a function of the module -/
def a0S (nm : Str) (fs : List (Str × PyData)) : PyData := .dict ((.list [.none], .str nm) :: I7 fs)
def fnD (nm : Str) : PyData := .dict [(.list [.none, .none], .str nm)]
/-- the object of an exception: its class, its own dict -/
def ErC (cls : Value) (d : Option Addr) (a : Addr) : HO := .ext fun h => ∃ (oe : Obj) (vs : Array Value), h.get? a = some oe ∧ Zc cls d oe ∧ oe.data = .fields vs
/-- its own dict -/
def ErD (F : Hp) (d : Option Addr) (fs : List (Str × V)) : Prop := (d = none ∧ fs = []) ∨ ∃ dx, d = some dx ∧ F dx = some (.xd fs)
def keyD : Key → PyData
 | .inl i => .int i
 | .inr x => .str x

/-- a dict whose keys are tuples of ints and texts: its one object, known; what that holds -/
def AtO (a : Addr) (ob : Obj) : HO := .ext fun h => h.get? a = some ob
abbrev TKV := List (List Key × Addr × V)
def tkH (w : World) (ks : List Key) : Int := reduceHash (Builtin.Tuple.tupleHashOf (ks.map (keyH w)))
def a9I (w : World) (a : Addr) (ob : Obj) (kvs : TKV) : Prop := kvs.length ≤ sizeLine ∧ (a == sysModules) = false ∧ ∃ xs : List (List Key × Addr × Value), Paired (fun (p : List Key × Addr × V) (q : List Key × Addr × Value) => p.1 = q.1 ∧ p.2.1 = q.2.1 ∧ RelV p.2.2 q.2.2) kvs xs ∧
 ∃ es ep, ob.ExactDict ∧ ob.data = .dict es ep ∧ es.toList = xs.map (fun x => (⟨tkH w x.1, .ref x.2.1, x.2.2⟩ : DictEntry)) ∧ (xs.map (·.1)).Nodup
/-- a dict with tuple keys, as data -/
def mkT : PyData × PyData := (.list [.none, .none, .none], .none)
def a4u (ks : List (PyData × PyData)) : PyData := .dict (mkT :: ks)
def a6j (t : Bool) (ks : List (PyData × PyData)) : PyData := match t with
 | false => .dict ks
 | true => a4u ks
/-- a list that may be read: one of the heap, or one of the module's own -/
def a0d (K : Ck) (H : Hp) (a : Addr) (xs : List V) : Prop := Rd H a (.lst xs) ∨ ∃ (its : Array Value) (n : Nat), K.K.lookup a = some { cls := .type "list", data := .seq its n } ∧ its.size ≤ sizeLine ∧ Vals xs its.toList
theorem a0d.sql {K : Ck} {H : Hp} {a : Addr} {xs : List V} (h : a0d K H a xs) : SqL K H a xs := by
 rcases h with h | ⟨its, n, h1, h2, h3⟩
 ·exact .inl h
 ·exact .inr ⟨_, its, n, h1, rfl, rfl, rfl, h2, h3⟩
/-- a tuple of whom all is known; one that is no tuple of tuples -/
def PlT (F : Hp) (a : Addr) (vs : List V) : Prop := ∃ o, F a = some (.frz o (.tup vs)) ∧ o.dict = none
def b01 : PyData → Bool
 | .tuple _ => false
 | .list _ => false
 | _ => true
def a2t (K : Ck) (F : Hp) (a : Addr) (vs : List V) (ds : List PyData) : Prop := (F a = some (.tup vs) ∧ ds.any b01 = true) ∨ PlT F a vs ∨ (vs = [] ∧ ds = [] ∧ ∃ (its : Array Value) (n : Nat), K.K.lookup a = some { cls := .type "tuple", data := .seq its n })
mutual
inductive Rp (K : Ck) (F : Hp) : V → PyData → Prop
 | non : Rp K F .non .none
 | bl (b : Bool) : Rp K F (.bl b) (.bool b)
 | int (i : Int) : Rp K F (.int i) (.int i)
 | str (x : Str) : Rp K F (.str x) (.str x)
 | lst {a : Addr} {vs : List V} {ds : List PyData} : a0d K F a vs → RpA K F vs ds → Rp K F (.ref a) (.list ds)
 | tup {a : Addr} {vs : List V} {ds : List PyData} : SqT K F a vs → a2t K F a vs ds → RpA K F vs ds → Rp K F (.ref a) (.tuple ds)
 | dK {a : Addr} {kvs : List (Key × V)} {ds : List (PyData × PyData)} : Rd F a (.dK kvs) → RpK K F kvs ds → Rp K F (.ref a) (.dict ds)
 | dT {a : Addr} {ob : Obj} {kvs : TKV} {ds : List (PyData × PyData)} : F a = some (AtO a ob) → a9I K.w a ob kvs → RpT K F kvs ds → Rp K F (.ref a) (a4u ds)
 | obj {a dx C : Addr} {nm : Str} {fs : List (Str × V)} {ds : List (Str × PyData)} : F a = some (.ins C dx fs) → K.mg nm = some (.ref C) → a0o nm = true → RpF K F fs ds → Rp K F (.ref a) (a1l nm ds)
 | exc {a C : Addr} {d : Option Addr} {nm : Str} {fs : List (Str × V)} {ds : List (Str × PyData)} : F a = some (ErC (.ref C) d a) → K.mg nm = some (.ref C) → ErD F d fs → RpF K F fs ds → Rp K F (.ref a) (a0S nm ds)
 | fn {f : Addr} {nm : Str} : K.mg nm = some (.ref f) → Rp K F (.ref f) (fnD nm)
inductive RpA (K : Ck) (F : Hp) : List V → List PyData → Prop
 | nil : RpA K F [] []
 | cons {v : V} {vs : List V} {d : PyData} {ds : List PyData} : Rp K F v d → RpA K F vs ds → RpA K F (v :: vs) (d :: ds)
inductive RpK (K : Ck) (F : Hp) : List (Key × V) → List (PyData × PyData) → Prop
 | nil : RpK K F [] []
 | cons {k : Key} {v : V} {kvs : List (Key × V)} {d : PyData} {ds : List (PyData × PyData)} : Rp K F v d → RpK K F kvs ds → RpK K F ((k, v) :: kvs) ((keyD k, d) :: ds)
inductive RpT (K : Ck) (F : Hp) : TKV → List (PyData × PyData) → Prop
 | nil : RpT K F [] []
 | cons {k : List Key} {b : Addr} {v : V} {kvs : TKV} {d : PyData} {ds : List (PyData × PyData)} : Rp K F (.ref b) (.tuple (k.map keyD)) → Rp K F v d → RpT K F kvs ds → RpT K F ((k, b, v) :: kvs) ((.tuple (k.map keyD), d) :: ds)
inductive RpF (K : Ck) (F : Hp) : List (Str × V) → List (Str × PyData) → Prop
 | nil : RpF K F [] []
 | cons {n : Str} {v : V} {fs : List (Str × V)} {d : PyData} {ds : List (Str × PyData)} : Rp K F v d → RpF K F fs ds → RpF K F ((n, v) :: fs) ((n, d) :: ds)
end

/-- one heap's objects stand in another one as well -/
def Le (F F' : Hp) : Prop := ∀ a o, F a = some o → F' a = some o
theorem Le.refl (F : Hp) : Le F F := fun _ _ h => h
theorem Le.trans {F F1 F2 : Hp} (a : Le F F1) (b : Le F1 F2) : Le F F2 := fun x o h => b x o (a x o h)
theorem Le.tok {K : Ck} {F F' : Hp} {a : Addr} {vs : List V} {ds : List PyData} (e : Le F F') (h : a2t K F a vs ds) : a2t K F' a vs ds := by
 rcases h with ⟨h, k⟩ | ⟨o, h, k⟩ | h
 ·exact .inl ⟨e _ _ h, k⟩
 ·exact .inr (.inl ⟨o, e _ _ h, k⟩)
 ·exact .inr (.inr h)
theorem Le.sql {K : Ck} {F F' : Hp} {a : Addr} {xs : List V} (e : Le F F') (h : SqL K F a xs) : SqL K F' a xs := by
 rcases h with (h | ⟨o, h⟩) | h
 ·exact .inl (.inl (e _ _ h))
 ·exact .inl (.inr ⟨o, e _ _ h⟩)
 ·exact .inr h
theorem Le.rd {F F' : Hp} {a : Addr} {u : HO} (e : Le F F') (h : Rd F a u) : Rd F' a u := by
 rcases h with h | ⟨o, h⟩
 ·exact .inl (e _ _ h)
 ·exact .inr ⟨o, e _ _ h⟩
theorem Le.sqx {K : Ck} {F F' : Hp} {a : Addr} {xs : List V} (e : Le F F') (h : a0d K F a xs) : a0d K F' a xs := h.imp e.rd id
theorem Le.sqt {K : Ck} {F F' : Hp} {a : Addr} {xs : List V} (e : Le F F') (h : SqT K F a xs) : SqT K F' a xs := by
 rcases h with (h | ⟨o, h⟩) | h
 ·exact .inl (.inl (e _ _ h))
 ·exact .inl (.inr ⟨o, e _ _ h⟩)
 ·exact .inr h

mutual
theorem Rp.mono {K : Ck} {F F' : Hp} (e : Le F F') : ∀ {v : V} {d : PyData}, Rp K F v d → Rp K F' v d
 | _, _, .non => .non
 | _, _, .bl b => .bl b
 | _, _, .int i => .int i
 | _, _, .str x => .str x
 | _, _, .lst h r => .lst (e.sqx h) (RpA.mono e r)
 | _, _, .tup h k r => .tup (e.sqt h) (e.tok k) (RpA.mono e r)
 | _, _, .dK h r => .dK (e.rd h) (RpK.mono e r)
 | _, _, .dT h n r => .dT (e _ _ h) n (RpT.mono e r)
 | _, _, .obj h m i r => .obj (e _ _ h) m i (RpF.mono e r)
 | _, _, .exc h m d r => .exc (e _ _ h) m (d.imp id fun ⟨dx, q1, q2⟩ => ⟨dx, q1, e _ _ q2⟩) (RpF.mono e r)
 | _, _, .fn m => .fn m
theorem RpA.mono {K : Ck} {F F' : Hp} (e : Le F F') : ∀ {vs : List V} {ds : List PyData}, RpA K F vs ds → RpA K F' vs ds
 | _, _, .nil => .nil
 | _, _, .cons r t => .cons (Rp.mono e r) (RpA.mono e t)
theorem RpK.mono {K : Ck} {F F' : Hp} (e : Le F F') : ∀ {vs : List (Key × V)} {ds : List (PyData × PyData)}, RpK K F vs ds → RpK K F' vs ds
 | _, _, .nil => .nil
 | _, _, .cons r t => .cons (Rp.mono e r) (RpK.mono e t)
theorem RpT.mono {K : Ck} {F F' : Hp} (e : Le F F') : ∀ {vs : TKV} {ds : List (PyData × PyData)}, RpT K F vs ds → RpT K F' vs ds
 | _, _, .nil => .nil
 | _, _, .cons q r t => .cons (Rp.mono e q) (Rp.mono e r) (RpT.mono e t)
theorem RpF.mono {K : Ck} {F F' : Hp} (e : Le F F') : ∀ {vs : List (Str × V)} {ds : List (Str × PyData)}, RpF K F vs ds → RpF K F' vs ds
 | _, _, .nil => .nil
 | _, _, .cons r t => .cons (Rp.mono e r) (RpF.mono e t)
end

theorem RpA.length {K : Ck} {F : Hp} : ∀ {vs : List V} {ds : List PyData}, RpA K F vs ds → vs.length = ds.length
 | _, _, .nil => rfl
 | _, _, .cons _ t => by simp [RpA.length t]
theorem RpA.get {K : Ck} {F : Hp} : ∀ {vs : List V} {ds : List PyData} {i : Nat} {v : V}, RpA K F vs ds → vs[i]? = some v → ∃ d, ds[i]? = some d ∧ Rp K F v d
 | _, _, _, _, .nil, e => by simp at e
 | _, _, 0, _, .cons r _, e => by simp at e; subst e; exact ⟨_, rfl, r⟩
 | _, _, i + 1, v, .cons _ t, e => by
  obtain ⟨d, h1, h2⟩ := RpA.get (i := i) (v := v) t (by simpa using e)
  exact ⟨d, by simpa using h1, h2⟩
theorem RpA.append {K : Ck} {F : Hp} : ∀ {vs ws : List V} {ds es : List PyData}, RpA K F vs ds → RpA K F ws es → RpA K F (vs ++ ws) (ds ++ es)
 | _, _, _, _, .nil, s => s
 | _, _, _, _, .cons r t, s => .cons r (RpA.append t s)
theorem RpA.take {K : Ck} {F : Hp} : ∀ {vs : List V} {ds : List PyData} (n : Nat), RpA K F vs ds → RpA K F (vs.take n) (ds.take n)
 | _, _, 0, _ => by simpa using RpA.nil
 | _, _, n + 1, .nil => .nil
 | _, _, n + 1, .cons r t => by simpa using RpA.cons r (RpA.take n t)
theorem RpA.drop {K : Ck} {F : Hp} : ∀ {vs : List V} {ds : List PyData} (n : Nat), RpA K F vs ds → RpA K F (vs.drop n) (ds.drop n)
 | _, _, 0, r => r
 | _, _, n + 1, .nil => .nil
 | _, _, n + 1, .cons _ t => by simpa using RpA.drop n t
theorem RpA.set {K : Ck} {F : Hp} {v : V} {d : PyData} (r : Rp K F v d) : ∀ {vs : List V} {ds : List PyData} (i : Nat), RpA K F vs ds → RpA K F (vs.set i v) (ds.set i d)
 | _, _, _, .nil => .nil
 | _, _, 0, .cons _ t => .cons r t
 | _, _, i + 1, .cons q t => .cons q (RpA.set r i t)
/-- what is frozen stands in the heap (a dict may be locked) -/
def Sub (F H : Hp) : Prop := ∀ a o, F a = some o → H a = some o
theorem Sub.le {F H : Hp} (s : Sub F H) : Le F H := s

/-- where the law's state stands, and how many draws there may still be -/
structure Gs where
 q : Option (Addr × Addr × Addr)
 ls : List Int := []
 cs : List Int := []
 rest : Int := 0
 turn : Int := 0
 tt : Bool := false
structure Sta where
 M : Addr → Prop
 T : List (Addr × Str)
 J : Gs → Hp → Prop
 ok : ∀ g H H', J g H → (∀ a, M a → H' a = H a) → J g H'
 there : ∀ g H a, J g H → M a → H a ≠ none
 tm : ∀ p ∈ T, M p.1
/-- the tables of code objects: whose lambdas' codes they tell; these are known for good -/
def Tb (S : Sta) (F H : Hp) : Prop := ∀ p ∈ S.T, ∃ ps : Array Value, H p.1 = some (.tbl ps) ∧ TriplesOk ps.toList ∧ ∀ (pos : Pos) (cv : Value), codeAmong pos ps.toList = some cv → ∃ c, cv = .ref c ∧ F c = some (LamX.CodeO c p.2)
theorem Tb.to {S : Sta} {F H F' H' : Hp} (h : Tb S F H) (le : ∀ a o, F a = some o → F' a = some o) (k : ∀ a ps, S.M a → H a = some (.tbl ps) → H' a = some (.tbl ps)) : Tb S F' H' := fun p hp => by
 obtain ⟨ps, h1, h2, h3⟩ := h p hp
 refine ⟨ps, k _ _ (S.tm p hp) h1, h2, fun pos cv hc => ?_⟩
 obtain ⟨c, e1, e2⟩ := h3 pos cv hc
 exact ⟨c, e1, le _ _ e2⟩
theorem Tb.upd {S : Sta} {F H F' : Hp} {p : Addr} {o : HO} (h : Tb S F H) (le : ∀ a o, F a = some o → F' a = some o) (hp : ∀ ps, H p ≠ some (.tbl ps)) : Tb S F' (upd H p o) := h.to le fun a ps _ e => by rw [upd_ne (fun z => hp ps (by rw [← z]; exact e))]; exact e
theorem Tb.off {S : Sta} {F H : Hp} {p : Addr} {o : HO} (h : Tb S F H) (nM : ¬ S.M p) : Tb S F (L2.upd H p o) := h.to (fun _ _ e => e) fun a ps m e => (upd_ne fun (z : a = p) => nM (z ▸ m)).trans e
/-- the law's state: a dict, the large numbers left, the cells -/
structure a0z (d l c : Addr) (ls cs : List Int) (rest turn : Int) (H : Hp) : Prop where
 dl : d ≠ l
 dc : d ≠ c
 lc : l ≠ c
 hd : H d = some (.dK [(.inr "large", .ref l), (.inr "cells", .ref c), (.inr "rest", .int rest), (.inr "turn", .int turn)])
 hl : H l = some (.lst (ls.map V.int))
 hc : H c = some (.lst (cs.map V.int))
/-- where the law's state stands; the tables of codes -/
abbrev SQ := Option (Addr × Addr × Addr) × List (Addr × Str)
def u0 : SQ → Sta
  | (.none, T) => ⟨fun a => ∃ s, (a, s) ∈ T, T, fun g H => g.q = .none ∧ (∀ p ∈ T, H p.1 ≠ none) ∧ (g.tt = true → T ≠ []), fun _ _ _ h k => ⟨h.1, fun p hp => by rw [k _ ⟨p.2, hp⟩]; exact h.2.1 p hp, h.2.2⟩, fun _ _ _ h m => let ⟨s, hs⟩ := m; h.2.1 _ hs, fun p hp => ⟨p.2, hp⟩⟩
  | (some (d, l, c), T) => ⟨fun a => (a = d ∨ a = l ∨ a = c) ∨ ∃ s, (a, s) ∈ T, T, fun g H => (g.q = some (d, l, c) ∧ a0z d l c g.ls g.cs g.rest g.turn H) ∧ (∀ p ∈ T, H p.1 ≠ none) ∧ (g.tt = true → T ≠ []), fun g H H' h k =>
      ⟨⟨h.1.1, ⟨h.1.2.dl, h.1.2.dc, h.1.2.lc, by rw [k d (.inl (.inl rfl))]; exact h.1.2.hd, by rw [k l (.inl (.inr (.inl rfl)))]; exact h.1.2.hl, by rw [k c (.inl (.inr (.inr rfl)))]; exact h.1.2.hc⟩⟩, fun p hp => by rw [k _ (.inr ⟨p.2, hp⟩)]; exact h.2.1 p hp, h.2.2⟩, fun g H a h m => by
      obtain ⟨⟨h0, L⟩, ht, _⟩ := h
      rcases m with (rfl | rfl | rfl) | ⟨s, hs⟩
      · rw [L.hd]; exact fun z => by cases z
      · rw [L.hl]; exact fun z => by cases z
      · rw [L.hc]; exact fun z => by cases z
      · exact ht _ hs, fun p hp => .inr ⟨p.2, hp⟩⟩
/-- where the table of codes of the def at f stands -/
def tabOf (K : PySem.W.Frag) (f : Addr) : Option Addr := match K.lookup f with
 | some ⟨_, _, .func fd, _⟩ => (match fd.code with
  | .ref c => (match K.lookup c with
   | some ⟨_, _, .fields vs, _⟩ => (match (vs[11]? : Option Value) with
    | some (.ref P) => some P
    | _ => none)
   | _ => none)
  | _ => none)
 | _ => none
/-- defs whose lambdas may be made -/
def C7 : List Str := ["law", "_law_book_right", "_law_refused", "_law_full_right", "_law_others_right", "_law_refuses", "_law_gaps_right", "_law_strikes_right", "_law_led_right", "_law_words_of", "_law_two_right", "_law_forms_right", "_law_sides_right", "_law_read_right", "_law_changed_right"]
def W9 (K : PySem.W.Frag) (mg : Str → Option Value) : List (Addr × Str) := C7.filterMap fun x => match mg x with
 | some (.ref f) => (tabOf K f).map fun P => (P, x ++ ".<locals>.<lambda>")
 | _ => none
abbrev a6d (K : Ck) : List (Addr × Str) := W9 K.K K.mg
def a93 (K : Ck) (S : Sta) : Prop := ∃ q : SQ, S = u0 q ∧ (q.2 ≠ [] → q.2 = a6d K)
/-- from one moment to the next, while an expression is looked at -/
structure Ext (S : Sta) (F H F' H' : Hp) : Prop where
 keep : ∀ a o, H a = some o → ¬ S.M a → H' a = some o
 grow : ∀ a, H a ≠ Option.none → F' a = F a
 le : Le F F'
 sub : Sub F' H'
 tb : Tb S F H → Tb S F' H'
theorem Ext.refl {S : Sta} {F H : Hp} (s : Sub F H) : Ext S F H F H := ⟨fun _ _ h _ => h, fun _ _ => rfl, Le.refl F, s, fun h => h⟩
theorem Ext.trans {S : Sta} {g1 : Gs} {F H F1 H1 F2 H2 : Hp} (a : Ext S F H F1 H1) (b : Ext S F1 H1 F2 H2) (j : S.J g1 H1) : Ext S F H F2 H2 where
 keep := fun x o h m => b.keep x o (a.keep x o h m) m
 grow := fun x h => by
  have : H1 x ≠ Option.none := by
   by_cases m : S.M x
   ·exact S.there _ _ _ j m
   ·cases e : H x with
    | none => exact absurd e h
    | some o => rw [a.keep x o e m]; exact fun z => by cases z
  rw [b.grow x this, a.grow x h]
 le := a.le.trans b.le
 sub := b.sub
 tb := fun h => b.tb (a.tb h)
theorem Ext.there {S : Sta} {g1 : Gs} {F H F1 H1 : Hp} (a : Ext S F H F1 H1) (j : S.J g1 H1) {x : Addr} (h : H x ≠ Option.none) : H1 x ≠ Option.none := by
 by_cases m : S.M x
 ·exact S.there _ _ _ j m
 ·cases e : H x with
  | none => exact absurd e h
  | some o => rw [a.keep x o e m]; exact fun z => by cases z
theorem Ext.free {S : Sta} {g1 : Gs} {F H F1 H1 : Hp} (a : Ext S F H F1 H1) (j : S.J g1 H1) {x : Addr} (h : H1 x = Option.none) : H x = Option.none := by
 cases e : H x with
 | none => rfl
 | some o => exact absurd h (a.there j (by rw [e]; exact fun z => by cases z))
theorem Sub.free {F H : Hp} (s : Sub F H) {a : Addr} (h : H a = none) : F a = none := by
 cases e : F a with
 | none => rfl
 | some o => rw [s _ _ e] at h; cases h
/-- a new object, frozen at once | left out of the frozen ones -/
theorem Ext.new {S : Sta} {F H : Hp} {p : Addr} {o : HO} (s : Sub F H) (h : H p = none) : Ext S F H (upd F p o) (upd H p o) where
 keep := fun x u e _ => by rw [upd_ne (ne_of_none e h)]; exact e
 grow := fun x e => by rw [upd_ne (fun z => e (by rw [z]; exact h))]
 le := fun x u e => by rw [upd_ne (ne_of_none (s _ _ e) h)]; exact e
 sub := fun x u e => by
  by_cases z : x = p
  ·subst z; rw [upd_same] at e ⊢; exact e
  ·rw [upd_ne z] at e ⊢; exact s _ _ e
 tb := fun t => t.upd (fun x u e => by rw [upd_ne (ne_of_none (s _ _ e) h)]; exact e) fun ps z => by rw [h] at z; cases z
theorem Ext.own {S : Sta} {F H : Hp} {p : Addr} {o : HO} (s : Sub F H) (h : H p = none) : Ext S F H F (upd H p o) where
 keep := fun x u e _ => by rw [upd_ne (ne_of_none e h)]; exact e
 grow := fun x e => rfl
 le := Le.refl F
 sub := fun x u e => by rw [upd_ne (ne_of_none (s _ _ e) h)]; exact s _ _ e
 tb := fun t => t.upd (fun _ _ e => e) fun ps z => by rw [h] at z; cases z
theorem J.new {S : Sta} {g : Gs} {H : Hp} {p : Addr} {o : HO} (j : S.J g H) (h : H p = none) : S.J g (upd H p o) :=
 S.ok g H _ j fun a m => upd_ne fun z => S.there _ _ _ j m (by rw [z]; exact h)

/-- data that stand still; a new list, a new dict of whom nobody else knows; a value as it is -/
inductive RV where
 | d (x : PyData)
 | nl (xs : List PyData)
 | nd (t : Bool) (kvs : List (PyData × PyData))
 | o (v : V)
/-- what a def is handed -/
inductive AV where
 | d (x : PyData)
 | o (v : V)

def a0t (K : Ck) (F : Hp) (v : V) : AV → Prop
 | .d x => Rp K F v x
 | .o u => v = u
def v7 (K : Ck) (F : Hp) : List V → List AV → Prop
 | [], [] => True
 | v :: vs, a :: as => a0t K F v a ∧ v7 K F vs as
 | _, _ => False
theorem a0t.mono {K : Ck} {F F' : Hp} (e : Le F F') {v : V} {a : AV} (h : a0t K F v a) : a0t K F' v a := by
 cases a with
 | d x => exact Rp.mono e h
 | o u => exact h
theorem v7.mono {K : Ck} {F F' : Hp} (e : Le F F') : ∀ {vs : List V} {as : List AV}, v7 K F vs as → v7 K F' vs as
 | [], [], _ => trivial
 | _ :: _, _ :: _, h => ⟨h.1.mono e, v7.mono e h.2⟩
 | [], _ :: _, h => h.elim
 | _ :: _, [], h => h.elim
theorem v7.length {K : Ck} {F : Hp} : ∀ {vs : List V} {as : List AV}, v7 K F vs as → vs.length = as.length
 | [], [], _ => rfl
 | _ :: _, _ :: _, h => by simp [v7.length h.2]
 | [], _ :: _, h => h.elim
 | _ :: _, [], h => h.elim

/-- entries of a dict -/
inductive Ent where
 | k (kvs : List (Key × V))
 | t (ob : Obj) (kvs : TKV)
def Ent.ho (a : Addr) : Ent → HO
 | .k kvs => .dK kvs
 | .t ob _ => AtO a ob
def Ent.isT : Ent → Bool
 | .k _ => false
 | .t _ _ => true
def RpE (K : Ck) (F : Hp) (a : Addr) : Ent → List (PyData × PyData) → Prop
 | .k kvs, ds => RpK K F kvs ds
 | .t ob kvs, ds => a9I K.w a ob kvs ∧ RpT K F kvs ds
theorem RpE.mono {K : Ck} {F F' : Hp} {a : Addr} (e : Le F F') {n : Ent} {ds : List (PyData × PyData)} (h : RpE K F a n ds) : RpE K F' a n ds := by
 cases n with
 | k kvs => exact RpK.mono e h
 | t ob kvs => exact ⟨h.1, RpT.mono e h.2⟩
theorem RpE.rp {K : Ck} {F : Hp} {n : Ent} {ds : List (PyData × PyData)} {a : Addr} (h : RpE K F a n ds) (e : F a = some (n.ho a)) : Rp K F (.ref a) (a6j n.isT ds) := by
 cases n with
 | k kvs => exact .dK (.inl e) h
 | t ob kvs => exact .dT e h.1 h.2

/-- H0: the heap ahead; F, H: behind -/
def A1 (K : Ck) (S : Sta) (H0 F H : Hp) (v : V) : RV → Prop
 | .d x => Rp K F v x
 | .nl xs => ∃ a vs, v = .ref a ∧ H0 a = none ∧ ¬ S.M a ∧ F a = none ∧ H a = some (.lst vs) ∧ RpA K F vs xs
 | .nd t ks => ∃ a n, v = .ref a ∧ H0 a = none ∧ ¬ S.M a ∧ F a = none ∧ H a = some (n.ho a) ∧ n.isT = t ∧ RpE K F a n ks
 | .o u => v = u

/-- as an argument -/
def RV.av : RV → AV
 | .d x => .d x
 | .nl xs => .d (.list xs)
 | .nd t ks => .d (a6j t ks)
 | .o v => .o v
/-- it may be frozen -/
def RV.ok : RV → Prop
 | _ => True
/-- a value is frozen -/
theorem A1.freeze {K : Ck} {S : Sta} {g : Gs} {H0 F H : Hp} {v : V} {r : RV} (s : Sub F H) (j : S.J g H) (h : A1 K S H0 F H v r) (h0 : ∀ a, H0 a ≠ none → H a ≠ none) (ok : r.ok) : ∃ F', Le F F' ∧ Sub F' H ∧ (∀ a, H0 a ≠ none → F' a = F a) ∧ (∀ a, S.M a → F' a = F a) ∧ a0t K F' v r.av := by
 cases r with
 | d x => exact ⟨F, Le.refl F, s, fun _ _ => rfl, fun _ _ => rfl, h⟩
 | o u => exact ⟨F, Le.refl F, s, fun _ _ => rfl, fun _ _ => rfl, h⟩
 | nl xs =>
  obtain ⟨a, vs, rfl, h1, hm, h2, h3, h4⟩ := h
  have le : Le F (upd F a (.lst vs)) := fun x u e => by rw [upd_ne (ne_of_none e h2)]; exact e
  refine ⟨upd F a (.lst vs), le, fun x u e => ?_, fun x hx => upd_ne fun z => hx (by rw [z]; exact h1), fun x hx => upd_ne fun z => hm (z ▸ hx), ?_⟩
  ·by_cases z : x = a
   ·subst z; rw [upd_same] at e; rw [h3]; exact e
   ·rw [upd_ne z] at e; exact s _ _ e
  ·exact Rp.lst (.inl (.inl upd_same)) (h4.mono le)
 | nd t ks =>
  obtain ⟨a, n, rfl, h1, hm, h2, h3, rfl, h4⟩ := h
  have le : Le F (upd F a (n.ho a)) := fun x u e => by rw [upd_ne (ne_of_none e h2)]; exact e
  refine ⟨upd F a (n.ho a), le, fun x u e => ?_, fun x hx => upd_ne fun z => hx (by rw [z]; exact h1), fun x hx => upd_ne fun z => hm (z ▸ hx), ?_⟩
  ·by_cases z : x = a
   ·subst z; rw [upd_same] at e; rw [h3]; exact e
   ·rw [upd_ne z] at e; exact s _ _ e
  ·exact (h4.mono le).rp upd_same
end Fx

namespace Fx
open PySem L2

inductive R (α : Type) where
 | ok (a : α) (g : Gs)
 | exc (x : PyData) (g : Gs)
 | bad
def R.bind {α β : Type} (m : R α) (k : α → Gs → R β) : R β := match m with
 | .ok a g => k a g
 | .exc x g => .exc x g
 | .bad => .bad
@[simp] theorem R.bind_ok {α β : Type} (a : α) (g : Gs) (k : α → Gs → R β) : (R.ok a g).bind k = k a g := rfl
@[simp] theorem R.bind_exc {α β : Type} (x : PyData) (g : Gs) (k : α → Gs → R β) : (R.exc x g : R α).bind k = .exc x g := rfl
@[simp] theorem R.bind_bad {α β : Type} (k : α → Gs → R β) : (R.bad : R α).bind k = .bad := rfl
def R.wp {α : Type} (m : R α) (P : α → Gs → Prop) (X : PyData → Gs → Prop) : Prop := match m with
 | .ok a g => P a g
 | .exc x g => X x g
 | .bad => False
def R.ofO {α : Type} (o : Option α) (g : Gs) : R α := match o with
 | some a => .ok a g
 | none => .bad
@[simp] theorem R.ofO_some {α : Type} (a : α) (g : Gs) : R.ofO (some a) g = .ok a g := rfl
@[simp] theorem R.ofO_none {α : Type} (g : Gs) : (R.ofO none g : R α) = .bad := rfl
inductive SD where
 | u
 | d (x : PyData)
 | o (v : V)
 | own (xs : List PyData)
 | dic (t : Bool) (ks : List (PyData × PyData))
 | ins (x dx C : Addr) (nm : Str) (fs : List (Str × PyData))
 /-- a locked dict -/
 | lk (x : PyData)
 /-- an exception that was caught -/
 | er (x : PyData)
 /-- an own list of lambdas: what each object is, by its address and its code's; the codes' name -/
 | lm (os : List (Addr → Addr → Heap → Prop)) (q : Str)
/-- a caught exception, as data -/
def ErR (K : Ck) (F : Hp) (v : V) (x : PyData) : Prop := ∃ (a C : Addr) (nm : Str) (d : Option Addr) (fs : List (Str × V)) (ds : List (Str × PyData)), v = .ref a ∧ F a = some (ErC (.ref C) d a) ∧ K.mg nm = some (.ref C) ∧
 ((d = none ∧ fs = []) ∨ ∃ dx, d = some dx ∧ F dx = some (.xd fs)) ∧ RpF K F fs ds ∧ x = a1l nm ds
theorem ErR.mono {K : Ck} {F F' : Hp} {v : V} {x : PyData} (h : ErR K F v x) (le : Le F F') : ErR K F' v x := by
 obtain ⟨a, C, nm, d, fs, ds, e, h1, h2, h3, h4, h5⟩ := h
 exact ⟨a, C, nm, d, fs, ds, e, le _ _ h1, h2, h3.imp id fun ⟨dx, q1, q2⟩ => ⟨dx, q1, le _ _ q2⟩, RpF.mono le h4, h5⟩
/-- the value is a locked dict -/
def Lkd (F : Hp) (v : V) : Prop := ∃ a o kvs, v = .ref a ∧ F a = some (.frz o (.dK kvs))
theorem Lkd.mono {F F' : Hp} {v : V} (h : Lkd F v) (le : Le F F') : Lkd F' v := let ⟨a, o, kvs, e, q⟩ := h; ⟨a, o, kvs, e, le _ _ q⟩
def SD.owner : SD → Bool
 | .own _ => true
 | .dic _ _ => true
 | .ins _ _ _ _ _ => true
 | .lm _ _ => true
 | _ => false
/-- the lambdas at these places, frozen -/
def a0r (F : Hp) (q : Str) (fs : List Addr) (os : List (Addr → Addr → Heap → Prop)) : Prop := fs.length = os.length ∧ ∀ (k : Nat) f o, fs[k]? = some f → os[k]? = some o → ∃ c', F f = some (.ext (o f c')) ∧ F c' = some (LamX.CodeO c' q)
theorem a0r.mono {F F' : Hp} {q : Str} {fs : List Addr} {os : List (Addr → Addr → Heap → Prop)} (h : a0r F q fs os) (le : Le F F') : a0r F' q fs os :=
 ⟨h.1, fun k f o h1 h2 => let ⟨c', e1, e2⟩ := h.2 k f o h1 h2; ⟨c', le _ _ e1, le _ _ e2⟩⟩
/-- what an owned slot's object holds -/
def N6 (K : Ck) (F H : Hp) (a : Addr) : SD → Prop
 | .own xs => ∃ vs, H a = some (.lst vs) ∧ RpA K F vs xs
 | .dic t ks => ∃ n : Ent, H a = some (n.ho a) ∧ n.isT = t ∧ RpE K F a n ks
 | .ins x dx C nm fs => ∃ vs, H a = some (.ins C dx vs) ∧ K.mg nm = some (.ref C) ∧ a0o nm = true ∧ RpF K F vs fs ∧ a = x
 | .lm os q => ∃ fs : List Addr, H a = some (.lst (fs.map V.ref)) ∧ a0r F q fs os
 | _ => False
def y7 (K : Ck) (S : Sta) (B F H : Hp) : SD → Option V → Prop
 | .u, _ => True
 | .d x, s => ∃ v, s = some v ∧ Rp K F v x
 | .o v, s => s = some v
 | .lk x, s => ∃ v, s = some v ∧ Rp K F v x ∧ Lkd F v
 | .er x, s => ∃ v, s = some v ∧ ErR K F v x
 | s, v => ∃ a, v = some (.ref a) ∧ B a = none ∧ ¬ S.M a ∧ F a = none ∧ N6 K F H a s
section
variable {K : Ck} {S : Sta} {B F0 F H F' H' : Hp} {ρ : List SD} {σ : St} {g g' : Gs}
theorem N6.there {a : Addr} {s : SD} (h : N6 K F H a s) : ∃ o, H a = some o := by
 cases s with
 | own xs => obtain ⟨vs, h1, _⟩ := h; exact ⟨_, h1⟩
 | dic t ks => obtain ⟨n, h1, _⟩ := h; exact ⟨_, h1⟩
 | ins x dx C nm fs => obtain ⟨vs, h1, _⟩ := h; exact ⟨_, h1⟩
 | lm os q => obtain ⟨fs, h1, _⟩ := h; exact ⟨_, h1⟩
 | u => exact h.elim
 | d x => exact h.elim
 | o v => exact h.elim
 | lk x => exact h.elim
 | er x => exact h.elim
theorem N6.to {a : Addr} {s : SD} (h : N6 K F H a s) (le : Le F F') (k : H' a = H a) : N6 K F' H' a s := by
 cases s with
 | own xs => obtain ⟨vs, h1, h2⟩ := h; exact ⟨vs, k.trans h1, h2.mono le⟩
 | dic t ks => obtain ⟨n, h1, h2, h3⟩ := h; exact ⟨n, k.trans h1, h2, h3.mono le⟩
 | ins x dx C nm fs => obtain ⟨vs, h1, h2, hi, h3, hx⟩ := h; exact ⟨vs, k.trans h1, h2, hi, RpF.mono le h3, hx⟩
 | lm os q => obtain ⟨fs, h1, h2⟩ := h; exact ⟨fs, k.trans h1, h2.mono le⟩
 | u => exact h.elim
 | d x => exact h.elim
 | o v => exact h.elim
 | lk x => exact h.elim
 | er x => exact h.elim
theorem y7.at {s : SD} {v : Option V} (h : y7 K S B F H s v) (o : s.owner = true) : ∃ a, v = some (.ref a) ∧ B a = none ∧ ¬ S.M a ∧ F a = none ∧ N6 K F H a s := by
 cases s with
 | own xs => exact h
 | dic t ks => exact h
 | ins x dx C nm fs => exact h
 | lm os q => exact h
 | u => cases o
 | d x => cases o
 | o v => cases o
 | lk x => cases o
 | er x => cases o
theorem y7.of {s : SD} {a : Addr} (o : s.owner = true) (h1 : B a = none) (h2 : ¬ S.M a) (h3 : F a = none) (h4 : N6 K F H a s) : y7 K S B F H s (some (.ref a)) := by
 cases s with
 | own xs => exact ⟨a, rfl, h1, h2, h3, h4⟩
 | dic t ks => exact ⟨a, rfl, h1, h2, h3, h4⟩
 | ins x dx C nm fs => exact ⟨a, rfl, h1, h2, h3, h4⟩
 | lm os q => exact ⟨a, rfl, h1, h2, h3, h4⟩
 | u => cases o
 | d x => cases o
 | o v => cases o
 | lk x => cases o
 | er x => cases o
/-- a slot stays as it is where the objects it leans on do -/
theorem y7.to {s : SD} {v : Option V} (h : y7 K S B F H s v) (le : Le F F') (k : ∀ a, v = some (.ref a) → s.owner = true → F' a = F a ∧ H' a = H a) : y7 K S B F' H' s v := by
 cases e : s.owner with
 | true =>
  obtain ⟨a, rfl, h1, h2, h3, h4⟩ := h.at e
  obtain ⟨k1, k2⟩ := k a rfl e
  exact .of e h1 h2 (k1.trans h3) (h4.to le k2)
 | false =>
  cases s with
  | u => trivial
  | d x => obtain ⟨w, h1, h2⟩ := h; exact ⟨w, h1, h2.mono le⟩
  | lk x => obtain ⟨w, h1, h2, h3⟩ := h; exact ⟨w, h1, h2.mono le, h3.mono le⟩
  | er x => obtain ⟨w, h1, h2⟩ := h; exact ⟨w, h1, h2.mono le⟩
  | o w => exact h
  | own xs => cases e
  | dic t ks => cases e
  | ins x dx C nm fs => cases e
  | lm os q => cases e
structure g9 (K : Ck) (S : Sta) (B F0 F H : Hp) (ρ : List SD) (σ : St) (g : Gs) : Prop where
 st : a93 K S
 tb : Tb S F H
 sub : Sub F H
 mono : Le F0 F
 fz : ∀ a, B a ≠ none → F a = F0 a
 keep : ∀ a o, B a = some o → ¬ S.M a → H a = some o
 mF : ∀ a, S.M a → F a = none
 j : S.J g H
 len : σ.length = ρ.length
 sl : ∀ (i : Nat) s, ρ[i]? = some s → ∃ v, σ[i]? = some v ∧ y7 K S B F H s v
 dist : ∀ (i k : Nat) s t, ρ[i]? = some s → ρ[k]? = some t → s.owner = true → t.owner = true → σ[i]? = σ[k]? → i = k
theorem y7.ext {s : SD} {v : Option V} (h : y7 K S B F H s v) (e : Ext S F H F' H') : y7 K S B F' H' s v := by
 refine h.to e.le fun a hv ho => ?_
 obtain ⟨b, hb, _, h2, _, h4⟩ := h.at ho
 rw [hv] at hb
 cases hb
 obtain ⟨o, ho⟩ := h4.there
 exact ⟨e.grow a (by rw [ho]; exact fun z => by cases z), by rw [ho]; exact e.keep a o ho h2⟩
theorem g9.ext (E : g9 K S B F0 F H ρ σ g) (e : Ext S F H F' H') (j : S.J g' H') : g9 K S B F0 F' H' ρ σ g' where
 sub := e.sub
 mono := E.mono.trans e.le
 fz := fun a h => by
  have : H a ≠ none := by
   by_cases m : S.M a
   ·exact S.there _ _ _ E.j m
   ·cases q : B a with
    | none => exact absurd q h
    | some o => rw [E.keep a o q m]; exact fun z => by cases z
  rw [e.grow a this, E.fz a h]
 keep := fun a o h m => e.keep a o (E.keep a o h m) m
 mF := fun a m => (e.grow a (S.there _ _ _ E.j m)).trans (E.mF a m)
 j := j
 len := E.len
 sl := fun i s h => let ⟨v, h1, h2⟩ := E.sl i s h; ⟨v, h1, h2.ext e⟩
 dist := E.dist
 st := E.st
 tb := e.tb E.tb
theorem g9.there (E : g9 K S B F0 F H ρ σ g) {a : Addr} (h : B a ≠ none) : H a ≠ none := by
 by_cases m : S.M a
 ·exact S.there _ _ _ E.j m
 ·cases q : B a with
  | none => exact absurd q h
  | some o => rw [E.keep a o q m]; exact fun z => by cases z
theorem g9.free (E : g9 K S B F0 F H ρ σ g) {a : Addr} (h : H a = none) : B a = none := by
 cases q : B a with
 | none => rfl
 | some o => exact absurd h (E.there (by rw [q]; exact fun z => by cases z))
theorem z9 {α : Type} {l : List α} {i k : Nat} {x t : α} (h : (l.set i x)[k]? = some t) : (k = i ∧ i < l.length ∧ t = x) ∨ (k ≠ i ∧ l[k]? = some t) := by
 by_cases e : k = i
 ·subst e
  by_cases hl : k < l.length
  ·rw [List.getElem?_set_self hl] at h
   cases h
   exact .inl ⟨rfl, hl, rfl⟩
  ·rw [List.getElem?_eq_none (by simpa using hl)] at h; cases h
 ·rw [List.getElem?_set_ne (Ne.symm e)] at h
  exact .inr ⟨e, h⟩
/-- a slot is set -/
theorem g9.set (E : g9 K S B F0 F H ρ σ g) {i : Nat} {s : SD} {v : V} (h : y7 K S B F H s (some v)) (hd : s.owner = true → ∀ (k : Nat) (t : SD), ρ[k]? = some t → t.owner = true → σ[k]? ≠ some (some v)) : g9 K S B F0 F H (ρ.set i s) (σ.set i (some v)) g where
 sub := E.sub
 mono := E.mono
 fz := E.fz
 keep := E.keep
 mF := E.mF
 j := E.j
 len := by simp [E.len]
 sl := fun k t hk => by
  rcases z9 hk with ⟨rfl, hl, rfl⟩ | ⟨e, hk⟩
  ·exact ⟨_, List.getElem?_set_self (by rw [E.len]; exact hl), h⟩
  ·obtain ⟨w, h1, h2⟩ := E.sl k t hk
   exact ⟨w, by rw [List.getElem?_set_ne (Ne.symm e)]; exact h1, h2⟩
 st := E.st
 tb := E.tb
 dist := fun k l s1 s2 h1 h2 o1 o2 q => by
  rcases z9 h1 with ⟨k1, hl1, r1⟩ | ⟨e1, u1⟩ <;> rcases z9 h2 with ⟨k2, hl2, r2⟩ | ⟨e2, u2⟩
  ·exact k1.trans k2.symm
  ·rw [k1, List.getElem?_set_self (by rw [E.len]; exact hl1), List.getElem?_set_ne (Ne.symm e2)] at q
   exact absurd q.symm (hd (r1 ▸ o1) l s2 u2 o2)
  ·rw [k2, List.getElem?_set_self (by rw [E.len]; exact hl2), List.getElem?_set_ne (Ne.symm e1)] at q
   exact absurd q (hd (r2 ▸ o2) k s1 u1 o1)
  ·rw [List.getElem?_set_ne (Ne.symm e1), List.getElem?_set_ne (Ne.symm e2)] at q
   exact E.dist k l s1 s2 u1 u2 o1 o2 q
end

/-- as data: a new list is frozen -/
def a6i (r : RV) (g : Gs) : R PyData := match r with
 | .d x => .ok x g
 | .nl xs => .ok (.list xs) g
 | .nd t ks => .ok (a6j t ks) g
 | .o _ => .bad
/-- as an argument -/
def a4n (r : RV) (g : Gs) : R AV := match r with
 | .d x => .ok (.d x) g
 | .nl xs => .ok (.d (.list xs)) g
 | .nd t ks => .ok (.d (a6j t ks)) g
 | .o v => .ok (.o v) g
@[simp] theorem F9 (x : PyData) (g : Gs) : a6i (.d x) g = .ok x g := rfl
@[simp] theorem D9 (x : List PyData) (g : Gs) : a6i (.nl x) g = .ok (.list x) g := rfl
@[simp] theorem M6 (x : PyData) (g : Gs) : a4n (.d x) g = .ok (.d x) g := rfl
@[simp] theorem C4 (x : List PyData) (g : Gs) : a4n (.nl x) g = .ok (.d (.list x)) g := rfl
@[simp] theorem M8 (v : V) (g : Gs) : a4n (.o v) g = .ok (.o v) g := rfl
@[simp] theorem a9p (ks : List (PyData × PyData)) (g : Gs) : a6i (.nd false ks) g = .ok (.dict ks) g := rfl
@[simp] theorem a8R (ks : List (PyData × PyData)) (g : Gs) : a4n (.nd false ks) g = .ok (.d (.dict ks)) g := rfl

abbrev EF := List SD → Gs → R RV
abbrev EFi := List SD → Gs → R (List PyData)
inductive Out where
 | nx (ρ : List SD)
 | rt (r : RV)
 | bk (ρ : List SD)
 | ct (ρ : List SD)
 | ex (x : PyData) (ρ : List SD)
abbrev EFs := List SD → Gs → R Out

/-- an exception, as data -/
inductive ExcRep (K : Ck) (S : Sta) (H0 F H : Hp) : Value → Option Addr → PyData → Prop
 | plain {C : Addr} {nm : Str} : K.mg nm = some (.ref C) → ExcRep K S H0 F H (.ref C) none (a1l nm [])
 | att {C dx : Addr} {nm n : Str} {v : V} {y : PyData} : K.mg nm = some (.ref C) → H0 dx = none → ¬ S.M dx → F dx = none → H dx = some (.xd [(n, v)]) → Rp K F v y → ExcRep K S H0 F H (.ref C) (some dx) (a1l nm [(n, y)])
theorem ExcRep.wide {K : Ck} {S : Sta} {H0 H1 F H : Hp} {cls : Value} {d : Option Addr} {x : PyData} (h : ExcRep K S H1 F H cls d x) (k : ∀ a, H1 a = none → H0 a = none) : ExcRep K S H0 F H cls d x := by
 cases h with
 | plain h => exact .plain h
 | att h1 h2 h3 h4 h5 h6 => exact .att h1 (k _ h2) h3 h4 h5 h6

def Sm (K : Ck) (W : WX) (t : TE) (f : EF) : Prop := ∀ (S : Sta) (B F0 F H : Hp) (ρ : List SD) (σ : St) (g : Gs) (Pd : RV → Gs → Prop) (Xd : PyData → Gs → Prop) (Q : VK), g9 K S B F0 F H ρ σ g → (f ρ g).wp Pd Xd →
 (∀ r g' v F' H', Pd r g' → Ext S F H F' H' → S.J g' H' → A1 K S H F' H' v r → Q v H') →
 (∀ x g' cls d F' H', Xd x g' → Ext S F H F' H' → S.J g' H' → ExcRep K S H F' H' cls d x → W cls d σ H') → t σ H Q
/-- an item that is parted at once may be any tuple -/
def RpW (w : Bool) (K : Ck) (F : Hp) (v : V) (d : PyData) : Prop := Rp K F v d ∨ (w = true ∧ ∃ a vs ds, v = .ref a ∧ d = .tuple ds ∧ SqT K F a vs ∧ RpA K F vs ds)
/-- what is walked gives the items ds -/
def a4O (w : Bool) (K : Ck) (S : Sta) (F : Hp) (J : It) (ds : List PyData) : Prop := ∀ F' H', Le F F' → Sub F' H' →
 (∀ (i : Nat) d, ds[i]? = some d → J.go i H' ∧ ∀ x H'', J.yld i H' x H'' → ∃ F'', Ext S F' H' F'' H'' ∧ (∀ g, S.J g H' → S.J g H'') ∧ RpW w K F'' x d) ∧ J.stop ds.length H'
/-- what a def's end leaves -/
structure a20 (K : Ck) (S : Sta) (B F0 F H : Hp) (v : V) (r : RV) (g : Gs) : Prop where
 sub : Sub F H
 mono : Le F0 F
 fz : ∀ a, B a ≠ none → F a = F0 a
 keep : ∀ a o, B a = some o → ¬ S.M a → H a = some o
 tb : Tb S F H
 j : S.J g H
 rv : A1 K S B F H v r
structure a8Q (K : Ck) (S : Sta) (B F0 F H : Hp) (cls : Value) (d : Option Addr) (x : PyData) (g : Gs) : Prop where
 sub : Sub F H
 mono : Le F0 F
 fz : ∀ a, B a ≠ none → F a = F0 a
 keep : ∀ a o, B a = some o → ¬ S.M a → H a = some o
 tb : Tb S F H
 j : S.J g H
 er : ExcRep K S B F H cls d x
/-- what is wanted behind a statement -/
def a0f (K : Ck) (W : WX) (S : Sta) (B F0 : Hp) (D : Ends) (o : Out) (g : Gs) : Prop := match o with
 | .nx ρ => ∀ σ F H, g9 K S B F0 F H ρ σ g → D.nx σ H
 | .rt r => ∀ v F H, a20 K S B F0 F H v r g → D.rt v H
 | .bk ρ => ∀ σ F H, g9 K S B F0 F H ρ σ g → D.bk σ H
 | .ct ρ => ∀ σ F H, g9 K S B F0 F H ρ σ g → D.ct σ H
 | .ex x ρ => ∀ σ F H cls d, g9 K S B F0 F H ρ σ g → ExcRep K S B F H cls d x → W cls d σ H
def NoX : PyData → Gs → Prop := fun _ _ => False
def SmS (K : Ck) (W : WX) (t : TS) (f : EFs) : Prop := ∀ (S : Sta) (B F0 F H : Hp) (ρ : List SD) (σ : St) (g : Gs) (D : Ends), g9 K S B F0 F H ρ σ g → (f ρ g).wp (a0f K W S B F0 D) NoX → t D σ H

section
variable {K : Ck} {S : Sta} {B F0 F H F' H' : Hp} {ρ : List SD} {σ : St} {g g' : Gs}
theorem Ext.frz {v : V} {r : RV} (e : Ext S F H F' H') (j : S.J g' H') (h : A1 K S H F' H' v r) (ok : r.ok) : ∃ F2, Ext S F H F2 H' ∧ Le F' F2 ∧ a0t K F2 v r.av := by
 obtain ⟨F2, a1, a2, a3, a4, a5⟩ := h.freeze e.sub j (fun a q => e.there j q) ok
 exact ⟨F2, ⟨e.keep, fun a q => (a3 a q).trans (e.grow a q), e.le.trans a1, a2, fun t => (e.tb t).to a1 fun _ _ _ z => z⟩, a1, a5⟩
theorem A1.wide {v : V} {r : RV} {H0 H1 : Hp} (h : A1 K S H1 F H v r) (k : ∀ a, H1 a = none → H0 a = none) : A1 K S H0 F H v r := by
 cases r with
 | d x => exact h
 | o u => exact h
 | nl xs => obtain ⟨a, vs, h1, h2, h3⟩ := h; exact ⟨a, vs, h1, k a h2, h3⟩
 | nd t xs => obtain ⟨a, n, h1, h2, h3⟩ := h; exact ⟨a, n, h1, k a h2, h3⟩
end

abbrev GO2 := PyData → PyData → (RV → Prop) → Prop
abbrev GO1 := PyData → (RV → Prop) → Prop
abbrev GOA := List AV → (RV → Prop) → Prop
/-- what an operation may leave -/
def I5 (K : Ck) (S : Sta) (F H : Hp) (Qd : RV → Prop) (Q : VK) : Prop :=
 ∀ r v F' H', Qd r → Ext S F H F' H' → (∀ g, S.J g H → S.J g H') → A1 K S H F' H' v r → Q v H'
/-- where an operation begins -/
structure Okh (S : Sta) (F H : Hp) : Prop where
 sub : Sub F H
 mt : ∀ a, S.M a → H a ≠ none
section
variable {K : Ck} {S : Sta} {F H : Hp} {Qd : RV → Prop} {Q : VK}
theorem I5.d (p : I5 K S F H Qd Q) (s : Okh S F H) {v : V} {d : PyData} (h : Rp K F v d) (q : Qd (.d d)) : Q v H :=
 p _ _ F H q (Ext.refl s.sub) (fun _ j => j) h
/-- a new list -/
theorem I5.nl (p : I5 K S F H Qd Q) (s : Okh S F H) {vs : List V} {ds : List PyData} (h : RpA K F vs ds) (q : Qd (.nl ds)) : ∀ a, H a = none → Q (.ref a) (upd H a (.lst vs)) := fun a ha =>
 p _ _ F (upd H a (.lst vs)) q (Ext.own s.sub ha) (fun _ j => J.new j ha) ⟨a, vs, rfl, ha, fun m => s.mt a m ha, s.sub.free ha, upd_same, h⟩
theorem I5.tup (p : I5 K S F H Qd Q) (s : Okh S F H) {vs : List V} {ds : List PyData} (h : RpA K F vs ds) (q : Qd (.d (.tuple ds))) : ∀ a ob, H a = none → ob.dict = none → Q (.ref a) (upd H a (.frz ob (.tup vs))) := fun a ob ha hd =>
 p _ _ (upd F a (.frz ob (.tup vs))) (upd H a (.frz ob (.tup vs))) q (Ext.new s.sub ha) (fun _ j => J.new j ha) (Rp.tup (.inl (.inr ⟨ob, upd_same⟩)) (.inr (.inl ⟨ob, upd_same, hd⟩)) (h.mono (Ext.new (S := S) (o := .frz ob (.tup vs)) s.sub ha).le))
end
end Fx

namespace Fx
open PySem L2

def a82 (s : Option SD) (g : Gs) : R RV := match s with
 | some (.d x) => .ok (.d x) g
 | some (.o v) => .ok (.o v) g
 | some (.lk x) => .ok (.d x) g
 | _ => .bad
@[simp] theorem a9j (x : PyData) (g : Gs) : a82 (some (.lk x)) g = .ok (.d x) g := rfl
@[simp] theorem G8 (x : PyData) (g : Gs) : a82 (some (.d x)) g = .ok (.d x) g := rfl
@[simp] theorem M9 (v : V) (g : Gs) : a82 (some (.o v)) g = .ok (.o v) g := rfl

def v6 (f : EF) (ρ : List SD) (g : Gs) : R PyData := (f ρ g).bind a6i
abbrev O2 := PyData → PyData → Option RV
abbrev O1 := PyData → Option RV
abbrev OA := List AV → Option RV
section
variable {K : Ck} {W : WX} {S : Sta} {B F0 F H : Hp} {ρ : List SD} {σ : St} {g : Gs} {Xd : PyData → Gs → Prop}
/-- what is wanted of an exception, from here on -/
abbrev XOk (K : Ck) (W : WX) (S : Sta) (F H : Hp) (σ : St) (Xd : PyData → Gs → Prop) : Prop := ∀ x g' cls d F' H', Xd x g' → Ext S F H F' H' → S.J g' H' → ExcRep K S H F' H' cls d x → W cls d σ H'
theorem XOk.ext {F1 H1 : Hp} {g1 : Gs} (k : XOk K W S F H σ Xd) (e : Ext S F H F1 H1) (j : S.J g1 H1) : XOk K W S F1 H1 σ Xd := fun x g' cls d F' H' q e' j' er =>
 k x g' cls d F' H' q (e.trans e' j) j' (er.wide fun a ha => e.free j ha)
end
/-- a truth value -/
def a8a (r : RV) (g : Gs) : R Bool := match r with
 | .d (.bool b) => .ok b g
 | _ => .bad
@[simp] theorem K3 (b : Bool) (g : Gs) : a8a (.d (.bool b)) g = .ok b g := rfl

section
variable {K : Ck} {W : WX} {S : Sta} {B F0 F H : Hp} {ρ : List SD} {σ : St} {g : Gs} {Xd : PyData → Gs → Prop}
theorem a20.ext {F H F' H' : Hp} {v : V} {r : RV} {g : Gs} (h : a20 K S H F F' H' v r g) : Ext S F H F' H' := ⟨h.keep, h.fz, h.mono, h.sub, fun _ => h.tb⟩
theorem a8Q.ext {F H F' H' : Hp} {cls : Value} {d : Option Addr} {x : PyData} {g : Gs} (h : a8Q K S H F F' H' cls d x g) : Ext S F H F' H' := ⟨h.keep, h.fz, h.mono, h.sub, fun _ => h.tb⟩
end
end Fx

namespace Fx
open PySem L2 RZ


/-- no exception -/
def R.nox {α : Type} (m : R α) : R α := match m with
 | .exc _ _ => .bad
 | m => m
@[simp] theorem R.nox_ok {α : Type} (a : α) (g : Gs) : (R.ok a g).nox = .ok a g := rfl
def W0 : WX := fun _ _ _ _ => False
/-- up to the object at D -/
structure a3y (S : Sta) (D : Addr) (F H F' H' : Hp) : Prop where
 keep : ∀ a o, a ≠ D → H a = some o → ¬ S.M a → H' a = some o
 grow : ∀ a, H a ≠ Option.none → F' a = F a
 le : Le F F'
 sub : Sub F' H'
 d : H' D ≠ Option.none
 tb : Tb S F H → Tb S F' H'
theorem a3y.there {S : Sta} {D : Addr} {g1 : Gs} {F H F1 H1 : Hp} (a : a3y S D F H F1 H1) (j : S.J g1 H1) {x : Addr} (h : H x ≠ Option.none) : H1 x ≠ Option.none := by
 by_cases z : x = D
 ·subst z; exact a.d
 ·by_cases m : S.M x
  ·exact S.there _ _ _ j m
  ·cases e : H x with
   | none => exact absurd e h
   | some o => rw [a.keep x o z e m]; exact fun z => by cases z
theorem a3y.trans {S : Sta} {D : Addr} {g1 : Gs} {F H F1 H1 F2 H2 : Hp} (a : a3y S D F H F1 H1) (b : a3y S D F1 H1 F2 H2) (j : S.J g1 H1) : a3y S D F H F2 H2 where
 keep := fun x o z h m => b.keep x o z (a.keep x o z h m) m
 grow := fun x h => by rw [b.grow x (a.there j h), a.grow x h]
 le := a.le.trans b.le
 sub := b.sub
 d := b.d
 tb := fun h => b.tb (a.tb h)
theorem Ext.toD {S : Sta} {D : Addr} {g1 : Gs} {F H F' H' : Hp} (e : Ext S F H F' H') (j : S.J g1 H') (h : H D ≠ Option.none) : a3y S D F H F' H' := ⟨fun a o _ q m => e.keep a o q m, e.grow, e.le, e.sub, e.there j h, e.tb⟩
section
variable {K : Ck} {W : WX}
/-- what a growing object holds -/
structure a7T (K : Ck) (α : Type) where
 C : Hp → HO → α → Prop
 mono : ∀ {F F' : Hp} {o : HO} {a : α}, Le F F' → C F o a → C F' o a
/-- the state of a comprehension, from where its turns began -/
structure X3 {α : Type} (C : a7T K α) (S : Sta) (D : Addr) (Fi Hi : Hp) (acc : α) (gc : Gs) (Fc Hc : Hp) : Prop where
 e : a3y S D Fi Hi Fc Hc
 j : S.J gc Hc
 h : ∃ o, Hc D = some o ∧ C.C Fc o acc
 f : Fc D = none
section
variable {α : Type} {C : a7T K α} {S : Sta} {D : Addr} {Fi Hi Fc Hc F2 H2 : Hp} {acc acc2 : α} {gc g2 : Gs}
theorem X3.ext (L : X3 C S D Fi Hi acc gc Fc Hc) (nM : ¬ S.M D) (e : Ext S Fc Hc F2 H2) (j : S.J g2 H2) : X3 C S D Fi Hi acc g2 F2 H2 := by
 obtain ⟨o, h1, h2⟩ := L.h
 have hd : Hc D ≠ none := by rw [h1]; exact fun z => by cases z
 exact ⟨L.e.trans (e.toD j hd) L.j, j, ⟨o, e.keep D _ h1 nM, C.mono e.le h2⟩, (e.grow D hd).trans L.f⟩
theorem X3.put {o : HO} (L : X3 C S D Fi Hi acc gc Fc Hc) (nM : ¬ S.M D) (h : C.C Fc o acc2) : X3 C S D Fi Hi acc2 gc Fc (upd Hc D o) := by
 refine ⟨⟨fun a u z q m => by rw [upd_ne z]; exact L.e.keep a u z q m, L.e.grow, L.e.le, fun a u q => ?_, (by rw [upd_same]; exact fun z => by cases z), fun t => (L.e.tb t).to (fun _ _ z => z) fun a ps m z => (upd_ne fun (y : a = D) => nM (y ▸ m)).trans z⟩, S.ok _ _ _ L.j fun a m => upd_ne fun z => nM (z ▸ m), ⟨_, upd_same, h⟩, L.f⟩
 rw [upd_ne (fun z => by rw [z, L.f] at q; cases q)]
 exact L.e.sub a u q
theorem X3.trans (L : X3 C S D Fi Hi acc gc Fc Hc) (M : X3 C S D Fc Hc acc2 g2 F2 H2) : X3 C S D Fi Hi acc2 g2 F2 H2 := ⟨L.e.trans M.e L.j, M.j, M.h, M.f⟩
end
end
end Fx

namespace Fx
open PySem L2 RZ PySem.Spec PyProof.Rows
open PySem.AutoSeq1 (wpAny_loadPart')

end Fx

namespace Fx
open PySem L2

/-- an expression within a statement: what it raises leaves the statement at these slots -/
def R.stx {α : Type} (m : R α) (ρ : List SD) (k : α → Gs → R Out) : R Out := match m with
 | .ok a g => k a g
 | .exc x g => .ok (.ex x ρ) g
 | .bad => .bad
@[simp] theorem R.stx_ok {α : Type} (a : α) (g : Gs) (ρ : List SD) (k : α → Gs → R Out) : (R.ok a g).stx ρ k = k a g := rfl
@[simp] theorem R.stx_exc {α : Type} (x : PyData) (g : Gs) (ρ : List SD) (k : α → Gs → R Out) : (R.exc x g : R α).stx ρ k = .ok (.ex x ρ) g := rfl
def a43 (h : EFs) (o : Out) (g : Gs) : R Out := match o with
 | .nx ρ => h ρ g
 | .rt r => .ok (.rt r) g
 | .bk ρ => .ok (.bk ρ) g
 | .ct ρ => .ok (.ct ρ) g
 | .ex x ρ => .ok (.ex x ρ) g
@[simp] theorem C3 (h : EFs) (ρ : List SD) (g : Gs) : a43 h (.nx ρ) g = h ρ g := rfl
@[simp] theorem D7 (h : EFs) (r : RV) (g : Gs) : a43 h (.rt r) g = .ok (.rt r) g := rfl
@[simp] theorem a90 (h : EFs) (x : PyData) (ρ : List SD) (g : Gs) : a43 h (.ex x ρ) g = .ok (.ex x ρ) g := rfl
@[simp] theorem a8I (h : EFs) (ρ : List SD) (g : Gs) : a43 h (.bk ρ) g = .ok (.bk ρ) g := rfl
@[simp] theorem a8g (h : EFs) (ρ : List SD) (g : Gs) : a43 h (.ct ρ) g = .ok (.ct ρ) g := rfl
def a8c (s : Option SD) (g : Gs) : R Out := match s with
 | some (.d x) => .ok (.rt (.d x)) g
 | some (.o v) => .ok (.rt (.o v)) g
 | some (.own xs) => .ok (.rt (.nl xs)) g
 | some (.dic t ks) => .ok (.rt (.nd t ks)) g
 | _ => .bad
@[simp] theorem K6 (x : PyData) (g : Gs) : a8c (some (.d x)) g = .ok (.rt (.d x)) g := rfl
@[simp] theorem a7X (x : List PyData) (g : Gs) : a8c (some (.own x)) g = .ok (.rt (.nl x)) g := rfl
@[simp] theorem a7U (t : Bool) (x : List (PyData × PyData)) (g : Gs) : a8c (some (.dic t x)) g = .ok (.rt (.nd t x)) g := rfl
def a8F {α : Type} (s : Option SD) (k : List PyData → R α) : R α := match s with
 | some (.own xs) => k xs
 | _ => .bad
@[simp] theorem a6s {α : Type} (xs : List PyData) (k : List PyData → R α) : a8F (some (.own xs)) k = k xs := rfl
def a4q (k : List SD → Gs → R Out) (o : Out) (g : Gs) : R Out := match o with
 | .nx ρ => k ρ g
 | .ct ρ => k ρ g
 | .bk ρ => .ok (.nx ρ) g
 | .rt r => .ok (.rt r) g
 | .ex x ρ => .ok (.ex x ρ) g
@[simp] theorem a5B (h : List SD → Gs → R Out) (ρ : List SD) (g : Gs) : a4q h (.nx ρ) g = h ρ g := rfl
@[simp] theorem a8W (h : List SD → Gs → R Out) (ρ : List SD) (g : Gs) : a4q h (.ct ρ) g = h ρ g := rfl
@[simp] theorem a9c (h : List SD → Gs → R Out) (ρ : List SD) (g : Gs) : a4q h (.bk ρ) g = .ok (.nx ρ) g := rfl
@[simp] theorem a8D (h : List SD → Gs → R Out) (r : RV) (g : Gs) : a4q h (.rt r) g = .ok (.rt r) g := rfl
@[simp] theorem a8N (h : List SD → Gs → R Out) (x : PyData) (ρ : List SD) (g : Gs) : a4q h (.ex x ρ) g = .ok (.ex x ρ) g := rfl
/-- a name's list is frozen -/
def a8b (s : Option SD) : Option (Option SD) := match s with
 | some (.own xs) => some (some (.d (.list xs)))
 | some (.dic t ks) => some (some (.d (a6j t ks)))
 | some (.ins _ _ _ nm fs) => some (some (.d (a1l nm fs)))
 | _ => some none
mutual
/-- no list, no dict in it -/
def noL : PyData → Bool
 | .list _ => false
 | .dict _ => false
 | .tuple xs => a1r xs
 | _ => true
def a1r : List PyData → Bool
 | [] => true
 | x :: xs => noL x && a1r xs
end
section
variable {K : Ck} {W : WX} {S : Sta} {B F0 F H : Hp} {ρ : List SD} {σ : St} {g : Gs} {D : Ends}
theorem A1.ext {H0 F' H' : Hp} {v : V} {r : RV} (h : A1 K S H0 F H v r) (e : Ext S F H F' H') : A1 K S H0 F' H' v r := by
 cases r with
 | d x => exact Rp.mono e.le h
 | o u => exact h
 | nl xs =>
  obtain ⟨a, vs, rfl, h1, h2, h3, h4, h5⟩ := h
  exact ⟨a, vs, rfl, h1, h2, (e.grow a (by rw [h4]; exact fun z => by cases z)).trans h3, e.keep a _ h4 h2, h5.mono e.le⟩
 | nd t ks =>
  obtain ⟨a, n, rfl, h1, h2, h3, h4, ht, h5⟩ := h
  exact ⟨a, n, rfl, h1, h2, (e.grow a (by rw [h4]; exact fun z => by cases z)).trans h3, e.keep a _ h4 h2, ht, h5.mono e.le⟩
theorem g9.ret (E : g9 K S B F0 F H ρ σ g) {v : V} {r : RV} (rv : A1 K S B F H v r) : a20 K S B F0 F H v r g := ⟨E.sub, E.mono, E.fz, E.keep, E.tb, E.j, rv⟩
/-- an owned object is frozen -/
theorem g9.frz (E : g9 K S B F0 F H ρ σ g) {i : Nat} {s s' : SD} (hs : a8b ρ[i]? = some (some s')) : ∃ a x o, σ[i]? = some (some (.ref a)) ∧ s' = .d x ∧ F a = none ∧ ¬ S.M a ∧ H a = some o ∧ g9 K S B F0 (upd F a o) H (ρ.set i s') σ g ∧ Le F (upd F a o) := by
 have main : ∀ (s : SD) (x : PyData), ρ[i]? = some s → s.owner = true → (∀ a o F', σ[i]? = some (some (.ref a)) → N6 K F H a s → H a = some o → F' a = some o → Le F F' → Rp K F' (.ref a) x) → ∃ a o, σ[i]? = some (some (.ref a)) ∧ F a = none ∧ ¬ S.M a ∧ H a = some o ∧ g9 K S B F0 (upd F a o) H (ρ.set i (.d x)) σ g ∧ Le F (upd F a o) := by
  intro s x hs ho hx
  obtain ⟨v, h1, h2⟩ := E.sl i s hs
  obtain ⟨a, rfl, hB, hM, hF, own⟩ := h2.at ho
  obtain ⟨o, hH⟩ := own.there
  have le : Le F (upd F a o) := fun y u e => by rw [upd_ne (ne_of_none e hF)]; exact e
  refine ⟨a, o, h1, hF, hM, hH, ⟨E.st, E.tb.to le fun _ _ _ z => z, fun y u e => ?_, E.mono.trans le, fun y h => ?_, E.keep, fun y m => ?_, E.j, by simp [E.len], fun k t ht => ?_, fun k l t1 t2 q1 q2 o1 o2 e => ?_⟩, le⟩
  ·by_cases z : y = a
   ·subst z; rw [upd_same] at e; rw [hH]; exact e
   ·rw [upd_ne z] at e; exact E.sub _ _ e
  ·rw [upd_ne (fun z => h (by rw [z]; exact hB))]; exact E.fz y h
  ·rw [upd_ne (fun z => hM (by rw [← z]; exact m))]; exact E.mF y m
  ·rcases z9 ht with ⟨rfl, _, rfl⟩ | ⟨ek, ht⟩
   ·exact ⟨_, h1, _, rfl, hx a o _ h1 own hH upd_same le⟩
   ·obtain ⟨w, w1, w2⟩ := E.sl k t ht
    refine ⟨w, w1, w2.to le fun b hb hbo => ⟨upd_ne fun z => ?_, rfl⟩⟩
    subst z hb
    exact ek (E.dist k i t s ht hs hbo ho (by rw [w1, h1]))
  ·rcases z9 q1 with ⟨_, _, r⟩ | ⟨_, q1⟩
   ·subst r; cases o1
   ·rcases z9 q2 with ⟨_, _, r⟩ | ⟨_, q2⟩
    ·subst r; cases o2
    ·exact E.dist k l t1 t2 q1 q2 o1 o2 e
 cases e : ρ[i]? with
 | none => rw [e] at hs; cases hs
 | some s =>
  rw [e] at hs
  cases s with
  | u => cases hs
  | d x => cases hs
  | o v => cases hs
  | lk x => cases hs
  | er x => cases hs
  | lm os q => cases hs
  | own xs =>
   cases hs
   obtain ⟨a, o, h⟩ := main _ (.list xs) e rfl fun a o F' _ own h h' le => by
    obtain ⟨vs, h1, h2⟩ := own
    rw [h1] at h
    cases h
    exact Rp.lst (.inl (.inl h')) (h2.mono le)
   exact ⟨a, _, o, h.1, rfl, h.2⟩
  | dic t ks =>
   cases hs
   obtain ⟨a, o, h⟩ := main _ (a6j t ks) e rfl fun a o F' _ own h h' le => by
    obtain ⟨n, h1, h2, h3⟩ := own
    rw [h1] at h
    cases h
    rw [← h2]
    exact (h3.mono le).rp h'
   exact ⟨a, _, o, h.1, rfl, h.2⟩
  | ins x dx C nm fs =>
   cases hs
   obtain ⟨a, o, h⟩ := main _ (a1l nm fs) e rfl fun a o F' _ own h h' le => by
    obtain ⟨vs, h1, h2, hi, h3, _⟩ := own
    rw [h1] at h
    cases h
    exact .obj h' h2 hi (RpF.mono le h3)
   exact ⟨a, _, o, h.1, rfl, h.2⟩
/-- an object taken out -/
def del (F : Hp) (a : Addr) : Hp := fun x => if x = a then none else F x
theorem del_ne {F : Hp} {a x : Addr} (h : x ≠ a) : del F a x = F x := if_neg h
def F7 : HO → Bool
 | .tup _ => false
 | .frz _ _ => false
 | .ext _ => false
 | .xd _ => false
 | _ => true
theorem Q7 {F : Hp} {a b : Addr} {o : HO} {u : HO} (ha : F a = some o) (ho : F7 o = true) (h : F b = some u) (hu : F7 u = false) : del F a b = some u := by
 rw [del_ne (fun z => by rw [z, ha] at h; cases h; rw [ho] at hu; cases hu)]
 exact h
mutual
theorem Rp.del {F : Hp} {a : Addr} {o : HO} (ha : F a = some o) (ho : F7 o = true) : ∀ {v : V} {d : PyData}, Rp K F v d → noL d = true → Rp K (del F a) v d
 | _, _, .non, _ => .non
 | _, _, .bl b, _ => .bl b
 | _, _, .int i, _ => .int i
 | _, _, .str x, _ => .str x
 | _, _, .lst _ _, n => by simp [noL] at n
 | _, _, .dK _ _, n => by simp [noL] at n
 | _, _, .dT _ _ _, n => by simp [noL, a4u] at n
 | _, _, .obj _ _ _ _, n => by simp [noL, a1l] at n
 | _, _, .exc _ _ _ _, n => by simp [noL, a0S] at n
 | _, _, .fn _, n => by simp [noL, fnD] at n
 | _, _, @Rp.tup _ _ b vs ds h k r, n => by
  refine .tup ?_ ?_ (RpA.del ha ho r (by simpa [noL] using n))
  ·rcases h with (h | ⟨ob, h⟩) | h
   ·exact .inl (.inl (Q7 ha ho h rfl))
   ·exact .inl (.inr ⟨ob, Q7 ha ho h rfl⟩)
   ·exact .inr h
  ·rcases k with ⟨h, k⟩ | ⟨ob, h, k⟩ | h
   ·exact .inl ⟨Q7 ha ho h rfl, k⟩
   ·exact .inr (.inl ⟨ob, Q7 ha ho h rfl, k⟩)
   ·exact .inr (.inr h)
theorem RpA.del {F : Hp} {a : Addr} {o : HO} (ha : F a = some o) (ho : F7 o = true) : ∀ {vs : List V} {ds : List PyData}, RpA K F vs ds → a1r ds = true → RpA K (del F a) vs ds
 | _, _, .nil, _ => .nil
 | _, _, @RpA.cons _ _ v vs d ds r t, n => by
  have n' : noL d = true ∧ a1r ds = true := by simpa [a1r] using n
  exact .cons (Rp.del ha ho r n'.1) (RpA.del ha ho t n'.2)
end
theorem RpK.del {F : Hp} {a : Addr} {o : HO} (ha : F a = some o) (ho : F7 o = true) : ∀ {kvs : List (Key × V)} {ds : List (PyData × PyData)}, RpK K F kvs ds → (ds.all fun p => noL p.2) = true → RpK K (del F a) kvs ds
 | _, _, .nil, _ => .nil
 | _, _, @RpK.cons _ _ k v kvs d ds r t, n => by
  rw [List.all_cons] at n
  have n' : noL d = true ∧ (ds.all fun p => noL p.2) = true := Bool.and_eq_true_iff.mp n
  exact .cons (Rp.del ha ho r n'.1) (RpK.del ha ho t n'.2)
end
/-- what a def's body comes to -/
def a7h (o : Out) (g : Gs) : R RV := match o with
 | .nx _ => .ok (.d .none) g
 | .rt r => .ok r g
 | .ex x _ => .exc x g
 | _ => .bad
@[simp] theorem a9g (ρ : List SD) (g : Gs) : a7h (.nx ρ) g = .ok (.d .none) g := rfl
@[simp] theorem a96 (r : RV) (g : Gs) : a7h (.rt r) g = .ok r g := rfl
@[simp] theorem a9e (x : PyData) (ρ : List SD) (g : Gs) : a7h (.ex x ρ) g = .exc x g := rfl
end Fx

namespace Fx
open PySem L2

abbrev Cx.ck (X : Cx) : Ck := ⟨X.K, X.mg, X.w⟩
/-- no dict in it, and not too deep -/
def pl (d : PyData) : Bool := d.plain && decide (d.depth ≤ 64)
section
variable {X : Cx} {pins : List (Addr × Obj)} {σ : L2.St} {H F : Hp} {s : Shared}
/-- a list that may be read, as its object stands -/
theorem a86 {l : Addr} {xs : List V} (I : Inv X pins σ H s) (hH : a0d (Cx.ck X) H l xs) : xs.length ≤ sizeLine ∧ ∃ (its : List Value) (n : Nat), Vals xs its ∧ xs.length = its.length ∧ s.heap.get? l = some { cls := .type "list", data := .seq its.toArray n } := by
 rcases hH with hH | ⟨its, n, h1, h2, r⟩
 ·obtain ⟨z, its, n, r, e⟩ := hH.ok I.hok
  exact ⟨z, its, n, r, r.length, e⟩
 ·refine ⟨?_, its.toList, n, r, r.length, by simpa using I.kIn _ _ h1⟩
  have e := r.length
  simp only [Array.length_toList] at e
  omega
mutual
theorem Rp.dp {K : Ck} (e : Le F H) : ∀ {v : V} {d : PyData}, Rp K F v d → d.plain = true → Dp K H v d
 | _, _, .non, _ => .non
 | _, _, .bl b, _ => .bl b
 | _, _, .int i, _ => .int i
 | _, _, .str x, _ => .str x
 | _, _, .lst h r, c => .lst (e.sqx h).sql (RpA.dp e r (by simpa [PyData.plain] using c))
 | _, _, .tup h _ r, c => .tup (e.sqt h) (RpA.dp e r (by simpa [PyData.plain] using c))
 | _, _, .dK _ _, c => by simp [PyData.plain] at c
 | _, _, .dT _ _ _, c => by simp [PyData.plain, a4u] at c
 | _, _, .obj _ _ _ _, c => by simp [a1l, PyData.plain] at c
 | _, _, .exc _ _ _ _, c => by simp [a0S, PyData.plain] at c
 | _, _, .fn _, c => by simp [fnD, PyData.plain] at c
theorem RpA.dp {K : Ck} (e : Le F H) : ∀ {vs : List V} {ds : List PyData}, RpA K F vs ds → PyData.plainAll ds = true → DpAll K H vs ds
 | _, _, .nil, _ => .nil
 | _, _, @RpA.cons _ _ v vs d ds r t, c => by
  have c' : d.plain = true ∧ PyData.plainAll ds = true := by simpa [PyData.plainAll] using c
  exact .cons (Rp.dp e r c'.1) (RpA.dp e t c'.2)
end
end


def a0b : PyData → Option Key
 | .int i => some (.inl i)
 | .str x => some (.inr x)
 | _ => none
def S2 : List PyData → Option (List Key)
 | [] => some []
 | x :: xs => match a0b x, S2 xs with
  | some k, some ks => some (k :: ks)
  | _, _ => none
/-- a dict, no object -/
def a1q (ks : List (PyData × PyData)) : Bool := ks.all fun p => (a0b p.1).isSome
theorem Rp.dk {K : Ck} {F : Hp} {v : V} {ks : List (PyData × PyData)} (h : Rp K F v (.dict ks)) (c : a1q ks = true) : ∃ a kvs, v = .ref a ∧ Rd F a (.dK kvs) ∧ RpK K F kvs ks := by
 cases h with
 | dK hr rk => exact ⟨_, _, rfl, hr, rk⟩
 | dT _ _ _ => exact absurd c (by simp [a1q, a0b, mkT])
 | obj _ _ _ _ => exact absurd c (by simp [a1q, a0b])
 | exc _ _ _ _ => exact absurd c (by simp [a1q, a0b])
 | fn _ => exact absurd c (by simp [a1q, a0b])
/-- a key of a dict: flat, or a tuple of flat ones -/
inductive DK where
 | f (k : Key)
 | t (ks : List Key)
 deriving DecidableEq
def a0i : PyData → Option DK
 | .tuple xs => (S2 xs).map .t
 | x => (a0b x).map .f
section
variable {K : Ck} {F H : Hp}
theorem a2H (k : Key) : a0b (keyD k) = some k := by cases k <;> rfl
theorem a06 : ∀ ks : List Key, S2 (ks.map keyD) = some ks
 | [] => rfl
 | k :: ks => by
  show (match a0b (keyD k), S2 (ks.map keyD) with | some k, some ks => some (k :: ks) | _, _ => none) = _
  rw [a2H, a06 ks]
end
end Fx

namespace Fx
open PySem L2

end Fx

namespace Fx
open PySem L2

section
open PySem.W PySem.Calls PyProof.Rows PySem.SeqAt
variable {prog : Program} {w : World} {A : Around} {E : Value → Shared → Prop} {s : Shared}
/-- all are tuples, or none is a tuple or None -/
def a2k (ds : List PyData) : Prop := Sortable ds ∨ ∀ d ∈ ds, ∃ xs, d = .tuple xs
end
section
open PySem.W PySem.Calls PyProof.Rows
variable {X : Cx} {pins : List (Addr × Obj)} {σ : L2.St} {H F : Hp} {s : Shared}
mutual
theorem a36 (I : Inv X pins σ H s) (le : Le F H) : ∀ {v : V} {d : PyData} {u : Value}, Rp (Cx.ck X) F v d → noL d = true → RelV v u → Reads s.heap u d []
 | _, _, _, .non, _, r => by cases r; exact .none
 | _, _, _, .bl b, _, r => by cases r; exact .bool b
 | _, _, _, .int i, _, r => by obtain ⟨t, rfl⟩ := r; exact .int i t
 | _, _, _, .str x, _, r => by obtain ⟨t, rfl⟩ := r; exact .str x t
 | _, _, _, .lst _ _, n, _ => by simp [noL] at n
 | _, _, _, .tup h _ ra, n, r => by
  cases r
  obtain ⟨its, rv, ⟨o, ho, hc, n', hd⟩, _⟩ := I.tuple (Le.sqt le h)
  exact .tuple ho hc hd (Z8 I le ra (by simpa [noL] using n) rv)
 | _, _, _, .dK _ _, n, _ => by simp [noL] at n
 | _, _, _, .dT _ _ _, n, _ => by simp [noL, a4u] at n
theorem Z8 (I : Inv X pins σ H s) (le : Le F H) : ∀ {vs : List V} {ds : List PyData} {us : List Value}, RpA (Cx.ck X) F vs ds → a1r ds = true → Vals vs us → ReadsAll s.heap us ds []
 | _, _, _, .nil, _, r => by cases r; exact .nil
 | _, _, _, @RpA.cons _ _ v vs d ds h t, n, r => by
  have n' : noL d = true ∧ a1r ds = true := by simpa [a1r] using n
  cases r with
  | cons r1 r2 => exact ReadsAll.cons (as := []) (bs := []) (a36 I le h n'.1 r1) (Z8 I le t n'.2 r2)
end
/-- may be sorted -/
structure a9q (ds : List PyData) : Prop where
 al : AllAlike ds
 so : a2k ds
 no : a1r ds = true
 dp : ∀ d ∈ ds, d.depth ≤ 64
end
end Fx

namespace Fx
open PySem L2

def g1 (f : GO1) : GOA := fun as Q => match as with
 | [.d x] => f x Q
 | _ => False
def g2 (f : GO2) : GOA := fun as Q => match as with
 | [.d x, .d y] => f x y Q
 | _ => False
section
variable {K : Ck}
theorem RpK.length {F : Hp} : ∀ {vs : List (Key × V)} {ds : List (PyData × PyData)}, RpK K F vs ds → vs.length = ds.length
 | _, _, .nil => rfl
 | _, _, .cons _ t => by simp [RpK.length t]
theorem RpT.length {F : Hp} : ∀ {vs : TKV} {ds : List (PyData × PyData)}, RpT K F vs ds → vs.length = ds.length
 | _, _, .nil => rfl
 | _, _, .cons _ _ t => by simp [RpT.length t]
end

end Fx

namespace Fx
open PySem L2

def tyD : PyData → String
 | .none => "NoneType"
 | .bool _ => "bool"
 | .int _ => "int"
 | .str _ => "str"
 | .list _ => "list"
 | .tuple _ => "tuple"
 | .dict ((.list _, _) :: _) => "object"
 | .dict _ => "dict"
@[simp] theorem a8h (nm : Str) (fs : List (Str × PyData)) : tyD (a1l nm fs) = "object" := rfl
@[simp] theorem a9k (nm : Str) (fs : List (Str × PyData)) : tyD (a0S nm fs) = "object" := rfl
@[simp] theorem a9M (nm : Str) : tyD (fnD nm) = "object" := rfl
/-- an exception, a function: of these isinstance is not asked -/
def isE : PyData → Bool
 | .dict ((.list (_ :: _), _) :: _) => true
 | _ => false
/-- the built-in types that are asked for -/
def a8T : List String := ["int", "bool", "str", "list", "tuple", "dict"]
/-- what is known of the classes -/
structure a9r (K : Ck) (nm : Str) (C : Addr) : Prop where
 cls : Cls K.K C
 ty : ∀ (H : Hp) (a dx : Addr) (fs : List (Str × V)), H a = some (.ins C dx fs) → TyX K.K H (.ref a) (.ref C)
 kb : ∀ T ∈ a8T, PySem.W.kitOne K.K (.ref C) (.type T) = some false
 kt : ∀ x : PyData, tyD x ≠ "object" → PySem.W.kitOne K.K (.type (tyD x)) (.ref C) = some false
structure a7r (K : Ck) : Prop where
 one : ∀ nm C, a0o nm = true → K.mg nm = some (.ref C) → a9r K nm C
 two : ∀ nm C nm2 C2, a0o nm = true → K.mg nm = some (.ref C) → a0o nm2 = true → K.mg nm2 = some (.ref C2) → PySem.W.kitOne K.K (.ref C) (.ref C2) = some (decide (nm = nm2))
section
variable {K : Ck}
/-- is it an object of this class -/
def isO (nm : Str) : PyData → Bool
 | .dict ((.list [], .str m) :: _) => decide (m = nm)
 | _ => false
@[simp] theorem a99 (nm m : Str) (fs : List (Str × PyData)) : isO nm (a1l m fs) = decide (m = nm) := rfl
end

def a6h (r : RV) (g : Gs) : R Int := match r with
 | .d (.int i) => .ok i g
 | _ => .bad
@[simp] theorem K4 (i : Int) (g : Gs) : a6h (.d (.int i)) g = .ok i g := rfl

end Fx

namespace Fx
open PySem L2

section
variable {K : Ck} {F : Hp}
theorem a40 (k : List Key) : a0i (.tuple (k.map keyD)) = some (.t k) := by show (S2 (k.map keyD)).map DK.t = _; rw [a06]; rfl
end

def a8n {α : Type} (s : Option SD) (k : Bool → List (PyData × PyData) → R α) : R α := match s with
 | some (.dic t ks) => k t ks
 | _ => .bad
@[simp] theorem a6o {α : Type} (t : Bool) (ks : List (PyData × PyData)) (k : Bool → List (PyData × PyData) → R α) : a8n (some (.dic t ks)) k = k t ks := rfl

end Fx

namespace Fx
open PySem L2

end Fx

namespace Fx
open PySem L2
noncomputable section
open Classical

def o1A (f : O1) : OA := fun as => match as with
 | [.d x] => f x
 | _ => none
def o2A (f : O2) : OA := fun as => match as with
 | [.d x, .d y] => f x y
 | _ => none
@[simp] theorem W4 (f : O1) (x : PyData) : o1A f [.d x] = f x := rfl
@[simp] theorem X5 (f : O2) (x y : PyData) : o2A f [.d x, .d y] = f x y := rfl
end
end Fx

namespace Fx
open PySem L2

theorem g9.law {K : Ck} {S : Sta} {B F0 F H : Hp} {ρ : List SD} {σ : St} {g : Gs} {d l c : Addr} (E : g9 K S B F0 F H ρ σ g) (hq : g.q = some (d, l, c)) : (∃ T, S = u0 (some (d, l, c), T)) ∧ a0z d l c g.ls g.cs g.rest g.turn H := by
 obtain ⟨⟨q, T⟩, rfl, _⟩ := E.st
 have j := E.j
 cases q with
 | none =>
  have : g.q = none := j.1
  rw [hq] at this; cases this
 | some p =>
  obtain ⟨d', l', c'⟩ := p
  have h : g.q = some (d', l', c') := j.1.1
  rw [hq] at h
  cases h
  exact ⟨⟨T, rfl⟩, j.1.2⟩
theorem M7 {H : Hp} {d a : Addr} {o : HO} (h : H a ≠ none) : upd H d o a ≠ none := by
 by_cases z : a = d
 ·rw [z, upd_same]; exact fun z => by cases z
 ·rw [upd_ne z]; exact h
noncomputable section
open Classical
/-- no state is changed -/
def a3g {α : Type} (g : Gs) (m : R α) : R α := match m with
 | .ok a g1 => if g1 = g then .ok a g else .bad
 | _ => .bad
@[simp] theorem a3e {α : Type} (g : Gs) (a : α) : a3g g (.ok a g) = .ok a g := if_pos rfl
end
section
variable {K : Ck} {W : WX} {S : Sta} {B F0 F H : Hp} {ρ : List SD} {σ : St} {g : Gs}
/-- one list alone -/
def only (H : Hp) (a b : Addr) : Hp := fun x => if x = a ∨ x = b then H x else none
end
end Fx

namespace Fx
open PySem L2 PySem.Spec PyProof.Rows

/-- n draws may still be made -/
structure GOk (g : Gs) (n : Nat) : Prop where
 r0 : 0 ≤ g.rest
 l0 : ∀ x ∈ g.ls, 0 ≤ x
 t0 : 0 ≤ g.turn
 tn : g.turn + n ≤ 2 ^ 40
 q0 : g.q ≠ none
 tt : g.tt = true
theorem GOk.le {g : Gs} {n m : Nat} (h : GOk g n) (e : m ≤ n) : GOk g m := ⟨h.r0, h.l0, h.t0, by have := h.tn; omega, h.q0, h.tt⟩
end Fx

namespace Fx
open PySem L2

section
variable (K : Ck) (W : WX)
def tE (f : EF) : TE := fun σ H Q => ∃ (S : Sta) (B F0 F : Hp) (ρ : List SD) (g : Gs) (Xd : PyData → Gs → Prop), g9 K S B F0 F H ρ σ g ∧ (f ρ g).wp (fun r g' => ∀ v F' H', Ext S F H F' H' → S.J g' H' → A1 K S H F' H' v r → Q v H') Xd ∧ XOk K W S F H σ Xd
def tI (w : Bool) (f : EFi) : TI := fun σ H Rr => ∃ (S : Sta) (B F0 F : Hp) (ρ : List SD) (g : Gs) (Xd : PyData → Gs → Prop), g9 K S B F0 F H ρ σ g ∧ (f ρ g).wp (fun ds g' => ∀ F' H' J, Ext S F H F' H' → S.J g' H' → a4O w K S F' J ds → Rr J H') Xd ∧ XOk K W S F H σ Xd
def tSf (f : EFs) : TS := fun D σ H => ∃ (S : Sta) (B F0 F : Hp) (ρ : List SD) (g : Gs), g9 K S B F0 F H ρ σ g ∧ (f ρ g).wp (a0f K W S B F0 D) NoX
end
section
variable {X : Cx} {C : Ck} {W : WX}
theorem xe {e : Expr} {t : TE} {f : EF} (h : PE X e t) (s : Sm C W t f) : PE X e (tE C W f) :=
 ⟨fun pins s' σ H Q I ⟨S, B, F0, F, ρ, g, Xd, E, hw, kx⟩ => h.run pins s' σ H Q I (s S B F0 F H ρ σ g _ Xd Q E hw (fun r g' v F' H' q a b c => q v F' H' a b c) kx)⟩
theorem xs {st : Stmt} {t : TS} {f : EFs} (h : PS X st t) (s : SmS C W t f) : PS X st (tSf C W f) :=
 ⟨fun pins s' σ H D I ⟨S, B, F0, F, ρ, g, E, hw⟩ => h.run pins s' σ H D I (s S B F0 F H ρ σ g D E hw)⟩
end
/-- a def of the top -/
structure J8 (K : PySem.W.Frag) (mg : Str → Option Value) (name : Str) (st : Stmt) (ps : List Str) (f : Addr) (fd : FuncData) : Prop where
 F : Fun K name name st f fd
 g : mg name = some (.ref f)
 b : Binds K fd ps []
end Fx

namespace Fx
open PySem L2 PySem.Spec PyProof.Rows
structure FnG (P : Program) (w : World) (K : PySem.W.Frag) (mg : Str → Option Value) (bs : Heap) (k : Nat) (f : Addr) (fd : FuncData) (ps : List Str) (sp : Sp) : Prop where
 ln : ∀ vs H Q E, sp vs H Q E → vs.length = ps.length
 go : ∀ (A : Around) (fr : List Env) (s : Shared) (H : Hp) (args : Args) (us : List Value) (vs : List V) (Q : VK) (E : XK), A.guards = some [] → Room k A → Env0 P w K mg bs A fr s H → BindsTo s fd args (ps.zip us) → Vals vs us → sp vs H Q E →
  codeAny (model P w) A (.call (.ref f) args) (CR (L2.CX P w) fr P w H s Q E) s
theorem FnG.up {P : Program} {w : World} {K : PySem.W.Frag} {mg : Str → Option Value} {bs : Heap} {j k : Nat} {f : Addr} {fd : FuncData} {ps : List Str} {sp : Sp} (F : FnG P w K mg bs j f fd ps sp) (h : j ≤ k) : FnG P w K mg bs k f fd ps sp :=
 ⟨F.ln, fun A fr s H args us vs Q E hg hr => F.go A fr s H args us vs Q E hg (hr.mono h)⟩
end Fx

namespace Fx
open PySem L2 PySem.Spec PyProof.Rows

end Fx

namespace Fx
open PySem L2 PySem.Spec PyProof.Rows
end Fx

namespace Fx
open PySem L2 RZ

end Fx

namespace Fx
open PySem L2

/-- a value as data -/
@[reducible] def frz : RV → PyData
 | .d x => x
 | .nl xs => .list xs
 | .nd false ks => .dict ks
 | .nd true ks => a4u ks
 | .o _ => .none
@[reducible] def a33 : RV → Bool
 | .d _ => true
 | .nl _ => true
 | .nd _ _ => true
 | .o _ => false
theorem a3j {r : RV} (h : a33 r = true) (g : Gs) : a6i r g = .ok (frz r) g := by
 cases r with
 | d x => rfl
 | nl xs => rfl
 | nd t ks => cases t <;> rfl
 | o v => cases h
def eT {α : Type} (e : α → PyData) (xs : List α) : PyData := .tuple (xs.map e)
def RX {α β : Type} (m : R β) (M : R α) (w : α → β) : Prop := match M with
 | .ok a g => m = .ok (w a) g
 | .exc x g => m = .exc x g
 | .bad => True
theorem RX.bind {α β α' β' : Type} {m : R β} {M : R α} {w : α → β} {k : β → Gs → R β'} {K : α → Gs → R α'} {w' : α' → β'} (h : RX m M w) (hk : ∀ a g, RX (k (w a) g) (K a g) w') : RX (m.bind k) (M.bind K) w' := by
 cases M with
 | ok a g => have h : m = .ok (w a) g := h; subst h; exact hk a g
 | exc x g => have h : m = .exc x g := h; subst h; rfl
 | bad => trivial
theorem RX.map {α β β' : Type} {m : R β} {M : R α} {w : α → β} {k : β → Gs → R β'} {w' : α → β'} (h : RX m M w) (hk : ∀ a g, k (w a) g = .ok (w' a) g) : RX (m.bind k) M w' := by
 cases M with
 | ok a g => have h : m = .ok (w a) g := h; subst h; exact hk a g
 | exc x g => have h : m = .exc x g := h; subst h; rfl
 | bad => trivial
section
variable {ρ : List SD} {g g1 : Gs} {fa fb fc fe f : EF} {r ra rb rc : RV}
/-- as data -/
theorem a7C (h : f ρ g = .ok r g1) (d : a33 r = true) : v6 f ρ g = .ok (frz r) g1 := by unfold v6; rw [h]; exact a3j d g1
theorem dd {x : PyData} (h : f ρ g = .ok (.d x) g) : v6 f ρ g = .ok x g := a7C h rfl
theorem dl {xs : List PyData} (h : f ρ g = .ok (.nl xs) g) : v6 f ρ g = .ok (.list xs) g := a7C h rfl
variable {xa xb xc : PyData}
end
end Fx

namespace Fx
open PySem L2

/-- what a block comes to -/
def RG {γ : Type} (b : EFs) (ρ : List SD) (g : Gs) (M : R γ) (P : γ → Out → Prop) : Prop := match M with
 | .ok c g' => ∃ o, b ρ g = .ok o g' ∧ P c o
 | .exc x g' => ∃ ρ', b ρ g = .ok (.ex x ρ') g'
 | .bad => True
/-- what a turn of a loop leaves: a value returned, or the loop's state -/
inductive Bl (β σ : Type) where
 | ret (b : β)
 | nx (s : σ)
section
variable {γ : Type} {ρ : List SD} {g : Gs} {b t e h : EFs} {fe : EF} {M : R γ} {P : γ → Out → Prop}
theorem RG.eq (q : b ρ g = t ρ g) (k : RG t ρ g M P) : RG b ρ g M P := by
 unfold RG at *
 rw [q]
 exact k
/-- the value of an expression, as a statement's first look -/
theorem stx_ok {α : Type} {m : R α} {a : α} {g1 : Gs} {k : α → Gs → R Out} (q : m = .ok a g1) : m.stx ρ k = k a g1 := by rw [q]; rfl
end
end Fx

namespace Fx
open PySem L2

structure EqK {α : Type} [DecidableEq α] (n : Nat) (e : α → PyData) : Prop where
 pl : ∀ a, (e a).plain = true
 dp : ∀ a, (e a).depth ≤ n
 eq : ∀ a b, PyData.eqv (e a) (e b) = decide (a = b)
section
variable {α β γ : Type} [DecidableEq α] [DecidableEq β] [DecidableEq γ] {n m k : Nat} {e : α → PyData} {e' : β → PyData} {e'' : γ → PyData}
theorem EqK.up (h : EqK n e) (hm : n ≤ m) : EqK m e := ⟨h.pl, fun a => Nat.le_trans (h.dp a) hm, h.eq⟩
theorem EqK.ok (h : EqK n e) (hn : n ≤ 64) (a : α) : Fx.pl (e a) = true := by
 unfold Fx.pl
 rw [h.pl, decide_eq_true (Nat.le_trans (h.dp a) hn)]; rfl
end
def slt (a b : Str) : Bool := decide (a.cps.toList < b.cps.toList)
structure a8M {α : Type} [DecidableEq α] (n : Nat) (e : α → PyData) (lt : α → α → Bool) : Prop extends EqK n e where
 al : ∀ a b, PySem.W.alike (e a) (e b) = true
 lt : ∀ a b, PySem.W.dataLt (e a) (e b) = lt a b
 nl : ∀ a, noL (e a) = true
end Fx

namespace Fx
open PySem L2

section
variable {α β γ : Type} {e : α → PyData} {e' : β → PyData}
/-- xs[lo:hi] -/
def cut (xs : List α) (lo hi : Option Int) : List α := (xs.drop (HT.sIx xs.length 0 lo)).take (HT.sIx xs.length xs.length hi - HT.sIx xs.length 0 lo)
end
section
variable {α β : Type} [DecidableEq α] {e : α → PyData} {e' : β → PyData}
/-- a kind of flat keys -/
structure a9A (e : α → PyData) (k : α → Key) : Prop where
 kk : ∀ a, a0b (e a) = some (k a)
 d : ∀ a, a0i (e a) = some (.f (k a))
 i : ∀ a b, k a = k b → a = b
 b : ∀ a, keyD (k a) = e a
variable {k : α → Key}
theorem a9A.eq (h : a9A e k) (a b : α) : decide (a0i (e a) = some (.f (k b))) = decide (a = b) := by
 rw [h.d]
 by_cases c : a = b
 ·subst c; simp
 ·have : ¬ (some (DK.f (k a)) = some (DK.f (k b))) := fun z => c (h.i a b (DK.f.inj (Option.some.inj z)))
  rw [decide_eq_false c, decide_eq_false this]
end
end Fx

namespace Fx
open PySem L2

def R.mp {α β : Type} (m : R α) (h : α → β) : R β := m.bind fun a g => .ok (h a) g
theorem RX.mp {α α' β β' : Type} {m : R β} {M : R α} {w : α → β} {k : β → Gs → R β'} {h : α → α'} {w' : α' → β'} (q : RX m M w) (hk : ∀ a g, k (w a) g = .ok (w' (h a)) g) : RX (m.bind k) (M.mp h) w' := q.bind fun a g => hk a g
section
variable {ρ : List SD} {g : Gs} {fa fb fc fe f : EF}
theorem rd {α : Type} {M : R α} {e : α → PyData} (h : RX (f ρ g) M (fun a => .d (e a))) : RX (v6 f ρ g) M e := by
 unfold v6
 cases M with
 | ok a g' => have h : f ρ g = .ok (.d (e a)) g' := h; rw [h]; rfl
 | exc x g' => have h : f ρ g = .exc x g' := h; rw [h]; rfl
 | bad => trivial
theorem RX.nox {α β : Type} {m : R β} {M : R α} {w : α → β} (h : RX m M w) : RX m.nox M.nox w := by
 cases M with
 | ok a g' => have h : m = .ok (w a) g' := h; rw [h]; rfl
 | exc x g' => trivial
 | bad => trivial
end
end Fx

namespace Fx
open PySem L2 PySem.Spec PyProof.Rows

def w7 (f : Str) : List (PyData × PyData) → Option PyData
 | [] => none
 | (.str n, d) :: r => if n = f then some d else w7 f r
 | _ :: _ => none
/-- an object's class and fields -/
def a8Y : PyData → Option (Str × List (PyData × PyData))
 | .dict ((.list [], .str nm) :: ks) => some (nm, ks)
 | _ => none
@[simp] theorem a6Q (nm : Str) (fs : List (Str × PyData)) : a8Y (a1l nm fs) = some (nm, I7 fs) := rfl
section
variable {K : Ck} {W : WX}
theorem RpF.none {F : Hp} {f : Str} : ∀ {fs : List (Str × V)} {ds : List (Str × PyData)}, RpF K F fs ds → w7 f (I7 ds) = Option.none → fs.lookup f = Option.none
 | _, _, .nil, _ => rfl
 | _, _, @RpF.cons _ _ n v fs e ds r t, h => by
  have h : (if n = f then some e else w7 f (I7 ds)) = Option.none := h
  by_cases c : n = f
  ·rw [if_pos c] at h; cases h
  ·rw [if_neg c] at h
   have hb : (f == n) = false := beq_eq_false_iff_ne.mpr fun z => c z.symm
   rw [List.lookup_cons, hb]; exact RpF.none t h
/-- self.f = e -/
def putD (f : Str) (v : PyData) : List (Str × PyData) → List (Str × PyData)
 | [] => [(f, v)]
 | (g, x) :: r => if g = f then (g, v) :: r else (g, x) :: putD f v r
theorem RpF.put {F : Hp} {f : Str} {v : V} {d : PyData} (r : Rp K F v d) : ∀ {fs : List (Str × V)} {ds : List (Str × PyData)}, RpF K F fs ds → RpF K F (putF f v fs) (putD f d ds)
 | _, _, .nil => .cons r .nil
 | _, _, @RpF.cons _ _ n w fs e ds q t => by
  show RpF K F (if n = f then (n, v) :: fs else (n, w) :: putF f v fs) (if n = f then (n, d) :: ds else (n, e) :: putD f d ds)
  by_cases c : n = f
  ·rw [if_pos c, if_pos c]; exact .cons r t
  ·rw [if_neg c, if_neg c]; exact .cons q (RpF.put r t)
theorem RpF.length {F : Hp} : ∀ {fs : List (Str × V)} {ds : List (Str × PyData)}, RpF K F fs ds → fs.length = ds.length
 | _, _, .nil => rfl
 | _, _, .cons _ t => by simp [RpF.length t]
end

end Fx

namespace Fx
open PySem L2 PySem.Spec PyProof.Rows

structure b07 (S : Sta) (K : Ck) (F H1 F' H' : Hp) (g' : Gs) (x dx C : Addr) (fs : List (Str × PyData)) : Prop where
 sub : Sub F' H'
 mono : Le F F'
 fz : ∀ a, H1 a ≠ none → F' a = F a
 keep : ∀ a o, H1 a = some o → ¬ S.M a → H' a = some o
 tb : Tb S F' H'
 j : S.J g' H'
 fx : F' x = none
 ob : ∃ vs, H' x = some (.ins C dx vs) ∧ RpF K F' vs fs
end Fx

namespace Fx
open PySem L2 RZ

def Alt (F F' : Hp) : Prop := ∀ a, F' a = F a ∨ ∃ kvs, Rd F a (.dK kvs) ∧ Rd F' a (.dK kvs)
theorem Alt.symm {F F' : Hp} (h : Alt F F') : Alt F' F := fun a => (h a).imp Eq.symm fun ⟨k, x, y⟩ => ⟨k, y, x⟩
def a77 : HO → Prop
 | .dK _ => False
 | .frz _ (.dK _) => False
 | _ => True
theorem a39 {F : Hp} {a : Addr} {o : HO} {kvs : List (Key × V)} (h : Rd F a (.dK kvs)) (e : F a = some o) : ¬ a77 o := by
 rcases h with h | ⟨w, h⟩ <;> rw [h] at e <;> cases e <;> exact fun z => z
theorem Alt.at {F F' : Hp} (h : Alt F F') {a : Addr} {o : HO} (e : F a = some o) (n : a77 o) : F' a = some o := by
 rcases h a with q | ⟨k, q, _⟩
 ·exact q.trans e
 ·exact absurd n (a39 q e)
theorem Alt.lst {F F' : Hp} (h : Alt F F') {a : Addr} {xs : List V} (e : Rd F a (.lst xs)) : Rd F' a (.lst xs) := by
 rcases e with e | ⟨o, e⟩
 ·exact .inl (h.at e trivial)
 ·exact .inr ⟨o, h.at e trivial⟩
theorem Alt.dk {F F' : Hp} (h : Alt F F') {a : Addr} {ks : List (Key × V)} (e : Rd F a (.dK ks)) : Rd F' a (.dK ks) := by
 rcases h a with q | ⟨k, q, r⟩
 ·rcases e with e | ⟨o, e⟩
  ·exact .inl (q.trans e)
  ·exact .inr ⟨o, q.trans e⟩
 ·have : k = ks := by
   rcases e with e | ⟨o, e⟩ <;> rcases q with q | ⟨o', q⟩ <;> rw [q] at e <;> cases e <;> rfl
  exact this ▸ r
theorem Alt.sqx {K : Ck} {F F' : Hp} (h : Alt F F') {a : Addr} {xs : List V} (e : a0d K F a xs) : a0d K F' a xs := e.imp h.lst id
theorem Alt.sqt {K : Ck} {F F' : Hp} (h : Alt F F') {a : Addr} {xs : List V} (e : SqT K F a xs) : SqT K F' a xs := by
 rcases e with (e | ⟨o, e⟩) | e
 ·exact .inl (.inl (h.at e trivial))
 ·exact .inl (.inr ⟨o, h.at e trivial⟩)
 ·exact .inr e
theorem Alt.tok {K : Ck} {F F' : Hp} (h : Alt F F') {a : Addr} {vs : List V} {ds : List PyData} (e : a2t K F a vs ds) : a2t K F' a vs ds := by
 rcases e with ⟨e, k⟩ | ⟨o, e, k⟩ | e
 ·exact .inl ⟨h.at e trivial, k⟩
 ·exact .inr (.inl ⟨o, h.at e trivial, k⟩)
 ·exact .inr (.inr e)
mutual
theorem Rp.alt {K : Ck} {F F' : Hp} (e : Alt F F') : ∀ {v : V} {d : PyData}, Rp K F v d → Rp K F' v d
 | _, _, .non => .non
 | _, _, .bl b => .bl b
 | _, _, .int i => .int i
 | _, _, .str x => .str x
 | _, _, .lst h r => .lst (e.sqx h) (RpA.alt e r)
 | _, _, .tup h k r => .tup (e.sqt h) (e.tok k) (RpA.alt e r)
 | _, _, .dK h r => .dK (e.dk h) (RpK.alt e r)
 | _, _, .dT h n r => .dT (e.at h trivial) n (RpT.alt e r)
 | _, _, .obj h m i r => .obj (e.at h trivial) m i (RpF.alt e r)
 | _, _, .exc h m d r => .exc (e.at h trivial) m (d.imp id fun ⟨dx, q1, q2⟩ => ⟨dx, q1, e.at q2 trivial⟩) (RpF.alt e r)
 | _, _, .fn m => .fn m
theorem RpA.alt {K : Ck} {F F' : Hp} (e : Alt F F') : ∀ {vs : List V} {ds : List PyData}, RpA K F vs ds → RpA K F' vs ds
 | _, _, .nil => .nil
 | _, _, .cons r t => .cons (Rp.alt e r) (RpA.alt e t)
theorem RpK.alt {K : Ck} {F F' : Hp} (e : Alt F F') : ∀ {vs : List (Key × V)} {ds : List (PyData × PyData)}, RpK K F vs ds → RpK K F' vs ds
 | _, _, .nil => .nil
 | _, _, .cons r t => .cons (Rp.alt e r) (RpK.alt e t)
theorem RpT.alt {K : Ck} {F F' : Hp} (e : Alt F F') : ∀ {vs : TKV} {ds : List (PyData × PyData)}, RpT K F vs ds → RpT K F' vs ds
 | _, _, .nil => .nil
 | _, _, .cons q r t => .cons (Rp.alt e q) (Rp.alt e r) (RpT.alt e t)
theorem RpF.alt {K : Ck} {F F' : Hp} (e : Alt F F') : ∀ {vs : List (Str × V)} {ds : List (Str × PyData)}, RpF K F vs ds → RpF K F' vs ds
 | _, _, .nil => .nil
 | _, _, .cons r t => .cons (Rp.alt e r) (RpF.alt e t)
end
theorem RpE.alt {K : Ck} {F F' : Hp} (e : Alt F F') {a : Addr} {n : Ent} {ds : List (PyData × PyData)} (h : RpE K F a n ds) : RpE K F' a n ds := by
 cases n with
 | k kvs => exact RpK.alt e h
 | t ob kvs => exact ⟨h.1, RpT.alt e h.2⟩
/-- what stands at d is replaced, if anything does -/
def swp (F : Hp) (d : Addr) (u : HO) : Hp := fun a => if a = d then (F a).map fun _ => u else F a
theorem A3 {F : Hp} {d a : Addr} {u : HO} (h : a ≠ d) : swp F d u a = F a := if_neg h
theorem O5 {F : Hp} {d : Addr} {u : HO} : swp F d u d = (F d).map fun _ => u := if_pos rfl
theorem P6 {F : Hp} {d a : Addr} {u : HO} : swp F d u a = none ↔ F a = none := by
 by_cases e : a = d
 ·subst e; rw [O5]; cases F a <;> simp
 ·rw [A3 e]
theorem a5c {F : Hp} {d : Addr} {u : HO} {kvs : List (Key × V)} (h : F d = none ∨ Rd F d (.dK kvs)) (hu : u = .dK kvs ∨ ∃ o, u = .frz o (.dK kvs)) : Alt F (swp F d u) := by
 intro a
 by_cases e : a = d
 ·subst e
  rcases h with h | h
  ·left; rw [O5, h]; rfl
  ·right
   refine ⟨kvs, h, ?_⟩
   have : swp F a u a = some u := by rw [O5]; rcases h with h | ⟨o, h⟩ <;> rw [h] <;> rfl
   rcases hu with rfl | ⟨o, rfl⟩
   ·exact .inl this
   ·exact .inr ⟨o, this⟩
 ·left; exact A3 e
theorem a4N {F F' : Hp} {d : Addr} {u : HO} (h : Le F F') : Le (swp F d u) (swp F' d u) := by
 intro a o e
 by_cases z : a = d
 ·subst z
  rw [O5] at e ⊢
  cases q : F a with
  | none => rw [q] at e; cases e
  | some w => rw [q] at e; rw [h _ _ q]; exact e
 ·rw [A3 z] at e ⊢; exact h _ _ e

theorem ErR.alt {K : Ck} {F F' : Hp} {v : V} {x : PyData} (h : ErR K F v x) (e : Alt F F') : ErR K F' v x := by
 obtain ⟨a, C, nm, d, fs, ds, ev, h1, h2, h3, h4, h5⟩ := h
 exact ⟨a, C, nm, d, fs, ds, ev, e.at h1 trivial, h2, h3.imp id fun ⟨dx, q1, q2⟩ => ⟨dx, q1, e.at q2 trivial⟩, RpF.alt e h4, h5⟩
section
variable {K : Ck} {W : WX}
/-- what makes the turn from one form to the other -/
structure Tw (S : Sta) (F : Hp) (d : Addr) (kvs : List (Key × V)) (u : HO) : Prop where
 m : ¬ S.M d
 f : Rd F d (.dK kvs)
 u : u = .dK kvs ∨ ∃ o, u = .frz o (.dK kvs)
theorem a1O {F F' : Hp} (e : Alt F F') {a : Addr} {φ : Heap → Prop} (h : F a = some (.ext φ)) : F' a = some (.ext φ) := by
 rcases e a with q | ⟨kvs, q, _⟩
 ·exact q.trans h
 ·rcases q with q | ⟨o, q⟩ <;> rw [h] at q <;> cases q
theorem a0r.alt {F F' : Hp} {q : Str} {fs : List Addr} {os : List (Addr → Addr → Heap → Prop)} (h : a0r F q fs os) (e : Alt F F') : a0r F' q fs os :=
 ⟨h.1, fun k f o h1 h2 => let ⟨c', e1, e2⟩ := h.2 k f o h1 h2; ⟨c', a1O e e1, a1O e e2⟩⟩
theorem Tw.alt {S : Sta} {F : Hp} {d : Addr} {kvs : List (Key × V)} {u : HO} (t : Tw S F d kvs u) : Alt F (swp F d u) := a5c (.inr t.f) t.u
theorem Tw.sub {S : Sta} {F H : Hp} {d : Addr} {kvs : List (Key × V)} {u : HO} (t : Tw S F d kvs u) (s : Sub F H) : Sub (swp F d u) (swp H d u) := a4N s
theorem Tw.j {S : Sta} {F H : Hp} {d : Addr} {kvs : List (Key × V)} {u : HO} {g : Gs} (t : Tw S F d kvs u) (j : S.J g H) : S.J g (swp H d u) := S.ok g H _ j fun a m => A3 fun z => t.m (z ▸ m)
theorem Tw.own {S : Sta} {F H : Hp} {d : Addr} {kvs : List (Key × V)} {u : HO} (t : Tw S F d kvs u) {a : Addr} {s : SD} (ne : a ≠ d) (h : N6 K F H a s) : N6 K (swp F d u) (swp H d u) a s := by
 cases s with
 | own xs => obtain ⟨vs, h1, h2⟩ := h; exact ⟨vs, (A3 ne).trans h1, h2.alt t.alt⟩
 | dic b ks => obtain ⟨n, h1, h2, h3⟩ := h; exact ⟨n, (A3 ne).trans h1, h2, h3.alt t.alt⟩
 | ins x dx C nm fs => obtain ⟨vs, h1, h2, h3, h4, h5⟩ := h; exact ⟨vs, (A3 ne).trans h1, h2, h3, RpF.alt t.alt h4, h5⟩
 | lm os q => obtain ⟨fs, h1, h2⟩ := h; exact ⟨fs, (A3 ne).trans h1, h2.alt t.alt⟩
 | u => exact h.elim
 | d x => exact h.elim
 | o v => exact h.elim
 | lk x => exact h.elim
 | er x => exact h.elim
theorem Tw.ne {S : Sta} {F : Hp} {d a : Addr} {kvs : List (Key × V)} {u : HO} (t : Tw S F d kvs u) (h : F a = none) : a ≠ d := by
 rintro rfl
 rcases t.f with q | ⟨o, q⟩ <;> rw [q] at h <;> cases h
theorem Tw.fz {B F F0 : Hp} {d : Addr} {u : HO} (h : ∀ a, B a ≠ none → F a = F0 a) : ∀ a, swp B d u a ≠ none → swp F d u a = swp F0 d u a := by
 intro a q
 have := h a fun z => q (P6.mpr z)
 by_cases z : a = d
 ·subst z; rw [O5, O5, this]
 ·rw [A3 z, A3 z, this]
theorem Tw.keep {S : Sta} {B H : Hp} {d : Addr} {u : HO} (h : ∀ a o, B a = some o → ¬ S.M a → H a = some o) : ∀ a o, swp B d u a = some o → ¬ S.M a → swp H d u a = some o := by
 intro a o q m
 by_cases z : a = d
 ·subst z
  rw [O5] at q ⊢
  cases e : B a with
  | none => rw [e] at q; cases q
  | some w => rw [e] at q; rw [h _ _ e m]; exact q
 ·rw [A3 z] at q ⊢; exact h a o q m
theorem Tb.swp {S : Sta} {F H : Hp} {d : Addr} {kvs : List (Key × V)} {u : HO} (h : Tb S F H) (m : ¬ S.M d) (f : Rd F d (.dK kvs)) : Tb S (swp F d u) (swp H d u) := fun p hp => by
 obtain ⟨ps, h1, h2, h3⟩ := h p hp
 refine ⟨ps, (A3 fun (z : p.1 = d) => m (by rw [← z]; exact S.tm p hp)).trans h1, h2, fun pos cv hc => ?_⟩
 obtain ⟨c, e1, e2⟩ := h3 pos cv hc
 exact ⟨c, e1, (A3 fun z => by subst z; unfold LamX.CodeO at e2; rcases f with f | ⟨o, f⟩ <;> rw [f] at e2 <;> cases e2).trans e2⟩
end

end Fx

namespace Fx
open PySem L2 RZ
theorem RpK.get {K : Ck} {F : Hp} : ∀ {kvs : List (Key × V)} {ks : List (PyData × PyData)} {i : Nat} {p : PyData × PyData}, RpK K F kvs ks → ks[i]? = some p → ∃ k v, kvs[i]? = some (k, v) ∧ p.1 = keyD k ∧ Rp K F v p.2
 | _, _, _, _, .nil, e => by simp at e
 | _, _, 0, _, .cons r _, e => by simp at e; subst e; exact ⟨_, _, rfl, rfl, r⟩
 | _, _, i + 1, p, .cons _ t, e => by
  obtain ⟨k, v, h⟩ := RpK.get (i := i) (p := p) t (by simpa using e)
  exact ⟨k, v, by simpa using h⟩
end Fx

namespace Fx
open PySem L2

section
variable {P : Program} {w : World} {h : Heap}
/-- a value that reads so, and whose text is made so -/
structure Sw (P : Program) (w : World) (h : Heap) (u : Value) (d : PyData) : Prop where
 rd : ∃ as, Reads h u d as
 top : ∀ a, u = .ref a → d.shown.length ≤ sizeLine → ∀ (A : Around) (E : Value → Shared → Prop) (s : Shared) (Q : Value → Shared → Prop), A.guards = some [] → A.units + (d.depth + 1) < cLine → (∀ b o, h.get? b = some o → s.heap.get? b = some o) →
  (∀ h' u tk, (∀ b o, s.heap.get? b = some o → h'.get? b = some o) → Q (.str d.shown u) { s with heap := h', toks := tk }) → wpAny (model P w) A (call (.builtin "repr") [u]) Q E s
 go : d.shown.length ≤ sizeLine → ∃ bs, ReadAtMost h d.depth bs ∧ ReprK P w bs h d.depth u d.shown
structure SwA (P : Program) (w : World) (h : Heap) (us : List Value) (ds : List PyData) : Prop where
 rd : ∃ as, ReadsAll h us ds as
 go : (∀ t ∈ PyData.shownAll ds, t.length ≤ sizeLine) → ∃ bs, ReadAtMost h (PyData.depthAll ds) bs ∧ ReprAllK P w bs h (PyData.depthAll ds) us (PyData.shownAll ds)
structure SwE (P : Program) (w : World) (h : Heap) (es : List DictEntry) (ks : List (PyData × PyData)) : Prop where
 k : ∃ as, ReadsAll h (es.map (·.key)) (ks.map (·.1)) as
 v : ∃ as, ReadsAll h (es.map (·.val)) (ks.map (·.2)) as
 go : (∀ t ∈ PyData.shownKv ks, t.length ≤ sizeLine) → ∃ bs, ReadAtMost h (PyData.depthKv ks) bs ∧ ReprEntriesK P w bs h (PyData.depthKv ks) es (PyData.shownKv ks)
theorem a0m {n : Nat} : ReadAtMost h n [] := fun _ z => nomatch z
theorem Sw.flat {u : Value} {d : PyData} {as : List Addr} (r : Reads h u d as) (n : ∀ a, u ≠ .ref a) (q : d.shown.length ≤ sizeLine → ReprIs P w u d.shown) : Sw P w h u d :=
 ⟨⟨as, r⟩, fun a z => absurd z (n a), fun z => ⟨[], a0m, .of_is (q z) _ _ _⟩⟩
theorem SwA.nil : SwA P w h [] [] := ⟨⟨_, .nil⟩, fun _ => ⟨[], a0m, by simp only [PyData.shownAll]; exact .nil⟩⟩
theorem SwA.cons {u : Value} {us : List Value} {d : PyData} {ds : List PyData} (a : Sw P w h u d) (b : SwA P w h us ds) : SwA P w h (u :: us) (d :: ds) := by
 refine ⟨?_, fun z => ?_⟩
 ·obtain ⟨x, hx⟩ := a.rd
  obtain ⟨y, hy⟩ := b.rd
  exact ⟨_, .cons hx hy⟩
 ·have z' : d.shown.length ≤ sizeLine ∧ ∀ t ∈ PyData.shownAll ds, t.length ≤ sizeLine := by
   simp only [PyData.shownAll, List.mem_cons] at z
   exact ⟨z _ (.inl rfl), fun t ht => z t (.inr ht)⟩
  obtain ⟨x, hx, kx⟩ := a.go z'.1
  obtain ⟨y, hy, ky⟩ := b.go z'.2
  have m1 : d.depth ≤ PyData.depthAll (d :: ds) := by simp only [PyData.depthAll]; omega
  have m2 : PyData.depthAll ds ≤ PyData.depthAll (d :: ds) := by simp only [PyData.depthAll]; omega
  refine ⟨x ++ y, (hx.mono m1).append (hy.mono m2), ?_⟩
  have c1 := (kx.more (as' := x ++ y) fun b hb => by simp [hb]).level_le m1
  have c2 := ky.more_le (as' := x ++ y) (fun b hb => by simp [hb]) m2
  rw [show PyData.shownAll (d :: ds) = d.shown :: PyData.shownAll ds by simp only [PyData.shownAll]]
  exact .cons c1 c2
theorem SwE.nil : SwE P w h [] [] := ⟨⟨_, .nil⟩, ⟨_, .nil⟩, fun _ => ⟨[], a0m, by simp only [PyData.shownKv]; exact .nil⟩⟩
theorem SwE.cons {e : DictEntry} {es : List DictEntry} {k v : PyData} {ks : List (PyData × PyData)} (a : Sw P w h e.key k) (b : Sw P w h e.val v) (c : SwE P w h es ks) : SwE P w h (e :: es) ((k, v) :: ks) := by
 refine ⟨?_, ?_, fun z => ?_⟩
 ·obtain ⟨x, hx⟩ := a.rd
  obtain ⟨y, hy⟩ := c.k
  exact ⟨_, .cons hx hy⟩
 ·obtain ⟨x, hx⟩ := b.rd
  obtain ⟨y, hy⟩ := c.v
  exact ⟨_, .cons hx hy⟩
 ·have z1 := z (k.shown ++ ": " ++ v.shown) (by simp only [PyData.shownKv]; exact List.mem_cons_self ..)
  rw [strLen_append, strLen_append] at z1
  obtain ⟨x, hx, kx⟩ := a.go (by omega)
  obtain ⟨y, hy, ky⟩ := b.go (by omega)
  obtain ⟨o, ho, ko⟩ := c.go fun t ht => z t (by simp only [PyData.shownKv]; exact List.mem_cons_of_mem _ ht)
  have m1 : k.depth ≤ PyData.depthKv ((k, v) :: ks) := by simp only [PyData.depthKv]; omega
  have m2 : v.depth ≤ PyData.depthKv ((k, v) :: ks) := by simp only [PyData.depthKv]; omega
  have m3 : PyData.depthKv ks ≤ PyData.depthKv ((k, v) :: ks) := by simp only [PyData.depthKv]; omega
  refine ⟨x ++ y ++ o, ((hx.mono m1).append (hy.mono m2)).append (ho.mono m3), ?_⟩
  have c1 := (kx.more (as' := x ++ y ++ o) fun b hb => by simp [hb]).level_le m1
  have c2 := (ky.more (as' := x ++ y ++ o) fun b hb => by simp [hb]).level_le m2
  have more : ∀ {es : List DictEntry} {ts : List Str}, ReprEntriesK P w o h (PyData.depthKv ks) es ts → ReprEntriesK P w (x ++ y ++ o) h (PyData.depthKv ((k, v) :: ks)) es ts := by
   intro es ts q
   induction q with
   | nil => exact .nil
   | cons q1 q2 _ ih => exact .cons ((q1.more fun b hb => by simp [hb]).level_le m3) ((q2.more fun b hb => by simp [hb]).level_le m3) ih
  rw [show PyData.shownKv ((k, v) :: ks) = (k.shown ++ ": " ++ v.shown) :: PyData.shownKv ks by simp only [PyData.shownKv]]
  exact .cons c1 c2 (more ko)
/-- what a list's, a tuple's, a dict's own text needs -/
theorem SwA.deep {us : List Value} {ds : List PyData} {a : Addr} {d : PyData} {as : List Addr} (q : SwA P w h us ds) (r : Reads h (.ref a) d as) (hd : d.depth = PyData.depthAll ds + 1) (z : ∀ t ∈ PyData.shownAll ds, t.length ≤ sizeLine) :
  ∃ bs, a ∉ bs ∧ ReadAtMost h d.depth (a :: bs) ∧ ReprAllK P w bs h (PyData.depthAll ds) us (PyData.shownAll ds) := by
 obtain ⟨bs, hb, k⟩ := q.go z
 exact ⟨bs, not_mem_of_deeper r (by omega) hb, .cons r (by omega) hb, k⟩
theorem Sw.list {a : Addr} {o : Obj} {us : List Value} {n : Nat} {ds : List PyData} (h1 : h.get? a = some o) (h2 : o.cls = .type "list") (h3 : o.data = .seq us.toArray n) (q : SwA P w h us ds) : Sw P w h (.ref a) (.list ds) := by
 obtain ⟨as, r0⟩ := q.rd
 have r : Reads h (.ref a) (.list ds) _ := .list h1 h2 h3 r0
 refine ⟨⟨_, r⟩, fun b eb z A E s Q hg hu hk hQ => ?_, fun z => ?_⟩
 ·cases eb
  simp only [PyData.depth] at hu
  simp only [PyData.shown] at z hQ
  obtain ⟨bs, hna, _, k⟩ := q.deep r (by simp only [PyData.depth]) fun t ht => Nat.le_trans (listText_mem_le ht) z
  refine call_repr_slot (by omega) ⟨o, hk _ _ h1, h2⟩ F.slot_list_repr.toG ?_
  cases us with
  | nil =>
   cases r0
   simp only [PyData.shownAll, listText_nil] at hQ
   exact call_list_repr_empty ⟨o, hk _ _ h1, h2⟩ (hk _ _ h1) h3 ⟨_, _, rfl, hQ s.heap _ _ fun _ _ e => e⟩
  | cons x l => exact call_list_reprK h1 h2 h3 hna (by simpa using k.length_eq) (fun i y e => k.item i y (by simpa using e)) (A := A.in1) hg (fun b _ => Clear.nil b) (by show A.units + 1 + _ < cLine; omega) hk (fun h' u tk e => ⟨_, _, rfl, hQ h' u tk e⟩) z
 simp only [PyData.shown] at z
 obtain ⟨bs, hna, hb, k⟩ := q.deep r (by simp only [PyData.depth]) fun t ht => Nat.le_trans (listText_mem_le ht) z
 refine ⟨_, hb, ?_⟩
 simp only [PyData.depth, PyData.shown]
 cases us with
 | nil =>
  cases r0
  simp only [PyData.shownAll, listText_nil]
  exact .listEmpty h1 h2 h3
 | cons x l => exact .list h1 h2 h3 hna (by simpa using k.length_eq) fun i y e => k.item i y (by simpa using e)
theorem Sw.tuple {a : Addr} {o : Obj} {us : List Value} {n : Nat} {ds : List PyData} (h1 : h.get? a = some o) (h2 : o.cls = .type "tuple") (h3 : o.data = .seq us.toArray n) (q : SwA P w h us ds) : Sw P w h (.ref a) (.tuple ds) := by
 obtain ⟨as, r0⟩ := q.rd
 have r : Reads h (.ref a) (.tuple ds) _ := .tuple h1 h2 h3 r0
 refine ⟨⟨_, r⟩, fun b eb z A E s Q hg hu hk hQ => ?_, fun z => ?_⟩
 ·cases eb
  simp only [PyData.depth] at hu
  simp only [PyData.shown] at z hQ
  obtain ⟨bs, hna, _, k⟩ := q.deep r (by simp only [PyData.depth]) fun t ht => Nat.le_trans (tupleText_mem_le ht) z
  refine call_repr_slot (by omega) ⟨o, hk _ _ h1, h2⟩ F.slot_tuple_repr ?_
  exact call_tuple_reprK h1 h2 h3 hna k (A := A.in1) hg (fun b _ => Clear.nil b) (by show A.units + 1 + _ < cLine; omega) hk (fun h' u tk e => ⟨_, _, rfl, hQ h' u tk e⟩) z
 simp only [PyData.shown] at z
 obtain ⟨bs, hna, hb, k⟩ := q.deep r (by simp only [PyData.depth]) fun t ht => Nat.le_trans (tupleText_mem_le ht) z
 refine ⟨_, hb, ?_⟩
 simp only [PyData.depth, PyData.shown]
 exact .tuple h1 h2 h3 hna k
theorem Sw.dict {a : Addr} {o : Obj} {es : Array DictEntry} {n : Nat} {ks : List (PyData × PyData)} (h1 : h.get? a = some o) (h2 : o.cls = .type "dict") (h3 : o.data = .dict es n) (hs : (a == sysModules) = false) (q : SwE P w h es.toList ks) : Sw P w h (.ref a) (.dict ks) := by
 obtain ⟨as, r0⟩ := q.k
 obtain ⟨as', r1⟩ := q.v
 have r : Reads h (.ref a) (.dict ks) _ := .dict h1 h2 h3 r0 r1
 have hd : (PyData.dict ks).depth = PyData.depthKv ks + 1 := by simp only [PyData.depth]
 refine ⟨⟨_, r⟩, fun b eb z A E s Q hg hu hk hQ => ?_, fun z => ?_⟩
 ·cases eb
  rw [hd] at hu
  simp only [PyData.shown] at z hQ
  obtain ⟨bs, hb, k⟩ := q.go fun t ht => Nat.le_trans (dictText_mem_le ht) z
  have hna := not_mem_of_deeper r (by omega : PyData.depthKv ks < _) hb
  refine call_repr_slot (by omega) ⟨o, hk _ _ h1, h2⟩ F.slot_dict_repr ?_
  exact call_dict_reprK h1 h2 h3 hs hna k (A := A.in1) hg (fun b _ => Clear.nil b) (by show A.units + 1 + _ < cLine; omega) hk (fun h' u tk e => ⟨_, _, rfl, hQ h' u tk e⟩) z
 simp only [PyData.shown] at z
 obtain ⟨bs, hb, k⟩ := q.go fun t ht => Nat.le_trans (dictText_mem_le ht) z
 have hna := not_mem_of_deeper r (by omega : PyData.depthKv ks < _) hb
 refine ⟨a :: bs, .cons r (by omega) hb, ?_⟩
 simp only [PyData.depth, PyData.shown]
 exact .dict h1 h2 h3 hs hna k
end

mutual
/-- dicts in it are plain dicts of ints and texts -/
def okS : PyData → Bool
 | .list xs => a3q xs
 | .tuple xs => a3q xs
 | .dict ks => a1q ks && a6g ks
 | _ => true
def a3q : List PyData → Bool
 | [] => true
 | x :: xs => okS x && a3q xs
def a6g : List (PyData × PyData) → Bool
 | [] => true
 | (_, v) :: ks => okS v && a6g ks
end
section
variable {X : Cx} {pins : List (Addr × Obj)} {σ : L2.St} {H F : Hp} {s : Shared}
theorem a6L {k : Key} {u : Value} (e : keyIs k u = true) (hs : (keyD k).showable = true) : Sw X.prog X.w s.heap u (keyD k) := by
 rcases keyIs_shape e with ⟨i, t, rfl, rfl⟩ | ⟨x, t, rfl, rfl⟩
 ·exact .flat (.int i t) (fun _ => nofun) fun _ => by
   simp only [keyD, PyData.shown]
   exact ReprIs.int t (by simpa [keyD, PyData.showable] using hs)
 ·exact .flat (.str x t) (fun _ => nofun) fun z => by
   simp only [keyD, PyData.shown] at z ⊢
   exact ReprIs.str x t z
mutual
theorem Rp.sw (I : Inv X pins σ H s) (le : Le F H) : ∀ {v : V} {d : PyData} {u : Value}, Rp (Cx.ck X) F v d → RelV v u → d.showable = true → okS d = true → Sw X.prog X.w s.heap u d
 | _, _, _, .non, r, _, _ => by cases r; exact .flat .none (fun _ => nofun) fun _ => by simp only [PyData.shown]; exact ReprIs.none
 | _, _, _, .bl b, r, _, _ => by cases r; exact .flat (.bool b) (fun _ => nofun) fun _ => by simp only [PyData.shown]; exact ReprIs.bool b
 | _, _, _, .int i, r, hs, _ => by obtain ⟨t, rfl⟩ := r; exact .flat (.int i t) (fun _ => nofun) fun _ => by simp only [PyData.shown]; exact ReprIs.int t (by simpa [PyData.showable] using hs)
 | _, _, _, .str x, r, _, _ => by obtain ⟨t, rfl⟩ := r; exact .flat (.str x t) (fun _ => nofun) fun z => by simp only [PyData.shown] at z ⊢; exact ReprIs.str x t z
 | _, _, _, .lst hr ra, r, hs, ho => by
  cases r
  obtain ⟨_, its, n, rv, _, e⟩ := a86 I (Le.sqx le hr)
  exact .list e rfl rfl (RpA.sw I le ra rv (by simpa only [PyData.showable] using hs) (by simpa only [okS] using ho))
 | _, _, _, .tup hr _ ra, r, hs, ho => by
  cases r
  obtain ⟨its, rv, ⟨o, e, c, n, dd⟩, _⟩ := I.tuple (Le.sqt le hr)
  exact .tuple e c dd (RpA.sw I le ra rv (by simpa only [PyData.showable] using hs) (by simpa only [okS] using ho))
 | _, _, _, .dK hr rk, r, hs, ho => by
  cases r
  obtain ⟨_, lo, vs, rel, o, es, ep, e, ex, dd, _, pr, _⟩ := dk_rd I.hok (Le.rd le hr)
  have ho : _ ∧ _ := Bool.and_eq_true_iff.mp (by simpa only [okS] using ho)
  exact .dict e ex.1 dd lo (RpK.sw I le rk rel pr (by simpa only [PyData.showable] using hs) ho.2)
 | _, _, _, .dT _ _ _, _, _, ho => by
  have ho := (Bool.and_eq_true_iff.mp (by simpa only [okS, a4u] using ho)).1
  exact absurd ho (by simp [a1q, a0b, mkT])
 | _, _, _, .obj hr hm hi rk, _, _, ho => by
  obtain ⟨_, _, e, hr', _⟩ := (Rp.obj (K := Cx.ck X) hr hm hi rk).dk (Bool.and_eq_true_iff.mp (by simpa only [okS, a1l] using ho)).1
  cases e
  rcases hr' with z | ⟨_, z⟩ <;> rw [hr] at z <;> cases z
 | _, _, _, .exc hr hm hi rk, _, _, ho => by
  obtain ⟨_, _, e, hr', _⟩ := (Rp.exc (K := Cx.ck X) hr hm hi rk).dk (Bool.and_eq_true_iff.mp (by simpa only [okS, a0S] using ho)).1
  cases e
  rcases hr' with z | ⟨_, z⟩ <;> rw [hr] at z <;> cases z
 | _, _, _, .fn _, _, _, ho => by
  have := (Bool.and_eq_true_iff.mp (by simpa only [okS, fnD] using ho)).1
  exact absurd this (by simp [a1q, a0b])
theorem RpA.sw (I : Inv X pins σ H s) (le : Le F H) : ∀ {vs : List V} {ds : List PyData} {us : List Value}, RpA (Cx.ck X) F vs ds → Vals vs us → PyData.showableAll ds = true → a3q ds = true → SwA X.prog X.w s.heap us ds
 | _, _, _, .nil, r, _, _ => by cases r; exact .nil
 | _, _, _, @RpA.cons _ _ _ _ d ds a b, r, hs, ho => by
  cases r with
  | cons r1 r2 =>
   have hs' : d.showable = true ∧ PyData.showableAll ds = true := by simpa [PyData.showableAll] using hs
   have ho' : okS d = true ∧ a3q ds = true := by simpa [a3q] using ho
   exact .cons (Rp.sw I le a r1 hs'.1 ho'.1) (RpA.sw I le b r2 hs'.2 ho'.2)
theorem RpK.sw (I : Inv X pins σ H s) (le : Le F H) : ∀ {kvs : List (Key × V)} {ks : List (PyData × PyData)} {vs : List (Key × Value)} {es : List DictEntry}, RpK (Cx.ck X) F kvs ks → KV kvs vs → Pairs (mixKind X.prog X.w) es vs → PyData.showableKv ks = true → a6g ks = true → SwE X.prog X.w s.heap es ks
 | _, _, _, _, .nil, r, p, _, _ => by cases r; cases p; exact .nil
 | _, _, _, _, @RpK.cons _ _ k v _ d ds a b, r, p, hs, ho => by
  cases r with
  | cons r1 r2 =>
   cases p with
   | cons p1 p2 p3 =>
    have hs' : ((keyD k).showable = true ∧ d.showable = true) ∧ PyData.showableKv ds = true := by simpa [PyData.showableKv] using hs
    have ho' : okS d = true ∧ a6g ds = true := by simpa [a6g] using ho
    refine .cons (a6L (by have := p1; rw [← r1.1] at this; exact this) hs'.1.1) (Rp.sw I le a (by rw [p2]; exact r1.2) hs'.1.2 ho'.1) (RpK.sw I le b r2 p3 hs'.2 ho'.2)
end
end
end Fx

namespace Fx
open PySem L2

end Fx

namespace Fx
open PySem L2


end Fx

namespace Fq
open PySem L2

/-- 0, 1, 6, 31, ..: how far x -> 5 x + 1 leads from 0 -/
def sg : Nat → Nat
 | 0 => 0
 | n + 1 => 5 * sg n + 1
theorem sg4 (n : Nat) : 4 * sg n + 1 = 5 ^ n := by
 induction n with
 | zero => rfl
 | succ n ih => rw [Nat.pow_succ, ← ih]; simp only [sg]; omega
theorem a4r (a b : Nat) : sg (a + b) = 5 ^ a * sg b + sg a := by
 induction a with
 | zero => simp [sg]
 | succ a ih =>
  rw [show a + 1 + b = (a + b) + 1 by omega]
  simp only [sg]
  rw [ih, Nat.pow_succ, Nat.mul_add, ← Nat.mul_assoc, Nat.mul_comm 5 (5 ^ a)]
  omega
theorem a7w (n : Nat) : sg n % 2 = n % 2 := by
 induction n with
 | zero => rfl
 | succ n ih => simp only [sg]; omega
theorem a7p (e : Nat) : sg (2 * e) = 2 * (sg e * (2 * sg e + 1)) := by
 have h := a4r e e
 have q := sg4 e
 rw [show e + e = 2 * e by omega, ← q] at h
 rw [h, Nat.add_mul, Nat.one_mul, Nat.mul_add, Nat.mul_one, Nat.mul_add]
 have : 4 * sg e * sg e = 2 * (sg e * (2 * sg e)) := by
  rw [Nat.mul_assoc, Nat.mul_left_comm (sg e) 2 (sg e), ← Nat.mul_assoc 2 2]
 omega
theorem K1 {k a b : Nat} (hb : b % 2 = 1) (h : 2 ^ k ∣ a * b) : 2 ^ k ∣ a := by
 have c : Nat.Coprime (2 ^ k) b := Nat.Coprime.pow_left k (by
  show Nat.gcd 2 b = 1
  rw [Nat.gcd_rec, hb]; decide)
 exact Nat.Coprime.dvd_of_dvd_mul_right c h
theorem a4G : ∀ (k d : Nat), 2 ^ k ∣ sg d → 2 ^ k ∣ d
 | 0, d, _ => by simp
 | k + 1, d, h => by
  have h2 : 2 ∣ sg d := Nat.dvd_trans (by rw [Nat.pow_succ]; exact Nat.dvd_mul_left ..) h
  have od := a7w d
  obtain ⟨e, rfl⟩ : ∃ e, d = 2 * e := ⟨d / 2, by omega⟩
  rw [a7p, Nat.pow_succ, Nat.mul_comm (2 ^ k) 2] at h
  have h3 : 2 ^ k ∣ sg e * (2 * sg e + 1) := Nat.dvd_of_mul_dvd_mul_left (by decide) h
  have h4 := a4G k e (K1 (by omega) h3)
  rw [Nat.pow_succ, Nat.mul_comm (2 ^ k) 2]
  exact Nat.mul_dvd_mul_left 2 h4
/-- the table's sizes -/
def Pw (m : Nat) : Prop := ∃ k, m + 1 = 2 ^ k
theorem a16 (m i : Nat) (hi : i ≤ m) : ∀ n, lcgI m i n = (i + sg n * (4 * i + 1)) % (m + 1)
 | 0 => by simp only [lcgI, sg]; rw [Nat.zero_mul, Nat.add_zero, Nat.mod_eq_of_lt (by omega)]
 | n + 1 => by
  have e : lcgI m i (n + 1) = (lcgI m i n * 5 + 1) % (m + 1) := rfl
  rw [e, a16 m i hi n]
  have q : ((i + sg n * (4 * i + 1)) % (m + 1) * 5 + 1) % (m + 1) = ((i + sg n * (4 * i + 1)) * 5 + 1) % (m + 1) := by
   rw [Nat.add_mod, Nat.mul_mod, Nat.mod_mod, ← Nat.mul_mod, ← Nat.add_mod]
  rw [q]
  congr 1
  simp only [sg]
  rw [Nat.add_mul (5 * sg n) 1, Nat.one_mul, Nat.mul_assoc]
  omega
theorem a5d {m i : Nat} (hm : Pw m) (hi : i ≤ m) {a d : Nat} (hd : 0 < d) (hl : d ≤ m) : lcgI m i a ≠ lcgI m i (a + d) := by
 intro e
 obtain ⟨k, hk⟩ := hm
 rw [a16 m i hi, a16 m i hi, a4r] at e
 have h1 : (i + sg a * (4 * i + 1)) % (m + 1) = (i + sg a * (4 * i + 1) + 5 ^ a * sg d * (4 * i + 1)) % (m + 1) := by
  rw [e]; congr 1; rw [Nat.add_mul]; omega
 have h2 : (m + 1) ∣ 5 ^ a * sg d * (4 * i + 1) := by
  have z := Nat.sub_mod_eq_zero_of_mod_eq h1.symm
  rw [Nat.add_sub_cancel_left] at z
  exact Nat.dvd_of_mod_eq_zero z
 rw [hk] at h2
 have h3 := K1 (a := 5 ^ a * sg d) (by omega) h2
 rw [Nat.mul_comm] at h3
 have h4 : 2 ^ k ∣ sg d := K1 (b := 5 ^ a) (by have := sg4 a; omega) h3
 have h5 := Nat.le_of_dvd hd (a4G k d h4)
 omega
/-- from anywhere each slot is met within one round -/
theorem lcg_round {m : Nat} (hm : Pw m) {i j : Nat} (hi : i ≤ m) (hj : j ≤ m) : ∃ n, n ≤ m ∧ lcgI m i n = j := by
 rcases Classical.em (∃ n, n ≤ m ∧ lcgI m i n = j) with c | c
 ·exact c
 ·exfalso
  have nd : ((List.range (m + 1)).map (lcgI m i)).Nodup := by
   refine List.pairwise_map.mpr ((List.pairwise_lt_range (n := m + 1)).imp_of_mem fun {a b} ha hb hab => ?_)
   have hb := List.mem_range.mp hb
   have := a5d hm hi (a := a) (d := b - a) (by omega) (by omega)
   rwa [show a + (b - a) = b by omega] at this
  have lt : ∀ n, lcgI m i n ≤ m := fun n => by rw [a16 m i hi]; exact Nat.le_of_lt_succ (Nat.mod_lt _ (Nat.succ_pos m))
  have l1 := nat_nodup_len (j :: (List.range (m + 1)).map (lcgI m i)) (List.range (m + 1)) (List.nodup_cons.mpr ⟨fun z => by
   obtain ⟨n, hn, e⟩ := List.mem_map.mp z
   exact c ⟨n, Nat.le_of_lt_succ (List.mem_range.mp hn), e⟩, nd⟩) fun x hx => by
    rcases List.mem_cons.mp hx with rfl | hx
    ·exact List.mem_range.mpr (Nat.lt_succ_of_le hj)
    ·obtain ⟨n, _, rfl⟩ := List.mem_map.mp hx
     exact List.mem_range.mpr (Nat.lt_succ_of_le (lt n))
  simp at l1
  omega
theorem R9 {m : Nat} (hm : Pw m) (h : Int) {j : Nat} (hj : j ≤ m) : ∃ n, n ≤ m + 12 ∧ runI m (SetTable.bits h) n = j := by
 obtain ⟨k, a, b⟩ := lcg_round hm (runI_le m (SetTable.bits h) 12) hj
 exact ⟨12 + k, by omega, (runI_tail (bits_lt h) k).trans b⟩
theorem a2s {m : Nat} (hm : Pw m) (h : Int) {j : Nat} (hj : j ≤ m) : ∃ k, k < 10 * SetTable.turns m ∧ way m h k = j := by
 obtain ⟨n, a, b⟩ := R9 hm h hj
 obtain ⟨k, c, d⟩ := run_nth m (SetTable.bits h) n
 exact ⟨k, by unfold SetTable.turns; omega, by unfold way; rw [d]; exact b⟩
theorem a7a {m : Nat} {h : Int} {k : Nat} : way m h k ≤ m := by
 have a := runEnd_bd (m := m) (i := SetTable.bits h % (m + 1)) (Nat.le_of_lt_succ (Nat.mod_lt _ (Nat.succ_pos m)))
 have b := nth_in (m := m) k (runAt m (SetTable.bits h % (m + 1)) (SetTable.bits h)) (by unfold runAt; simp only; omega)
 unfold way
 omega
/-- a table whose entries are found again by their hashes -/
structure Tab (t : SetTable) (hs : List Int) : Prop where
 up : Ris t.place.toList
 nod : t.dummies = #[]
 siz : t.place.size = hs.length
 pw : Pw t.mask
 odd : t.mask % 2 = 1
 bnd : ∀ j ∈ t.place.toList, j ≤ t.mask
 rch : ∀ (i : Nat) (h : Int) (j : Nat), hs[i]? = some h → t.place.toList[i]? = some j → ∃ k, way t.mask h k = j ∧ ∀ c, c < k → way t.mask h c ∈ t.place.toList
theorem Tab.free {t : SetTable} {hs : List Int} (T : Tab t hs) (hl : hs.length ≤ t.mask) (h : Int) :
  ∃ K, K < 10 * SetTable.turns t.mask ∧ way t.mask h K ∉ t.place.toList ∧ ∀ k, k < K → way t.mask h k ∈ t.place.toList := by
 obtain ⟨j, hj, hn⟩ := st_missing t.place.toList (t.mask + 1) (by rw [Array.length_toList, T.siz]; omega)
 obtain ⟨k, hk, e⟩ := a2s T.pw h (Nat.le_of_lt_succ hj)
 obtain ⟨K, a, b, c⟩ := st_least (p := fun k => way t.mask h k ∉ t.place.toList) k (by rw [e]; exact hn)
 exact ⟨K, Nat.lt_of_le_of_lt a hk, b, fun q hq => Classical.not_not.mp (c q hq)⟩
/-- one more -/
theorem Tab.ins {t : SetTable} {hs : List Int} (T : Tab t hs) {h : Int} {K : Nat} (hK : way t.mask h K ∉ t.place.toList) (hb : ∀ k, k < K → way t.mask h k ∈ t.place.toList) {j p : Nat} (ej : way t.mask h K = j) (ep : SetTable.below t.place j = p) :
  (t.put j).2 = p ∧ p ≤ hs.length ∧ Tab (t.put j).1 (hs.take p ++ h :: hs.drop p) ∧ (t.put j).1.mask = t.mask ∧ (t.put j).1.led = t.led ∧ (t.put j).1.plain = t.plain ∧ (t.put j).1.moves = t.moves ∧ (t.put j).1.finger = t.finger ∧ (t.put j).1.fill = hs.length + 1 := by
 have jm : j ≤ t.mask := ej ▸ a7a
 rw [ej] at hK
 have pl : p ≤ t.place.size := ep ▸ (below_cut T.up j).1
 have pl' : p ≤ t.place.toList.length := by rw [Array.length_toList]; exact pl
 have ph : p ≤ hs.length := by rw [← T.siz]; exact pl
 have nw : t.place[p]? ≠ some j := fun e => hK (List.mem_of_getElem? ((Array.getElem?_toList ..).trans e))
 have eq : (t.put j).1.place.toList = t.place.toList.take p ++ j :: t.place.toList.drop p := ep ▸ put_place t j
 have dm := put_dm T.nod j
 have sz : (t.put j).1.place.size = hs.length + 1 := by
  rw [← Array.length_toList, eq, len_ins _ pl', Array.length_toList, T.siz]
 have inn : ∀ {x : Nat}, x ∈ t.place.toList → x ∈ (t.put j).1.place.toList := fun {x} hx => eq ▸ mem_ins.2 (.inr hx)
 refine ⟨ep, ph, ⟨ris_insert T.up (by rw [ep]; exact nw), dm, by rw [len_ins _ ph]; exact sz, T.pw, T.odd, fun x hx => ?_, fun i h' j' a b => ?_⟩, rfl, rfl, rfl, rfl, rfl, ?_⟩
 ·rcases mem_ins.1 (eq ▸ hx) with z | z
  ·rw [z]; exact jm
  ·exact T.bnd x z
 ·rw [tins_get hs ph] at a
  rw [eq, tins_get _ pl'] at b
  show ∃ k, way t.mask h' k = j' ∧ ∀ c, c < k → way t.mask h' c ∈ (t.put j).1.place.toList
  rcases Nat.lt_trichotomy i p with c | c | c
  ·rw [if_pos c] at a b
   obtain ⟨k, e, z⟩ := T.rch i h' j' a b
   exact ⟨k, e, fun q hq => inn (z q hq)⟩
  ·rw [if_neg (by omega), if_pos c] at a b
   cases a; cases b
   exact ⟨K, ej, fun q hq => inn (hb q hq)⟩
  ·rw [if_neg (by omega), if_neg (by omega)] at a b
   obtain ⟨k, e, z⟩ := T.rch (i - 1) h' j' a b
   exact ⟨k, e, fun q hq => inn (z q hq)⟩
 ·unfold SetTable.fill
  rw [sz, dm]; rfl
theorem a7B {m : Nat} (hm : Pw m) (o : Array (Option Nat)) (h : Int) {j : Nat} (hj : j ≤ m) (hf : oAt o j = none) :
  ∃ K, SetTable.layClean.free m o (SetTable.turns m) (SetTable.bits h % (m + 1)) (SetTable.bits h) = some (way m h K) ∧ oAt o (way m h K) = none ∧ ∀ k, k < K → oAt o (way m h k) ≠ none := by
 obtain ⟨n, hn, e⟩ := R9 hm h hj
 have w : way m h (off m (SetTable.bits h % (m + 1)) (SetTable.bits h) n) = j := by unfold way; rw [nth_off, itL_run]; exact e
 obtain ⟨K, a, b, c⟩ := st_least (p := fun k => oAt o (way m h k) = none) _ (show oAt o (way m h (off m (SetTable.bits h % (m + 1)) (SetTable.bits h) n)) = none by rw [w]; exact hf)
 refine ⟨K, free_spec m o (SetTable.turns m) n _ _ K (by unfold SetTable.turns; omega) a (fun k hk => ?_) ?_, b, c⟩
 ·have q := c k hk
  unfold way at q
  cases z : oAt o (nth m (runAt m (SetTable.bits h % (m + 1)) (SetTable.bits h)) k).j with
  | none => exact absurd z q
  | some _ => rfl
 ·unfold way at b
  rw [b]; rfl
/-- the slots of those laid so far -/
structure Laid (m : Nat) (done : List Int) (o : Array (Option Nat)) : Prop where
 siz : o.size = m + 1
 own : ∀ j k, j ≤ m → oAt o j = some k → ∃ h K, done[k]? = some h ∧ way m h K = j ∧ ∀ c, c < K → oAt o (way m h c) ≠ none
 has : ∀ k, k < done.length → ∃ j, j ≤ m ∧ oAt o j = some k
 few : ∃ ps : List Nat, ps.length = done.length ∧ ∀ j, j ≤ m → oAt o j ≠ none → j ∈ ps
theorem Laid.more {m : Nat} (hm : Pw m) {done : List Int} {o : Array (Option Nat)} (W : Laid m done o) (hl : done.length ≤ m) (h : Int) :
  ∃ j, SetTable.layClean.free m o (SetTable.turns m) (SetTable.bits h % (m + 1)) (SetTable.bits h) = some j ∧ Laid m (done ++ [h]) (o.setIfInBounds j (some done.length)) := by
 obtain ⟨ps, lps, hps⟩ := W.few
 obtain ⟨j0, a0, b0⟩ := st_missing ps (m + 1) (by omega)
 have f0 : oAt o j0 = none := by
  cases z : oAt o j0 with
  | none => rfl
  | some k => exact (b0 (hps j0 (Nat.le_of_lt_succ a0) (by rw [z]; simp))).elim
 obtain ⟨K, e1, e2, e3⟩ := a7B hm o h (Nat.le_of_lt_succ a0) f0
 have jm : way m h K ≤ m := a7a
 refine ⟨_, e1, ?_⟩
 generalize ej : way m h K = j at e2 jm ⊢
 have self := oAt_set_self (owner := o) (some done.length) (j := j) (by rw [W.siz]; omega)
 have up : ∀ {i : Nat}, oAt o i ≠ none → oAt (o.setIfInBounds j (some done.length)) i ≠ none := fun {i} hi => by
  by_cases c : i = j
  ·rw [c, self]; simp
  ·rw [oAt_set_ne _ c]; exact hi
 refine ⟨by rw [Array.size_setIfInBounds]; exact W.siz, fun i k hi e => ?_, fun k hk => ?_, j :: ps, by simp [lps], fun i hi e => ?_⟩
 ·by_cases c : i = j
  ·rw [c, self] at e
   cases e
   exact ⟨h, K, by simp, ej.trans c.symm, fun q hq => up (e3 q hq)⟩
  ·rw [oAt_set_ne _ c] at e
   obtain ⟨h', K', a1, a2, a3⟩ := W.own i k hi e
   exact ⟨h', K', by rw [List.getElem?_append_left (List.getElem?_eq_some_iff.mp a1).1]; exact a1, a2, fun q hq => up (a3 q hq)⟩
 ·rw [List.length_append, List.length_singleton] at hk
  by_cases c : k < done.length
  ·obtain ⟨i, hi, e⟩ := W.has k c
   exact ⟨i, hi, by rw [oAt_set_ne _ fun z => by rw [z, e2] at e; cases e]; exact e⟩
  ·exact ⟨j, jm, by rw [self, show k = done.length by omega]⟩
 ·by_cases c : i = j
  ·rw [c]; exact List.mem_cons_self
  ·rw [oAt_set_ne _ c] at e
   exact List.mem_cons_of_mem _ (hps i hi e)
/-- the tables that come, up to 4914 in one -/
def Few (m : Nat) : Prop := m = 7 ∨ m = 31 ∨ m = 127 ∨ m = 511 ∨ m = 2047 ∨ m = 8191
theorem Few.pw {m : Nat} (h : Few m) : Pw m ∧ m % 2 = 1 ∧ m ≤ 8191 := by
 rcases h with rfl | rfl | rfl | rfl | rfl | rfl
 ·exact ⟨⟨3, rfl⟩, rfl, by decide⟩
 ·exact ⟨⟨5, rfl⟩, rfl, by decide⟩
 ·exact ⟨⟨7, rfl⟩, rfl, by decide⟩
 ·exact ⟨⟨9, rfl⟩, rfl, by decide⟩
 ·exact ⟨⟨11, rfl⟩, rfl, by decide⟩
 ·exact ⟨⟨13, rfl⟩, rfl, by decide⟩
end Fq

namespace Fq
open PySem PySem.Spec PyProof.Rows L2

/-- the tuple at a is the key k -/
abbrev Tp (P : Program) (w : World) (h : Heap) (k : NestedKey) (a : Addr) : Prop := (nestedKind P w).is h k a
section
variable {P : Program} {w : World} {A : Around} {E : Value → Shared → Prop} {s : Shared}
theorem Tp.ty {k : NestedKey} {a : Addr} (h : Tp P w s.heap k a) : s.TypeIs (.ref a) "tuple" := (nestedKind_stays (prog := P) (w := w)).tuple h
/-- no class statement's, n levels down -/
def a5o (P : Program) (w : World) (n : Nat) (s : Shared) (v : Value) : Prop := ∀ (A : Around) (E : Value → Shared → Prop) (Q : Bool → Shared → Prop), Q false s → wpAny (model P w) A (ofAClassStatement n v) Q E s
mutual
theorem a8l : ∀ (k : NestedKey) (v : Value) (n : Nat) (s : Shared), NestedIs s.heap k v → k.depth ≤ n → a5o P w n s v
 | .none, _, n, s, x, _ => by cases x; intro A E Q q; cases n <;> exact wpAny_pure q
 | .num i, _, n, s, x, _ => by cases x <;> (intro A E Q q; cases n <;> exact wpAny_pure q)
 | .text y, _, n, s, x, _ => by cases x; intro A E Q q; cases n <;> exact wpAny_pure q
 | .tup ks, _, n, s, x, hn => by
  cases x with
  | @tup b o vs m _ ho hc hd hk =>
   cases n with
   | zero => simp [NestedKey.depth] at hn
   | succ n =>
    have all := a0N ks vs.toList n s hk (by simp only [NestedKey.depth] at hn; omega)
    intro A E Q q
    unfold ofAClassStatement
    refine wpAny_bind (wpAny_typeOf (T := "tuple") ⟨o, ho, hc⟩ ?_)
    dsimp only
    simp only [show (("tuple" : String) == "tuple") = true from rfl, if_true]
    refine wpAny_bind (wpAny_pure ?_)
    simp only [Bool.not_true, Bool.false_eq_true, if_false]
    show wpAny _ _ (seqItems? (.ref b) >>= _) _ _ s
    refine wpAny_bind (wpAny_seqItems ho hd ?_)
    dsimp only
    refine wpAny_bind ?_
    show wpAny _ _ (forIn vs _ _) _ _ s
    rw [← Array.forIn_toList]
    refine wpAny_forIn_list _ (fun l r s2 => r.1 = none ∧ s2 = s ∧ ∀ v ∈ l, a5o P w n s v) _ ?_ ?_ _ _ ⟨rfl, rfl, all⟩
    ·rintro v l r s2 ⟨hr, rfl, ha⟩
     refine wpAny_bind (ha v List.mem_cons_self A E _ ?_)
     simp only [Bool.false_eq_true, if_false]
     exact wpAny_pure ⟨rfl, rfl, fun u hu => ha u (List.mem_cons_of_mem _ hu)⟩
    ·rintro ⟨r1, r2⟩ s2 ⟨hr, rfl, _⟩
     cases hr
     exact wpAny_pure q
theorem a0N : ∀ (ks : List NestedKey) (vs : List Value) (n : Nat) (s : Shared), NestedAll s.heap ks vs → NestedKey.depthAll ks ≤ n → ∀ v ∈ vs, a5o P w n s v
 | [], _, n, s, x, _, v, hv => by cases x; cases hv
 | k :: ks, _, n, s, x, hn, v, hv => by
  simp only [NestedKey.depthAll] at hn
  cases x with
  | cons x1 x2 =>
   rcases List.mem_cons.mp hv with rfl | hv
   ·exact a8l k _ n s x1 (by omega)
   ·exact a0N ks _ n s x2 (by omega) v hv
end
/-- whether its hash is one by value: either way -/
def a1K (P : Program) (w : World) (n : Nat) (s : Shared) (v : Value) : Prop := ∀ (A : Around) (E : Value → Shared → Prop) (Q : Bool → Shared → Prop), (∀ b, Q b s) → wpAny (model P w) A (hashByValue n v) Q E s
mutual
theorem a7H : ∀ (k : NestedKey) (v : Value) (n : Nat) (s : Shared), NestedIs s.heap k v → a1K P w n s v
 | .none, _, n, s, x => by cases x; intro A E Q q; cases n <;> exact wpAny_pure (q _)
 | .num i, _, n, s, x => by cases x <;> (intro A E Q q; cases n <;> exact wpAny_pure (q _))
 | .text y, _, n, s, x => by cases x; intro A E Q q; cases n <;> exact wpAny_pure (q _)
 | .tup ks, _, n, s, x => by
  cases x with
  | @tup b o vs m _ ho hc hd hk =>
   intro A E Q q
   cases n with
   | zero => exact wpAny_pure (q _)
   | succ n =>
    have all := Z9 ks vs.toList n s hk
    unfold hashByValue
    refine wpAny_bind (wpAny_specialOf (T := "tuple") ⟨o, ho, hc⟩ F.slot_tuple_hash.lookup ?_)
    show wpAny _ _ (seqItems? (.ref b) >>= _) _ _ s
    refine wpAny_bind (wpAny_seqItems ho hd ?_)
    refine wpAny_bind ?_
    show wpAny _ _ (forIn vs _ _) _ _ s
    rw [← Array.forIn_toList]
    refine wpAny_forIn_list _ (fun l r s2 => s2 = s ∧ ∀ v ∈ l, a1K P w n s v) _ ?_ ?_ _ _ ⟨rfl, all⟩
    ·rintro v l r s2 ⟨rfl, ha⟩
     refine wpAny_bind (ha v List.mem_cons_self A E _ fun c => ?_)
     cases c with
     | true =>
      simp only [Bool.not_true, Bool.false_eq_true, if_false]
      exact wpAny_pure ⟨rfl, fun u hu => ha u (List.mem_cons_of_mem _ hu)⟩
     | false =>
      simp only [Bool.not_false, if_true]
      exact wpAny_pure (by dsimp only; exact wpAny_pure (q _))
    ·rintro ⟨r1, r2⟩ s2 ⟨rfl, _⟩
     cases r1 with
     | none => exact wpAny_pure (q _)
     | some c => exact wpAny_pure (q _)
theorem Z9 : ∀ (ks : List NestedKey) (vs : List Value) (n : Nat) (s : Shared), NestedAll s.heap ks vs → ∀ v ∈ vs, a1K P w n s v
 | [], _, n, s, x, v, hv => by cases x; cases hv
 | k :: ks, _, n, s, x, v, hv => by
  cases x with
  | cons x1 x2 =>
   rcases List.mem_cons.mp hv with rfl | hv
   ·exact a7H k _ n s x1
   ·exact Z9 ks _ n s x2 v hv
end
def ent (w : World) (L : List (Addr × NestedKey)) : List (Int × Value) := L.map fun p => (p.2.hash w, Value.ref p.1)
structure Q3 (P : Program) (w : World) (h : Heap) (a : Addr) (L : List (Addr × NestedKey)) (es : Array (Int × Value)) (ep : Nat) (t : SetTable) : Prop where
 ob : ∃ o, h.get? a = some o ∧ o.ExactSet ∧ o.data = .set es ep t
 rows : es.toList = ent w L
 tab : Tab t (L.map fun p => p.2.hash w)
 nd : (L.map (·.2)).Nodup
 tup : ∀ p ∈ L, Tp P w h p.2 p.1
 led : w.params.followText "set-order" = true ∨ t.led = true
 room : L.length * 5 < t.mask * 3
 small : Few t.mask
 few : L.length < 4096
variable {a : Addr} {L : List (Addr × NestedKey)} {es : Array (Int × Value)} {ep : Nat} {t : SetTable}
theorem Q3.size {h : Heap} (R : Q3 P w h a L es ep t) : es.size = L.length := by
 rw [← Array.length_toList, R.rows]; simp [ent]
theorem Q3.at_ {h : Heap} (R : Q3 P w h a L es ep t) {i : Nat} {p : Addr × NestedKey} (hp : L[i]? = some p) : es[i]? = some (p.2.hash w, Value.ref p.1) := by
 rw [← Array.getElem?_toList, R.rows]
 simp [ent, hp]
end
end Fq

namespace Fq
open PySem PySem.Spec PyProof.Rows L2
/-- where a search stands at its c-th step -/
abbrev pr (m : Nat) (h : Int) (c : Nat) : SetTable.Probe := nth m (runAt m (SetTable.bits h % (m + 1)) (SetTable.bits h)) c
end Fq

namespace Fq
open PySem PySem.Spec PyProof.Rows L2
section
variable {P : Program} {w : World} {A : Around} {E : Value → Shared → Prop} {s : Shared}
/-- a set just made -/
abbrev newSet (w : World) : Obj := { cls := .type "set", dict := none, data := .set #[] 0 (.fresh 0 0 (!w.params.followText "set-order")) }
/-- what set(xs) needs of its items -/
structure b0a (P : Program) (w : World) (A : Around) (s : Shared) (items : Array Value) (J : Nat → Heap → Prop) : Prop where
 j0 : ∀ h, (∀ b o, s.heap.get? b = some o → h.get? b = some o) → h.get? s.heap.objs.size = some (newSet w) → J 0 h
 mv : ∀ i h h', (∀ b o, b ≤ s.heap.objs.size → h.get? b = some o → h'.get? b = some o) → J i h → J i h'
 step : ∀ i v (A' : Around) (s1 : Shared) (Q : Bool → Shared → Prop), A'.units ≤ A.units + 4 → items[i]? = some v → J i s1.heap → (∀ b h' tk, Heap.SameBut s.heap.objs.size s1.heap h' → s1.toks ≤ tk → J (i + 1) h' → Q b { s1 with heap := h', toks := tk }) → wpAny (model P w) A' (setAdd s.heap.objs.size v) Q (fun _ _ => False) s1
end
end Fq

namespace Fq
open PySem PySem.Spec PyProof.Rows L2 Fx
section
variable {X : Cx} {pins : List (Addr × Obj)} {σ : L2.St} {H F : Hp} {s : Shared}
mutual
theorem key_of (I : Inv X pins σ H s) (le : Le F H) : ∀ (k : NestedKey) (v : V) (u : Value), Rp (Cx.ck X) F v k.data → RelV v u → NestedIs s.heap k u
 | .none, _, _, r, q => by cases r; cases q; exact .none
 | .num i, _, _, r, q => by cases r; obtain ⟨t, rfl⟩ := q; exact .int i t
 | .text x, _, _, r, q => by cases r; obtain ⟨t, rfl⟩ := q; exact .text x t
 | .tup ks, _, _, r, q => by
  unfold NestedKey.data at r
  cases r with
  | tup h _ ra =>
   cases q
   obtain ⟨its, rv, ⟨o, ho, hc, n, hd⟩, _⟩ := I.tuple (Le.sqt le h)
   exact .tup ho hc hd (a1Z I le ks _ _ ra rv)
theorem a1Z (I : Inv X pins σ H s) (le : Le F H) : ∀ (ks : List NestedKey) (vs : List V) (us : List Value), RpA (Cx.ck X) F vs (NestedKey.datas ks) → Vals vs us → NestedAll s.heap ks us
 | [], _, _, r, q => by cases r; cases q; exact .nil
 | k :: ks, _, _, r, q => by
  cases r with
  | cons r1 r2 =>
   cases q with
   | cons q1 q2 => exact .cons (key_of I le k _ _ r1 q1) (a1Z I le ks _ _ r2 q2)
end
/-- at a stands the tuple that is the key k -/
def a8x (K : Ck) (H : Hp) (a : Addr) (k : NestedKey) : Prop := Rp K H (.ref a) k.data ∧ k.depth ≤ 8
theorem a8x.mono {K : Ck} {H H' : Hp} {a : Addr} {k : NestedKey} (h : a8x K H a k) (e : Le H H') : a8x K H' a k := ⟨h.1.mono e, h.2⟩
end
structure b09 (P : Program) (w : World) (h : Heap) (a : Addr) (L : List (Addr × NestedKey)) : Prop where
 ex : ∃ (es : Array (Int × Value)) (ep : Nat) (t : SetTable), (∃ o, h.get? a = some o ∧ o.ExactSet ∧ o.data = .set es ep t) ∧ es.toList = ent w L ∧ Tab t (L.map fun p => p.2.hash w) ∧ (L.map (·.2)).Nodup ∧
  (w.params.followText "set-order" = true ∨ t.led = true) ∧ L.length * 5 < t.mask * 3 ∧ Few t.mask ∧ L.length < 4096
/-- what a set has of the first i things -/
structure Have (ks : List (Addr × NestedKey)) (i : Nat) (L : List (Addr × NestedKey)) : Prop where
 sub : ∀ p ∈ L, p ∈ ks.take i
 all : ∀ p ∈ ks.take i, p.2 ∈ L.map (·.2)
 len : L.length ≤ i
end Fq

namespace Fq
open PySem PySem.Spec PyProof.Rows L2 Fx
end Fq

namespace Fq
open PySem PySem.Spec PyProof.Rows L2 Fx
end Fq

namespace Fq
open PySem L2 Fx
mutual
def a1o : PyData → Option NestedKey
 | .none => some .none
 | .int i => some (.num i)
 | .str x => some (.text x)
 | .tuple ds => (a0w ds).map .tup
 | _ => none
def a0w : List PyData → Option (List NestedKey)
 | [] => some []
 | d :: ds => (a1o d).bind fun k => (a0w ds).map (k :: ·)
end
mutual
theorem Y3 : ∀ (d : PyData) (k : NestedKey), a1o d = some k → k.data = d
 | .none, k, h => by simp only [a1o, Option.some.injEq] at h; subst h; rfl
 | .int i, k, h => by simp only [a1o, Option.some.injEq] at h; subst h; rfl
 | .str x, k, h => by simp only [a1o, Option.some.injEq] at h; subst h; rfl
 | .tuple ds, k, h => by
  simp only [a1o] at h
  cases e : a0w ds with
  | none => rw [e] at h; cases h
  | some ks =>
   rw [e] at h
   cases h
   simp only [NestedKey.data]
   rw [R5 ds ks e]
 | .bool b, k, h => by simp [a1o] at h
 | .list xs, k, h => by simp [a1o] at h
 | .dict ks, k, h => by simp [a1o] at h
theorem R5 : ∀ (ds : List PyData) (ks : List NestedKey), a0w ds = some ks → NestedKey.datas ks = ds
 | [], ks, h => by simp only [a0w, Option.some.injEq] at h; subst h; rfl
 | d :: ds, ks, h => by
  simp only [a0w] at h
  cases e1 : a1o d with
  | none => rw [e1] at h; cases h
  | some k =>
   rw [e1] at h
   cases e2 : a0w ds with
   | none => rw [e2] at h; cases h
   | some r =>
    rw [e2] at h
    cases h
    simp only [NestedKey.datas]
    rw [Y3 d k e1, R5 ds r e2]
end
def a7K : NestedKey → Bool
 | .tup _ => true
 | _ => false
def a5p (k : NestedKey) : Bool := a7K k && decide (k.depth ≤ 8)
end Fq

namespace Fq
open PySem PySem.Spec PyProof.Rows L2 Fx
end Fq

namespace Fx
open PySem L2 PySem.Spec PyProof.Rows

/-- a def with defaults, perhaps -/
structure FunD (K : PySem.W.Frag) (x qual : Str) (st : Stmt) (f : Addr) (fd : FuncData) : Prop where
 ex : ∃ (oc : Value) (od : Option Addr) (dV kV doc pm : Value) (an : Option Addr) (cdv ct : Value) (osl : Array (Option Value)),
  fd = PySem.W.fnOf x qual (defArgs st) (defBody st) (defScope st) dV kV doc pm an cdv ct ∧ K.lookup f = some ⟨oc, od, .func fd, osl⟩ ∧ PySem.W.codeIn K cdv qual = true
structure MethAt (K : PySem.W.Frag) (C : Addr) (m qual : Str) (st : Stmt) (ps : List Str) (f : Addr) (fd : FuncData) : Prop where
 F : FunD K m qual st f fd
 m : Meth K C m f
 b : Binds K fd ps []
structure a9B (K : PySem.W.Frag) (C : Addr) (qual : Str) (st : Stmt) (ps : List Str) (f : Addr) (fd : FuncData) : Prop where
 F : FunD K "__init__" qual st f fd
 M : Mk K C f
 b : Binds K fd ps []
structure a9y (K : PySem.W.Frag) (C : Addr) (m qual : Str) (st : Stmt) (ps : List Str) (p f : Addr) (fd : FuncData) : Prop where
 F : FunD K m qual st f fd
 p : PropOf K C m p f
 b : Binds K fd ps []
end Fx
namespace Fx
open PySem L2
end Fx
namespace Fx
open PySem L2
end Fx

namespace Fx
open PySem L2 PySem.Spec PyProof.Rows

def E0 : XK := fun _ _ _ => False
def nx (neg b : Bool) : Bool := match neg with
 | true => !b
 | false => b
end Fx

namespace Fx
open PySem L2 PySem.Spec PyProof.Rows Fq

structure NkB {β : Type} (n : Nat) (e : β → PyData) (κ : β → NestedKey) : Prop where
 key : ∀ b, a1o (e b) = some (κ b)
 dep : ∀ b, (κ b).depth ≤ n
structure NkK {β : Type} (e : β → PyData) (κ : β → NestedKey) : Prop where
 key : ∀ b, a1o (e b) = some (κ b)
 good : ∀ b, a5p (κ b) = true
section
variable {β : Type} [DecidableEq β] {e : β → PyData} {κ : β → NestedKey}
theorem NkK.data (h : NkK e κ) (b : β) : (κ b).data = e b := Y3 _ _ (h.key b)
theorem NkK.inj (h : NkK e κ) (hi : ∀ a b, e a = e b → a = b) : ∀ a b, κ a = κ b → a = b := fun a b q => hi _ _ (by rw [← h.data, ← h.data, q])
end
end Fx

namespace Fx
open PySem L2 PySem.Spec PyProof.Rows Fq
end Fx

namespace Fq
open PySem PySem.Spec PyProof.Rows L2 Fx
def txt (e : Int × Value) : Str := match e.2 with
 | .str x _ => x
 | _ => Str.empty
def TxE (P : Program) (w : World) (e : Int × Value) : Prop := ∃ x tk, e.2 = Value.str x tk ∧ e.1 = (mixKind P w).hash (.inr x)
section
variable {P : Program} {w : World} {A : Around} {E : Value → Shared → Prop} {s : Shared} {a : Addr} {ws : List Str}
/-- the set of texts at a: so many, in this or another order -/
structure TSet (P : Program) (w : World) (h : Heap) (a : Addr) (ws : List Str) : Prop where
 ex : ∃ (o : Obj) (es : Array (Int × Value)) (ep : Nat) (t : SetTable), h.get? a = some o ∧ o.ExactSet ∧ o.data = .set es ep t ∧ (∀ e ∈ es.toList, TxE P w e) ∧ (es.toList.map txt).Perm ws ∧ ws.Nodup ∧ es.size < scanBound ∧ t.fits es.size = true ∧ Ris t.place.toList ∧ (w.params.followText "set-order" = true ∨ t.led = true)
end
section
variable {X : Cx}
def tv : Value → Str
 | .str x _ => x
 | _ => Str.empty
end
end Fq

namespace Fx
open PySem L2 PySem.Spec PyProof.Rows
end Fx

namespace Fx
open PySem L2
end Fx

namespace Fx
open PySem L2
end Fx

namespace Fx
open PySem L2 PySem.Spec PyProof.Rows
end Fx

namespace Fx
open PySem L2
end Fx

namespace Fx
open PySem L2
end Fx

noncomputable section
namespace Fx
open PySem L2
end Fx

namespace Fx
open PySem L2
end Fx

namespace Fx
open PySem PySem.Spec PyProof.Rows L2
end Fx

namespace Fx
open PySem L2
end Fx

namespace Fx
open PySem L2
end Fx

namespace Fx
open PySem L2 PySem.Spec PyProof.Rows
end Fx

namespace Fx
open PySem L2 PySem.Spec PyProof.Rows


end Fx

namespace Fx
open PySem L2 PySem.Spec PyProof.Rows LamX

/-- what the making of a lambda changes: the table of codes tells one more, or nothing -/
def a6q (P : Addr) (q : Str) (H H1 : Hp) (c' : Addr) : Prop := H1 c' = some (CodeO c' q) ∧ ∃ ps, H P = some (.tbl ps) ∧
 (H1 = H ∨ (H c' = none ∧ ∃ ps' : Array Value, TriplesOk ps'.toList ∧ (∀ (pos : Pos) (cv : Value), codeAmong pos ps'.toList = some cv → codeAmong pos ps.toList = some cv ∨ cv = .ref c') ∧ H1 = upd (upd H P (.tbl ps')) c' (CodeO c' q)))
end Fx

namespace Fx
open PySem L2 PySem.Spec PyProof.Rows LamX

theorem a6q.ext {q : SQ} {F H H1 : Hp} {P c' : Addr} {n : Str} {g : Gs} (h : a6q P n H H1 c') (sub : Sub F H) (tb : Tb (u0 q) F H) (j : (u0 q).J g H) (mF : ∀ a, (u0 q).M a → F a = none) (hm : (P, n) ∈ q.2) (hu : ∀ p ∈ q.2, p.1 = P → p.2 = n) :
  ∃ F1, Ext (u0 q) F H F1 H1 ∧ (u0 q).J g H1 ∧ (H c' = none → F1 c' = some (CodeO c' n)) := by
 obtain ⟨h1, ps, hP, rfl | ⟨nc, ps', tri, tell, rfl⟩⟩ := h
 ·exact ⟨F, Ext.refl sub, j, fun z => by rw [h1] at z; cases z⟩
 ·have eT : (u0 q).T = q.2 := by obtain ⟨o, T⟩ := q; cases o <;> rfl
  have mP : (u0 q).M P := (u0 q).tm (P, n) (by rw [eT]; exact hm)
  have nP : P ≠ c' := ne_of_none hP nc
  have fP : F P = none := mF P mP
  have old : ∀ b o, b ≠ P → H b = some o → upd (upd H P (.tbl ps')) c' (CodeO c' n) b = some o := fun b o ne e => by rw [upd_ne (ne_of_none e nc), upd_ne ne]; exact e
  refine ⟨upd F c' (CodeO c' n), ⟨fun a o e m => old a o (fun z => m (z ▸ mP)) e, fun a e => upd_ne fun z => e (by rw [z]; exact nc), fun a o e => by rw [upd_ne (ne_of_none (sub _ _ e) nc)]; exact e, fun a o e => ?_, fun t p hp => ?_⟩, ?_, fun _ => upd_same⟩
  ·by_cases z : a = c'
   ·subst z; rw [upd_same] at e ⊢; exact e
   ·rw [upd_ne z] at e
    exact old a o (fun z => by rw [z, fP] at e; cases e) (sub _ _ e)
  ·obtain ⟨qs, a1, a2, a3⟩ := t p hp
   by_cases z : p.1 = P
   ·have en : p.2 = n := hu p (by rw [← eT]; exact hp) z
    rw [z, hP] at a1
    cases a1
    refine ⟨ps', by rw [z, upd_ne nP, upd_same], tri, fun pos cv hc => ?_⟩
    rcases tell pos cv hc with k | rfl
    ·obtain ⟨c, b1, b2⟩ := a3 pos cv k
     exact ⟨c, b1, by rw [upd_ne (ne_of_none (sub _ _ b2) nc)]; exact b2⟩
    ·exact ⟨c', rfl, by rw [en, upd_same]⟩
   ·refine ⟨qs, old _ _ z a1, a2, fun pos cv hc => ?_⟩
    obtain ⟨c, b1, b2⟩ := a3 pos cv hc
    exact ⟨c, b1, by rw [upd_ne (ne_of_none (sub _ _ b2) nc)]; exact b2⟩
  ·obtain ⟨o, T⟩ := q
   have some_ : ∀ a, H a ≠ none → upd (upd H P (.tbl ps')) c' (CodeO c' n) a ≠ none := fun a e => M7 (M7 e)
   cases o with
   | none => exact ⟨j.1, fun p hp => some_ _ (j.2.1 p hp), j.2.2⟩
   | some p =>
    obtain ⟨d, l, k⟩ := p
    have L := j.1.2
    have no : ∀ {a : Addr} {u : HO}, H a = some u → (∀ q, u ≠ .tbl q) → a ≠ P := fun {a u} e n z => by rw [z, hP] at e; cases e; exact n _ rfl
    exact ⟨⟨j.1.1, L.dl, L.dc, L.lc, old _ _ (no L.hd fun q z => by cases z) L.hd, old _ _ (no L.hl fun q z => by cases z) L.hl, old _ _ (no L.hc fun q z => by cases z) L.hc⟩, fun p hp => some_ _ (j.2.1 p hp), j.2.2⟩

def a7i (X : Cx) (Ng : List Str) (x : Str) (sg : Scope) (g : Addr) (cdg : Value) (bg : List Stmt) (a : Str) (q : Str) (TT : (XK → Hp → VK → Prop) → Hp → VK → Prop) : Prop :=
  ∀ (f c' : Addr) (s : Shared) (H : Hp) (Q : VK) (tl : XK → Hp → VK → Prop),
    (∀ (W : WX) (pn : List (Addr × Obj)) (xe : Value → Shared → Prop) (p1 p2 : Pos), Takes ((cxOf C8.CX0 X.prog X.w X.K X.mg X.base Ng x sg g cdg X.A X.stack s H C8.E0).tr pn xe) W →
      PE ((cxOf C8.CX0 X.prog X.w X.K X.mg X.base Ng x sg g cdg X.A X.stack s H C8.E0).tr pn xe) (.Call (.Name a p1) [] [] p2) (fun σZ HZ Q => σZ[0]? = some (some (.ref f)) ∧ HZ c' = some (CodeO c' q) ∧ tl (fun cls d H' => W cls d σZ H') HZ Q)) →
    H c' = some (CodeO c' q) → TT tl H Q →
    ∃ t, PSs (cxOf C8.CX0 X.prog X.w X.K X.mg X.base Ng x sg g cdg X.A X.stack s H C8.E0).nox bg t ∧ t { nx := fun _ H' => Q .non H', rt := Q } (L2.start Ng [.ref f]) H
noncomputable section
open Classical
end
end Fx

namespace Fx
open PySem L2 PySem.Spec PyProof.Rows LamX

structure a3K (K : PySem.W.Frag) (C : Addr) : Prop where
 cl : (PySem.W.clsIn K C).isSome = true
 hg : PySem.W.findIn K (.ref C) "__getattribute__" = some (some (.builtin "BaseException.__getattribute__"))
 hk : PySem.W.findIn K (.ref C) "__getattr__" = some none
 hs : PySem.W.subIn K (.ref C) (.type "BaseException") = some true
 hd : PySem.W.hasDictIn K C = true
 ha : PySem.W.findIn K (.ref C) "__class__" = some (some (.builtin "object.__class__"))
 hn : PySem.W.specialIn K (.builtin "object.__class__") "__get__" = some (some (.builtin "getset_descriptor.__get__"))
 ht : PySem.W.takesIn K (.builtin "object.__class__") = some true
 hm : PySem.W.mroIn K C (.type "object") = some true
 ty : PySem.W.typeIn K (.ref C) = some (.type "type")
/-- what is known of the classes es, all of them right under PlanError -/
structure b05 (K : Ck) (es : List Str) : Prop where
 one : ∀ nm ∈ es, ∀ C, K.mg nm = some (.ref C) → a3K K.K C
 two : ∀ nm ∈ es, ∀ n2 ∈ es, ∀ C C2, K.mg nm = some (.ref C) → K.mg n2 = some (.ref C2) → PySem.W.kitOne K.K (.ref C) (.ref C2) = some (decide (nm = n2))
 val : ∀ nm ∈ es, ∀ C, K.mg nm = some (.ref C) → PySem.W.kitOne K.K (.ref C) (.type "ValueError") = some true
 cat : ∀ nm ∈ es, ∀ C, K.mg nm = some (.ref C) → ∀ D, K.mg "PlanError" = some (.ref D) → PySem.W.exmOne K.K (.ref C) (.ref D) = some true
 non : ∀ nm ∈ es, ∀ C, K.mg nm = some (.ref C) → PySem.W.kitOne K.K (.type "NoneType") (.ref C) = some false
/-- an exception that was kept, as data -/
def a2v : PyData → Option (Str × List (PyData × PyData))
 | .dict ((.list [.none], .str nm) :: ks) => some (nm, ks)
 | _ => none
@[simp] theorem Q5 (nm : Str) (fs : List (Str × PyData)) : a2v (a0S nm fs) = some (nm, I7 fs) := rfl
/-- what is raised, as it is kept -/
def a8O : PyData → PyData
 | .dict ((.list [], k) :: ks) => .dict ((.list [.none], k) :: ks)
 | x => x
@[simp] theorem a7k (nm : Str) (fs : List (Str × PyData)) : a8O (a1l nm fs) = a0S nm fs := rfl
end Fx

namespace Fx
open PySem L2 PySem.Spec PyProof.Rows LamX

/-- what a def that calls its lambda does, where something of the heap is known -/
def a7q (P : Program) (w : World) (K : PySem.W.Frag) (mg : Str → Option Value) (bs : Heap) (A : Around) (stk : List Env) (Ng : List Str) (x : Str) (sg : Scope) (g : Addr) (cdg : Value) (bg : List Stmt) (a : Str) (TT : (XK → Hp → VK → Prop) → Hp → VK → Prop) : Prop :=
  ∀ (f : Addr) (φ : Hp → Prop) (s : Shared) (H : Hp) (Q : VK) (tl : XK → Hp → VK → Prop),
    (∀ (W : WX) (pn : List (Addr × Obj)) (xe : Value → Shared → Prop) (p1 p2 : Pos), Takes ((cxOf C8.CX0 P w K mg bs Ng x sg g cdg A stk s H C8.E0).tr pn xe) W →
      PE ((cxOf C8.CX0 P w K mg bs Ng x sg g cdg A stk s H C8.E0).tr pn xe) (.Call (.Name a p1) [] [] p2) (fun σZ HZ Q => σZ[0]? = some (some (.ref f)) ∧ φ HZ ∧ tl (fun cls d H' => W cls d σZ H') HZ Q)) →
    φ H → TT tl H Q →
    ∃ t, PSs (cxOf C8.CX0 P w K mg bs Ng x sg g cdg A stk s H C8.E0).nox bg t ∧ t { nx := fun _ H' => Q .non H', rt := Q } (L2.start Ng [.ref f]) H
abbrev a4Y (X : Cx) (Ng : List Str) (x : Str) (sg : Scope) (g : Addr) (cdg : Value) (bg : List Stmt) (a : Str) (TT : (XK → Hp → VK → Prop) → Hp → VK → Prop) : Prop := a7q X.prog X.w X.K X.mg X.base X.A X.stack Ng x sg g cdg bg a TT
theorem a4Y.w {X : Cx} {Ng : List Str} {x : Str} {sg : Scope} {g : Addr} {cdg : Value} {bg : List Stmt} {a q : Str} {TT : (XK → Hp → VK → Prop) → Hp → VK → Prop} (h : a4Y X Ng x sg g cdg bg a TT) : a7i X Ng x sg g cdg bg a q TT :=
 fun f c' s H Q tl act hc ht => h f (fun HZ => HZ c' = some (CodeO c' q)) s H Q tl act hc ht
end Fx

namespace Fx
open PySem L2 PySem.Spec PyProof.Rows

end Fx

namespace Fx
open PySem L2 PySem.Spec PyProof.Rows
end Fx

namespace Fx
open PySem L2 PySem.Spec PyProof.Rows

/-- an exception, or none: its class's name, its fields -/
abbrev ErT := Option (Str × List (Str × PyData))
noncomputable section
open Classical
end
section
variable {ρ : List SD} {g : Gs} {fe : EF}
/-- isinstance of what was kept -/
def a9z (nm : Str) (o : ErT) : Bool := match o with
 | none => false
 | some p => decide (p.1 = nm)
@[simp] theorem a6D {nm : Str} : a9z nm none = false := rfl
@[simp] theorem a6z {nm : Str} {p : Str × List (Str × PyData)} : a9z nm (some p) = decide (p.1 = nm) := rfl
end
mutual
def cln : PyData → Bool
 | .str s => decide (s.length ≤ sizeLine)
 | .list xs => a9n xs
 | .tuple xs => a9n xs
 | .dict ks => !isE (.dict ks)
 | _ => true
def a9n : List PyData → Bool
 | [] => true
 | x :: r => cln x && a9n r
end
end Fx

namespace Fx
open PySem L2 PySem.Spec PyProof.Rows
inductive SmPs (K : Ck) : List (TE × TE) → List (EF × EF) → Prop
 | nil : SmPs K [] []
 | cons {tk tv : TE} {fk fv : EF} {ts : List (TE × TE)} {fs : List (EF × EF)} : Sm K W0 tk fk → Sm K W0 tv fv → SmPs K ts fs → SmPs K ((tk, tv) :: ts) ((fk, fv) :: fs)
end Fx

namespace Fx
open PySem L2 PySem.Spec PyProof.Rows

/-- what is known of such a class -/
structure a9d (P : Program) (K : PySem.W.Frag) (mg : Str → Option Value) (C fI cda cc : Addr) (f : Str) : Prop where
 T : OexC K C
 iC : PySem.W.findIn K (.ref C) "__init__" = some (some (.ref fI))
 tI : PySem.W.typeIn K (.ref fI) = some (.type "function")
 cell : ∃ cl cld csl, K.lookup cc = some ⟨cl, cld, .cell (some (.ref C)), csl⟩
 code : ∃ ccl cdd vs ccs file tf, K.lookup cda = some ⟨ccl, cdd, .fields vs, ccs⟩ ∧ vs[2]? = some (.str file tf) ∧ ((P.main.file : Str) == file) = true
 sup : PySem.W.ks_superIn K C C "__init__" = some (some (.builtin "ValueError.__init__"))
 subB : PySem.W.subIn K (.ref C) (.type "ValueError") = some true
 subC : PySem.W.mroIn K C (.ref C) = some true
 opq : PySem.W.nsIn K cStatics "thirdparty.any" = some none
 sN : mg "super" = none
 top : (P.main.scope.names.lookup ("super" : Str)).isSome = false
 no : PySem.W.findIn K (.ref C) f = some none
/-- the names of its __init__ -/
structure a8p (x : Str) (sc : Scope) : Prop where
 kind : sc.kind = .function
 co : sc.isCoroutine = false
 gen : sc.isGenerator = false
 cellN : ∀ y ∈ sc.names, y.2 ≠ .cell
 free : ∀ y ∈ sc.names, y.2 = .free → y.1 = "__class__"
 sup : sc.names.lookup ("super" : Str) = some .globalImplicit
 cls : sc.names.lookup ("__class__" : Str) = some .free
 slf : sc.names.lookup ("self" : Str) = some .local
 arg : sc.names.lookup x = some .local
 ne : x ≠ "self"
end Fx

namespace Fx
open PySem L2 PySem.Spec PyProof.Rows

def a8j (K : PySem.W.Frag) (C : Addr) : Bool := match K.lookup C with
 | some ⟨.type n, _, .cls cd, sl⟩ => decide (n = "type") && (match cd.mro, sl.toList with
  | .ref C' :: bm, [_, _, _, _, some (.builtin n), _] => decide (C' = C) && (decide (n = "ValueError.__new__") && (!cd.hasDel && (cd.hasDict && PySem.HandSPX.refsVE bm)))
  | _, _ => false)
 | _ => false
def a5L (K : PySem.W.Frag) (C fI : Addr) : Bool := match K.lookup fI with
 | some ⟨_, _, .func fd, _⟩ => (match fd.closure, fd.code with
  | [(_, cc)], .ref cda => (match K.lookup cc with
   | some ⟨_, _, .cell (some (.ref D)), _⟩ => decide (D = C)
   | _ => false) && (match K.lookup cda with
   | some ⟨_, _, .fields vs, _⟩ => (match (vs[2]? : Option Value) with
    | some (.str file _) => decide (file = "/claim/cut.py")
    | _ => false)
   | _ => false)
  | _, _ => false)
 | _ => false
def a1p (K : PySem.W.Frag) (C fI : Addr) (f : Str) : Bool :=
 a8j K C && (a5L K C fI && (He.eqO (PySem.W.findIn K (.ref C) "__setattr__") (some (some (.builtin "object.__setattr__"))) && (decide (PySem.W.subIn K (.ref C) (.type "BaseException") = some true) && (decide (PySem.W.typeIn K (.ref C) = some (.type "type")) &&
 (PySem.W.keepIn K (.ref C) && (He.eqO (PySem.W.ks_superIn K C C "__init__") (some (some (.builtin "ValueError.__init__"))) && (decide (PySem.W.subIn K (.ref C) (.type "ValueError") = some true) && (decide (PySem.W.mroIn K C (.ref C) = some true) &&
 (He.eqO (PySem.W.nsIn K cStatics "thirdparty.any") (some none) && (He.eqO (PySem.W.nsIn K mainGlobals "super") (some none) && (He.eqO (PySem.W.findIn K (.ref C) f) (some none) && decide (PySem.W.typeIn K (.ref fI) = some (.type "function")))))))))))))
end Fx

namespace Fx
open PySem L2 PySem.Spec PyProof.Rows
end Fx

namespace Fx
open PySem L2 PySem.Spec PyProof.Rows
end Fx

namespace Fx
open PySem L2 PySem.Spec PyProof.Rows
/-- a function, as data -/
def a9V : PyData → Option Str
 | .dict [(.list [.none, .none], .str nm)] => some nm
 | _ => none
@[simp] theorem a8H (nm : Str) : a9V (fnD nm) = some nm := rfl
structure b08 (P : Program) (w : World) (K : PySem.W.Frag) (mg : Str → Option Value) (base : Heap) (j : Nat) (f : Addr) (sp : Sp) : Prop where
 ex : ∃ k fd ps, k ≤ j ∧ FnG P w K mg base k f fd ps sp ∧ PySem.W.keepIn K (.ref f) = true ∧ Binds K fd ps []
end Fx

namespace Fx
open PySem L2 PySem.Spec PyProof.Rows
end Fx

namespace Fx
open PySem L2 PySem.Spec PyProof.Rows
end Fx
namespace Fx
open PySem L2 PySem.Spec PyProof.Rows
end Fx

namespace Fx
open PySem PySem.Spec PyProof.Rows L2 Fq
end Fx

namespace Fq
open PySem PySem.Spec PyProof.Rows L2 Fx
end Fq

namespace Fq
open PySem PySem.Spec PyProof.Rows L2 Fx
section
variable {P : Program} {w : World} {A : Around} {E : Value → Shared → Prop} {s : Shared} {a o : Addr} {ws ws2 : List Str}
theorem TSet.nd {h : Heap} (R : TSet P w h a ws) : ws.Nodup := by
 obtain ⟨ob, rows, epo, tab, g0, gx, gd, gg, gp, gn, r⟩ := R.ex
 exact gn
end
end Fq

namespace Fq
open PySem PySem.Spec PyProof.Rows L2 Fx
end Fq

namespace Fq
open PySem PySem.Spec PyProof.Rows L2 Fx
section
variable {P : Program} {w : World} {A : Around} {E : Value → Shared → Prop} {s : Shared} {a o : Addr} {ws ws2 : List Str}
theorem TSet.ty (R : TSet P w s.heap a ws) : s.TypeIs (.ref a) "set" := by
 obtain ⟨ob, rows, epo, tab, g0, gx, _⟩ := R.ex
 exact ⟨ob, g0, gx.1⟩
end
end Fq
namespace Fx
open PySem
end Fx

namespace Fx
open PySem L2 PySem.Spec PyProof.Rows
/-- a def's law, by the state at the call -/
structure FnS (P : Program) (w : World) (K : PySem.W.Frag) (mg : Str → Option Value) (bs : Heap) (k : Nat) (f : Addr) (fd : FuncData) (ps : List Str) (sp : Shared → Sp) : Prop where
 ln : ∀ s vs H Q E, sp s vs H Q E → vs.length = ps.length
 go : ∀ (A : Around) (fr : List Env) (s : Shared) (H : Hp) (args : Args) (us : List Value) (vs : List V) (Q : VK) (E : XK), A.guards = some [] → Room k A → Env0 P w K mg bs A fr s H → BindsTo s fd args (ps.zip us) → Vals vs us → sp s vs H Q E →
  codeAny (model P w) A (.call (.ref f) args) (CR (L2.CX P w) fr P w H s Q E) s
end Fx

namespace Fx
open PySem L2 PySem.Spec PyProof.Rows LamX
/-- a lambda: what its object is, and its body's reading in the def's own state -/
structure WD where
 o : Addr → Addr → Heap → Prop
 t : XK → TE
noncomputable section
open Classical
end
end Fx

namespace Fx
open PySem L2
section
variable {γ : Type} {ρ : List SD} {g : Gs} {h : EFs} {fe : EF} {P : γ → Out → Prop}
def p2 {α γ : Type} (K : α → α → Gs → R γ) (xs : List α) (g : Gs) : R γ := match xs with
 | [a, b] => K a b g
 | _ => .bad
def p3 {α γ : Type} (K : α → α → α → Gs → R γ) (xs : List α) (g : Gs) : R γ := match xs with
 | [a, b, c] => K a b c g
 | _ => .bad
end
end Fx

namespace Fx
open PySem L2
end Fx

noncomputable section
namespace Fx
open PySem L2 RZ

/-- a def under another name than its own -/
structure a9s (K : PySem.W.Frag) (mg : Str → Option Value) (name code : Str) (st : Stmt) (ps : List Str) (f : Addr) (fd : FuncData) : Prop where
 F : Fun K code code st f fd
 g : mg name = some (.ref f)
 b : Binds K fd ps []
/-- a plain def as the head tells it -/
def QF (K : PySem.W.Frag) (mg : Str → Option Value) (nm code : Str) (st : Stmt) (f : Addr) (fd : FuncData) : Prop := mg nm = some (.ref f) ∧ Fun K code code st f fd
section
variable {K : PySem.W.Frag} {mg : Str → Option Value} {nm code : Str} {st : Stmt} {f : Addr} {fd : FuncData} {ps : List Str}
theorem QF.d (q : QF K mg nm nm st f fd) (h : ∀ (kV doc pm : Value) (an : Option Addr) (cdv ct : Value) (us : List Value), us.length = ps.length → bindArgs (PySem.W.fnOf nm nm (defArgs st) (defBody st) (defScope st) .none kV doc pm an cdv ct) ⟨us, []⟩ = pure (ps.zip us)) : J8 K mg nm st ps f fd := ⟨q.2, q.1, q.2.binds h⟩
end

end Fx

namespace Fx
open PySem L2 PySem.Spec PyProof.Rows
instance decRP : DecidableEq (Str × Int × Int) := inferInstance
instance decRS : DecidableEq (List (Str × Int × Int)) := inferInstance
instance decRR : DecidableEq (List (Str × Int × Int) × List (Str × Int × Int)) := inferInstance
instance decRRs : DecidableEq (List (List (Str × Int × Int) × List (Str × Int × Int))) := inferInstance
end Fx

namespace Fx
open PySem L2 PySem.Spec PyProof.Rows LamX
noncomputable section
open Classical
end
end Fx

namespace Fx
open PySem L2 RZ PySem.Spec PyProof.Rows
def valT (kvs : TKV) (k : List Key) : Option V := (kvs.find? fun p => decide (p.1 = k)).map (·.2.2)
def putT (kvs : TKV) (k : List Key) (b : Addr) (v : V) : TKV := if (kvs.any fun p => decide (p.1 = k)) = true then kvs.map (fun p => if p.1 = k then (p.1, p.2.1, v) else p) else kvs ++ [(k, b, v)]
def XT (kvs : TKV) (xs : List (List Key × Addr × Value)) : Prop := Paired (fun (p : List Key × Addr × V) (q : List Key × Addr × Value) => p.1 = q.1 ∧ p.2.1 = q.2.1 ∧ RelV p.2.2 q.2.2) kvs xs
theorem XT.val {kvs : TKV} {xs : List (List Key × Addr × Value)} (r : XT kvs xs) (k : List Key) : RelO (valT kvs k) ((atKey xs k).map (·.2)) := by
 induction r with
 | nil => exact True.intro
 | @cons p q ps qs h t ih =>
  obtain ⟨h1, _, h2⟩ := h
  by_cases e : p.1 = k
  ·have e' : q.1 = k := h1.symm.trans e
   have b : atKey (q :: qs) k = some q.2 := by simp [atKey, List.find?_cons, e']
   have a : valT (p :: ps) k = some p.2.2 := by simp [valT, List.find?_cons, e]
   rw [a, b]; exact h2
  ·have e' : ¬ q.1 = k := fun z => e (h1.trans z)
   have b : atKey (q :: qs) k = atKey qs k := by simp [atKey, List.find?_cons, e']
   have a : valT (p :: ps) k = valT ps k := by simp [valT, List.find?_cons, e]
   rw [a, b]; exact ih
theorem XT.repl {kvs : TKV} {xs : List (List Key × Addr × Value)} (r : XT kvs xs) (k : List Key) {y : V} {u : Value} (ry : RelV y u) : XT (kvs.map fun p => if p.1 = k then (p.1, p.2.1, y) else p) (xs.map (PySem.putAt k u)) := by
 induction r with
 | nil => exact .nil
 | @cons p q ps qs h t ih =>
  obtain ⟨h1, h2, h3⟩ := h
  rw [List.map_cons, List.map_cons]
  refine .cons ?_ ih
  by_cases e : p.1 = k
  ·have e' : q.1 = k := h1.symm.trans e
   rw [if_pos e]
   unfold PySem.putAt
   rw [if_pos e']
   exact ⟨h1, h2, ry⟩
  ·have e' : ¬ q.1 = k := fun z => e (h1.trans z)
   rw [if_neg e]
   unfold PySem.putAt
   rw [if_neg e']
   exact ⟨h1, h2, h3⟩
theorem a3t (kvs : TKV) (k : List Key) : (kvs.any fun p => decide (p.1 = k)) = (valT kvs k).isSome := by
 unfold valT
 induction kvs with
 | nil => rfl
 | cons p ps ih =>
  rw [List.any_cons, List.find?_cons]
  by_cases e : p.1 = k
  ·simp [e]
  ·simp [e, ih]
theorem XT.put {kvs : TKV} {xs : List (List Key × Addr × Value)} (r : XT kvs xs) (k : List Key) (b : Addr) {y : V} {u : Value} (ry : RelV y u) : XT (putT kvs k b y) (PySem.storedH xs k b u) := by
 have e : (kvs.any fun p => decide (p.1 = k)) = (atKey xs k).isSome := by
  rw [a3t, (r.val k).isSome_eq, Option.isSome_map]
 unfold putT PySem.storedH
 rw [e]
 by_cases q : (atKey xs k).isSome = true
 ·rw [if_pos q, if_pos q]; exact r.repl k ry
 ·rw [if_neg q, if_neg q]; exact Paired.snoc r ⟨rfl, rfl, ry⟩
end Fx

namespace Fx
open PySem L2 RZ PySem.Spec PyProof.Rows
end Fx

namespace Fx
open PySem L2 RZ PySem.Spec PyProof.Rows
/-- the entries of a dict with tuple keys -/
def b00 : PyData → Option (List (PyData × PyData))
 | .dict ((.list [.none, .none, .none], .none) :: ks) => some ks
 | _ => none
@[simp] theorem a8v (ks : List (PyData × PyData)) : b00 (a4u ks) = some ks := rfl
section
variable {K : Ck} {W : WX} {S : Sta} {B F0 F H : Hp} {ρ : List SD} {σ : L2.St} {g : Gs}
theorem RpT.get : ∀ {kvs : TKV} {ks : List (PyData × PyData)} {i : Nat} {p : PyData × PyData}, RpT K F kvs ks → ks[i]? = some p → ∃ k b v, kvs[i]? = some (k, b, v) ∧ Rp K F (.ref b) p.1 ∧ Rp K F v p.2
 | _, _, _, _, .nil, e => by simp at e
 | _, _, 0, _, .cons q r _, e => by simp at e; subst e; exact ⟨_, _, _, rfl, q, r⟩
 | _, _, i + 1, p, .cons _ _ t, e => by
  obtain ⟨k, b, v, h⟩ := RpT.get (i := i) (p := p) t (by simpa using e)
  exact ⟨k, b, v, by simpa using h⟩
end
end Fx

namespace Fx
open PySem L2
/-- a kind of keys that are tuples -/
structure a9L {α : Type} (e : α → PyData) (k : α → List Key) : Prop where
 kt : ∀ a, e a = .tuple ((k a).map keyD)
 i : ∀ a b, k a = k b → a = b
section
variable {α β γ : Type} {e : α → PyData} {e' : β → PyData} {ρ : List SD} {g : Gs} {f fb fa fv : EF}
variable {k : α → List Key}
variable [DecidableEq α]
theorem a9L.eq (h : a9L e k) (a b : α) : decide (a0i (e a) = some (.t (k b))) = decide (a = b) := by
 rw [h.kt, a40]
 by_cases c : a = b
 ·subst c; simp
 ·have : ¬ (some (DK.t (k a)) = some (DK.t (k b))) := fun z => c (h.i a b (DK.t.inj (Option.some.inj z)))
  rw [decide_eq_false c, decide_eq_false this]
end
end Fx

namespace Fx
open PySem L2 PySem.Spec PyProof.Rows
end Fx

namespace PySem.HandSPX
open PySem PySem.Spec PyProof.Rows Builtin Builtin.ObjectAttr
end PySem.HandSPX
namespace Fx
open PySem L2 PySem.Spec PyProof.Rows
open PySem.HandSPX
end Fx

namespace Fx
open PySem L2 PySem.Spec PyProof.Rows LamX
def e9 (n n2 : Str) : Bool := decide (n = n2) || decide (n2 = "PlanError")
/-- what is known of the classes es: PlanError may be one, the others stand right under it -/
structure a3A (K : Ck) (es : List Str) : Prop where
 one : ∀ nm ∈ es, ∀ C, K.mg nm = some (.ref C) → a3K K.K C
 two : ∀ nm ∈ es, ∀ n2 ∈ es, ∀ C C2, K.mg nm = some (.ref C) → K.mg n2 = some (.ref C2) → PySem.W.kitOne K.K (.ref C) (.ref C2) = some (e9 nm n2)
 val : ∀ nm ∈ es, ∀ C, K.mg nm = some (.ref C) → PySem.W.kitOne K.K (.ref C) (.type "ValueError") = some true
end Fx

noncomputable section
namespace Hd
open PySem PySem.Spec PyProof.Rows L2 Fx
def a72 {α : Type} : PySem.W.Frag → (PySem.W.Frag → α) → α
 | [], k => k []
 | (a, o) :: r, k => HandSHeadRun.frNat a fun a => a72 r fun r => k ((a, o) :: r)
theorem a0n {α : Type} : ∀ (K : PySem.W.Frag) (k : PySem.W.Frag → α), a72 K k = k K
 | [], k => rfl
 | (a, o) :: r, k => by
  show HandSHeadRun.frNat a (fun a => a72 r fun r => k ((a, o) :: r)) = _
  rw [HandSHeadRun.frNat_eq, a0n r]
def a3W {α : Type} : List Addr → (List Addr → α) → α
 | [], k => k []
 | a :: r, k => HandSHeadRun.frNat a fun a => a3W r fun r => k (a :: r)
theorem a2u {α : Type} : ∀ (as : List Addr) (k : List Addr → α), a3W as k = k as
 | [], k => rfl
 | a :: r, k => by
  show HandSHeadRun.frNat a (fun a => a3W r fun r => k (a :: r)) = _
  rw [HandSHeadRun.frNat_eq, a2u r]
/-- what the objects at these addresses name -/
def stg (g : Addr → Option Obj) (as : List Addr) : List Addr := as.flatMap fun a => match g a with
 | some o => He.refsD o
 | none => []
/-- the objects of these names, what they name, and so on -/
def asX (g : Addr → Option Obj) (xs : List Str) : List Addr :=
 a3W (xs.map (He.ga (He.frG g [mainGlobals]))) fun a0 => a3W (stg g a0) fun a1 => a3W (stg g a1) fun a2 => a3W (stg g a2) fun a3 => a3W (stg g a3) fun a4 => mainGlobals :: (PySem.cStatics :: (a0 ++ (a1 ++ (a2 ++ (a3 ++ a4)))))
structure DX where
 kd : Nat
 cls : Str
 nm : Str
 qual : Str
 params : Arguments
 body : List Stmt
 scope : Scope
 dfl : Nat
def pFn (K : PySem.W.Frag) (p : Addr) : Addr := match PySem.W.recIn K p "property" with
 | some (.ref f :: _) => f
 | _ => 0
def a8S (K : PySem.W.Frag) (p : Addr) : List Value := match PySem.W.recIn K p "property" with
 | some (_ :: r) => r
 | _ => []
def DX.st (K : PySem.W.Frag) (d : DX) : Addr := match d.kd with
 | 0 => He.ga K d.nm
 | 5 => He.ga K d.cls
 | _ => He.ma K (He.ga K d.cls) d.nm
def DX.ad (K : PySem.W.Frag) (d : DX) : Addr := match d.kd with
 | 3 => pFn K (d.st K)
 | _ => d.st K
def a00 (K : PySem.W.Frag) (v : Value) : Nat → Bool
 | 0 => (match v with
  | .none => true
  | _ => false)
 | n + 1 => (match v with
  | .ref T => (match K.lookup T with
   | some ⟨_, _, .seq its _, _⟩ => its.size.beq (n + 1)
   | _ => false)
  | _ => false)
def DX.where_ (K : PySem.W.Frag) (d : DX) : Bool := match d.kd with
 | 0 => He.eqO (PySem.W.nsIn K mainGlobals d.nm) (some (some (.ref (d.ad K)))) && PySem.W.keepIn K (.ref (d.ad K))
 | 5 => He.eqO (PySem.W.nsIn K mainGlobals d.cls) (some (some (.ref (d.ad K)))) && PySem.W.keepIn K (.ref (d.ad K))
 | 1 => He.eqO (PySem.W.findIn K (.ref (He.ga K d.cls)) d.nm) (some (some (.ref (d.ad K)))) && (PySem.W.isFn K (.ref (d.ad K)) && PySem.W.keepIn K (.ref (d.ad K)))
 | 2 => He.eqO (PySem.W.findIn K (.ref (He.ga K d.cls)) d.nm) (some (some (.ref (d.ad K)))) && PySem.W.isFn K (.ref (d.ad K))
 | 4 => He.eqO (PySem.W.findIn K (.ref (He.ga K d.cls)) d.nm) (some (some (.ref (d.ad K)))) && PySem.W.isFn K (.ref (d.ad K))
 | _ => He.eqO (PySem.W.findIn K (.ref (He.ga K d.cls)) d.nm) (some (some (.ref (d.st K)))) && (He.eqO (PySem.W.specialIn K (.ref (d.st K)) "__get__") (some (some (.builtin "property.__get__"))) &&
   (decide (PySem.W.takesIn K (.ref (d.st K)) = some true) && (decide (PySem.W.recIn K (d.st K) "property" = some (.ref (pFn K (d.st K)) :: a8S K (d.st K))) && PySem.W.keepIn K (.ref (d.ad K)))))
def DX.ok (K : PySem.W.Frag) (d : DX) : Bool := d.where_ K && (match K.lookup (d.ad K) with
 | some ⟨_, _, .func fd, _⟩ => PySem.W.codeIn K fd.code d.qual && a00 K fd.defaults d.dfl
 | _ => false)
def fnX (K : PySem.W.Frag) (a : Addr) : He.FnW := match K.lookup a with
 | some ⟨_, _, .func fd, _⟩ => some (fd.name, fd.qualname, fd.params, fd.body, fd.scope, fd.globals, fd.closure.map fun p => (p.1, 0), fd.builtins)
 | _ => none
def DX.val (d : DX) : He.FnW := some (d.nm, d.qual, d.params, .stmts d.body, d.scope, mainGlobals, if d.kd.beq 4 = true then [("__class__", 0)] else [], builtinsNs)
def w5 (K : PySem.W.Frag) (f : Addr) : Option (Addr × Addr) := match K.lookup f with
 | some ⟨_, _, .func fd, _⟩ => (match fd.code with
  | .ref c => (match K.lookup c with
   | some ⟨_, _, .fields vs, _⟩ => (match (vs[11]? : Option Value) with
    | some (.ref P) => some (c, P)
    | _ => none)
   | _ => none)
  | _ => none)
 | _ => none
def R0 (K : PySem.W.Frag) (c P : Addr) : Bool := match K.lookup c with
 | some ⟨.type n, _, .fields vs, _⟩ => decide (n = "code") && ((match (vs[11]? : Option Value) with
   | some (.ref P') => Nat.beq P' P
   | _ => false) && ((match vs.getD 18 .none with
   | .str _ _ => true
   | _ => false) && ((match vs.getD 7 .none with
   | .int _ _ => true
   | _ => false) && ((match vs.getD 9 .none with
   | .bool _ => true
   | _ => false) && ((match vs.getD 10 .none with
   | .int _ _ => true
   | _ => false) && !(Nat.beq c P))))))
 | _ => false
def tabAt (T : PySem.W.Frag) (P : Addr) : Bool := match T.lookup P with
 | some ⟨.none, .none, .fields vs, sl⟩ => Nat.beq vs.size 0 && Nat.beq sl.size 0
 | _ => false
def a8f : Obj → Bool
 | ⟨.none, .none, .fields vs, _⟩ => Nat.beq vs.size 0
 | _ => false
def a9m : List Nat → Bool
 | [] => true
 | a :: r => !(r.any (Nat.beq a)) && a9m r
def a2J (K : PySem.W.Frag) : List (Addr × Addr) := C7.filterMap fun x => match PySem.W.nsIn K mainGlobals x with
 | some (some (.ref f)) => w5 K f
 | _ => none
def tabsB (K T : PySem.W.Frag) : Bool := (C7.all fun x => match PySem.W.nsIn K mainGlobals x with
 | some none => true
 | some (some (.ref f)) => (match w5 K f with
  | some (c, P) => tabAt T P && ((match K.lookup P with
   | none => true
   | some _ => false) && R0 K c P)
  | none => false)
 | _ => false) && a9m ((a2J K).map (·.2))
abbrev AlX : Type := Bool × List He.FnW
def obsX (B : PySem.W.Frag → List Bool) (ds : List DX) (K T : PySem.W.Frag) : AlX := ((B K).all id && ((ds.all fun d => d.ok K) && tabsB K T), ds.map fun d => fnX K (d.ad K))
def valX (ds : List DX) : AlX := (true, ds.map DX.val)
def SaysX (B : PySem.W.Frag → List Bool) (ds : List DX) (K T : PySem.W.Frag) : Prop := obsX B ds K T = valX ds
def a85 (g : Addr → Option Obj) (a : Addr) : Bool := match g a with
 | some o => a8f o
 | none => false
def obsG (xs : List Str) (B : PySem.W.Frag → List Bool) (ds : List DX) (g : Addr → Option Obj) : AlX := a3W (asX g xs) fun as => a72 (He.frG g (as.filter fun a => !(a85 g a))) fun K => a72 (He.frG g (as.filter (a85 g))) fun T => obsX B ds K T
def hookX (xs : List Str) (B : PySem.W.Frag → List Bool) (ds : List DX) : PySem.W.Hook where
 α := AlX
 obs := fun s => obsG xs B ds s.heap.get?
 val := fun _ => valX ds
 says := fun _ h => ∃ K T : PySem.W.Frag, K.In h ∧ T.In h ∧ SaysX B ds K T
 of := fun _ s e => ⟨He.frG s.heap.get? ((asX s.heap.get? xs).filter fun a => !(a85 s.heap.get? a)), He.frG s.heap.get? ((asX s.heap.get? xs).filter (a85 s.heap.get?)), He.frG_in, He.frG_in, by
  have e : obsG xs B ds s.heap.get? = valX ds := e
  unfold obsG at e
  rw [a2u, a0n, a0n] at e
  exact e⟩
 keeps := fun _ _ _ ⟨K, T, hK, hT, c⟩ k => ⟨K, T, PySem.W.Frag.In.keeps hK k, PySem.W.Frag.In.keeps hT k, c⟩
section
variable {B : PySem.W.Frag → List Bool} {ds : List DX} {K T : PySem.W.Frag}
theorem SaysX.tab (c : SaysX B ds K T) : tabsB K T = true := (He.ba (He.ba (show ((B K).all id && ((ds.all fun d => d.ok K) && tabsB K T)) = true from congrArg (fun z : AlX => z.1) c)).2).2
/-- what the tables come to -/
structure TabsOk (K : PySem.W.Frag) (mg : Str → Option Value) (h : Heap) (cs : List (Addr × Addr)) : Prop where
 tabs : ∀ p ∈ cs, h.get? p.2 = some { cls := .none, data := .fields #[] }
 off : ∀ p ∈ cs, K.lookup p.2 = none
 codes : ∀ p ∈ cs, PySem.W.CodeHd h p.1 p.2
 lam : ∀ p ∈ W9 K mg, p.1 ∈ cs.map (·.2)
 at_ : ∀ x ∈ C7, ∀ f, PySem.W.nsIn K mainGlobals x = some (some (.ref f)) → ∃ c P, w5 K f = some (c, P) ∧ (c, P) ∈ cs ∧ (P, x ++ ".<locals>.<lambda>") ∈ W9 K mg ∧ ∀ p ∈ W9 K mg, p.1 = P → p.2 = x ++ ".<locals>.<lambda>"
end
end Hd
namespace HandSHeadRun
open PySem PySem.W PySem.Calls PyProof.Rows
/-- the run in two parts: what is looked at behind it, what is told of it -/
def a9t (r : OpenRow) (q : Program) (M : Nat) (loose : List PySem.Str) (w : World) : Prop :=
 ∀ os : OsState, (endF (stepQ (denQ tabQ) r.prog w) M r.prog w os).map (fun s => (looksF r.prog (boot_heap w.params) s.abs, seenQ q loose (importedModules r.prog.main.body) (fun s => xlAt q [] s && recOk r.toRowW.records s) s.abs)) = some (true, openGood q loose)
def a9C (r : OpenRow) (H : Hook) (ob : SharedT → H.α) (M : Nat) (w : World) : Prop :=
 ∀ os : OsState, (endF (stepQ (denQ tabQ) r.prog w) M r.prog w os).map ob = some (H.val w)
theorem a3Z {r : OpenRow} {q : Program} {H : Hook} {ob : SharedT → H.α} {M : Nat} {loose : List PySem.Str} {w : World} (a : a9t r q M loose w) (b : a9C r H ob M w) : RunEq r q H ob M loose w := fun os => by
 have h1 := a os
 have h2 := b os
 generalize endF (stepQ (denQ tabQ) r.prog w) M r.prog w os = x at h1 h2 ⊢
 cases x with
 | none => cases h1
 | some s =>
  have e1 := Option.some.inj h1
  have e2 := Option.some.inj h2
  have e3 := congrArg Prod.fst e1
  have e4 := congrArg Prod.snd e1
  show some (_, _, _) = some (_, _, _)
  rw [show looksF r.prog (boot_heap w.params) s.abs = true from e3, show seenQ q loose (importedModules r.prog.main.body) (fun s => xlAt q [] s && recOk r.toRowW.records s) s.abs = openGood q loose from e4, show ob s = H.val w from e2]
end HandSHeadRun


namespace Pg
open PySem L2 Fx

abbrev Plan := List (Str × Int)
def Asc (p : Plan) : Prop := p.Pairwise fun a b => slt a.1 b.1 = true
def get : Plan → Str → Option Int
 | [], _ => none
 | x :: r, n => if x.1 = n then some x.2 else get r n
def w4 (p : Plan) (k : Int) : Plan := p.map fun x => (x.1, x.2 + k)
theorem t5 {p : Plan} (h : Asc p) (k : Int) : Asc (w4 p k) := by
 unfold Asc w4
 rw [List.pairwise_map]
 exact h
def a5C : Str := "abcdefghijklmnopqrstuvwxyz"
structure a0H (n : Str) : Prop where
 lo : 1 ≤ n.length
 hi : n.length ≤ 6
 al : ∀ c ∈ n.cps.toList, c ∈ a5C.cps.toList
/-- words that may be things' names -/
structure Wd (W : List Str) : Prop where
 nm : ∀ n ∈ W, a0H n
 sz : W.length ≤ 1000
/-- a plan over the words W -/
structure Pl (W : List Str) (p : Plan) : Prop where
 w : Wd W
 asc : Asc p
 sub : ∀ x ∈ p, x.1 ∈ W
theorem Pl.nm {W : List Str} {p : Plan} (h : Pl W p) : ∀ x ∈ p, a0H x.1 := fun x hx => h.w.nm _ (h.sub x hx)
theorem Pl.put {W : List Str} {p : Plan} (h : Pl W p) (k : Int) : Pl W (w4 p k) := ⟨h.w, t5 h.asc k, fun x hx => by
 unfold w4 at hx
 obtain ⟨y, hy, rfl⟩ := List.mem_map.mp hx
 exact h.sub y hy⟩
theorem Pl.nil {W : List Str} (w : Wd W) : Pl W [] := ⟨w, List.Pairwise.nil, by simp⟩
end Pg

namespace Pg
open PySem L2 Fx
def top (i : Nat) : Stmt := PySem.Challenge.pw_lastmakers_k01_errors_by_hand.main.body.getD i (.Pass ⟨0, 0, 0, 0⟩)
abbrev s__law_begun : Stmt := top 22
abbrev s__law_draw : Stmt := top 23
abbrev s__law_pick : Stmt := top 24
abbrev s__law_odd : Stmt := top 25
abbrev s__law_marks : Stmt := top 26
abbrev s__law_apart : Stmt := top 27
abbrev s_law : Stmt := top 28
abbrev s_BadBook___init__ : Stmt := inClass (top 8) 0
abbrev s_BadPlans___init__ : Stmt := inClass (top 3) 0
abbrev s_BadRules___init__ : Stmt := inClass (top 7) 0
abbrev s_BadTable___init__ : Stmt := inClass (top 17) 0
abbrev s_BadText___init__ : Stmt := inClass (top 19) 0
abbrev s_BadThing___init__ : Stmt := inClass (top 9) 0
abbrev s_NoRule___init__ : Stmt := inClass (top 11) 0
abbrev s_TooMany___init__ : Stmt := inClass (top 13) 0
end Pg
namespace Hx
open PySem PySem.Spec PyProof.Rows L2 Fx Pg
def d0 : Hd.DX := ⟨0, "", "_law_begun", "_law_begun", defArgs s__law_begun, defBody s__law_begun, defScope s__law_begun, 0⟩
def d1 : Hd.DX := ⟨0, "", "_law_draw", "_law_draw", defArgs s__law_draw, defBody s__law_draw, defScope s__law_draw, 0⟩
def d2 : Hd.DX := ⟨0, "", "_law_pick", "_law_pick", defArgs s__law_pick, defBody s__law_pick, defScope s__law_pick, 0⟩
def d3 : Hd.DX := ⟨0, "", "_law_odd", "_law_odd", defArgs s__law_odd, defBody s__law_odd, defScope s__law_odd, 0⟩
def d4 : Hd.DX := ⟨0, "", "_law_marks", "_law_marks", defArgs s__law_marks, defBody s__law_marks, defScope s__law_marks, 0⟩
def d5 : Hd.DX := ⟨0, "", "_law_apart", "_law_apart", defArgs s__law_apart, defBody s__law_apart, defScope s__law_apart, 0⟩
def d6 : Hd.DX := ⟨0, "", "law", "law", defArgs s_law, defBody s_law, defScope s_law, 0⟩
def d7 : Hd.DX := ⟨4, "BadBook", "__init__", "BadBook.__init__", defArgs s_BadBook___init__, defBody s_BadBook___init__, defScope s_BadBook___init__, 0⟩
def d8 : Hd.DX := ⟨4, "BadPlans", "__init__", "BadPlans.__init__", defArgs s_BadPlans___init__, defBody s_BadPlans___init__, defScope s_BadPlans___init__, 0⟩
def d9 : Hd.DX := ⟨4, "BadRules", "__init__", "BadRules.__init__", defArgs s_BadRules___init__, defBody s_BadRules___init__, defScope s_BadRules___init__, 0⟩
def d10 : Hd.DX := ⟨4, "BadTable", "__init__", "BadTable.__init__", defArgs s_BadTable___init__, defBody s_BadTable___init__, defScope s_BadTable___init__, 0⟩
def d11 : Hd.DX := ⟨4, "BadText", "__init__", "BadText.__init__", defArgs s_BadText___init__, defBody s_BadText___init__, defScope s_BadText___init__, 0⟩
def d12 : Hd.DX := ⟨4, "BadThing", "__init__", "BadThing.__init__", defArgs s_BadThing___init__, defBody s_BadThing___init__, defScope s_BadThing___init__, 0⟩
def d13 : Hd.DX := ⟨4, "NoRule", "__init__", "NoRule.__init__", defArgs s_NoRule___init__, defBody s_NoRule___init__, defScope s_NoRule___init__, 0⟩
def d14 : Hd.DX := ⟨4, "TooMany", "__init__", "TooMany.__init__", defArgs s_TooMany___init__, defBody s_TooMany___init__, defScope s_TooMany___init__, 0⟩
def ds0 : List Hd.DX := [d0, d1, d2, d3, d4, d5, d6, d7, d8, d9, d10, d11, d12, d13, d14]
def ds : List Hd.DX := ds0
def xs0 : List Str := ["_law_begun", "_law_draw", "_law_pick", "_law_odd", "_law_marks", "_law_apart", "law", "BadPlan", "BadPlans", "BadNumber", "BadSide", "BadRule", "BadRules", "BadBook", "BadThing", "NoPlans", "NoRule", "BadLot", "TooMany", "OtherThings", "NotSo", "NotEven", "BadTable", "NothingDone", "BadText", "BadChoice", "PlanError"]
def xs : List Str := xs0
def B0 (K : PySem.W.Frag) : List Bool := [He.eqO (PySem.W.nsIn K mainGlobals "BadPlan") (some (some (.ref (He.ga K "BadPlan")))), (PySem.W.clsIn K (He.ga K "BadPlan")).isSome, He.eqO (PySem.W.findIn K (.ref (He.ga K "BadPlan")) "__getattribute__") (some (some (.builtin "BaseException.__getattribute__"))), He.eqO (PySem.W.findIn K (.ref (He.ga K "BadPlan")) "__getattr__") (some none), decide (PySem.W.subIn K (.ref (He.ga K "BadPlan")) (.type "BaseException") = some true), PySem.W.hasDictIn K (He.ga K "BadPlan"), He.eqO (PySem.W.findIn K (.ref (He.ga K "BadPlan")) "__class__") (some (some (.builtin "object.__class__"))), decide (PySem.W.mroIn K (He.ga K "BadPlan") (.type "object") = some true), decide (PySem.W.typeIn K (.ref (He.ga K "BadPlan")) = some (.type "type")), decide (PySem.W.kitOne K (.ref (He.ga K "BadPlan")) (.type "ValueError") = some true), decide (PySem.W.kitOne K (.ref (He.ga K "BadPlan")) (.ref (He.ga K "BadPlan")) = some true), decide (PySem.W.kitOne K (.ref (He.ga K "BadPlan")) (.ref (He.ga K "BadPlans")) = some false), decide (PySem.W.kitOne K (.ref (He.ga K "BadPlan")) (.ref (He.ga K "BadNumber")) = some false), decide (PySem.W.kitOne K (.ref (He.ga K "BadPlan")) (.ref (He.ga K "BadSide")) = some false), decide (PySem.W.kitOne K (.ref (He.ga K "BadPlan")) (.ref (He.ga K "BadRule")) = some false), decide (PySem.W.kitOne K (.ref (He.ga K "BadPlan")) (.ref (He.ga K "BadRules")) = some false), decide (PySem.W.kitOne K (.ref (He.ga K "BadPlan")) (.ref (He.ga K "BadBook")) = some false), decide (PySem.W.kitOne K (.ref (He.ga K "BadPlan")) (.ref (He.ga K "BadThing")) = some false), decide (PySem.W.kitOne K (.ref (He.ga K "BadPlan")) (.ref (He.ga K "NoPlans")) = some false), decide (PySem.W.kitOne K (.ref (He.ga K "BadPlan")) (.ref (He.ga K "NoRule")) = some false), decide (PySem.W.kitOne K (.ref (He.ga K "BadPlan")) (.ref (He.ga K "BadLot")) = some false), decide (PySem.W.kitOne K (.ref (He.ga K "BadPlan")) (.ref (He.ga K "TooMany")) = some false), decide (PySem.W.kitOne K (.ref (He.ga K "BadPlan")) (.ref (He.ga K "OtherThings")) = some false), decide (PySem.W.kitOne K (.ref (He.ga K "BadPlan")) (.ref (He.ga K "NotSo")) = some false), decide (PySem.W.kitOne K (.ref (He.ga K "BadPlan")) (.ref (He.ga K "NotEven")) = some false), decide (PySem.W.kitOne K (.ref (He.ga K "BadPlan")) (.ref (He.ga K "BadTable")) = some false), decide (PySem.W.kitOne K (.ref (He.ga K "BadPlan")) (.ref (He.ga K "NothingDone")) = some false), decide (PySem.W.kitOne K (.ref (He.ga K "BadPlan")) (.ref (He.ga K "BadText")) = some false), decide (PySem.W.kitOne K (.ref (He.ga K "BadPlan")) (.ref (He.ga K "BadChoice")) = some false), decide (PySem.W.kitOne K (.ref (He.ga K "BadPlan")) (.ref (He.ga K "PlanError")) = some true)]
def B1 (K : PySem.W.Frag) : List Bool := [PySem.W.excIn K (He.ga K "BadPlan") [.type "ValueError", .type "Exception", .type "BaseException", .type "object"] "ValueError.__new__", PySem.W.keepIn K (.ref (He.ga K "BadPlan")), He.eqO (PySem.W.nsIn K mainGlobals "BadPlans") (some (some (.ref (He.ga K "BadPlans")))), (PySem.W.clsIn K (He.ga K "BadPlans")).isSome, He.eqO (PySem.W.findIn K (.ref (He.ga K "BadPlans")) "__getattribute__") (some (some (.builtin "BaseException.__getattribute__"))), He.eqO (PySem.W.findIn K (.ref (He.ga K "BadPlans")) "__getattr__") (some none), decide (PySem.W.subIn K (.ref (He.ga K "BadPlans")) (.type "BaseException") = some true), PySem.W.hasDictIn K (He.ga K "BadPlans"), He.eqO (PySem.W.findIn K (.ref (He.ga K "BadPlans")) "__class__") (some (some (.builtin "object.__class__"))), decide (PySem.W.mroIn K (He.ga K "BadPlans") (.type "object") = some true), decide (PySem.W.typeIn K (.ref (He.ga K "BadPlans")) = some (.type "type")), decide (PySem.W.kitOne K (.ref (He.ga K "BadPlans")) (.type "ValueError") = some true), He.eqO (PySem.W.findIn K (.ref (He.ga K "BadPlans")) "at") (some none), decide (PySem.W.kitOne K (.ref (He.ga K "BadPlans")) (.ref (He.ga K "BadPlan")) = some false), decide (PySem.W.kitOne K (.ref (He.ga K "BadPlans")) (.ref (He.ga K "BadPlans")) = some true), decide (PySem.W.kitOne K (.ref (He.ga K "BadPlans")) (.ref (He.ga K "BadNumber")) = some false), decide (PySem.W.kitOne K (.ref (He.ga K "BadPlans")) (.ref (He.ga K "BadSide")) = some false), decide (PySem.W.kitOne K (.ref (He.ga K "BadPlans")) (.ref (He.ga K "BadRule")) = some false), decide (PySem.W.kitOne K (.ref (He.ga K "BadPlans")) (.ref (He.ga K "BadRules")) = some false), decide (PySem.W.kitOne K (.ref (He.ga K "BadPlans")) (.ref (He.ga K "BadBook")) = some false), decide (PySem.W.kitOne K (.ref (He.ga K "BadPlans")) (.ref (He.ga K "BadThing")) = some false), decide (PySem.W.kitOne K (.ref (He.ga K "BadPlans")) (.ref (He.ga K "NoPlans")) = some false), decide (PySem.W.kitOne K (.ref (He.ga K "BadPlans")) (.ref (He.ga K "NoRule")) = some false), decide (PySem.W.kitOne K (.ref (He.ga K "BadPlans")) (.ref (He.ga K "BadLot")) = some false), decide (PySem.W.kitOne K (.ref (He.ga K "BadPlans")) (.ref (He.ga K "TooMany")) = some false), decide (PySem.W.kitOne K (.ref (He.ga K "BadPlans")) (.ref (He.ga K "OtherThings")) = some false), decide (PySem.W.kitOne K (.ref (He.ga K "BadPlans")) (.ref (He.ga K "NotSo")) = some false), decide (PySem.W.kitOne K (.ref (He.ga K "BadPlans")) (.ref (He.ga K "NotEven")) = some false), decide (PySem.W.kitOne K (.ref (He.ga K "BadPlans")) (.ref (He.ga K "BadTable")) = some false), decide (PySem.W.kitOne K (.ref (He.ga K "BadPlans")) (.ref (He.ga K "NothingDone")) = some false)]
def B2 (K : PySem.W.Frag) : List Bool := [decide (PySem.W.kitOne K (.ref (He.ga K "BadPlans")) (.ref (He.ga K "BadText")) = some false), decide (PySem.W.kitOne K (.ref (He.ga K "BadPlans")) (.ref (He.ga K "BadChoice")) = some false), decide (PySem.W.kitOne K (.ref (He.ga K "BadPlans")) (.ref (He.ga K "PlanError")) = some true), He.eqO (PySem.W.nsIn K mainGlobals "BadNumber") (some (some (.ref (He.ga K "BadNumber")))), (PySem.W.clsIn K (He.ga K "BadNumber")).isSome, He.eqO (PySem.W.findIn K (.ref (He.ga K "BadNumber")) "__getattribute__") (some (some (.builtin "BaseException.__getattribute__"))), He.eqO (PySem.W.findIn K (.ref (He.ga K "BadNumber")) "__getattr__") (some none), decide (PySem.W.subIn K (.ref (He.ga K "BadNumber")) (.type "BaseException") = some true), PySem.W.hasDictIn K (He.ga K "BadNumber"), He.eqO (PySem.W.findIn K (.ref (He.ga K "BadNumber")) "__class__") (some (some (.builtin "object.__class__"))), decide (PySem.W.mroIn K (He.ga K "BadNumber") (.type "object") = some true), decide (PySem.W.typeIn K (.ref (He.ga K "BadNumber")) = some (.type "type")), decide (PySem.W.kitOne K (.ref (He.ga K "BadNumber")) (.type "ValueError") = some true), decide (PySem.W.kitOne K (.ref (He.ga K "BadNumber")) (.ref (He.ga K "BadPlan")) = some false), decide (PySem.W.kitOne K (.ref (He.ga K "BadNumber")) (.ref (He.ga K "BadPlans")) = some false), decide (PySem.W.kitOne K (.ref (He.ga K "BadNumber")) (.ref (He.ga K "BadNumber")) = some true), decide (PySem.W.kitOne K (.ref (He.ga K "BadNumber")) (.ref (He.ga K "BadSide")) = some false), decide (PySem.W.kitOne K (.ref (He.ga K "BadNumber")) (.ref (He.ga K "BadRule")) = some false), decide (PySem.W.kitOne K (.ref (He.ga K "BadNumber")) (.ref (He.ga K "BadRules")) = some false), decide (PySem.W.kitOne K (.ref (He.ga K "BadNumber")) (.ref (He.ga K "BadBook")) = some false), decide (PySem.W.kitOne K (.ref (He.ga K "BadNumber")) (.ref (He.ga K "BadThing")) = some false), decide (PySem.W.kitOne K (.ref (He.ga K "BadNumber")) (.ref (He.ga K "NoPlans")) = some false), decide (PySem.W.kitOne K (.ref (He.ga K "BadNumber")) (.ref (He.ga K "NoRule")) = some false), decide (PySem.W.kitOne K (.ref (He.ga K "BadNumber")) (.ref (He.ga K "BadLot")) = some false), decide (PySem.W.kitOne K (.ref (He.ga K "BadNumber")) (.ref (He.ga K "TooMany")) = some false), decide (PySem.W.kitOne K (.ref (He.ga K "BadNumber")) (.ref (He.ga K "OtherThings")) = some false), decide (PySem.W.kitOne K (.ref (He.ga K "BadNumber")) (.ref (He.ga K "NotSo")) = some false), decide (PySem.W.kitOne K (.ref (He.ga K "BadNumber")) (.ref (He.ga K "NotEven")) = some false), decide (PySem.W.kitOne K (.ref (He.ga K "BadNumber")) (.ref (He.ga K "BadTable")) = some false), decide (PySem.W.kitOne K (.ref (He.ga K "BadNumber")) (.ref (He.ga K "NothingDone")) = some false)]
def B3 (K : PySem.W.Frag) : List Bool := [decide (PySem.W.kitOne K (.ref (He.ga K "BadNumber")) (.ref (He.ga K "BadText")) = some false), decide (PySem.W.kitOne K (.ref (He.ga K "BadNumber")) (.ref (He.ga K "BadChoice")) = some false), decide (PySem.W.kitOne K (.ref (He.ga K "BadNumber")) (.ref (He.ga K "PlanError")) = some true), PySem.W.excIn K (He.ga K "BadNumber") [.type "ValueError", .type "Exception", .type "BaseException", .type "object"] "ValueError.__new__", PySem.W.keepIn K (.ref (He.ga K "BadNumber")), He.eqO (PySem.W.nsIn K mainGlobals "BadSide") (some (some (.ref (He.ga K "BadSide")))), (PySem.W.clsIn K (He.ga K "BadSide")).isSome, He.eqO (PySem.W.findIn K (.ref (He.ga K "BadSide")) "__getattribute__") (some (some (.builtin "BaseException.__getattribute__"))), He.eqO (PySem.W.findIn K (.ref (He.ga K "BadSide")) "__getattr__") (some none), decide (PySem.W.subIn K (.ref (He.ga K "BadSide")) (.type "BaseException") = some true), PySem.W.hasDictIn K (He.ga K "BadSide"), He.eqO (PySem.W.findIn K (.ref (He.ga K "BadSide")) "__class__") (some (some (.builtin "object.__class__"))), decide (PySem.W.mroIn K (He.ga K "BadSide") (.type "object") = some true), decide (PySem.W.typeIn K (.ref (He.ga K "BadSide")) = some (.type "type")), decide (PySem.W.kitOne K (.ref (He.ga K "BadSide")) (.type "ValueError") = some true), decide (PySem.W.kitOne K (.ref (He.ga K "BadSide")) (.ref (He.ga K "BadPlan")) = some false), decide (PySem.W.kitOne K (.ref (He.ga K "BadSide")) (.ref (He.ga K "BadPlans")) = some false), decide (PySem.W.kitOne K (.ref (He.ga K "BadSide")) (.ref (He.ga K "BadNumber")) = some false), decide (PySem.W.kitOne K (.ref (He.ga K "BadSide")) (.ref (He.ga K "BadSide")) = some true), decide (PySem.W.kitOne K (.ref (He.ga K "BadSide")) (.ref (He.ga K "BadRule")) = some false), decide (PySem.W.kitOne K (.ref (He.ga K "BadSide")) (.ref (He.ga K "BadRules")) = some false), decide (PySem.W.kitOne K (.ref (He.ga K "BadSide")) (.ref (He.ga K "BadBook")) = some false), decide (PySem.W.kitOne K (.ref (He.ga K "BadSide")) (.ref (He.ga K "BadThing")) = some false), decide (PySem.W.kitOne K (.ref (He.ga K "BadSide")) (.ref (He.ga K "NoPlans")) = some false), decide (PySem.W.kitOne K (.ref (He.ga K "BadSide")) (.ref (He.ga K "NoRule")) = some false), decide (PySem.W.kitOne K (.ref (He.ga K "BadSide")) (.ref (He.ga K "BadLot")) = some false), decide (PySem.W.kitOne K (.ref (He.ga K "BadSide")) (.ref (He.ga K "TooMany")) = some false), decide (PySem.W.kitOne K (.ref (He.ga K "BadSide")) (.ref (He.ga K "OtherThings")) = some false), decide (PySem.W.kitOne K (.ref (He.ga K "BadSide")) (.ref (He.ga K "NotSo")) = some false), decide (PySem.W.kitOne K (.ref (He.ga K "BadSide")) (.ref (He.ga K "NotEven")) = some false)]
def B4 (K : PySem.W.Frag) : List Bool := [decide (PySem.W.kitOne K (.ref (He.ga K "BadSide")) (.ref (He.ga K "BadTable")) = some false), decide (PySem.W.kitOne K (.ref (He.ga K "BadSide")) (.ref (He.ga K "NothingDone")) = some false), decide (PySem.W.kitOne K (.ref (He.ga K "BadSide")) (.ref (He.ga K "BadText")) = some false), decide (PySem.W.kitOne K (.ref (He.ga K "BadSide")) (.ref (He.ga K "BadChoice")) = some false), decide (PySem.W.kitOne K (.ref (He.ga K "BadSide")) (.ref (He.ga K "PlanError")) = some true), PySem.W.excIn K (He.ga K "BadSide") [.type "ValueError", .type "Exception", .type "BaseException", .type "object"] "ValueError.__new__", PySem.W.keepIn K (.ref (He.ga K "BadSide")), He.eqO (PySem.W.nsIn K mainGlobals "BadRule") (some (some (.ref (He.ga K "BadRule")))), (PySem.W.clsIn K (He.ga K "BadRule")).isSome, He.eqO (PySem.W.findIn K (.ref (He.ga K "BadRule")) "__getattribute__") (some (some (.builtin "BaseException.__getattribute__"))), He.eqO (PySem.W.findIn K (.ref (He.ga K "BadRule")) "__getattr__") (some none), decide (PySem.W.subIn K (.ref (He.ga K "BadRule")) (.type "BaseException") = some true), PySem.W.hasDictIn K (He.ga K "BadRule"), He.eqO (PySem.W.findIn K (.ref (He.ga K "BadRule")) "__class__") (some (some (.builtin "object.__class__"))), decide (PySem.W.mroIn K (He.ga K "BadRule") (.type "object") = some true), decide (PySem.W.typeIn K (.ref (He.ga K "BadRule")) = some (.type "type")), decide (PySem.W.kitOne K (.ref (He.ga K "BadRule")) (.type "ValueError") = some true), decide (PySem.W.kitOne K (.ref (He.ga K "BadRule")) (.ref (He.ga K "BadPlan")) = some false), decide (PySem.W.kitOne K (.ref (He.ga K "BadRule")) (.ref (He.ga K "BadPlans")) = some false), decide (PySem.W.kitOne K (.ref (He.ga K "BadRule")) (.ref (He.ga K "BadNumber")) = some false), decide (PySem.W.kitOne K (.ref (He.ga K "BadRule")) (.ref (He.ga K "BadSide")) = some false), decide (PySem.W.kitOne K (.ref (He.ga K "BadRule")) (.ref (He.ga K "BadRule")) = some true), decide (PySem.W.kitOne K (.ref (He.ga K "BadRule")) (.ref (He.ga K "BadRules")) = some false), decide (PySem.W.kitOne K (.ref (He.ga K "BadRule")) (.ref (He.ga K "BadBook")) = some false), decide (PySem.W.kitOne K (.ref (He.ga K "BadRule")) (.ref (He.ga K "BadThing")) = some false), decide (PySem.W.kitOne K (.ref (He.ga K "BadRule")) (.ref (He.ga K "NoPlans")) = some false), decide (PySem.W.kitOne K (.ref (He.ga K "BadRule")) (.ref (He.ga K "NoRule")) = some false), decide (PySem.W.kitOne K (.ref (He.ga K "BadRule")) (.ref (He.ga K "BadLot")) = some false), decide (PySem.W.kitOne K (.ref (He.ga K "BadRule")) (.ref (He.ga K "TooMany")) = some false), decide (PySem.W.kitOne K (.ref (He.ga K "BadRule")) (.ref (He.ga K "OtherThings")) = some false)]
def B5 (K : PySem.W.Frag) : List Bool := [decide (PySem.W.kitOne K (.ref (He.ga K "BadRule")) (.ref (He.ga K "NotSo")) = some false), decide (PySem.W.kitOne K (.ref (He.ga K "BadRule")) (.ref (He.ga K "NotEven")) = some false), decide (PySem.W.kitOne K (.ref (He.ga K "BadRule")) (.ref (He.ga K "BadTable")) = some false), decide (PySem.W.kitOne K (.ref (He.ga K "BadRule")) (.ref (He.ga K "NothingDone")) = some false), decide (PySem.W.kitOne K (.ref (He.ga K "BadRule")) (.ref (He.ga K "BadText")) = some false), decide (PySem.W.kitOne K (.ref (He.ga K "BadRule")) (.ref (He.ga K "BadChoice")) = some false), decide (PySem.W.kitOne K (.ref (He.ga K "BadRule")) (.ref (He.ga K "PlanError")) = some true), PySem.W.excIn K (He.ga K "BadRule") [.type "ValueError", .type "Exception", .type "BaseException", .type "object"] "ValueError.__new__", PySem.W.keepIn K (.ref (He.ga K "BadRule")), He.eqO (PySem.W.nsIn K mainGlobals "BadRules") (some (some (.ref (He.ga K "BadRules")))), (PySem.W.clsIn K (He.ga K "BadRules")).isSome, He.eqO (PySem.W.findIn K (.ref (He.ga K "BadRules")) "__getattribute__") (some (some (.builtin "BaseException.__getattribute__"))), He.eqO (PySem.W.findIn K (.ref (He.ga K "BadRules")) "__getattr__") (some none), decide (PySem.W.subIn K (.ref (He.ga K "BadRules")) (.type "BaseException") = some true), PySem.W.hasDictIn K (He.ga K "BadRules"), He.eqO (PySem.W.findIn K (.ref (He.ga K "BadRules")) "__class__") (some (some (.builtin "object.__class__"))), decide (PySem.W.mroIn K (He.ga K "BadRules") (.type "object") = some true), decide (PySem.W.typeIn K (.ref (He.ga K "BadRules")) = some (.type "type")), decide (PySem.W.kitOne K (.ref (He.ga K "BadRules")) (.type "ValueError") = some true), He.eqO (PySem.W.findIn K (.ref (He.ga K "BadRules")) "at") (some none), decide (PySem.W.kitOne K (.ref (He.ga K "BadRules")) (.ref (He.ga K "BadPlan")) = some false), decide (PySem.W.kitOne K (.ref (He.ga K "BadRules")) (.ref (He.ga K "BadPlans")) = some false), decide (PySem.W.kitOne K (.ref (He.ga K "BadRules")) (.ref (He.ga K "BadNumber")) = some false), decide (PySem.W.kitOne K (.ref (He.ga K "BadRules")) (.ref (He.ga K "BadSide")) = some false), decide (PySem.W.kitOne K (.ref (He.ga K "BadRules")) (.ref (He.ga K "BadRule")) = some false), decide (PySem.W.kitOne K (.ref (He.ga K "BadRules")) (.ref (He.ga K "BadRules")) = some true), decide (PySem.W.kitOne K (.ref (He.ga K "BadRules")) (.ref (He.ga K "BadBook")) = some false), decide (PySem.W.kitOne K (.ref (He.ga K "BadRules")) (.ref (He.ga K "BadThing")) = some false), decide (PySem.W.kitOne K (.ref (He.ga K "BadRules")) (.ref (He.ga K "NoPlans")) = some false), decide (PySem.W.kitOne K (.ref (He.ga K "BadRules")) (.ref (He.ga K "NoRule")) = some false)]
def B6 (K : PySem.W.Frag) : List Bool := [decide (PySem.W.kitOne K (.ref (He.ga K "BadRules")) (.ref (He.ga K "BadLot")) = some false), decide (PySem.W.kitOne K (.ref (He.ga K "BadRules")) (.ref (He.ga K "TooMany")) = some false), decide (PySem.W.kitOne K (.ref (He.ga K "BadRules")) (.ref (He.ga K "OtherThings")) = some false), decide (PySem.W.kitOne K (.ref (He.ga K "BadRules")) (.ref (He.ga K "NotSo")) = some false), decide (PySem.W.kitOne K (.ref (He.ga K "BadRules")) (.ref (He.ga K "NotEven")) = some false), decide (PySem.W.kitOne K (.ref (He.ga K "BadRules")) (.ref (He.ga K "BadTable")) = some false), decide (PySem.W.kitOne K (.ref (He.ga K "BadRules")) (.ref (He.ga K "NothingDone")) = some false), decide (PySem.W.kitOne K (.ref (He.ga K "BadRules")) (.ref (He.ga K "BadText")) = some false), decide (PySem.W.kitOne K (.ref (He.ga K "BadRules")) (.ref (He.ga K "BadChoice")) = some false), decide (PySem.W.kitOne K (.ref (He.ga K "BadRules")) (.ref (He.ga K "PlanError")) = some true), He.eqO (PySem.W.nsIn K mainGlobals "BadBook") (some (some (.ref (He.ga K "BadBook")))), (PySem.W.clsIn K (He.ga K "BadBook")).isSome, He.eqO (PySem.W.findIn K (.ref (He.ga K "BadBook")) "__getattribute__") (some (some (.builtin "BaseException.__getattribute__"))), He.eqO (PySem.W.findIn K (.ref (He.ga K "BadBook")) "__getattr__") (some none), decide (PySem.W.subIn K (.ref (He.ga K "BadBook")) (.type "BaseException") = some true), PySem.W.hasDictIn K (He.ga K "BadBook"), He.eqO (PySem.W.findIn K (.ref (He.ga K "BadBook")) "__class__") (some (some (.builtin "object.__class__"))), decide (PySem.W.mroIn K (He.ga K "BadBook") (.type "object") = some true), decide (PySem.W.typeIn K (.ref (He.ga K "BadBook")) = some (.type "type")), decide (PySem.W.kitOne K (.ref (He.ga K "BadBook")) (.type "ValueError") = some true), He.eqO (PySem.W.findIn K (.ref (He.ga K "BadBook")) "part") (some none), decide (PySem.W.kitOne K (.ref (He.ga K "BadBook")) (.ref (He.ga K "BadPlan")) = some false), decide (PySem.W.kitOne K (.ref (He.ga K "BadBook")) (.ref (He.ga K "BadPlans")) = some false), decide (PySem.W.kitOne K (.ref (He.ga K "BadBook")) (.ref (He.ga K "BadNumber")) = some false), decide (PySem.W.kitOne K (.ref (He.ga K "BadBook")) (.ref (He.ga K "BadSide")) = some false), decide (PySem.W.kitOne K (.ref (He.ga K "BadBook")) (.ref (He.ga K "BadRule")) = some false), decide (PySem.W.kitOne K (.ref (He.ga K "BadBook")) (.ref (He.ga K "BadRules")) = some false), decide (PySem.W.kitOne K (.ref (He.ga K "BadBook")) (.ref (He.ga K "BadBook")) = some true), decide (PySem.W.kitOne K (.ref (He.ga K "BadBook")) (.ref (He.ga K "BadThing")) = some false), decide (PySem.W.kitOne K (.ref (He.ga K "BadBook")) (.ref (He.ga K "NoPlans")) = some false)]
def B7 (K : PySem.W.Frag) : List Bool := [decide (PySem.W.kitOne K (.ref (He.ga K "BadBook")) (.ref (He.ga K "NoRule")) = some false), decide (PySem.W.kitOne K (.ref (He.ga K "BadBook")) (.ref (He.ga K "BadLot")) = some false), decide (PySem.W.kitOne K (.ref (He.ga K "BadBook")) (.ref (He.ga K "TooMany")) = some false), decide (PySem.W.kitOne K (.ref (He.ga K "BadBook")) (.ref (He.ga K "OtherThings")) = some false), decide (PySem.W.kitOne K (.ref (He.ga K "BadBook")) (.ref (He.ga K "NotSo")) = some false), decide (PySem.W.kitOne K (.ref (He.ga K "BadBook")) (.ref (He.ga K "NotEven")) = some false), decide (PySem.W.kitOne K (.ref (He.ga K "BadBook")) (.ref (He.ga K "BadTable")) = some false), decide (PySem.W.kitOne K (.ref (He.ga K "BadBook")) (.ref (He.ga K "NothingDone")) = some false), decide (PySem.W.kitOne K (.ref (He.ga K "BadBook")) (.ref (He.ga K "BadText")) = some false), decide (PySem.W.kitOne K (.ref (He.ga K "BadBook")) (.ref (He.ga K "BadChoice")) = some false), decide (PySem.W.kitOne K (.ref (He.ga K "BadBook")) (.ref (He.ga K "PlanError")) = some true), He.eqO (PySem.W.nsIn K mainGlobals "BadThing") (some (some (.ref (He.ga K "BadThing")))), (PySem.W.clsIn K (He.ga K "BadThing")).isSome, He.eqO (PySem.W.findIn K (.ref (He.ga K "BadThing")) "__getattribute__") (some (some (.builtin "BaseException.__getattribute__"))), He.eqO (PySem.W.findIn K (.ref (He.ga K "BadThing")) "__getattr__") (some none), decide (PySem.W.subIn K (.ref (He.ga K "BadThing")) (.type "BaseException") = some true), PySem.W.hasDictIn K (He.ga K "BadThing"), He.eqO (PySem.W.findIn K (.ref (He.ga K "BadThing")) "__class__") (some (some (.builtin "object.__class__"))), decide (PySem.W.mroIn K (He.ga K "BadThing") (.type "object") = some true), decide (PySem.W.typeIn K (.ref (He.ga K "BadThing")) = some (.type "type")), decide (PySem.W.kitOne K (.ref (He.ga K "BadThing")) (.type "ValueError") = some true), He.eqO (PySem.W.findIn K (.ref (He.ga K "BadThing")) "thing") (some none), decide (PySem.W.kitOne K (.ref (He.ga K "BadThing")) (.ref (He.ga K "BadPlan")) = some false), decide (PySem.W.kitOne K (.ref (He.ga K "BadThing")) (.ref (He.ga K "BadPlans")) = some false), decide (PySem.W.kitOne K (.ref (He.ga K "BadThing")) (.ref (He.ga K "BadNumber")) = some false), decide (PySem.W.kitOne K (.ref (He.ga K "BadThing")) (.ref (He.ga K "BadSide")) = some false), decide (PySem.W.kitOne K (.ref (He.ga K "BadThing")) (.ref (He.ga K "BadRule")) = some false), decide (PySem.W.kitOne K (.ref (He.ga K "BadThing")) (.ref (He.ga K "BadRules")) = some false), decide (PySem.W.kitOne K (.ref (He.ga K "BadThing")) (.ref (He.ga K "BadBook")) = some false), decide (PySem.W.kitOne K (.ref (He.ga K "BadThing")) (.ref (He.ga K "BadThing")) = some true)]
def B8 (K : PySem.W.Frag) : List Bool := [decide (PySem.W.kitOne K (.ref (He.ga K "BadThing")) (.ref (He.ga K "NoPlans")) = some false), decide (PySem.W.kitOne K (.ref (He.ga K "BadThing")) (.ref (He.ga K "NoRule")) = some false), decide (PySem.W.kitOne K (.ref (He.ga K "BadThing")) (.ref (He.ga K "BadLot")) = some false), decide (PySem.W.kitOne K (.ref (He.ga K "BadThing")) (.ref (He.ga K "TooMany")) = some false), decide (PySem.W.kitOne K (.ref (He.ga K "BadThing")) (.ref (He.ga K "OtherThings")) = some false), decide (PySem.W.kitOne K (.ref (He.ga K "BadThing")) (.ref (He.ga K "NotSo")) = some false), decide (PySem.W.kitOne K (.ref (He.ga K "BadThing")) (.ref (He.ga K "NotEven")) = some false), decide (PySem.W.kitOne K (.ref (He.ga K "BadThing")) (.ref (He.ga K "BadTable")) = some false), decide (PySem.W.kitOne K (.ref (He.ga K "BadThing")) (.ref (He.ga K "NothingDone")) = some false), decide (PySem.W.kitOne K (.ref (He.ga K "BadThing")) (.ref (He.ga K "BadText")) = some false), decide (PySem.W.kitOne K (.ref (He.ga K "BadThing")) (.ref (He.ga K "BadChoice")) = some false), decide (PySem.W.kitOne K (.ref (He.ga K "BadThing")) (.ref (He.ga K "PlanError")) = some true), He.eqO (PySem.W.nsIn K mainGlobals "NoPlans") (some (some (.ref (He.ga K "NoPlans")))), (PySem.W.clsIn K (He.ga K "NoPlans")).isSome, He.eqO (PySem.W.findIn K (.ref (He.ga K "NoPlans")) "__getattribute__") (some (some (.builtin "BaseException.__getattribute__"))), He.eqO (PySem.W.findIn K (.ref (He.ga K "NoPlans")) "__getattr__") (some none), decide (PySem.W.subIn K (.ref (He.ga K "NoPlans")) (.type "BaseException") = some true), PySem.W.hasDictIn K (He.ga K "NoPlans"), He.eqO (PySem.W.findIn K (.ref (He.ga K "NoPlans")) "__class__") (some (some (.builtin "object.__class__"))), decide (PySem.W.mroIn K (He.ga K "NoPlans") (.type "object") = some true), decide (PySem.W.typeIn K (.ref (He.ga K "NoPlans")) = some (.type "type")), decide (PySem.W.kitOne K (.ref (He.ga K "NoPlans")) (.type "ValueError") = some true), decide (PySem.W.kitOne K (.ref (He.ga K "NoPlans")) (.ref (He.ga K "BadPlan")) = some false), decide (PySem.W.kitOne K (.ref (He.ga K "NoPlans")) (.ref (He.ga K "BadPlans")) = some false), decide (PySem.W.kitOne K (.ref (He.ga K "NoPlans")) (.ref (He.ga K "BadNumber")) = some false), decide (PySem.W.kitOne K (.ref (He.ga K "NoPlans")) (.ref (He.ga K "BadSide")) = some false), decide (PySem.W.kitOne K (.ref (He.ga K "NoPlans")) (.ref (He.ga K "BadRule")) = some false), decide (PySem.W.kitOne K (.ref (He.ga K "NoPlans")) (.ref (He.ga K "BadRules")) = some false), decide (PySem.W.kitOne K (.ref (He.ga K "NoPlans")) (.ref (He.ga K "BadBook")) = some false), decide (PySem.W.kitOne K (.ref (He.ga K "NoPlans")) (.ref (He.ga K "BadThing")) = some false)]
def B9 (K : PySem.W.Frag) : List Bool := [decide (PySem.W.kitOne K (.ref (He.ga K "NoPlans")) (.ref (He.ga K "NoPlans")) = some true), decide (PySem.W.kitOne K (.ref (He.ga K "NoPlans")) (.ref (He.ga K "NoRule")) = some false), decide (PySem.W.kitOne K (.ref (He.ga K "NoPlans")) (.ref (He.ga K "BadLot")) = some false), decide (PySem.W.kitOne K (.ref (He.ga K "NoPlans")) (.ref (He.ga K "TooMany")) = some false), decide (PySem.W.kitOne K (.ref (He.ga K "NoPlans")) (.ref (He.ga K "OtherThings")) = some false), decide (PySem.W.kitOne K (.ref (He.ga K "NoPlans")) (.ref (He.ga K "NotSo")) = some false), decide (PySem.W.kitOne K (.ref (He.ga K "NoPlans")) (.ref (He.ga K "NotEven")) = some false), decide (PySem.W.kitOne K (.ref (He.ga K "NoPlans")) (.ref (He.ga K "BadTable")) = some false), decide (PySem.W.kitOne K (.ref (He.ga K "NoPlans")) (.ref (He.ga K "NothingDone")) = some false), decide (PySem.W.kitOne K (.ref (He.ga K "NoPlans")) (.ref (He.ga K "BadText")) = some false), decide (PySem.W.kitOne K (.ref (He.ga K "NoPlans")) (.ref (He.ga K "BadChoice")) = some false), decide (PySem.W.kitOne K (.ref (He.ga K "NoPlans")) (.ref (He.ga K "PlanError")) = some true), PySem.W.excIn K (He.ga K "NoPlans") [.type "ValueError", .type "Exception", .type "BaseException", .type "object"] "ValueError.__new__", PySem.W.keepIn K (.ref (He.ga K "NoPlans")), He.eqO (PySem.W.nsIn K mainGlobals "NoRule") (some (some (.ref (He.ga K "NoRule")))), (PySem.W.clsIn K (He.ga K "NoRule")).isSome, He.eqO (PySem.W.findIn K (.ref (He.ga K "NoRule")) "__getattribute__") (some (some (.builtin "BaseException.__getattribute__"))), He.eqO (PySem.W.findIn K (.ref (He.ga K "NoRule")) "__getattr__") (some none), decide (PySem.W.subIn K (.ref (He.ga K "NoRule")) (.type "BaseException") = some true), PySem.W.hasDictIn K (He.ga K "NoRule"), He.eqO (PySem.W.findIn K (.ref (He.ga K "NoRule")) "__class__") (some (some (.builtin "object.__class__"))), decide (PySem.W.mroIn K (He.ga K "NoRule") (.type "object") = some true), decide (PySem.W.typeIn K (.ref (He.ga K "NoRule")) = some (.type "type")), decide (PySem.W.kitOne K (.ref (He.ga K "NoRule")) (.type "ValueError") = some true), He.eqO (PySem.W.findIn K (.ref (He.ga K "NoRule")) "at") (some none), decide (PySem.W.kitOne K (.ref (He.ga K "NoRule")) (.ref (He.ga K "BadPlan")) = some false), decide (PySem.W.kitOne K (.ref (He.ga K "NoRule")) (.ref (He.ga K "BadPlans")) = some false), decide (PySem.W.kitOne K (.ref (He.ga K "NoRule")) (.ref (He.ga K "BadNumber")) = some false), decide (PySem.W.kitOne K (.ref (He.ga K "NoRule")) (.ref (He.ga K "BadSide")) = some false), decide (PySem.W.kitOne K (.ref (He.ga K "NoRule")) (.ref (He.ga K "BadRule")) = some false)]
def B10 (K : PySem.W.Frag) : List Bool := [decide (PySem.W.kitOne K (.ref (He.ga K "NoRule")) (.ref (He.ga K "BadRules")) = some false), decide (PySem.W.kitOne K (.ref (He.ga K "NoRule")) (.ref (He.ga K "BadBook")) = some false), decide (PySem.W.kitOne K (.ref (He.ga K "NoRule")) (.ref (He.ga K "BadThing")) = some false), decide (PySem.W.kitOne K (.ref (He.ga K "NoRule")) (.ref (He.ga K "NoPlans")) = some false), decide (PySem.W.kitOne K (.ref (He.ga K "NoRule")) (.ref (He.ga K "NoRule")) = some true), decide (PySem.W.kitOne K (.ref (He.ga K "NoRule")) (.ref (He.ga K "BadLot")) = some false), decide (PySem.W.kitOne K (.ref (He.ga K "NoRule")) (.ref (He.ga K "TooMany")) = some false), decide (PySem.W.kitOne K (.ref (He.ga K "NoRule")) (.ref (He.ga K "OtherThings")) = some false), decide (PySem.W.kitOne K (.ref (He.ga K "NoRule")) (.ref (He.ga K "NotSo")) = some false), decide (PySem.W.kitOne K (.ref (He.ga K "NoRule")) (.ref (He.ga K "NotEven")) = some false), decide (PySem.W.kitOne K (.ref (He.ga K "NoRule")) (.ref (He.ga K "BadTable")) = some false), decide (PySem.W.kitOne K (.ref (He.ga K "NoRule")) (.ref (He.ga K "NothingDone")) = some false), decide (PySem.W.kitOne K (.ref (He.ga K "NoRule")) (.ref (He.ga K "BadText")) = some false), decide (PySem.W.kitOne K (.ref (He.ga K "NoRule")) (.ref (He.ga K "BadChoice")) = some false), decide (PySem.W.kitOne K (.ref (He.ga K "NoRule")) (.ref (He.ga K "PlanError")) = some true), He.eqO (PySem.W.nsIn K mainGlobals "BadLot") (some (some (.ref (He.ga K "BadLot")))), (PySem.W.clsIn K (He.ga K "BadLot")).isSome, He.eqO (PySem.W.findIn K (.ref (He.ga K "BadLot")) "__getattribute__") (some (some (.builtin "BaseException.__getattribute__"))), He.eqO (PySem.W.findIn K (.ref (He.ga K "BadLot")) "__getattr__") (some none), decide (PySem.W.subIn K (.ref (He.ga K "BadLot")) (.type "BaseException") = some true), PySem.W.hasDictIn K (He.ga K "BadLot"), He.eqO (PySem.W.findIn K (.ref (He.ga K "BadLot")) "__class__") (some (some (.builtin "object.__class__"))), decide (PySem.W.mroIn K (He.ga K "BadLot") (.type "object") = some true), decide (PySem.W.typeIn K (.ref (He.ga K "BadLot")) = some (.type "type")), decide (PySem.W.kitOne K (.ref (He.ga K "BadLot")) (.type "ValueError") = some true), decide (PySem.W.kitOne K (.ref (He.ga K "BadLot")) (.ref (He.ga K "BadPlan")) = some false), decide (PySem.W.kitOne K (.ref (He.ga K "BadLot")) (.ref (He.ga K "BadPlans")) = some false), decide (PySem.W.kitOne K (.ref (He.ga K "BadLot")) (.ref (He.ga K "BadNumber")) = some false), decide (PySem.W.kitOne K (.ref (He.ga K "BadLot")) (.ref (He.ga K "BadSide")) = some false), decide (PySem.W.kitOne K (.ref (He.ga K "BadLot")) (.ref (He.ga K "BadRule")) = some false)]
def B11 (K : PySem.W.Frag) : List Bool := [decide (PySem.W.kitOne K (.ref (He.ga K "BadLot")) (.ref (He.ga K "BadRules")) = some false), decide (PySem.W.kitOne K (.ref (He.ga K "BadLot")) (.ref (He.ga K "BadBook")) = some false), decide (PySem.W.kitOne K (.ref (He.ga K "BadLot")) (.ref (He.ga K "BadThing")) = some false), decide (PySem.W.kitOne K (.ref (He.ga K "BadLot")) (.ref (He.ga K "NoPlans")) = some false), decide (PySem.W.kitOne K (.ref (He.ga K "BadLot")) (.ref (He.ga K "NoRule")) = some false), decide (PySem.W.kitOne K (.ref (He.ga K "BadLot")) (.ref (He.ga K "BadLot")) = some true), decide (PySem.W.kitOne K (.ref (He.ga K "BadLot")) (.ref (He.ga K "TooMany")) = some false), decide (PySem.W.kitOne K (.ref (He.ga K "BadLot")) (.ref (He.ga K "OtherThings")) = some false), decide (PySem.W.kitOne K (.ref (He.ga K "BadLot")) (.ref (He.ga K "NotSo")) = some false), decide (PySem.W.kitOne K (.ref (He.ga K "BadLot")) (.ref (He.ga K "NotEven")) = some false), decide (PySem.W.kitOne K (.ref (He.ga K "BadLot")) (.ref (He.ga K "BadTable")) = some false), decide (PySem.W.kitOne K (.ref (He.ga K "BadLot")) (.ref (He.ga K "NothingDone")) = some false), decide (PySem.W.kitOne K (.ref (He.ga K "BadLot")) (.ref (He.ga K "BadText")) = some false), decide (PySem.W.kitOne K (.ref (He.ga K "BadLot")) (.ref (He.ga K "BadChoice")) = some false), decide (PySem.W.kitOne K (.ref (He.ga K "BadLot")) (.ref (He.ga K "PlanError")) = some true), PySem.W.excIn K (He.ga K "BadLot") [.type "ValueError", .type "Exception", .type "BaseException", .type "object"] "ValueError.__new__", PySem.W.keepIn K (.ref (He.ga K "BadLot")), He.eqO (PySem.W.nsIn K mainGlobals "TooMany") (some (some (.ref (He.ga K "TooMany")))), (PySem.W.clsIn K (He.ga K "TooMany")).isSome, He.eqO (PySem.W.findIn K (.ref (He.ga K "TooMany")) "__getattribute__") (some (some (.builtin "BaseException.__getattribute__"))), He.eqO (PySem.W.findIn K (.ref (He.ga K "TooMany")) "__getattr__") (some none), decide (PySem.W.subIn K (.ref (He.ga K "TooMany")) (.type "BaseException") = some true), PySem.W.hasDictIn K (He.ga K "TooMany"), He.eqO (PySem.W.findIn K (.ref (He.ga K "TooMany")) "__class__") (some (some (.builtin "object.__class__"))), decide (PySem.W.mroIn K (He.ga K "TooMany") (.type "object") = some true), decide (PySem.W.typeIn K (.ref (He.ga K "TooMany")) = some (.type "type")), decide (PySem.W.kitOne K (.ref (He.ga K "TooMany")) (.type "ValueError") = some true), He.eqO (PySem.W.findIn K (.ref (He.ga K "TooMany")) "most") (some none), decide (PySem.W.kitOne K (.ref (He.ga K "TooMany")) (.ref (He.ga K "BadPlan")) = some false), decide (PySem.W.kitOne K (.ref (He.ga K "TooMany")) (.ref (He.ga K "BadPlans")) = some false)]
def B12 (K : PySem.W.Frag) : List Bool := [decide (PySem.W.kitOne K (.ref (He.ga K "TooMany")) (.ref (He.ga K "BadNumber")) = some false), decide (PySem.W.kitOne K (.ref (He.ga K "TooMany")) (.ref (He.ga K "BadSide")) = some false), decide (PySem.W.kitOne K (.ref (He.ga K "TooMany")) (.ref (He.ga K "BadRule")) = some false), decide (PySem.W.kitOne K (.ref (He.ga K "TooMany")) (.ref (He.ga K "BadRules")) = some false), decide (PySem.W.kitOne K (.ref (He.ga K "TooMany")) (.ref (He.ga K "BadBook")) = some false), decide (PySem.W.kitOne K (.ref (He.ga K "TooMany")) (.ref (He.ga K "BadThing")) = some false), decide (PySem.W.kitOne K (.ref (He.ga K "TooMany")) (.ref (He.ga K "NoPlans")) = some false), decide (PySem.W.kitOne K (.ref (He.ga K "TooMany")) (.ref (He.ga K "NoRule")) = some false), decide (PySem.W.kitOne K (.ref (He.ga K "TooMany")) (.ref (He.ga K "BadLot")) = some false), decide (PySem.W.kitOne K (.ref (He.ga K "TooMany")) (.ref (He.ga K "TooMany")) = some true), decide (PySem.W.kitOne K (.ref (He.ga K "TooMany")) (.ref (He.ga K "OtherThings")) = some false), decide (PySem.W.kitOne K (.ref (He.ga K "TooMany")) (.ref (He.ga K "NotSo")) = some false), decide (PySem.W.kitOne K (.ref (He.ga K "TooMany")) (.ref (He.ga K "NotEven")) = some false), decide (PySem.W.kitOne K (.ref (He.ga K "TooMany")) (.ref (He.ga K "BadTable")) = some false), decide (PySem.W.kitOne K (.ref (He.ga K "TooMany")) (.ref (He.ga K "NothingDone")) = some false), decide (PySem.W.kitOne K (.ref (He.ga K "TooMany")) (.ref (He.ga K "BadText")) = some false), decide (PySem.W.kitOne K (.ref (He.ga K "TooMany")) (.ref (He.ga K "BadChoice")) = some false), decide (PySem.W.kitOne K (.ref (He.ga K "TooMany")) (.ref (He.ga K "PlanError")) = some true), He.eqO (PySem.W.nsIn K mainGlobals "OtherThings") (some (some (.ref (He.ga K "OtherThings")))), (PySem.W.clsIn K (He.ga K "OtherThings")).isSome, He.eqO (PySem.W.findIn K (.ref (He.ga K "OtherThings")) "__getattribute__") (some (some (.builtin "BaseException.__getattribute__"))), He.eqO (PySem.W.findIn K (.ref (He.ga K "OtherThings")) "__getattr__") (some none), decide (PySem.W.subIn K (.ref (He.ga K "OtherThings")) (.type "BaseException") = some true), PySem.W.hasDictIn K (He.ga K "OtherThings"), He.eqO (PySem.W.findIn K (.ref (He.ga K "OtherThings")) "__class__") (some (some (.builtin "object.__class__"))), decide (PySem.W.mroIn K (He.ga K "OtherThings") (.type "object") = some true), decide (PySem.W.typeIn K (.ref (He.ga K "OtherThings")) = some (.type "type")), decide (PySem.W.kitOne K (.ref (He.ga K "OtherThings")) (.type "ValueError") = some true), decide (PySem.W.kitOne K (.ref (He.ga K "OtherThings")) (.ref (He.ga K "BadPlan")) = some false), decide (PySem.W.kitOne K (.ref (He.ga K "OtherThings")) (.ref (He.ga K "BadPlans")) = some false)]
def B13 (K : PySem.W.Frag) : List Bool := [decide (PySem.W.kitOne K (.ref (He.ga K "OtherThings")) (.ref (He.ga K "BadNumber")) = some false), decide (PySem.W.kitOne K (.ref (He.ga K "OtherThings")) (.ref (He.ga K "BadSide")) = some false), decide (PySem.W.kitOne K (.ref (He.ga K "OtherThings")) (.ref (He.ga K "BadRule")) = some false), decide (PySem.W.kitOne K (.ref (He.ga K "OtherThings")) (.ref (He.ga K "BadRules")) = some false), decide (PySem.W.kitOne K (.ref (He.ga K "OtherThings")) (.ref (He.ga K "BadBook")) = some false), decide (PySem.W.kitOne K (.ref (He.ga K "OtherThings")) (.ref (He.ga K "BadThing")) = some false), decide (PySem.W.kitOne K (.ref (He.ga K "OtherThings")) (.ref (He.ga K "NoPlans")) = some false), decide (PySem.W.kitOne K (.ref (He.ga K "OtherThings")) (.ref (He.ga K "NoRule")) = some false), decide (PySem.W.kitOne K (.ref (He.ga K "OtherThings")) (.ref (He.ga K "BadLot")) = some false), decide (PySem.W.kitOne K (.ref (He.ga K "OtherThings")) (.ref (He.ga K "TooMany")) = some false), decide (PySem.W.kitOne K (.ref (He.ga K "OtherThings")) (.ref (He.ga K "OtherThings")) = some true), decide (PySem.W.kitOne K (.ref (He.ga K "OtherThings")) (.ref (He.ga K "NotSo")) = some false), decide (PySem.W.kitOne K (.ref (He.ga K "OtherThings")) (.ref (He.ga K "NotEven")) = some false), decide (PySem.W.kitOne K (.ref (He.ga K "OtherThings")) (.ref (He.ga K "BadTable")) = some false), decide (PySem.W.kitOne K (.ref (He.ga K "OtherThings")) (.ref (He.ga K "NothingDone")) = some false), decide (PySem.W.kitOne K (.ref (He.ga K "OtherThings")) (.ref (He.ga K "BadText")) = some false), decide (PySem.W.kitOne K (.ref (He.ga K "OtherThings")) (.ref (He.ga K "BadChoice")) = some false), decide (PySem.W.kitOne K (.ref (He.ga K "OtherThings")) (.ref (He.ga K "PlanError")) = some true), PySem.W.excIn K (He.ga K "OtherThings") [.type "ValueError", .type "Exception", .type "BaseException", .type "object"] "ValueError.__new__", PySem.W.keepIn K (.ref (He.ga K "OtherThings")), He.eqO (PySem.W.nsIn K mainGlobals "NotSo") (some (some (.ref (He.ga K "NotSo")))), (PySem.W.clsIn K (He.ga K "NotSo")).isSome, He.eqO (PySem.W.findIn K (.ref (He.ga K "NotSo")) "__getattribute__") (some (some (.builtin "BaseException.__getattribute__"))), He.eqO (PySem.W.findIn K (.ref (He.ga K "NotSo")) "__getattr__") (some none), decide (PySem.W.subIn K (.ref (He.ga K "NotSo")) (.type "BaseException") = some true), PySem.W.hasDictIn K (He.ga K "NotSo"), He.eqO (PySem.W.findIn K (.ref (He.ga K "NotSo")) "__class__") (some (some (.builtin "object.__class__"))), decide (PySem.W.mroIn K (He.ga K "NotSo") (.type "object") = some true), decide (PySem.W.typeIn K (.ref (He.ga K "NotSo")) = some (.type "type")), decide (PySem.W.kitOne K (.ref (He.ga K "NotSo")) (.type "ValueError") = some true)]
def B14 (K : PySem.W.Frag) : List Bool := [decide (PySem.W.kitOne K (.ref (He.ga K "NotSo")) (.ref (He.ga K "BadPlan")) = some false), decide (PySem.W.kitOne K (.ref (He.ga K "NotSo")) (.ref (He.ga K "BadPlans")) = some false), decide (PySem.W.kitOne K (.ref (He.ga K "NotSo")) (.ref (He.ga K "BadNumber")) = some false), decide (PySem.W.kitOne K (.ref (He.ga K "NotSo")) (.ref (He.ga K "BadSide")) = some false), decide (PySem.W.kitOne K (.ref (He.ga K "NotSo")) (.ref (He.ga K "BadRule")) = some false), decide (PySem.W.kitOne K (.ref (He.ga K "NotSo")) (.ref (He.ga K "BadRules")) = some false), decide (PySem.W.kitOne K (.ref (He.ga K "NotSo")) (.ref (He.ga K "BadBook")) = some false), decide (PySem.W.kitOne K (.ref (He.ga K "NotSo")) (.ref (He.ga K "BadThing")) = some false), decide (PySem.W.kitOne K (.ref (He.ga K "NotSo")) (.ref (He.ga K "NoPlans")) = some false), decide (PySem.W.kitOne K (.ref (He.ga K "NotSo")) (.ref (He.ga K "NoRule")) = some false), decide (PySem.W.kitOne K (.ref (He.ga K "NotSo")) (.ref (He.ga K "BadLot")) = some false), decide (PySem.W.kitOne K (.ref (He.ga K "NotSo")) (.ref (He.ga K "TooMany")) = some false), decide (PySem.W.kitOne K (.ref (He.ga K "NotSo")) (.ref (He.ga K "OtherThings")) = some false), decide (PySem.W.kitOne K (.ref (He.ga K "NotSo")) (.ref (He.ga K "NotSo")) = some true), decide (PySem.W.kitOne K (.ref (He.ga K "NotSo")) (.ref (He.ga K "NotEven")) = some false), decide (PySem.W.kitOne K (.ref (He.ga K "NotSo")) (.ref (He.ga K "BadTable")) = some false), decide (PySem.W.kitOne K (.ref (He.ga K "NotSo")) (.ref (He.ga K "NothingDone")) = some false), decide (PySem.W.kitOne K (.ref (He.ga K "NotSo")) (.ref (He.ga K "BadText")) = some false), decide (PySem.W.kitOne K (.ref (He.ga K "NotSo")) (.ref (He.ga K "BadChoice")) = some false), decide (PySem.W.kitOne K (.ref (He.ga K "NotSo")) (.ref (He.ga K "PlanError")) = some true), PySem.W.excIn K (He.ga K "NotSo") [.type "ValueError", .type "Exception", .type "BaseException", .type "object"] "ValueError.__new__", PySem.W.keepIn K (.ref (He.ga K "NotSo")), He.eqO (PySem.W.nsIn K mainGlobals "NotEven") (some (some (.ref (He.ga K "NotEven")))), (PySem.W.clsIn K (He.ga K "NotEven")).isSome, He.eqO (PySem.W.findIn K (.ref (He.ga K "NotEven")) "__getattribute__") (some (some (.builtin "BaseException.__getattribute__"))), He.eqO (PySem.W.findIn K (.ref (He.ga K "NotEven")) "__getattr__") (some none), decide (PySem.W.subIn K (.ref (He.ga K "NotEven")) (.type "BaseException") = some true), PySem.W.hasDictIn K (He.ga K "NotEven"), He.eqO (PySem.W.findIn K (.ref (He.ga K "NotEven")) "__class__") (some (some (.builtin "object.__class__"))), decide (PySem.W.mroIn K (He.ga K "NotEven") (.type "object") = some true)]
def B15 (K : PySem.W.Frag) : List Bool := [decide (PySem.W.typeIn K (.ref (He.ga K "NotEven")) = some (.type "type")), decide (PySem.W.kitOne K (.ref (He.ga K "NotEven")) (.type "ValueError") = some true), decide (PySem.W.kitOne K (.ref (He.ga K "NotEven")) (.ref (He.ga K "BadPlan")) = some false), decide (PySem.W.kitOne K (.ref (He.ga K "NotEven")) (.ref (He.ga K "BadPlans")) = some false), decide (PySem.W.kitOne K (.ref (He.ga K "NotEven")) (.ref (He.ga K "BadNumber")) = some false), decide (PySem.W.kitOne K (.ref (He.ga K "NotEven")) (.ref (He.ga K "BadSide")) = some false), decide (PySem.W.kitOne K (.ref (He.ga K "NotEven")) (.ref (He.ga K "BadRule")) = some false), decide (PySem.W.kitOne K (.ref (He.ga K "NotEven")) (.ref (He.ga K "BadRules")) = some false), decide (PySem.W.kitOne K (.ref (He.ga K "NotEven")) (.ref (He.ga K "BadBook")) = some false), decide (PySem.W.kitOne K (.ref (He.ga K "NotEven")) (.ref (He.ga K "BadThing")) = some false), decide (PySem.W.kitOne K (.ref (He.ga K "NotEven")) (.ref (He.ga K "NoPlans")) = some false), decide (PySem.W.kitOne K (.ref (He.ga K "NotEven")) (.ref (He.ga K "NoRule")) = some false), decide (PySem.W.kitOne K (.ref (He.ga K "NotEven")) (.ref (He.ga K "BadLot")) = some false), decide (PySem.W.kitOne K (.ref (He.ga K "NotEven")) (.ref (He.ga K "TooMany")) = some false), decide (PySem.W.kitOne K (.ref (He.ga K "NotEven")) (.ref (He.ga K "OtherThings")) = some false), decide (PySem.W.kitOne K (.ref (He.ga K "NotEven")) (.ref (He.ga K "NotSo")) = some false), decide (PySem.W.kitOne K (.ref (He.ga K "NotEven")) (.ref (He.ga K "NotEven")) = some true), decide (PySem.W.kitOne K (.ref (He.ga K "NotEven")) (.ref (He.ga K "BadTable")) = some false), decide (PySem.W.kitOne K (.ref (He.ga K "NotEven")) (.ref (He.ga K "NothingDone")) = some false), decide (PySem.W.kitOne K (.ref (He.ga K "NotEven")) (.ref (He.ga K "BadText")) = some false), decide (PySem.W.kitOne K (.ref (He.ga K "NotEven")) (.ref (He.ga K "BadChoice")) = some false), decide (PySem.W.kitOne K (.ref (He.ga K "NotEven")) (.ref (He.ga K "PlanError")) = some true), PySem.W.excIn K (He.ga K "NotEven") [.type "ValueError", .type "Exception", .type "BaseException", .type "object"] "ValueError.__new__", PySem.W.keepIn K (.ref (He.ga K "NotEven")), He.eqO (PySem.W.nsIn K mainGlobals "BadTable") (some (some (.ref (He.ga K "BadTable")))), (PySem.W.clsIn K (He.ga K "BadTable")).isSome, He.eqO (PySem.W.findIn K (.ref (He.ga K "BadTable")) "__getattribute__") (some (some (.builtin "BaseException.__getattribute__"))), He.eqO (PySem.W.findIn K (.ref (He.ga K "BadTable")) "__getattr__") (some none), decide (PySem.W.subIn K (.ref (He.ga K "BadTable")) (.type "BaseException") = some true), PySem.W.hasDictIn K (He.ga K "BadTable")]
def B16 (K : PySem.W.Frag) : List Bool := [He.eqO (PySem.W.findIn K (.ref (He.ga K "BadTable")) "__class__") (some (some (.builtin "object.__class__"))), decide (PySem.W.mroIn K (He.ga K "BadTable") (.type "object") = some true), decide (PySem.W.typeIn K (.ref (He.ga K "BadTable")) = some (.type "type")), decide (PySem.W.kitOne K (.ref (He.ga K "BadTable")) (.type "ValueError") = some true), He.eqO (PySem.W.findIn K (.ref (He.ga K "BadTable")) "name") (some none), decide (PySem.W.kitOne K (.ref (He.ga K "BadTable")) (.ref (He.ga K "BadPlan")) = some false), decide (PySem.W.kitOne K (.ref (He.ga K "BadTable")) (.ref (He.ga K "BadPlans")) = some false), decide (PySem.W.kitOne K (.ref (He.ga K "BadTable")) (.ref (He.ga K "BadNumber")) = some false), decide (PySem.W.kitOne K (.ref (He.ga K "BadTable")) (.ref (He.ga K "BadSide")) = some false), decide (PySem.W.kitOne K (.ref (He.ga K "BadTable")) (.ref (He.ga K "BadRule")) = some false), decide (PySem.W.kitOne K (.ref (He.ga K "BadTable")) (.ref (He.ga K "BadRules")) = some false), decide (PySem.W.kitOne K (.ref (He.ga K "BadTable")) (.ref (He.ga K "BadBook")) = some false), decide (PySem.W.kitOne K (.ref (He.ga K "BadTable")) (.ref (He.ga K "BadThing")) = some false), decide (PySem.W.kitOne K (.ref (He.ga K "BadTable")) (.ref (He.ga K "NoPlans")) = some false), decide (PySem.W.kitOne K (.ref (He.ga K "BadTable")) (.ref (He.ga K "NoRule")) = some false), decide (PySem.W.kitOne K (.ref (He.ga K "BadTable")) (.ref (He.ga K "BadLot")) = some false), decide (PySem.W.kitOne K (.ref (He.ga K "BadTable")) (.ref (He.ga K "TooMany")) = some false), decide (PySem.W.kitOne K (.ref (He.ga K "BadTable")) (.ref (He.ga K "OtherThings")) = some false), decide (PySem.W.kitOne K (.ref (He.ga K "BadTable")) (.ref (He.ga K "NotSo")) = some false), decide (PySem.W.kitOne K (.ref (He.ga K "BadTable")) (.ref (He.ga K "NotEven")) = some false), decide (PySem.W.kitOne K (.ref (He.ga K "BadTable")) (.ref (He.ga K "BadTable")) = some true), decide (PySem.W.kitOne K (.ref (He.ga K "BadTable")) (.ref (He.ga K "NothingDone")) = some false), decide (PySem.W.kitOne K (.ref (He.ga K "BadTable")) (.ref (He.ga K "BadText")) = some false), decide (PySem.W.kitOne K (.ref (He.ga K "BadTable")) (.ref (He.ga K "BadChoice")) = some false), decide (PySem.W.kitOne K (.ref (He.ga K "BadTable")) (.ref (He.ga K "PlanError")) = some true), He.eqO (PySem.W.nsIn K mainGlobals "NothingDone") (some (some (.ref (He.ga K "NothingDone")))), (PySem.W.clsIn K (He.ga K "NothingDone")).isSome, He.eqO (PySem.W.findIn K (.ref (He.ga K "NothingDone")) "__getattribute__") (some (some (.builtin "BaseException.__getattribute__"))), He.eqO (PySem.W.findIn K (.ref (He.ga K "NothingDone")) "__getattr__") (some none), decide (PySem.W.subIn K (.ref (He.ga K "NothingDone")) (.type "BaseException") = some true)]
def B17 (K : PySem.W.Frag) : List Bool := [PySem.W.hasDictIn K (He.ga K "NothingDone"), He.eqO (PySem.W.findIn K (.ref (He.ga K "NothingDone")) "__class__") (some (some (.builtin "object.__class__"))), decide (PySem.W.mroIn K (He.ga K "NothingDone") (.type "object") = some true), decide (PySem.W.typeIn K (.ref (He.ga K "NothingDone")) = some (.type "type")), decide (PySem.W.kitOne K (.ref (He.ga K "NothingDone")) (.type "ValueError") = some true), decide (PySem.W.kitOne K (.ref (He.ga K "NothingDone")) (.ref (He.ga K "BadPlan")) = some false), decide (PySem.W.kitOne K (.ref (He.ga K "NothingDone")) (.ref (He.ga K "BadPlans")) = some false), decide (PySem.W.kitOne K (.ref (He.ga K "NothingDone")) (.ref (He.ga K "BadNumber")) = some false), decide (PySem.W.kitOne K (.ref (He.ga K "NothingDone")) (.ref (He.ga K "BadSide")) = some false), decide (PySem.W.kitOne K (.ref (He.ga K "NothingDone")) (.ref (He.ga K "BadRule")) = some false), decide (PySem.W.kitOne K (.ref (He.ga K "NothingDone")) (.ref (He.ga K "BadRules")) = some false), decide (PySem.W.kitOne K (.ref (He.ga K "NothingDone")) (.ref (He.ga K "BadBook")) = some false), decide (PySem.W.kitOne K (.ref (He.ga K "NothingDone")) (.ref (He.ga K "BadThing")) = some false), decide (PySem.W.kitOne K (.ref (He.ga K "NothingDone")) (.ref (He.ga K "NoPlans")) = some false), decide (PySem.W.kitOne K (.ref (He.ga K "NothingDone")) (.ref (He.ga K "NoRule")) = some false), decide (PySem.W.kitOne K (.ref (He.ga K "NothingDone")) (.ref (He.ga K "BadLot")) = some false), decide (PySem.W.kitOne K (.ref (He.ga K "NothingDone")) (.ref (He.ga K "TooMany")) = some false), decide (PySem.W.kitOne K (.ref (He.ga K "NothingDone")) (.ref (He.ga K "OtherThings")) = some false), decide (PySem.W.kitOne K (.ref (He.ga K "NothingDone")) (.ref (He.ga K "NotSo")) = some false), decide (PySem.W.kitOne K (.ref (He.ga K "NothingDone")) (.ref (He.ga K "NotEven")) = some false), decide (PySem.W.kitOne K (.ref (He.ga K "NothingDone")) (.ref (He.ga K "BadTable")) = some false), decide (PySem.W.kitOne K (.ref (He.ga K "NothingDone")) (.ref (He.ga K "NothingDone")) = some true), decide (PySem.W.kitOne K (.ref (He.ga K "NothingDone")) (.ref (He.ga K "BadText")) = some false), decide (PySem.W.kitOne K (.ref (He.ga K "NothingDone")) (.ref (He.ga K "BadChoice")) = some false), decide (PySem.W.kitOne K (.ref (He.ga K "NothingDone")) (.ref (He.ga K "PlanError")) = some true), PySem.W.excIn K (He.ga K "NothingDone") [.type "ValueError", .type "Exception", .type "BaseException", .type "object"] "ValueError.__new__", PySem.W.keepIn K (.ref (He.ga K "NothingDone")), He.eqO (PySem.W.nsIn K mainGlobals "BadText") (some (some (.ref (He.ga K "BadText")))), (PySem.W.clsIn K (He.ga K "BadText")).isSome, He.eqO (PySem.W.findIn K (.ref (He.ga K "BadText")) "__getattribute__") (some (some (.builtin "BaseException.__getattribute__")))]
def B18 (K : PySem.W.Frag) : List Bool := [He.eqO (PySem.W.findIn K (.ref (He.ga K "BadText")) "__getattr__") (some none), decide (PySem.W.subIn K (.ref (He.ga K "BadText")) (.type "BaseException") = some true), PySem.W.hasDictIn K (He.ga K "BadText"), He.eqO (PySem.W.findIn K (.ref (He.ga K "BadText")) "__class__") (some (some (.builtin "object.__class__"))), decide (PySem.W.mroIn K (He.ga K "BadText") (.type "object") = some true), decide (PySem.W.typeIn K (.ref (He.ga K "BadText")) = some (.type "type")), decide (PySem.W.kitOne K (.ref (He.ga K "BadText")) (.type "ValueError") = some true), He.eqO (PySem.W.findIn K (.ref (He.ga K "BadText")) "line") (some none), decide (PySem.W.kitOne K (.ref (He.ga K "BadText")) (.ref (He.ga K "BadPlan")) = some false), decide (PySem.W.kitOne K (.ref (He.ga K "BadText")) (.ref (He.ga K "BadPlans")) = some false), decide (PySem.W.kitOne K (.ref (He.ga K "BadText")) (.ref (He.ga K "BadNumber")) = some false), decide (PySem.W.kitOne K (.ref (He.ga K "BadText")) (.ref (He.ga K "BadSide")) = some false), decide (PySem.W.kitOne K (.ref (He.ga K "BadText")) (.ref (He.ga K "BadRule")) = some false), decide (PySem.W.kitOne K (.ref (He.ga K "BadText")) (.ref (He.ga K "BadRules")) = some false), decide (PySem.W.kitOne K (.ref (He.ga K "BadText")) (.ref (He.ga K "BadBook")) = some false), decide (PySem.W.kitOne K (.ref (He.ga K "BadText")) (.ref (He.ga K "BadThing")) = some false), decide (PySem.W.kitOne K (.ref (He.ga K "BadText")) (.ref (He.ga K "NoPlans")) = some false), decide (PySem.W.kitOne K (.ref (He.ga K "BadText")) (.ref (He.ga K "NoRule")) = some false), decide (PySem.W.kitOne K (.ref (He.ga K "BadText")) (.ref (He.ga K "BadLot")) = some false), decide (PySem.W.kitOne K (.ref (He.ga K "BadText")) (.ref (He.ga K "TooMany")) = some false), decide (PySem.W.kitOne K (.ref (He.ga K "BadText")) (.ref (He.ga K "OtherThings")) = some false), decide (PySem.W.kitOne K (.ref (He.ga K "BadText")) (.ref (He.ga K "NotSo")) = some false), decide (PySem.W.kitOne K (.ref (He.ga K "BadText")) (.ref (He.ga K "NotEven")) = some false), decide (PySem.W.kitOne K (.ref (He.ga K "BadText")) (.ref (He.ga K "BadTable")) = some false), decide (PySem.W.kitOne K (.ref (He.ga K "BadText")) (.ref (He.ga K "NothingDone")) = some false), decide (PySem.W.kitOne K (.ref (He.ga K "BadText")) (.ref (He.ga K "BadText")) = some true), decide (PySem.W.kitOne K (.ref (He.ga K "BadText")) (.ref (He.ga K "BadChoice")) = some false), decide (PySem.W.kitOne K (.ref (He.ga K "BadText")) (.ref (He.ga K "PlanError")) = some true), He.eqO (PySem.W.nsIn K mainGlobals "BadChoice") (some (some (.ref (He.ga K "BadChoice")))), (PySem.W.clsIn K (He.ga K "BadChoice")).isSome]
def B19 (K : PySem.W.Frag) : List Bool := [He.eqO (PySem.W.findIn K (.ref (He.ga K "BadChoice")) "__getattribute__") (some (some (.builtin "BaseException.__getattribute__"))), He.eqO (PySem.W.findIn K (.ref (He.ga K "BadChoice")) "__getattr__") (some none), decide (PySem.W.subIn K (.ref (He.ga K "BadChoice")) (.type "BaseException") = some true), PySem.W.hasDictIn K (He.ga K "BadChoice"), He.eqO (PySem.W.findIn K (.ref (He.ga K "BadChoice")) "__class__") (some (some (.builtin "object.__class__"))), decide (PySem.W.mroIn K (He.ga K "BadChoice") (.type "object") = some true), decide (PySem.W.typeIn K (.ref (He.ga K "BadChoice")) = some (.type "type")), decide (PySem.W.kitOne K (.ref (He.ga K "BadChoice")) (.type "ValueError") = some true), decide (PySem.W.kitOne K (.ref (He.ga K "BadChoice")) (.ref (He.ga K "BadPlan")) = some false), decide (PySem.W.kitOne K (.ref (He.ga K "BadChoice")) (.ref (He.ga K "BadPlans")) = some false), decide (PySem.W.kitOne K (.ref (He.ga K "BadChoice")) (.ref (He.ga K "BadNumber")) = some false), decide (PySem.W.kitOne K (.ref (He.ga K "BadChoice")) (.ref (He.ga K "BadSide")) = some false), decide (PySem.W.kitOne K (.ref (He.ga K "BadChoice")) (.ref (He.ga K "BadRule")) = some false), decide (PySem.W.kitOne K (.ref (He.ga K "BadChoice")) (.ref (He.ga K "BadRules")) = some false), decide (PySem.W.kitOne K (.ref (He.ga K "BadChoice")) (.ref (He.ga K "BadBook")) = some false), decide (PySem.W.kitOne K (.ref (He.ga K "BadChoice")) (.ref (He.ga K "BadThing")) = some false), decide (PySem.W.kitOne K (.ref (He.ga K "BadChoice")) (.ref (He.ga K "NoPlans")) = some false), decide (PySem.W.kitOne K (.ref (He.ga K "BadChoice")) (.ref (He.ga K "NoRule")) = some false), decide (PySem.W.kitOne K (.ref (He.ga K "BadChoice")) (.ref (He.ga K "BadLot")) = some false), decide (PySem.W.kitOne K (.ref (He.ga K "BadChoice")) (.ref (He.ga K "TooMany")) = some false), decide (PySem.W.kitOne K (.ref (He.ga K "BadChoice")) (.ref (He.ga K "OtherThings")) = some false), decide (PySem.W.kitOne K (.ref (He.ga K "BadChoice")) (.ref (He.ga K "NotSo")) = some false), decide (PySem.W.kitOne K (.ref (He.ga K "BadChoice")) (.ref (He.ga K "NotEven")) = some false), decide (PySem.W.kitOne K (.ref (He.ga K "BadChoice")) (.ref (He.ga K "BadTable")) = some false), decide (PySem.W.kitOne K (.ref (He.ga K "BadChoice")) (.ref (He.ga K "NothingDone")) = some false), decide (PySem.W.kitOne K (.ref (He.ga K "BadChoice")) (.ref (He.ga K "BadText")) = some false), decide (PySem.W.kitOne K (.ref (He.ga K "BadChoice")) (.ref (He.ga K "BadChoice")) = some true), decide (PySem.W.kitOne K (.ref (He.ga K "BadChoice")) (.ref (He.ga K "PlanError")) = some true), PySem.W.excIn K (He.ga K "BadChoice") [.type "ValueError", .type "Exception", .type "BaseException", .type "object"] "ValueError.__new__", PySem.W.keepIn K (.ref (He.ga K "BadChoice"))]
def B20 (K : PySem.W.Frag) : List Bool := [He.eqO (PySem.W.nsIn K mainGlobals "PlanError") (some (some (.ref (He.ga K "PlanError")))), (PySem.W.clsIn K (He.ga K "PlanError")).isSome, He.eqO (PySem.W.findIn K (.ref (He.ga K "PlanError")) "__getattribute__") (some (some (.builtin "BaseException.__getattribute__"))), He.eqO (PySem.W.findIn K (.ref (He.ga K "PlanError")) "__getattr__") (some none), decide (PySem.W.subIn K (.ref (He.ga K "PlanError")) (.type "BaseException") = some true), PySem.W.hasDictIn K (He.ga K "PlanError"), He.eqO (PySem.W.findIn K (.ref (He.ga K "PlanError")) "__class__") (some (some (.builtin "object.__class__"))), decide (PySem.W.mroIn K (He.ga K "PlanError") (.type "object") = some true), decide (PySem.W.typeIn K (.ref (He.ga K "PlanError")) = some (.type "type")), decide (PySem.W.kitOne K (.ref (He.ga K "PlanError")) (.type "ValueError") = some true), decide (PySem.W.kitOne K (.ref (He.ga K "PlanError")) (.ref (He.ga K "BadPlan")) = some false), decide (PySem.W.kitOne K (.ref (He.ga K "PlanError")) (.ref (He.ga K "BadPlans")) = some false), decide (PySem.W.kitOne K (.ref (He.ga K "PlanError")) (.ref (He.ga K "BadNumber")) = some false), decide (PySem.W.kitOne K (.ref (He.ga K "PlanError")) (.ref (He.ga K "BadSide")) = some false), decide (PySem.W.kitOne K (.ref (He.ga K "PlanError")) (.ref (He.ga K "BadRule")) = some false), decide (PySem.W.kitOne K (.ref (He.ga K "PlanError")) (.ref (He.ga K "BadRules")) = some false), decide (PySem.W.kitOne K (.ref (He.ga K "PlanError")) (.ref (He.ga K "BadBook")) = some false), decide (PySem.W.kitOne K (.ref (He.ga K "PlanError")) (.ref (He.ga K "BadThing")) = some false), decide (PySem.W.kitOne K (.ref (He.ga K "PlanError")) (.ref (He.ga K "NoPlans")) = some false), decide (PySem.W.kitOne K (.ref (He.ga K "PlanError")) (.ref (He.ga K "NoRule")) = some false), decide (PySem.W.kitOne K (.ref (He.ga K "PlanError")) (.ref (He.ga K "BadLot")) = some false), decide (PySem.W.kitOne K (.ref (He.ga K "PlanError")) (.ref (He.ga K "TooMany")) = some false), decide (PySem.W.kitOne K (.ref (He.ga K "PlanError")) (.ref (He.ga K "OtherThings")) = some false), decide (PySem.W.kitOne K (.ref (He.ga K "PlanError")) (.ref (He.ga K "NotSo")) = some false), decide (PySem.W.kitOne K (.ref (He.ga K "PlanError")) (.ref (He.ga K "NotEven")) = some false), decide (PySem.W.kitOne K (.ref (He.ga K "PlanError")) (.ref (He.ga K "BadTable")) = some false), decide (PySem.W.kitOne K (.ref (He.ga K "PlanError")) (.ref (He.ga K "NothingDone")) = some false), decide (PySem.W.kitOne K (.ref (He.ga K "PlanError")) (.ref (He.ga K "BadText")) = some false), decide (PySem.W.kitOne K (.ref (He.ga K "PlanError")) (.ref (He.ga K "BadChoice")) = some false), decide (PySem.W.kitOne K (.ref (He.ga K "PlanError")) (.ref (He.ga K "PlanError")) = some true)]
def B21 (K : PySem.W.Frag) : List Bool := [PySem.W.excIn K (He.ga K "PlanError") [.type "ValueError", .type "Exception", .type "BaseException", .type "object"] "ValueError.__new__", PySem.W.keepIn K (.ref (He.ga K "PlanError")), He.eqO (PySem.W.specialIn K (.builtin "object.__class__") "__get__") (some (some (.builtin "getset_descriptor.__get__"))), decide (PySem.W.takesIn K (.builtin "object.__class__") = some true), He.eqO (PySem.W.nsIn K mainGlobals "ValueError") (some none), He.eqO (PySem.W.nsIn K mainGlobals "abs") (some none), He.eqO (PySem.W.nsIn K mainGlobals "enumerate") (some none), He.eqO (PySem.W.nsIn K mainGlobals "int") (some none), He.eqO (PySem.W.nsIn K mainGlobals "isinstance") (some none), He.eqO (PySem.W.nsIn K mainGlobals "len") (some none), He.eqO (PySem.W.nsIn K mainGlobals "min") (some none), He.eqO (PySem.W.nsIn K mainGlobals "range") (some none), He.eqO (PySem.W.nsIn K mainGlobals "repr") (some none), He.eqO (PySem.W.nsIn K mainGlobals "Book") (some none), He.eqO (PySem.W.nsIn K mainGlobals "Plans") (some none), He.eqO (PySem.W.nsIn K mainGlobals "RoundBook") (some none), He.eqO (PySem.W.nsIn K mainGlobals "Stand") (some none), He.eqO (PySem.W.nsIn K mainGlobals "Held") (some none), He.eqO (PySem.W.nsIn K mainGlobals "Live") (some none), He.eqO (PySem.W.nsIn K mainGlobals "Desk") (some none), a1p K (He.ga K "BadBook") (He.ma K (He.ga K "BadBook") "__init__") "part", a1p K (He.ga K "BadPlans") (He.ma K (He.ga K "BadPlans") "__init__") "at", a1p K (He.ga K "BadRules") (He.ma K (He.ga K "BadRules") "__init__") "at", a1p K (He.ga K "BadTable") (He.ma K (He.ga K "BadTable") "__init__") "name", a1p K (He.ga K "BadText") (He.ma K (He.ga K "BadText") "__init__") "line", a1p K (He.ga K "BadThing") (He.ma K (He.ga K "BadThing") "__init__") "thing", a1p K (He.ga K "NoRule") (He.ma K (He.ga K "NoRule") "__init__") "at", a1p K (He.ga K "TooMany") (He.ma K (He.ga K "TooMany") "__init__") "most"]
def B (K : PySem.W.Frag) : List Bool := B0 K ++ (B1 K ++ (B2 K ++ (B3 K ++ (B4 K ++ (B5 K ++ (B6 K ++ (B7 K ++ (B8 K ++ (B9 K ++ (B10 K ++ (B11 K ++ (B12 K ++ (B13 K ++ (B14 K ++ (B15 K ++ (B16 K ++ (B17 K ++ (B18 K ++ (B19 K ++ (B20 K ++ B21 K))))))))))))))))))))
def a7s : List PySem.Str := ["__name__", "PlanError", "BadPlan", "BadPlans", "BadNumber", "BadSide", "BadRule", "BadRules", "BadBook", "BadThing", "NoPlans", "NoRule", "BadLot", "TooMany", "OtherThings", "NotSo", "NotEven", "BadTable", "NothingDone", "BadText", "BadChoice", "_law_begun", "_law_draw", "_law_pick", "_law_odd", "_law_marks", "_law_apart"]
def loose : List PySem.Str := a7s
abbrev R : PySem.W.OpenRow := PySem.W.OpenLaw.row PySem.Challenge.rw_lastmakers_k01_errors_by_hand
def ob (s : PySem.W.SharedT) : Hd.AlX := Hd.obsG xs B ds (HandSHeadRun.getT s)
theorem b04 (w : World) : HandSHeadRun.a9t R (PySem.W.view R.prog [28]) 20000 loose w := by
 intro os
 kernel_rfl
theorem runB (w : World) : HandSHeadRun.a9C R (Hd.hookX xs B ds) ob 20000 w := by
 intro os
 kernel_rfl
theorem run (w : World) : HandSHeadRun.RunEq R (PySem.W.view R.prog [28]) (Hd.hookX xs B ds) ob 20000 loose w := HandSHeadRun.a3Z (b04 w) (runB w)
end Hx
set_option Elab.async false
set_option linter.all false
set_option maxRecDepth 100000
set_option maxHeartbeats 4000000
set_option synthInstance.maxSize 1024
set_option synthInstance.maxHeartbeats 400000
namespace Fx
open PySem L2

theorem RpA.get' {K : Ck} {F : Hp} : ∀ {vs : List V} {ds : List PyData} {i : Nat} {d : PyData}, RpA K F vs ds → ds[i]? = some d → ∃ v, vs[i]? = some v ∧ Rp K F v d
 | _, _, _, _, .nil, e => by simp at e
 | _, _, 0, _, .cons r _, e => by simp at e; subst e; exact ⟨_, rfl, r⟩
 | _, _, i + 1, d, .cons _ t, e => by
  obtain ⟨v, h1, h2⟩ := RpA.get' (i := i) (d := d) t (by simpa using e)
  exact ⟨v, by simpa using h1, h2⟩
theorem RpA.eraseIdx {K : Ck} {F : Hp} : ∀ {vs : List V} {ds : List PyData} (i : Nat), RpA K F vs ds → RpA K F (vs.eraseIdx i) (ds.eraseIdx i)
 | _, _, _, .nil => .nil
 | _, _, 0, .cons _ t => t
 | _, _, i + 1, .cons q t => .cons q (RpA.eraseIdx i t)
theorem RpA.reverse {K : Ck} {F : Hp} {vs : List V} {ds : List PyData} (h : RpA K F vs ds) : RpA K F vs.reverse ds.reverse := by
 induction vs generalizing ds with
 | nil => cases h; exact .nil
 | cons v vs ih =>
  cases h with
  | cons r t => simpa using (ih t).append (.cons r .nil)
theorem RpA.nil_iff {K : Ck} {F : Hp} {vs : List V} {ds : List PyData} (h : RpA K F vs ds) : vs = [] ↔ ds = [] := by
 cases h <;> simp

end Fx

namespace Fx
open PySem L2

theorem R.wp_bind {α β : Type} {m : R α} {k : α → Gs → R β} {P : β → Gs → Prop} {X : PyData → Gs → Prop} : (m.bind k).wp P X ↔ m.wp (fun a g => (k a g).wp P X) X := by
 cases m <;> exact Iff.rfl
theorem R.wp_imp {α : Type} {m : R α} {P P' : α → Gs → Prop} {X X' : PyData → Gs → Prop} (h : m.wp P X) (hp : ∀ a g, P a g → P' a g) (hx : ∀ x g, X x g → X' x g) : m.wp P' X' := by
 cases m
 ·exact hp _ _ h
 ·exact hx _ _ h
 ·exact h
theorem R.wp_ofO {α : Type} {o : Option α} {g : Gs} {P : α → Gs → Prop} {X : PyData → Gs → Prop} (h : (R.ofO o g).wp P X) : ∃ a, o = some a ∧ P a g := by
 cases o with
 | none => exact h.elim
 | some a => exact ⟨a, rfl, h⟩

section
variable {K : Ck} {S : Sta} {B F0 F H F' H' : Hp} {ρ : List SD} {σ : St} {g g' : Gs}
theorem g9.rebase (E : g9 K S B F0 F H ρ σ g) : g9 K S B F F H ρ σ g :=
 ⟨E.st, E.tb, E.sub, Le.refl F, fun _ _ => rfl, E.keep, E.mF, E.j, E.len, E.sl, E.dist⟩
theorem g9.unbase {F1 : Hp} (E0 : g9 K S B F0 F1 H' ρ σ g') {ρ' : List SD} {σ' : St} (E : g9 K S B F1 F H ρ' σ' g) : g9 K S B F0 F H ρ' σ' g :=
 ⟨E.st, E.tb, E.sub, E0.mono.trans E.mono, fun a h => (E.fz a h).trans (E0.fz a h), E.keep, E.mF, E.j, E.len, E.sl, E.dist⟩
theorem g9.ownH (E : g9 K S B F0 F H ρ σ g) {i : Nat} {s : SD} {a : Addr} (h : ρ[i]? = some s) (o : s.owner = true) (e : σ[i]? = some (some (.ref a))) : H a ≠ none := by
 obtain ⟨v, hv, q⟩ := E.sl i s h
 obtain ⟨b, rfl, _, _, _, h4⟩ := q.at o
 rw [hv] at e
 cases e
 obtain ⟨u, hu⟩ := h4.there
 rw [hu]; exact fun z => by cases z
end

/-- a slot from a value -/
def a1n : RV → SD
 | .d x => .d x
 | .o v => .o v
 | .nl xs => .own xs
 | .nd t ks => .dic t ks
abbrev EFt := List SD → Gs → R Bool
abbrev EFa := List SD → Gs → R (List AV)
abbrev EFg := PyData → List SD → Option (List SD)
def SmT (K : Ck) (W : WX) (t : TT) (f : EFt) : Prop := ∀ (S : Sta) (B F0 F H : Hp) (ρ : List SD) (σ : St) (g : Gs) (Pd : Bool → Gs → Prop) (Xd : PyData → Gs → Prop) (Q : Bool → Hp → Prop), g9 K S B F0 F H ρ σ g → (f ρ g).wp Pd Xd →
 (∀ b g' F' H', Pd b g' → Ext S F H F' H' → S.J g' H' → Q b H') →
 (∀ x g' cls d F' H', Xd x g' → Ext S F H F' H' → S.J g' H' → ExcRep K S H F' H' cls d x → W cls d σ H') → t σ H Q
def SmA (K : Ck) (W : WX) (t : TA) (f : EFa) : Prop := ∀ (S : Sta) (B F0 F H : Hp) (ρ : List SD) (σ : St) (g : Gs) (Pd : List AV → Gs → Prop) (Xd : PyData → Gs → Prop) (Q : List V → Hp → Prop), g9 K S B F0 F H ρ σ g → (f ρ g).wp Pd Xd →
 (∀ as g' vs F' H', Pd as g' → Ext S F H F' H' → S.J g' H' → v7 K F' vs as → Q vs H') →
 (∀ x g' cls d F' H', Xd x g' → Ext S F H F' H' → S.J g' H' → ExcRep K S H F' H' cls d x → W cls d σ H') → t σ H Q
def SmI (w : Bool) (K : Ck) (W : WX) (t : TI) (f : EFi) : Prop := ∀ (S : Sta) (B F0 F H : Hp) (ρ : List SD) (σ : St) (g : Gs) (Pd : List PyData → Gs → Prop) (Xd : PyData → Gs → Prop) (Rr : It → Hp → Prop), g9 K S B F0 F H ρ σ g → (f ρ g).wp Pd Xd →
 (∀ ds g' F' H' J, Pd ds g' → Ext S F H F' H' → S.J g' H' → a4O w K S F' J ds → Rr J H') →
 (∀ x g' cls d F' H', Xd x g' → Ext S F H F' H' → S.J g' H' → ExcRep K S H F' H' cls d x → W cls d σ H') → t σ H Rr
def SmG (w : Bool) (K : Ck) (t : TG) (is : List Nat) (f : EFg) : Prop := ∀ (S : Sta) (B F0 F H : Hp) (ρ : List SD) (σ : St) (g : Gs) (v : V) (d : PyData) (ρ1 : List SD) (Q : St → Hp → Prop), g9 K S B F0 F H ρ σ g → RpW w K F v d → f d ρ = some ρ1 →
 (∀ σ', g9 K S B F0 F H ρ1 σ' g → (∀ vs : List Nat, (∀ i ∈ is, i ∈ vs) → wipe σ' vs = wipe σ vs) → (∀ (i : Nat) s, ρ1[i]? = some s → s.owner = true → ρ[i]? = some s ∧ σ'[i]? = σ[i]?) → Q σ' H) → t v σ H Q
section
variable {K : Ck} {S : Sta} {B F0 F H F' H' : Hp} {ρ : List SD} {σ : St} {g g' : Gs}
theorem a6m {r : RV} {g : Gs} {P : PyData → Gs → Prop} {X : PyData → Gs → Prop} (h : (a6i r g).wp P X) : r.ok ∧ ∃ d, r.av = .d d ∧ P d g := by
 cases r with
 | d x => exact ⟨trivial, _, rfl, h⟩
 | nl xs => exact ⟨trivial, _, rfl, h⟩
 | nd t ks => exact ⟨trivial, _, rfl, h⟩
 | o v => exact h.elim
theorem a74 {r : RV} {g : Gs} {P : AV → Gs → Prop} {X : PyData → Gs → Prop} (h : (a4n r g).wp P X) : r.ok ∧ P r.av g := by
 cases r with
 | d x => exact ⟨trivial, h⟩
 | nl xs => exact ⟨trivial, h⟩
 | nd t ks => exact ⟨trivial, h⟩
 | o v => exact ⟨trivial, h⟩
end

theorem g9.okh {K : Ck} {S : Sta} {B F0 F H : Hp} {ρ : List SD} {σ : St} {g : Gs} (E : g9 K S B F0 F H ρ σ g) : Okh S F H := ⟨E.sub, fun a m => S.there _ _ _ E.j m⟩
def OpD (K : Ck) (r : R2) (go : GO2) : Prop := ∀ (S : Sta) (F H : Hp) (x y : V) (dx dy : PyData) (Qd : RV → Prop) (Q : VK), Okh S F H → Rp K F x dx → Rp K F y dy → go dx dy Qd → I5 K S F H Qd Q → r x y H Q
def a8o (K : Ck) (r : V → Hp → VK → Prop) (go : GO1) : Prop := ∀ (S : Sta) (F H : Hp) (x : V) (dx : PyData) (Qd : RV → Prop) (Q : VK), Okh S F H → Rp K F x dx → go dx Qd → I5 K S F H Qd Q → r x H Q
def a4A (K : Ck) (r : List V → Hp → VK → Prop) (go : GOA) : Prop := ∀ (S : Sta) (F H : Hp) (xs : List V) (as : List AV) (Qd : RV → Prop) (Q : VK), Okh S F H → v7 K F xs as → go as Qd → I5 K S F H Qd Q → r xs H Q
end Fx

namespace Fx
open PySem L2

def k4 (i : Nat) : EF := fun ρ g => a82 ρ[i]? g
def fC (x : PyData) : EF := fun _ g => .ok (.d x) g
section
variable {K : Ck} {W : WX}
theorem g6 (i : Nat) : Sm K W (tVar i) (k4 i) := by
 intro S B F0 F H ρ σ g Pd Xd Q E h k kx
 unfold k4 at h
 cases e : ρ[i]? with
 | none => rw [e] at h; exact h.elim
 | some s =>
  rw [e] at h
  obtain ⟨v, h1, h2⟩ := E.sl i s e
  cases s with
  | d x =>
   obtain ⟨w, rfl, h3⟩ := h2
   exact ⟨w, h1, k _ _ _ _ _ h (Ext.refl E.sub) E.j h3⟩
  | o w =>
   cases h2
   exact ⟨w, h1, k _ _ _ _ _ h (Ext.refl E.sub) E.j rfl⟩
  | lk x =>
   obtain ⟨w, rfl, h3, _⟩ := h2
   exact ⟨w, h1, k _ _ _ _ _ h (Ext.refl E.sub) E.j h3⟩
  | u => exact h.elim
  | er x => exact h.elim
  | lm os q => exact h.elim
  | own xs => exact h.elim
  | dic t ks => exact h.elim
  | ins x dx C nm fs => exact h.elim
theorem a89 {v : V} {x : PyData} (r : ∀ F, Rp K F v x) : Sm K W (tC v) (fC x) := fun S B F0 F H ρ σ g Pd Xd Q E h k kx => k _ _ _ _ _ h (Ext.refl E.sub) E.j (r F)
theorem i0 {i : Int} : Sm K W (tC (.int i)) (fC (.int i)) := a89 fun _ => .int i
theorem u4 {i : Str} : Sm K W (tC (.str i)) (fC (.str i)) := a89 fun _ => .str i
theorem S4 {i : Bool} : Sm K W (tC (.bl i)) (fC (.bool i)) := a89 fun _ => .bl i
theorem a4J : Sm K W (tC .non) (fC .none) := a89 fun _ => .non
end

def fOp (o : O2) (fa fb : EF) : EF := fun ρ g => (v6 fa ρ g).bind fun x g1 => (v6 fb ρ g1).bind fun y g2 => R.ofO (o x y) g2
def fUn (o : O1) (fa : EF) : EF := fun ρ g => (v6 fa ρ g).bind fun x g1 => R.ofO (o x) g1
/-- what an operation does with data -/
def OpF (K : Ck) (r : R2) (o : O2) : Prop := ∀ (S : Sta) (F H : Hp) (x y : V) (dx dy : PyData) (rv : RV) (Q : VK), Okh S F H → Rp K F x dx → Rp K F y dy → o dx dy = some rv → I5 K S F H (fun r => r = rv) Q → r x y H Q
def a8s (K : Ck) (r : V → Hp → VK → Prop) (o : O1) : Prop := ∀ (S : Sta) (F H : Hp) (x : V) (dx : PyData) (rv : RV) (Q : VK), Okh S F H → Rp K F x dx → o dx = some rv → I5 K S F H (fun r => r = rv) Q → r x H Q
def a5F (K : Ck) (r : List V → Hp → VK → Prop) (o : OA) : Prop := ∀ (S : Sta) (F H : Hp) (xs : List V) (as : List AV) (rv : RV) (Q : VK), Okh S F H → v7 K F xs as → o as = some rv → I5 K S F H (fun r => r = rv) Q → r xs H Q
section
variable {K : Ck} {W : WX} {S : Sta} {B F0 F H : Hp} {ρ : List SD} {σ : St} {g : Gs} {Xd : PyData → Gs → Prop}
/-- an operand is looked at, as data -/
theorem Sm.dat {t : TE} {f : EF} (h : Sm K W t f) (E : g9 K S B F0 F H ρ σ g) {P : PyData → Gs → Prop} {Q : VK} (hf : (v6 f ρ g).wp P Xd) (kx : XOk K W S F H σ Xd)
  (go : ∀ x g' v F' H', P x g' → Ext S F H F' H' → g9 K S B F0 F' H' ρ σ g' → Rp K F' v x → Q v H') : t σ H Q := by
 refine h S B F0 F H ρ σ g _ Xd Q E (R.wp_bind.mp hf) (fun r g' v F' H' q e j rv => ?_) kx
 obtain ⟨ok, x, ex, px⟩ := a6m q
 obtain ⟨F2, e2, l2, ra⟩ := e.frz j rv ok
 rw [ex] at ra
 exact go x g' v F2 H' px e2 (E.ext e2 j) ra
theorem j9 {r : R2} {o : O2} {ta tb : TE} {fa fb : EF} (ho : OpF K r o) (ha : Sm K W ta fa) (hb : Sm K W tb fb) : Sm K W (tOp r ta tb) (fOp o fa fb) := by
 intro S B F0 F H ρ σ g Pd Xd Q E h k kx
 refine ha.dat E (R.wp_bind.mp h) kx fun x g1 vx F1 H1 h1 e1 E1 r1 => ?_
 refine hb.dat E1 (R.wp_bind.mp h1) (XOk.ext kx e1 E1.j) fun y g2 vy F2 H2 h2 e2 E2 r2 => ?_
 obtain ⟨rv, h3, h4⟩ := R.wp_ofO h2
 refine ho S F2 H2 vx vy x y rv Q E2.okh (r1.mono e2.le) r2 h3 fun r v F' H' q e j rv => ?_
 subst q
 exact k _ g2 v F' H' h4 ((e1.trans e2 E1.j).trans e E2.j) (j _ E2.j) (rv.wide fun a ha => (e1.trans e2 E1.j).free E2.j ha)
theorem a94 {r : V → Hp → VK → Prop} {o : O1} {ta : TE} {fa : EF} (ho : a8s K r o) (ha : Sm K W ta fa) : Sm K W (tUn r ta) (fUn o fa) := by
 intro S B F0 F H ρ σ g Pd Xd Q E h k kx
 refine ha.dat E (R.wp_bind.mp h) kx fun x g1 vx F1 H1 h1 e1 E1 r1 => ?_
 obtain ⟨rv, h3, h4⟩ := R.wp_ofO h1
 refine ho S F1 H1 vx x rv Q E1.okh r1 h3 fun r v F' H' q e j rv => ?_
 subst q
 exact k _ g1 v F' H' h4 (e1.trans e E1.j) (j _ E1.j) (rv.wide fun a ha => e1.free E1.j ha)
end
theorem a69 {r : RV} {g : Gs} {P : Bool → Gs → Prop} {X : PyData → Gs → Prop} (h : (a8a r g).wp P X) : ∃ b, r = .d (.bool b) ∧ P b g := by
 cases r with
 | d x =>
  cases x with
  | bool b => exact ⟨b, rfl, h⟩
  | _ => exact h.elim
 | _ => exact h.elim
def u5 (f : EF) : EFt := fun ρ g => (f ρ g).bind a8a
def a0B (fa fb : EFt) : EFt := fun ρ g => (fa ρ g).bind fun c g1 => if c = true then fb ρ g1 else .ok false g1
def fOr (fa fb : EFt) : EFt := fun ρ g => (fa ρ g).bind fun c g1 => if c = true then .ok true g1 else fb ρ g1
def a0a (fa : EFt) : EFt := fun ρ g => (fa ρ g).bind fun c g1 => .ok (!c) g1
def U8 (fa fb : EF) : EF := fun ρ g => (u5 fa ρ g).bind fun c g1 => if c = true then fb ρ g1 else .ok (.d (.bool false)) g1
def a3r (fa fb : EF) : EF := fun ρ g => (u5 fa ρ g).bind fun c g1 => if c = true then .ok (.d (.bool true)) g1 else fb ρ g1
def V7 (fa : EF) : EF := fun ρ g => (u5 fa ρ g).bind fun c g1 => .ok (.d (.bool (!c))) g1
def fIf (ft : EFt) (fa fb : EF) : EF := fun ρ g => (ft ρ g).bind fun c g1 => if c = true then fa ρ g1 else fb ρ g1
section
variable {K : Ck} {W : WX} {S : Sta} {B F0 F H : Hp} {ρ : List SD} {σ : St} {g : Gs} {Xd : PyData → Gs → Prop}
theorem a7I {r : RV} {v : V} {g : Gs} {P : Bool → Gs → Prop} {X : PyData → Gs → Prop} {H0 F H : Hp} (h : (a8a r g).wp P X) (rv : A1 K S H0 F H v r) : ∃ b, v = .bl b ∧ P b g := by
 obtain ⟨b, rfl, q⟩ := a69 h
 have rv : Rp K F v (.bool b) := rv
 cases rv
 exact ⟨b, rfl, q⟩
theorem v5 {t : TE} {f : EF} (h : Sm K W t f) : SmT K W (tTest t) (u5 f) := by
 intro S B F0 F H ρ σ g Pd Xd Q E hf k kx
 refine h S B F0 F H ρ σ g _ Xd _ E (R.wp_bind.mp hf) (fun r g' v F' H' q e j rv => ?_) kx
 obtain ⟨b, rfl, qb⟩ := a7I q rv
 exact ⟨b, rfl, k b g' F' H' qb e j⟩
theorem a5u {ta tb : TT} {fa fb : EFt} (ha : SmT K W ta fa) (hb : SmT K W tb fb) : SmT K W (tAnd ta tb) (a0B fa fb) := by
 intro S B F0 F H ρ σ g Pd Xd Q E hf k kx
 refine ha S B F0 F H ρ σ g _ Xd _ E (R.wp_bind.mp hf) (fun c g1 F1 H1 q e j => ?_) kx
 cases c with
 | true =>
  rw [if_pos rfl] at q ⊢
  exact hb S B F0 F1 H1 ρ σ g1 _ Xd _ (E.ext e j) q (fun b g2 F2 H2 q2 e2 j2 => k b g2 F2 H2 q2 (e.trans e2 j) j2) (XOk.ext kx e j)
 | false =>
  rw [if_neg Bool.false_ne_true] at q ⊢
  exact k _ _ _ _ q e j
theorem a2L {ta tb : TT} {fa fb : EFt} (ha : SmT K W ta fa) (hb : SmT K W tb fb) : SmT K W (tOr ta tb) (fOr fa fb) := by
 intro S B F0 F H ρ σ g Pd Xd Q E hf k kx
 refine ha S B F0 F H ρ σ g _ Xd _ E (R.wp_bind.mp hf) (fun c g1 F1 H1 q e j => ?_) kx
 cases c with
 | false =>
  rw [if_neg Bool.false_ne_true] at q ⊢
  exact hb S B F0 F1 H1 ρ σ g1 _ Xd _ (E.ext e j) q (fun b g2 F2 H2 q2 e2 j2 => k b g2 F2 H2 q2 (e.trans e2 j) j2) (XOk.ext kx e j)
 | true =>
  rw [if_pos rfl] at q ⊢
  exact k _ _ _ _ q e j
theorem V8 {ta : TT} {fa : EFt} (ha : SmT K W ta fa) : SmT K W (tNot ta) (a0a fa) := fun S B F0 F H ρ σ g Pd Xd Q E hf k kx =>
 ha S B F0 F H ρ σ g _ Xd _ E (R.wp_bind.mp hf) (fun c g1 F1 H1 q e j => k _ _ _ _ q e j) kx
theorem a8d {t : TT} {ta tb : TE} {ft : EFt} {fa fb : EF} (ht : SmT K W t ft) (ha : Sm K W ta fa) (hb : Sm K W tb fb) : Sm K W (tIf t ta tb) (fIf ft fa fb) := by
 intro S B F0 F H ρ σ g Pd Xd Q E hf k kx
 refine ht S B F0 F H ρ σ g _ Xd _ E (R.wp_bind.mp hf) (fun c g1 F1 H1 q e j => ?_) kx
 cases c with
 | true =>
  rw [if_pos rfl] at q ⊢
  exact ha S B F0 F1 H1 ρ σ g1 _ Xd _ (E.ext e j) q (fun r g2 v F2 H2 q2 e2 j2 rv => k r g2 v F2 H2 q2 (e.trans e2 j) j2 (rv.wide fun a ha => e.free j ha)) (XOk.ext kx e j)
 | false =>
  rw [if_neg Bool.false_ne_true] at q ⊢
  exact hb S B F0 F1 H1 ρ σ g1 _ Xd _ (E.ext e j) q (fun r g2 v F2 H2 q2 e2 j2 rv => k r g2 v F2 H2 q2 (e.trans e2 j) j2 (rv.wide fun a ha => e.free j ha)) (XOk.ext kx e j)
end

/-- a tuple of whom all is known -/
def a7m (t : TA) : TE := fun σ H Q => t σ H fun xs H1 => xs.length ≤ sizeLine ∧ ∀ p (ob : Obj), H1 p = none → ob.dict = none → Q (.ref p) (upd H1 p (.frz ob (.tup xs)))
section
open PySem.Spec PyProof.Rows
theorem i3 {X : Cx} {es : List Expr} {t : TA} {x1 : Nat} {pos : Pos} (h : PA X es t) : PE X (.Tuple es x1 pos) (a7m t) := by
 refine ⟨fun pins s σ H Q I hq => ?_⟩
 refine wpAny_Tuple_spliced (thn (h.run pos pins s σ H _ I hq) fun us s1 ⟨xs, H1, I1, r, z, q⟩ => ⟨by rw [← r.length]; exact z, ?_⟩)
 have hf : H1 s1.heap.objs.size = none := I1.hok.fresh (Nat.le_refl _)
 refine ⟨.ref s1.heap.objs.size, upd H1 s1.heap.objs.size (.frz { cls := .type "tuple", data := .seq us.toArray } (.tup xs)), I1.laid (t' := s1.toks) (fun b u e => Heap.get?_push_of_some _ e) (Nat.le_refl _) ?_, rfl, q _ _ hf rfl⟩
 exact ⟨Heap.get?_push_size _ rfl, z, us, r, ⟨_, Heap.get?_push_size _ rfl, rfl, _, rfl⟩⟩
end
def m7 : EFa := fun _ g => .ok [] g
def f9 (f : EF) (fr : EFa) : EFa := fun ρ g => (f ρ g).bind fun r g1 => (a4n r g1).bind fun a g2 => (fr ρ g2).bind fun as g3 => .ok (a :: as) g3
/-- arguments as data -/
def U1 : List AV → Option (List PyData)
 | [] => some []
 | .d x :: as => (U1 as).map (x :: ·)
 | .o _ :: _ => none
def H6 (as : List AV) (g : Gs) : R (List PyData) := if as.length ≤ sizeLine then R.ofO (U1 as) g else .bad
def z7 (fa : EFa) : EF := fun ρ g => (fa ρ g).bind fun as g1 => (H6 as g1).bind fun ds g2 => .ok (.d (.tuple ds)) g2
def E6 (fa : EFa) : EF := fun ρ g => (fa ρ g).bind fun as g1 => (H6 as g1).bind fun ds g2 => .ok (.nl ds) g2
def fCB (o : OA) (fa : EFa) : EF := fun ρ g => (fa ρ g).bind fun as g1 => R.ofO (o as) g1
section
variable {K : Ck} {W : WX} {S : Sta} {B F0 F H : Hp} {ρ : List SD} {σ : St} {g : Gs} {Xd : PyData → Gs → Prop}
theorem R7 {F : Hp} : ∀ {vs : List V} {as : List AV} {ds : List PyData}, v7 K F vs as → U1 as = some ds → RpA K F vs ds
 | [], [], _, _, e => by cases e; exact .nil
 | v :: vs, .d x :: as, _, h, e => by
  unfold U1 at e
  cases q : U1 as with
  | none => rw [q] at e; cases e
  | some es =>
   rw [q] at e
   cases e
   exact .cons h.1 (R7 h.2 q)
 | _ :: _, .o _ :: _, _, _, e => by cases e
 | [], _ :: _, _, h, _ => h.elim
 | _ :: _, [], _, h, _ => h.elim
theorem a0J {as : List AV} {g : Gs} {P : List PyData → Gs → Prop} {X : PyData → Gs → Prop} (h : (H6 as g).wp P X) : as.length ≤ sizeLine ∧ ∃ ds, U1 as = some ds ∧ P ds g := by
 unfold H6 at h
 by_cases c : as.length ≤ sizeLine
 ·rw [if_pos c] at h
  exact ⟨c, R.wp_ofO h⟩
 ·rw [if_neg c] at h; exact h.elim
theorem g5 : SmA K W tNil m7 := fun S B F0 F H ρ σ g Pd Xd Q E h k kx => k _ _ _ _ _ h (Ext.refl E.sub) E.j trivial
theorem c0 {te : TE} {t : TA} {f : EF} {fr : EFa} (h1 : Sm K W te f) (h2 : SmA K W t fr) : SmA K W (tCons te t) (f9 f fr) := by
 intro S B F0 F H ρ σ g Pd Xd Q E h k kx
 refine h1 S B F0 F H ρ σ g _ Xd _ E (R.wp_bind.mp h) (fun r g1 v F1 H1 q e j rv => ?_) kx
 obtain ⟨ok, q⟩ := a74 (R.wp_bind.mp q)
 obtain ⟨F2, e2, l2, ra⟩ := e.frz j rv ok
 refine h2 S B F0 F2 H1 ρ σ g1 _ Xd _ (E.ext e2 j) (R.wp_bind.mp q) (fun as g2 vs F3 H3 q3 e3 j3 r3 => ?_) (XOk.ext kx e2 j)
 exact k _ g2 _ F3 H3 q3 (e2.trans e3 j) j3 ⟨ra.mono e3.le, r3⟩
theorem m5 {t : TA} {fa : EFa} (h : SmA K W t fa) : Sm K W (a7m t) (z7 fa) := by
 intro S B F0 F H ρ σ g Pd Xd Q E hf k kx
 refine h S B F0 F H ρ σ g _ Xd _ E (R.wp_bind.mp hf) (fun as g1 vs F1 H1 q e j r => ?_) kx
 obtain ⟨hl, ds, ed, qd⟩ := a0J (R.wp_bind.mp q)
 have E1 := E.ext e j
 refine ⟨by rw [r.length]; exact hl, fun p ob hp hd => ?_⟩
 have n := Ext.new (S := S) (o := .frz ob (.tup vs)) E1.sub hp
 exact k _ g1 _ _ _ qd (e.trans n j) (J.new j hp) (Rp.tup (.inl (.inr ⟨ob, upd_same⟩)) (.inr (.inl ⟨ob, upd_same, hd⟩)) ((R7 r ed).mono n.le))
theorem t7 {t : TA} {fa : EFa} (h : SmA K W t fa) : Sm K W (tLst t) (E6 fa) := by
 intro S B F0 F H ρ σ g Pd Xd Q E hf k kx
 refine h S B F0 F H ρ σ g _ Xd _ E (R.wp_bind.mp hf) (fun as g1 vs F1 H1 q e j r => ?_) kx
 obtain ⟨hl, ds, ed, qd⟩ := a0J (R.wp_bind.mp q)
 have E1 := E.ext e j
 refine ⟨by rw [r.length]; exact hl, fun p hp => ?_⟩
 have n := Ext.own (S := S) (o := .lst vs) E1.sub hp
 exact k _ g1 _ _ _ qd (e.trans n j) (J.new j hp) ⟨p, vs, rfl, e.free j hp, fun m => E1.okh.mt p m hp, E1.sub.free hp, upd_same, R7 r ed⟩
theorem K7 {r : List V → Hp → VK → Prop} {o : OA} {t : TA} {fa : EFa} (ho : a5F K r o) (h : SmA K W t fa) : Sm K W (tCB r t) (fCB o fa) := by
 intro S B F0 F H ρ σ g Pd Xd Q E hf k kx
 refine h S B F0 F H ρ σ g _ Xd _ E (R.wp_bind.mp hf) (fun as g1 vs F1 H1 q e j ra => ?_) kx
 have E1 := E.ext e j
 obtain ⟨rv, h3, h4⟩ := R.wp_ofO q
 refine ho S F1 H1 vs as rv Q E1.okh ra h3 fun r v F' H' q' e' j' rv => ?_
 subst q'
 exact k _ g1 v F' H' h4 (e.trans e' j) (j' _ j) (rv.wide fun a ha => e.free j ha)
end
abbrev a1s := List AV → Gs → R RV
def spF (K : Ck) (f : a1s) : Sp := fun vs H Q E => ∃ (q : SQ) (F : Hp) (g : Gs) (as : List AV), Sub F H ∧ (∀ a, (u0 q).M a → F a = none) ∧ (u0 q).J g H ∧ Tb (u0 q) F H ∧ (q.2 ≠ [] → q.2 = a6d K) ∧ v7 K F vs as ∧
 (f as g).wp (fun r g' => ∀ v F' H', a20 K (u0 q) H F F' H' v r g' → Q v H') (fun x g' => ∀ cls d F' H', a8Q K (u0 q) H F F' H' cls d x g' → E cls d H')
def C0 (f : a1s) (fa : EFa) : EF := fun ρ g => (fa ρ g).bind f
section
variable {K : Ck} {W : WX} {S : Sta} {B F0 F H : Hp} {ρ : List SD} {σ : St} {g : Gs} {Xd : PyData → Gs → Prop}
theorem a6W {f : a1s} {vs : List V} {as : List AV} {Pd : RV → Gs → Prop} {Q : VK} {E' : XK} (E : g9 K S B F0 F H ρ σ g) (ra : v7 K F vs as) (h : (f as g).wp Pd Xd)
  (k : ∀ r g' v F' H', Pd r g' → Ext S F H F' H' → S.J g' H' → A1 K S H F' H' v r → Q v H')
  (kx : ∀ x g' cls d F' H', Xd x g' → Ext S F H F' H' → S.J g' H' → ExcRep K S H F' H' cls d x → E' cls d H') : spF K f vs H Q E' := by
 obtain ⟨qq, rfl, hq⟩ := E.st
 exact ⟨qq, F, g, as, E.sub, E.mF, E.j, E.tb, hq, ra, R.wp_imp h (fun r g' q v F' H' R => k r g' v F' H' q R.ext R.j R.rv) (fun x g' q cls d F' H' R => kx x g' cls d F' H' q R.ext R.j R.er)⟩
theorem N8 {f : a1s} {t : TA} {fa : EFa} (h : SmA K W t fa) : Sm K W (tCallSD (spF K f) [] (WE W) t) (C0 f fa) := by
 intro S B F0 F H ρ σ g Pd Xd Q E hf k kx
 refine h S B F0 F H ρ σ g _ Xd _ E (R.wp_bind.mp hf) (fun as g1 vs F1 H1 q e j ra => ?_) kx
 have E1 := E.ext e j
 rw [List.append_nil]
 exact a6W E1 ra q (fun r g' v F' H' q' e' j' rv => k r g' v F' H' q' (e.trans e' j) j' (rv.wide fun a ha => e.free j ha)) (XOk.ext kx e j)
end
end Fx

namespace Fx
open PySem L2 RZ

/-- a list, a tuple, a text, whichever it is -/
def a7W (K : PySem.W.Frag) (tl : TE) : TI := fun σ H R => tl σ H fun x H1 => (∃ a, x = .ref a ∧ (∃ xs, SqL K H1 a xs) ∧ R (Itl K a) H1) ∨ (∃ a, x = .ref a ∧ (∃ xs, SqT K H1 a xs) ∧ R (Itt K a) H1) ∨ ∃ z, x = .str z ∧ R (Its z) H1
section
open PySem.Spec PyProof.Rows
theorem a4S {X : Cx} {tg e : Expr} {te : TE} (he : PE X e te) : PI X tg e (a7W X.K te) := by
 refine ⟨fun pins s σ H R I h => ?_⟩
 refine thn (he.run pins s σ H _ I h) fun v s1 ⟨y, H1, I1, r1, q1⟩ => ?_
 rcases q1 with ⟨a, ex, ⟨xs, hq⟩, q⟩ | ⟨a, ex, ⟨xs, hq⟩, q⟩ | ⟨x, ex, q⟩
 ·subst ex
  cases r1
  obtain ⟨its, rv, p, hz⟩ := I1.list hq
  refine wpAny_pyIter_list p.isList ?_
  refine ⟨s1.heap.objs.size, [s1.heap.objs.size], _, _, H1, rfl, I1.kept (t' := s1.toks) fun b o e => Heap.get?_push_of_some _ e, turn_list a _, ⟨_, Heap.get?_push_size _ rfl, rfl, rfl⟩, fun b hb => ?_, q⟩
  have e : b = s1.heap.objs.size := by simpa using hb
  subst e
  exact I1.fpOk (Nat.le_refl _) (I1.hok.fresh (Nat.le_refl _))
 ·subst ex
  cases r1
  obtain ⟨its, rv, p, hz⟩ := I1.tuple hq
  refine wpAny_pyIter_tuple (show s1.heap.IsTuple a its.toArray from p) ?_
  refine ⟨s1.heap.objs.size, [s1.heap.objs.size], _, _, H1, rfl, I1.kept (t' := s1.toks) fun b o e => Heap.get?_push_of_some _ e, turn_tuple a _, ⟨_, Heap.get?_push_size _ rfl, rfl, rfl⟩, fun b hb => ?_, q⟩
  have e : b = s1.heap.objs.size := by simpa using hb
  subst e
  exact I1.fpOk (Nat.le_refl _) (I1.hok.fresh (Nat.le_refl _))
 ·subst ex
  obtain ⟨t, rfl⟩ := r1
  cases ha : x.cps.all (· < 128)
  ·exact wpAny_pyIter_wide ha (pi_one (tk := s1.toks) I1 _ (turn_str _ x t "str_iterator" (.inr rfl)) ⟨_, Heap.get?_push_size _ rfl, rfl, rfl⟩ q)
  ·exact wpAny_pyIter_ascii ha (pi_one (tk := s1.toks) I1 _ (turn_str _ x t "str_ascii_iterator" (.inl rfl)) ⟨_, Heap.get?_push_size _ rfl, rfl, rfl⟩ q)
end
/-- the items of data -/
def itemsOf : PyData → Option (List PyData)
 | .list xs => some xs
 | .tuple xs => some xs
 | .str x => some (x.cps.toList.map fun c => .str ⟨#[c]⟩)
 | _ => none
def a5z (f : EF) : EFi := fun ρ g => (v6 f ρ g).bind fun x g1 => R.ofO (itemsOf x) g1
/-- as ints -/
def allI : List AV → Option (List Int)
 | [] => some []
 | .d (.int i) :: as => (allI as).map (i :: ·)
 | _ => none
def a4Q (lo : Int) (n : Nat) : List PyData := (List.range n).map fun (k : Nat) => .int (lo + (k : Int))
def a1e (as : List AV) : Option (List PyData) := match allI as with
 | some [j] => if -(2 ^ 62) ≤ j ∧ j < 2 ^ 62 then some (a4Q 0 j.toNat) else none
 | _ => none
def iaB (o : List AV → Option (List PyData)) (fa : EFa) : EFi := fun ρ g => (fa ρ g).bind fun as g1 => R.ofO (o as) g1
def a4o : EFa → EFi := iaB a1e
theorem a3p {as : List AV} {ds : List PyData} (h : a1e as = some ds) : ∃ j, allI as = some [j] ∧ -(2 ^ 62) ≤ j ∧ j < 2 ^ 62 ∧ ds = a4Q 0 j.toNat := by
 unfold a1e at h
 split at h
 ·rename_i j e
  split at h
  ·rename_i c; cases h; exact ⟨j, e, c.1, c.2, rfl⟩
  ·cases h
 ·cases h
section
variable {K : Ck} {W : WX}
theorem a1V {S : Sta} {F : Hp} {J : It} {vs : List V} {ds : List PyData} {G : Hp → Prop} (w : Walk J vs.length G (YAt vs)) (r : RpA K F vs ds) (hG : ∀ F' H', Le F F' → Sub F' H' → G H') : a4O false K S F J ds := by
 intro F' H' le sub
 have g := hG F' H' le sub
 refine ⟨fun i d hd => ?_, by rw [← r.length]; exact w.stops H' g⟩
 obtain ⟨v, hv, rv⟩ := r.get' hd
 have hi : i < vs.length := (List.getElem?_eq_some_iff.mp hv).1
 refine ⟨w.goes i H' hi g, fun x H'' y => ?_⟩
 obtain ⟨rfl, hx⟩ := w.yields i H' x H'' hi g y
 rw [hv] at hx
 cases hx
 exact ⟨F', Ext.refl sub, fun _ j => j, .inl (rv.mono le)⟩
theorem a2O {t : TE} {f : EF} (h : Sm K W t f) : SmI false K W (a7W K t) (a5z f) := by
 intro S B F0 F H ρ σ g Pd Xd Rr E hf k kx
 refine h.dat E (R.wp_bind.mp hf) kx fun x g1 v F1 H1 q e E1 r => ?_
 obtain ⟨ds, ed, q⟩ := R.wp_ofO q
 cases r with
 | @lst a vs ds' hr ra =>
  cases ed
  exact .inl ⟨a, rfl, ⟨vs, (Le.sqx E1.sub hr).sql⟩, k _ g1 F1 H1 _ q e E1.j (a1V walk_list ra fun F' H' le sub => (Le.sqx sub (Le.sqx le hr)).sql)⟩
 | @tup a vs ds' hr hk ra =>
  cases ed
  exact .inr (.inl ⟨a, rfl, ⟨vs, Le.sqt E1.sub hr⟩, k _ g1 F1 H1 _ q e E1.j (a1V walk_tup ra fun F' H' le sub => Le.sqt sub (Le.sqt le hr))⟩)
 | str z =>
  cases ed
  refine .inr (.inr ⟨z, rfl, k _ g1 F1 H1 _ q e E1.j fun F' H' le sub => ⟨fun i d hd => ?_, ?_⟩⟩)
  ·rw [List.getElem?_map] at hd
   cases ec : z.cps.toList[i]? with
   | none => rw [ec] at hd; cases hd
   | some c =>
    rw [ec] at hd
    cases hd
    have hi : i < z.cps.size := by
     have := (List.getElem?_eq_some_iff.mp ec).1
     simpa using this
    refine ⟨walk_str.goes i H' hi trivial, fun x H'' y => ?_⟩
    obtain ⟨rfl, c', hc, rfl⟩ := walk_str.yields i H' x H'' hi trivial y
    have : c' = c := by
     rw [← Array.getElem?_toList, ec] at hc
     cases hc; rfl
    subst this
    exact ⟨F', Ext.refl sub, fun _ j => j, .inl (Rp.str _)⟩
  ·simp only [List.length_map, Array.length_toList]
   exact walk_str.stops H' trivial
 | non => cases ed
 | bl b => cases ed
 | int i => cases ed
 | dK _ _ => cases ed
 | dT _ _ _ => cases ed
 | obj _ _ _ _ => cases ed
 | exc _ _ _ _ => cases ed
 | fn _ => cases ed
theorem a2P {F : Hp} : ∀ {vs : List V} {as : List AV} {is : List Int}, v7 K F vs as → allI as = some is → vs = is.map V.int
 | [], [], _, _, e => by cases e; rfl
 | v :: vs, .d (.int i) :: as, _, h, e => by
  unfold allI at e
  cases q : allI as with
  | none => rw [q] at e; cases e
  | some es =>
   rw [q] at e
   cases e
   have h1 : Rp K F v (.int i) := h.1
   cases h1
   rw [a2P h.2 q]; rfl
 | _ :: _, .o _ :: _, _, _, e => by cases e
 | _ :: _, .d .none :: _, _, _, e => by cases e
 | _ :: _, .d (.bool _) :: _, _, _, e => by cases e
 | _ :: _, .d (.str _) :: _, _, _, e => by cases e
 | _ :: _, .d (.list _) :: _, _, _, e => by cases e
 | _ :: _, .d (.tuple _) :: _, _, _, e => by cases e
 | _ :: _, .d (.dict _) :: _, _, _, e => by cases e
 | [], _ :: _, _, h, _ => h.elim
 | _ :: _, [], _, h, _ => h.elim
theorem a3i {S : Sta} {F : Hp} {lo : Int} {n : Nat} : a4O false K S F (Itr lo n) (a4Q lo n) := by
 intro F' H' le sub
 refine ⟨fun i d hd => ?_, by unfold a4Q; rw [List.length_map, List.length_range]; exact walk_range.stops H' trivial⟩
 unfold a4Q at hd
 rw [List.getElem?_map] at hd
 by_cases hi : i < n
 ·rw [List.getElem?_range hi] at hd
  cases hd
  refine ⟨walk_range.goes i H' hi trivial, fun x H'' y => ?_⟩
  obtain ⟨rfl, rfl⟩ := walk_range.yields i H' x H'' hi trivial y
  exact ⟨F', Ext.refl sub, fun _ j => j, .inl (Rp.int _)⟩
 ·rw [List.getElem?_eq_none (by simpa using hi)] at hd
  cases hd
theorem a0W {t : TA} {fa : EFa} (h : SmA K W t fa) : SmI false K W (iRng1 t) (a4o fa) := by
 intro S B F0 F H ρ σ g Pd Xd Rr E hf k kx
 refine h S B F0 F H ρ σ g _ Xd _ E (R.wp_bind.mp hf) (fun as g1 vs F1 H1 q e j r => ?_) kx
 obtain ⟨ds, hd, q⟩ := R.wp_ofO q
 obtain ⟨i, ei, h1, h2, rfl⟩ := a3p hd
 exact ⟨i, a2P r ei, h1, h2, k _ g1 F1 H1 _ q e j a3i⟩
/-- pairs that are made at each turn -/
theorem Z6 {S : Sta} {F : Hp} {J : It} {n : Nat} {G : Hp → Prop} {fx fy : Nat → Option V} {ds : List PyData} (w : Walk J n G (YPair fx fy)) (hn : ds.length = n)
  (hd : ∀ (i : Nat) d, ds[i]? = some d → ∃ x y, d = .tuple [x, y] ∧ (∀ v, fx i = some v → Rp K F v x) ∧ ∀ v, fy i = some v → Rp K F v y) (hG : ∀ F' H', Le F F' → Sub F' H' → G H') : a4O true K S F J ds := by
 intro F' H' le sub
 have g := hG F' H' le sub
 refine ⟨fun i d e => ?_, by rw [hn]; exact w.stops H' g⟩
 have hi : i < n := by rw [← hn]; exact (List.getElem?_eq_some_iff.mp e).1
 refine ⟨w.goes i H' hi g, fun x H'' y => ?_⟩
 obtain ⟨T, a, b, rfl, hT, rfl, ha, hb⟩ := w.yields i H' x H'' hi g y
 obtain ⟨x', y', rfl, h1, h2⟩ := hd i d e
 have n' := Ext.new (S := S) (o := .tup [a, b]) sub hT
 exact ⟨_, n', fun _ j => Fx.J.new j hT, .inr ⟨rfl, _, _, _, rfl, rfl, .inl (.inl upd_same), .cons ((h1 a ha).mono (le.trans n'.le)) (.cons ((h2 b hb).mono (le.trans n'.le)) .nil)⟩⟩
end

abbrev a5G := List PyData → List SD → Option (List SD)
def a7R (K : Ck) (t : TGs) (is : List Nat) (f : a5G) : Prop := ∀ (S : Sta) (B F0 F H : Hp) (ρ : List SD) (σ : St) (g : Gs) (vs : List V) (ds : List PyData) (ρ1 : List SD) (Q : St → Hp → Prop), g9 K S B F0 F H ρ σ g → RpA K F vs ds → f ds ρ = some ρ1 →
 (∀ σ', g9 K S B F0 F H ρ1 σ' g → (∀ vs : List Nat, (∀ i ∈ is, i ∈ vs) → wipe σ' vs = wipe σ vs) → (∀ (i : Nat) s, ρ1[i]? = some s → s.owner = true → ρ[i]? = some s ∧ σ'[i]? = σ[i]?) → Q σ' H) → t vs σ H Q
def k7 (i : Nat) : EFg := fun d ρ => some (ρ.set i (.d d))
def a7g : a5G := fun ds ρ => match ds with
 | [] => some ρ
 | _ => none
def a2q (f : EFg) (fr : a5G) : a5G := fun ds ρ => match ds with
 | d :: r => (f d ρ).bind fun ρ' => fr r ρ'
 | [] => none
def a6I (n : Nat) (fr : a5G) : EFg := fun d ρ => match d with
 | .tuple ds => if ds.length = n then fr ds ρ else none
 | _ => none
section
variable {K : Ck}
theorem a0O {σ : St} {i : Nat} {x : Option V} : ∀ {vs : List Nat}, i ∈ vs → wipe (σ.set i x) vs = wipe σ vs
 | v :: vs, h => by
  unfold wipe
  by_cases e : i ∈ vs
  ·rw [a0O e]
  ·have : v = i := by
    rcases List.mem_cons.mp h with q | q
    ·exact q.symm
    ·exact absurd q e
   subst this
   have : ∀ vs : List Nat, v ∉ vs → wipe (σ.set v x) vs = (wipe σ vs).set v x := by
    intro vs
    induction vs with
    | nil => intro _; rfl
    | cons w ws ih =>
     intro hn
     rw [List.mem_cons, not_or] at hn
     unfold wipe
     rw [ih hn.2, List.set_comm _ _ hn.1]
   rw [this vs e, List.set_set]
theorem i5 (i : Nat) : SmG false K (gName i) [i] (k7 i) := fun S B F0 F H ρ σ g v d ρ1 Q E r h k => by
 cases h
 exact k _ (E.set ⟨v, rfl, r.resolve_right fun z => by cases z.1⟩ (fun e => by cases e)) (fun vs hi => a0O (hi i (by simp))) fun j s hs ho => by
  rcases z9 hs with ⟨_, _, r⟩ | ⟨e, hs⟩
  ·subst r; cases ho
  ·exact ⟨hs, List.getElem?_set_ne (Ne.symm e)⟩
theorem a4h : a7R K gNil [] a7g := by
 intro S B F0 F H ρ σ g vs ds ρ1 Q E r h k
 cases r with
 | nil => cases h; exact ⟨rfl, k σ E (fun _ _ => rfl) fun _ _ h _ => ⟨h, rfl⟩⟩
 | cons _ _ => cases h
theorem Y8 {t : TG} {u : TGs} {is js : List Nat} {f : EFg} {fr : a5G} (h1 : SmG false K t is f) (h2 : a7R K u js fr) : a7R K (gCons t u) (is ++ js) (a2q f fr) := by
 intro S B F0 F H ρ σ g vs ds ρ1 Q E r h k
 cases r with
 | nil => cases h
 | cons rv rr =>
  obtain ⟨ρ2, q1, q2⟩ := Option.bind_eq_some_iff.mp h
  refine ⟨_, _, rfl, h1 S B F0 F H ρ σ g _ _ _ _ E (.inl rv) q1 fun σ1 E1 w1 o1 => ?_⟩
  refine h2 S B F0 F H ρ2 σ1 g _ _ _ _ E1 rr q2 fun σ2 E2 w2 o2 => k σ2 E2 (fun ws hw => ?_) fun i s hs ho => ?_
  ·rw [w2 ws fun i hi => hw i (List.mem_append_right _ hi), w1 ws fun i hi => hw i (List.mem_append_left _ hi)]
  ·obtain ⟨a1, a2⟩ := o2 i s hs ho
   obtain ⟨b1, b2⟩ := o1 i s a1 ho
   exact ⟨b1, a2.trans b2⟩
theorem a50 {w : Bool} {n : Nat} {t : TGs} {is : List Nat} {fr : a5G} (h : a7R K t is fr) : SmG w K (gTup K n t) is (a6I n fr) := by
 intro S B F0 F H ρ σ g v d ρ1 Q E r hf k
 have key : ∀ a vs ds, v = .ref a → d = .tuple ds → SqT K F a vs → RpA K F vs ds → gTup K n t v σ H Q := fun a vs ds hv hd hr ra => by
  subst hv hd
  have hf : (if ds.length = n then fr ds ρ else none) = some ρ1 := hf
  by_cases c : ds.length = n
  ·rw [if_pos c] at hf
   exact ⟨a, vs, rfl, Le.sqt E.sub hr, ra.length.trans c, h S B F0 F H ρ σ g vs ds ρ1 Q E ra hf k⟩
  ·rw [if_neg c] at hf; cases hf
 rcases r with r | ⟨_, a, vs, ds, h1, h2, hr, ra⟩
 ·cases r with
  | @tup a vs ds hr hk ra => exact key a vs ds rfl rfl hr ra
  | non => cases hf
  | bl b => cases hf
  | int i => cases hf
  | str x => cases hf
  | lst _ _ => cases hf
  | dK _ _ => cases hf
  | dT _ _ _ => cases hf
  | obj _ _ _ _ => cases hf
  | exc _ _ _ _ => cases hf
  | fn _ => cases hf
 ·exact key a vs ds h1 h2 hr ra
end
def K8 (ρ : List SD) : List Nat → List SD
 | [] => ρ
 | v :: vs => (K8 ρ vs).set v .u
theorem R.wp_nox {α : Type} {m : R α} {P : α → Gs → Prop} {X : PyData → Gs → Prop} : m.nox.wp P X ↔ m.wp P NoX := by cases m <;> exact Iff.rfl
/-- one turn: the target, the test, the body -/
def A0 {α : Type} (fg : EFg) (ft : EFt) (fb : List SD → α → Gs → R α) (ρ : List SD) (d : PyData) (acc : α) (g : Gs) : R α := match fg d ρ with
 | none => .bad
 | some ρ2 => (ft ρ2 g).bind fun b g2 => if b = true then fb ρ2 acc g2 else .ok acc g2
/-- the turns -/
def cpR {α : Type} (step : PyData → α → Gs → R α) : List PyData → α → Gs → R α
 | [], acc, g => .ok acc g
 | d :: ds, acc, g => (step d acc g).bind fun acc' g' => cpR step ds acc' g'
def a5t (fe : EF) : List SD → List PyData → Gs → R (List PyData) := fun ρ acc g => (v6 fe ρ g).bind fun y g1 => if acc.length < sizeLine then .ok (acc ++ [y]) g1 else .bad
def fCp {α : Type} (c : α → RV) (z : α) (fi : EFi) (fg : EFg) (ft : EFt) (fb : List SD → α → Gs → R α) (vs : List Nat) : EF := fun ρ g => (fi ρ g).bind fun ds g1 => (cpR (A0 fg ft fb (K8 ρ vs)) ds z g1).nox.bind fun xs g2 => .ok (c xs) g2
def fLc (fi : EFi) (fg : EFg) (ft : EFt) (fe : EF) (vs : List Nat) : EF := fCp .nl [] fi fg ft (a5t fe) vs
def a6c : EFt := fun _ g => .ok true g
section
variable {K : Ck} {W : WX}
theorem a2c : SmT K W tYes a6c := fun S B F0 F H ρ σ g Pd Xd Q E h k kx => k _ _ _ _ h (Ext.refl E.sub) E.j
theorem g9.wipe {S : Sta} {B F0 F H : Hp} {ρ : List SD} {σ : St} {g : Gs} (E : g9 K S B F0 F H ρ σ g) : ∀ vs : List Nat, g9 K S B F0 F H (K8 ρ vs) (wipe σ vs) g
 | [] => E
 | v :: vs => by
  have E1 := E.wipe vs
  unfold K8 L2.wipe
  refine ⟨E1.st, E1.tb, E1.sub, E1.mono, E1.fz, E1.keep, E1.mF, E1.j, by simp [E1.len], fun i s h => ?_, fun i k s t h1 h2 o1 o2 q => ?_⟩
  ·rcases z9 h with ⟨rfl, hl, rfl⟩ | ⟨e, h⟩
   ·exact ⟨none, List.getElem?_set_self (by rw [E1.len]; exact hl), trivial⟩
   ·obtain ⟨w, h1, h2⟩ := E1.sl i s h
    exact ⟨w, by rw [List.getElem?_set_ne (Ne.symm e)]; exact h1, h2⟩
  ·rcases z9 h1 with ⟨_, _, r1⟩ | ⟨e1, h1⟩
   ·subst r1; cases o1
   ·rcases z9 h2 with ⟨_, _, r2⟩ | ⟨e2, h2⟩
    ·subst r2; cases o2
    ·rw [List.getElem?_set_ne (Ne.symm e1), List.getElem?_set_ne (Ne.symm e2)] at q
     exact E1.dist i k s t h1 h2 o1 o2 q
/-- no owned slot is D -/
def Y0 (ρ : List SD) (σ : St) (D : Addr) : Prop := ∀ (i : Nat) s, ρ[i]? = some s → s.owner = true → σ[i]? ≠ some (some (.ref D))
theorem Y0.wipe {ρ : List SD} {σ : St} {D : Addr} (h : Y0 ρ σ D) : ∀ vs : List Nat, Y0 (K8 ρ vs) (wipe σ vs) D
 | [] => h
 | v :: vs => fun i s hs ho => by
  have h1 := h.wipe vs
  unfold K8 at hs
  unfold L2.wipe
  rcases z9 hs with ⟨_, _, r⟩ | ⟨e, hs⟩
  ·subst r; cases ho
  ·rw [List.getElem?_set_ne (Ne.symm e)]; exact h1 i s hs ho
theorem a2T (σ : St) (vs : List Nat) : wipe (wipe σ vs) vs = wipe σ vs := by
 have : ∀ ws : List Nat, (∀ i ∈ ws, i ∈ vs) → wipe (wipe σ vs) ws = wipe σ vs := by
  intro ws
  induction ws with
  | nil => intro _; rfl
  | cons v ws ih =>
   intro hw
   show (wipe (wipe σ vs) ws).set v none = wipe σ vs
   rw [ih fun i hi => hw i (List.mem_cons_of_mem _ hi)]
   have hvm : v ∈ vs := hw v (by simp)
   apply List.ext_getElem?
   intro l
   by_cases el : l = v
   ·subst el
    by_cases hl : l < (wipe σ vs).length
    ·rw [List.getElem?_set_self hl]
     cases eq : (wipe σ vs)[l]? with
     | none => rw [List.getElem?_eq_none_iff] at eq; omega
     | some o =>
      cases o with
      | none => rfl
      | some z => exact absurd hvm (wipe_some eq).2
    ·rw [List.getElem?_eq_none (by simpa using hl), List.getElem?_eq_none (by simpa using hl)]
   ·rw [List.getElem?_set_ne (Ne.symm el)]
 exact this vs fun _ h => h
theorem g9.extD {S : Sta} {B F0 F H F' H' : Hp} {ρ : List SD} {σ : St} {g g' : Gs} {D : Addr} (E : g9 K S B F0 F H ρ σ g) (hn : Y0 ρ σ D) (hB : B D = none) (e : a3y S D F H F' H') (j : S.J g' H') : g9 K S B F0 F' H' ρ σ g' where
 sub := e.sub
 mono := E.mono.trans e.le
 fz := fun a h => by rw [e.grow a (E.there h), E.fz a h]
 keep := fun a o h m => e.keep a o (fun z => by rw [z, hB] at h; cases h) (E.keep a o h m) m
 mF := fun a m => (e.grow a (S.there _ _ _ E.j m)).trans (E.mF a m)
 j := j
 len := E.len
 sl := fun i s h => by
  obtain ⟨v, h1, h2⟩ := E.sl i s h
  refine ⟨v, h1, h2.to e.le fun a hv ho => ?_⟩
  subst hv
  have ne : a ≠ D := fun z => hn i s h ho (by rw [← z]; exact h1)
  obtain ⟨b, hb, _, m, _, q⟩ := h2.at ho
  cases hb
  obtain ⟨u, hu⟩ := q.there
  exact ⟨e.grow a (by rw [hu]; exact fun z => by cases z), by rw [hu]; exact e.keep a u ne hu m⟩
 dist := E.dist
 st := E.st
 tb := e.tb E.tb
def a6G (K : Ck) : a7T K (List PyData) := ⟨fun F o xs => ∃ vs, o = .lst vs ∧ RpA K F vs xs, fun le ⟨vs, h1, h2⟩ => ⟨vs, h1, h2.mono le⟩⟩
/-- the turns of a comprehension -/
theorem a0G {α : Type} {C : a7T K α} {w : Bool} {tg : TG} {tt : TT} {is vs : List Nat} {fg : EFg} {ft : EFt} {fb : List SD → α → Gs → R α} {BODY : St → Hp → (Hp → Prop) → Prop} {S : Sta} {B F0 Fi Hi : Hp} {ρ : List SD} {σ : St} {g g0 : Gs} {D : Addr} {J : It} {ds : List PyData} {Pd : α → Gs → Prop} {End : Hp → Prop} {acc0 : α}
    (hg : SmG w K tg is fg) (ht : SmT K W0 tt ft) (hv : ∀ i ∈ is, i ∈ vs) (nM : ¬ S.M D) (hB : B D = none) (E : g9 K S B F0 Fi Hi ρ σ g) (hn : Y0 ρ σ D) (it : a4O w K S Fi J ds)
    (hb : ∀ acc gc Fc Hc ρ2 σ2 (Pd : α → Gs → Prop) (Nx : Hp → Prop), X3 C S D Fi Hi acc gc Fc Hc → g9 K S B F0 Fc Hc ρ2 σ2 gc → Y0 ρ2 σ2 D → (fb ρ2 acc gc).wp Pd NoX → (∀ acc' g' F' H', X3 C S D Fi Hi acc' g' F' H' → Pd acc' g' → Nx H') → BODY σ2 Hc Nx)
    (L0 : X3 C S D Fi Hi acc0 g0 Fi Hi) (w0 : (cpR (A0 fg ft fb (K8 ρ vs)) ds acc0 g0).wp Pd NoX) (kend : ∀ acc gc Fc Hc, X3 C S D Fi Hi acc gc Fc Hc → Pd acc gc → End Hc) :
    ∃ W : Nat → Nat → Hp → Prop, (∃ m, W 0 m Hi) ∧ ∀ i m H, W i m H →
      (J.stop i H ∧ End H) ∨ (J.go i H ∧ ∃ Nx : Hp → Prop, (∀ H', Nx H' → ∃ m', m' < m ∧ W (i + 1) m' H') ∧ ∀ x H', J.yld i H x H' → tg x (wipe σ vs) H' fun σ2 H2 => wipe σ2 vs = wipe σ vs ∧ tt σ2 H2 fun b H3 =>
        if b = true then BODY σ2 H3 Nx else Nx H3) := by
  refine ⟨fun i m Hc => m = ds.length - i ∧ i ≤ ds.length ∧ ∃ gc Fc acc, X3 C S D Fi Hi acc gc Fc Hc ∧ (cpR (A0 fg ft fb (K8 ρ vs)) (ds.drop i) acc gc).wp Pd NoX, ⟨ds.length, rfl, Nat.zero_le _, g0, Fi, acc0, L0, w0⟩, ?_⟩
  rintro i m Hc ⟨rfl, hil, gc, Fc, acc, L, w⟩
  obtain ⟨hgo, hstop⟩ := it Fc Hc L.e.le L.e.sub
  by_cases hlt : i < ds.length
  · right
    obtain ⟨hgo1, hy⟩ := hgo i ds[i] (by simp [hlt])
    refine ⟨hgo1, fun H' => ∃ gc Fc acc, X3 C S D Fi Hi acc gc Fc H' ∧ (cpR (A0 fg ft fb (K8 ρ vs)) (ds.drop (i + 1)) acc gc).wp Pd NoX, fun H' n => ⟨ds.length - (i + 1), by omega, rfl, by omega, n⟩, fun x H2 y => ?_⟩
    obtain ⟨F2, e2, j2, rx⟩ := hy x H2 y
    rw [List.drop_eq_getElem_cons hlt] at w
    have w := R.wp_bind.mp w
    have L2 := L.ext nM e2 (j2 _ L.j)
    have E2 := (E.extD hn hB L2.e L2.j).wipe vs
    unfold A0 at w
    cases hg1 : fg ds[i] (K8 ρ vs) with
    | none => rw [hg1] at w; exact w.elim
    | some ρ2 =>
    rw [hg1] at w
    refine hg S B F0 F2 H2 _ _ gc x _ _ _ E2 rx hg1 fun σ3 E3 w3 o3 => ⟨?_, ?_⟩
    · rw [w3 vs hv, a2T]
    · have hn3 : Y0 ρ2 σ3 D := fun i s hs ho => by
        obtain ⟨p1, p2⟩ := o3 i s hs ho
        rw [p2]; exact hn.wipe vs i s p1 ho
      refine ht S B F0 F2 H2 ρ2 σ3 gc _ _ _ E3 (R.wp_bind.mp w) (fun b g3 F3 H3 q4 e3 j3 => ?_) (fun _ _ _ _ _ _ z _ _ _ => z.elim)
      have L3 := L2.ext nM e3 j3
      cases b with
      | false =>
        rw [if_neg Bool.false_ne_true] at q4 ⊢
        exact ⟨g3, F3, acc, L3, q4⟩
      | true =>
        rw [if_pos rfl] at q4 ⊢
        exact hb acc g3 F3 H3 ρ2 σ3 _ _ L3 (E3.ext e3 j3) hn3 q4 fun acc' g' F' H' L' q => ⟨g', F', acc', L', q⟩
  · left
    have el : i = ds.length := by omega
    subst el
    rw [List.drop_length] at w
    exact ⟨hstop, kend acc gc Fc Hc L w⟩
/-- the item of a list comprehension -/
theorem a7b {te : TE} {fe : EF} (he : Sm K W0 te fe) {S : Sta} {B F0 Fi Hi Fc Hc : Hp} {D : Addr} {acc : List PyData} {gc : Gs} {ρ2 : List SD} {σ2 : St} {Pd : List PyData → Gs → Prop} {Nx : Hp → Prop} (nM : ¬ S.M D)
  (L : X3 (a6G K) S D Fi Hi acc gc Fc Hc) (E : g9 K S B F0 Fc Hc ρ2 σ2 gc) (h : (a5t fe ρ2 acc gc).wp Pd NoX) (k : ∀ acc' g' F' H', X3 (a6G K) S D Fi Hi acc' g' F' H' → Pd acc' g' → Nx H') :
  te σ2 Hc fun y H4 => ∃ acc, H4 D = some (.lst acc) ∧ acc.length < sizeLine ∧ Nx (upd H4 D (.lst (acc ++ [y]))) := by
 refine he.dat E (R.wp_bind.mp h) (fun _ _ _ _ _ _ z _ _ _ => z.elim) fun y g4 v F4 H4 q5 e4 E4 ry => ?_
 have L4 := L.ext nM e4 E4.j
 by_cases c : acc.length < sizeLine
 ·rw [if_pos c] at q5
  obtain ⟨o, D4, vs', rfl, r4⟩ := L4.h
  exact ⟨vs', D4, by rw [r4.length]; exact c, k _ g4 F4 _ (L4.put nM ⟨_, rfl, r4.append (.cons ry .nil)⟩) q5⟩
 ·rw [if_neg c] at q5; exact q5.elim
/-- the list at the end -/
theorem a4P {S : Sta} {F H F1 H1 Fc Hc : Hp} {g1 gc : Gs} {D : Addr} {acc : List PyData} (e : Ext S F H F1 H1) (j : S.J g1 H1) (hD : H1 D = none) (nM : ¬ S.M D) (L : X3 (a6G K) S D F1 (upd H1 D (.lst [])) acc gc Fc Hc) :
  Ext S F H Fc Hc ∧ A1 K S H Fc Hc (.ref D) (.nl acc) := by
 have e1 : Ext S F1 H1 Fc Hc := ⟨fun a o q m => L.e.keep a o (ne_of_none q hD) (by rw [upd_ne (ne_of_none q hD)]; exact q) m, fun a q => L.e.grow a (by
  cases q2 : H1 a with
  | none => exact absurd q2 q
  | some o => rw [upd_ne (ne_of_none q2 hD), q2]; exact fun z => by cases z), L.e.le, L.e.sub, fun t => L.e.tb (t.upd (fun _ _ z => z) fun ps z => by rw [hD] at z; cases z)⟩
 obtain ⟨o, h1, vs, rfl, h2⟩ := L.h
 exact ⟨e.trans e1 j, D, vs, rfl, e.free j hD, nM, L.f, h1, h2⟩
theorem Y5 {S : Sta} {B F0 F H : Hp} {ρ : List SD} {σ : St} {g : Gs} {D : Addr} (E : g9 K S B F0 F H ρ σ g) (hD : H D = none) : Y0 ρ σ D := fun i s hs ho hv => E.ownH hs ho hv hD
theorem a76 {wi : TI} {tg : TG} {tt : TT} {te : TE} {fi : EFi} {fg : EFg} {ft : EFt} {fe : EF} {is vs : List Nat} {w : Bool} (hi : SmI w K W wi fi) (hg : SmG w K tg is fg) (ht : SmT K W0 tt ft) (he : Sm K W0 te fe) (hv : ∀ i ∈ is, i ∈ vs) : Sm K W (tLc wi tg tt te vs) (fLc fi fg ft fe vs) := by
 intro S B F0 F H ρ σ g Pd Xd Q E hf k kx
 refine hi S B F0 F H ρ σ g _ Xd _ E (R.wp_bind.mp hf) (fun ds g1 F1 H1 J q e j it => ?_) kx
 have E1 := E.ext e j
 have q := R.wp_nox.mp (R.wp_bind.mp q)
 intro D hD
 have nM : ¬ S.M D := fun m => E1.okh.mt D m hD
 have n := Ext.own (S := S) (o := .lst []) E1.sub hD
 have j1 : S.J g1 (upd H1 D (.lst [])) := Fx.J.new j hD
 refine a0G (C := a6G K) (BODY := fun σ2 H3 Nx => te σ2 H3 fun y H4 => ∃ acc, H4 D = some (.lst acc) ∧ acc.length < sizeLine ∧ Nx (upd H4 D (.lst (acc ++ [y])))) hg ht hv nM (E1.free hD) (E1.ext n j1) (Y5 E1 hD) (fun F' H' le sub => it F' H' le sub)
  (fun acc gc Fc Hc ρ2 σ2 Pd Nx L E2 _ h k => a7b he nM L E2 h k) ⟨⟨fun _ _ _ q _ => q, fun _ _ => rfl, Le.refl _, n.sub, (by rw [upd_same]; exact fun z => by cases z), fun t => t⟩, j1, ⟨_, upd_same, [], rfl, .nil⟩, E1.sub.free hD⟩ q fun acc gc Fc Hc L q => ?_
 obtain ⟨e2, rv⟩ := a4P e j hD nM L
 exact k _ gc _ Fc Hc q e2 L.j rv
end
end Fx

namespace Fx
open PySem L2 RZ PySem.Spec PyProof.Rows
open PySem.AutoSeq1 (wpAny_loadPart')

set_option maxHeartbeats 4000000 in
theorem a0p (tl : Addr) (its : Array Value) (nn : Nat) (dd : Option Addr) (ss : Array (Option Value)) :
  Meets (Builtin.«enumerate.__new__» ⟨[.type "enumerate", .ref tl], []⟩) (fun _ R s => s.heap.get? tl = some { cls := .type "tuple", dict := dd, data := .seq its nn, slots := ss } ∧
   R (.ok (.ret (.ref (s.heap.push { cls := .type "tuple_iterator", data := .fields #[.ref tl, .int 0 0] }).objs.size)))
    { s with heap := (s.heap.push { cls := .type "tuple_iterator", data := .fields #[.ref tl, .int 0 0] }).push { cls := .type "enumerate", data := .fields #[.none, .bool false, .ref s.heap.objs.size, rawInt 0, .none, .none] } }) :=
 .of_wp fun _ _ _ _ s h => by
  obtain ⟨hp, g, d, tk, os⟩ := s
  obtain ⟨hl, h⟩ := h
  have hsub := sub_enumerate
  have hT : Heap.IsTuple (Shared.heap ⟨hp, g, d, tk, os⟩) tl its := ⟨_, hl, rfl, nn, rfl⟩
  wp_walk using wpAny_loadPart' hl
  refine wpAny_stack_any fun _ => wpAny_pure ?_
  split
  ·rename_i c _ _ _ _ _
   cases (c == Value.type "enumerate") <;>
   ·wp_walk using wpAny_loadPart' hl, wpAny_pyIter_tuple hT
    exact ⟨_, rfl, h⟩
  ·wp_walk using wpAny_loadPart' hl, wpAny_pyIter_tuple hT
   exact ⟨_, rfl, h⟩
theorem a1c {P : Program} {w : World} {A : Around} {E : Value → Shared → Prop} {s : Shared} {tl : Addr} {its : Array Value} {Q : Value → Shared → Prop} (hT : s.heap.IsTuple tl its)
  (h : ∀ h', IsEnum h' (s.heap.objs.size + 1) s.heap.objs.size 0 .none → h'.IsTupleIter s.heap.objs.size tl 0 → (∀ b o, s.heap.get? b = some o → h'.get? b = some o) → Q (.ref (s.heap.objs.size + 1)) { s with heap := h' }) :
  wpAny (model P w) A (call (.type "enumerate") [.ref tl]) Q E s := by
 obtain ⟨⟨c, dd, dt, ss⟩, hl, hc, nn, hd⟩ := hT
 cases (show c = .type "tuple" from hc)
 cases (show dt = .seq its nn from hd)
 refine callType_new F.called_enumerate (by decide) (F.typeCall_enumerate_1 _) (F.newCall_enumerate_1 _) (fun obj => F.args_object_init_2 obj _) F.entry_enumerate_new (a0p tl its nn dd ss) ⟨hl, ?_⟩
 have hz := Heap.size_push s.heap { cls := .type "tuple_iterator", data := .fields #[.ref tl, .int 0 0] }
 have he := Heap.get?_push_size (s.heap.push { cls := .type "tuple_iterator", data := .fields #[.ref tl, .int 0 0] }) (o := { cls := .type "enumerate", data := .fields #[.none, .bool false, .ref s.heap.objs.size, rawInt 0, .none, .none] }) rfl
 show _ ∧ _
 rw [hz] at he ⊢
 exact ⟨⟨_, he, rfl⟩, h _ he ⟨_, Heap.get?_push_of_some _ (Heap.get?_push_size _ rfl), rfl, rfl⟩ fun b o x => Heap.get?_push_of_some _ (Heap.get?_push_of_some _ x)⟩
/-- the tuple at p, each item in a new pair -/
def a9b (K : PySem.W.Frag) (p : Addr) : It :=
  ⟨fun i H => ∃ (xs : List V) (x : V), SqT K H p xs ∧ xs[i]? = some x,
   fun i H v H' => ∃ T x, v = .ref T ∧ H T = none ∧ H' = upd H T (.tup [.int (i : Nat), x]) ∧ ∀ xs, SqT K H p xs → xs[i]? = some x,
   fun i H => ∃ xs : List V, SqT K H p xs ∧ xs.length ≤ i⟩
theorem a1Q {P : Program} {w : World} {A : Around} (hh : A.handled = none) (it p : Addr) (items : Array Value) (i : Nat) (hx : items[i]? = none) :
  Draws P w A it [it, p] i (fun _ _ => False) (fun j h => j = i ∧ h.IsTupleIter it p j ∧ h.IsTuple p items) where
 live := fun _ _ st => let ⟨o, ho, _⟩ := st.2.1; ⟨o, ho⟩
 frame := fun _ _ _ st hk => ⟨st.1, st.2.1.at fun o e => hk it (by simp) o e, st.2.2.at fun o e => hk p (by simp) o e⟩
 item := fun j s Q E hi st hQ => absurd st.1 (by omega)
 done := fun s Q E st hE => wpAny_nextOf_tuple_end hh st.2.1 st.2.2 hx hE
theorem a19 {P : Program} {w : World} {K : PySem.W.Frag} {elts : List Expr} {kk : Nat} {tpos : Pos} {p e it : Addr} (n1 : e ≠ it) (n2 : e ≠ p) (n3 : p ≠ it) :
  Turn P w K (.Tuple elts kk tpos) (a9b K p) [e, it] e (fun i h => (∃ old, IsEnum h e it ((i : Nat) : Int) old) ∧ h.IsTupleIter it p i) where
 mem := by simp
 obj := fun i h st b hb => by
  obtain ⟨⟨old, he⟩, ⟨o, ho, hc, hd⟩⟩ := st
  rcases (show b = e ∨ b = it by simpa using hb) with rfl | rfl
  ·exact ⟨_, he, fun v q => nomatch q⟩
  ·exact ⟨o, ho, fun v q => by rw [hd] at q; cases q⟩
 keep := fun i h h' st k => ⟨let ⟨old, he⟩ := st.1; ⟨old, k e (by simp) _ he⟩, st.2.at fun o q => k it (by simp) o q⟩
 item := by
  intro X hP hw hK hc i pins s σ H E I hf st hg
  subst hP hw hK
  obtain ⟨⟨old, he⟩, hit⟩ := st
  obtain ⟨xs, x, hq, hx⟩ := hg
  obtain ⟨its, rv, q, hz⟩ := I.tuple hq
  obtain ⟨u, hu, ru⟩ := rv.get hx
  have hel : e < s.heap.objs.size := Heap.lt_size he
  have hil : it < s.heap.objs.size := by obtain ⟨_, z, _⟩ := hit; exact Heap.lt_size z
  have hlt : i < its.toArray.size := by have := (List.getElem?_eq_some_iff.mp hu).1; simpa using this
  refine wpAny_pyNext_enum_itemC (Draws.tuple (A := X.A.in1) (I.ok.hd hc) it p n3 its.toArray) he ⟨hit, q⟩ hlt n1 (by simp [n1, n2]) fun y h' tk hy ho hs' hT hsz hk => ?_
  have ey : y = u := by
   have hy : its.toArray[i]? = some y := hy
   rw [show its.toArray[i]? = some u from by simpa using hu] at hy
   exact (Option.some.inj hy).symm
  subst ey
  refine ⟨_, rfl, wpAny_letOwnedTupleGo_enum (s := { s with heap := h', toks := tk + 1 }) ho fun h'' he' sb => ?_⟩
  have hT2 : h''.get? s.heap.objs.size = some { cls := .type "tuple", data := .seq #[.int i tk, y] } := (sb.2 _ (Nat.ne_of_gt hel)).trans hT
  have new : ObjOk X.prog X.w (upd H s.heap.objs.size (.tup [.int (i : Nat), x])) h'' s.heap.objs.size (.tup [.int (i : Nat), x]) :=
   ⟨by show 2 ≤ sizeLine; decide, [.int i tk, y], .cons ⟨_, rfl⟩ (.cons ru .nil), ⟨_, hT2, rfl, _, rfl⟩⟩
  have I1 : Inv X pins σ (upd H s.heap.objs.size (.tup [.int (i : Nat), x])) { s with heap := h'', toks := tk + 1 } :=
   I.turnedNew (ch := [e, it]) (fun b ob hb z => (sb.2 b (fun z => hb (by simp [z]))).trans (hk b ob (fun z => hb (by simp [z])) (fun z => hb (by simp [z])) z)) hf (Nat.le_refl _) new
  refine ⟨.ref s.heap.objs.size, _, I1, rfl, ⟨_, x, rfl, I.hok.fresh (Nat.le_refl _), rfl, fun ys hy => by rw [I.tuple_inj hy hq]; exact hx⟩, ⟨⟨y, ?_⟩, hs'.1.at fun o z => (sb.2 it (Ne.symm n1)).trans z⟩, fun b hb => ?_⟩
  ·rw [show ((i + 1 : Nat) : Int) = (i : Int) + 1 from by omega]; exact he'
  ·have hb' : b < s.heap.objs.size := by
    rcases (show b = e ∨ b = it by simpa using hb) with rfl | rfl
    ·exact hel
    ·exact hil
   rw [upd_ne (Nat.ne_of_lt hb')]
   exact (hf b hb).1
 done := by
  intro X hP hw hK hc i pins s σ H E I hf st hg
  subst hP hw hK
  obtain ⟨⟨old, he⟩, hit⟩ := st
  obtain ⟨xs, hq, hx⟩ := hg
  obtain ⟨its, rv, q, hz⟩ := I.tuple hq
  have hl := rv.length
  obtain ⟨f0, f1, _, f3, f4, f5⟩ := hf it (by simp)
  exact wpAny_pyNext_enum_endD (a1Q (A := X.A.in1) (I.ok.hd hc) it p its.toArray i (by simp; omega)) he ⟨rfl, hit, q⟩ fun h' eb => ⟨rfl, I.turned (t' := s.toks) (fun b o hb z => eb b o hb z) f0 f1 f3 f4 f5⟩
 self := fun A i s Q E st h => let ⟨_, he⟩ := st.1; wpAny_pyIter_enum he h
def a4L (K : PySem.W.Frag) (ta : TA) : TI := fun σ H R => ta σ H fun vs H1 => ∃ p xs, vs = [.ref p] ∧ ((SqL K H1 p xs ∧ R (Ite K p) H1) ∨ (SqT K H1 p xs ∧ R (a9b K p) H1))
theorem a44 {X : Cx} {e : Expr} {ta : TA} {ps pos tpos : Pos} {elts : List Expr} {kk : Nat} (hg : Gl X "enumerate") (hm : X.mg "enumerate" = none) (ha : PA X [e] ta) (hs : starEach [e] X.env = [(false, eval e X.env)] := by rfl) :
  PI X (.Tuple elts kk tpos) (.Call (.Name "enumerate" ps) [e] [] pos) (a4L X.K ta) := by
 refine ⟨fun pins s σ H R I h => Call_ (ld_blt I hg hm boot_enumerate (PyProof.Rows.callWith_type1 (thn (ha.run pos pins s σ H _ I h) fun us s1 ⟨vs, H1, I1, r1, q1⟩ => ?_) hs rfl))⟩
 obtain ⟨p, xs, ex, q1⟩ := q1
 subst ex
 have fresh : ∀ b, b ∈ [s1.heap.objs.size + 1, s1.heap.objs.size] → s1.heap.objs.size ≤ b := fun b hb => by
  rcases (show b = s1.heap.objs.size + 1 ∨ b = s1.heap.objs.size by simpa using hb) with z | z
  ·rw [z]; exact Nat.le_add_right _ _
  ·rw [z]; exact Nat.le_refl _
 cases r1 with
 | cons r rr =>
  cases rr
  cases r
  rcases q1 with ⟨hq, q⟩ | ⟨hq, q⟩
  ·obtain ⟨its, rv, z, _⟩ := I1.list hq
   refine call_enumerate_list z.isList fun h' he hit _ hk => wpAny_pyIter_enum he ?_
   have I2 : Inv X pins σ H1 { s1 with heap := h' } := I1.kept (t' := s1.toks) hk
   exact ⟨s1.heap.objs.size + 1, [s1.heap.objs.size + 1, s1.heap.objs.size], _, _, H1, rfl, I2, turn_enum p (s1.heap.objs.size + 1) s1.heap.objs.size, ⟨⟨.none, he⟩, hit, Nat.succ_ne_self _⟩, fun b hb => I1.fpOk (fresh b hb) (I1.hok.fresh (fresh b hb)), q⟩
  ·obtain ⟨its, rv, z, _⟩ := I1.tuple hq
   refine a1c z fun h' he hit hk => wpAny_pyIter_enum he ?_
   have I2 : Inv X pins σ H1 { s1 with heap := h' } := I1.kept (t' := s1.toks) hk
   have pl : p < s1.heap.objs.size := by obtain ⟨_, y, _⟩ := z; exact Heap.lt_size y
   exact ⟨s1.heap.objs.size + 1, [s1.heap.objs.size + 1, s1.heap.objs.size], _, _, H1, rfl, I2, a19 (p := p) (e := s1.heap.objs.size + 1) (it := s1.heap.objs.size) (Nat.succ_ne_self _) (Nat.ne_of_gt (Nat.lt_succ_of_lt pl)) (Nat.ne_of_lt pl), ⟨⟨.none, he⟩, hit⟩, fun b hb => I1.fpOk (fresh b hb) (I1.hok.fresh (fresh b hb)), q⟩
theorem a1i {K : PySem.W.Frag} {p : Addr} {xs : List V} : Walk (a9b K p) xs.length (fun H => SqT K H p xs) (YPair (fun i => some (.int (i : Nat))) (fun i => xs[i]?)) := by
 refine ⟨fun j _ hj q => ⟨xs, xs[j], q, by simp [hj]⟩, fun _ z => ⟨xs, z, Nat.le_refl _⟩, fun j H v H' _ q y => ?_⟩
 obtain ⟨T, x, h1, h2, h3, h4⟩ := y
 exact ⟨T, _, x, h1, h2, h3, rfl, h4 xs q⟩
def V9 (xs : List PyData) : List PyData := (xs.zipIdx).map fun p => .tuple [.int (p.2 : Int), p.1]
def a0V (as : List AV) : Option (List PyData) := match U1 as with
 | some [.list xs] => some (V9 xs)
 | some [.tuple xs] => some (V9 xs)
 | _ => none
def a2C : EFa → EFi := iaB a0V
theorem a22 {as : List AV} {ds : List PyData} (h : a0V as = some ds) : ∃ xs, (U1 as = some [.list xs] ∨ U1 as = some [.tuple xs]) ∧ ds = V9 xs := by
 unfold a0V at h
 split at h
 ·rename_i xs e; cases h; exact ⟨xs, .inl e, rfl⟩
 ·rename_i xs e; cases h; exact ⟨xs, .inr e, rfl⟩
 ·cases h
theorem Y9 {K : Ck} {F : Hp} {vs : List V} {xs : List PyData} (ra : RpA K F vs xs) (i : Nat) (d : PyData) (hd : (V9 xs)[i]? = some d) :
  ∃ x y, d = .tuple [x, y] ∧ (∀ v, some (V.int (i : Nat)) = some v → Rp K F v x) ∧ ∀ v, vs[i]? = some v → Rp K F v y := by
 unfold V9 at hd
 rw [List.getElem?_map] at hd
 cases ez : xs.zipIdx[i]? with
 | none => rw [ez] at hd; cases hd
 | some z =>
  rw [ez] at hd
  cases hd
  have hp : xs[i]? = some z.1 ∧ z.2 = i := by
   rw [List.getElem?_zipIdx] at ez
   cases ex : xs[i]? with
   | none => rw [ex] at ez; cases ez
   | some x => rw [ex] at ez; cases ez; simp
  refine ⟨_, _, rfl, fun v hv => ?_, fun v hv => ?_⟩
  ·cases hv; rw [hp.2]; exact Rp.int _
  ·obtain ⟨d', e', r'⟩ := ra.get hv
   rw [hp.1] at e'; cases e'; exact r'
theorem a1E {K : Ck} {W : WX} {t : TA} {fa : EFa} (h : SmA K W t fa) : SmI true K W (a4L K t) (a2C fa) := by
 intro S B F0 F H ρ σ g Pd Xd Rr E hf k kx
 refine h S B F0 F H ρ σ g _ Xd _ E (R.wp_bind.mp hf) (fun as g1 vs F1 H1 q e j r => ?_) kx
 obtain ⟨ds, hd, q⟩ := R.wp_ofO q
 obtain ⟨xs, h1, rfl⟩ := a22 hd
 have E1 := E.ext e j
 have hl : (V9 xs).length = xs.length := by unfold V9; rw [List.length_map, List.length_zipIdx]
 rcases h1 with h1 | h1
 ·have ra := R7 r h1
  cases ra with
  | cons r1 t1 =>
   cases t1
   cases r1 with
   | @lst a vs ds hr ra => exact ⟨a, vs, rfl, .inl ⟨(Le.sqx E1.sub hr).sql, k _ g1 F1 H1 _ q e j (Z6 walk_enum (by rw [hl, ra.length]) (Y9 ra) (fun F' H' le sub => (Le.sqx sub (Le.sqx le hr)).sql))⟩⟩
 ·have ra := R7 r h1
  cases ra with
  | cons r1 t1 =>
   cases t1
   cases r1 with
   | @tup a vs ds hr hk rb => exact ⟨a, vs, rfl, .inr ⟨Le.sqt E1.sub hr, k _ g1 F1 H1 _ q e j (Z6 a1i (by rw [hl, rb.length]) (Y9 rb) (fun F' H' le sub => Le.sqt sub (Le.sqt le hr)))⟩⟩
end Fx

namespace Fx
open PySem L2

def A7 : EFs := fun ρ g => .ok (.nx ρ) g
def o8 (f h : EFs) : EFs := fun ρ g => (f ρ g).bind (a43 h)
def a26 (i : Nat) (fe : EF) : EFs := fun ρ g => (fe ρ g).stx ρ fun r g' => .ok (.nx (ρ.set i (a1n r))) g'
def E7 (fe : EF) (fg : EFg) : EFs := fun ρ g => (v6 fe ρ g).stx ρ fun x g' => (R.ofO (fg x ρ) g').bind fun ρ' g2 => .ok (.nx ρ') g2
def P4 (fe : EF) : EFs := fun ρ g => (fe ρ g).stx ρ fun r g' => .ok (.rt r) g'
def P2 (i : Nat) : EFs := fun ρ g => a8c ρ[i]? g
def U5 : EFs := fun _ g => .ok (.rt (.d .none)) g
def T7 (ft : EFt) (f h : EFs) : EFs := fun ρ g => (ft ρ g).stx ρ fun b g' => if b = true then f ρ g' else h ρ g'
def U3 (fe : EF) : EFs := fun ρ g => (fe ρ g).stx ρ fun _ g' => .ok (.nx ρ) g'
def forR (fg : EFg) (fb : EFs) : List PyData → List SD → Gs → R Out
 | [], ρ, g => .ok (.nx ρ) g
 | d :: ds, ρ, g => match fg d ρ with
  | none => .bad
  | some ρ1 => (fb ρ1 g).bind (a4q (forR fg fb ds))
def a2I (fi : EFi) (fg : EFg) (fb : EFs) : EFs := fun ρ g => (fi ρ g).stx ρ fun ds g1 => forR fg fb ds ρ g1
def whR (ft : EFt) (fb : EFs) : Nat → List SD → Gs → R Out
 | 0, _, _ => .bad
 | n + 1, ρ, g => (ft ρ g).stx ρ fun b g1 => if b = true then (fb ρ g1).bind (a4q (whR ft fb n)) else .ok (.nx ρ) g1
open Classical in
noncomputable def S6 (ft : EFt) (fb : EFs) : EFs := fun ρ g => if h : ∃ n, whR ft fb n ρ g ≠ .bad then whR ft fb (Classical.choose h) ρ g else .bad
theorem P9 (ft : EFt) (fb : EFs) : ∀ (n m : Nat) (ρ : List SD) (g : Gs), n ≤ m → whR ft fb n ρ g ≠ .bad → whR ft fb m ρ g = whR ft fb n ρ g
 | 0, _, _, _, _, h => absurd rfl h
 | n + 1, 0, _, _, e, _ => by omega
 | n + 1, m + 1, ρ, g, e, h => by
  unfold whR at h ⊢
  cases ht : ft ρ g with
  | bad => rfl
  | exc x g => rfl
  | ok b g1 =>
   rw [ht] at h
   simp only [R.stx_ok] at h ⊢
   cases b with
   | false => rfl
   | true =>
    simp only [if_true] at h ⊢
    cases hb : fb ρ g1 with
    | bad => rfl
    | exc x g => rfl
    | ok o g2 =>
     rw [hb] at h
     cases o with
     | nx ρ' => exact P9 ft fb n m ρ' g2 (by omega) h
     | ct ρ' => exact P9 ft fb n m ρ' g2 (by omega) h
     | bk ρ' => rfl
     | rt r => rfl
     | ex x ρ' => rfl
theorem a1u {ft : EFt} {fb : EFs} {n : Nat} {ρ : List SD} {g : Gs} {r : R Out} (h : whR ft fb n ρ g = r) (hr : r ≠ .bad) : S6 ft fb ρ g = r := by
 subst h
 unfold S6
 have hx : ∃ n, whR ft fb n ρ g ≠ .bad := ⟨n, hr⟩
 rw [dif_pos hx]
 have h1 := P9 ft fb _ (max n (Classical.choose hx)) ρ g (Nat.le_max_right _ _) (Classical.choose_spec hx)
 have h2 := P9 ft fb n (max n (Classical.choose hx)) ρ g (Nat.le_max_left _ _) hr
 exact h1.symm.trans h2
theorem a2n {ft : EFt} {fb : EFs} {ρ : List SD} {g : Gs} {P : Out → Gs → Prop} (h : (S6 ft fb ρ g).wp P NoX) : ∃ n, (whR ft fb n ρ g).wp P NoX := by
 unfold S6 at h
 split at h
 ·exact ⟨_, h⟩
 ·exact h.elim
/-- an object of which all fields are plain -/
def noO : PyData → Bool
 | .dict ((.list [], .str _) :: ks) => ks.all fun p => noL p.2
 | _ => false
def a5f (s : Option SD) : Bool := match s with
 | some (.ins _ _ _ _ _) => true
 | _ => false
/-- what may be frozen for a while -/
def fzB (s : Option SD) : Option (Option SD) := match s with
 | some (.dic true _) => none
 | s => a8b s
theorem a4e {s : Option SD} {r : Option SD} (h : fzB s = some r) : a8b s = some r ∧ ∀ ks, s ≠ some (.dic true ks) := by
 unfold fzB at h
 split at h
 ·cases h
 ·rename_i n
  exact ⟨h, n⟩
/-- a name's list is looked at while an expression is, which gives a plain value -/
def W3 : RV → Bool
 | .d x => noL x || noO x
 | .nl xs => a1r xs
 | .nd false ks => ks.all fun p => noL p.2
 | .o _ => true
 | _ => false
def grd (m : R RV) : R RV := match m with
 | .ok r g => if W3 r = true then .ok r g else .bad
 | _ => .bad
def a7Z (i : Nat) (f : EF) : EF := fun ρ g => match a5f ρ[i]? with
 | true => .bad
 | false => match fzB ρ[i]? with
 | some (some s) => grd (f (ρ.set i s) g)
 | some none => f ρ g
 | none => .bad
section
variable {K : Ck} {W : WX} {S : Sta} {B F0 F H : Hp} {ρ : List SD} {σ : St} {g : Gs} {D : Ends}
theorem H7 : SmS K W tNext A7 := fun S B F0 F H ρ σ g D E h => h σ F H E
theorem i6 {t u : TS} {f h : EFs} (h1 : SmS K W t f) (h2 : SmS K W u h) : SmS K W (tSeq t u) (o8 f h) := fun S B F0 F H ρ σ g D E hf =>
 h1 S B F0 F H ρ σ g _ E (R.wp_imp (R.wp_bind.mp hf) (fun o g' q => by
  cases o with
  | nx ρ' => exact fun σ' F' H' E' => h2 S B F0 F' H' ρ' σ' g' D E' q
  | rt r => exact q
  | bk ρ' => exact q
  | ct ρ' => exact q
  | ex x ρ' => exact q) fun _ _ z => z)
/-- what is raised within a statement -/
theorem I9 {α : Type} {m : R α} {k : α → Gs → R Out} {P : Out → Gs → Prop} {X : PyData → Gs → Prop} (h : (m.stx ρ k).wp P X) : m.wp (fun a g' => (k a g').wp P X) (fun x g' => P (.ex x ρ) g') := by
 cases m <;> exact h
theorem Z0 {t : Prop} {P : Out → Gs → Prop} (E : g9 K S B F0 F H ρ σ g) : XOk K W S F H σ (fun x g' => a0f K W S B F0 D (.ex x ρ) g') := fun x g' cls d F' H' q e j er =>
 q σ F' H' cls d (E.ext e j) (er.wide fun a ha => E.free ha)
theorem a5m {r : RV} {v : V} {H0 : Hp} (rv : A1 K S H0 F H v r) (hb : ∀ a, H0 a = none → B a = none) : y7 K S B F H (a1n r) (some v) := by
 cases r with
 | d x => exact ⟨v, rfl, rv⟩
 | o u => cases rv; rfl
 | nl xs =>
  obtain ⟨a, vs, rfl, h1, h2, h3, h4, h5⟩ := rv
  exact ⟨a, rfl, hb a h1, h2, h3, vs, h4, h5⟩
 | nd t ks =>
  obtain ⟨a, n, rfl, h1, h2, h3, h4, h5, h6⟩ := rv
  exact ⟨a, rfl, hb a h1, h2, h3, n, h4, h5, h6⟩
theorem a3m {r : RV} {v : V} {H0 : Hp} (rv : A1 K S H0 F H v r) (o : (a1n r).owner = true) : ∃ a, v = .ref a ∧ H0 a = none ∧ H a ≠ none := by
 cases r with
 | d x => cases o
 | o u => cases o
 | nl xs =>
  obtain ⟨a, vs, rfl, h1, h2, h3, h4, h5⟩ := rv
  exact ⟨a, rfl, h1, by rw [h4]; exact fun z => by cases z⟩
 | nd t ks =>
  obtain ⟨a, n, rfl, h1, h2, h3, h4, h5, h6⟩ := rv
  exact ⟨a, rfl, h1, by rw [h4]; exact fun z => by cases z⟩
theorem a3h {i : Nat} {r : RV} {v : V} {H0 : Hp} (E : g9 K S B F0 F H ρ σ g) (rv : A1 K S H0 F H v r) (hb : ∀ a, H0 a = none → B a = none) (hn : ∀ (a : Addr) (l : Nat) (t : SD), ρ[l]? = some t → t.owner = true → σ[l]? = some (some (.ref a)) → H0 a ≠ none) :
  g9 K S B F0 F H (ρ.set i (a1n r)) (σ.set i (some v)) g := E.set (a5m rv hb) fun o k t hk ho hv => by
 obtain ⟨a, rfl, h0, _⟩ := a3m rv o
 exact hn a k t hk ho hv h0
theorem a5i {te : TE} {fe : EF} (i : Nat) (h : Sm K W te fe) : SmS K W (tAsg te (gName i)) (a26 i fe) := by
 intro S B F0 F H ρ σ g D E hf
 refine h S B F0 F H ρ σ g _ _ _ E (I9 hf) (fun r g' v F' H' q e j rv => ?_) (Z0 (t := True) (P := fun _ _ => True) E)
 exact q _ _ _ (a3h (E.ext e j) rv (fun a ha => E.free ha) (fun a l t ht ho hv => E.ownH ht ho hv))
theorem o7 {te : TE} {fe : EF} {tg : TG} {is : List Nat} {fg : EFg} (h : Sm K W te fe) (hg : SmG false K tg is fg) : SmS K W (tAsg te tg) (E7 fe fg) := by
 intro S B F0 F H ρ σ g D E hf
 refine h.dat E (I9 hf) (Z0 (t := True) (P := fun _ _ => True) E) fun x g' v F' H' q e E' r => ?_
 obtain ⟨ρ', h1, h2⟩ := R.wp_ofO (R.wp_bind.mp q)
 exact hg S B F0 F' H' ρ σ g' v x ρ' _ E' (.inl r) h1 fun σ' E2 _ _ => h2 _ _ _ E2
theorem z8 {te : TE} {fe : EF} (h : Sm K W te fe) : SmS K W (tRet te) (P4 fe) := by
 intro S B F0 F H ρ σ g D E hf
 refine h S B F0 F H ρ σ g _ _ _ E (I9 hf) (fun r g' v F' H' q e j rv => ?_) (Z0 (t := True) (P := fun _ _ => True) E)
 exact q v F' H' ((E.ext e j).ret (rv.wide fun a ha => E.free ha))
theorem a3I (i : Nat) : SmS K W (tRet (tVar i)) (P2 i) := by
 intro S B F0 F H ρ σ g D E hf
 unfold P2 at hf
 cases e : ρ[i]? with
 | none => rw [e] at hf; exact hf.elim
 | some s =>
  rw [e] at hf
  obtain ⟨v, h1, h2⟩ := E.sl i s e
  cases s with
  | u => exact hf.elim
  | d x =>
   obtain ⟨w, rfl, h3⟩ := h2
   exact ⟨w, h1, hf w F H (E.ret h3)⟩
  | o w =>
   cases h2
   exact ⟨w, h1, hf w F H (E.ret rfl)⟩
  | own xs =>
   obtain ⟨a, rfl, b1, b2, b3, vs, b4, b5⟩ := h2
   exact ⟨_, h1, hf _ F H (E.ret ⟨a, vs, rfl, b1, b2, b3, b4, b5⟩)⟩
  | dic t ks =>
   obtain ⟨a, rfl, b1, b2, b3, n, b4, b5, b6⟩ := h2
   exact ⟨_, h1, hf _ F H (E.ret ⟨a, n, rfl, b1, b2, b3, b4, b5, b6⟩)⟩
  | ins x dx C nm fs => exact hf.elim
  | lk x => exact hf.elim
  | er x => exact hf.elim
  | lm os q => exact hf.elim
theorem T2 {c : TT} {t u : TS} {ft : EFt} {f h : EFs} (hc : SmT K W c ft) (h1 : SmS K W t f) (h2 : SmS K W u h) : SmS K W (tIfS c t u) (T7 ft f h) := by
 intro S B F0 F H ρ σ g D E hf
 refine hc S B F0 F H ρ σ g _ _ _ E (I9 hf) (fun b g' F' H' q e j => ?_) (Z0 (t := True) (P := fun _ _ => True) E)
 cases b with
 | true => exact h1 S B F0 F' H' ρ σ g' D (E.ext e j) q
 | false => exact h2 S B F0 F' H' ρ σ g' D (E.ext e j) q
theorem a2p {wi : TI} {tg : TG} {tb : TS} {fi : EFi} {fg : EFg} {fb : EFs} {is : List Nat} {w : Bool} (hi : SmI w K W wi fi) (hg : SmG w K tg is fg) (hb : SmS K W tb fb) : SmS K W (tFor wi tg tb) (a2I fi fg fb) := by
 intro S B F0 F H ρ σ g D E hf
 refine hi S B F0 F H ρ σ g _ _ _ E (I9 hf) (fun ds g1 F1 H1 J q e j it => ?_) (Z0 (t := True) (P := fun _ _ => True) E)
 have E1 := E.ext e j
 refine ⟨fun i m σc Hc => m = ds.length - i ∧ i ≤ ds.length ∧ ∃ ρc gc Fc, g9 K S B F1 Fc Hc ρc σc gc ∧ (forR fg fb (ds.drop i) ρc gc).wp (a0f K W S B F0 D) NoX, ⟨ds.length, rfl, Nat.zero_le _, ρ, g1, F1, E1.rebase, q⟩, ?_⟩
 rintro i m σc Hc ⟨rfl, hil, ρc, gc, Fc, Ec, w⟩
 obtain ⟨hgo, hstop⟩ := it Fc Hc Ec.mono Ec.sub
 by_cases hlt : i < ds.length
 ·right
  obtain ⟨hgo1, hy⟩ := hgo i ds[i] (by simp [hlt])
  refine ⟨hgo1, fun σ' H' => ∃ ρc gc Fc, g9 K S B F1 Fc H' ρc σ' gc ∧ (forR fg fb (ds.drop (i + 1)) ρc gc).wp (a0f K W S B F0 D) NoX, fun σ' H' n => ⟨ds.length - (i + 1), by omega, rfl, by omega, n⟩, fun x H2 y => ?_⟩
  obtain ⟨F2, e2, j2, rx⟩ := hy x H2 y
  rw [List.drop_eq_getElem_cons hlt] at w
  unfold forR at w
  cases hg1 : fg ds[i] ρc with
  | none => rw [hg1] at w; exact w.elim
  | some ρ2 =>
  rw [hg1] at w
  have E2 := Ec.ext e2 (j2 _ Ec.j)
  refine hg S B F1 F2 H2 _ _ gc x _ _ _ E2 rx hg1 fun σ3 E3 _ _ => ?_
  refine hb S B F1 F2 H2 ρ2 σ3 gc _ E3 (R.wp_imp (R.wp_bind.mp w) (fun o g' q => ?_) fun _ _ z => z)
  cases o with
  | nx ρ' => exact fun σ' F' H' E' => ⟨ρ', g', F', E', q⟩
  | ct ρ' => exact fun σ' F' H' E' => ⟨ρ', g', F', E', q⟩
  | bk ρ' => exact fun σ' F' H' E' => q _ _ _ (g9.unbase E1 E')
  | rt r => exact fun v F' H' R => q v F' H' ⟨R.sub, E1.mono.trans R.mono, fun a h => (R.fz a h).trans (E1.fz a h), R.keep, R.tb, R.j, R.rv⟩
  | ex x ρ' => exact fun σ' F' H' cls d E' er => q σ' F' H' cls d (g9.unbase E1 E') er
 ·left
  have el : i = ds.length := by omega
  subst el
  rw [List.drop_length] at w
  exact ⟨hstop, w _ _ _ (g9.unbase E1 Ec)⟩
theorem a1B {c : TT} {tb : TS} {ft : EFt} {fb : EFs} (hc : SmT K W c ft) (hb : SmS K W tb fb) : SmS K W (tWhile c tb) (S6 ft fb) := by
 intro S B F0 F H ρ σ g D E hf
 obtain ⟨n, hf⟩ := a2n hf
 refine ⟨fun m σc Hc => ∃ ρc gc Fc, g9 K S B F0 Fc Hc ρc σc gc ∧ (whR ft fb m ρc gc).wp (a0f K W S B F0 D) NoX, ⟨n, ρ, g, F, E, hf⟩, ?_⟩
 rintro m σc Hc ⟨ρc, gc, Fc, Ec, w⟩
 cases m with
 | zero => exact w.elim
 | succ m =>
  refine hc S B F0 Fc Hc ρc σc gc _ _ _ Ec (I9 w) (fun b g' F' H' q e j => ?_) (Z0 (t := True) (P := fun _ _ => True) Ec)
  cases b with
  | false =>
   rw [if_neg Bool.false_ne_true] at q ⊢
   exact q _ _ _ (Ec.ext e j)
  | true =>
   rw [if_pos rfl] at q ⊢
   refine ⟨fun σ' H' => ∃ ρc gc Fc, g9 K S B F0 Fc H' ρc σ' gc ∧ (whR ft fb m ρc gc).wp (a0f K W S B F0 D) NoX, fun σ' H' n => ⟨m, Nat.lt_succ_self m, n⟩, ?_⟩
   refine hb S B F0 F' H' ρc σc g' _ (Ec.ext e j) (R.wp_imp (R.wp_bind.mp q) (fun o g' q => ?_) fun _ _ z => z)
   cases o with
   | nx ρ' => exact fun σ' F' H' E' => ⟨ρ', g', F', E', q⟩
   | ct ρ' => exact fun σ' F' H' E' => ⟨ρ', g', F', E', q⟩
   | bk ρ' => exact q
   | rt r => exact q
   | ex x ρ' => exact q
theorem del_same {F : Hp} {a : Addr} : del F a a = none := if_pos rfl
def a15 : HO → Bool
 | .ins _ _ _ => true
 | _ => false
theorem a2V {F : Hp} {a : Addr} {o : HO} (ha : F a = some o) (ho : F7 o = true) : ∀ {fs : List (Str × V)} {ds : List (Str × PyData)}, RpF K F fs ds → ((I7 ds).all fun p => noL p.2) = true → RpF K (del F a) fs ds
 | _, _, .nil, _ => .nil
 | _, _, @RpF.cons _ _ n v fs d ds r t, h => by
  have h' : (noL d && ((I7 ds).all fun p => noL p.2)) = true := h
  obtain ⟨h1, h2⟩ := Bool.and_eq_true_iff.mp h'
  exact .cons (Rp.del ha ho r h1) (a2V ha ho t h2)
theorem a5D {F : Hp} {a : Addr} {o : HO} (ha : F a = some o) (ho : F7 o = true) (hi : a15 o = false) {v : V} {x : PyData} (r : Rp K F v x) (n : noO x = true) : Rp K (del F a) v x := by
 cases r with
 | @obj b dx C nm fs ds h m c rf =>
  have hb : del F a b = some (.ins C dx fs) := by
   rw [del_ne (fun z => by rw [z, ha] at h; cases h; cases hi)]
   exact h
  exact .obj hb m c (a2V ha ho rf n)
 | dK h rk =>
  cases rk with
  | nil => cases n
  | @cons k _ _ _ _ _ _ => cases k <;> cases n
 | dT _ _ _ => cases n
 | exc _ _ _ _ => cases n
 | fn _ => cases n
 | _ => cases n
theorem a5Y {S : Sta} {F H F2 H2 : Hp} {a : Addr} {o : HO} (hF : F a = none) (ho : F7 o = true) (e : Ext S (upd F a o) H F2 H2) (t : Tb S F H) : Tb S (del F2 a) H2 := fun p hp => by
 have ha : F2 a = some o := e.le _ _ upd_same
 obtain ⟨ps, h1, h2, h3⟩ := e.tb (t.to (F' := upd F a o) (H' := H) (fun x u z => by rw [upd_ne (ne_of_none z hF)]; exact z) fun _ _ _ z => z) p hp
 refine ⟨ps, h1, h2, fun pos cv hc => ?_⟩
 obtain ⟨c, e1, e2⟩ := h3 pos cv hc
 exact ⟨c, e1, Q7 ha ho e2 rfl⟩
/-- back to what was frozen ahead -/
theorem a3F {F2 H2 : Hp} {g2 : Gs} {v : V} {r : RV} {a : Addr} {o : HO} (hH : H a = some o) (hF : F a = none) (hM : ¬ S.M a) (ho : F7 o = true) (hi : a15 o = false) (e : Ext S (upd F a o) H F2 H2) (j : S.J g2 H2) (rv : A1 K S H F2 H2 v r) (p : W3 r = true) : Ext S F H (del F2 a) H2 ∧ A1 K S H (del F2 a) H2 v r := by
 have ha : F2 a = some o := e.le _ _ upd_same
 refine ⟨⟨e.keep, fun b hb => ?_, fun b u hu => ?_, fun b u hu => ?_, fun t => a5Y hF ho e t⟩, ?_⟩
 ·by_cases z : b = a
  ·subst z; rw [del_same, hF]
  ·rw [del_ne z, e.grow b hb, upd_ne z]
 ·have z : b ≠ a := fun z => by rw [z, hF] at hu; cases hu
  rw [del_ne z]
  exact e.le _ _ (by rw [upd_ne z]; exact hu)
 ·by_cases z : b = a
  ·subst z; rw [del_same] at hu; cases hu
  ·rw [del_ne z] at hu; exact e.sub _ _ hu
 ·cases r with
  | d x =>
   have p : (noL x || noO x) = true := p
   rcases Bool.or_eq_true_iff.mp p with p | p
   ·exact Rp.del ha ho rv p
   ·exact a5D ha ho hi rv p
  | nl xs =>
   obtain ⟨b, vs, rfl, h1, h2, h3, h4, h5⟩ := rv
   have z : b ≠ a := fun z => by rw [z, hH] at h1; cases h1
   exact ⟨b, vs, rfl, h1, h2, by rw [del_ne z]; exact h3, h4, RpA.del ha ho h5 p⟩
  | nd t ks =>
   cases t with
   | true => cases p
   | false =>
    obtain ⟨b, n, rfl, h1, h2, h3, h4, h5, h6⟩ := rv
    have z : b ≠ a := fun z => by rw [z, hH] at h1; cases h1
    cases n with
    | t kvs => cases h5
    | k kvs => exact ⟨b, .k kvs, rfl, h1, h2, by rw [del_ne z]; exact h3, h4, rfl, RpK.del ha ho h6 p⟩
  | o u => exact rv
theorem a1d {s : SD} {a : Addr} {o : HO} (h : N6 K F H a s) (e : H a = some o) (nt : ∀ ks, s ≠ .dic true ks) : F7 o = true := by
 cases s with
 | own xs => obtain ⟨vs, h1, _⟩ := h; rw [h1] at e; cases e; rfl
 | dic t ks =>
  obtain ⟨n, h1, h2, _⟩ := h
  rw [h1] at e
  cases e
  cases n with
  | k kvs => rfl
  | t ob kvs => cases h2; exact absurd rfl (nt ks)
 | ins x dx C nm fs => obtain ⟨vs, h1, _⟩ := h; rw [h1] at e; cases e; rfl
 | u => exact h.elim
 | d x => exact h.elim
 | o v => exact h.elim
 | lk x => exact h.elim
 | er x => exact h.elim
 | lm os q => obtain ⟨fs, h1, _⟩ := h; rw [h1] at e; cases e; rfl
theorem a1h {s : SD} {a : Addr} {o : HO} (h : N6 K F H a s) (e : H a = some o) (n : a5f (some s) = false) : a15 o = false := by
 cases s with
 | own xs => obtain ⟨vs, h1, _⟩ := h; rw [h1] at e; cases e; rfl
 | dic t ks => obtain ⟨m, h1, _⟩ := h; rw [h1] at e; cases e; cases m <;> rfl
 | ins x dx C nm fs => cases n
 | u => exact h.elim
 | d x => exact h.elim
 | o v => exact h.elim
 | lk x => exact h.elim
 | er x => exact h.elim
 | lm os q => obtain ⟨fs, h1, _⟩ := h; rw [h1] at e; cases e; rfl
theorem a6v {s : Option SD} {s' : SD} (h : a8b s = some (some s')) : ∃ t, s = some t ∧ t.owner = true := by
 cases s with
 | none => cases h
 | some t => cases t <;> first | exact ⟨_, rfl, rfl⟩ | cases h
theorem a71 {t : TE} {f : EF} (i : Nat) (h : Sm K W t f) : Sm K W t (a7Z i f) := by
 intro S B F0 F H ρ σ g Pd Xd Q E hf k kx
 unfold a7Z at hf
 cases hn : a5f ρ[i]? with
 | true => rw [hn] at hf; exact hf.elim
 | false =>
 rw [hn] at hf
 dsimp only at hf
 split at hf
 ·rename_i s e
  obtain ⟨e, nt⟩ := a4e e
  obtain ⟨a, x, o, hv, _, hF, hM, hH, E', le⟩ := E.frz (s := s) e
  obtain ⟨ho, hi⟩ : F7 o = true ∧ a15 o = false := by
   obtain ⟨t, ht, hto⟩ := a6v e
   obtain ⟨v, h1, h2⟩ := E.sl i t ht
   obtain ⟨b, hb, _, _, _, own⟩ := h2.at hto
   rw [hv, hb] at h1
   cases h1
   exact ⟨a1d own hH (fun ks z => nt ks (ht.trans (congrArg some z))), a1h own hH (by rw [← ht]; exact hn)⟩
  have hf' : (f (ρ.set i s) g).wp (fun r g' => W3 r = true ∧ Pd r g') NoX := by
   unfold grd at hf
   split at hf
   ·rename_i r g' er
    rw [er]
    split at hf
    ·exact ⟨‹_›, hf⟩
    ·exact hf.elim
   ·exact hf.elim
  refine h S B F0 _ H _ σ g _ _ _ E' hf' (fun r g' v F2 H2 q e2 j2 rv => ?_) (fun _ _ _ _ _ _ z _ _ _ => z.elim)
  obtain ⟨e3, rv3⟩ := a3F hH hF hM ho hi e2 j2 rv q.1
  exact k r g' v _ H2 q.2 e3 j2 rv3
 ·exact h S B F0 F H ρ σ g Pd Xd Q E hf k kx
 ·exact hf.elim
end
def avS : AV → SD
 | .d x => .d x
 | .o v => .o v
def slots (n : Nat) (as : List AV) : List SD := as.map avS ++ List.replicate (n - as.length) .u
theorem U0 {K : Ck} {F : Hp} : ∀ {vs : List V} {as : List AV} {i : Nat} {a : AV}, v7 K F vs as → as[i]? = some a → ∃ v, vs[i]? = some v ∧ a0t K F v a
 | v :: vs, a :: as, 0, _, h, e => by simp at e; subst e; exact ⟨v, rfl, h.1⟩
 | v :: vs, a :: as, i + 1, b, h, e => by
  obtain ⟨w, h1, h2⟩ := U0 (i := i) h.2 (by simpa using e)
  exact ⟨w, by simpa using h1, h2⟩
 | [], [], _, _, _, e => by simp at e
 | [], _ :: _, _, _, h, _ => h.elim
 | _ :: _, [], _, _, h, _ => h.elim
/-- a def: its parameters, its slots, its body -/
def fnR (np n : Nat) (b : EFs) : a1s := fun as g => if as.length = np then (b (slots n as) g).nox.bind a7h else .bad
theorem a1P {K : Ck} {q : SQ} {F H B : Hp} {g : Gs} {N : List Str} {vs : List V} {as : List AV} (sub : Sub F H) (mF : ∀ a, (u0 q).M a → F a = none) (j : (u0 q).J g H) (tb : Tb (u0 q) F H) (hq : q.2 ≠ [] → q.2 = a6d K) (ra : v7 K F vs as) (kp : ∀ a o, B a = some o → H a = some o) : g9 K (u0 q) B F F H (slots N.length as) (L2.start N vs) g := by
 have hl := ra.length
 refine ⟨⟨q, rfl, hq⟩, tb, sub, Le.refl F, fun _ _ => rfl, fun a o h _ => kp a o h, mF, j, ?_, fun i s hi => ?_, fun i l s t h1 h2 o1 o2 _ => ?_⟩
 ·unfold slots L2.start
  simp [hl]
 ·unfold slots at hi
  unfold L2.start
  by_cases hc : i < as.length
  ·rw [List.getElem?_append_left (by simpa using hc), List.getElem?_map] at hi
   cases ea : as[i]? with
   | none => rw [ea] at hi; cases hi
   | some a =>
    rw [ea] at hi
    cases hi
    obtain ⟨v, hv, rv⟩ := U0 ra ea
    refine ⟨some v, by rw [List.getElem?_append_left (by simpa [hl] using hc), List.getElem?_map, hv]; rfl, ?_⟩
    cases a with
    | d x => exact ⟨v, rfl, rv⟩
    | o u => cases rv; rfl
  ·rw [List.getElem?_append_right (by simpa using Nat.le_of_not_lt hc), List.getElem?_replicate] at hi
   split at hi
   ·cases hi
    rename_i hh
    refine ⟨none, ?_, trivial⟩
    rw [List.getElem?_append_right (by simpa [hl] using Nat.le_of_not_lt hc), List.getElem?_replicate]
    simp only [List.length_map] at hh ⊢
    rw [hl, if_pos (by simpa using hh)]
   ·cases hi
 ·exfalso
  unfold slots at h1
  by_cases hc : i < as.length
  ·rw [List.getElem?_append_left (by simpa using hc), List.getElem?_map] at h1
   cases ea : as[i]? with
   | none => rw [ea] at h1; cases h1
   | some b =>
    rw [ea] at h1
    cases h1
    cases b <;> cases o1
  ·rw [List.getElem?_append_right (by simpa using Nat.le_of_not_lt hc), List.getElem?_replicate] at h1
   split at h1
   ·cases h1; cases o1
   ·cases h1
theorem a1z {np n : Nat} {b : EFs} {as : List AV} {g : Gs} {P : RV → Gs → Prop} {X : PyData → Gs → Prop} (h : (fnR np n b as g).wp P X) : as.length = np ∧ ((b (slots n as) g).nox.bind a7h).wp P X := by
 unfold fnR at h
 split at h
 ·exact ⟨‹_›, h⟩
 ·exact h.elim
theorem S0 {K : Ck} {np n : Nat} {b : EFs} : ∀ (vs : List V) (H : Hp) (Q : VK) (E : XK), spF K (fnR np n b) vs H Q E → vs.length = np := by
 rintro vs H Q E ⟨q, F, g, as, _, _, _, _, _, ra, h⟩
 rw [ra.length]
 exact (a1z h).1
/-- the wish of a def's body -/
abbrev WB (E : XK) : WX := fun cls d _ H => E cls d H
theorem Q9 {K : Ck} {t : TS} {b : EFs} {np : Nat} {N : List Str} {vs : List V} {H : Hp} {Q : VK} {E : XK} (hb : SmS K (WB E) t b) (h : spF K (fnR np N.length b) vs H Q E) : t { nx := fun _ H' => Q .non H', rt := Q } (L2.start N vs) H := by
 obtain ⟨q, F, g, as, sub, mF, j, tb, hq, ra, h⟩ := h
 refine hb (u0 q) H F F H (slots N.length as) (L2.start N vs) g _ (a1P sub mF j tb hq ra fun _ _ h => h) (R.wp_imp (R.wp_nox.mp (R.wp_bind.mp (a1z h).2)) (fun o g' h => ?_) fun _ _ z => z)
 cases o with
 | nx ρ => exact fun σ F' H' E' => h _ _ _ (E'.ret Rp.non)
 | rt r => exact h
 | bk ρ => exact h.elim
 | ct ρ => exact h.elim
 | ex x ρ => exact fun σ F' H' cls d E' er => h cls d F' H' ⟨E'.sub, E'.mono, E'.fz, E'.keep, E'.tb, E'.j, er⟩
end Fx

namespace Fx
open PySem L2

def rB (K : Ck) (go : GO2) : R2 := fun x y H Q => ∃ (S : Sta) (F : Hp) (dx dy : PyData) (Qd : RV → Prop), Okh S F H ∧ Rp K F x dx ∧ Rp K F y dy ∧ go dx dy Qd ∧ I5 K S F H Qd Q
def rN (K : Ck) (go : GO1) : V → Hp → VK → Prop := fun x H Q => ∃ (S : Sta) (F : Hp) (dx : PyData) (Qd : RV → Prop), Okh S F H ∧ Rp K F x dx ∧ go dx Qd ∧ I5 K S F H Qd Q
def rA (K : Ck) (go : GOA) : List V → Hp → VK → Prop := fun xs H Q => ∃ (S : Sta) (F : Hp) (as : List AV) (Qd : RV → Prop), Okh S F H ∧ v7 K F xs as ∧ go as Qd ∧ I5 K S F H Qd Q
theorem H5 {K : Ck} {go : GO2} : OpD K (rB K go) go := fun S F H x y dx dy Qd Q o h1 h2 g p => ⟨S, F, dx, dy, Qd, o, h1, h2, g, p⟩
theorem a6M {K : Ck} {go : GO1} : a8o K (rN K go) go := fun S F H x dx Qd Q o h1 g p => ⟨S, F, dx, Qd, o, h1, g, p⟩
theorem a7v {K : Ck} {go : GOA} : a4A K (rA K go) go := fun S F H xs as Qd Q o h1 g p => ⟨S, F, as, Qd, o, h1, g, p⟩

theorem pl1 {d : PyData} (h : pl d = true) : d.plain = true := (Bool.and_eq_true_iff.mp h).1
theorem pl2 {d : PyData} (h : pl d = true) : d.depth ≤ 64 := of_decide_eq_true (Bool.and_eq_true_iff.mp h).2

def a8m : GO2 := fun x y Q => match x, y with
 | .int i, .int j => Q (.d (.int (i + j)))
 | .str i, .str j => i.length + j.length ≤ sizeLine ∧ Q (.d (.str (i ++ j)))
 | .list xs, .list ys => xs.length + ys.length ≤ sizeLine ∧ Q (.nl (xs ++ ys))
 | .tuple xs, .tuple ys => xs.length + ys.length ≤ sizeLine ∧ Q (.d (.tuple (xs ++ ys)))
 | _, _ => False
def gSub : GO2 := fun x y Q => match x, y with
 | .int i, .int j => Q (.d (.int (i - j)))
 | _, _ => False
def a8w : GO2 := fun x y Q => match x, y with
 | .int i, .int j => (CMul i j ∨ CMulW i j) ∧ Q (.d (.int (i * j)))
 | .list xs, .int k => (-(2 ^ 63) ≤ k ∧ k < 2 ^ 63) ∧ xs.length * k.toNat ≤ sizeLine ∧ Q (.nl (List.replicate k.toNat xs).flatten)
 | _, _ => False
def a95 : GO2 := fun x y Q => match x, y with
 | .int i, .int j => 0 < j ∧ Q (.d (.int (i % j)))
 | _, _ => False
def a8A : GO2 := fun x y Q => match x, y with
 | .int i, .int j => (0 < j ∧ j.natAbs.log2 < 9000) ∧ Q (.d (.int (i / j)))
 | _, _ => False
def a57 : GO2 := fun x y Q => match x, y with
 | .int i, .int j => 0 ≤ j ∧ (Builtin.Int.intBits i : Int) * j ≤ 2 ^ 27 ∧ Q (.d (.int (i ^ j.toNat)))
 | _, _ => False
def a91 : GO1 := fun x Q => match x with
 | .int i => Q (.d (.int (-i)))
 | _ => False
section
open PySem.Spec PyProof.Rows
variable {X : Cx}
theorem a9o : OpR X (binaryOp .Add) (fun x y H Q => ∃ l b xs zs, x = .ref l ∧ y = .ref b ∧ a0d (Cx.ck X) H l xs ∧ a0d (Cx.ck X) H b zs ∧ xs.length + zs.length ≤ sizeLine ∧ ∀ p, H p = none → Q (.ref p) (upd H p (.lst (xs ++ zs)))) := by
 intro pins s σ H x y v u Q I rx ry h
 obtain ⟨l, b, xs, zs, rfl, rfl, hH, hB, hz, q⟩ := h
 cases rx
 cases ry
 obtain ⟨z, its, n, r, hl, e⟩ := a86 I hH
 obtain ⟨z2, its2, n2, r2, hl2, e2⟩ := a86 I hB
 refine PySem.P.add_list e e2 ?_ (by rw [List.size_toArray, List.size_toArray]; omega)
 have ea : its.toArray ++ its2.toArray = (its ++ its2).toArray := by simp
 rw [ea]
 exact ⟨.ref _, _, I.lnew (t' := s.toks) (r.append r2) (by rw [List.length_append]; omega), rfl, q _ I.fresh⟩
theorem a65 : OpR X (binaryOp .Add) (fun x y H Q => ∃ a b xs ys, x = .ref a ∧ y = .ref b ∧ SqT (Cx.ck X) H a xs ∧ SqT (Cx.ck X) H b ys ∧ xs ≠ [] ∧ xs.length + ys.length ≤ sizeLine ∧ (ys = [] → Q (.ref a) H) ∧ (ys ≠ [] → ∀ p (ob : Obj), H p = none → ob.dict = none → Q (.ref p) (upd H p (.frz ob (.tup (xs ++ ys)))))) := by
 intro pins s σ H x y v u Q I rx ry h
 obtain ⟨a, b, xs, ys, rfl, rfl, ha, hb, hx, hz, q1, q2⟩ := h
 cases rx
 cases ry
 obtain ⟨its, r1, p1, _⟩ := I.tuple ha
 obtain ⟨its2, r2, p2, _⟩ := I.tuple hb
 refine HT.cat_tup p1 p2 (fun z => hx (r1.nil_iff.mp z)) (fun z => ⟨.ref a, H, I, rfl, q1 (r2.nil_iff.mp z)⟩) (fun z => ?_) (by rw [← r1.length, ← r2.length]; exact hz)
 refine ⟨.ref s.heap.objs.size, _, I.laid (t' := s.toks) (o := .frz { cls := .type "tuple", data := .seq (its ++ its2).toArray } (.tup (xs ++ ys))) (fun b ob q => Heap.get?_push_of_some _ q) (Nat.le_refl _) ?_, rfl, q2 (fun w => z (r2.nil_iff.mpr w)) _ _ (I.hok.fresh (Nat.le_refl _)) rfl⟩
 exact ⟨Heap.get?_push_size _ rfl, by rw [List.length_append]; exact hz, _, r1.append r2, IsTup.new _ _⟩
theorem q9 : OpR X (binaryOp .Add) (rB (Cx.ck X) a8m) := by
 intro pins s σ H x y v u Q I rx ry h
 obtain ⟨S, F, dx, dy, Qd, o, h1, h2, g, p⟩ := h
 cases h1 with
 | int i =>
  cases h2 with
  | int j => exact op_add pins s σ H _ _ v u Q I rx ry ⟨i, j, rfl, rfl, p.d o (Rp.int _) g⟩
  | _ => exact g.elim
 | str i =>
  cases h2 with
  | str j => exact op_add_str pins s σ H _ _ v u Q I rx ry ⟨i, j, rfl, rfl, g.1, p.d o (Rp.str _) g.2⟩
  | _ => exact g.elim
 | @lst a vs ds hr ra =>
  cases h2 with
  | @lst b ws es hs rb => exact a9o pins s σ H _ _ v u Q I rx ry ⟨a, b, vs, ws, rfl, rfl, Le.sqx o.sub hr, Le.sqx o.sub hs, by rw [ra.length, rb.length]; exact g.1, p.nl o (ra.append rb) g.2⟩
  | _ => exact g.elim
 | @tup a vs ds hr hk ra =>
  cases h2 with
  | @tup b ws es hs hk2 rb =>
   by_cases e1 : vs = []
   ·refine op_catA pins s σ H _ _ v u Q I rx ry ⟨a, b, vs, ws, rfl, rfl, Le.sqt o.sub hr, Le.sqt o.sub hs, by rw [ra.length, rb.length]; exact g.1, fun e => ?_, fun z => absurd e1 z, fun z => absurd e1 z⟩
    have e' := ra.nil_iff.mp e
    subst e'
    exact p.d o (Rp.tup hs hk2 rb) g.2
   ·exact a65 pins s σ H _ _ v u Q I rx ry ⟨a, b, vs, ws, rfl, rfl, Le.sqt o.sub hr, Le.sqt o.sub hs, e1, by rw [ra.length, rb.length]; exact g.1, fun e2 => by
     have e' := rb.nil_iff.mp e2
     subst e'
     have g2 := g.2
     rw [List.append_nil] at g2
     exact p.d o (Rp.tup hr hk ra) g2, fun _ pp ob h1 h2 => p.tup o (ra.append rb) g.2 pp ob h1 h2⟩
  | _ => exact g.elim
 | _ => exact g.elim
theorem a6a : OpR X (binaryOp .Sub) (rB (Cx.ck X) gSub) := by
 intro pins s σ H x y v u Q I rx ry h
 obtain ⟨S, F, dx, dy, Qd, o, h1, h2, g, p⟩ := h
 cases h1 with
 | int i =>
  cases h2 with
  | int j => exact op_sub pins s σ H _ _ v u Q I rx ry ⟨i, j, rfl, rfl, p.d o (Rp.int _) g⟩
  | _ => exact g.elim
 | _ => exact g.elim
theorem a8G : OpR X (binaryOp .Mult) (fun x y H Q => ∃ l k xs, x = .ref l ∧ y = .int k ∧ a0d (Cx.ck X) H l xs ∧ -(2 ^ 63) ≤ k ∧ k < 2 ^ 63 ∧ xs.length * k.toNat ≤ sizeLine ∧
  ∀ p, H p = none → Q (.ref p) (upd H p (.lst (List.replicate k.toNat xs).flatten))) := by
  intro pins s σ H x y v u Q I rx ry h
  obtain ⟨l, k, xs, rfl, rfl, hH, h1, h2, hz, q⟩ := h
  cases rx
  obtain ⟨t, rfl⟩ := ry
  obtain ⟨z, its, n, r, hl, e⟩ := a86 I hH
  have hlen : its.toArray.size * k.toNat ≤ sizeLine := by rw [List.size_toArray, ← hl]; exact hz
  have hcap : ¬ its.toArray.size * k.toNat > (2 ^ 63 - 1) / 8 := by
    have : (sizeLine : Nat) ≤ (2 ^ 63 - 1) / 8 := by decide
    omega
  have hfit : ¬ (!Builtin.List.listFitsIndex k) = true := by
    rw [fitsIndex_both h1 h2]
    exact Bool.false_ne_true
  have hlong : ¬ Builtin.List.listTooLong (its.toArray.size * k.toNat) = true := by
    rw [notLongL hlen]
    exact Bool.false_ne_true
  have hnew : List.foldl (fun x1 x2 => x1 ++ x2) #[] (List.replicate (if its.toArray.isEmpty = true then 0 else k.toNat) its.toArray) = (List.replicate k.toNat its).flatten.toArray := by
    have f0 : ∀ m : Nat, List.foldl (fun x1 x2 => x1 ++ x2) #[] (List.replicate m its.toArray) = (List.replicate m its).flatten.toArray := fun m => by
      have := foldl_rep its m []
      rw [List.nil_append] at this
      exact this
    rw [f0]
    cases its with
    | nil => simp
    | cons a r' => rw [if_neg (by simp)]
  refine wpAny_binaryOp_repeat_ref (T := "list") (U := "int") (by decide) ⟨_, e, rfl⟩ (fun s' => typeIs_int s' k t) noFill_list_mul F.fills_int_mul F.slot_int_rmul repeat_list F.slot_int_index.lookup
    (call_meets F.slot_int_rmul (typeIs_int s k t) F.entry_int_rmul (F.args_int_rmul_2 _ _) (int___rmul___int_list k t l its.toArray n)
      ⟨e, rfl, ⟨_, e, rfl⟩, call_meets F.slot_list_mul ⟨_, e, rfl⟩ F.entry_list_mul (F.args_list_mul_2 _ _) (AutoListH.list___mul___list_int_3 l its.toArray n k t hfit hcap hlong) ⟨e, ?_⟩⟩)
  rw [hnew]
  exact ⟨.ref _, _, I.lnew (t' := s.toks) (r.rep k.toNat) (by rw [PyProof.Rows.lm_len_rep_flat, Nat.mul_comm]; exact hz), rfl, q _ I.fresh⟩
theorem RpA.rep {K : Ck} {F : Hp} {vs : List V} {ds : List PyData} (h : RpA K F vs ds) : ∀ n : Nat, RpA K F (List.replicate n vs).flatten (List.replicate n ds).flatten
 | 0 => by simpa using RpA.nil
 | n + 1 => by simpa [List.replicate_succ] using h.append (RpA.rep h n)
theorem a1C : OpR X (binaryOp .Mult) (rB (Cx.ck X) a8w) := by
 intro pins s σ H x y v u Q I rx ry h
 obtain ⟨S, F, dx, dy, Qd, o, h1, h2, g, p⟩ := h
 cases h1 with
 | int i =>
  cases h2 with
  | int j =>
   rcases g.1 with c | c
   ·exact op_mul pins s σ H _ _ v u Q I rx ry ⟨i, j, rfl, rfl, c, p.d o (Rp.int _) g.2⟩
   ·exact op_mulW pins s σ H _ _ v u Q I rx ry ⟨i, j, rfl, rfl, c, p.d o (Rp.int _) g.2⟩
  | _ => exact g.elim
 | @lst a vs ds hr ra =>
  cases h2 with
  | int k => exact a8G pins s σ H _ _ v u Q I rx ry ⟨a, k, vs, rfl, rfl, Le.sqx o.sub hr, g.1.1, g.1.2, by rw [ra.length]; exact g.2.1, p.nl o (ra.rep k.toNat) g.2.2⟩
  | _ => exact g.elim
 | _ => exact g.elim
theorem N5 : OpR X (binaryOp .Mod) (rB (Cx.ck X) a95) := by
 intro pins s σ H x y v u Q I rx ry h
 obtain ⟨S, F, dx, dy, Qd, o, h1, h2, g, p⟩ := h
 cases h1 with
 | int i =>
  cases h2 with
  | int j => exact op_mod pins s σ H _ _ v u Q I rx ry ⟨i, j, rfl, rfl, g.1, p.d o (Rp.int _) g.2⟩
  | _ => exact g.elim
 | _ => exact g.elim
theorem a1v : OpR X (binaryOp .FloorDiv) (rB (Cx.ck X) a8A) := by
 intro pins s σ H x y v u Q I rx ry h
 obtain ⟨S, F, dx, dy, Qd, o, h1, h2, g, p⟩ := h
 cases h1 with
 | int i =>
  cases h2 with
  | int j => exact op_fdivW pins s σ H _ _ v u Q I rx ry ⟨i, j, rfl, rfl, g.1, p.d o (Rp.int _) g.2⟩
  | _ => exact g.elim
 | _ => exact g.elim
theorem U9 : OpR X (binaryOp .Pow) (rB (Cx.ck X) a57) := by
 intro pins s σ H x y v u Q I rx ry h
 obtain ⟨S, F, dx, dy, Qd, o, h1, h2, g, p⟩ := h
 cases h1 with
 | int i =>
  cases h2 with
  | int j =>
   obtain ⟨t, rfl⟩ := rx
   obtain ⟨t', rfl⟩ := ry
   exact pow_int g.1 g.2.1 ⟨.int _, H, I.tok _, ⟨_, rfl⟩, p.d o (Rp.int _) g.2.2⟩
  | _ => exact g.elim
 | _ => exact g.elim
theorem a5X : UnR X (unaryOp .USub) (rN (Cx.ck X) a91) := by
 intro pins s σ H x v Q I rx h
 obtain ⟨S, F, dx, Qd, o, h1, g, p⟩ := h
 cases h1 with
 | int i => exact un_neg pins s σ H _ v Q I rx ⟨i, rfl, p.d o (Rp.int _) g⟩
 | _ => exact g.elim

def gEq : GO2 := fun x y Q => pl x = true ∧ pl y = true ∧ Q (.d (.bool (PyData.eqv x y)))
def gNe : GO2 := fun x y Q => pl x = true ∧ pl y = true ∧ Q (.d (.bool (!PyData.eqv x y)))
def a9l (f : Int → Int → Bool) : GO2 := fun x y Q => match x, y with
 | .int i, .int j => Q (.d (.bool (f i j)))
 | _, _ => False
def gGt : GO2 := a9l fun i j => decide (j < i)
def gGe : GO2 := a9l fun i j => decide (j ≤ i)
theorem a4X (hu : X.A.units + 64 < cLine) : OpR X (compareOp .Eq) (rB (Cx.ck X) gEq) := by
 intro pins s σ H x y v u Q I rx ry h
 obtain ⟨S, F, dx, dy, Qd, o, h1, h2, g, p⟩ := h
 obtain ⟨as, r1⟩ := Dp.reads I dx x v (h1.dp o.sub (pl1 g.1)) rx
 obtain ⟨bs, r2⟩ := Dp.reads I dy y u (h2.dp o.sub (pl1 g.2.1)) ry
 have hd := pl2 g.1
 exact SeqAt.eq_plain r1 r2 (pl1 g.1) (pl1 g.2.1) (by omega) ⟨.bl _, H, I, rfl, p.d o (Rp.bl _) g.2.2⟩
theorem Z1 (hu : X.A.units + 64 < cLine) : OpR X (compareOp .NotEq) (rB (Cx.ck X) gNe) := by
 intro pins s σ H x y v u Q I rx ry h
 obtain ⟨S, F, dx, dy, Qd, o, h1, h2, g, p⟩ := h
 obtain ⟨as, r1⟩ := Dp.reads I dx x v (h1.dp o.sub (pl1 g.1)) rx
 obtain ⟨bs, r2⟩ := Dp.reads I dy y u (h2.dp o.sub (pl1 g.2.1)) ry
 have hd := pl2 g.1
 exact SeqAt.ne_plain r1 r2 (pl1 g.1) (pl1 g.2.1) (by omega) ⟨.bl _, H, I, rfl, p.d o (Rp.bl _) g.2.2⟩
theorem a6J : OpR X (compareOp .Gt) (rB (Cx.ck X) gGt) := by
 intro pins s σ H x y v u Q I rx ry h
 obtain ⟨S, F, dx, dy, Qd, o, h1, h2, g, p⟩ := h
 cases h1 with
 | int i =>
  cases h2 with
  | int j => exact op_gt pins s σ H _ _ v u Q I rx ry ⟨i, j, rfl, rfl, p.d o (Rp.bl _) g⟩
  | _ => exact g.elim
 | _ => exact g.elim
theorem a7z : OpR X (compareOp .GtE) (rB (Cx.ck X) gGe) := by
 intro pins s σ H x y v u Q I rx ry h
 obtain ⟨S, F, dx, dy, Qd, o, h1, h2, g, p⟩ := h
 cases h1 with
 | int i =>
  cases h2 with
  | int j => exact op_ge pins s σ H _ _ v u Q I rx ry ⟨i, j, rfl, rfl, p.d o (Rp.bl _) g⟩
  | _ => exact g.elim
 | _ => exact g.elim
end

/-- the value at a key -/
def dget (ks : List (PyData × PyData)) (k : DK) : Option PyData := (ks.find? fun p => decide (a0i p.1 = some k)).map (·.2)
def dput (ks : List (PyData × PyData)) (x : PyData) (k : DK) (v : PyData) : List (PyData × PyData) :=
 if (ks.any fun p => decide (a0i p.1 = some k)) = true then ks.map fun p => if a0i p.1 = some k then (p.1, v) else p else ks ++ [(x, v)]
section
variable {K : Ck} {F H : Hp}
theorem L5 (k : Key) : a0i (keyD k) = some (.f k) := by cases k <;> rfl
theorem Y4 : ∀ {xs : List PyData} {ks : List Key}, S2 xs = some ks → xs = ks.map keyD
 | [], ks, h => by cases h; rfl
 | x :: xs, ks, h => by
  unfold S2 at h
  cases e1 : a0b x with
  | none => rw [e1] at h; cases h
  | some k =>
   cases e2 : S2 xs with
   | none => rw [e1, e2] at h; cases h
   | some r =>
    rw [e1, e2] at h
    cases h
    have : x = keyD k := by
     cases x <;> first | (cases e1; rfl) | cases e1
    rw [this, Y4 e2]; rfl
theorem a2Q : ∀ {kvs : List (Key × V)} {ds : List (PyData × PyData)} (k : Key), RpK K F kvs ds → (match valV kvs k, dget ds (.f k) with | some v, some d => Rp K F v d | none, none => True | _, _ => False)
 | _, _, k, .nil => trivial
 | _, _, k, @RpK.cons _ _ k0 v kvs d ds r t => by
  have ih := a2Q k t
  by_cases e : k0 = k
  ·subst e
   have h1 : valV ((k0, v) :: kvs) k0 = some v := valV_pos rfl
   have h2 : dget ((keyD k0, d) :: ds) (.f k0) = some d := by
    unfold dget
    rw [List.find?_cons_of_pos (by simp [L5])]
    rfl
   rw [h1, h2]
   exact r
  ·have h1 : valV ((k0, v) :: kvs) k = valV kvs k := valV_neg e
   have h2 : dget ((keyD k0, d) :: ds) (.f k) = dget ds (.f k) := by
    unfold dget
    rw [List.find?_cons_of_neg (by simp [L5, e])]
   rw [h1, h2]
   exact ih
end
end Fx

namespace Fx
open PySem L2

/-- the dict's kind is the key's -/
def a2b (ks : List (PyData × PyData)) : DK → Bool
 | .f _ => (match ks with
  | [] => true
  | p :: _ => (a0b p.1).isSome)
 | .t _ => (match ks with
  | [] => false
  | p :: _ => (match p.1 with
   | .tuple _ => true
   | _ => false))
section
open PySem.Spec PyProof.Rows
variable {X : Cx}
theorem a47 {x : PyData} {k : DK} (h : a0i x = some k) : (∃ q, k = .f q ∧ x = keyD q) ∨ ∃ q : List Key, k = .t q ∧ x = .tuple (List.map keyD q) := by
 cases x with
 | int i => cases h; exact .inl ⟨.inl i, rfl, rfl⟩
 | str i => cases h; exact .inl ⟨.inr i, rfl, rfl⟩
 | tuple xs =>
  have h' : (S2 xs).map DK.t = some k := h
  cases e : S2 xs with
  | none => rw [e] at h'; cases h'
  | some q =>
   rw [e] at h'
   cases h'
   exact .inr ⟨q, rfl, by rw [Y4 e]⟩
 | _ => cases h
theorem a2d {K : Ck} {F : Hp} {v : V} {q : Key} (h : Rp K F v (keyD q)) : v = kV q := by
 cases q with
 | inl i => cases h; rfl
 | inr x => cases h; rfl
/-- a tuple of flat keys, as the library sees it -/
theorem a5R {pins : List (Addr × Obj)} {σ : L2.St} {H : Hp} {s : Shared} {b : Addr} {ks : List Key} (I : Inv X pins σ H s) (h : SqT (Cx.ck X) H b (List.map kV ks)) : (tupleKind (mixKind X.prog X.w)).is s.heap ks b := by
 obtain ⟨its, r, p, _⟩ := I.tuple h
 obtain ⟨o, h1, h2, n, h3⟩ := p
 exact ⟨o, its.toArray, n, h1, h2, h3, by simpa using items_are r⟩
/-- a look-up by data: the dict at a, the key y -/
def a63 (K : Ck) (H : Hp) (a : Addr) (y : V) (r : Option V) : Prop :=
 (∃ kvs k, Rd H a (.dK kvs) ∧ y = kV k ∧ r = valV kvs k) ∨ (∃ (kvs : List (List Key × V)) (k : List Key) (b : Addr), Rd H a (.dT kvs) ∧ y = .ref b ∧ SqT K H b (List.map kV k) ∧ r = valV kvs k)
variable {pins : List (Addr × Obj)} {σ : L2.St} {H F : Hp} {s : Shared} {a : Addr} {y v : V} {u r : Value} {o : Option V} {A : Around} {E : Value → Shared → Prop}
theorem Y2 (I : Inv X pins σ H s) (g : a63 (Cx.ck X) H a y o) : s.TypeIs (.ref a) "dict" := by
 rcases g with ⟨kvs, k, e, _, _⟩ | ⟨kvs, k, b, e, _, _, _⟩
 ·obtain ⟨_, _, vs, _, dd⟩ := dk_rd I.hok e
  exact dd.typeIs
 ·obtain ⟨_, _, xs, _, dd⟩ := dt_rd I.hok e
  exact dd.typeIs
theorem a1D {Q : Value → Shared → Prop} (hu : A.units + 1 < cLine) (I : Inv X pins σ H s) (g : a63 (Cx.ck X) H a y (some v)) (ry : RelV y u) (h : ∀ w' s', Inv X pins σ H s' → RelV v w' → Q w' s') :
  wpAny (model X.prog X.w) A (getItem (.ref a) u) Q E s := by
 rcases g with ⟨kvs, k, e, ey, l⟩ | ⟨kvs, k, b, e, ey, eb, l⟩
 ·exact d_getItem hu I (.inl ⟨kvs, k, e, ey, l⟩) ry h
 ·subst ey
  cases (show u = Value.ref b from ry)
  obtain ⟨z, hd, xs, rel, dd⟩ := dt_rd I.hok e
  obtain ⟨w', hw, rw'⟩ := RelO.some_of (v := v) (o := (atKey xs k).map (·.2)) (by rw [l]; exact rel.val k)
  obtain ⟨p, hp, hp2⟩ := Option.map_eq_some_iff.mp hw
  refine wpAny_getItem_heap (tupleKind_room_in1 hu) (a5R I eb) dd hp ?_
  rw [hp2]
  exact h w' _ (I.tok _) rw'
/-- from data to a look-up -/
theorem a5A {K : Ck} {x : PyData} {k : DK} {ks : List (PyData × PyData)} {p : V} (sub : Sub F H) (hd : Rp K F p (.dict ks)) (hk : a0i x = some k) (hm : a2b ks k = true) (hy : Rp K F y x) :
  ∃ a o, p = .ref a ∧ a63 K H a y o ∧ (match o, dget ks k with | some v, some d => Rp K F v d | none, none => True | _, _ => False) := by
 cases hd with
 | @dK a kvs _ h r =>
  rcases a47 hk with ⟨q, rfl, rfl⟩ | ⟨q, rfl, rfl⟩
  ·exact ⟨a, _, rfl, .inl ⟨kvs, q, Le.rd sub h, a2d hy, rfl⟩, a2Q q r⟩
  ·exfalso
   cases r with
   | nil => cases hm
   | @cons k0 _ _ _ _ _ _ => cases k0 <;> cases hm
 | dT _ _ _ =>
  exfalso
  cases k <;> cases hm
 | obj _ _ _ _ =>
  exfalso
  cases k <;> cases hm
 | exc _ _ _ _ =>
  exfalso
  cases k <;> cases hm
 | fn _ =>
  exfalso
  cases k <;> cases hm
def gIx : GO2 := fun x y Q => match x with
 | .list xs => (match y with
  | .int i => ∃ d, atI xs i = some d ∧ Q (.d d)
  | _ => False)
 | .tuple xs => (match y with
  | .int i => ∃ d, atI xs i = some d ∧ Q (.d d)
  | _ => False)
 | .str z => (match y with
  | .int i => z.length ≤ sizeLine ∧ ∃ c, atI z.cps.toList i = some c ∧ Q (.d (.str ⟨#[c]⟩))
  | _ => False)
 | .dict ks => ∃ k d, a0i y = some k ∧ a2b ks k = true ∧ dget ks k = some d ∧ Q (.d d)
 | _ => False
theorem a4U {K : Ck} {vs : List V} {ds : List PyData} {i : Int} {d : PyData} (r : RpA K F vs ds) (h : atI ds i = some d) : ∃ v, atI vs i = some v ∧ Rp K F v d := by
 unfold atI at h ⊢
 rw [r.length]
 cases e : ixN ds.length i with
 | none => rw [e] at h; cases h
 | some j =>
  rw [e] at h
  obtain ⟨v, h1, h2⟩ := r.get' (show ds[j]? = some d from h)
  exact ⟨v, h1, h2⟩
theorem s8 (hu : X.A.units + 1 < cLine) : IxR X (rB (Cx.ck X) gIx) := by
 intro value slice pins s σ H x y v u Q I rx ry h hs
 obtain ⟨S, F, dx, dy, Qd, o, h1, h2, g, p⟩ := h
 cases dx with
 | list xs =>
  cases h2 with
  | int i =>
   obtain ⟨d, e, q⟩ := g
   cases h1 with
   | @lst a vs _ hr ra =>
    obtain ⟨w, ew, rw'⟩ := a4U ra e
    exact ix_list value slice pins s σ H _ _ v u Q I rx ry ⟨a, vs, i, w, rfl, rfl, (Le.sqx o.sub hr).sql, ew, p.d o rw' q⟩ hs
  | _ => exact g.elim
 | tuple xs =>
  cases h2 with
  | int i =>
   obtain ⟨d, e, q⟩ := g
   cases h1 with
   | @tup a vs _ hr hk ra =>
    obtain ⟨w, ew, rw'⟩ := a4U ra e
    exact ix_tup value slice pins s σ H _ _ v u Q I rx ry ⟨a, vs, i, w, rfl, rfl, Le.sqt o.sub hr, ew, p.d o rw' q⟩ hs
  | _ => exact g.elim
 | str z =>
  cases h2 with
  | int i =>
   obtain ⟨hz, c, e, q⟩ := g
   cases h1
   exact ix_str value slice pins s σ H _ _ v u Q I rx ry ⟨z, i, c, rfl, rfl, hz, e, p.d o (Rp.str _) q⟩ hs
  | _ => exact g.elim
 | dict ks =>
  obtain ⟨k, d, hk, hm, hd, g⟩ := g
  obtain ⟨a, w, rfl, lk, m⟩ := a5A o.sub h1 hk hm h2
  obtain rfl : v = Value.ref a := rx
  rw [hd] at m
  cases w with
  | none => exact m.elim
  | some w =>
   exact tail_any (Y2 I lk) PySem.F.slot_dict_getitem.lookup (a1D hu I lk ry fun w' s3 I3 rw' => ⟨w, H, I3, rw', p.d o m g⟩) hs
 | _ => exact g.elim
end
end Fx

namespace Fx
open PySem L2

section
open PySem.W PySem.Calls PyProof.Rows
variable {X : Cx} {pins : List (Addr × Obj)} {σ : L2.St} {H F : Hp} {s : Shared}
abbrev a5v (ds : List PyData) : List PyData := ds.mergeSort (dataLe false id)
end
end Fx

namespace Fx
open PySem L2

section
variable {K : Ck}
theorem a92 {r : List V → Hp → VK → Prop} {f : GO1} (h : a8o K (fun v H Q => r [v] H Q) f) : a4A K r (g1 f) := by
 intro S F H xs as Qd Q o ra g p
 match as, xs, ra, g with
 | [.d x], [v], ra, g => exact h S F H v x Qd Q o ra.1 g p
 | [.d x], [], ra, g => exact ra.elim
 | [.d x], _ :: _ :: _, ra, g => exact ra.2.elim
 | [], _, _, g => exact g.elim
 | [.o _], _, _, g => exact g.elim
 | .d _ :: _ :: _, _, _, g => exact g.elim
 | .o _ :: _ :: _, _, _, g => exact g.elim
theorem b03 {r : List V → Hp → VK → Prop} {f : GO2} (h : OpD K (fun v u H Q => r [v, u] H Q) f) : a4A K r (g2 f) := by
 intro S F H xs as Qd Q o ra g p
 match as, xs, ra, g with
 | [.d x, .d y], [v, u], ra, g => exact h S F H v u x y Qd Q o ra.1 ra.2.1 g p
 | [.d x, .d y], [], ra, g => exact ra.elim
 | [.d x, .d y], [_], ra, g => exact ra.2.elim
 | [.d x, .d y], _ :: _ :: _ :: _, ra, g => exact ra.2.2.elim
 | [], _, _, g => exact g.elim
 | [.d _], _, _, g => exact g.elim
 | [.o _], _, _, g => exact g.elim
 | .d _ :: .o _ :: _, _, _, g => exact g.elim
 | .o _ :: _ :: _, _, _, g => exact g.elim
 | .d _ :: .d _ :: _ :: _, _, _, g => exact g.elim
end

def a9F : GO1 := fun x Q => match x with
 | .str z => z.length ≤ sizeLine ∧ Q (.d (.int z.length))
 | .list xs => Q (.d (.int xs.length))
 | .tuple xs => Q (.d (.int xs.length))
 | .dict ks => a1q ks = true ∧ Q (.d (.int ks.length))
 | _ => False
def a5H (K : Ck) : List V → Hp → VK → Prop := fun xs H Q => (∃ x n, xs = [x] ∧ LenV K x H n ∧ Q (.int n) H) ∨ ∃ a kvs, xs = [.ref a] ∧ Rd H a (.dK kvs) ∧ Q (.int kvs.length) H
theorem Y1 {X : Cx} : CallR X (.builtin "len") (a5H (Cx.ck X)) := by
 intro pins s σ H xs us Q I r h
 rcases h with h | ⟨a, kvs, rfl, hd, q⟩
 ·exact call_len pins s σ H xs us Q I r h
 ·obtain ⟨u, rfl, ru⟩ := r.one
  cases ru
  exact d_len I hd fun t s' I' => ⟨.int _, H, I', ⟨t, rfl⟩, q⟩
def rLen (K : Ck) : List V → Hp → VK → Prop := fun xs H Q => ∃ x n, xs = [x] ∧ LenV K x H n ∧ Q (.int n) H
section
variable {K : Ck}
theorem a79 : a4A K (a5H K) (g1 a9F) := a92 fun S F H v x Qd Q o r g p => by
 cases r with
 | str z => exact .inl ⟨_, _, rfl, ⟨g.1, rfl⟩, p.d o (Rp.int _) g.2⟩
 | @lst a vs ds h ra =>
  refine .inl ⟨_, vs.length, rfl, .inl ⟨vs, (Le.sqx o.sub h).sql, rfl⟩, p.d o (Rp.int _) ?_⟩
  rw [ra.length]; exact g
 | @tup a vs ds h k ra =>
  refine .inl ⟨_, vs.length, rfl, .inr ⟨vs, Le.sqt o.sub h, rfl⟩, p.d o (Rp.int _) ?_⟩
  rw [ra.length]; exact g
 | non => exact g.elim
 | bl _ => exact g.elim
 | int _ => exact g.elim
 | dK hr rk => exact .inr ⟨_, _, rfl, Le.rd o.sub hr, p.d o (Rp.int _) (by rw [rk.length]; exact g.2)⟩
 | dT _ _ _ => exact absurd g.1 (by simp [a1q, a0b, mkT])
 | obj hr hm hi rk => obtain ⟨a, kvs, e, hr', _⟩ := (Rp.obj hr hm hi rk).dk g.1; cases e; rcases hr' with z | ⟨_, z⟩ <;> rw [hr] at z <;> cases z
 | exc hr hm hi rk => obtain ⟨a, kvs, e, hr', _⟩ := (Rp.exc hr hm hi rk).dk g.1; cases e; rcases hr' with z | ⟨_, z⟩ <;> rw [hr] at z <;> cases z
 | fn m => exact absurd g.1 (by simp [a1q, a0b])
def a9H : GO1 := fun x Q => match x with
 | .int i => Q (.d (.int i))
 | .bool b => Q (.d (.int (if b then 1 else 0)))
 | _ => False
def a9J : List V → Hp → VK → Prop := fun xs H Q => (∃ i, xs = [.int i] ∧ Q (.int i) H) ∨ ∃ k, xs = [.bl k] ∧ Q (.int (if k then 1 else 0)) H
theorem a6u : a4A K a9J (g1 a9H) := a92 fun S F H v x Qd Q o r g p => by
 cases r with
 | int i => exact .inl ⟨_, rfl, p.d o (Rp.int _) g⟩
 | bl i => exact .inr ⟨_, rfl, p.d o (Rp.int _) g⟩
 | _ => exact g.elim
def a9u : GO1 := fun x Q => match x with
 | .int i => Q (.d (.int (if i < 0 then -i else i)))
 | _ => False
def a7Y : List V → Hp → VK → Prop := fun xs H Q => ∃ i, xs = [.int i] ∧ Q (.int (if i < 0 then -i else i)) H
theorem a7P : a4A K a7Y (g1 a9u) := a92 fun S F H v x Qd Q o r g p => by
 cases r with
 | int i => exact ⟨_, rfl, p.d o (Rp.int _) g⟩
 | _ => exact g.elim
def a7u : GO2 := fun x y Q => match x, y with
 | .int i, .int j => Q (.d (.int (if j < i then j else i)))
 | _, _ => False
def a7e : List V → Hp → VK → Prop := fun xs H Q => ∃ i j, xs = [.int i, .int j] ∧ Q (.int (if j < i then j else i)) H
theorem a5w : a4A K a7e (g2 a7u) := b03 fun S F H v u x y Qd Q o r1 r2 g p => by
 cases r1 with
 | int i =>
  cases r2 with
  | int j => exact ⟨_, _, rfl, p.d o (Rp.int _) g⟩
  | _ => exact g.elim
 | _ => exact g.elim
def a9X : List Int → Int
 | [] => 0
 | n :: ns => ns.foldl max n
def a87 : List Int → Int
 | [] => 0
 | n :: ns => ns.foldl min n
theorem I8 : ∀ (ns : List Int) (a : Int), (ns.foldl min a = a ∨ ns.foldl min a ∈ ns) ∧ ns.foldl min a ≤ a ∧ ∀ y ∈ ns, ns.foldl min a ≤ y
 | [], a => ⟨.inl rfl, Int.le_refl _, fun _ h => by cases h⟩
 | n :: ns, a => by
  obtain ⟨h1, h2, h3⟩ := I8 ns (min a n)
  refine ⟨?_, ?_, ?_⟩
  ·simp only [List.foldl_cons]
   rcases h1 with h | h
   ·rw [h]
    by_cases c : n ≤ a
    ·exact .inr (by rw [Int.min_eq_right c]; simp)
    ·exact .inl (by rw [Int.min_eq_left (by omega)])
   ·exact .inr (List.mem_cons_of_mem _ h)
  ·simp only [List.foldl_cons]; omega
  ·intro y hy
   simp only [List.foldl_cons]
   rcases List.mem_cons.mp hy with rfl | h
   ·omega
   ·exact h3 y h
theorem a1H {ns : List Int} (h : ns ≠ []) : a87 ns ∈ ns ∧ ∀ y ∈ ns, a87 ns ≤ y := by
 cases ns with
 | nil => exact absurd rfl h
 | cons n ns =>
  obtain ⟨h1, h2, h3⟩ := I8 ns n
  refine ⟨?_, fun y hy => ?_⟩
  ·rcases h1 with h | h
   ·show ns.foldl min n ∈ _; rw [h]; simp
   ·exact List.mem_cons_of_mem _ h
  ·rcases List.mem_cons.mp hy with rfl | hy
   ·exact h2
   ·exact h3 y hy
end
section
variable {X : Cx}
theorem a75 {f : Value} {gg : GO1} (h : ∀ (pins : List (Addr × Obj)) (s : Shared) (σ : L2.St) (H : Hp) (v : V) (u : Value) (S : Sta) (F : Hp) (x : PyData) (Qd : RV → Prop) (Q : VK), Inv X pins σ H s → RelV v u → Okh S F H → Rp (Cx.ck X) F v x → gg x Qd → I5 (Cx.ck X) S F H Qd Q →
  wpAny (model X.prog X.w) X.A (call f [u]) (EP X pins σ Q) X.xe s) : CallR X f (rA (Cx.ck X) (g1 gg)) := by
 intro pins s σ H xs us Q I rv hh
 obtain ⟨S, F, as, Qd, o, ra, g, p⟩ := hh
 match as, xs, ra, g with
 | [.d x], [v], ra, g =>
  obtain ⟨u, rfl, ru⟩ : ∃ u, us = [u] ∧ RelV v u := by
   cases rv with
   | cons r1 r2 => cases r2; exact ⟨_, rfl, r1⟩
  exact h pins s σ H v u S F x Qd Q I ru o ra.1 g p
 | [.d x], [], ra, g => exact ra.elim
 | [.d x], _ :: _ :: _, ra, g => exact ra.2.elim
 | [], _, _, g => exact g.elim
 | [.o _], _, _, g => exact g.elim
 | .d _ :: _ :: _, _, _, g => exact g.elim
 | .o _ :: _ :: _, _, _, g => exact g.elim
end
end Fx

namespace Fx
open PySem L2

def isD (T : String) (x : PyData) : Bool := tyD x == T || (tyD x == "bool" && T == "int")
def a3E (T : String) (fe : EF) : EF := fun ρ g => (v6 fe ρ g).bind fun x g1 => if isE x = true then .bad else .ok (.d (.bool (isD T x))) g1
def W1 (T U : String) (fe : EF) : EF := fun ρ g => (v6 fe ρ g).bind fun x g1 => if isE x = true then .bad else .ok (.d (.bool (isD T x || isD U x))) g1

abbrev EFo := List SD → Gs → R (Option Int)
theorem a0D {r : RV} {g : Gs} {P : Int → Gs → Prop} {X : PyData → Gs → Prop} (h : (a6h r g).wp P X) : ∃ i, r = .d (.int i) ∧ P i g := by
 cases r with
 | d x =>
  cases x with
  | int i => exact ⟨i, rfl, h⟩
  | _ => exact h.elim
 | _ => exact h.elim
def oN : EFo := fun _ g => .ok none g
def oS (f : EF) : EFo := fun ρ g => (f ρ g).bind fun r g1 => (a6h r g1).bind fun i g2 => .ok (some i) g2
def cutD (xs : List PyData) (lo hi : Option Int) : List PyData := (xs.drop (HT.sIx xs.length 0 lo)).take (HT.sIx xs.length xs.length hi - HT.sIx xs.length 0 lo)
def oSl (x : PyData) (lo hi : Option Int) : Option RV := match x with
 | .list xs => some (.nl (cutD xs lo hi))
 | .tuple xs => some (.d (.tuple (cutD xs lo hi)))
 | .str z => if z.length ≤ sizeLine then some (.d (.str (cutS z lo hi))) else none
 | _ => none
def fSl (fe : EF) (fl fh : EFo) : EF := fun ρ g => (v6 fe ρ g).bind fun x g1 => (fl ρ g1).bind fun lo g2 => (fh ρ g2).bind fun hi g3 => R.ofO (oSl x lo hi) g3

abbrev OM := PyData → List AV → Option RV
def fM (T : String) (o : OM) (fo : EF) (fa : EFa) : EF := fun ρ g => (v6 fo ρ g).bind fun x g1 => if tyD x = T then (fa ρ g1).bind fun as g2 => R.ofO (o x as) g2 else .bad
def a2e (ks : List (PyData × PyData)) : List (Key × PyData) → List (PyData × PyData)
 | [] => ks
 | p :: r => a2e (dput ks (keyD p.1) (.f p.1) p.2) r
end Fx

namespace Fx
open PySem L2

section
variable {K : Ck} {F : Hp}
theorem a1y (k : Key) : ∀ {kvs : List (Key × V)} {ds : List (PyData × PyData)}, RpK K F kvs ds → (kvs.any fun kv => decide (kv.1 = k)) = (ds.any fun p => decide (a0i p.1 = some (.f k)))
 | _, _, .nil => rfl
 | _, _, @RpK.cons _ _ k0 v kvs d ds r t => by
  rw [List.any_cons, List.any_cons, a1y k t, L5]
  by_cases e : k0 = k <;> simp [e]
theorem a0A (k : Key) {v : V} {d : PyData} (rv : Rp K F v d) : ∀ {kvs : List (Key × V)} {ds : List (PyData × PyData)}, RpK K F kvs ds → RpK K F (kvs.map fun kv => if kv.1 = k then (kv.1, v) else kv) (ds.map fun p => if a0i p.1 = some (.f k) then (p.1, d) else p)
 | _, _, .nil => .nil
 | _, _, @RpK.cons _ _ k0 v0 kvs d0 ds r t => by
  rw [List.map_cons, List.map_cons, L5]
  by_cases e : k0 = k
  ·simp only [e, if_true]
   exact .cons rv (a0A k rv t)
  ·have e2 : ¬ (some (DK.f k0) = some (DK.f k)) := fun z => by cases z; exact e rfl
   simp only [if_neg e, if_neg e2]
   exact .cons r (a0A k rv t)
theorem a2i : ∀ {kvs : List (Key × V)} {ds : List (PyData × PyData)} {kvs' : List (Key × V)} {ds' : List (PyData × PyData)}, RpK K F kvs ds → RpK K F kvs' ds' → RpK K F (kvs ++ kvs') (ds ++ ds')
 | _, _, _, _, .nil, s => s
 | _, _, _, _, .cons r t, s => .cons r (a2i t s)
theorem a5e (k : Key) {v : V} {d : PyData} (rv : Rp K F v d) {kvs : List (Key × V)} {ds : List (PyData × PyData)} (h : RpK K F kvs ds) : RpK K F (putK kvs k v) (dput ds (keyD k) (.f k) d) := by
 unfold putK dput
 rw [a1y k h]
 by_cases c : (ds.any fun p => decide (a0i p.1 = some (.f k))) = true
 ·rw [if_pos c, if_pos c]; exact a0A k rv h
 ·rw [if_neg c, if_neg c]; exact a2i h (.cons rv .nil)
theorem a2D {ps : List (Key × V)} {qs : List (Key × PyData)} (h : Paired (fun p q => p.1 = q.1 ∧ Rp K F p.2 q.2) ps qs) : ∀ {kvs : List (Key × V)} {ds : List (PyData × PyData)}, RpK K F kvs ds → RpK K F (mergeK kvs ps) (a2e ds qs) := by
 induction h with
 | nil => intro kvs ds h; exact h
 | @cons p q ps qs r t ih =>
  intro kvs ds h
  obtain ⟨k, v⟩ := p
  obtain ⟨k', d⟩ := q
  obtain ⟨e, rv⟩ := r
  cases (show k = k' from e)
  exact ih (a5e k rv h)
end

def a6P (t : Bool) : EF := fun _ g => .ok (.nd t []) g
section
variable {K : Ck} {W : WX}
theorem a5a : Sm K W tDNewK (a6P false) := by
 intro S B F0 F H ρ σ g Pd Xd Q E h k kx p hp
 exact k _ g _ F _ h (Ext.own E.sub hp) (J.new E.j hp) ⟨p, .k [], rfl, hp, fun m => E.okh.mt p m hp, E.sub.free hp, upd_same, rfl, RpK.nil⟩
end

end Fx

namespace Fx
open PySem L2

end Fx

namespace Fx
open PySem L2
noncomputable section
open Classical

section
variable {K : Ck}
theorem F8 {r : R2} {go : GO2} {o : O2} (h : OpD K r go) (k : ∀ x y rv (Q : RV → Prop), o x y = some rv → Q rv → go x y Q) : OpF K r o := fun S F H x y dx dy rv Q a b c d p => h S F H x y dx dy (fun r => r = rv) Q a b c (k _ _ _ _ d rfl) p
theorem a56 {r : V → Hp → VK → Prop} {go : GO1} {o : O1} (h : a8o K r go) (k : ∀ x rv (Q : RV → Prop), o x = some rv → Q rv → go x Q) : a8s K r o := fun S F H x dx rv Q a b d p => h S F H x dx (fun r => r = rv) Q a b (k _ _ _ d rfl) p
theorem Q4 {r : List V → Hp → VK → Prop} {go : GOA} {o : OA} (h : a4A K r go) (k : ∀ x rv (Q : RV → Prop), o x = some rv → Q rv → go x Q) : a5F K r o := fun S F H x as rv Q a b d p => h S F H x as (fun r => r = rv) Q a b (k _ _ _ d rfl) p
end
theorem a0X {f : O1} {go : GO1} (k : ∀ x rv (Q : RV → Prop), f x = some rv → Q rv → go x Q) : ∀ as rv (Q : RV → Prop), o1A f as = some rv → Q rv → g1 go as Q := by
 intro as rv Q h q
 unfold o1A at h
 split at h
 ·exact k _ _ _ h q
 ·cases h
theorem a6Z {f : O2} {go : GO2} (k : ∀ x y rv (Q : RV → Prop), f x y = some rv → Q rv → go x y Q) : ∀ as rv (Q : RV → Prop), o2A f as = some rv → Q rv → g2 go as Q := by
 intro as rv Q h q
 unfold o2A at h
 split at h
 ·exact k _ _ _ _ h q
 ·cases h
def P3 : O2 := fun x y => match x, y with
 | .int i, .int j => some (.d (.int (i + j)))
 | .str i, .str j => if i.length + j.length ≤ sizeLine then some (.d (.str (i ++ j))) else none
 | .list xs, .list ys => if xs.length + ys.length ≤ sizeLine then some (.nl (xs ++ ys)) else none
 | .tuple xs, .tuple ys => if xs.length + ys.length ≤ sizeLine then some (.d (.tuple (xs ++ ys))) else none
 | _, _ => none
def a6F : O2 := fun x y => match x, y with
 | .int i, .int j => some (.d (.int (i - j)))
 | _, _ => none
def a6k : O2 := fun x y => match x, y with
 | .int i, .int j => if CMul i j ∨ CMulW i j then some (.d (.int (i * j))) else none
 | .list xs, .int k => if (-(2 ^ 63) ≤ k ∧ k < 2 ^ 63) ∧ xs.length * k.toNat ≤ sizeLine then some (.nl (List.replicate k.toNat xs).flatten) else none
 | _, _ => none
def oMod : O2 := fun x y => match x, y with
 | .int i, .int j => if 0 < j then some (.d (.int (i % j))) else none
 | _, _ => none
def oDiv : O2 := fun x y => match x, y with
 | .int i, .int j => if 0 < j ∧ j.natAbs.log2 < 9000 then some (.d (.int (i / j))) else none
 | _, _ => none
def a0l : O2 := fun x y => match x, y with
 | .int i, .int j => if 0 ≤ j ∧ (Builtin.Int.intBits i : Int) * j ≤ 2 ^ 27 then some (.d (.int (i ^ j.toNat))) else none
 | _, _ => none
def a7Q : O1 := fun x => match x with
 | .int i => some (.d (.int (-i)))
 | _ => none
def oEq : O2 := fun x y => if pl x = true ∧ pl y = true then some (.d (.bool (PyData.eqv x y))) else none
def oNe : O2 := fun x y => if pl x = true ∧ pl y = true then some (.d (.bool (!PyData.eqv x y))) else none
def a60 (f : Int → Int → Bool) : O2 := fun x y => match x, y with
 | .int i, .int j => some (.d (.bool (f i j)))
 | _, _ => none
def oLe : O2 := a60 fun i j => decide (i ≤ j)
def oGt : O2 := a60 fun i j => decide (j < i)
def oGe : O2 := a60 fun i j => decide (j ≤ i)
def oIx : O2 := fun x y => match x with
 | .list xs => (match y with
  | .int i => (atI xs i).map .d
  | _ => none)
 | .tuple xs => (match y with
  | .int i => (atI xs i).map .d
  | _ => none)
 | .str z => (match y with
  | .int i => if z.length ≤ sizeLine then (atI z.cps.toList i).map fun c => .d (.str ⟨#[c]⟩) else none
  | _ => none)
 | .dict ks => (match a0i y with
  | some k => if a2b ks k = true then (dget ks k).map .d else none
  | none => none)
 | _ => none
def a55 : O1 := fun x => match x with
 | .str z => if z.length ≤ sizeLine then some (.d (.int z.length)) else none
 | .list xs => some (.d (.int xs.length))
 | .tuple xs => some (.d (.int xs.length))
 | .dict ks => if a1q ks = true then some (.d (.int ks.length)) else none
 | _ => none
def a1j : O1 := fun x => match x with
 | .int i => some (.d (.int i))
 | .bool b => some (.d (.int (if b then 1 else 0)))
 | _ => none
def a83 : O1 := fun x => match x with
 | .int i => some (.d (.int (if i < 0 then -i else i)))
 | _ => none
def a1A : O2 := fun x y => match x, y with
 | .int i, .int j => some (.d (.int (if j < i then j else i)))
 | _, _ => none
theorem a7y {x y : PyData} {rv : RV} {Q : RV → Prop} (h : P3 x y = some rv) (q : Q rv) : a8m x y Q := by
 cases x <;> cases y <;> simp [P3] at h
 ·subst h; exact q
 ·obtain ⟨h1, rfl⟩ := h; exact ⟨h1, q⟩
 ·obtain ⟨h1, rfl⟩ := h; exact ⟨h1, q⟩
 ·obtain ⟨h1, rfl⟩ := h; exact ⟨h1, q⟩
theorem sub_of {x y : PyData} {rv : RV} {Q : RV → Prop} (h : a6F x y = some rv) (q : Q rv) : gSub x y Q := by
 cases x <;> cases y <;> simp [a6F] at h
 subst h; exact q
theorem a7l {x y : PyData} {rv : RV} {Q : RV → Prop} (h : a6k x y = some rv) (q : Q rv) : a8w x y Q := by
 cases x <;> cases y <;> simp only [a6k] at h <;> first | cases h | skip
 ·split at h
  ·cases h; exact ⟨‹_›, q⟩
  ·cases h
 ·split at h
  ·rename_i c; cases h; exact ⟨c.1, c.2, q⟩
  ·cases h
theorem a78 {x y : PyData} {rv : RV} {Q : RV → Prop} (h : oMod x y = some rv) (q : Q rv) : a95 x y Q := by
 cases x <;> cases y <;> simp [oMod] at h
 obtain ⟨h1, rfl⟩ := h; exact ⟨h1, q⟩
theorem a7d {x y : PyData} {rv : RV} {Q : RV → Prop} (h : oDiv x y = some rv) (q : Q rv) : a8A x y Q := by
 cases x <;> cases y <;> simp [oDiv] at h
 obtain ⟨h1, rfl⟩ := h; exact ⟨h1, q⟩
theorem a7o {x y : PyData} {rv : RV} {Q : RV → Prop} (h : a0l x y = some rv) (q : Q rv) : a57 x y Q := by
 cases x <;> cases y <;> simp only [a0l] at h <;> first | cases h | skip
 split at h
 ·rename_i c; cases h; exact ⟨c.1, c.2, q⟩
 ·cases h
theorem neg_of {x : PyData} {rv : RV} {Q : RV → Prop} (h : a7Q x = some rv) (q : Q rv) : a91 x Q := by
 cases x <;> simp [a7Q] at h
 subst h; exact q
theorem a8P {x y : PyData} {rv : RV} {Q : RV → Prop} (h : oEq x y = some rv) (q : Q rv) : gEq x y Q := by
 unfold oEq at h
 split at h
 ·rename_i c; cases h; exact ⟨c.1, c.2, q⟩
 ·cases h
theorem a6X {x y : PyData} {rv : RV} {Q : RV → Prop} (h : oNe x y = some rv) (q : Q rv) : gNe x y Q := by
 unfold oNe at h
 split at h
 ·rename_i c; cases h; exact ⟨c.1, c.2, q⟩
 ·cases h
theorem a4H {f : Int → Int → Bool} {x y : PyData} {rv : RV} {Q : RV → Prop} (h : a60 f x y = some rv) (q : Q rv) : a9l f x y Q := by
 cases x <;> cases y <;> simp [a60] at h
 subst h; exact q
theorem a97 {x y : PyData} {rv : RV} {Q : RV → Prop} (h : oIx x y = some rv) (q : Q rv) : gIx x y Q := by
 cases x with
 | list xs =>
  cases y with
  | int i =>
   obtain ⟨d, e, rfl⟩ := Option.map_eq_some_iff.mp (show (atI xs i).map RV.d = some rv from h)
   exact ⟨d, e, q⟩
  | _ => cases h
 | tuple xs =>
  cases y with
  | int i =>
   obtain ⟨d, e, rfl⟩ := Option.map_eq_some_iff.mp (show (atI xs i).map RV.d = some rv from h)
   exact ⟨d, e, q⟩
  | _ => cases h
 | str z =>
  cases y with
  | int i =>
   simp only [oIx] at h
   split at h
   ·obtain ⟨d, e, rfl⟩ := Option.map_eq_some_iff.mp h
    exact ⟨‹_›, d, e, q⟩
   ·cases h
  | _ => cases h
 | dict ks =>
  simp only [oIx] at h
  split at h
  ·rename_i k e
   split at h
   ·rename_i c
    obtain ⟨d, e2, rfl⟩ := Option.map_eq_some_iff.mp h
    exact ⟨k, d, e, c, e2, q⟩
   ·cases h
  ·cases h
 | _ => cases h
theorem a7D {x : PyData} {rv : RV} {Q : RV → Prop} (h : a55 x = some rv) (q : Q rv) : a9F x Q := by
 cases x <;> simp [a55] at h
 ·obtain ⟨h1, rfl⟩ := h; exact ⟨h1, q⟩
 ·subst h; exact q
 ·subst h; exact q
 ·obtain ⟨h1, rfl⟩ := h; exact ⟨h1, q⟩
theorem a6Y {x : PyData} {rv : RV} {Q : RV → Prop} (h : a1j x = some rv) (q : Q rv) : a9H x Q := by
 cases x <;> simp [a1j] at h
 ·subst h; exact q
 ·subst h; exact q
theorem a6H {x : PyData} {rv : RV} {Q : RV → Prop} (h : a83 x = some rv) (q : Q rv) : a9u x Q := by
 cases x <;> simp [a83] at h
 subst h; exact q
theorem a54 {x y : PyData} {rv : RV} {Q : RV → Prop} (h : a1A x y = some rv) (q : Q rv) : a7u x y Q := by
 cases x <;> cases y <;> simp only [a1A] at h <;> first | cases h | skip
 exact q
end
end Fx

namespace Fx
open PySem L2

theorem noM {a : Addr} (h : (u0 (none, [])).M a) : False := by
 obtain ⟨s, hs⟩ := h
 cases hs
theorem a5k {F H : Hp} : Tb (u0 (none, [])) F H := fun p hp => by cases hp
/-- the state's objects change -/
theorem g9.stUpd {K : Ck} {S : Sta} {B F0 F H H' : Hp} {ρ : List SD} {σ : St} {g g' : Gs} (E : g9 K S B F0 F H ρ σ g) (h : ∀ a, ¬ S.M a → H' a = H a) (j : S.J g' H') (tb : Tb S F H') : g9 K S B F0 F H' ρ σ g' where
 st := E.st
 tb := tb
 sub := fun a o e => by
  by_cases m : S.M a
  ·rw [E.mF a m] at e; cases e
  ·rw [h a m]; exact E.sub a o e
 mono := E.mono
 fz := E.fz
 keep := fun a o e m => by rw [h a m]; exact E.keep a o e m
 mF := E.mF
 j := j
 len := E.len
 sl := fun i s hs => by
  obtain ⟨v, h1, h2⟩ := E.sl i s hs
  refine ⟨v, h1, h2.to (Le.refl F) fun a hv ho => ?_⟩
  obtain ⟨b, hb, _, m, _, _⟩ := h2.at ho
  rw [hv] at hb
  cases hb
  exact ⟨rfl, h a m⟩
 dist := E.dist
def stv (l c : Addr) (rest turn : Int) : List (Key × V) := [(.inr "large", .ref l), (.inr "cells", .ref c), (.inr "rest", .int rest), (.inr "turn", .int turn)]
theorem ks_ne {a b : Str} (h : a ≠ b) : ¬ ((Sum.inr a : Key) = Sum.inr b) := fun z => by cases z; exact h rfl
theorem a9E : ("large" : Str) ≠ "cells" := by decide +kernel
theorem a84 : ("large" : Str) ≠ "rest" := by decide +kernel
theorem a7S : ("large" : Str) ≠ "turn" := by decide +kernel
theorem a7V : ("cells" : Str) ≠ "rest" := by decide +kernel
theorem a88 : ("cells" : Str) ≠ "turn" := by decide +kernel
theorem a6E : ("rest" : Str) ≠ "turn" := by decide +kernel
theorem Z3 {l c : Addr} {r t : Int} : valV (stv l c r t) (.inr "large" : Key) = some (.ref l) := valV_pos rfl
theorem Q8 {l c : Addr} {r t : Int} : valV (stv l c r t) (.inr "cells" : Key) = some (.ref c) := (valV_neg (ks_ne a9E)).trans (valV_pos rfl)
theorem a4c {l c : Addr} {r t : Int} : valV (stv l c r t) (.inr "rest" : Key) = some (.int r) := (valV_neg (ks_ne a84)).trans ((valV_neg (ks_ne a7V)).trans (valV_pos rfl))
theorem a3G {l c : Addr} {r t : Int} : valV (stv l c r t) (.inr "turn" : Key) = some (.int t) := (valV_neg (ks_ne a7S)).trans ((valV_neg (ks_ne a88)).trans ((valV_neg (ks_ne a6E)).trans (valV_pos rfl)))
theorem Q6 {l c : Addr} {r t x : Int} : putK (stv l c r t) (.inr "rest" : Key) (.int x) = stv l c x t := by
 unfold putK stv
 simp only [List.any_cons, List.any_nil, List.map_cons, List.map_nil, if_neg (ks_ne a84), if_neg (ks_ne a7V), if_neg (ks_ne (Ne.symm a6E)), decide_eq_false (ks_ne a84), decide_eq_false (ks_ne a7V), decide_true, if_true, Bool.or_true, Bool.true_or, Bool.false_or]
theorem a0v {l c : Addr} {r t x : Int} : putK (stv l c r t) (.inr "turn" : Key) (.int x) = stv l c r x := by
 unfold putK stv
 simp only [List.any_cons, List.any_nil, List.map_cons, List.map_nil, if_neg (ks_ne a7S), if_neg (ks_ne a88), if_neg (ks_ne a6E), decide_eq_false (ks_ne a7S), decide_eq_false (ks_ne a88), decide_eq_false (ks_ne a6E), decide_true, if_true, Bool.or_true, Bool.true_or, Bool.false_or]
/-- the state is in slot i -/
def a8z (ρ : List SD) (i : Nat) (g : Gs) : Prop := ∃ d l c, ρ[i]? = some (.o (.ref d)) ∧ g.q = some (d, l, c)
noncomputable section
open Classical
def a1t {α : Type} (ρ : List SD) (i : Nat) (g : Gs) (m : R α) : R α := if a8z ρ i g then m else .bad
theorem C9 {α : Type} {ρ : List SD} {i : Nat} {g : Gs} {m : R α} {P : α → Gs → Prop} {X : PyData → Gs → Prop} (h : (a1t ρ i g m).wp P X) : ∃ d l c, ρ[i]? = some (.o (.ref d)) ∧ g.q = some (d, l, c) ∧ m.wp P X := by
 unfold a1t at h
 split at h
 ·rename_i q; obtain ⟨d, l, c, h1, h2⟩ := q; exact ⟨d, l, c, h1, h2, h⟩
 ·exact h.elim
theorem E9 {α : Type} {ρ : List SD} {i : Nat} {g : Gs} (m : R α) (h : a8z ρ i g) : a1t ρ i g m = m := if_pos h
def v9 (i : Nat) : EF := fun ρ g => a1t ρ i g (.ok (.d (.int g.rest)) g)
def a0e (i : Nat) : EF := fun ρ g => a1t ρ i g (.ok (.d (.int g.turn)) g)
def t9 (i : Nat) : EFt := fun ρ g => a1t ρ i g (.ok (!g.ls.isEmpty) g)
def A9 (i : Nat) : EFt := fun ρ g => a1t ρ i g (.ok (!g.cs.isEmpty) g)
def C5 (i : Nat) : EF := fun ρ g => a1t ρ i g (.ok (.d (.int g.cs.length)) g)
theorem a37 {α : Type} {g : Gs} {m : R α} {P : α → Gs → Prop} {X : PyData → Gs → Prop} (h : (a3g g m).wp P X) : m.wp (fun a g1 => g1 = g ∧ P a g) NoX := by
 unfold a3g at h
 split at h
 ·split at h
  ·exact ⟨‹_›, h⟩
  ·exact h.elim
 ·exact h.elim
def V0 (i : Nat) (fe : EF) : EF := fun ρ g => a1t ρ i g ((a3g g ((fe ρ g).bind a6h)).bind fun k g1 => R.ofO ((atI g.cs k).map fun x => .d (.int x)) g1)
def N7 (i : Nat) (fe : EF) : EFs := fun ρ g => (fe ρ g).stx ρ fun r g1 => (a6h r g1).stx ρ fun x g2 => a1t ρ i g2 (.ok (.nx ρ) { g2 with rest := x })
def N3 (i : Nat) (fe : EF) : EFs := fun ρ g => (fe ρ g).stx ρ fun r g1 => (a6h r g1).stx ρ fun x g2 => a1t ρ i g2 (.ok (.nx ρ) { g2 with turn := x })
def Z7 (i : Nat) : EFs := fun ρ g => a1t ρ i g (match g.ls with
 | x :: r => .ok (.nx ρ) { g with ls := r, rest := x }
 | [] => .bad)
end
section
variable {K : Ck} {W : WX} {S : Sta} {B F0 F H : Hp} {ρ : List SD} {σ : St} {g : Gs}
theorem L8 {i : Nat} {d l c : Addr} (E : g9 K S B F0 F H ρ σ g) (hi : ρ[i]? = some (.o (.ref d))) (hq : g.q = some (d, l, c)) : σ[i]? = some (some (.ref d)) ∧ (∃ T, S = u0 (some (d, l, c), T)) ∧ a0z d l c g.ls g.cs g.rest g.turn H := by
 obtain ⟨v, h1, h2⟩ := E.sl i _ hi
 cases h2
 exact ⟨h1, E.law hq⟩
theorem K0 {d l c : Addr} {ls cs : List Int} {r t : Int} {x : Str} {v : V} (L : a0z d l c ls cs r t H) (h : valV (stv l c r t) (.inr x : Key) = some v) : DGet H d (.str x) (some v) := .inl ⟨_, .inr x, .inl L.hd, rfl, h.symm⟩
theorem K9 (i : Nat) : Sm K W (tDGet (tVar i) (tC (.str "rest"))) (v9 i) := by
 intro S B F0 F H ρ σ g Pd Xd Q E h k kx
 obtain ⟨d, l, c, hi, hq, h⟩ := C9 h
 obtain ⟨h1, ⟨T, rfl⟩, L⟩ := L8 E hi hq
 exact ⟨_, h1, d, _, rfl, K0 L a4c, k _ _ _ _ _ h (Ext.refl E.sub) E.j (Rp.int _)⟩
theorem a1w (i : Nat) : Sm K W (tDGet (tVar i) (tC (.str "turn"))) (a0e i) := by
 intro S B F0 F H ρ σ g Pd Xd Q E h k kx
 obtain ⟨d, l, c, hi, hq, h⟩ := C9 h
 obtain ⟨h1, ⟨T, rfl⟩, L⟩ := L8 E hi hq
 exact ⟨_, h1, d, _, rfl, K0 L a3G, k _ _ _ _ _ h (Ext.refl E.sub) E.j (Rp.int _)⟩
theorem M5 {F : Hp} : ∀ (ns : List Int), RpA K F (ns.map V.int) (ns.map PyData.int)
 | [] => .nil
 | n :: ns => .cons (.int n) (M5 ns)
theorem P8 (H : Hp) (a b : Addr) : Sub (only H a b) H := fun x o e => by
 unfold only at e
 split at e
 ·exact e
 ·cases e
theorem M3 : ∀ ns : List Int, PyData.plainAll (ns.map PyData.int) = true
 | [] => rfl
 | n :: ns => by
  show (PyData.plain (.int n) && PyData.plainAll (ns.map PyData.int)) = true
  rw [M3 ns]; rfl
theorem depthAll_ints : ∀ ns : List Int, PyData.depthAll (ns.map PyData.int) ≤ 1
 | [] => Nat.zero_le _
 | n :: ns => by
  have := depthAll_ints ns
  show max (PyData.depth (.int n)) (PyData.depthAll (ns.map PyData.int)) ≤ 1
  have h : PyData.depth (.int n) ≤ 1 := by simp [PyData.depth]
  omega
theorem shaped_ints (ns : List Int) : pl (.list (ns.map PyData.int)) = true := by
 unfold pl
 have h1 : PyData.plain (.list (ns.map PyData.int)) = true := by rw [PyData.plain]; exact M3 ns
 have h2 : PyData.depth (.list (ns.map PyData.int)) ≤ 64 := by
  have := depthAll_ints ns
  rw [PyData.depth]
  omega
 rw [h1, decide_eq_true h2]; rfl
theorem a7E {a : Addr} {ns : List Int} {Qd : Bool → Gs → Prop} {Q : Bool → Hp → Prop} (E : g9 K S B F0 F H ρ σ g) (ha : H a = some (.lst (ns.map V.int))) (hs : pl (.list (ns.map .int)) = true) (q : Qd (!ns.isEmpty) g)
  (k : ∀ b g' F' H', Qd b g' → Ext S F H F' H' → S.J g' H' → Q b H') : ∀ p, H p = none → rB K gNe (.ref a) (.ref p) (upd H p (.lst [])) fun x H' => ∃ b, x = .bl b ∧ Q b H' := by
 intro p hp
 have hap : a ≠ p := ne_of_none ha hp
 have n := Ext.own (S := S) (o := .lst []) E.sub hp
 have j := J.new (o := .lst []) E.j hp
 refine ⟨u0 (none, []), only (upd H p (.lst [])) a p, .list (ns.map .int), .list [], fun r => r = .d (.bool (!ns.isEmpty)), ⟨P8 _ _ _, fun a h => (noM h).elim⟩, ?_, ?_, ⟨hs, rfl, ?_⟩, ?_⟩
 ·exact .lst (.inl <| .inl (by unfold only; rw [if_pos (.inl rfl), upd_ne hap]; exact ha)) (M5 ns)
 ·exact .lst (.inl <| .inl (by unfold only; rw [if_pos (.inr rfl), upd_same])) .nil
 ·cases ns <;> rfl
 ·intro r v F' H' hr e jj rv
  subst hr
  have rv : Rp K F' v _ := rv
  cases rv
  have hk : ∀ x o, upd H p (.lst []) x = some o → H' x = some o := fun x o h => e.keep x o h noM
  refine ⟨_, rfl, k _ g F H' q ⟨fun x o h m => hk x o (n.keep x o h m), fun _ _ => rfl, Le.refl F, fun x o h => hk x o (n.sub x o h), fun t => (n.tb t).to (fun _ _ z => z) fun a ps _ z => hk _ _ z⟩ (S.ok _ _ _ j fun x m => ?_)⟩
  cases e2 : upd H p (.lst []) x with
  | none => exact absurd e2 (S.there _ _ _ j m)
  | some o => exact hk x o e2
theorem V5 (i : Nat) : SmT K W (tTest (tOp (rB K gNe) (tDGet (tVar i) (tC (.str "large"))) (tLst tNil))) (t9 i) := by
 intro S B F0 F H ρ σ g Pd Xd Q E h k kx
 obtain ⟨d, l, c, hi, hq, h⟩ := C9 h
 obtain ⟨h1, ⟨T, rfl⟩, L⟩ := L8 E hi hq
 exact ⟨_, h1, d, _, rfl, K0 L Z3, Nat.zero_le _, a7E E L.hl (shaped_ints g.ls) h k⟩
theorem V6 (i : Nat) : SmT K W (tTest (tOp (rB K gNe) (tDGet (tVar i) (tC (.str "cells"))) (tLst tNil))) (A9 i) := by
 intro S B F0 F H ρ σ g Pd Xd Q E h k kx
 obtain ⟨d, l, c, hi, hq, h⟩ := C9 h
 obtain ⟨h1, ⟨T, rfl⟩, L⟩ := L8 E hi hq
 exact ⟨_, h1, d, _, rfl, K0 L Q8, Nat.zero_le _, a7E E L.hc (shaped_ints g.cs) h k⟩
theorem W2 (i : Nat) : Sm K W (tCB (rLen K) (tCons (tDGet (tVar i) (tC (.str "cells"))) tNil)) (C5 i) := by
 intro S B F0 F H ρ σ g Pd Xd Q E h k kx
 obtain ⟨d, l, c, hi, hq, h⟩ := C9 h
 obtain ⟨h1, ⟨T, rfl⟩, L⟩ := L8 E hi hq
 refine ⟨_, h1, d, _, rfl, K0 L Q8, _, g.cs.length, rfl, .inl ⟨_, .inl (.inl L.hc), by simp⟩, k _ _ _ _ _ h (Ext.refl E.sub) E.j (Rp.int _)⟩
theorem a5s {α β : Type} (f : α → β) (xs : List α) (k : Int) {x : α} (h : atI xs k = some x) : atI (xs.map f) k = some (f x) := by
 unfold atI at h ⊢
 rw [List.length_map]
 cases e : ixN xs.length k with
 | none => rw [e] at h; cases h
 | some j =>
  rw [e] at h
  have h' : xs[j]? = some x := h
  show (xs.map f)[j]? = some (f x)
  rw [List.getElem?_map, h']; rfl
theorem a1W (i : Nat) {te : TE} {fe : EF} (he : Sm K W0 te fe) : Sm K W (tOp (rB K gIx) (tDGet (tVar i) (tC (.str "cells"))) te) (V0 i fe) := by
 intro S B F0 F H ρ σ g Pd Xd Q E h k kx
 obtain ⟨d, l, c, hi, hq, h⟩ := C9 h
 obtain ⟨h1, ⟨T, rfl⟩, L⟩ := L8 E hi hq
 refine ⟨_, h1, d, _, rfl, K0 L Q8, ?_⟩
 refine he _ B F0 F H ρ σ g _ _ _ E (R.wp_bind.mp (a37 (R.wp_bind.mp h))) (fun r g1 v F1 H1 q e j rv => ?_) (fun _ _ _ _ _ _ z _ _ _ => z.elim)
 obtain ⟨x, rfl, rfl, q⟩ := a0D q
 obtain ⟨rr, o1, q⟩ := R.wp_ofO q
 obtain ⟨y, hy, rfl⟩ := Option.map_eq_some_iff.mp o1
 have rv : Rp K F1 v (.int x) := rv
 cases rv
 have L1 : a0z d l c g1.ls g1.cs g1.rest g1.turn H1 := j.1.2
 refine ⟨u0 (none, []), only H1 c c, .list (g1.cs.map .int), .int x, fun r => r = .d (.int y), ⟨P8 _ _ _, fun a h => (noM h).elim⟩, .lst (.inl <| .inl (by unfold only; rw [if_pos (.inl rfl)]; exact L1.hc)) (M5 _), .int _, ⟨_, a5s _ _ _ hy, rfl⟩, ?_⟩
 intro r v F' H' hr e' jj rv
 subst hr
 have rv : Rp K F' v _ := rv
 cases rv
 have hk : ∀ x o, H1 x = some o → H' x = some o := fun x o h => e'.keep x o h noM
 refine k _ g1 _ F1 H' q ⟨fun x o h m => hk x o (e.keep x o h m), e.grow, e.le, fun x o h => hk x o (e.sub x o h), fun t => (e.tb t).to (fun _ _ z => z) fun a ps _ z => hk _ _ z⟩ ((u0 (some (d, l, c), T)).ok _ _ _ j fun x m => ?_) (Rp.int _)
 cases e2 : H1 x with
 | none => exact absurd e2 ((u0 (some (d, l, c), T)).there _ _ _ j m)
 | some o => exact hk x o e2
theorem a4t {d l c : Addr} {T : List (Addr × Str)} {g2 : Gs} {o : HO} {kvs : List (Key × V)} (E : g9 K S B F0 F H ρ σ g) (hS : S = u0 (some (d, l, c), T)) (hd : H d = some (.dK kvs)) (j : g2.q = some (d, l, c) ∧ a0z d l c g2.ls g2.cs g2.rest g2.turn (upd H d o)) (ht : g2.tt = g.tt := by rfl) : g9 K S B F0 F (upd H d o) ρ σ g2 := by
 subst hS
 exact E.stUpd (fun a m => upd_ne fun z => m (.inl (.inl z))) ⟨j, fun p hp => M7 (E.j.2.1 p hp), fun z => E.j.2.2 (ht ▸ z)⟩ (E.tb.upd (fun _ _ z => z) fun ps z => by rw [hd] at z; cases z)
theorem V1 (i : Nat) {te : TE} {fe : EF} (he : Sm K W te fe) : SmS K W (sDPut (tVar i) (tC (.str "rest")) te) (N7 i fe) := by
 intro S B F0 F H ρ σ g D E hf
 refine he S B F0 F H ρ σ g _ _ _ E (I9 hf) (fun r g1 v F1 H1 q e j rv => ?_) (Z0 (t := True) (P := fun _ _ => True) E)
 obtain ⟨x, rfl, q⟩ := a0D (I9 q)
 obtain ⟨d, l, c, hi, hq, q⟩ := C9 q
 have rv : Rp K F1 v (.int x) := rv
 cases rv
 have E1 := E.ext e j
 obtain ⟨h1, ⟨T, hS⟩, L⟩ := L8 E1 hi hq
 refine ⟨_, h1, d, _, rfl, .inl ⟨_, .inr "rest", L.hd, rfl, by show 4 < sizeLine; rw [sizeLine_eq]; decide, rfl⟩, ?_⟩
 refine q _ _ _ (a4t E1 hS L.hd ⟨hq, ⟨L.dl, L.dc, L.lc, ?_, by rw [upd_ne L.dl.symm]; exact L.hl, by rw [upd_ne L.dc.symm]; exact L.hc⟩⟩)
 rw [upd_same]
 exact congrArg (fun z => some (HO.dK z)) Q6
theorem V4 (i : Nat) {te : TE} {fe : EF} (he : Sm K W te fe) : SmS K W (sDPut (tVar i) (tC (.str "turn")) te) (N3 i fe) := by
 intro S B F0 F H ρ σ g D E hf
 refine he S B F0 F H ρ σ g _ _ _ E (I9 hf) (fun r g1 v F1 H1 q e j rv => ?_) (Z0 (t := True) (P := fun _ _ => True) E)
 obtain ⟨x, rfl, q⟩ := a0D (I9 q)
 obtain ⟨d, l, c, hi, hq, q⟩ := C9 q
 have rv : Rp K F1 v (.int x) := rv
 cases rv
 have E1 := E.ext e j
 obtain ⟨h1, ⟨T, hS⟩, L⟩ := L8 E1 hi hq
 refine ⟨_, h1, d, _, rfl, .inl ⟨_, .inr "turn", L.hd, rfl, by show 4 < sizeLine; rw [sizeLine_eq]; decide, rfl⟩, ?_⟩
 refine q _ _ _ (a4t E1 hS L.hd ⟨hq, ⟨L.dl, L.dc, L.lc, ?_, by rw [upd_ne L.dl.symm]; exact L.hl, by rw [upd_ne L.dc.symm]; exact L.hc⟩⟩)
 rw [upd_same]
 exact congrArg (fun z => some (HO.dK z)) a0v
theorem a2a (i : Nat) : SmS K W (sDPut (tVar i) (tC (.str "rest")) (tBM K "list" rPopAt (tDGet (tVar i) (tC (.str "large"))) (tCons (tC (.int 0)) tNil))) (Z7 i) := by
 intro S B F0 F H ρ σ g D E h
 obtain ⟨d, l, c, hi, hq, h⟩ := C9 h
 obtain ⟨h1, ⟨T, rfl⟩, L⟩ := L8 E hi hq
 cases e : g.ls with
 | nil => rw [e] at h; exact h.elim
 | cons x r =>
  rw [e] at h
  have hl : H l = some (.lst (V.int x :: r.map V.int)) := by rw [L.hl, e]; rfl
  refine ⟨_, h1, d, _, rfl, K0 L Z3, .inl ⟨rfl, _, .inl (.inl hl)⟩, l, _, 0, 0, .int x, rfl, rfl, hl, by decide, by decide, ?_, rfl, ?_⟩
  ·simp [seqIndex?]
  ·have hd : upd H l (.lst (r.map V.int)) d = some (.dK (stv l c g.rest g.turn)) := by rw [upd_ne L.dl]; exact L.hd
   refine ⟨_, h1, d, _, rfl, .inl ⟨_, .inr "rest", hd, rfl, by show 4 < sizeLine; rw [sizeLine_eq]; decide, rfl⟩, ?_⟩
   refine h _ _ _ (E.stUpd (fun a m => ?_) ⟨⟨hq, ⟨L.dl, L.dc, L.lc, ?_, ?_, ?_⟩⟩, fun p hp => M7 (M7 (E.j.2.1 p hp)), fun z => E.j.2.2 z⟩ ((E.tb.upd (fun _ _ z => z) fun ps z => by rw [hl] at z; cases z).upd (fun _ _ z => z) fun ps z => by rw [upd_ne L.dl, L.hd] at z; cases z))
   ·have n1 : a ≠ d := fun z => m (.inl (.inl z))
    have n2 : a ≠ l := fun z => m (.inl (.inr (.inl z)))
    show upd (upd H l _) d _ a = H a
    rw [upd_ne n1, upd_ne n2]
   ·show upd (upd H l _) d _ d = _
    rw [upd_same]; exact congrArg (fun z => some (HO.dK z)) Q6
   ·show upd (upd H l _) d _ l = _
    rw [upd_ne L.dl.symm, upd_same]; rfl
   ·show upd (upd H l _) d _ c = _
    rw [upd_ne L.dc.symm, upd_ne L.lc.symm]; exact L.hc
end
end Fx

namespace Fx
open PySem L2 PySem.Spec PyProof.Rows

theorem a2A {α : Type} {fg : EFg} {ft : EFt} {fb : List SD → α → Gs → R α} {ρ ρ2 : List SD} {d : PyData} {acc : α} {g : Gs} (h1 : fg d ρ = some ρ2) : A0 fg ft fb ρ d acc g = (ft ρ2 g).bind fun b g2 => if b = true then fb ρ2 acc g2 else .ok acc g2 := by
 unfold A0; rw [h1]
theorem a0s {α : Type} {step : PyData → List PyData → Gs → R (List PyData)} {g : Gs} (f : α → PyData) (k : α → Option PyData) : ∀ (l : List α) (acc : List PyData), (∀ x ∈ l, ∀ acc : List PyData, step (f x) acc g = match k x with
  | some y => if acc.length < sizeLine then .ok (acc ++ [y]) g else .bad
  | none => .ok acc g) → acc.length + l.length ≤ sizeLine → cpR step (l.map f) acc g = .ok (acc ++ l.filterMap k) g
 | [], acc, _, _ => by simp [cpR]
 | x :: l, acc, h, hz => by
  have hz' : acc.length + (l.length + 1) ≤ sizeLine := hz
  rw [List.map_cons, cpR, h x (by simp)]
  cases e : k x with
  | none =>
   simp only [R.bind_ok]
   rw [a0s f k l acc (fun y hy => h y (by simp [hy])) (by omega), List.filterMap_cons_none e]
  | some y =>
   simp only
   rw [if_pos (by omega)]
   simp only [R.bind_ok]
   rw [a0s f k l (acc ++ [y]) (fun y hy => h y (by simp [hy])) (by rw [List.length_append]; simp; omega), List.filterMap_cons_some e, List.append_assoc]
   rfl
theorem a4y {α : Type} {fi : EFi} {fg : EFg} {ft : EFt} {fe : EF} {vs : List Nat} {ρ : List SD} {g g1 : Gs} (l : List α) (f : α → PyData) (k : α → Option PyData) (hi : fi ρ g = .ok (l.map f) g1)
    (hs : ∀ x ∈ l, ∃ ρ2, fg (f x) (K8 ρ vs) = some ρ2 ∧ (match k x with
      | some y => ft ρ2 g1 = .ok true g1 ∧ v6 fe ρ2 g1 = .ok y g1
      | none => ft ρ2 g1 = .ok false g1)) (hz : l.length ≤ sizeLine) : fLc fi fg ft fe vs ρ g = .ok (.nl (l.filterMap k)) g1 := by
  unfold fLc fCp
  rw [hi]
  simp only [R.bind_ok]
  rw [a0s f k l [] (fun x hx acc => ?_) (by simpa using hz)]
  · simp
  · obtain ⟨ρ2, h1, h2⟩ := hs x hx
    rw [a2A h1]
    cases e : k x with
    | none =>
      rw [e] at h2
      rw [h2]; rfl
    | some y =>
      rw [e] at h2
      rw [h2.1]
      simp only [R.bind_ok, if_true]
      unfold a5t
      rw [h2.2]; rfl
/-- each item gives one -/
theorem a6b {α : Type} {fi : EFi} {fg : EFg} {ft : EFt} {fe : EF} {vs : List Nat} {ρ : List SD} {g g1 : Gs} (l : List α) (f : α → PyData) (k : α → PyData) (hi : fi ρ g = .ok (l.map f) g1)
  (hs : ∀ x ∈ l, ∃ ρ2, fg (f x) (K8 ρ vs) = some ρ2 ∧ ft ρ2 g1 = .ok true g1 ∧ v6 fe ρ2 g1 = .ok (k x) g1) (hz : l.length ≤ sizeLine) : fLc fi fg ft fe vs ρ g = .ok (.nl (l.map k)) g1 := by
 rw [a4y l f (fun x => some (k x)) hi hs hz]
 rw [show l.filterMap (fun x => some (k x)) = l.map k from by rw [List.filterMap_eq_map']]
theorem a8y {K : Ck} : a5F K a7Y (o1A a83) := Q4 a7P (a0X fun _ _ _ h q => a6H h q)
theorem a9W {K : Ck} : OpF K (rB K gGe) oGe := F8 H5 fun _ _ _ _ h q => a4H h q
theorem a3J {K : Ck} : OpF K (rB K a57) a0l := F8 H5 fun _ _ _ _ h q => a7o h q
theorem a8u {K : Ck} : OpF K (rB K gSub) a6F := F8 H5 fun _ _ _ _ h q => sub_of h q
def a4v (K : PySem.W.Frag) : TE := tLc (a7W K (tVar 0)) (gName 2) tYes (tCB a7Y (tCons (tVar 2) tNil)) [2]
def a1S : EF := fLc (a5z (k4 0)) (k7 2) a6c (fCB (o1A a83) (f9 (k4 2) m7)) [2]
theorem a3b {K : Ck} {W : WX} : Sm K W (a4v K) a1S := a76 (a2O (g6 0)) (i5 2) a2c (K7 a8y (c0 (g6 2) g5)) (by decide)
def a2S (K : Ck) : TE := tLc (a7W K (tVar 1)) (gName 2) (tTest (tOp (rB K gGe) (tVar 2) (tOp (rB K a57) (tC (.int 10)) (tC (.int 18))))) (tOp (rB K gSub) (tVar 2) (tOp (rB K a57) (tC (.int 10)) (tC (.int 18)))) [2]
noncomputable def a1I : EF := a7Z 1 (fLc (a5z (k4 1)) (k7 2) (u5 (fOp oGe (k4 2) (fOp a0l (fC (.int 10)) (fC (.int 18))))) (fOp a6F (k4 2) (fOp a0l (fC (.int 10)) (fC (.int 18)))) [2])
theorem a3O {K : Ck} {W : WX} : Sm K W (a2S K) a1I := a71 1 (a76 (a2O (g6 1)) (i5 2) (v5 (j9 a9W (g6 2) (j9 a3J i0 i0))) (j9 a8u (g6 2) (j9 a3J i0 i0)) (by decide))
def a7F (K : Ck) : TS := tSeq (tAsg (a4v K) (gName 1)) (tRet (tDisp [(tC (.str "large"), a2S K), (tC (.str "cells"), tVar 1), (tC (.str "rest"), tC (.int 0)), (tC (.str "turn"), tC (.int 0))]))
def a4f (i : Int) : Int := if i < 0 then -i else i
def a6e (ns : List Int) : List Int := ns.filterMap fun i => if i ≥ 10 ^ 18 then some (i - 10 ^ 18) else none
theorem a9h (ns : List Int) (a b : SD) (hn : ns.length ≤ 63) (g : Gs) : a1S [.d (.list (ns.map .int)), a, b] g = .ok (.nl ((ns.map a4f).map .int)) g := by
 unfold a1S
 rw [a6b ns .int (fun i => .int (a4f i)) rfl (fun x hx => ⟨_, rfl, rfl, rfl⟩) (by rw [sizeLine_eq]; omega), List.map_map]
 rfl
theorem a4s : a0l (.int 10) (.int 18) = some (.d (.int (10 ^ 18))) := by
 have p : (0 : Int) ≤ 18 ∧ ((Builtin.Int.intBits 10 : Nat) : Int) * 18 ≤ 2 ^ 27 := by decide +kernel
 unfold a0l
 simp only [if_pos p]
 rfl
theorem a2j (ms : List Int) : a1r (ms.map PyData.int) = true := by
 induction ms with
 | nil => rfl
 | cons m ms ih => simp only [List.map_cons, a1r, noL, ih, Bool.and_self]
theorem a8i (ns : List Int) (x b : SD) (hn : ns.length ≤ 63) (g : Gs) : a1I [x, .own (ns.map .int), b] g = .ok (.nl ((a6e ns).map .int)) g := by
 unfold a1I a7Z
 show grd _ = _
 rw [a4y ns .int (fun i => if i ≥ 10 ^ 18 then some (.int (i - 10 ^ 18)) else none) rfl (fun i hi => ⟨_, rfl, ?_⟩) (by rw [sizeLine_eq]; omega)]
 ·have e : (ns.filterMap fun i => if i ≥ 10 ^ 18 then some (PyData.int (i - 10 ^ 18)) else none) = (a6e ns).map PyData.int := by
   unfold a6e
   rw [List.map_filterMap]
   congr 1
   funext i
   by_cases c : i ≥ 10 ^ 18
   ·simp only [if_pos c, Option.map_some]
   ·simp only [if_neg c, Option.map_none]
  rw [e]
  unfold grd
  simp only [W3, a2j, if_true]
 ·have t : u5 (fOp oGe (k4 2) (fOp a0l (fC (.int 10)) (fC (.int 18)))) [x, .d (.list (ns.map .int)), .d (.int i)] g = .ok (decide (i ≥ 10 ^ 18)) g := by
   unfold u5 fOp v6
   simp only [k4, fC, List.getElem?_cons_succ, List.getElem?_cons_zero, G8, R.bind_ok, F9, a4s, R.ofO_some]
   rfl
  have t2 : v6 (fOp a6F (k4 2) (fOp a0l (fC (.int 10)) (fC (.int 18)))) [x, .d (.list (ns.map .int)), .d (.int i)] g = .ok (.int (i - 10 ^ 18)) g := by
   unfold fOp v6
   simp only [k4, fC, List.getElem?_cons_succ, List.getElem?_cons_zero, G8, R.bind_ok, F9, a4s, R.ofO_some]
   rfl
  by_cases c : i ≥ 10 ^ 18
  ·simp only [if_pos c]
   exact ⟨t.trans (by rw [decide_eq_true c]), t2⟩
  ·simp only [if_neg c]
   exact t.trans (by rw [decide_eq_false c])
theorem a1R {l c : Addr} {r t : Int} : mergeK [] (stv l c r t) = stv l c r t := by
 show putK (putK (putK (putK [] (.inr "large" : Key) (.ref l)) (.inr "cells") (.ref c)) (.inr "rest") (.int r)) (.inr "turn") (.int t) = _
 rw [putK_new (kvs := []) _ rfl, List.nil_append, putK_new (kvs := [((.inr "large" : Key), V.ref l)]) _ ((valV_neg (ks_ne a9E)).trans rfl), List.cons_append, List.nil_append, putK_new _ ((valV_neg (ks_ne a84)).trans ((valV_neg (ks_ne a7V)).trans rfl)), List.cons_append, List.cons_append, List.nil_append, putK_new _ ((valV_neg (ks_ne a7S)).trans ((valV_neg (ks_ne a88)).trans ((valV_neg (ks_ne a6E)).trans rfl)))]
 rfl
def W6 (K : Ck) : Sp := fun vs H Q _ => ∃ (a : Addr) (ns : List Int), vs = [.ref a] ∧ a0d K H a (ns.map V.int) ∧ ns.length ≤ 63 ∧
 ∀ (H' : Hp) (d l c : Addr) (ls cs : List Int), (∀ b o, H b = some o → H' b = some o) → H d = none → H l = none → H c = none → a0z d l c ls cs 0 0 H' → (∀ x ∈ ls, 0 ≤ x) → Q (.ref d) H'
theorem Q1 {K : Ck} {F : Hp} : ∀ {ns : List Int} {vs : List V}, RpA K F vs (ns.map .int) → vs = ns.map V.int
 | [], _, h => by cases h; rfl
 | n :: ns, _, h => by
  cases h with
  | cons r t => cases r; rw [Q1 t]; rfl
theorem a0g {n1 n2 n3 : Str} {K : Ck} {vs : List V} {H : Hp} {Q : VK} {E : XK} (h : W6 K vs H Q E) : a7F K { nx := fun _ H' => Q .non H', rt := Q } (L2.start [n1, n2, n3] vs) H := by
 obtain ⟨a, ns, rfl, hr, hn, k⟩ := h
 have hrd : a0d K (only H a a) a (ns.map V.int) := by
  rcases hr with (hr | ⟨o, hr⟩) | hr
  ·exact .inl (.inl (by unfold only; rw [if_pos (.inl rfl)]; exact hr))
  ·exact .inl (.inr ⟨o, by unfold only; rw [if_pos (.inl rfl)]; exact hr⟩)
  ·exact .inr hr
 have E0 : g9 K (u0 (none, [])) H (only H a a) (only H a a) H [.d (.list (ns.map .int)), .u, .u] (L2.start [n1, n2, n3] [.ref a]) ⟨none, [], [], 0, 0, false⟩ :=
  ⟨⟨_, rfl, fun z => (z rfl).elim⟩, a5k, P8 _ _ _, Le.refl _, fun _ _ => rfl, fun _ _ h _ => h, fun _ h => (noM h).elim, ⟨rfl, (fun p hp => by cases hp), fun z => by cases z⟩, rfl, fun i s hs => by
   match i, hs with
   | 0, hs => cases hs; exact ⟨_, rfl, _, rfl, .lst hrd (M5 ns)⟩
   | 1, hs => cases hs; exact ⟨_, rfl, trivial⟩
   | 2, hs => cases hs; exact ⟨_, rfl, trivial⟩
   | i + 3, hs => simp at hs, fun i l s t h1 h2 o1 o2 _ => by
   match i, h1 with
   | 0, h1 => cases h1; cases o1
   | 1, h1 => cases h1; cases o1
   | 2, h1 => cases h1; cases o1
   | i + 3, h1 => simp at h1⟩
 refine a5i (W := W0) 1 a3b _ H _ _ H _ _ _ _ E0 ?_
 unfold a26
 rw [a9h ns _ _ hn]
 intro σ1 F1 H1 E1
 have E1 : g9 K (u0 (none, [])) H (only H a a) F1 H1 [.d (.list (ns.map .int)), .own ((ns.map a4f).map .int), .u] σ1 ⟨none, [], [], 0, 0, false⟩ := E1
 obtain ⟨v1, s1, c, rfl, c1, _, c3, vs1, c4, c5⟩ := E1.sl 1 _ rfl
 have := Q1 c5
 subst this
 intro p hp
 have n := Ext.own (S := u0 (none, [])) (o := .dK []) E1.sub hp
 have j1 : (u0 (none, [])).J ⟨none, [], [], 0, 0, false⟩ (upd H1 p (.dK [])) := J.new E1.j hp
 have E2 := E1.ext n j1
 have key : ∀ (Q2 : VK), (∀ v H3, (∃ (l : Addr) (ls : List Int), v = V.ref l ∧ H l = none ∧ l ≠ p ∧ l ≠ c ∧ H3 l = some (.lst (ls.map V.int)) ∧ (∀ x ∈ ls, (0 : Int) ≤ x) ∧ H3 p = some (.dK []) ∧ H3 c = some (.lst ((ns.map a4f).map V.int)) ∧ ∀ b o, H b = some o → H3 b = some o) → Q2 v H3) → a2S K σ1 (upd H1 p (.dK [])) Q2 := by
  intro Q2 k2
  refine a3O (W := W0) _ H _ _ _ _ _ _ (fun r _ => r = .nl ((a6e (ns.map a4f)).map .int)) NoX _ E2 (by rw [a8i (ns.map a4f) _ _ (by rw [List.length_map]; exact hn)]; rfl) (fun r g' v F3 H3 hr e j rv => ?_) (fun _ _ _ _ _ _ z _ _ _ => z.elim)
  subst hr
  obtain ⟨l, vs, rfl, l1, _, l3, l4, l5⟩ := rv
  have := Q1 l5
  subst this
  have hpp : H3 p = some (.dK []) := e.keep p _ upd_same noM
  have hcc : H3 c = some (.lst ((ns.map a4f).map V.int)) := e.keep c _ (by rw [upd_ne (ne_of_none c4 hp)]; exact c4) noM
  have keep : ∀ b o, H b = some o → H3 b = some o := fun b o hb => e.keep b o (n.keep b o (E1.keep b o hb noM) noM) noM
  refine k2 _ _ ⟨l, a6e (ns.map a4f), rfl, ?_, ?_, ?_, l4, ?_, hpp, hcc, keep⟩
  ·cases q : H l with
   | none => rfl
   | some o => have := n.keep l o (E1.keep l o q noM) noM; rw [l1] at this; cases this
  ·intro z; rw [z, upd_same] at l1; cases l1
  ·intro z; rw [z, upd_ne (ne_of_none c4 hp), c4] at l1; cases l1
  ·intro x hx
   unfold a6e at hx
   obtain ⟨y, _, hy⟩ := List.mem_filterMap.mp hx
   by_cases c : y ≥ 10 ^ 18
   ·rw [if_pos c] at hy; cases hy; omega
   ·rw [if_neg c] at hy; cases hy
 simp only [tPairs, tC]
 refine key _ fun v H3 ⟨l, ls, hv, l0, lp, lc, hl, hx, hpp, hcc, keep⟩ => ?_
 subst hv
 refine ⟨_, s1, ?_⟩
 refine ⟨hpp, stv l c 0 0, rfl, by show 4 ≤ 15; decide, ?_⟩
 rw [a1R]
 have hpn : H p = none := by
  cases q : H p with
  | none => rfl
  | some o => have := E1.keep p o q noM; rw [hp] at this; cases this
 have hcp : c ≠ p := ne_of_none c4 hp
 exact k _ p l c ls (ns.map a4f) (fun b o hb => by rw [upd_ne (fun z => by rw [z, hpn] at hb; cases hb)]; exact keep b o hb) hpn l0 c1 ⟨Ne.symm lp, Ne.symm hcp, lc, upd_same, by rw [upd_ne lp]; exact hl, by rw [upd_ne hcp]; exact hcc⟩ hx
def a9U (T : List (Addr × Str)) (H : Hp) : Prop := ∀ p ∈ T, H p.1 = some (.tbl #[])
def a6w (K : Ck) (T : List (Addr × Str)) : Sp := fun vs H Q E => ∃ (a : Addr) (ns : List Int), vs = [.ref a] ∧ a0d K H a (ns.map V.int) ∧ ns.length ≤ 63 ∧ (T ≠ [] ∧ a9U T H) ∧ ∀ H', Q (.bl true) H'
def a1g (K : Ck) : Sp := a6w K (a6d K)
/-- the law's slots behind its first statement -/
def L7 (m : Nat) (ns : List Int) (d : Addr) : List SD := .d (.list (ns.map .int)) :: .o (.ref d) :: List.replicate m .u
/-- the law's body behind its first statement is right -/
def P7 (m : Nat) (b : EFs) : Prop := ∀ (ns : List Int) (d l c : Addr) (g : Gs), ns.length ≤ 63 → g.q = some (d, l, c) → GOk g (2 ^ 39) → ∃ g', b (L7 m ns d) g = .ok (.rt (.d (.bool true))) g'
theorem a2B {K : Ck} {n0 n1 : Str} {Ns : List Str} {u : TS} {b : EFs} {E0 : XK} (hu : SmS K (WB E0) u b) (right : P7 Ns.length b)
  {vs : List V} {H : Hp} {Q : VK} {E : XK} (h : a1g K vs H Q E) : tSeq (tAsg (tCallSD (W6 K) [] (WE (WB E0)) (tCons (tVar 0) tNil)) (gName 1)) u { nx := fun _ H' => Q .non H', rt := Q } (L2.start (n0 :: n1 :: Ns) vs) H := by
 obtain ⟨a, ns, rfl, hr, hn, ⟨hne, hT⟩, k⟩ := h
 have hTT : ∃ T, T = a6d K := ⟨_, rfl⟩
 obtain ⟨T, hTT⟩ := hTT
 rw [← hTT] at hne hT
 have es : L2.start (n0 :: n1 :: Ns) [.ref a] = some (.ref a) :: none :: List.replicate Ns.length none := by
  simp [L2.start, List.replicate_succ]
 rw [es]
 refine ⟨.ref a, rfl, a, ns, rfl, hr, hn, fun H' d l c ls cs keep hd hl hc L pos => ?_⟩
 have hF : ∃ F, Sub F H' ∧ (∀ x, ((x = d ∨ x = l ∨ x = c) ∨ ∃ s, (x, s) ∈ T) → F x = none) ∧ a0d K F a (ns.map V.int) := by
  rcases hr with hr | hr
  ·have ha : ∃ o, H a = some o ∧ Rd (only H' a a) a (.lst (ns.map V.int)) := by
    rcases hr with h | ⟨o, h⟩
    ·exact ⟨_, h, .inl (by unfold only; rw [if_pos (.inl rfl)]; exact keep _ _ h)⟩
    ·exact ⟨_, h, .inr ⟨o, by unfold only; rw [if_pos (.inl rfl)]; exact keep _ _ h⟩⟩
   obtain ⟨o, h0, h1⟩ := ha
   refine ⟨only H' a a, P8 _ _ _, fun x hx => ?_, .inl h1⟩
   have : ¬ (x = a ∨ x = a) := by
    intro z
    have z : x = a := z.elim id id
    subst z
    rcases hx with (rfl | rfl | rfl) | ⟨s, hs⟩
    ·rw [h0] at hd; cases hd
    ·rw [h0] at hl; cases hl
    ·rw [h0] at hc; cases hc
    ·have ht := hT _ hs
     rw [h0] at ht
     cases ht
     rcases h1 with h1 | ⟨o, h1⟩ <;> (unfold only at h1; rw [if_pos (.inl rfl)] at h1; rw [keep _ _ h0] at h1; cases h1)
   unfold only
   rw [if_neg this]
  ·exact ⟨fun _ => none, (fun x o e => by cases e), fun _ _ => rfl, .inr hr⟩
 obtain ⟨F, sub, mF, hS⟩ := hF
 obtain ⟨g', hb⟩ := right ns d l c ⟨some (d, l, c), ls, cs, 0, 0, true⟩ hn rfl ⟨Int.le_refl _, pos, Int.le_refl _, by show (0 : Int) + ((2 ^ 39 : Nat) : Int) ≤ 2 ^ 40; decide, (fun z => by cases z), rfl⟩
 refine hu (u0 (some (d, l, c), T)) H' F F H' (L7 Ns.length ns d) _ ⟨some (d, l, c), ls, cs, 0, 0, true⟩ _ ?_ ?_
 ·refine ⟨⟨_, rfl, fun _ => hTT⟩, fun p hp => ⟨#[], keep _ _ (hT p hp), trivial, fun pos cv hc => by simp [codeAmong] at hc⟩, sub, Le.refl _, fun _ _ => rfl, fun _ _ h _ => h, mF, ⟨⟨rfl, L⟩, fun p hp => (by rw [keep _ _ (hT p hp)]; exact fun z => by cases z), fun _ => hne⟩, by simp [L7], fun i s hs => ?_, fun i j s t h1 h2 o1 o2 _ => ?_⟩
  ·match i, hs with
   | 0, hs => cases hs; exact ⟨_, rfl, _, rfl, .lst hS (M5 ns)⟩
   | 1, hs => cases hs; exact ⟨_, rfl, rfl⟩
   | i + 2, hs =>
    have hs : (List.replicate Ns.length SD.u)[i]? = some s := hs
    rw [List.getElem?_replicate] at hs
    split at hs
    ·rename_i hlt
     cases hs
     exact ⟨none, (by show (List.replicate Ns.length (none : Option V))[i]? = some none; rw [List.getElem?_replicate, if_pos hlt]), trivial⟩
    ·cases hs
  ·exfalso
   match i, h1 with
   | 0, h1 => cases h1; cases o1
   | 1, h1 => cases h1; cases o1
   | i + 2, h1 =>
    have h1 : (List.replicate Ns.length SD.u)[i]? = some s := h1
    rw [List.getElem?_replicate] at h1
    split at h1
    ·cases h1; cases o1
    ·cases h1
 ·rw [hb]
  intro v F' H2 R
  have rv : Rp K F' v (.bool true) := R.rv
  cases rv
  exact k H2
end Fx

namespace Fx
open PySem L2

section
variable (K : Ck) (W : WX)
def tT (f : EFt) : TT := fun σ H Q => ∃ (S : Sta) (B F0 F : Hp) (ρ : List SD) (g : Gs) (Xd : PyData → Gs → Prop), g9 K S B F0 F H ρ σ g ∧ (f ρ g).wp (fun r g' => ∀ F' H', Ext S F H F' H' → S.J g' H' → Q r H') Xd ∧ XOk K W S F H σ Xd
def tAf (f : EFa) : TA := fun σ H Q => ∃ (S : Sta) (B F0 F : Hp) (ρ : List SD) (g : Gs) (Xd : PyData → Gs → Prop), g9 K S B F0 F H ρ σ g ∧ (f ρ g).wp (fun as g' => ∀ vs F' H', Ext S F H F' H' → S.J g' H' → v7 K F' vs as → Q vs H') Xd ∧ XOk K W S F H σ Xd
end
section
variable {K : Ck} {W : WX}
theorem f7 {f : EF} : Sm K W (tE K W f) f := fun S B F0 F H ρ σ g Pd Xd Q E h k kx => ⟨S, B, F0, F, ρ, g, Xd, E, R.wp_imp h (fun r g' q v F' H' a b c => k r g' v F' H' q a b c) fun _ _ z => z, kx⟩
theorem A5 {f : EFt} : SmT K W (tT K W f) f := fun S B F0 F H ρ σ g Pd Xd Q E h k kx => ⟨S, B, F0, F, ρ, g, Xd, E, R.wp_imp h (fun r g' q F' H' a b => k r g' F' H' q a b) fun _ _ z => z, kx⟩
theorem e8 {f : EFa} : SmA K W (tAf K W f) f := fun S B F0 F H ρ σ g Pd Xd Q E h k kx => ⟨S, B, F0, F, ρ, g, Xd, E, R.wp_imp h (fun r g' q v F' H' a b c => k r g' v F' H' q a b c) fun _ _ z => z, kx⟩
theorem a6C {w : Bool} {f : EFi} : SmI w K W (tI K W w f) f := fun S B F0 F H ρ σ g Pd Xd Q E h k kx => ⟨S, B, F0, F, ρ, g, Xd, E, R.wp_imp h (fun r g' q F' H' J a b c => k r g' F' H' J q a b c) fun _ _ z => z, kx⟩
theorem g8 {f : EFs} : SmS K W (tSf K W f) f := fun S B F0 F H ρ σ g D E h => ⟨S, B, F0, F, ρ, g, E, h⟩
end
section
variable {X : Cx} {C : Ck} {W : WX}
theorem xt {e : Expr} {t : TT} {f : EFt} (h : PT X e t) (s : SmT C W t f) : PT X e (tT C W f) :=
 ⟨fun pins s' σ H Q I ⟨S, B, F0, F, ρ, g, Xd, E, hw, kx⟩ => h.run pins s' σ H Q I (s S B F0 F H ρ σ g _ Xd Q E hw (fun r g' F' H' q a b => q F' H' a b) kx)⟩
theorem xts {es : List Expr} {t : TT} {f : EFt} (h : PTs X es t) (s : SmT C W t f) : PTs X es (tT C W f) :=
 ⟨fun pins s' σ H Q I ⟨S, B, F0, F, ρ, g, Xd, E, hw, kx⟩ => h.run pins s' σ H Q I (s S B F0 F H ρ σ g _ Xd Q E hw (fun r g' F' H' q a b => q F' H' a b) kx)⟩
theorem xa {es : List Expr} {t : TA} {f : EFa} (h : PA X es t) (s : SmA C W t f) : PA X es (tAf C W f) :=
 ⟨fun pos pins s' σ H Q I ⟨S, B, F0, F, ρ, g, Xd, E, hw, kx⟩ => h.run pos pins s' σ H Q I (s S B F0 F H ρ σ g _ Xd Q E hw (fun r g' v F' H' q a b c => q v F' H' a b c) kx)⟩
theorem xi {w : Bool} {tg e : Expr} {t : TI} {f : EFi} (h : PI X tg e t) (s : SmI w C W t f) : PI X tg e (tI C W w f) :=
 ⟨fun pins s' σ H Q I ⟨S, B, F0, F, ρ, g, Xd, E, hw, kx⟩ => h.run pins s' σ H Q I (s S B F0 F H ρ σ g _ Xd Q E hw (fun r g' F' H' J q a b c => q F' H' J a b c) kx)⟩
theorem xss {st : List Stmt} {t : TS} {f : EFs} (h : PSs X st t) (s : SmS C W t f) : PSs X st (tSf C W f) :=
 ⟨fun pins s' σ H D I ⟨S, B, F0, F, ρ, g, E, hw⟩ => h.run pins s' σ H D I (s S B F0 F H ρ σ g D E hw)⟩
end
section
variable {K : Ck}
theorem D8 : OpF K (rB K a8m) P3 := F8 H5 fun _ _ _ _ h q => a7y h q
theorem a7J : OpF K (rB K a8w) a6k := F8 H5 fun _ _ _ _ h q => a7l h q
theorem a1m : OpF K (rB K a95) oMod := F8 H5 fun _ _ _ _ h q => a78 h q
theorem a7f : OpF K (rB K a8A) oDiv := F8 H5 fun _ _ _ _ h q => a7d h q
theorem a9i : a8s K (rN K a91) a7Q := a56 a6M fun _ _ _ h q => neg_of h q
theorem a9D : OpF K (rB K gEq) oEq := F8 H5 fun _ _ _ _ h q => a8P h q
theorem a8e : OpF K (rB K gNe) oNe := F8 H5 fun _ _ _ _ h q => a6X h q
theorem a9Z : OpF K (rB K gGt) oGt := F8 H5 fun _ _ _ _ h q => a4H h q
theorem a09 : OpF K (rB K gIx) oIx := F8 H5 fun _ _ _ _ h q => a97 h q
theorem a6O : a5F K (a5H K) (o1A a55) := Q4 a79 (a0X fun _ _ _ h q => a7D h q)
theorem a1f : a5F K a9J (o1A a1j) := Q4 a6u (a0X fun _ _ _ h q => a6Y h q)
theorem a7G : a5F K a7e (o2A a1A) := Q4 a5w (a6Z fun _ _ _ _ h q => a54 h q)
end
theorem huN {A : Around} {k n : Nat} (hr : Room k A) (h : n ≤ 200) : A.units + n < cLine := by
 have := hr.un
 omega
end Fx

namespace Fx
open PySem L2 PySem.Spec PyProof.Rows
theorem Fun.okGC {P : Program} {w : World} {K : PySem.W.Frag} {mg : Str → Option Value} {bs : Heap} {x qual : Str} {st : Stmt} {f : Addr} {fd : FuncData} {N ps : List Str} {k : Nat} {sp : Sp} (F : L2.Fun K x qual st f fd) (S : FnScope N ps (defScope st)) (ln : ∀ vs H Q E, sp vs H Q E → vs.length = ps.length)
    (body : ∀ (cdv : Value), fd.code = cdv → ∀ (A : Around) (fr : List Env) (s : Shared) (H : Hp) (vs : List V) (Q : VK) (E : XK), A.guards = some [] → Room k (A.deeper (envOfC qual (defScope st) s.heap.objs.size f cdv)) → sp vs H Q E →
      ∃ t, PSs (cxOf (L2.CX P w) P w K mg bs N qual (defScope st) f cdv A fr s H E) (defBody st) t ∧ t { nx := fun _ H' => Q .non H', rt := Q } (start N vs) H) : FnG P w K mg bs (k + 1) f fd ps sp := by
  obtain ⟨oc, od, kV, doc, pm, an, cdv, ct, osl, rfl, lk, hcd⟩ := F.ex
  refine ⟨ln, fun A fr s H args us vs Q E hg hr en hb r want => ?_⟩
  have inK : K.In s.heap := en.mod.kin.keeps fun b o e => (en.bs b o e).1
  have noL : s.heap.NoLimit := en.mod.nolimit.keeps fun b o e => (en.bs b o e).1
  have kinds : ∀ y ∈ ps.zip us, (defScope st).names.lookup y.1 = some .local ∨ ((defScope st).names.lookup y.1 = some .cell ∧ ((cellsFrom (s.heap.objs.size + 1) (defScope st).names []).lookup y.1).isSome = true) := fun ⟨n, v⟩ hy => by
    rcases S.par n (List.of_mem_zip hy).1 with q | q
    · exact Or.inl q
    · exact Or.inr ⟨q, PySem.W.cellsFrom_some _ _ _ (Or.inl q)⟩
  refine codeAny_call_function hr.depth (inK _ _ lk) rfl S.co S.gen rfl (PySem.W.codeRec_of inK hcd) (hb _ _ _ _ (wpAny_newFunctionEnv_cells S.kind kinds fun env he s1 x => ?_))
  subst he
  obtain ⟨t, ht, hq⟩ := body cdv rfl A fr s H vs Q E hg (hr.deeper _) want
  have I0 : Inv (cxOf (L2.CX P w) P w K mg bs N qual (defScope st) f cdv A fr s H E) [] (start N vs) H s1 := inv_start S hr.hd en (ln _ _ _ _ want) r x
  refine ⟨noL.keeps x.toInCall.keep, codeAny_func (wpAny_mono (ht.run [] s1 (start N vs) H _ I0 hq) (fun fl s' out => ?_) fun e s' out => out)⟩
  have close : ∀ {σ' : L2.St} {H' : Hp} {v : V} {u : Value}, Inv (cxOf (L2.CX P w) P w K mg bs N qual (defScope st) f cdv A fr s H E) [] σ' H' s' → RelV v u → Q v H' → CE fr P w H s Q u s' :=
    fun {σ' H' v u} J rv q => ⟨v, H', J.os, J.bare, J.base, J.hok, rv, q⟩
  match fl, out with
  | .ret u, ⟨v, σ', H', J, rv, q⟩ => exact close J rv q
  | .next, ⟨σ', H', J, q⟩ => exact close (v := V.non) (u := Value.none) J rfl q
  | .brk, ⟨_, _, _, q⟩ => exact q.elim
  | .cont, ⟨_, _, _, q⟩ => exact q.elim
theorem Fun.okG {P : Program} {w : World} {K : PySem.W.Frag} {mg : Str → Option Value} {bs : Heap} {x qual : Str} {st : Stmt} {f : Addr} {fd : FuncData} {N ps : List Str} {k : Nat} {sp : Sp} (F : L2.Fun K x qual st f fd) (S : FnScope N ps (defScope st)) (ln : ∀ vs H Q E, sp vs H Q E → vs.length = ps.length)
    (body : ∀ (cdv : Value) (A : Around) (fr : List Env) (s : Shared) (H : Hp) (vs : List V) (Q : VK) (E : XK), A.guards = some [] → Room k (A.deeper (envOfC qual (defScope st) s.heap.objs.size f cdv)) → sp vs H Q E →
      ∃ t, PSs (cxOf (L2.CX P w) P w K mg bs N qual (defScope st) f cdv A fr s H E) (defBody st) t ∧ t { nx := fun _ H' => Q .non H', rt := Q } (start N vs) H) : FnG P w K mg bs (k + 1) f fd ps sp :=
  Fun.okGC F S ln fun cdv _ => body cdv
section
variable {X : Cx} {k : Nat} {f : Addr} {fd : FuncData} {ps ks : List Str} {sp : Sp} {E : L2.St → XK} {x : Str} {p pos : Pos} {e : Expr} {es : List Expr} {kws : List Keyword} {t tk : TA} {gg : List Value → List Value → List Value} {gV : List V → List V → List V}
def a8B (X : Cx) (pins : List (Addr × Obj)) (σ : L2.St) (Q : VK) (r : Result) (s' : Shared) : Prop := match r with
 | .ok (.ret v) => EP X pins σ Q v s'
 | .ok _ => False
 | .error e => X.xe e s'
/-- what stands behind a call -/
theorem FnG.end_ {pins : List (Addr × Obj)} {σ : L2.St} {H : Hp} {s s' : Shared} {Q : VK} {r : Result} (hx : PassesAt (L2.CX X.prog X.w) X σ (E σ)) (I : Inv X pins σ H s) (c : CR (L2.CX X.prog X.w) X.stack X.prog X.w H s Q (E σ) r s') :
  a8B X pins σ Q r s' := by
 match r, c with
 | .error e, c => exact hx pins H s e s' I c
 | .ok (.ret u), c => exact I.after c
 | .ok .next, c => exact c.elim
 | .ok .brk, c => exact c.elim
 | .ok .cont, c => exact c.elim
theorem FnG.run1 {pins : List (Addr × Obj)} {σ : L2.St} {H : Hp} {s : Shared} {Q : VK} {us : List Value} {vs : List V} (F : FnG X.prog X.w X.K X.mg X.base k f fd ps sp) (hg : X.A.guards = some []) (hr : Room k X.A) (hb : Binds X.K fd ps []) (hx : PassesAt (L2.CX X.prog X.w) X σ (E σ))
  (I : Inv X pins σ H s) (r : Vals vs us) (h : sp vs H Q (E σ)) : wpAny (model X.prog X.w) X.A (call (.ref f) us) (EP X pins σ Q) X.xe s := by
 have ll : us.length = ps.length := by rw [← r.length]; exact F.ln _ _ _ _ h
 have bb := hb s us I.kIn (by rw [List.append_nil]; exact ll)
 rw [List.append_nil] at bb
 exact wpAny_call (codeAny_mono (F.go X.A X.stack s H ⟨us, []⟩ us vs Q (E σ) hg hr I.env0 bb r h) fun r s' c => FnG.end_ hx I c)
/-- f(e, ..) -/
theorem pe_callG (F : FnG X.prog X.w X.K X.mg X.base k f fd ps sp) (hg : X.A.guards = some []) (hr : Room k X.A) (gl : Gl X x) (hm : X.mg x = some (.ref f)) (hk : PySem.W.keepIn X.K (.ref f) = true) (hb : Binds X.K fd ps []) (hx : ∀ σ, PassesAt (L2.CX X.prog X.w) X σ (E σ))
  (ha : PA X (e :: es) t) (hdb : (x == ("__debug__" : Str)) = false := by decide) (he : starEach (e :: es) X.env = (false, eval e X.env) :: starEach es X.env := by rfl) (hpl : (backTo pos (starEach es X.env)).any (·.1) = false := by rfl) :
  PE X (.Call (.Name x p) (e :: es) [] pos) (tCallSD sp [] E t) := by
 refine ⟨fun pins s σ H Q I h => wpAny_Call_Name_kw (ld_glob I gl hm ?_ hdb)⟩
 refine PySem.W.callWith_K (h₀ := X.base) I.ok.mod.kin hk (thn (ha.run pos pins s σ H _ I h) fun us s1 ⟨vs, H1, I1, r, q⟩ => ⟨I1.kIn, ?_⟩) he hpl
 have q : sp (vs ++ []) H1 Q (E σ) := q
 rw [List.append_nil] at q
 exact F.run1 hg hr hb (hx σ) I1 r q
end
end Fx

namespace Fx
open PySem L2 PySem.Spec PyProof.Rows

theorem a2f {P : Program} {w : World} {K : PySem.W.Frag} {mg mb : Str → Option Value} {k : Nat} {fa a : Addr} {cs : List (Addr × Addr)} {fd : FuncData} {x : Str} {s₁ : Shared} {us : List Value} {ns : List Int}
  (inK : K.In s₁.heap) (nsG : s₁.heap.Ns mainGlobals mg) (nsB : s₁.heap.Ns builtinsNs mb) (boot : ∀ x : Str, x ≠ "__name__" → mb x = bootBuiltins x) (lim : s₁.heap.NoLimit) (gens : s₁.gens = #[])
  (tabs : ∀ p ∈ cs, s₁.heap.get? p.2 = some { cls := .none, data := .fields #[] }) (offK : ∀ p ∈ cs, K.lookup p.2 = none) (codes : ∀ p ∈ cs, PySem.W.CodeHd s₁.heap p.1 p.2) (a2J : W9 K mg ≠ [] ∧ ∀ p ∈ W9 K mg, p.1 ∈ cs.map (·.2))
  (bmain : ∃ (bm : Addr) (ob : Obj), mg "__builtins__" = some (.ref bm) ∧ bm ≠ builtinsNs ∧ s₁.heap.get? bm = some ob ∧ ob.cls = .type "module" ∧ ob.dict = some builtinsNs ∧ ob.data = .plain)
  (ha : s₁.heap.get? a = some { cls := .type "list", data := .seq us.toArray }) (hi : IntsAre us ns) (hl : ns.length ≤ 63) (hr : Room k callerA)
  (F : ∀ base : Heap, K.In base → base.Ns mainGlobals mg → (∀ p ∈ cs, LamX.TabB base mg p.1 p.2) → FnG P w K mg base k fa fd [x] (a1g ⟨K, mg, w⟩)) (bind : ∀ (s : Shared) (u : Value), BindsTo s fd ⟨[u], []⟩ [(x, u)]) :
  codeAny (model P w) callerA (.call (.ref fa) ⟨[.ref a], []⟩) (fun r s' => r = .ok (.ret (.bool true)) ∧ OldK s₁.heap s'.heap ∧ s'.os = s₁.os ∧ AllBare s'.gens) s₁ := by
 have a8q := vals_ints hi
 have cnt := hi.length
 have big : ns.length ≤ sizeLine := Nat.le_trans hl (by decide)
 have tab_ : ∀ b ∈ cs.map (·.2), ∃ p ∈ cs, p.2 = b := fun b hb => let ⟨p, hp, e⟩ := List.mem_map.mp hb; ⟨p, hp, e⟩
 have tabD : ∀ {b : Addr} {o : Obj}, b ∈ cs.map (·.2) → s₁.heap.get? b = some o → o = { cls := .none, data := .fields #[] } := fun {b o} hb e => by
  obtain ⟨p, hp, rfl⟩ := tab_ b hb
  rw [tabs p hp] at e
  exact (Option.some.inj e).symm
 have aOff : a ∉ cs.map (·.2) := fun z => by
  have := tabD z ha
  cases this
 have main : ∀ H : Hp, (∀ b ∈ cs.map (·.2), H b = some (.tbl #[])) → (∀ b, H b = none ∨ b ∈ cs.map (·.2) ∨ ∃ o xs, H b = some (.frz o (.lst xs))) → a0d ⟨K, mg, w⟩ H a (ns.map V.int) → HOk P w H s₁.heap → (∀ b, H b ≠ none → b = a ∨ b ∈ cs.map (·.2)) → (H a ≠ none → K.lookup a = none) →
   codeAny (model P w) callerA (.call (.ref fa) ⟨[.ref a], []⟩) (fun r s' => r = .ok (.ret (.bool true)) ∧ OldK s₁.heap s'.heap ∧ s'.os = s₁.os ∧ AllBare s'.gens) s₁ := by
  intro H hTab only sq ok alone notK
  have freeB : ∀ {b : Addr} {o : Obj}, s₁.heap.get? b = some o → (∀ xs n, o.data ≠ .seq xs n) → o.data ≠ .fields #[] → H b = none := fun {b o} e d1 d2 => by
   cases q : H b with
   | none => rfl
   | some u =>
    rcases alone b (by rw [q]; exact fun z => by cases z) with rfl | hb
    ·rw [ha] at e
     cases e
     exact (d1 _ _ rfl).elim
    ·rw [tabD hb e] at d2
     exact (d2 rfl).elim
  have freeD : ∀ {b : Addr} {o : Obj} {es : Array DictEntry} {ep : Nat}, s₁.heap.get? b = some o → o.data = .dict es ep → H b = none := fun {b o es ep} e d => freeB e (fun xs n z => by rw [d] at z; cases z) fun z => by rw [d] at z; cases z
  have ns2 : ∀ {b : Addr} {m : Str → Option Value}, s₁.heap.Ns b m → (hidT s₁.heap H).Ns b m := fun {b m} ⟨o, es, ep, e, d, r⟩ => ⟨o, es, ep, hidT_get e (freeD e d), d, r⟩
  have K2 : K.In (hidT s₁.heap H) := fun b o e => hidT_get (inK b o e) (by
   cases q : H b with
   | none => rfl
   | some u =>
    rcases alone b (by rw [q]; exact fun z => by cases z) with rfl | hb
    ·rw [notK (by rw [q]; exact fun z => by cases z)] at e
     cases e
    ·obtain ⟨p, hp, rfl⟩ := tab_ b hb
     rw [offK p hp] at e
     cases e)
  have md : Mod K mg (hidT s₁.heap H) := ⟨K2, ns2 nsG, ⟨mb, ns2 nsB, boot⟩, let ⟨mc, h1, h2⟩ := lim; ⟨mc, ns2 h1, h2⟩⟩
  have TB : ∀ p ∈ cs, LamX.TabB (hidT s₁.heap H) mg p.1 p.2 := fun p hp => by
   have atP := tabs p hp
   refine ⟨?_, ?_, fun z => ?_⟩
   ·obtain ⟨o, us, file, tf, flags, tg, inF, text, tt, e1, r1, r2, r3, rest⟩ := codes p hp
    refine ⟨o, us, file, tf, flags, tg, inF, text, tt, hidT_get e1 (freeB e1 (fun xs n z => by rw [r2] at z; cases z) fun z => ?_), r1, r2, r3, rest⟩
    rw [r2] at z
    cases z
    simp at r3
   ·obtain ⟨bm, ob, b1, b2, b3, b4, b5, b6⟩ := bmain
    refine ⟨bm, ob, b1, b2, fun q => ?_, fun q => ?_, hidT_get b3 (freeB b3 (fun xs n z => by rw [b6] at z; cases z) fun z => by rw [b6] at z; cases z), b4, b5, b6⟩
    ·obtain ⟨o, es, ep, e, hd, _⟩ := nsG
     rw [q, e] at b3
     cases b3
     rw [hd] at b6
     cases b6
    ·rw [q, atP] at b3
     cases b3
     cases b6
   ·obtain ⟨o, es, ep, e, hd, _⟩ := nsG
    rw [z, atP] at e
    cases e
    cases hd
  have en : Env0 P w K mg (hidT s₁.heap H) callerA [] s₁ H := ⟨rfl, md, fun b o e => of_hidT e, Nat.le_of_eq (hidT_size _ _), trivial, fun b hb => absurd (show b ∈ ([] : List Addr) from hb) (by simp), ok, .of_eq gens⟩
  refine codeAny_mono ((F _ K2 (ns2 nsG) TB).go callerA [] s₁ H ⟨[.ref a], []⟩ [.ref a] [.ref a] (fun v _ => v = .bl true) (fun _ _ _ => False) rfl hr en (bind s₁ (.ref a)) (.cons rfl .nil) ⟨a, ns, rfl, sq, hl, ⟨a2J.1, fun p hp => hTab _ (a2J.2 p hp)⟩, fun _ => rfl⟩) fun r s' out => ?_
  match r, out with
  | .error e, out =>
   obtain ⟨_, _, _, _, _, _, _, _, _, _, _, _, z⟩ := out
   exact z.elim
  | .ok .next, out => exact out.elim
  | .ok .brk, out => exact out.elim
  | .ok .cont, out => exact out.elim
  | .ok (.ret u), ⟨v, H', os, bare, un, ok', rv, q⟩ =>
   have q : v = .bl true := q
   subst q
   obtain rfl : u = Value.bool true := rv
   have key : ∀ b o, b ∉ cs.map (·.2) → s₁.heap.get? b = some o → s'.heap.get? b = some o := fun b o nb e => by
    cases q : H b with
    | none => exact un.keep b o e q (fun z => absurd (show b ∈ ([] : List Addr) from z) (by simp)) (by simp)
    | some u =>
     rcases only b with z | z | ⟨ob, xs, z⟩
     ·rw [q] at z; cases z
     ·exact absurd z nb
     ·have e1 := (ok b _ z).1
      have e2 := (ok' b _ (un.frzs b ob _ z)).1
      rw [e] at e1
      cases e1
      exact e2
   have more_ : ∀ b ∈ cs.map (·.2), ∃ more : Array Value, s'.heap.get? b = some { cls := .none, data := .fields more } := fun b hb => by
    obtain ⟨more, z⟩ := un.tbls b #[] (hTab b hb)
    exact ⟨_, ok' b _ z⟩
   refine ⟨rfl, ⟨fun b o e => ?_, fun b o e => ?_⟩, os, bare⟩
   ·by_cases hb : b ∈ cs.map (·.2)
    ·obtain ⟨more, hm⟩ := more_ b hb
     have eo := tabD hb e
     subst eo
     obtain ⟨p, hp, rfl⟩ := tab_ b hb
     exact .inr (.inl ⟨((codes p hp).tab (tabs p hp)).isCodeTable, rfl, #[], more, rfl, by rw [Array.empty_append]; exact hm⟩)
    ·exact .inl (key b o hb e)
   ·by_cases hb : b ∈ cs.map (·.2)
    ·obtain ⟨more, hm⟩ := more_ b hb
     exact ⟨_, hm⟩
    ·exact ⟨o, key b o hb e⟩
 cases hk : K.lookup a with
 | some o =>
  have e := inK a o hk
  rw [ha] at e
  cases e
  refine main (fun b => if b ∈ cs.map (·.2) then some (.tbl #[]) else none) (fun b hb => if_pos hb) (fun b => ?_) (.inr ⟨us.toArray, _, hk, by rw [List.size_toArray, cnt]; exact big, by simpa using a8q⟩) (fun b u z => ?_) (fun b z => ?_) fun z => absurd (if_neg aOff) z
  ·by_cases hb : b ∈ cs.map (·.2)
   ·exact .inr (.inl hb)
   ·exact .inl (if_neg hb)
  ·by_cases hb : b ∈ cs.map (·.2)
   ·have z := (if_pos hb).symm.trans z
    cases z
    obtain ⟨p, hp, rfl⟩ := tab_ b hb
    exact tabs p hp
   ·have z := (if_neg hb).symm.trans z
    cases z
  ·by_cases hb : b ∈ cs.map (·.2)
   ·exact .inr hb
   ·exact absurd (if_neg hb) z
 | none =>
  refine main (fun b => if b = a then some (.frz { cls := .type "list", data := .seq us.toArray } (.lst (ns.map V.int))) else if b ∈ cs.map (·.2) then some (.tbl #[]) else none) (fun b hb => (if_neg (show ¬ b = a from fun z => aOff (by rw [← z]; exact hb))).trans (if_pos hb)) (fun b => ?_) (.inl (.inr ⟨_, if_pos rfl⟩)) (fun b u z => ?_) (fun b z => ?_) fun _ => hk
  ·by_cases hb : b = a
   ·exact .inr (.inr ⟨_, _, if_pos hb⟩)
   ·by_cases h2 : b ∈ cs.map (·.2)
    ·exact .inr (.inl h2)
    ·exact .inl ((if_neg hb).trans (if_neg h2))
  ·by_cases hb : b = a
   ·have z := (if_pos hb).symm.trans z
    cases z
    subst hb
    exact ⟨ha, by rw [List.length_map]; exact big, us, _, a8q, ha⟩
   ·have z := (if_neg hb).symm.trans z
    by_cases h2 : b ∈ cs.map (·.2)
    ·have z := (if_pos h2).symm.trans z
     cases z
     obtain ⟨p, hp, rfl⟩ := tab_ b h2
     exact tabs p hp
    ·have z := (if_neg h2).symm.trans z
     cases z
  ·by_cases hb : b = a
   ·exact .inl hb
   ·by_cases h2 : b ∈ cs.map (·.2)
    ·exact .inr h2
    ·exact absurd ((if_neg hb).trans (if_neg h2)) z

end Fx

namespace Fx
open PySem L2 PySem.Spec PyProof.Rows
theorem RpA.erase {K : Ck} {F : Hp} : ∀ {vs : List V} {ds : List PyData} (n : Nat), RpA K F vs ds → RpA K F (vs.eraseIdx n) (ds.eraseIdx n)
 | _, _, _, .nil => .nil
 | _, _, 0, .cons _ t => t
 | _, _, n + 1, .cons r t => .cons r (RpA.erase n t)
end Fx

namespace Fx
open PySem L2 RZ

def a81 (w : Bool) (K : Ck) (W : WX) (t : TI) (f : EFi) : Prop := ∀ (S : Sta) (B F0 F H : Hp) (ρ : List SD) (σ : L2.St) (g : Gs) (Pd : List PyData → Gs → Prop) (Xd : PyData → Gs → Prop) (Rr : It → Hp → Prop), g9 K S B F0 F H ρ σ g → (f ρ g).wp Pd Xd →
 (∀ ds g' F' H' J, Pd ds g' → ds.length ≤ sizeLine → Ext S F H F' H' → S.J g' H' → a4O w K S F' J ds → Rr J H') →
 (∀ x g' cls d F' H', Xd x g' → Ext S F H F' H' → S.J g' H' → ExcRep K S H F' H' cls d x → W cls d σ H') → t σ H Rr
def a1b (o : List AV → Option (List PyData)) (as : List AV) : Option (List PyData) := match o as with
 | some ds => if ds.length ≤ sizeLine then some ds else none
 | none => none
theorem a4j {o : List AV → Option (List PyData)} {as : List AV} {ds : List PyData} (h : a1b o as = some ds) : o as = some ds ∧ ds.length ≤ sizeLine := by
 unfold a1b at h
 split at h
 ·rename_i es e
  split at h
  ·cases h; exact ⟨e, ‹_›⟩
  ·cases h
 ·cases h
section
variable {K : Ck} {W : WX}
theorem a3f {o : List AV → Option (List PyData)} {ti : TA → TI} {t : TA} {fa : EFa} (base : ∀ {fa : EFa}, SmA K W t fa → SmI false K W (ti t) (iaB o fa)) (h : SmA K W t fa) : a81 false K W (ti t) (iaB (a1b o) fa) := by
 intro S B F0 F H ρ σ g Pd Xd Rr E hf k kx
 refine base h S B F0 F H ρ σ g (fun ds g' => Pd ds g' ∧ ds.length ≤ sizeLine) Xd Rr E ?_ (fun ds g' F' H' J q e j it => k ds g' F' H' J q.1 q.2 e j it) kx
 refine R.wp_bind.mpr (R.wp_imp (R.wp_bind.mp hf) (fun as g1 q => ?_) fun _ _ z => z)
 obtain ⟨ds, hd, q⟩ := R.wp_ofO q
 obtain ⟨h1, h2⟩ := a4j hd
 rw [h1]
 exact ⟨q, h2⟩
def X6 (fe : EF) : List SD → List PyData → Gs → R (List PyData) := fun ρ acc g => (v6 fe ρ g).bind fun y g1 => .ok (acc ++ [y]) g1
def a73 (fi : EFi) (fg : EFg) (ft : EFt) (fe : EF) (vs : List Nat) : EF := fCp .nl [] fi fg ft (X6 fe) vs
theorem a24 {fg : EFg} {ft : EFt} {fe : EF} {ρ : List SD} : ∀ (ds acc : List PyData) (g : Gs), acc.length + ds.length ≤ sizeLine →
  cpR (A0 fg ft (X6 fe) ρ) ds acc g = cpR (A0 fg ft (a5t fe) ρ) ds acc g
 | [], _, _, _ => rfl
 | d :: ds, acc, g, hz => by
  have hz' : acc.length + (ds.length + 1) ≤ sizeLine := hz
  have key : ∀ acc' g', acc'.length ≤ acc.length + 1 → cpR (A0 fg ft (X6 fe) ρ) ds acc' g' = cpR (A0 fg ft (a5t fe) ρ) ds acc' g' := fun acc' g' h => a24 ds acc' g' (by omega)
  rw [cpR, cpR]
  unfold A0
  cases fg d ρ with
  | none => rfl
  | some ρ2 =>
   show ((ft ρ2 g).bind _).bind _ = ((ft ρ2 g).bind _).bind _
   cases ft ρ2 g with
   | bad => rfl
   | exc x g' => rfl
   | ok b g2 =>
    cases b with
    | false => exact key acc g2 (by omega)
    | true =>
     show (X6 fe ρ2 acc g2).bind _ = (a5t fe ρ2 acc g2).bind _
     unfold X6 a5t
     cases v6 fe ρ2 g2 with
     | bad => rfl
     | exc x g' => rfl
     | ok y g3 =>
      show _ = (if acc.length < sizeLine then R.ok (acc ++ [y]) g3 else .bad).bind _
      rw [if_pos (by omega)]
      exact key _ g3 (by simp)
theorem a7x {wi : TI} {tg : TG} {tt : TT} {te : TE} {fi : EFi} {fg : EFg} {ft : EFt} {fe : EF} {is vs : List Nat} {w : Bool} (hi : a81 w K W wi fi) (hg : SmG w K tg is fg) (ht : SmT K W0 tt ft) (he : Sm K W0 te fe) (hv : ∀ i ∈ is, i ∈ vs) : Sm K W (tLc wi tg tt te vs) (a73 fi fg ft fe vs) := by
 intro S B F0 F H ρ σ g Pd Xd Q E hf k kx
 refine hi S B F0 F H ρ σ g _ Xd _ E (R.wp_bind.mp hf) (fun ds g1 F1 H1 J q hz e j it => ?_) kx
 have E1 := E.ext e j
 have q := R.wp_nox.mp (R.wp_bind.mp q)
 rw [a24 ds [] g1 (by simpa using hz)] at q
 intro D hD
 have nM : ¬ S.M D := fun m => E1.okh.mt D m hD
 have n := Ext.own (S := S) (o := .lst []) E1.sub hD
 have j1 : S.J g1 (upd H1 D (.lst [])) := Fx.J.new j hD
 refine a0G (C := a6G K) (BODY := fun σ2 H3 Nx => te σ2 H3 fun y H4 => ∃ acc, H4 D = some (.lst acc) ∧ acc.length < sizeLine ∧ Nx (upd H4 D (.lst (acc ++ [y])))) hg ht hv nM (E1.free hD) (E1.ext n j1) (Y5 E1 hD) (fun F' H' le sub => it F' H' le sub)
  (fun acc gc Fc Hc ρ2 σ2 Pd Nx L E2 _ h k => a7b he nM L E2 h k) ⟨⟨fun _ _ _ q _ => q, fun _ _ => rfl, Le.refl _, n.sub, (by rw [upd_same]; exact fun z => by cases z), fun t => t⟩, j1, ⟨_, upd_same, [], rfl, .nil⟩, E1.sub.free hD⟩ q fun acc gc Fc Hc L q => ?_
 obtain ⟨e2, rv⟩ := a4P e j hD nM L
 exact k _ gc _ Fc Hc q e2 L.j rv
def tIZ (K : Ck) (W : WX) (w : Bool) (f : EFi) : TI := fun σ H Rr => ∃ (S : Sta) (B F0 F : Hp) (ρ : List SD) (g : Gs) (Xd : PyData → Gs → Prop), g9 K S B F0 F H ρ σ g ∧ (f ρ g).wp (fun ds g' => ds.length ≤ sizeLine → ∀ F' H' J, Ext S F H F' H' → S.J g' H' → a4O w K S F' J ds → Rr J H') Xd ∧ XOk K W S F H σ Xd
theorem a6r {w : Bool} {f : EFi} : a81 w K W (tIZ K W w f) f := fun S B F0 F H ρ σ g Pd Xd Q E h k kx => ⟨S, B, F0, F, ρ, g, Xd, E, R.wp_imp h (fun r g' q hz F' H' J a b c => k r g' F' H' J q hz a b c) fun _ _ z => z, kx⟩
end
theorem xiZ {X : Cx} {C : Ck} {W : WX} {w : Bool} {tg e : Expr} {t : TI} {f : EFi} (h : PI X tg e t) (s : a81 w C W t f) : PI X tg e (tIZ C W w f) :=
 ⟨fun pins s' σ H Q I ⟨S, B, F0, F, ρ, g, Xd, E, hw, kx⟩ => h.run pins s' σ H Q I (s S B F0 F H ρ σ g _ Xd Q E hw (fun r g' F' H' J q hz a b c => q hz F' H' J a b c) kx)⟩
end Fx

namespace Fx
open PySem L2

theorem a4i {r : RV} (h : a33 r = true) (g : Gs) : a4n r g = .ok (.d (frz r)) g := by
 cases r with
 | d x => rfl
 | nl xs => rfl
 | nd t ks => cases t <;> rfl
 | o v => cases h

def eL {α : Type} (e : α → PyData) (xs : List α) : PyData := .list (xs.map e)
def eP {α β : Type} (e : α → PyData) (e' : β → PyData) (x : α × β) : PyData := .tuple [e x.1, e' x.2]
def eO {α : Type} (e : α → PyData) : Option α → PyData
 | none => .none
 | some a => e a
def eU : Unit → PyData := fun _ => .none
def kvP {α β : Type} (e : α → PyData) (e' : β → PyData) (x : α × β) : PyData × PyData := (e x.1, e' x.2)
def eD {α β : Type} (e : α → PyData) (e' : β → PyData) (ks : List (α × β)) : PyData := .dict (ks.map (kvP e e'))

open Classical in
noncomputable def R.asrt {α : Type} (z : Prop) (m : R α) : R α := if z then m else .bad
theorem RX.asrt {α β : Type} {m : R β} {M : R α} {w : α → β} {z : Prop} (h : z → RX m M w) : RX m (R.asrt z M) w := by
 unfold R.asrt
 split
 ·exact h ‹_›
 ·trivial
theorem R.wp_asrt {α : Type} {z : Prop} {m : R α} {P : α → Gs → Prop} {X : PyData → Gs → Prop} (hz : z) (h : m.wp P X) : (R.asrt z m).wp P X := by
 unfold R.asrt
 rw [if_pos hz]
 exact h
open Classical in
/-- a def's own run, read back -/
noncomputable def a2N {α : Type} (m : R RV) (w : α → RV) : R α := match m with
 | .ok r g => if h : ∃ a, w a = r then .ok (Classical.choose h) g else .bad
 | .exc x g => .exc x g
 | .bad => .bad
theorem a3u {α : Type} (m : R RV) (w : α → RV) : RX m (a2N m w) w := by
 unfold a2N
 cases m with
 | ok r g =>
  by_cases h : ∃ a, w a = r
  ·simp only [dif_pos h]
   show R.ok r g = .ok (w _) g
   rw [Classical.choose_spec h]
  ·simp only [dif_neg h]; trivial
 | exc x g => rfl
 | bad => trivial
theorem a3z {α : Type} {m : R RV} {w : α → RV} {a : α} {g : Gs} {P : α → Gs → Prop} {X : PyData → Gs → Prop} (inj : ∀ a b, w a = w b → a = b) (h : m = .ok (w a) g) (p : P a g) : (a2N m w).wp P X := by
 unfold a2N
 rw [h]
 have hx : ∃ b, w b = w a := ⟨a, rfl⟩
 simp only [dif_pos hx]
 rw [inj _ _ (Classical.choose_spec hx)]
 exact p

section
variable {ρ : List SD} {g g1 : Gs} {fa fb fc fe f : EF} {r ra rb rc : RV}
theorem v_var {i : Nat} {x : PyData} (h : ρ[i]? = some (.d x)) : k4 i ρ g = .ok (.d x) g := by unfold k4; rw [h]; rfl
theorem a4p {i : Nat} {v : V} (h : ρ[i]? = some (.o v)) : k4 i ρ g = .ok (.o v) g := by unfold k4; rw [h]; rfl
theorem v_c {x : PyData} : fC x ρ g = .ok (.d x) g := rfl
variable {xa xb xc : PyData}
theorem G6 {o : O2} (ha : v6 fa ρ g = .ok xa g) (hb : v6 fb ρ g = .ok xb g) (ho : o xa xb = some r) : fOp o fa fb ρ g = .ok r g := by
 unfold fOp
 rw [ha]
 show ((v6 fb ρ g).bind _) = _
 rw [hb]
 show R.ofO (o _ _) g = _
 rw [ho]; rfl
theorem a9R {o : O1} (ha : v6 fa ρ g = .ok xa g) (ho : o xa = some r) : fUn o fa ρ g = .ok r g := by
 unfold fUn
 rw [ha]
 show R.ofO (o _) g = _
 rw [ho]; rfl
theorem O9 {b : Bool} (h : f ρ g = .ok (.d (.bool b)) g) : u5 f ρ g = .ok b g := by unfold u5; rw [h]; rfl
theorem v_or {ta tb : EFt} {a b : Bool} (ha : ta ρ g = .ok a g) (hb : a = false → tb ρ g = .ok b g) : fOr ta tb ρ g = .ok (a || b) g := by
 unfold fOr
 rw [ha]
 cases a with
 | true => rfl
 | false => exact hb rfl
theorem v_not {ta : EFt} {a : Bool} (ha : ta ρ g = .ok a g) : a0a ta ρ g = .ok (!a) g := by unfold a0a; rw [ha]; rfl
theorem g7 : m7 ρ g = .ok [] g := rfl
theorem a0x {fr : EFa} {as : List AV} (h : f ρ g = .ok r g) (d : a33 r = true) (t : fr ρ g = .ok as g) : f9 f fr ρ g = .ok (.d (frz r) :: as) g := by
 unfold f9
 rw [h]
 show ((a4n r g).bind _) = _
 rw [a4i d]
 show ((fr ρ g).bind _) = _
 rw [t]; rfl
theorem i2 {fr : EFa} {as : List AV} {x : PyData} (h : f ρ g = .ok (.d x) g) (t : fr ρ g = .ok as g) : f9 f fr ρ g = .ok (.d x :: as) g := a0x h rfl t
theorem a3s {fr : EFa} {as : List AV} {x : List PyData} (h : f ρ g = .ok (.nl x) g) (t : fr ρ g = .ok as g) : f9 f fr ρ g = .ok (.d (.list x) :: as) g := a0x h rfl t
theorem a9K {fr : EFa} {as : List AV} {x : List (PyData × PyData)} (h : f ρ g = .ok (.nd false x) g) (t : fr ρ g = .ok as g) : f9 f fr ρ g = .ok (.d (.dict x) :: as) g := a0x h rfl t
theorem a0K {fr : EFa} {as : List AV} {v : V} (h : f ρ g = .ok (.o v) g) (t : fr ρ g = .ok as g) : f9 f fr ρ g = .ok (.o v :: as) g := by
 unfold f9
 rw [h]
 show ((fr ρ g).bind _) = _
 rw [t]; rfl
theorem t8 {fs : EFa} {as : List AV} {ds : List PyData} (h : fs ρ g = .ok as g) (hl : Nat.ble as.length 1000 = true) (hd : U1 as = some ds) : z7 fs ρ g = .ok (.d (.tuple ds)) g := by
 unfold z7
 rw [h]
 show ((H6 as g).bind _) = _
 unfold H6
 rw [if_pos (Nat.le_trans (Nat.le_of_ble_eq_true hl) (by decide)), hd]; rfl
theorem z5 {fs : EFa} {as : List AV} {ds : List PyData} (h : fs ρ g = .ok as g) (hl : Nat.ble as.length 1000 = true) (hd : U1 as = some ds) : E6 fs ρ g = .ok (.nl ds) g := by
 unfold E6
 rw [h]
 show ((H6 as g).bind _) = _
 unfold H6
 rw [if_pos (Nat.le_trans (Nat.le_of_ble_eq_true hl) (by decide)), hd]; rfl
theorem a6l {o : OA} {fs : EFa} {as : List AV} (h : fs ρ g = .ok as g) (ho : o as = some r) : fCB o fs ρ g = .ok r g := by
 unfold fCB
 rw [h]
 show R.ofO (o as) g = _
 rw [ho]; rfl
theorem a2l {F : a1s} {fs : EFa} {as : List AV} (h : fs ρ g = .ok as g) (ho : F as g = .ok r g) : C0 F fs ρ g = .ok r g := by
 unfold C0
 rw [h]
 exact ho
theorem a8K {o : List AV → Option (List PyData)} {fs : EFa} {as : List AV} {ds : List PyData} (h : fs ρ g = .ok as g) (ho : o as = some ds) : iaB o fs ρ g = .ok ds g := by
 unfold iaB
 rw [h]
 show R.ofO (o as) g = _
 rw [ho]; rfl
theorem a1J {α : Type} {e : α → PyData} {c : α → Bool} {y : α → PyData} {fg : EFg} {ft : EFt} :
  ∀ (xs : List α) (acc : List PyData), (∀ x ∈ xs, ∃ ρ2, fg (e x) ρ = some ρ2 ∧ ft ρ2 g = .ok (c x) g ∧ (c x = true → v6 fe ρ2 g = .ok (y x) g)) →
   cpR (A0 fg ft (X6 fe) ρ) (xs.map e) acc g = .ok (acc ++ (xs.filter c).map y) g
 | [], acc, _ => by simp [cpR]
 | x :: xs, acc, h => by
  obtain ⟨ρ2, h1, h2, h3⟩ := h x (by simp)
  rw [List.map_cons, cpR]
  have key : A0 fg ft (X6 fe) ρ (e x) acc g = .ok (if c x = true then acc ++ [y x] else acc) g := by
   unfold A0
   rw [h1]
   show (ft ρ2 g).bind _ = _
   rw [h2]
   show (if c x = true then X6 fe ρ2 acc g else .ok acc g) = _
   by_cases q : c x = true
   ·rw [if_pos q, if_pos q]
    unfold X6
    rw [h3 q]; rfl
   ·rw [if_neg q, if_neg q]
  rw [key]
  show cpR _ (xs.map e) _ g = _
  by_cases q : c x = true
  ·rw [if_pos q, a1J xs _ (fun x hx => h x (by simp [hx])), List.filter_cons_of_pos q]
   simp
  ·rw [if_neg q, a1J xs _ (fun x hx => h x (by simp [hx])), List.filter_cons_of_neg (by simpa using q)]
/-- [h for x in xs if c] -/
theorem a9O {α β : Type} {xs : List α} {e : α → PyData} {c : α → Bool} {h : α → β} {e' : β → PyData} {fi : EFi} {fg : EFg} {ft : EFt} {vs : List Nat} (hi : fi ρ g = .ok (xs.map e) g)
  (hb : ∀ x ∈ xs, ∃ ρ2, fg (e x) (K8 ρ vs) = some ρ2 ∧ ft ρ2 g = .ok (c x) g ∧ (c x = true → v6 fe ρ2 g = .ok (e' (h x)) g)) : a73 fi fg ft fe vs ρ g = .ok (.nl (((xs.filter c).map h).map e')) g := by
 unfold a73 fCp
 rw [hi]
 show ((cpR _ (xs.map e) [] g).nox.bind _) = _
 rw [a1J xs [] (y := fun x => e' (h x)) hb, List.map_map]
 rfl
/-- without a test -/
theorem a8Z {α β : Type} {xs : List α} {e : α → PyData} {h : α → β} {e' : β → PyData} {fi : EFi} {fg : EFg} {vs : List Nat} (hi : fi ρ g = .ok (xs.map e) g)
  (hb : ∀ x ∈ xs, ∃ ρ2, fg (e x) (K8 ρ vs) = some ρ2 ∧ v6 fe ρ2 g = .ok (e' (h x)) g) : a73 fi fg a6c fe vs ρ g = .ok (.nl ((xs.map h).map e')) g := by
 have := a9O (ρ := ρ) (g := g) (fe := fe) (c := fun _ => true) (h := h) (e' := e') (ft := a6c) (vs := vs) hi fun x hx => by
  obtain ⟨ρ2, h1, h2⟩ := hb x hx
  exact ⟨ρ2, h1, rfl, fun _ => h2⟩
 rw [this, List.filter_eq_self.mpr fun _ _ => rfl]
def A6 {α β : Type} (v : α) (k : α → β) : β := k v
end
end Fx

namespace Fx
open PySem L2

/-- a def's end -/
def Rt {γ : Type} (w : γ → RV) (v : γ) (o : Out) : Prop := o = .rt (w v)
def Nx {σ : Type} (Rσ : σ → List SD → Prop) (s : σ) (o : Out) : Prop := ∃ ρ', (o = .nx ρ' ∨ o = .ct ρ') ∧ Rσ s ρ'
def Rb {β σ : Type} (w : β → RV) (Rσ : σ → List SD → Prop) (r : Bl β σ) (o : Out) : Prop := match r with
 | .ret b => o = .rt (w b)
 | .nx s => ∃ ρ', (o = .nx ρ' ∨ o = .ct ρ') ∧ Rσ s ρ'
section
variable {γ : Type} {ρ : List SD} {g : Gs} {b t e h : EFs} {fe : EF} {M : R γ} {P : γ → Out → Prop}
theorem a38 (b : EFs) (ρ : List SD) (g : Gs) : o8 b A7 ρ g = b ρ g := by
 unfold o8
 cases b ρ g with
 | ok o g' => cases o <;> rfl
 | exc x g' => rfl
 | bad => rfl
theorem a23 (a b h : EFs) (ρ : List SD) (g : Gs) : o8 (o8 a b) h ρ g = o8 a (o8 b h) ρ g := by
 unfold o8
 cases a ρ g with
 | ok o g' => cases o <;> rfl
 | exc x g' => rfl
 | bad => rfl
theorem S7 (k : RG (o8 b A7) ρ g M P) : RG b ρ g M P := RG.eq (a38 b ρ g).symm k
theorem o4 (k : RG (o8 t (o8 b h)) ρ g M P) : RG (o8 (o8 t b) h) ρ g M P := RG.eq (a23 t b h ρ g) k
theorem a4D {c : γ} (p : P c (.nx ρ)) : RG A7 ρ g (.ok c g) P := ⟨_, rfl, p⟩
theorem R8 (k : RG h ρ g M P) : RG (o8 A7 h) ρ g M P := RG.eq rfl k
theorem Z4 {v : γ} {r : RV} (q : fe ρ g = .ok r g) (p : P v (.rt r)) : RG (o8 (P4 fe) h) ρ g (.ok v g) P := by
 refine ⟨_, ?_, p⟩
 unfold o8 P4
 rw [stx_ok q]; rfl
theorem T8 {α : Type} {fg : EFg} {w : α → PyData} {v : α} {V : α → γ} {Z : α → Prop} {S : α → List SD} (q : v6 fe ρ g = .ok (w v) g) (q2 : ∀ x, fg (w x) ρ = some (S x)) (hz : A6 v Z) (k : ∀ x, Z x → RG h (S x) g (.ok (V x) g) P) : RG (o8 (E7 fe fg) h) ρ g (.ok (A6 v V) g) P := by
 refine RG.eq (t := fun _ g => h (S v) g) ?_ (k v hz)
 unfold o8 E7
 rw [stx_ok q, q2]; rfl
theorem a8U {fg : EFg} {x : PyData} {ρ' : List SD} (q : v6 fe ρ g = .ok x g) (q2 : fg x ρ = some ρ') (k : RG h ρ' g M P) : RG (o8 (E7 fe fg) h) ρ g M P := by
 refine RG.eq (t := fun _ g => h ρ' g) ?_ k
 unfold o8 E7
 rw [stx_ok q, q2]; rfl
theorem a4E {ft : EFt} {c : Bool} (q : ft ρ g = .ok c g) : o8 (T7 ft t e) h ρ g = (if c = true then o8 t h ρ g else o8 e h ρ g) := by
 unfold o8 T7
 rw [stx_ok q]
 cases c <;> rfl
theorem a9x {ft : EFt} {c : Bool} {v1 v2 : γ} (q : ft ρ g = .ok c g) (k1 : c = true → RG (o8 t h) ρ g (.ok v1 g) P) (k2 : c = false → RG (o8 e h) ρ g (.ok v2 g) P) : RG (o8 (T7 ft t e) h) ρ g (.ok (if c = true then v1 else v2) g) P := by
 unfold RG
 rw [a4E q]
 cases c with
 | true => exact k1 rfl
 | false => exact k2 rfl
theorem a6t {fg : EFg} {fb : EFs} {d : PyData} {ds : List PyData} {ρ1 ρ2 : List SD} {o : Out} (h1 : fg d ρ = some ρ1) (h2 : fb ρ1 g = .ok o g) (ho : o = .nx ρ2 ∨ o = .ct ρ2) : forR fg fb (d :: ds) ρ g = forR fg fb ds ρ2 g := by
 rw [forR, h1]
 show (fb ρ1 g).bind _ = _
 rw [h2]
 rcases ho with rfl | rfl <;> rfl
/-- a loop that may return -/
def N9 {α β σ : Type} (f : σ → α → Bl β σ) : List α → σ → Bl β σ
 | [], s => .nx s
 | x :: xs, s => match f s x with
  | .ret b => .ret b
  | .nx s' => N9 f xs s'
def a18 {α β σ : Type} (z : σ → α → Prop) (f : σ → α → Bl β σ) : List α → σ → Prop
 | [], _ => True
 | x :: xs, s => z s x ∧ match f s x with
  | .ret _ => True
  | .nx s' => a18 z f xs s'
theorem a0Q {α β σ : Type} {w : β → RV} {ea : α → PyData} {fg : EFg} {fb : EFs} {Rσ : σ → List SD → Prop} {z : σ → α → Prop} {f : σ → α → Bl β σ}
  (hb : ∀ s x ρ, Rσ s ρ → z s x → ∃ ρ1, fg (ea x) ρ = some ρ1 ∧ RG fb ρ1 g (.ok (f s x) g) (Rb w Rσ)) :
  ∀ (xs : List α) (s : σ) (ρ : List SD), Rσ s ρ → a18 z f xs s → ∃ o, forR fg fb (xs.map ea) ρ g = .ok o g ∧ (match N9 f xs s with
   | .ret b => o = .rt (w b)
   | .nx s' => ∃ ρ', o = .nx ρ' ∧ Rσ s' ρ')
 | [], s, ρ, hr, _ => ⟨_, rfl, ρ, rfl, hr⟩
 | x :: xs, s, ρ, hr, hz => by
  obtain ⟨ρ1, h1, o, h2, h3⟩ := hb s x ρ hr hz.1
  have hz2 := hz.2
  unfold N9
  cases e : f s x with
  | ret b =>
   rw [e] at h3
   refine ⟨_, ?_, (rfl : Out.rt (w b) = _)⟩
   rw [List.map_cons, forR, h1]
   show (fb ρ1 g).bind _ = _
   rw [h2, h3]; rfl
  | nx s' =>
   rw [e] at h3 hz2
   obtain ⟨ρ2, ho, hr2⟩ := h3
   obtain ⟨o3, h4, h5⟩ := a0Q hb xs s' ρ2 hr2 hz2
   exact ⟨o3, (a6t h1 h2 ho).trans h4, h5⟩
theorem a7j {α β σ : Type} {w : β → RV} {xs : List α} {ea : α → PyData} {fi : EFi} {fg : EFg} {fb : EFs} {z : σ → α → Prop} {f : σ → α → Bl β σ} {s0 : σ} {vr : β → γ} {vn : σ → γ} (Rσ : σ → List SD → Prop) (hi : fi ρ g = .ok (xs.map ea) g) (h0 : Rσ s0 ρ) (hz : a18 z f xs s0)
  (hb : ∀ s x ρ, Rσ s ρ → z s x → ∃ ρ1, fg (ea x) ρ = some ρ1 ∧ RG fb ρ1 g (.ok (f s x) g) (Rb w Rσ)) (kr : ∀ b, N9 f xs s0 = .ret b → P (vr b) (.rt (w b))) (k : ∀ s ρ', N9 f xs s0 = .nx s → Rσ s ρ' → RG h ρ' g (.ok (vn s) g) P) :
  RG (o8 (a2I fi fg fb) h) ρ g (.ok (match N9 f xs s0 with | .ret b => vr b | .nx s => vn s) g) P := by
 obtain ⟨o, h1, h2⟩ := a0Q hb xs s0 ρ h0 hz
 cases e : N9 f xs s0 with
 | ret b =>
  rw [e] at h2
  subst h2
  refine ⟨_, ?_, kr b e⟩
  unfold o8 a2I
  rw [stx_ok hi, h1]; rfl
 | nx s =>
  rw [e] at h2
  obtain ⟨ρ', rfl, hr⟩ := h2
  refine RG.eq (t := fun _ g => h ρ' g) ?_ (k s ρ' e hr)
  unfold o8 a2I
  rw [stx_ok hi, h1]; rfl
end
theorem a6K {γ : Type} {np n : Nat} {b : EFs} {as : List AV} {g : Gs} {v : γ} {w : γ → RV} (hl : as.length = np) (k : RG b (slots n as) g (.ok v g) (Rt w)) : fnR np n b as g = .ok (w v) g := by
 obtain ⟨o, h1, h2⟩ := k
 unfold fnR
 rw [if_pos hl, h1, show o = .rt (w v) from h2]; rfl
theorem a6T {γ : Type} {np n : Nat} {b : EFs} {as : List AV} {g : Gs} {M : R γ} {w : γ → RV} (hl : as.length = np) (k : RG b (slots n as) g M (Rt w)) : RX (fnR np n b as g) M w := by
 unfold fnR
 rw [if_pos hl]
 cases M with
 | ok v g' =>
  obtain ⟨o, h1, h2⟩ := k
  rw [h1, show o = .rt (w v) from h2]; rfl
 | exc x g' =>
  obtain ⟨ρ', h1⟩ := k
  rw [h1]; rfl
 | bad => trivial
end Fx

namespace Fx
open PySem L2

section
variable {α β γ : Type} [DecidableEq α] [DecidableEq β] [DecidableEq γ] {n m k : Nat} {e : α → PyData} {e' : β → PyData} {e'' : γ → PyData}
theorem a6N : EqK 0 PyData.int := ⟨fun a => by simp [PyData.plain], fun a => by simp [PyData.depth], fun a b => by simp only [PyData.eqv]; by_cases c : a = b <;> simp [c]⟩
theorem a1x : EqK 0 PyData.str := ⟨fun a => by simp [PyData.plain], fun a => by simp [PyData.depth], fun a b => by simp only [PyData.eqv]; by_cases c : a = b <;> simp [c]⟩
theorem a52 : EqK 0 PyData.bool := ⟨fun a => by simp [PyData.plain], fun a => by simp [PyData.depth], fun a b => by cases a <;> cases b <;> simp [PyData.eqv]⟩
theorem Q0 (h : ∀ a, (e a).plain = true) : ∀ xs : List α, PyData.plainAll (xs.map e) = true
 | [] => rfl
 | x :: xs => by rw [List.map_cons, PyData.plainAll, h, Q0 h xs]; rfl
theorem R3 (h : ∀ a, (e a).depth ≤ n) : ∀ xs : List α, PyData.depthAll (xs.map e) ≤ n
 | [] => Nat.zero_le _
 | x :: xs => by
  rw [List.map_cons, PyData.depthAll]
  have := h x
  have := R3 h xs
  omega
theorem a03 (h : ∀ a b, PyData.eqv (e a) (e b) = decide (a = b)) : ∀ xs ys : List α, PyData.eqvAll (xs.map e) (ys.map e) = decide (xs = ys)
 | [], [] => by simp [PyData.eqvAll]
 | [], y :: ys => by simp [PyData.eqvAll]
 | x :: xs, [] => by simp [PyData.eqvAll]
 | x :: xs, y :: ys => by
  rw [List.map_cons, List.map_cons, PyData.eqvAll, h, a03 h xs ys]
  by_cases c : x = y <;> by_cases d : xs = ys <;> simp [c, d]
theorem b06 (h : EqK n e) : EqK (n + 1) (eL e) := ⟨fun xs => by unfold eL; rw [PyData.plain]; exact Q0 h.pl xs, fun xs => by unfold eL; rw [PyData.depth]; have := R3 h.dp xs; omega, fun xs ys => by unfold eL; rw [PyData.eqv]; exact a03 h.eq xs ys⟩
theorem a9P (h : EqK n e) (a b : α) (hn : n ≤ 64 := by decide) : oEq (e a) (e b) = some (.d (.bool (decide (a = b)))) := by unfold oEq; rw [if_pos ⟨h.ok hn a, h.ok hn b⟩, h.eq]
theorem a8k (h : EqK n e) (a b : α) (hn : n ≤ 64 := by decide) : oNe (e a) (e b) = some (.d (.bool (decide (a ≠ b)))) := by unfold oNe; rw [if_pos ⟨h.ok hn a, h.ok hn b⟩, h.eq, decide_not]
end
def ilt (a b : Int) : Bool := decide (a < b)
def lxL {α : Type} [DecidableEq α] (lt : α → α → Bool) : List α → List α → Bool
 | [], [] => false
 | [], _ :: _ => true
 | _ :: _, [] => false
 | x :: xs, y :: ys => if x = y then lxL lt xs ys else lt x y
def lxP {α β : Type} [DecidableEq α] (l1 : α → α → Bool) (l2 : β → β → Bool) (a b : α × β) : Bool := if a.1 = b.1 then l2 a.2 b.2 else l1 a.1 b.1
section
variable {α β : Type} [DecidableEq α] [DecidableEq β] {n m : Nat} {e : α → PyData} {e' : β → PyData} {l1 : α → α → Bool} {l2 : β → β → Bool}
theorem a70 : a8M 0 PyData.str slt := { a1x with al := fun a b => rfl, lt := PySem.W.dataLt_str, nl := fun _ => rfl }
/-- sorted, as Python sorts -/
def srt (lt : α → α → Bool) (xs : List α) : List α := xs.mergeSort fun a b => !lt b a
theorem a4a (h : a8M n e l1) (xs : List α) : a5v (xs.map e) = (srt l1 xs).map e := by
 unfold srt a5v
 refine (List.map_mergeSort fun a _ b _ => ?_).symm
 show (!l1 b a) = PySem.W.dataLe false id (e a) (e b)
 rw [← h.lt]
 rfl
end
end Fx

namespace Fx
open PySem L2

abbrev ePr := eP PyData.str PyData.int
abbrev ePl := eT ePr
abbrev eA : PyData → PyData := fun x => x
section
variable {α β γ : Type} {e : α → PyData} {e' : β → PyData}
theorem A4 (xs ys : List α) (h : xs.length + ys.length ≤ sizeLine) : P3 (eL e xs) (eL e ys) = some (.nl ((xs ++ ys).map e)) := by
 unfold eL P3
 simp only [List.length_map]
 rw [if_pos h, List.map_append]
theorem a6A (xs : List α) : a55 (eL e xs) = some (.d (.int xs.length)) := by unfold eL; show some (RV.d (.int (xs.map e).length)) = _; rw [List.length_map]
theorem a5K (xs : List α) (i : Int) : atI (xs.map e) i = (atI xs i).map e := by
 unfold atI
 rw [List.length_map]
 cases ixN xs.length i with
 | none => rfl
 | some j => simp [List.getElem?_map]
theorem I6 {xs : List α} {i : Int} {d : α} (h : (atI xs i).isSome = true) : oIx (eL e xs) (.int i) = some (.d (e ((atI xs i).getD d))) := by
 unfold eL
 show (atI (xs.map e) i).map RV.d = _
 rw [a5K]
 cases q : atI xs i with
 | none => rw [q] at h; cases h
 | some a => rfl
theorem a7L (i j : Int) : a1A (.int i) (.int j) = some (.d (.int (min i j))) := by
 show some (RV.d (.int (if j < i then j else i))) = _
 rw [show (if j < i then j else i) = min i j by split <;> omega]
/-- enumerate(xs) -/
def enu (xs : List α) : List (Int × α) := xs.zipIdx.map fun p => ((p.2 : Int), p.1)
theorem a3Q (xs : List α) : V9 (xs.map e) = (enu xs).map (eP PyData.int e) := by
 unfold V9 enu
 rw [List.zipIdx_map, List.map_map, List.map_map]
 rfl
theorem a4Z (xs : List α) : a0V [.d (eL e xs)] = some ((enu xs).map (eP PyData.int e)) := by
 rw [← a3Q]; rfl
/-- range(a, b) -/
def rng (lo hi : Int) : List Int := (List.range (hi - lo).toNat).map fun (k : Nat) => lo + (k : Int)
theorem a5g (lo : Int) (n : Nat) : a4Q lo n = ((List.range n).map fun (k : Nat) => lo + (k : Int)).map PyData.int := by
 unfold a4Q
 rw [List.map_map]
 rfl
theorem a4W {n : Int} (h : n < 2 ^ 62) (h0 : -(2 ^ 62) ≤ n) : a1e [.d (.int n)] = some ((rng 0 n).map PyData.int) := by
 unfold a1e
 show (if -(2 ^ 62) ≤ n ∧ n < 2 ^ 62 then some (a4Q 0 n.toNat) else none) = _
 rw [if_pos ⟨h0, h⟩, a5g]
 unfold rng
 rw [Int.sub_zero]
theorem a6n {o : List AV → Option (List PyData)} {as : List AV} {ds : List PyData} (h : o as = some ds) (hz : ds.length ≤ sizeLine) : a1b o as = some ds := by
 unfold a1b
 rw [h]
 exact if_pos hz
end
section
variable {α β : Type} [DecidableEq α] {e : α → PyData} {e' : β → PyData}
def dlk (ks : List (α × β)) (a : α) : Option β := (ks.find? fun p => decide (p.1 = a)).map (·.2)
variable {k : α → Key}
end
end Fx

namespace Fx
open PySem L2

section
variable {ρ : List SD} {g : Gs} {fa fb fc fe f : EF}
theorem a2r {β : Type} {F : a1s} {fs : EFa} {as : List AV} {K : R β} {w : β → RV} (h : fs ρ g = .ok as g) (hf : RX (F as g) K w) : RX (C0 F fs ρ g) K w := by
 unfold C0
 rw [h]
 exact hf
end
section
variable {γ : Type} {ρ : List SD} {g : Gs} {b t e h : EFs} {fe : EF} {M : R γ} {P : γ → Out → Prop}
theorem L6 {z : Prop} (k : z → RG b ρ g M P) : RG b ρ g (R.asrt z M) P := by
 unfold R.asrt
 split
 ·exact k ‹_›
 ·trivial
/-- the first look of a statement -/
theorem RG.look {α : Type} {m : R α} {β : Type} {A : R β} {w : β → α} {k : α → Gs → R Out} {K : β → Gs → R γ} (q : RX m A w) (hb : b ρ g = (m.stx ρ k).bind (a43 h)) (hk : ∀ a g1, RG (fun _ g => (k (w a) g).bind (a43 h)) ρ g1 (K a g1) P) : RG b ρ g (A.bind K) P := by
 cases A with
 | ok a g' =>
  have q : m = .ok (w a) g' := q
  have := hk a g'
  unfold RG at this ⊢
  rw [hb, q]
  show match K a g' with | .ok c g' => _ | .exc x g' => _ | .bad => _
  exact this
 | exc x g' =>
  have q : m = .exc x g' := q
  refine ⟨ρ, ?_⟩
  rw [hb, q]; rfl
 | bad => trivial
theorem a9f {α : Type} {fg : EFg} {A : R α} {e : α → PyData} {S : α → List SD} {K : α → Gs → R γ} (q : RX (v6 fe ρ g) A e) (q2 : ∀ a, fg (e a) ρ = some (S a)) (k : ∀ a g, RG h (S a) g (K a g) P) : RG (o8 (E7 fe fg) h) ρ g (A.bind K) P :=
 RG.look q rfl fun a g1 => by
  have := k a g1
  unfold RG at this ⊢
  rw [q2]
  exact this
theorem M4 {α : Type} {fg : EFg} {w : α → PyData} {v : α} {S : α → List SD} {K : α → R γ} (q : v6 fe ρ g = .ok (w v) g) (q2 : ∀ x, fg (w x) ρ = some (S x)) (k : ∀ x, RG h (S x) g (K x) P) : RG (o8 (E7 fe fg) h) ρ g (A6 v K) P := a8U q (q2 v) (k v)
theorem a8V {α : Type} {A : R α} {w : α → RV} {v : α → γ} (q : RX (fe ρ g) A w) (p : ∀ a, P (v a) (.rt (w a))) : RG (o8 (P4 fe) h) ρ g (A.mp v) P :=
 RG.look q rfl fun a g1 => ⟨_, rfl, p a⟩
theorem a7n {A : R γ} {w : γ → RV} (q : RX (fe ρ g) A w) (p : ∀ a, P a (.rt (w a))) : RG (o8 (P4 fe) h) ρ g A P := by
 have := a8V (h := h) (v := id) q p
 unfold R.mp at this
 cases A <;> exact this
theorem a5q {ft : EFt} {c : Bool} {M1 M2 : R γ} (q : ft ρ g = .ok c g) (k1 : c = true → RG (o8 t h) ρ g M1 P) (k2 : c = false → RG (o8 e h) ρ g M2 P) : RG (o8 (T7 ft t e) h) ρ g (if c = true then M1 else M2) P := by
 refine RG.eq (t := fun ρ g => if c = true then o8 t h ρ g else o8 e h ρ g) (a4E q) ?_
 cases c with
 | true => exact k1 rfl
 | false => exact k2 rfl
def U7 {α β σ : Type} (f : σ → α → Gs → R (Bl β σ)) : List α → σ → Gs → R (Bl β σ)
 | [], s, g => .ok (.nx s) g
 | x :: xs, s, g => (f s x g).bind fun r g' => match r with
  | .ret b => .ok (.ret b) g'
  | .nx s' => U7 f xs s' g'
theorem a01 {α β σ : Type} {w : β → RV} {ea : α → PyData} {fg : EFg} {fb : EFs} {Rσ : σ → List SD → Prop} {f : σ → α → Gs → R (Bl β σ)}
  (hb : ∀ s x ρ g, Rσ s ρ → ∃ ρ1, fg (ea x) ρ = some ρ1 ∧ RG fb ρ1 g (f s x g) (Rb w Rσ)) :
  ∀ (xs : List α) (s : σ) (ρ : List SD) (g : Gs), Rσ s ρ → RG (forR fg fb (xs.map ea)) ρ g (U7 f xs s g) (fun r o => match r with
   | .ret b => o = .rt (w b)
   | .nx s' => ∃ ρ', o = .nx ρ' ∧ Rσ s' ρ')
 | [], s, ρ, g, hr => ⟨_, rfl, ρ, rfl, hr⟩
 | x :: xs, s, ρ, g, hr => by
  obtain ⟨ρ1, h1, h2⟩ := hb s x ρ g hr
  have e0 : forR fg fb ((x :: xs).map ea) ρ g = (fb ρ1 g).bind (a4q (forR fg fb (xs.map ea))) := by rw [List.map_cons, forR, h1]
  unfold U7
  cases q : f s x g with
  | bad => trivial
  | exc y g' =>
   rw [q] at h2
   obtain ⟨ρ', h2⟩ := h2
   exact ⟨ρ', by rw [e0, h2]; rfl⟩
  | ok r g' =>
   rw [q] at h2
   obtain ⟨o, h2, h3⟩ := h2
   cases r with
   | ret b =>
    exact ⟨o, by rw [e0, h2, show o = .rt (w b) from h3]; rfl, h3⟩
   | nx s' =>
    obtain ⟨ρ2, ho, hr2⟩ := h3
    refine RG.eq (t := fun _ g => forR fg fb (xs.map ea) ρ2 g') ?_ (show RG (fun _ _ => forR fg fb (xs.map ea) ρ2 g') ρ g (U7 f xs s' g') _ from ?_)
    ·rw [e0, h2]
     rcases ho with rfl | rfl <;> rfl
    ·have := a01 hb xs s' ρ2 g' hr2
     unfold RG at this ⊢
     exact this
theorem a7t {α β σ : Type} {w : β → RV} {xs : List α} {ea : α → PyData} {fi : EFi} {fg : EFg} {fb : EFs} {f : σ → α → Gs → R (Bl β σ)} {s0 : σ} {vr : β → γ} {K : σ → Gs → R γ} (Rσ : σ → List SD → Prop) (hi : fi ρ g = .ok (xs.map ea) g) (h0 : Rσ s0 ρ)
  (hb : ∀ s x ρ g, Rσ s ρ → ∃ ρ1, fg (ea x) ρ = some ρ1 ∧ RG fb ρ1 g (f s x g) (Rb w Rσ)) (kr : ∀ b, P (vr b) (.rt (w b))) (k : ∀ s ρ' g, Rσ s ρ' → RG h ρ' g (K s g) P) :
  RG (o8 (a2I fi fg fb) h) ρ g ((U7 f xs s0 g).bind fun r g => match r with | .ret b => .ok (vr b) g | .nx s => K s g) P := by
 have q := a01 hb xs s0 ρ g h0
 have e0 : o8 (a2I fi fg fb) h ρ g = (forR fg fb (xs.map ea) ρ g).bind (a43 h) := by
  unfold o8 a2I
  rw [stx_ok hi]
 cases e : U7 f xs s0 g with
 | bad => trivial
 | exc y g' =>
  rw [e] at q
  obtain ⟨ρ', q⟩ := q
  exact ⟨ρ', by rw [e0, q]; rfl⟩
 | ok r g' =>
  rw [e] at q
  obtain ⟨o, q, p⟩ := q
  cases r with
  | ret b =>
   exact ⟨o, by rw [e0, q, show o = .rt (w b) from p]; rfl, by rw [show o = .rt (w b) from p]; exact kr b⟩
  | nx s =>
   obtain ⟨ρ', rfl, hr⟩ := p
   have := k s ρ' g' hr
   refine RG.eq (t := fun _ _ => h ρ' g') (by rw [e0, q]; rfl) (show RG (fun _ _ => h ρ' g') ρ g (K s g') P from ?_)
   unfold RG at this ⊢
   exact this
end
end Fx

namespace Fx
open PySem L2 PySem.Spec PyProof.Rows

section
variable {K : Ck} {W : WX}
theorem RpF.look {F : Hp} {f : Str} : ∀ {fs : List (Str × V)} {ds : List (Str × PyData)} {d : PyData}, RpF K F fs ds → w7 f (I7 ds) = some d → ∃ v, fs.lookup f = some v ∧ Rp K F v d
 | _, _, _, .nil, h => by cases h
 | _, _, d, @RpF.cons _ _ n v fs e ds r t, h => by
  have h : (if n = f then some e else w7 f (I7 ds)) = some d := h
  by_cases c : n = f
  ·rw [if_pos c] at h
   cases h
   exact ⟨v, by rw [List.lookup_cons, c, beq_self_eq_true], r⟩
  ·rw [if_neg c] at h
   obtain ⟨w, h1, h2⟩ := RpF.look t h
   have hb : (f == n) = false := beq_eq_false_iff_ne.mpr fun z => c z.symm
   exact ⟨w, by rw [List.lookup_cons, hb]; exact h1, h2⟩
end

end Fx

namespace Fx
open PySem L2 PySem.Spec PyProof.Rows

end Fx

namespace Fx
open PySem L2 RZ

section
variable {K : Ck} {W : WX}
/-- the slots, but for the one that is turned -/
theorem Tw.slot {S : Sta} {B F H : Hp} {d : Addr} {kvs : List (Key × V)} {u : HO} (t : Tw S F d kvs u) {s : SD} {v : Option V} (h : y7 K S B F H s v) (k : (∀ x, s ≠ .lk x) ∨ ∃ o, u = .frz o (.dK kvs)) : y7 K S (swp B d u) (swp F d u) (swp H d u) s v := by
 cases e : s.owner with
 | true =>
  obtain ⟨a, rfl, h1, h2, h3, h4⟩ := h.at e
  exact .of e (P6.mpr h1) h2 (P6.mpr h3) (t.own (t.ne h3) h4)
 | false =>
  cases s with
  | u => trivial
  | d x => obtain ⟨w, h1, h2⟩ := h; exact ⟨w, h1, h2.alt t.alt⟩
  | o w => exact h
  | lm os q => cases e
  | er x => obtain ⟨w, h1, h2⟩ := h; exact ⟨w, h1, h2.alt t.alt⟩
  | lk x =>
   obtain ⟨w, h1, h2, a, o, ks, rfl, h3⟩ := h
   refine ⟨_, h1, h2.alt t.alt, a, ?_⟩
   rcases k with k | ⟨o', rfl⟩
   ·exact absurd rfl (k x)
   ·by_cases z : a = d
    ·subst z; exact ⟨o', kvs, rfl, by rw [O5, h3]; rfl⟩
    ·exact ⟨o, ks, rfl, (A3 z).trans h3⟩
  | own xs => cases e
  | dic b ks => cases e
  | ins x dx C nm fs => cases e
theorem Tw.env {S : Sta} {B F0 F H : Hp} {ρ ρ' : List SD} {σ : St} {g : Gs} {d : Addr} {kvs : List (Key × V)} {u : HO} (t : Tw S F d kvs u) (E : g9 K S B F0 F H ρ σ g) (hl : ρ'.length = ρ.length)
  (hs : ∀ (i : Nat) s', ρ'[i]? = some s' → ∃ s v, ρ[i]? = some s ∧ s'.owner = s.owner ∧ σ[i]? = some v ∧ y7 K S (swp B d u) (swp F d u) (swp H d u) s' v) :
  g9 K S (swp B d u) (swp F0 d u) (swp F d u) (swp H d u) ρ' σ g where
 st := E.st
 tb := E.tb.swp t.m t.f
 sub := t.sub E.sub
 mono := a4N E.mono
 fz := Tw.fz E.fz
 keep := Tw.keep E.keep
 mF := fun a m => P6.mpr (E.mF a m)
 j := t.j E.j
 len := E.len.trans hl.symm
 sl := fun i s' h => let ⟨_, v, _, _, q, r⟩ := hs i s' h; ⟨v, q, r⟩
 dist := fun i k s' t' h1 h2 o1 o2 e => by
  obtain ⟨s1, _, q1, r1, _⟩ := hs i s' h1
  obtain ⟨s2, _, q2, r2, _⟩ := hs k t' h2
  exact E.dist i k s1 s2 q1 q2 (r1 ▸ o1) (r2 ▸ o2) e
end

end Fx

namespace Fx
open PySem L2 RZ
end Fx

namespace Fx
open PySem L2


def a4C : PyData → Bool
 | .list _ => true
 | .tuple _ => true
 | .dict _ => true
 | _ => false
def L9 : O1 := fun x => if okS x = true ∧ x.depth ≤ 64 ∧ x.showable = true ∧ x.shown.length ≤ sizeLine ∧ a4C x = true then some (.d (.str x.shown)) else (match x with
 | .int i => if i.natAbs.log2 < 1920 then some (.d (.str (toString i))) else none
 | .bool b => some (.d (.str (if b then "True" else "False")))
 | .none => some (.d (.str "None"))
 | _ => none)
def a4I : GO1 := fun x Q => ∃ r, L9 x = some r ∧ Q r
theorem H8 {X : Cx} (hg : X.A.guards = some []) (hu : X.A.units + 70 < cLine) : CallR X (.builtin "repr") (rA (Cx.ck X) (g1 a4I)) := a75 fun pins s σ H v u S F x Qd Q I ru o rx g p => by
 obtain ⟨r, h, q⟩ := g
 unfold L9 at h
 split at h
 ·rename_i c
  cases h
  obtain ⟨h1, h2, h3, h4, h5⟩ := c
  have sw := Rp.sw I o.sub rx ru h3 h1
  have fin : ∀ b, u = .ref b → wpAny (model X.prog X.w) X.A (call (.builtin "repr") [u]) (EP X pins σ Q) X.xe s := fun b hb =>
   sw.top b hb h4 X.A X.xe s (EP X pins σ Q) hg (by omega) (fun _ _ e => e) fun h' t tk hk => ⟨.str _, H, I.kept (t' := tk) hk, ⟨_, rfl⟩, p.d o (Rp.str _) q⟩
  cases rx with
  | lst _ _ => cases ru; exact fin _ rfl
  | tup _ _ _ => cases ru; exact fin _ rfl
  | dK _ _ => cases ru; exact fin _ rfl
  | dT _ _ _ => cases ru; exact fin _ rfl
  | obj _ _ _ _ => cases ru; exact fin _ rfl
  | exc _ _ _ _ => cases ru; exact fin _ rfl
  | fn _ => cases ru; exact fin _ rfl
  | _ => cases h5
 ·cases rx with
  | int i =>
   simp only at h
   split at h
   ·cases h
    obtain ⟨t, rfl⟩ := ru
    exact P.repr_of_int ‹_› ⟨.str _, H, I.tok _, ⟨_, rfl⟩, p.d o (Rp.str _) q⟩
   ·cases h
  | bl b =>
   cases h
   cases ru
   exact P.repr_of_bool ⟨.str _, H, I.tok _, ⟨_, rfl⟩, p.d o (Rp.str _) q⟩
  | non =>
   cases h
   cases ru
   exact P.repr_of_none ⟨.str _, H, I.tok _, ⟨_, rfl⟩, p.d o (Rp.str _) q⟩
  | _ => cases h
theorem V3 {K : Ck} : a5F K (rA K (g1 a4I)) (o1A L9) := Q4 a7v (a0X fun _ _ _ h q => ⟨_, h, q⟩)
end Fx

namespace Fx
open PySem L2

section
variable {α β γ : Type} {e : α → PyData} {e' : β → PyData} {k : α → Key} {ρ : List SD} {g : Gs} {fa : EF} {xa : PyData}
def Shd (d : PyData) : Prop := okS d = true ∧ d.depth ≤ 64 ∧ d.showable = true ∧ d.shown.length ≤ sizeLine
theorem a0F {d : PyData} (h : Shd d) (hr : a4C d = true := by rfl) : L9 d = some (.d (.str d.shown)) := by
 unfold L9
 rw [if_pos ⟨h.1, h.2.1, h.2.2.1, h.2.2.2, hr⟩]
end
def blK {β σ γ : Type} (vr : β → γ) (K : σ → Gs → R γ) (r : Bl β σ) (g : Gs) : R γ := match r with
 | .ret b => .ok (vr b) g
 | .nx s => K s g
theorem a51 {α β γ σ : Type} {ρ : List SD} {g : Gs} {h : EFs} {P : γ → Out → Prop} {w : β → RV} {xs : List α} {ea : α → PyData} {fi : EFi} {fg : EFg} {fb : EFs} {f : σ → α → Gs → R (Bl β σ)} {s0 : σ} {vr : β → γ} {K : σ → Gs → R γ} (Rσ : σ → List SD → Prop) (hi : fi ρ g = .ok (xs.map ea) g) (h0 : Rσ s0 ρ)
  (hb : ∀ s x ρ g, Rσ s ρ → ∃ ρ1, fg (ea x) ρ = some ρ1 ∧ RG fb ρ1 g (f s x g) (Rb w Rσ)) (kr : ∀ b, P (vr b) (.rt (w b))) (k : ∀ s ρ' g, Rσ s ρ' → RG h ρ' g (K s g) P) :
  RG (o8 (a2I fi fg fb) h) ρ g ((U7 f xs s0 g).bind (blK vr K)) P := by
 have q := a7t (vr := vr) (K := K) Rσ hi h0 hb kr k
 have e : blK vr K = fun (r : Bl β σ) g => (match r with | .ret b => R.ok (vr b) g | .nx s => K s g) := by
  funext r g
  cases r <;> rfl
 rw [e]
 exact q
end Fx

namespace Fx
open PySem L2


end Fx

namespace Fq
open PySem L2

end Fq

namespace Fq
open PySem PySem.Spec PyProof.Rows L2

section
variable {P : Program} {w : World} {A : Around} {E : Value → Shared → Prop} {s : Shared}
theorem Tp.stay {h h' : Heap} {k : NestedKey} {a : Addr} (x : Tp P w h k a) (hk : ∀ b o, h.get? b = some o → h'.get? b = some o) : Tp P w h' k a := (nestedKind_stays (prog := P) (w := w)).stays (fun b o _ _ e _ => hk b o e) x
variable {a : Addr} {L : List (Addr × NestedKey)} {es : Array (Int × Value)} {ep : Nat} {t : SetTable}
theorem Q3.fit {h : Heap} (R : Q3 P w h a L es ep t) : t.fits es.size = true := by
 have a1 := R.tab.siz
 have a2 := R.size
 have a3 := R.room
 simp only [List.length_map] at a1
 simp only [SetTable.fits, SetTable.fill, R.tab.nod, Bool.and_eq_true, beq_iff_eq, decide_eq_true_eq]
 exact ⟨a1.trans a2.symm, by rw [a1]; show L.length + 0 ≤ t.mask; omega⟩
theorem Q3.stays {h : Heap} (R : Q3 P w h a L es ep t) : ¬ t.gaveWay = true := by
 unfold SetTable.gaveWay
 rw [R.tab.odd]
 decide
end
end Fq

namespace Fq
open PySem PySem.Spec PyProof.Rows L2
end Fq

namespace Fq
open PySem PySem.Spec PyProof.Rows L2
end Fq

namespace Fq
open PySem PySem.Spec PyProof.Rows L2 Fx
section
variable {P : Program} {w : World} {H : Hp} {h : Heap} {a : Addr} {L : List (Addr × NestedKey)} {es : Array (Int × Value)} {ep : Nat} {t : SetTable}
theorem Q3.kept {h' : Heap} (R : Q3 P w h a L es ep t) (ka : ∀ o, h.get? a = some o → h'.get? a = some o) (kt : ∀ p ∈ L, Tp P w h' p.2 p.1) : Q3 P w h' a L es ep t :=
 let ⟨o, ho, r⟩ := R.ob
 ⟨⟨o, ka o ho, r⟩, R.rows, R.tab, R.nd, kt, R.led, R.room, R.small, R.few⟩
end
end Fq

namespace Fq
open PySem PySem.Spec PyProof.Rows L2 Fx
end Fq

namespace Fq
open PySem PySem.Spec PyProof.Rows L2 Fx
end Fq

namespace Fq
open PySem L2 Fx
end Fq

namespace Fq
open PySem PySem.Spec PyProof.Rows L2 Fx
end Fq

namespace Fx
open PySem L2 PySem.Spec PyProof.Rows

end Fx
namespace Fx
open PySem L2
end Fx
namespace Fx
open PySem L2
end Fx

namespace Fx
open PySem L2 PySem.Spec PyProof.Rows

end Fx

namespace Fx
open PySem L2 PySem.Spec PyProof.Rows Fq

end Fx

namespace Fx
open PySem L2 PySem.Spec PyProof.Rows Fq
end Fx

namespace Fq
open PySem PySem.Spec PyProof.Rows L2 Fx
section
variable {P : Program} {w : World} {A : Around} {E : Value → Shared → Prop} {s : Shared} {a : Addr} {ws : List Str}
theorem TSet.stay {h h' : Heap} (R : TSet P w h a ws) (k : ∀ o, h.get? a = some o → h'.get? a = some o) : TSet P w h' a ws := by
 obtain ⟨ob, rows, epo, tab, g0, r⟩ := R.ex
 exact ⟨ob, rows, epo, tab, k ob g0, r⟩
end
end Fq

namespace Fx
open PySem L2 PySem.Spec PyProof.Rows
end Fx

namespace Fx
open PySem L2
/-- what a loop that may return comes to -/
def blV {β σ γ : Type} (vr : β → γ) (vn : σ → γ) : Bl β σ → γ
 | .ret b => vr b
 | .nx s => vn s
theorem a5h {γ : Type} {ρ : List SD} {g : Gs} {h : EFs} {P : γ → Out → Prop} {α β σ : Type} {w : β → RV} {xs : List α} {ea : α → PyData} {fi : EFi} {fg : EFg} {fb : EFs} {z : σ → α → Prop} {f : σ → α → Bl β σ} {s0 : σ} {vr : β → γ} {vn : σ → γ} (Rσ : σ → List SD → Prop) (hi : fi ρ g = .ok (xs.map ea) g) (h0 : Rσ s0 ρ) (hz : a18 z f xs s0)
  (hb : ∀ s x ρ, Rσ s ρ → z s x → ∃ ρ1, fg (ea x) ρ = some ρ1 ∧ RG fb ρ1 g (.ok (f s x) g) (Rb w Rσ)) (kr : ∀ b, P (vr b) (.rt (w b))) (k : ∀ s ρ', N9 f xs s0 = .nx s → Rσ s ρ' → RG h ρ' g (.ok (vn s) g) P) :
  RG (o8 (a2I fi fg fb) h) ρ g (.ok (blV vr vn (N9 f xs s0)) g) P := by
 have q := a7j (vr := vr) (vn := vn) Rσ hi h0 hz hb (fun b _ => kr b) k
 have e : blV vr vn (N9 f xs s0) = (match N9 f xs s0 with | .ret b => vr b | .nx s => vn s) := by
  cases N9 f xs s0 <;> rfl
 rw [e]
 exact q
end Fx

namespace Fx
open PySem L2
end Fx

namespace Fx
open PySem L2 PySem.Spec PyProof.Rows
section
variable {K : Ck} {W : WX}
theorem a66 {S : Sta} {F H F1 H1 : Hp} {D : Addr} {o : HO} (e : Ext S F H F1 H1) (hD : H D = none) (fD : F1 D = none) (nM : ¬ S.M D) : Ext S F H F1 (upd H1 D o) := ⟨fun a u q m => by rw [upd_ne (ne_of_none q hD)]; exact e.keep a u q m, e.grow, e.le, fun a u q => by
 rw [upd_ne (fun z => by rw [z, fD] at q; cases q)]
 exact e.sub a u q, fun t => (e.tb t).off nM⟩
theorem a8r {S : Sta} {g : Gs} {H : Hp} {D : Addr} {o : HO} (j : S.J g H) (nM : ¬ S.M D) : S.J g (upd H D o) := S.ok _ _ _ j fun a m => upd_ne fun z => nM (z ▸ m)
end
end Fx

namespace Fx
open PySem L2
end Fx

namespace Fx
open PySem L2
end Fx

noncomputable section
namespace Fx
open PySem L2
end Fx

namespace Fx
open PySem L2
def eH : Str ⊕ Int → PyData
 | .inl s => .str s
 | .inr i => .int i
def hI : Str ⊕ Int → Int
 | .inl _ => 0
 | .inr i => i
end Fx

namespace Fx
open PySem PySem.Spec PyProof.Rows L2
end Fx

namespace Fx
open PySem L2
end Fx

namespace Fx
open PySem L2
end Fx

namespace Fx
open PySem L2 PySem.Spec PyProof.Rows
end Fx

namespace Fx
open PySem L2 PySem.Spec PyProof.Rows

section
variable {X : Cx} {pins : List (Addr × Obj)} {σ : L2.St} {H : Hp} {s : Shared}
/-- the object of a caught exception is known from now on -/
theorem a3X {a : Addr} {oe : Obj} {vs : Array Value} {cls : Value} {d : Option Addr} (I : Inv X pins σ H s) (he : s.heap.get? a = some oe) (hz : Zc cls d oe) (hd : oe.data = .fields vs) (na : H a = none) (nL : a ≠ X.env.locals)
  (n0 : X.s_0.heap.get? a = none) (npin : ∀ p ∈ X.pn ++ pins, p.1 ≠ a) : Inv X pins σ (upd H a (ErC cls d a)) s := by
 have old : ∀ b u, H b = some u → upd H a (ErC cls d a) b = some u := fun b u e => by rw [upd_ne (ne_of_none e na)]; exact e
 have offc : ∀ x c, X.env.cells.lookup x = some c → c ≠ a := fun x c e z => by
  obtain ⟨v, o, h1, h2⟩ := I.cell x c e
  rw [z, he] at h1
  cases h1
  rw [hd] at h2
  cases h2
 refine ⟨I.ok, I.os, I.bare, ⟨I.base.keep, I.base.slot, fun b u e n hx => ?_, I.base.there, fun b xs e => old _ _ (I.base.tups b xs e), fun b u xs e => old _ _ (I.base.frzs b u xs e), fun b ps e => ?_⟩, I.loc, I.cell, ?_, fun x c e => ?_, fun p hp => ?_, fun b u e => ?_, I.len⟩
 ·rw [upd_ne fun z => by rw [z, n0] at e; cases e]
  exact I.base.free b u e n hx
 ·obtain ⟨m, q⟩ := I.base.tbls b ps e
  exact ⟨m, old _ _ q⟩
 ·rw [upd_ne (Ne.symm nL)]; exact I.free
 ·rw [upd_ne (offc x c e)]; exact I.freeC x c e
 ·obtain ⟨h1, h2, h3⟩ := I.pin p hp
  exact ⟨h1, by rw [upd_ne (npin p hp)]; exact h2, h3⟩
 ·by_cases z : b = a
  ·subst z
   rw [upd_same] at e
   cases e
   exact ⟨⟨oe, vs, he, hz, hd⟩, ⟨oe, he⟩, fun _ _ ⟨o, v, q, r⟩ k => ⟨o, v, k o q, r⟩⟩
  ·rw [upd_ne z] at e
   exact (I.hok b u e).stay (fun _ _ _ q => q) (fun c q => by rw [upd_ne (ne_of_none q na)]; exact q) fun c xs q => old _ _ q
end

end Fx

namespace Fx
open PySem L2 PySem.Spec PyProof.Rows LamX

end Fx

namespace Fx
open PySem L2 PySem.Spec PyProof.Rows LamX

noncomputable section
open Classical
end
end Fx

namespace Fx
open PySem L2 PySem.Spec PyProof.Rows LamX

def erM (es : List Str) (x : PyData) : Option Str := match a2v x with
 | some (n, _) => if n ∈ es then some n else none
 | none => none
theorem a4F {K : Ck} {F : Hp} {v : V} {x : PyData} {nm : Str} {ks : List (PyData × PyData)} (r : Rp K F v x) (h : a2v x = some (nm, ks)) :
  ∃ a C d fs ds, v = .ref a ∧ F a = some (ErC (.ref C) d a) ∧ K.mg nm = some (.ref C) ∧ ErD F d fs ∧ RpF K F fs ds ∧ ks = I7 ds ∧ x = a0S nm ds := by
 cases r with
 | @exc a C d nm' fs ds hF m i r =>
  rw [Q5] at h
  cases h
  exact ⟨a, C, d, fs, ds, rfl, hF, m, i, r, rfl, rfl⟩
 | dK hF r =>
  cases r with
  | nil => cases h
  | @cons k _ _ _ _ _ _ => cases k <;> cases h
 | dT _ _ _ => cases h
 | _ => cases h
theorem a4x {K : Ck} {F : Hp} {v : V} {x : PyData} {es : List Str} {n : Str} (r : Rp K F v x) (e : erM es x = some n) : n ∈ es ∧ ∃ a C d fs ds, v = .ref a ∧ F a = some (ErC (.ref C) d a) ∧ K.mg n = some (.ref C) ∧ ErD F d fs ∧ RpF K F fs ds ∧ x = a0S n ds := by
 unfold erM at e
 split at e
 ·rename_i m ks ex
  split at e
  ·cases e
   obtain ⟨a, C, d, fs, ds, h1, h2, h3, h4, h5, _, h6⟩ := a4F r ex
   exact ⟨‹_›, a, C, d, fs, ds, h1, h2, h3, h4, h5, h6⟩
  ·cases e
 ·cases e
/-- isinstance(e, c), e an exception that was kept -/
def a7N (K : PySem.W.Frag) : List V → Hp → VK → Prop := fun xs H Q => ∃ (a C : Addr) (d : Option Addr) (c : V) (cv : Value) (b : Bool), xs = [.ref a, c] ∧ (∀ u, RelV c u → u = cv) ∧ H a = some (ErC (.ref C) d a) ∧ (∀ dx, d = some dx → ∃ fs, H dx = some (.xd fs)) ∧ a3K K C ∧ PySem.W.kitOne K (.ref C) cv = some b ∧ Q (.bl b) H
theorem a7c {X : Cx} {pins : List (Addr × Obj)} {σ : L2.St} {H : Hp} {s : Shared} {a C : Addr} {d : Option Addr} (I : Inv X pins σ H s) (ha : H a = some (ErC (.ref C) d a)) (hd : ∀ dx, d = some dx → ∃ fs, H dx = some (.xd fs)) : ∃ (oe : Obj) (od : Option Obj), PySem.W.InstAt s.heap a oe C od ∧ (d = none → od = none) ∧
  ∀ dx, d = some dx → ∃ o, od = some o ∧ s.heap.get? dx = some o := by
 obtain ⟨⟨oe, vs, h1, h2, h3⟩, _, _⟩ := I.hok a _ ha
 have nc : PySem.W.notCls oe = true := by unfold PySem.W.notCls; rw [h3] <;> rfl
 cases d with
 | none => exact ⟨oe, none, ⟨h1, h2.1, nc, by rw [h2.2]; trivial⟩, fun _ => rfl, fun dx z => by cases z⟩
 | some dx =>
  obtain ⟨fs, hx⟩ := hd dx rfl
  have ob : ObjOk X.prog X.w H s.heap dx (.xd fs) := I.hok dx _ hx
  obtain ⟨mA, hns, hr⟩ := ob
  obtain ⟨od, ho, hl⟩ := lookIn_ns hns
  exact ⟨oe, some od, ⟨h1, h2.1, nc, by rw [h2.2]; exact ho⟩, (fun z => by cases z), fun dy z => by cases z; exact ⟨od, rfl, ho⟩⟩
theorem a1N {X : Cx} : CallR X (.builtin "isinstance") (a7N X.K) := by
 intro pins s σ H xs us Q I r h
 obtain ⟨a, C, d, c, cv, b, rfl, hcv, ha, hd, E, e, q⟩ := h
 obtain ⟨u1, u2, rfl, r1, r2⟩ := vals2 r
 cases (show u1 = Value.ref a from r1)
 have ec := hcv _ r2
 subst ec
 obtain ⟨oe, od, J, _⟩ := a7c I ha hd
 exact PySem.W.kia_one (PySem.W.kitx_exc E.cl E.hg E.hk E.hs E.ha E.hn E.ht E.hm) I.kIn J e (fun z => nomatch z) fun tk => ⟨.bl b, H, I.kept (t' := tk) fun _ _ z => z, rfl, q⟩
/-- an exception that was kept, or data -/
def a5l (K : PySem.W.Frag) : List V → Hp → VK → Prop := fun xs H Q => a7N K xs H Q ∨ rIsi K xs H Q
theorem i4 {X : Cx} : CallR X (.builtin "isinstance") (a5l X.K) := by
 intro pins s σ H xs us Q I r h
 rcases h with h | h
 ·exact a1N pins s σ H xs us Q I r h
 ·exact call_isi pins s σ H xs us Q I r h
/-- e.f -/
def a9G (K : PySem.W.Frag) (f : Str) (te : TE) : TE := fun σ H Q => te σ H fun x H1 => ∃ (a C dx : Addr) (fs : List (Str × V)) (v : V), x = .ref a ∧ H1 a = some (ErC (.ref C) (some dx) a) ∧ H1 dx = some (.xd fs) ∧ XfC K C ∧ PySem.W.findIn K (.ref C) f = some none ∧ fs.lookup f = some v ∧ Q v H1
theorem y9 {X : Cx} {e : Expr} {te : TE} {pos : Pos} {n : Str} (he : PE X e te) (hb : attributeBase e n X.env (eval e X.env) = eval e X.env := by rfl) : PE X (.Attribute e n pos) (a9G X.K n te) := by
 refine ⟨fun pins s σ H Q I h => attr_of hb (thn (he.run pins s σ H _ I h) fun u s1 hh => ?_)⟩
 obtain ⟨x, H1, I1, rx, a, C, dx, fs, v, rfl, ha, hx, T, hno, l, q⟩ := hh
 obtain rfl : u = Value.ref a := rx
 obtain ⟨⟨oe, vs, h1, h2, h3⟩, _, _⟩ := I1.hok a _ ha
 have ob : ObjOk X.prog X.w H1 s1.heap dx (.xd fs) := I1.hok dx _ hx
 obtain ⟨mA, hns, hr⟩ := ob
 obtain ⟨od, ho, hl⟩ := lookIn_ns hns
 obtain ⟨u, hu, ru⟩ := RelO.some_of (v := v) (o := mA n) (by rw [← l]; exact hr n)
 have J : PySem.W.InstAt s1.heap a oe C (some od) := ⟨h1, h2.1, by unfold PySem.W.notCls; rw [h3] <;> rfl, by rw [h2.2]; exact ho⟩
 exact HandSPX.exc_get I1.kIn J T.ga T.gg T.exC (PySem.W.findObj_own T.hdC hno rfl (by rw [hl, hu])) (handed_of ru) ⟨v, H1, I1.tok _, ru, q⟩
/-- e.f -/
def W7 (es : List Str) (f : Str) (fe : EF) : EF := fun ρ g => (v6 fe ρ g).bind fun x g1 => match a2v x with
 | some (n, ks) => if n ∈ es then R.ofO ((w7 f ks).map .d) g1 else .bad
 | none => .bad
/-- the classes' exceptions have the field -/
def a0j (K : Ck) (es : List Str) (f : Str) : Prop := ∀ nm ∈ es, ∀ C, K.mg nm = some (.ref C) → XfC K.K C ∧ PySem.W.findIn K.K (.ref C) f = some none
section
variable {K : Ck} {W : WX}
theorem a2o {F H : Hp} {d : Option Addr} {fs : List (Str × V)} (s : Sub F H) (h : ErD F d fs) : ∀ dx, d = some dx → ∃ fs, H dx = some (.xd fs) := fun dx z => by
 rcases h with ⟨hd, _⟩ | ⟨dy, hd, hx⟩
 ·rw [hd] at z; cases z
 ·rw [hd] at z; cases z; exact ⟨_, s _ _ hx⟩
theorem y5 {es : List Str} {f : Str} {te : TE} {fe : EF} (A : a0j K es f) (h : Sm K W te fe) : Sm K W (a9G K.K f te) (W7 es f fe) := by
 intro S B F0 F H ρ σ g Pd Xd Q E hf k kx
 refine h.dat E (R.wp_bind.mp hf) kx fun x g1 v F1 H1 q e E1 r => ?_
 split at q
 ·rename_i n ks ex
  split at q
  ·rename_i hn
   obtain ⟨a, C, d, fs, ds, rfl, hF, mC, hd, rf, rfl, rfl⟩ := a4F r ex
   obtain ⟨rv, o1, q⟩ := R.wp_ofO q
   cases el : w7 f (I7 ds) with
   | none => rw [el] at o1; cases o1
   | some y =>
    rw [el] at o1
    cases o1
    obtain ⟨w, l, rw'⟩ := rf.look el
    obtain ⟨T, hno⟩ := A _ hn _ mC
    rcases hd with ⟨_, hfs⟩ | ⟨dx, rfl, hx⟩
    ·rw [hfs] at l; cases l
    ·exact ⟨a, C, dx, fs, w, rfl, E1.sub _ _ hF, E1.sub _ _ hx, T, hno, l, k _ g1 _ F1 H1 q e E1.j rw'⟩
  ·exact q.elim
 ·exact q.elim
end
end Fx

namespace Fx
open PySem L2 PySem.Spec PyProof.Rows LamX

end Fx

namespace Fx
open PySem L2 PySem.Spec PyProof.Rows

end Fx

namespace Fx
open PySem L2 PySem.Spec PyProof.Rows
theorem a0L {K : Ck} {F : Hp} {vs : List V} {ds : List PyData} (h : RpA K F vs ds) : ∀ n : Nat, RpA K F (List.replicate n vs).flatten (List.replicate n ds).flatten
 | 0 => .nil
 | n + 1 => by
  rw [List.replicate_succ, List.replicate_succ, List.flatten_cons, List.flatten_cons]
  exact h.append (a0L h n)
def a6p (fa fb : EF) : EF := fun ρ g => (fa ρ g).bind fun r g1 => match r with
 | .nl xs => (v6 fb ρ g1).bind fun y g2 => (match y with
  | .int k => if 0 ≤ k ∧ k ≤ 1000 ∧ xs.length ≤ 1000 then .ok (.nl (List.replicate k.toNat xs).flatten) g2 else .bad
  | _ => .bad)
 | _ => .bad
section
variable {K : Ck} {W : WX}
theorem a4m {ta tb : TE} {fa fb : EF} (ha : Sm K W ta fa) (hb : Sm K W tb fb) : Sm K W (tOp rRep ta tb) (a6p fa fb) := by
 intro S B F0 F H ρ σ g Pd Xd Q E hf k kx
 refine ha S B F0 F H ρ σ g _ Xd _ E (R.wp_bind.mp hf) (fun r g1 v F1 H1 q e j rv => ?_) kx
 cases r with
 | nl xs =>
  obtain ⟨a, vs, rfl, h1, hM, h2, h3, h4⟩ := rv
  have E1 := E.ext e j
  refine hb.dat E1 (R.wp_bind.mp q) (XOk.ext kx e j) fun y g2 w F2 H2 q2 e2 E2 r2 => ?_
  cases r2 with
  | int i =>
   have q2 : (if 0 ≤ i ∧ i ≤ 1000 ∧ xs.length ≤ 1000 then R.ok (.nl (List.replicate i.toNat xs).flatten) g2 else .bad).wp Pd Xd := q2
   split at q2
   ·rename_i c
    obtain ⟨c1, c2, c3⟩ := c
    have hl := h4.length
    have ha2 : H2 a = some (.lst vs) := e2.keep a _ h3 hM
    have sz : vs.length * i.toNat ≤ sizeLine := by
     rw [sizeLine_eq]
     exact Nat.le_trans (Nat.mul_le_mul (show vs.length ≤ 1000 by omega) (show i.toNat ≤ 1000 by omega)) (by decide)
    refine ⟨a, i, vs, rfl, rfl, ha2, by omega, by omega, sz, fun p hp => ?_⟩
    have n := Ext.own (S := S) (o := .lst (List.replicate i.toNat vs).flatten) E2.sub hp
    have e12 := e.trans e2 j
    exact k _ g2 _ F2 _ q2 (e12.trans n E2.j) (J.new E2.j hp) ⟨p, _, rfl, e12.free E2.j hp, fun m => S.there _ _ _ E2.j m hp, E2.sub.free hp, upd_same, a0L (h4.mono e2.le) _⟩
   ·exact q2.elim
  | _ => exact q2.elim
 | _ => exact q.elim
end
end Fx

namespace Fx
open PySem L2 PySem.Spec PyProof.Rows

noncomputable section
open Classical
end
theorem a5T {es : List Str} {nm : Str} {fs : List (Str × PyData)} (h : nm ∈ es) : erM es (a0S nm fs) = some nm := by
 unfold erM
 rw [Q5]
 exact if_pos h
end Fx

namespace Fx
open PySem L2 PySem.Spec PyProof.Rows
def a9v : PyData → Option Key
 | .int i => some (.inl i)
 | .str s => some (.inr s)
 | _ => none
theorem a5b {x : PyData} {k : Key} (h : a9v x = some k) : x = keyD k := by
 cases x with
 | int i => cases h; rfl
 | str s => cases h; rfl
 | _ => cases h
def a3H : List (PyData × PyData) → Option (List (Key × PyData))
 | [] => some []
 | (x, y) :: r => match a9v x, a3H r with
  | some k, some ks => some ((k, y) :: ks)
  | _, _ => none
def a28 : List (EF × EF) → List SD → Gs → R (List (PyData × PyData))
 | [], _, g => .ok [] g
 | (fk, fv) :: r, ρ, g => (v6 fk ρ g).bind fun x g1 => (v6 fv ρ g1).bind fun y g2 => (a28 r ρ g2).bind fun ds g3 => .ok ((x, y) :: ds) g3

def a35 (fs : List (EF × EF)) : EF := fun ρ g => (a28 fs ρ g).nox.bind fun ds g1 => match a3H ds with
 | some qs => if qs.length ≤ 15 then .ok (.nd false (a2e [] qs)) g1 else .bad
 | none => .bad
section
variable {K : Ck} {W : WX}
theorem a5J {ts : List (TE × TE)} {fs : List (EF × EF)} (h : SmPs K ts fs) : ∀ {S : Sta} {B F0 F H : Hp} {ρ : List SD} {σ : L2.St} {g : Gs} {Pd : List (PyData × PyData) → Gs → Prop} {Q : List (V × V) → Hp → Prop}, g9 K S B F0 F H ρ σ g → (a28 fs ρ g).wp Pd NoX →
  (∀ ds g' ps F' H', Pd ds g' → Ext S F H F' H' → S.J g' H' → Paired (fun (p : V × V) (d : PyData × PyData) => Rp K F' p.1 d.1 ∧ Rp K F' p.2 d.2) ps ds → Q ps H') → tPairs ts σ H Q := by
 induction h with
 | nil => intro S B F0 F H ρ σ g Pd Q E hf k; exact k [] g [] F H hf (Ext.refl E.sub) E.j .nil
 | cons hk hv _ ih =>
  intro S B F0 F H ρ σ g Pd Q E hf k
  refine hk.dat E (R.wp_bind.mp hf) (fun _ _ _ _ _ _ z _ _ _ => z.elim) fun x g1 vx F1 H1 q1 e1 E1 r1 => ?_
  refine hv.dat E1 (R.wp_bind.mp q1) (fun _ _ _ _ _ _ z _ _ _ => z.elim) fun y g2 vy F2 H2 q2 e2 E2 r2 => ?_
  refine ih E2 (R.wp_bind.mp q2) fun ds g3 ps F3 H3 q3 e3 j3 rs => ?_
  exact k _ g3 _ F3 H3 q3 ((e1.trans e2 E1.j).trans e3 E2.j) j3 (.cons ⟨(r1.mono e2.le).mono e3.le, r2.mono e3.le⟩ rs)
theorem S8 {F : Hp} : ∀ {ps : List (V × V)} {ds : List (PyData × PyData)} {qs : List (Key × PyData)}, Paired (fun (p : V × V) (d : PyData × PyData) => Rp K F p.1 d.1 ∧ Rp K F p.2 d.2) ps ds → a3H ds = some qs →
  ∃ kvs : List (Key × V), ps = kvs.map (fun kv => (kV kv.1, kv.2)) ∧ Paired (fun (p : Key × V) (q : Key × PyData) => p.1 = q.1 ∧ Rp K F p.2 q.2) kvs qs
 | _, _, _, .nil, e => by cases e; exact ⟨[], rfl, .nil⟩
 | _, _, qs, @Paired.cons _ _ _ p d ps ds r t, e => by
  obtain ⟨x, y⟩ := d
  obtain ⟨v, w⟩ := p
  unfold a3H at e
  split at e
  ·rename_i k ks hk hks
   cases e
   obtain ⟨kvs, e1, e2⟩ := S8 t hks
   have r1 : Rp K F v x := r.1
   rw [a5b hk] at r1
   have ev := a2d r1
   exact ⟨(k, w) :: kvs, by rw [e1, ev]; rfl, .cons ⟨rfl, r.2⟩ e2⟩
  ·cases e
theorem a5I {ts : List (TE × TE)} {fs : List (EF × EF)} (h : SmPs K ts fs) : Sm K W (tDisp ts) (a35 fs) := by
 intro S B F0 F H ρ σ g Pd Xd Q E hf k kx
 have hf := R.wp_nox.mp (R.wp_bind.mp hf)
 intro D hD
 have nM : ¬ S.M D := fun m => E.okh.mt D m hD
 have n := Ext.own (S := S) (o := .dK []) E.sub hD
 have j0 : S.J g (upd H D (.dK [])) := Fx.J.new E.j hD
 have E0 := E.ext n j0
 refine a5J h E0 hf fun ds g1 ps F1 H1 q e1 j1 rs => ?_
 have D1 : H1 D = some (.dK []) := e1.keep D _ upd_same nM
 have F1D : F1 D = none := (e1.grow D (by rw [upd_same]; exact fun z => by cases z)).trans (E.sub.free hD)
 split at q
 ·rename_i qs hq
  split at q
  ·rename_i hl
   obtain ⟨kvs, e2, rk⟩ := S8 rs hq
   refine ⟨D1, kvs, e2, by rw [rk.length]; exact hl, ?_⟩
   refine k _ g1 _ F1 _ q (a66 (n.trans e1 j0) hD F1D nM) (a8r j1 nM) ⟨D, .k (mergeK [] kvs), rfl, hD, nM, F1D, upd_same, rfl, ?_⟩
   exact a2D rk RpK.nil
  ·exact q.elim
 ·exact q.elim
end
section
variable {ρ : List SD} {g : Gs}
/-- one entry; the key is a text -/
theorem a5P {fk fv : EF} {s : Str} {y : PyData} (hk : fk ρ g = .ok (.d (.str s)) g) (hv : v6 fv ρ g = .ok y g) : a35 [(fk, fv)] ρ g = .ok (.nd false [(.str s, y)]) g := by
 unfold a35
 show (((v6 fk ρ g).bind _).nox.bind _) = _
 rw [dd hk]
 show (((v6 fv ρ g).bind _).nox.bind _) = _
 rw [hv]
 rfl
/-- a list times a number -/
theorem a4V {α : Type} {e : α → PyData} {fa fb : EF} {k : Nat} {xs : List α} (ha : fa ρ g = .ok (.nl (xs.map e)) g) (hb : v6 fb ρ g = .ok (.int k) g) (hl : Nat.ble xs.length 1000 = true) (hk : Nat.ble k 1000 = true) : a6p fa fb ρ g = .ok (.nl ((List.replicate k xs).flatten.map e)) g := by
 have hl := Nat.le_of_ble_eq_true hl
 have hk := Nat.le_of_ble_eq_true hk
 unfold a6p
 rw [ha, R.bind_ok]
 dsimp only
 rw [hb, R.bind_ok]
 dsimp only
 rw [List.length_map, if_pos ⟨by omega, by omega, hl⟩, List.map_flatten, List.map_replicate]
 rfl
end
end Fx

namespace Fx
open PySem L2 PySem.Spec PyProof.Rows

abbrev exB (C t : Addr) : Obj := { cls := .ref C, dict := none, data := .fields #[.ref t, .none, .none, .none, .bool false, .none] }
/-- super().__init__ called -/
theorem a5x {prog : Program} {w : World} {A : Around} {E : Value → Shared → Prop} {s : Shared} {C a u t0 : Addr} {rest : List Value} {Q : Value → Shared → Prop} {nm q : Str} {N : Addr} {bs bm : List Value} {hdct : Bool} {sn : List Str} {sub : List Value} {ab : Bool} {col : Option Bool} {dd : Option Addr} {k0 k1 k2 k3 k5 : Option Value}
  (hC : s.heap.get? C = some (excClassObj nm q C N bs bm hdct sn sub ab col dd k0 k1 k2 k3 k5 "ValueError.__new__")) (he : s.heap.get? a = some (exB C t0)) (hu : s.heap.get? u = some (PySem.W.kxs_mw "ValueError.__init__" a)) (hz : rest.length ≤ sizeLine)
  (hq : ∀ h', (∀ b o, b ≠ a → s.heap.get? b = some o → h'.get? b = some o) → h'.get? a = some (exB C s.heap.objs.size) → Q .none { s with heap := h' }) :
  wpAny (model prog w) A (call (.ref u) rest) Q E s := by
 obtain ⟨hh, g, d, tk, os⟩ := s
 refine wpAny_call (codeAny_of_tree ?_)
 show wpAny _ A.in1 (callAny (.ref u) ⟨rest, []⟩) _ _ _
 simp only [callAny]
 refine wpAny_bind (wpAny_load hu ?_)
 simp only [PySem.W.kxs_mw, show (Value.type "method-wrapper" == Value.type "method" || Value.type "method-wrapper" == Value.type "builtin_function_or_method" || Value.type "method-wrapper" == Value.type "method-wrapper") = true by decide, if_true]
 refine PySem.W.KFB.if_so (by decide) ?_
 refine wpAny_bind (PySem.W.check_bound_init F.excBase_ValueError.toExcCallFacts hC he rfl ?_)
 refine wpAny_bind (wpAny_pure (wpAny_pure ?_))
 refine ⟨plainId_quiet F.excBase_ValueError.init.plain _, codeAny_builtin F.excBase_ValueError.initEntry ?_⟩
 exact PySem.W.exc_init_tree (cls := .ref C) (t0 := t0) (dv := none) (c2 := .none) (c3 := .none) (b4 := .bool false) he hz fun h' k e' _ => hq h' k e'
def a3U (x : Str) (sc : Scope) : Bool := decide (sc.kind = .function) && (!sc.isCoroutine && (!sc.isGenerator && (sc.names.all (fun y => !decide (y.2 = .cell) && (!decide (y.2 = .free) || decide (y.1 = "__class__"))) && (decide (sc.names.lookup ("super" : Str) = some .globalImplicit) &&
 (decide (sc.names.lookup ("__class__" : Str) = some .free) && (decide (sc.names.lookup ("self" : Str) = some .local) && (decide (sc.names.lookup x = some .local) && decide (x ≠ "self"))))))))
theorem a2R {x : Str} {sc : Scope} (h : a3U x sc = true) : a8p x sc := by
 unfold a3U at h
 simp only [Bool.and_eq_true, Bool.or_eq_true, Bool.not_eq_true', decide_eq_true_eq, decide_eq_false_iff_not, List.all_eq_true] at h
 obtain ⟨h1, h2, h3, h4, h5, h6, h7, h8, h9⟩ := h
 exact ⟨h1, h2, h3, fun y hy => (h4 y hy).1, fun y hy e => ((h4 y hy).2.resolve_left fun z => z e), h5, h6, h7, h8, h9⟩
/-- what its __init__ keeps -/
def a3M (C : Addr) (f : Str) : Sp := fun vs H Q _ => ∃ (a : Addr) (v : V), vs = [.ref a, v] ∧ H a = some (exo a C none) ∧ ∀ dx, H dx = none → dx ≠ a → Q .non (upd (upd H dx (exd dx [(f, v)])) a (exo a C (some dx)))
def a34 (P : Program) (w : World) (K : PySem.W.Frag) (mg : Str → Option Value) (base : Heap) (x : Str) (env : Env) (A : Around) (outer : List Env) (s : Shared) (H : Hp) (E : XK) : Cx where
 prog := P
 w := w
 K := K
 mg := mg
 base := base
 A := A.deeper env
 N := ["self", x]
 s_0 := s
 H_0 := H
 env := env
 outer := outer
 stack := env :: outer
 ex := []
 fn := fun _ => false
 calm := true
 pn := []
 xe := fun e s' => wpAny (model P w) (A.deeper env) (leaving env e) (fun _ s'' => L2.CX P w outer H s E e s'') (fun e' s'' => L2.CX P w outer H s E e' s'') s'
theorem a2w {P : Program} {w : World} {K : PySem.W.Frag} {mg : Str → Option Value} {base : Heap} {fI cda cc : Addr} {q x : Str} {scope : Scope} {A : Around} {outer : List Env} {s : Shared} {H : Hp} {E : XK} {a : Addr} {v : V} {u : Value} {h₁ : Heap} {tk : Nat}
  (e0 : Env0 P w K mg base A outer s H) (hd : A.handled = none) (S : a8p x scope) (hc : ∃ cl cld v csl, K.lookup cc = some ⟨cl, cld, .cell v, csl⟩) (ru : RelV v u)
  (hns : h₁.Ns s.heap.objs.size fun y => ([("self" : Str), x].zip [Value.ref a, u]).reverse.lookup y) (kp : ∀ b o, s.heap.get? b = some o → h₁.get? b = some o) :
  Inv (a34 P w K mg base x (PySem.W.ksEnv q scope s.heap.objs.size fI (.ref cda) cc) A outer s H E) [] [some (.ref a), some v] H { s with heap := h₁, toks := tk } := by
 have noA : ∀ b : Addr, b ∉ (a34 P w K mg base x (PySem.W.ksEnv q scope s.heap.objs.size fI (.ref cda) cc) A outer s H E).ex := fun b z => absurd (show b ∈ ([] : List Addr) from z) (by simp)
 obtain ⟨cl, cld, cv, csl, lc⟩ := hc
 have bc := e0.mod.kin _ _ lc
 have one : ∀ {y : Str} {c : Addr}, ([("__class__", cc)] : List (Str × Addr)).lookup y = some c → y = "__class__" ∧ c = cc := fun {y c} e => by
  by_cases z : y = "__class__"
  ·subst z
   exact ⟨rfl, (Option.some.inj e).symm⟩
  ·have e2 : (y == ("__class__" : Str)) = false := by simpa using z
   simp [List.lookup, e2] at e
 refine ⟨⟨e0.mod, S.kind, rfl, rfl, Nat.le_refl _, fun y z c e1 e2 => (one e1).1.trans (one e2).1.symm, fun y hy => ?_, fun y c z _ => ?_, fun _ => hd, Around.frames_deeper e0.frames, .inr ⟨rfl, rfl⟩, fun b z => absurd z (noA b), e0.bs, e0.bsz, fun b _ _ => noA b,
   fun b z => absurd z (noA b), e0.funs, e0.frf⟩,
  rfl, e0.bare, Un.kept kp, ⟨_, hns, fun i y v' e1 e2 e3 => ?_⟩, fun y c e => ?_, e0.hok.fresh (Nat.le_refl _), fun y c e => ?_, fun q hq => absurd (show q ∈ ([] : List (Addr × Obj)) ++ [] from hq) (by simp), e0.hok.kept kp, rfl⟩
 ·have hy : scope.names.lookup y = some .cell ∨ scope.names.lookup y = some .free := hy
  rcases hy with hy | hy
  ·exact absurd rfl (S.cellN _ (PySem.mem_of_lookup hy))
  ·have e := S.free _ (PySem.mem_of_lookup hy) rfl
   have e : y = "__class__" := e
   subst e
   exact ⟨cc, rfl⟩
 ·have z : false = true := z
  cases z
 ·have e1 : (["self", x] : List Str)[i]? = some y := e1
  match i, e1, e2 with
  | 0, e1, e2 =>
   obtain rfl := Option.some.inj e1
   obtain rfl := Option.some.inj (Option.some.inj e2)
   refine ⟨Value.ref a, rfl, .inl ⟨S.slf, ?_⟩⟩
   have n : (("self" : Str) == x) = false := by simpa using Ne.symm S.ne
   show ([(x, u), (("self" : Str), Value.ref a)] : List (Str × Value)).lookup ("self" : Str) = some (Value.ref a)
   simp [List.lookup, n]
  | 1, e1, e2 =>
   obtain rfl := Option.some.inj e1
   obtain rfl := Option.some.inj (Option.some.inj e2)
   refine ⟨u, ru, .inl ⟨S.arg, ?_⟩⟩
   show ([(x, u), (("self" : Str), Value.ref a)] : List (Str × Value)).lookup x = some u
   simp [List.lookup]
  | n + 2, e1, e2 => simp at e1
 ·obtain ⟨rfl, rfl⟩ := one e
  exact ⟨cv, _, kp _ _ (e0.bs _ _ bc).1, rfl⟩
 ·obtain ⟨rfl, rfl⟩ := one e
  exact (e0.bs _ _ bc).2
theorem a1F {P : Program} {w : World} {K : PySem.W.Frag} {mg : Str → Option Value} {base : Heap} {C fI cda cc : Addr} {k : Nat} {q x f m : Str} {j : Nat} {params : Arguments} {scope : Scope} {dV kV doc pm ct oc : Value} {an od : Option Addr} {osl : Array (Option Value)} {p0 p1 p2 p3 p4 p5 p6 p7 p8 p9 : Pos} {ar : Arg} {pl : Env → Sem Bool}
    (I : a9d P K mg C fI cda cc f) (S : a8p x scope) (hp : (params.posonlyargs ++ params.args).head? = some ar) (har : ar.arg = "self")
    (lk : K.lookup fI = some ⟨oc, od, .func (PySem.W.fnX "__init__" q params [.Expr (.Call (.Attribute (.Call (.Name "super" p0) [] [] p1) "__init__" p2) [.Constant (.str m) j p3] [] p4) p5, .Assign [.Attribute (.Name "self" p6) f p7] (.Name x p8) p9] scope [("__class__", cc)] dV kV doc pm an (.ref cda) ct), osl⟩)
    (hcd : PySem.W.codeIn K (.ref cda) q = true) (hxd : (x == ("__debug__" : Str)) = false) (hxc : (x == ("__classdict__" : Str)) = false)
    (heq : ∀ env, eval (.Call (.Attribute (.Call (.Name "super" p0) [] [] p1) "__init__" p2) [.Constant (.str m) j p3] [] p4) env = (do
      let ov ← attributeBase (.Call (.Name "super" p0) [] [] p1) "__init__" env (eval (.Call (.Name "super" p0) [] [] p1) env)
      standAt p2.atName
      let (f, first) ← holding [ov] (getMethod ov "__init__" (pl env))
      callWith p4 f first (backTo p4 (starEach [.Constant (.str m) j p3] env)) []))
    (hsw : ∀ env, swapsWith (.Name x p8) (some (.Attribute (.Name "self" p6) f p7)) p9.line env = pure false) :
    FnOk P w K mg base (L2.CX P w) k fI (PySem.W.fnX "__init__" q params [.Expr (.Call (.Attribute (.Call (.Name "super" p0) [] [] p1) "__init__" p2) [.Constant (.str m) j p3] [] p4) p5, .Assign [.Attribute (.Name "self" p6) f p7] (.Name x p8) p9] scope [("__class__", cc)] dV kV doc pm an (.ref cda) ct) ["self", x] (a3M C f) := by
  refine ⟨fun vs H Q E h => by obtain ⟨a, v, rfl, _⟩ := h; rfl, fun A outer s H args us vs Q E hr e0 hb r h => ?_⟩
  obtain ⟨a, v, rfl, ha, want⟩ := h
  obtain ⟨u1, u, rfl, r1, r2⟩ := vals2 r
  obtain rfl : u1 = Value.ref a := r1
  have KX : K.In s.heap := e0.mod.kin.keeps fun b o e => (e0.bs b o e).1
  have lim : s.heap.NoLimit := e0.mod.nolimit.keeps fun b o e => (e0.bs b o e).1
  refine PySem.ks_codeAny_call_defAt (body := _) (binds := [("self" : Str), x].zip [Value.ref a, u]) hr.depth (KX _ _ lk) rfl lim (PySem.W.codeRec_of KX hcd) rfl hb S.cellN ?loc (fun h₁ hns kp => ?_) S.co S.gen S.kind
  case loc =>
    intro y hy
    have hy : y = (("self" : Str), Value.ref a) ∨ y = (x, u) := by simpa using hy
    rcases hy with rfl | rfl
    · exact S.slf
    · exact S.arg
  have I0 := a2w (P := P) (w := w) (q := q) (fI := fI) (cda := cda) (E := E) (tk := s.toks + ([("self" : Str), x].zip [Value.ref a, u]).length) e0 hr.hd S (by obtain ⟨cl, cld, csl, e⟩ := I.cell; exact ⟨cl, cld, _, csl, e⟩) r2 hns kp
  obtain ⟨cl, cld, csl, lcell⟩ := I.cell
  obtain ⟨ccl, cdd, vs, ccs, file, tf, lcode, hvs, hfile⟩ := I.code
  obtain ⟨nm, qn, N, bs, bm, sn, sub, ab, col, dd, k0, k1, k2, k3, k5, hC, hbm⟩ := I.T.cls
  obtain ⟨t0, hoe⟩ := exo_at I0.hok ha
  have X1 : K.In h₁ := I0.kIn
  refine PySem.ks_wpAt_execs_cons (PySem.ks_wpAt_Expr_any (PySem.ks_wpAt_MethodCall (PySem.ks_wpAt_super_base (env := PySem.W.ksEnv q scope s.heap.objs.size fI (.ref cda) cc) S.sup S.cls (by decide) rfl (X1 _ _ lk) rfl hp rfl (X1 _ _ lcode) rfl hvs hfile I.top ?_) (heq _)) I0.quiet)
  obtain ⟨mb, hm1, hm2⟩ := I0.mod.blt
  refine PySem.W.ks_loadName_global S.kind S.sup (Calls.loadGlobal_builtin (show Heap.Ns _ mainGlobals mg from I0.mod.glob.keeps I0.bk) I.sN (show Heap.Ns _ builtinsNs mb from hm1.keeps I0.bk) ((hm2 "super" (by decide)).trans (show bootBuiltins "super" = some (.type "super") by kernel_rfl)) ⟨rfl, ?_⟩)
  refine wpAny_loadName_free S.kind S.cls rfl ⟨_, X1 _ _ lcell, rfl⟩ ?_
  rw [har]
  have hself : (([("self" : Str), x].zip [Value.ref a, u]).reverse.lookup ("self" : Str)) = some (Value.ref a) := by
    have n : (("self" : Str) == x) = false := by simpa using Ne.symm S.ne
    show ([(x, u), (("self" : Str), Value.ref a)] : List (Str × Value)).lookup ("self" : Str) = some (Value.ref a)
    simp [List.lookup, n]
  refine wpAny_loadName_local S.kind S.slf hns hself ?_
  refine PySem.ks_wpAny_isType_cls (X1 _ _ hC) rfl ⟨rfl, ?_⟩
  refine PySem.ks_wpAny_call_super (X1 _ _ hC) rfl hoe rfl (fun c e => nomatch e) (PySem.W.looks_mroIn X1 I.subC) (fun h2 e2 k2 => ?_)
  have X2 : K.In h2 := X1.keeps k2
  obtain ⟨cd, hcd2, hsup⟩ : ∃ cd, PySem.W.clsIn K C = some cd ∧ PySem.W.alongIn K "__init__" ((cd.mro.dropWhile (· != .ref C)).drop 1) = some (some (.builtin "ValueError.__init__")) := by
    have z := I.sup
    unfold PySem.W.ks_superIn at z
    cases e : PySem.W.clsIn K C with
    | none => rw [e] at z; cases z
    | some cd => exact ⟨cd, rfl, by rw [e] at z; exact z⟩
  have hxC : a ≠ C := fun z => by
    rw [z] at hoe
    have y := X1 _ _ hC
    have y2 := Option.some.inj (hoe.symm.trans y)
    unfold excClassObj at y2
    injection y2 with _ _ y3 _
    cases y3
  have hI : PySem.W.Looks (model P w) h2 (isInstance (.ref a) (.type "ValueError")) true :=
    (PySem.W.InstAt.type (show PySem.W.InstAt h2 a _ C none from ⟨k2 _ _ hoe, rfl, rfl, trivial⟩)).andThen (PySem.W.looks_subIn X2 I.subB)
  refine PySem.W.kxs_getMethod PySem.W.kxs_ValueError e2 (PySem.W.looks_opaque X2 I.opq) (l₀ := cd.mro) (fun A Q E s k q => wpAny_bind ((PySem.W.looks_clsIn X2 hcd2) A _ E s k (wpAny_pure q))) rfl X2 hsup hI hxC (by decide) ?_
  have hx : (h2.push (PySem.W.kxs_mw "ValueError.__init__" a)).get? h2.objs.size = some (PySem.W.kxs_mw "ValueError.__init__" a) := Heap.get?_push_size _ rfl
  have I1 := (I0.kept (t' := s.toks + ([("self" : Str), x].zip [Value.ref a, u]).length) k2)
  have I2 := I1.kept (t' := s.toks + ([("self" : Str), x].zip [Value.ref a, u]).length + 1) (h' := h2.push (PySem.W.kxs_mw "ValueError.__init__" a)) fun b o z => Heap.get?_push_of_some _ z
  have I3 := I2.pins_of (pins' := [(h2.objs.size, PySem.W.kxs_mw "ValueError.__init__" a)]) fun p hp => by
    obtain rfl : p = (h2.objs.size, PySem.W.kxs_mw "ValueError.__init__" a) := by simpa using hp
    exact ⟨hx, I1.hok.fresh (Nat.le_refl _), Nat.ne_of_gt I1.lt, I1.nofs (Nat.le_refl _), fun v z => nomatch z⟩
  refine PySem.W.kxs_callWith (i := "ValueError.__init__") (x := a) rfl (Calls.evalArgs_plain (thn ((pa_cons pe_str pa_nil).run p4 _ _ _ H (fun vs H1 => vs = [.str m] ∧ H = H1) I3 ⟨rfl, rfl⟩) fun us s1 ⟨ws, H1, I4, rv, ev, eh⟩ => ?_))
  subst ev eh
  obtain ⟨um, rfl, rum⟩ := vals1 rv
  have hb4 : s1.heap.get? h2.objs.size = some (PySem.W.kxs_mw "ValueError.__init__" a) := (I4.pin (h2.objs.size, PySem.W.kxs_mw "ValueError.__init__" a) (List.mem_append_right _ List.mem_cons_self)).1
  refine ⟨hb4, ?_⟩
  obtain ⟨t4, ho4⟩ := exo_at I4.hok ha
  refine a5x (I4.kIn _ _ hC) ho4 hb4 (by rw [sizeLine_eq]; show 1 ≤ 16777216; decide) fun h5 k5' hx5 => ?_
  have J := I4.write (t' := s1.toks) (x := a) (e := a) (o := exo a C none) (by rw [ha]; exact True.intro) (.inl rfl) k5' ⟨_, hx5⟩ (exo_ok hx5)
  have eu : upd H a (exo a C none) = H := by
    funext b
    by_cases hb : b = a
    · rw [hb, upd_same, ha]
    · rw [upd_ne hb]
  rw [eu] at J
  have ho : PE (a34 P w K mg base x (PySem.W.ksEnv q scope s.heap.objs.size fI (.ref cda) cc) A outer s H E) (.Name "self" p6) (tVar 0) := pe_var (i := 0) rfl (.inl S.slf)
  have hv : PE (a34 P w K mg base x (PySem.W.ksEnv q scope s.heap.objs.size fI (.ref cda) cc) A outer s H E) (.Name x p8) (tVar 1) := pe_var (i := 1) rfl (.inl S.arg) hxd hxc
  refine PySem.ks_wpAt_execs_cons (wpAt_of_wpAny (wpAny_mono ((ps_ost ho hv (hsw _)).run _ _ _ H ⟨fun σ H' => Q .non H', fun _ _ => False, fun _ _ => False, fun _ _ => False⟩ J ?_) (fun fl s' hf => ?_) fun _ _ z => z))
  · exact ⟨v, rfl, .ref a, rfl, a, C, rfl, I.T, I.no, .inl ⟨ha, fun dx n ne => want dx n ne⟩⟩
  · cases fl with
    | next =>
      obtain ⟨σ', H', J2, q2⟩ := hf
      refine wpAt_of_wpAny (wpAny_execs_nil ?_)
      exact ⟨.non, H', J2.os, J2.bare, J2.base, J2.hok, rfl, q2⟩
    | ret u => obtain ⟨_, _, _, _, _, z⟩ := hf; exact z.elim
    | brk => obtain ⟨_, _, _, z⟩ := hf; exact z.elim
    | cont => obtain ⟨_, _, _, z⟩ := hf; exact z.elim
end Fx

namespace Fx
open PySem L2 PySem.Spec PyProof.Rows

/-- what is known of a class whose __init__ keeps the field f -/
def RaA (P : Program) (K : PySem.W.Frag) (mg : Str → Option Value) (C : Addr) (f : Str) : Prop :=
 OexC K C ∧ ∃ (fI : Addr) (fd : FuncData) (ps : List Str), PySem.W.findIn K (.ref C) "__init__" = some (some (.ref fI)) ∧ PySem.W.typeIn K (.ref fI) = some (.type "function") ∧ Binds K fd ps [] ∧
  ∀ (w : World) (base : Heap) (k : Nat), FnOk P w K mg base (L2.CX P w) k fI fd ps (a3M C f)
theorem a6V {P : Program} {w : World} {X : Cx} : Passes (L2.CX P w) X (fun _ _ _ => False) := fun _ _ _ _ _ _ _ h => by
 obtain ⟨_, _, _, _, _, _, _, _, _, _, _, _, z⟩ := h
 exact z.elim
abbrev a9a (C : Addr) (f : Str) (te : TE) : L2.St → Hp → XK → Prop := tMkO C (a3M C f) [] (tCons te tNil)
theorem X8 {X : Cx} {x f : Str} {C : Addr} {k : Nat} {e : Expr} {te : TE} {p pos : Pos} (R : RaA X.prog X.K X.mg C f) (hr : Room (k + 1) X.A) (hg : Gl X x) (hm : X.mg x = some (.ref C)) (he : PE X e te)
  (hdb : (x == ("__debug__" : Str)) = false := by decide) (hs : starEach [e] X.env = (false, eval e X.env) :: starEach [] X.env := by rfl) :
  PMk X (.Call (.Name x p) [e] [] pos) (a9a C f te) := by
 obtain ⟨T, fI, fd, ps, iC, tI, hb, hF⟩ := R
 exact pmk_oex (dvs := []) (ds := []) T iC tI (hF X.w X.base k) hr hb .nil a6V hg hm (pa_cons he pa_nil hs) hdb hs (by rfl)
theorem a1T {K : PySem.W.Frag} {C : Addr} (h : a8j K C = true) : ∃ nm q N bs bm sn sub ab col dd k0 k1 k2 k3 k5, K.lookup C = some (excClassObj nm q C N bs bm true sn sub ab col dd k0 k1 k2 k3 k5 "ValueError.__new__") ∧ PySem.HandSPX.refsVE bm = true := by
 unfold a8j at h
 split at h
 ·rename_i n dd cd sl ho
  obtain ⟨h0, g⟩ := He.ba h
  clear h
  have h0 := of_decide_eq_true h0
  subst h0
  split at g
  ·rename_i C' bm k0 k1 k2 k3 n k5 hm hs
   obtain ⟨h1, g⟩ := He.ba g
   obtain ⟨h2, g⟩ := He.ba g
   obtain ⟨h3, g⟩ := He.ba g
   obtain ⟨h4, h5⟩ := He.ba g
   have h1 := of_decide_eq_true h1
   have h2 := of_decide_eq_true h2
   subst h1 h2
   obtain ⟨nm, bs, mro, ns, qn, hd, sn, sub, ab, col, del⟩ := cd
   dsimp only at hm h3 h4
   subst hm h4
   have h3 : del = false := by cases del <;> first | rfl | cases h3
   subst h3
   have hsl : sl = #[k0, k1, k2, k3, some (.builtin "ValueError.__new__"), k5] := by
    obtain ⟨l⟩ := sl
    simp only at hs
    subst hs
    rfl
   subst hsl
   exact ⟨_, _, _, _, _, _, _, _, _, _, _, _, _, _, _, ho, h5⟩
  ·cases g
 ·cases h
theorem a0M {K : PySem.W.Frag} {C fI cc : Addr} {oc : Value} {od : Option Addr} {fd : FuncData} {sl : Array (Option Value)} {y : Str} (h : a5L K C fI = true) (l : K.lookup fI = some ⟨oc, od, .func fd, sl⟩) (hc : fd.closure = [(y, cc)]) :
  (∃ cl cld csl, K.lookup cc = some ⟨cl, cld, .cell (some (.ref C)), csl⟩) ∧ ∃ (cda : Addr), fd.code = .ref cda ∧ ∃ ccl cdd vs ccs tf, K.lookup cda = some ⟨ccl, cdd, .fields vs, ccs⟩ ∧ vs[2]? = some (.str "/claim/cut.py" tf) := by
 unfold a5L at h
 rw [l] at h
 dsimp only at h
 rw [hc] at h
 split at h
 ·rename_i y2 cc2 cda e1 e2
  cases e1
  obtain ⟨h1, h2⟩ := He.ba h
  constructor
  ·split at h1
   ·rename_i cl cld D csl e
    have h1 := of_decide_eq_true h1
    subst h1
    exact ⟨_, _, _, e⟩
   ·cases h1
  ·refine ⟨cda, e2, ?_⟩
   split at h2
   ·rename_i ccl cdd vs ccs e
    split at h2
    ·rename_i file tf e3
     have h2 := of_decide_eq_true h2
     subst h2
     exact ⟨_, _, _, _, _, e, e3⟩
    ·cases h2
   ·cases h2
 ·cases h
theorem O7 {P : Program} {K : PySem.W.Frag} {mg : Str → Option Value} {h : Heap} {C fI cc : Addr} {q x f m : Str} {j : Nat} {params : Arguments} {body : List Stmt} {scope : Scope} {dV kV doc pm cdv ct oc : Value} {an od : Option Addr} {osl : Array (Option Value)} {p0 p1 p2 p3 p4 p5 p6 p7 p8 p9 : Pos} {ar : Arg} {pl : Env → Sem Bool}
    (X : K.In h) (G : h.Ns mainGlobals mg) (hpf : (P.main.file : Str) = "/claim/cut.py") (htop : (P.main.scope.names.lookup ("super" : Str)).isSome = false)
    (iC : PySem.W.findIn K (.ref C) "__init__" = some (some (.ref fI))) (b : a1p K C fI f = true)
    (lk : K.lookup fI = some ⟨oc, od, .func (PySem.W.fnX "__init__" q params body scope [("__class__", cc)] dV kV doc pm an cdv ct), osl⟩) (hcd : PySem.W.codeIn K cdv q = true)
    (hbody : body = [.Expr (.Call (.Attribute (.Call (.Name "super" p0) [] [] p1) "__init__" p2) [.Constant (.str m) j p3] [] p4) p5, .Assign [.Attribute (.Name "self" p6) f p7] (.Name x p8) p9]) (S : a3U x scope = true)
    (hp : (params.posonlyargs ++ params.args).head? = some ar) (har : ar.arg = "self") (hxd : (x == ("__debug__" : Str)) = false) (hxc : (x == ("__classdict__" : Str)) = false)
    (heq : ∀ env, eval (.Call (.Attribute (.Call (.Name "super" p0) [] [] p1) "__init__" p2) [.Constant (.str m) j p3] [] p4) env = (do
      let ov ← attributeBase (.Call (.Name "super" p0) [] [] p1) "__init__" env (eval (.Call (.Name "super" p0) [] [] p1) env)
      standAt p2.atName
      let (f, first) ← holding [ov] (getMethod ov "__init__" (pl env))
      callWith p4 f first (backTo p4 (starEach [.Constant (.str m) j p3] env)) []))
    (hsw : ∀ env, swapsWith (.Name x p8) (some (.Attribute (.Name "self" p6) f p7)) p9.line env = pure false)
    (hb : Binds K (PySem.W.fnX "__init__" q params body scope [("__class__", cc)] dV kV doc pm an cdv ct) ["self", x] []) : RaA P K mg C f := by
  subst hbody
  unfold a1p at b
  obtain ⟨b1, b⟩ := He.ba b
  obtain ⟨b2, b⟩ := He.ba b
  obtain ⟨b3, b⟩ := He.ba b
  obtain ⟨b4, b⟩ := He.ba b
  obtain ⟨b5, b⟩ := He.ba b
  obtain ⟨b6, b⟩ := He.ba b
  obtain ⟨b7, b⟩ := He.ba b
  obtain ⟨b8, b⟩ := He.ba b
  obtain ⟨b9, b⟩ := He.ba b
  obtain ⟨b10, b⟩ := He.ba b
  obtain ⟨b11, b⟩ := He.ba b
  obtain ⟨b12, b13⟩ := He.ba b
  obtain ⟨hcell, cda, ecd, ccl, cdd, vs, ccs, tf, lcode, hvs⟩ := a0M b2 lk rfl
  have ecd : cdv = .ref cda := ecd
  subst ecd
  have T : OexC K C := ⟨a1T b1, He.eqO_ok b3, of_decide_eq_true b4, of_decide_eq_true b5, b6⟩
  refine ⟨T, fI, _, _, iC, of_decide_eq_true b13, hb, fun w base k => ?_⟩
  exact a1F (cda := cda) (cc := cc) ⟨T, iC, of_decide_eq_true b13, hcell, ⟨ccl, cdd, vs, ccs, _, tf, lcode, hvs, by rw [hpf]; decide⟩, He.eqO_ok b7, of_decide_eq_true b8, of_decide_eq_true b9, He.eqO_ok b10, PySem.W.mg_none_of X G (He.eqO_ok b11), htop, He.eqO_ok b12⟩
    (a2R S) hp har lk hcd hxd hxc heq hsw
end Fx

namespace Fx
open PySem L2 PySem.Spec PyProof.Rows
end Fx

namespace Fx
open PySem L2 PySem.Spec PyProof.Rows
end Fx

namespace Fx
open PySem L2 PySem.Spec PyProof.Rows
end Fx

namespace Fx
open PySem L2 PySem.Spec PyProof.Rows
end Fx

namespace Fx
open PySem L2 PySem.Spec PyProof.Rows
end Fx
namespace Fx
open PySem L2 PySem.Spec PyProof.Rows
end Fx

namespace Fx
open PySem PySem.Spec PyProof.Rows L2 Fq
end Fx

namespace Fq
open PySem PySem.Spec PyProof.Rows L2 Fx
def a8q (l : List (Option Nat)) : List Nat := l.filterMap id
end Fq

namespace Fq
open PySem PySem.Spec PyProof.Rows L2 Fx
end Fq

namespace Fq
open PySem PySem.Spec PyProof.Rows L2 Fx
end Fq

namespace Fq
open PySem PySem.Spec PyProof.Rows L2 Fx
end Fq
namespace Fx
open PySem
end Fx

namespace Fx
open PySem L2 PySem.Spec PyProof.Rows
end Fx

namespace Fx
open PySem L2 PySem.Spec PyProof.Rows LamX
section
variable {K : Ck} {W : WX}
theorem tab_of {P : Addr} {n : Str} {S : Sta} {B F0 F H : Hp} {ρ : List SD} {σ : L2.St} {g : Gs} (hm : (P, n) ∈ a6d K) (E : g9 K S B F0 F H ρ σ g) (ht : g.tt = true) : TabS H P n := by
 obtain ⟨q, rfl, hq⟩ := E.st
 have eT : (u0 q).T = q.2 := by obtain ⟨o, T⟩ := q; cases o <;> rfl
 have hne : q.2 ≠ [] := by
  have j := E.j
  obtain ⟨o, T⟩ := q
  cases o with
  | none => exact j.2.2 ht
  | some p => obtain ⟨d, l, c⟩ := p; exact j.2.2 ht
 obtain ⟨ps, h1, h2, h3⟩ := E.tb (P, n) (by rw [eT, hq hne]; exact hm)
 exact ⟨ps, h1, h2, fun pos cv hc => let ⟨c, e1, e2⟩ := h3 pos cv hc; ⟨c, e1, E.sub _ _ e2⟩⟩
end
noncomputable section
open Classical
end
end Fx

namespace Fx
open PySem L2
end Fx

namespace Fx
open PySem L2
end Fx

noncomputable section
namespace Fx
open PySem L2 RZ


end Fx

namespace Fx
open PySem L2 PySem.Spec PyProof.Rows
end Fx

namespace Fx
open PySem L2 PySem.Spec PyProof.Rows LamX
noncomputable section
open Classical
end
section
variable {γ : Type} {ρ : List SD} {g : Gs} {h : EFs} {M : R γ} {P : γ → Out → Prop} {fa fb fy fv : EF}
/-- the slots, written out -/
theorem a4R {ρ' : List SD} (e : ρ = ρ') (k : RG h ρ' g M P) : RG h ρ g M P := e ▸ k
end
end Fx

namespace Fx
open PySem L2 RZ PySem.Spec PyProof.Rows
end Fx

namespace Fx
open PySem L2 RZ PySem.Spec PyProof.Rows
end Fx

namespace Fx
open PySem L2 RZ PySem.Spec PyProof.Rows
end Fx

namespace Fx
open PySem L2
end Fx

namespace Fx
open PySem L2 PySem.Spec PyProof.Rows
/-- an exception that is made is known from now on -/
def a98 (t : L2.St → Hp → XK → Prop) : TE := fun σ H Q => t σ H fun cls d H' => ∀ a, H' a = none → Q (.ref a) (upd H' a (ErC cls d a))
theorem o6 {X : Cx} {e : Expr} {t : L2.St → Hp → XK → Prop} (hex : X.ex = []) (h : PMk X e t) : PE X e (a98 t) := by
 refine ⟨fun pins s σ H Q I hq => ?_⟩
 refine wpAny_mono (h pins s σ H _ I hq) (fun u s1 hu => ?_) fun _ _ x => x
 obtain ⟨a, oe, vs, sI, H', cls, d, rfl, J, k, hne, ha, hz, hd, h1, na, os, ag, _, q⟩ := hu
 have J1 : Inv X pins σ H' { sI with heap := s1.heap, toks := s1.toks } := J.kept (t' := s1.toks) k
 have J2 : Inv X pins σ H' s1 := ⟨J1.ok, os.trans J.os, ag, J1.base, J1.loc, J1.cell, J1.free, J1.freeC, J1.pin, J1.hok, J1.len⟩
 have ne : ∀ b o, sI.heap.get? b = some o → b ≠ a := fun b o e z => by rw [z, hne] at e; cases e
 refine ⟨.ref a, _, a3X J2 ha hz hd na ?_ ?_ (fun p hp => ne _ _ (J.pin p hp).1), rfl, q a na⟩
 ·obtain ⟨m, ⟨o, es, ep, ho, _⟩, _⟩ := J.loc
  exact (ne _ _ ho).symm
 ·cases e : X.s_0.heap.get? a with
  | none => rfl
  | some o =>
   obtain ⟨o', e'⟩ := J.base.there a o e (by rw [hex]; exact fun z => nomatch z)
   rw [hne] at e'; cases e'
/-- as functions of data -/
def a0U (nm : Str) : EF := fun _ g => .ok (.d (a0S nm [])) g
def X7 (nm f : Str) (fe : EF) : EF := fun ρ g => (v6 fe ρ g).bind fun x g1 => .ok (.d (a0S nm [(f, x)])) g1
section
variable {K : Ck} {W : WX}
theorem E5 {nm : Str} {C : Addr} (m : K.mg nm = some (.ref C)) : Sm K W (a98 fun _ H Q => Q (.ref C) none H) (a0U nm) := by
 intro S B F0 F H ρ σ g Pd Xd Q E hf k kx a ha
 have n := Ext.new (S := S) (o := ErC (.ref C) none a) E.sub ha
 exact k _ g _ _ _ hf n (J.new E.j ha) (Rp.exc (ds := []) upd_same m (.inl ⟨rfl, rfl⟩) .nil)
theorem y0 {nm f : Str} {C : Addr} {te : TE} {fe : EF} (m : K.mg nm = some (.ref C)) (h : Sm K W te fe) : Sm K W (a98 (a9a C f te)) (X7 nm f fe) := by
 intro S B F0 F H ρ σ g Pd Xd Q E hf k kx
 show te σ H _
 refine h.dat E (R.wp_bind.mp hf) kx fun x g1 v F1 H1 q e E1 r => ?_
 show ([v] : List V).length ≤ 1000 ∧ _
 refine ⟨by show 1 ≤ 1000; decide, fun a ha => ⟨a, v, rfl, upd_same, fun dx hdx ne => ⟨rfl, dx, [(f, v)], upd_same, ?_, ?_, ?_⟩⟩⟩
 ·rw [upd_ne ne, upd_same]
 ·rwa [upd_ne ne] at hdx
 ·have hd : H1 dx = none := by rwa [upd_ne ne] at hdx
  have eH : upd (L2.del (upd (upd (upd H1 a (exo a C none)) dx (exd dx [(f, v)])) a (exo a C (some dx))) a) dx (.xd [(f, v)]) = upd H1 dx (.xd [(f, v)]) := by
   funext b
   by_cases h1 : b = dx
   ·rw [h1, upd_same, upd_same]
   ·rw [upd_ne h1, upd_ne h1]
    by_cases h2 : b = a
    ·rw [h2, L2.del_same, ha]
    ·rw [L2.del_ne h2, upd_ne h2, upd_ne h1, upd_ne h2]
  rw [eH]
  have n := Ext.new (S := S) (o := .xd [(f, v)]) E1.sub hd
  have e1 := e.trans n E1.j
  intro b hb
  have n2 := Ext.new (S := S) (o := ErC (.ref C) (some dx) b) n.sub hb
  exact k _ g1 _ _ _ q (e1.trans n2 (J.new E1.j hd)) (J.new (J.new E1.j hd) hb) (Rp.exc (ds := [(f, x)]) upd_same m (.inr ⟨dx, rfl, n2.le _ _ upd_same⟩) (.cons ((r.mono n.le).mono n2.le) .nil))
end
end Fx

namespace PySem.HandSPX
open PySem PySem.Spec PyProof.Rows Builtin Builtin.ObjectAttr
section
variable {M : Model} {A : Around} {E : Value → Shared → Prop} {h : Heap} {g : Array GenState} {d : Drawn} {t : Nat} {os : OsState}
variable {nm q : Str} {C N : Addr} {bs bm bmB : List Value} {hdct : Bool} {sn : List Str} {sub : List Value} {ab : Bool} {col : Option Bool} {dd : Option Addr} {k0 k1 k2 k3 k5 : Option Value} {B newId initId : String}
theorem S3 (F : ExcBaseFacts B newId initId bmB) (hT : ∀ X : String, bm.contains (.type X) = bmB.contains (.type X)) {kw : List (Str × Value)} {Q : Unit → Shared → Prop}
  (hC : h.get? C = some (excClassObj nm q C N bs bm hdct sn sub ab col dd k0 k1 k2 k3 k5 newId)) (hq : Q () ⟨h, g, d, t, os⟩) : wpAny M A (checkBuiltinCall newId ⟨[.ref C], kw⟩) Q E ⟨h, g, d, t, os⟩ := by
 have hcont : (Value.ref C :: bm).contains (.type B) = true := by rw [List.contains_cons, hT, F.hasB, Bool.or_true]
 have hstar := F.noStar
 simp only [checkBuiltinCall, F.newKind, F.newSplit, F.newRow]
 repeat (first | refine wpAny_loadPart_at hC ?_ | (refine wpAny_isSubtype_exc hC ?_; rw [hcont]) | refine wpAny_staticBase_exc hC ?_ | refine wpAny_madeBy_exc hC ?_ | simp only [bne_self_eq_false, Bool.false_eq_true, if_false] | wp_step)
 exact hq
end
section
variable {prog : Program} {w : World} {A : Around} {E : Value → Shared → Prop} {R : Result → Shared → Prop} {h : Heap} {g : Array GenState} {d : Drawn} {t : Nat} {os : OsState}
variable {nm q : Str} {C N : Addr} {bs bm bmB : List Value} {hdct : Bool} {sn : List Str} {sub : List Value} {ab : Bool} {col : Option Bool} {dd : Option Addr} {k0 k1 k2 k3 k5 : Option Value} {B newId initId : String}
theorem a3P (F : ExcBaseFacts B newId initId bmB) (hT : ∀ X : String, bm.contains (.type X) = bmB.contains (.type X)) {kw : List (Str × Value)}
    (hC : h.get? C = some (excClassObj nm q C N bs bm hdct sn sub ab col dd k0 k1 k2 k3 k5 newId))
    (hq : R (.ok (.ret (.ref (h.objs.size + 1)))) ⟨(h.push { cls := .type "tuple", data := .seq ([] : List Value).toArray }).push
      { cls := .ref C, data := .fields #[.ref h.objs.size, .none, .none, .none, .bool false, .none] }, g, d, t, os⟩) :
    codeAny (model prog w) A (.builtin newId ⟨[.ref C], kw⟩) R ⟨h, g, d, t, os⟩ := by
  have hends := F.ends
  have hrest : ([] : List Value).length ≤ sizeLine := Nat.zero_le _
  have hcB : (Value.ref C :: bm).contains (.type B) = true := by rw [List.contains_cons, hT, F.hasB, Bool.or_true]
  have hcA : (Value.ref C :: bm).contains (.type "AttributeError") = false := by rw [List.contains_cons, hT, F.noAttr]; rfl
  have hcN : (Value.ref C :: bm).contains (.type "NameError") = false := by rw [List.contains_cons, hT, F.noName]; rfl
  refine codeAny_builtinAt F.entry ?_
  unfold Builtin.«BaseException.__new__»
  refine wpAt_bind ?_
  show wpAt _ _ _ (stack >>= _) _ _ _
  refine wpAt_bind (wpAt_stack fun p below => wpAt_of_wpAny ?_)
  wp_walk
  refine wpAt_of_wpAny ?_
  rw [F.owner]
  repeat (first | with_reducible refine wpAny_madeHere_exc F.canon hC ?_ | with_reducible refine wpAny_loadPart_at hC ?_ | (with_reducible refine wpAny_isSubtype_exc hC ?_; first | rw [hcB] | rw [hcA] | rw [hcN]) | wp_step)
  show R _ _
  rw [Heap.size_push]
  exact hq
theorem S1 (F : ExcBaseFacts B newId initId bmB) (hT : ∀ X : String, bm.contains (.type X) = bmB.contains (.type X)) {kw : List (Str × Value)} {fI : Addr} {Q : Fin → Shared → Prop}
    (hC : h.get? C = some (excClassObj nm q C N bs bm hdct sn sub ab col dd k0 k1 k2 k3 k5 newId))
    (hi : W.Looks (model prog w) h (typeLookup (.ref C) "__init__") (some (.ref fI))) (hb : ∀ self, W.Looks (model prog w) h (bindSpecial (.ref fI) self) (.ref fI, [self]))
    (hq : codeAny (model prog w) A (.call (.ref fI) ⟨[.ref (h.objs.size + 1)], kw⟩)
      (fun r s' => match r with | .ok (.ret v) => v = .none ∧ Q (.done (.ret (.ref (h.objs.size + 1)))) s' | .ok _ => False | .error e => E e s')
      ⟨(h.push (W.kdv_tup [])).push (excO C h.objs.size), g, d, t, os⟩) :
    wpAny (model prog w) A (Builtin.«type.__call__» ⟨[.ref C], kw⟩) Q E ⟨h, g, d, t, os⟩ := by
  repeat (first | with_reducible refine wpAny_loadPart_at hC ?_ | with_reducible refine wpAny_madeBy_exc hC ?_ | wp_step)
  refine codeAny_call_builtin_code (Code.quiet_builtin _ F.quiet) (S3 F hT hC ?_)
  refine a3P F hT hC ?_
  show wpAny _ _ _ _ _ _
  have k : ∀ b o, h.get? b = some o → ((h.push (W.kdv_tup [])).push (excO C h.objs.size)).get? b = some o := fun b o e => Heap.get?_push_of_some _ (Heap.get?_push_of_some _ e)
  have hC₁ := k _ _ hC
  have hget : ((h.push (W.kdv_tup [])).push (excO C h.objs.size)).get? (h.objs.size + 1) = some (excO C h.objs.size) := by heap_get
  have hcC : (Value.ref C :: bm).contains (.ref C) = true := by simp
  have i1 := hi.keeps k
  have b1 := (hb (.ref (h.objs.size + 1))).keeps k
  unfold isInstance
  repeat (first | with_reducible refine wpAny_loadPart_at hget ?_ | (with_reducible refine wpAny_isSubtype_exc hC₁ ?_; rw [hcC]) | wp_step)
  show wpAny _ _ (typeLookup (.ref C) _) _ _ _
  refine i1.at ?_
  refine wpAny_holding (wpAny_bind (b1.at ?_))
  refine wpAny_bind (wpAny_call (codeAny_mono hq fun r s' z => ?_))
  rcases r with e | (v | _ | _ | _) <;> first | exact z | exact z.elim | skip
  obtain ⟨rfl, z⟩ := z
  first
    | exact wpAny_pure (wpAny_pure z)
    | (wp_walk; exact z)
theorem a2g (F : ExcBaseFacts B newId initId bmB) (hT : ∀ X : String, bm.contains (.type X) = bmB.contains (.type X)) {kw : List (Str × Value)} {fI : Addr}
    (hC : h.get? C = some (excClassObj nm q C N bs bm hdct sn sub ab col dd k0 k1 k2 k3 k5 newId))
    (hi : W.Looks (model prog w) h (typeLookup (.ref C) "__init__") (some (.ref fI))) (hb : ∀ self, W.Looks (model prog w) h (bindSpecial (.ref fI) self) (.ref fI, [self]))
    (hq : codeAny (model prog w) (A.under (.builtin "type.__call__" ⟨[.ref C], kw⟩)) (.call (.ref fI) ⟨[.ref (h.objs.size + 1)], kw⟩) (W.InitBack (h.objs.size + 1) R)
      ⟨(h.push (W.kdv_tup [])).push (excO C h.objs.size), g, d, t, os⟩) :
    codeAny (model prog w) A (.call (.ref C) ⟨[], kw⟩) R ⟨h, g, d, t, os⟩ := by
  have f1 := tc_lookup
  have f2 := tc_bind (.ref C)
  have hTy : (⟨h, g, d, t, os⟩ : Shared).TypeIs (.ref C) "type" := ⟨_, hC, rfl⟩
  refine codeAny_of_tree ?_
  show wpAny _ _ (callAny (.ref C) _) _ _ _
  repeat (any_goals (first | assumption | with_reducible refine wpAny_loadPart_at hC ?_ | wp_step))
  refine ⟨rfl, ?_⟩
  refine codeAny_call_builtin_at (Code.quiet_builtin _ (by decide +kernel)) entry_typeCall (wpAny_check_type_call_sub hC (S1 F hT hC hi hb ?_))
  refine codeAny_mono hq fun r s' z => ?_
  rcases r with e | (v | _ | _ | _) <;> exact z
end
end PySem.HandSPX
namespace Fx
open PySem L2 PySem.Spec PyProof.Rows
open PySem.HandSPX
/-- what is known of a class whose __init__ keeps the field f, its argument told by name -/
def RaK (P : Program) (K : PySem.W.Frag) (mg : Str → Option Value) (C : Addr) (f : Str) : Prop :=
 OexC K C ∧ ∃ (fI : Addr) (fd : FuncData) (ps : List Str), PySem.W.findIn K (.ref C) "__init__" = some (some (.ref fI)) ∧ PySem.W.typeIn K (.ref fI) = some (.type "function") ∧ (∀ (s : Shared) (u v : Value), K.In s.heap → BindsTo s fd ⟨[u], [(f, v)]⟩ (ps.zip [u, v])) ∧
  ∀ (w : World) (base : Heap) (k : Nat), FnOk P w K mg base (L2.CX P w) k fI fd ps (a3M C f)
theorem O8 {X : Cx} {x f : Str} {C : Addr} {k : Nat} {e : Expr} {te : TE} {p pos kp : Pos} (R : RaK X.prog X.K X.mg C f) (hr : Room (k + 1) X.A) (hg : Gl X x) (hm : X.mg x = some (.ref C)) (he : PE X e te)
  (hdb : (x == ("__debug__" : Str)) = false := by decide)
  (hall : (backToKw pos (keywordEach [⟨some f, e, kp⟩] X.env)).all (·.1.isSome) = true := by rfl) (hks : (backToKw pos (keywordEach [⟨some f, e, kp⟩] X.env)).filterMap (·.1) = [f] := by rfl)
  (hpl : ((backTo pos (starEach [] X.env)).any (·.1) || (backToKw pos (keywordEach [⟨some f, e, kp⟩] X.env)).any (·.1.isNone)) = false := by rfl) :
  PMk X (.Call (.Name x p) [] [⟨some f, e, kp⟩] pos) (a9a C f te) := by
 intro pins s σ H Q I h
 obtain ⟨T, fI, fd, ps, iC, tI, hb, hF⟩ := R
 have F1 := hF X.w X.base k
 obtain ⟨nm, q, N, bs, bm, sn, sub, ab, col, dd, k0, k1, k2, k3, k5, hC, hbm⟩ := T.cls
 refine wpAny_Call_Name_kw (ld_glob I hg hm ?_ hdb)
 have hkw : PK X [⟨some f, e, kp⟩] (tCons te tNil) := pk_cons he pk_nil
 refine PySem.W.callWith_KW0 (h₀ := X.base) I.ok.mod.kin T.kC hall (thn (hkw.run pos pins s σ H _ I h) fun us s1 ⟨vs, H1, I1, r1, hz, q1⟩ => ⟨I1.kIn, ?_⟩) hpl
 rw [hks]
 show wpAny _ _ (call (.ref C) [] (([f] : List Str).zip us)) _ _ _
 obtain ⟨hp, g, dr, tk, os⟩ := s1
 have hsz : hp.objs.size ≤ hp.objs.size + 1 := Nat.le_succ _
 have hn : H1 (hp.objs.size + 1) = none := I1.hok.fresh hsz
 have hq := q1 (hp.objs.size + 1) hn
 rw [List.append_nil] at hq
 have kk : ∀ b o, hp.get? b = some o → ((hp.push (PySem.W.kdv_tup [])).push (PySem.HandSPX.excO C hp.objs.size)).get? b = some o := fun b o e => Heap.get?_push_of_some _ (Heap.get?_push_of_some _ e)
 have hget : ((hp.push (PySem.W.kdv_tup [])).push (PySem.HandSPX.excO C hp.objs.size)).get? (hp.objs.size + 1) = some (PySem.HandSPX.excO C hp.objs.size) := by heap_get
 have I2 : Inv X pins σ (upd H1 (hp.objs.size + 1) (exo (hp.objs.size + 1) C none)) ⟨(hp.push (PySem.W.kdv_tup [])).push (PySem.HandSPX.excO C hp.objs.size), g, dr, tk, os⟩ :=
  I1.laid (t' := tk) (a := hp.objs.size + 1) (o := exo (hp.objs.size + 1) C none) (h' := (hp.push (PySem.W.kdv_tup [])).push (PySem.HandSPX.excO C hp.objs.size)) kk hsz (exo_ok hget)
 have r2 : Vals (V.ref (hp.objs.size + 1) :: vs) (Value.ref (hp.objs.size + 1) :: us) := .cons rfl r1
 have two : ∃ u, us = [u] := by
  obtain ⟨a, v, e1, _⟩ := hq
  have e1 : V.ref (hp.objs.size + 1) :: vs = [V.ref a, v] := e1
  have l := congrArg List.length e1
  have l2 := r1.length
  simp only [List.length_cons, List.length_nil] at l
  match us, l2 with
  | [u], _ => exact ⟨u, rfl⟩
  | [], z => simp only [List.length_nil] at z; omega
  | _ :: _ :: _, z => simp only [List.length_cons] at z; omega
 obtain ⟨u1, rfl⟩ := two
 have b2 := hb _ (Value.ref (hp.objs.size + 1)) u1 I2.kIn
 refine wpAny_call (a2g F.excBase_ValueError (fun Y => PySem.HandSPX.refsVE_contains Y bm hbm) (I1.kIn _ _ hC) (PySem.W.looks_findIn I1.kIn iC) (fun self => PySem.W.bind_fn I1.kIn self tI)
  (codeAny_mono (F1.run _ X.stack _ _ ⟨[Value.ref (hp.objs.size + 1)], [(f, u1)]⟩ [Value.ref (hp.objs.size + 1), u1] _ _ (fun _ _ _ => False) (hr.make C [] [(f, u1)]) (I2.env0.make C [] [(f, u1)]) b2 r2 hq) fun r s' hq' => ?_))
 cases r with
 | error er => exact a6V pins σ _ _ er s' I2 hq'
 | ok fl =>
  cases fl with
  | ret u =>
   obtain ⟨v, H2, os2, bare2, un2, hok2, rv, ev, d, fs, ea, ed, hd1, q2⟩ := hq'
   subst ev
   obtain ⟨h2, g2, d2, t2, os'⟩ := s'
   exact ⟨rv, mk_end (raises_own T.exC T.tyC) I1 hsz kk un2 hok2 os2 bare2 ea ed hd1 q2⟩
  | next => exact False.elim hq'
  | brk => exact False.elim hq'
  | cont => exact False.elim hq'
theorem P0 {P : Program} {K : PySem.W.Frag} {mg : Str → Option Value} {h : Heap} {C fI cc : Addr} {q x f m : Str} {j : Nat} {params : Arguments} {body : List Stmt} {scope : Scope} {dV kV doc pm cdv ct oc : Value} {an od : Option Addr} {osl : Array (Option Value)} {p0 p1 p2 p3 p4 p5 p6 p7 p8 p9 : Pos} {ar : Arg} {pl : Env → Sem Bool}
    (X : K.In h) (G : h.Ns mainGlobals mg) (hpf : (P.main.file : Str) = "/claim/cut.py") (htop : (P.main.scope.names.lookup ("super" : Str)).isSome = false)
    (iC : PySem.W.findIn K (.ref C) "__init__" = some (some (.ref fI))) (b : a1p K C fI f = true)
    (lk : K.lookup fI = some ⟨oc, od, .func (PySem.W.fnX "__init__" q params body scope [("__class__", cc)] dV kV doc pm an cdv ct), osl⟩) (hcd : PySem.W.codeIn K cdv q = true)
    (hbody : body = [.Expr (.Call (.Attribute (.Call (.Name "super" p0) [] [] p1) "__init__" p2) [.Constant (.str m) j p3] [] p4) p5, .Assign [.Attribute (.Name "self" p6) f p7] (.Name x p8) p9]) (S : a3U x scope = true)
    (hp : (params.posonlyargs ++ params.args).head? = some ar) (har : ar.arg = "self") (hxd : (x == ("__debug__" : Str)) = false) (hxc : (x == ("__classdict__" : Str)) = false)
    (heq : ∀ env, eval (.Call (.Attribute (.Call (.Name "super" p0) [] [] p1) "__init__" p2) [.Constant (.str m) j p3] [] p4) env = (do
      let ov ← attributeBase (.Call (.Name "super" p0) [] [] p1) "__init__" env (eval (.Call (.Name "super" p0) [] [] p1) env)
      standAt p2.atName
      let (f, first) ← holding [ov] (getMethod ov "__init__" (pl env))
      callWith p4 f first (backTo p4 (starEach [.Constant (.str m) j p3] env)) []))
    (hsw : ∀ env, swapsWith (.Name x p8) (some (.Attribute (.Name "self" p6) f p7)) p9.line env = pure false)
    (hb : ∀ (s : Shared) (u v : Value), K.In s.heap → BindsTo s (PySem.W.fnX "__init__" q params body scope [("__class__", cc)] dV kV doc pm an cdv ct) ⟨[u], [(f, v)]⟩ ((["self", x] : List Str).zip [u, v])) : RaK P K mg C f := by
  subst hbody
  unfold a1p at b
  obtain ⟨b1, b⟩ := He.ba b
  obtain ⟨b2, b⟩ := He.ba b
  obtain ⟨b3, b⟩ := He.ba b
  obtain ⟨b4, b⟩ := He.ba b
  obtain ⟨b5, b⟩ := He.ba b
  obtain ⟨b6, b⟩ := He.ba b
  obtain ⟨b7, b⟩ := He.ba b
  obtain ⟨b8, b⟩ := He.ba b
  obtain ⟨b9, b⟩ := He.ba b
  obtain ⟨b10, b⟩ := He.ba b
  obtain ⟨b11, b⟩ := He.ba b
  obtain ⟨b12, b13⟩ := He.ba b
  obtain ⟨hcell, cda, ecd, ccl, cdd, vs, ccs, tf, lcode, hvs⟩ := a0M b2 lk rfl
  have ecd : cdv = .ref cda := ecd
  subst ecd
  have T : OexC K C := ⟨a1T b1, He.eqO_ok b3, of_decide_eq_true b4, of_decide_eq_true b5, b6⟩
  refine ⟨T, fI, _, _, iC, of_decide_eq_true b13, hb, fun w base k => ?_⟩
  exact a1F (cda := cda) (cc := cc) ⟨T, iC, of_decide_eq_true b13, hcell, ⟨ccl, cdd, vs, ccs, _, tf, lcode, hvs, by rw [hpf]; decide⟩, He.eqO_ok b7, of_decide_eq_true b8, of_decide_eq_true b9, He.eqO_ok b10, PySem.W.mg_none_of X G (He.eqO_ok b11), htop, He.eqO_ok b12⟩
    (a2R S) hp har lk hcd hxd hxc heq hsw
end Fx

namespace Fx
open PySem L2 PySem.Spec PyProof.Rows LamX
def s9 (es : List Str) (nm : Str) (fe : EF) : EF := fun ρ g => (v6 fe ρ g).bind fun x g1 => match erM es x with
 | some n => .ok (.d (.bool (e9 n nm))) g1
 | none => .bad
def a0Y (es : List Str) (fe : EF) : EF := fun ρ g => (v6 fe ρ g).bind fun x g1 => match erM es x with
 | some _ => .ok (.d (.bool true)) g1
 | none => .bad
section
variable {K : Ck} {W : WX}
theorem k8 {es : List Str} {nm : Str} {C : Addr} {te : TE} {fe : EF} (A : a3A K es) (hi : nm ∈ es) (hm : K.mg nm = some (.ref C)) (h : Sm K W te fe) : Sm K W (tCB (a5l K.K) (tCons te (tCons (tC (.ref C)) tNil))) (s9 es nm fe) := by
 intro S B F0 F H ρ σ g Pd Xd Q E hf k kx
 refine h.dat E (R.wp_bind.mp hf) kx fun x g1 v F1 H1 q e E1 r => ?_
 split at q
 ·rename_i n en
  obtain ⟨hn, a, D, d, fs, ds, rfl, hF, mD, hd, _, _⟩ := a4x r en
  exact .inl ⟨a, D, d, _, .ref C, _, rfl, (fun u r => r), E1.sub _ _ hF, a2o E1.sub hd, A.one _ hn _ mD, A.two _ hn _ hi _ _ mD hm, k _ g1 _ F1 H1 q e E1.j (Rp.bl _)⟩
 ·exact q.elim
theorem a42 {es : List Str} {te : TE} {fe : EF} (A : a3A K es) (h : Sm K W te fe) : Sm K W (tCB (a5l K.K) (tCons te (tCons (tC (.ty "ValueError")) tNil))) (a0Y es fe) := by
 intro S B F0 F H ρ σ g Pd Xd Q E hf k kx
 refine h.dat E (R.wp_bind.mp hf) kx fun x g1 v F1 H1 q e E1 r => ?_
 split at q
 ·rename_i n en
  obtain ⟨hn, a, D, d, fs, ds, rfl, hF, mD, hd, _, _⟩ := a4x r en
  exact .inl ⟨a, D, d, _, .type "ValueError", _, rfl, (fun u r => r), E1.sub _ _ hF, a2o E1.sub hd, A.one _ hn _ mD, A.val _ hn _ mD, k _ g1 _ F1 H1 q e E1.j (Rp.bl _)⟩
 ·exact q.elim
end
abbrev ErP := Str × List (Str × PyData)
def eX (p : ErP) : PyData := a0S p.1 p.2
def xA (f : Str) (p : ErP) : PyData := (w7 f (I7 p.2)).getD .none
section
variable {ρ : List SD} {g : Gs} {fe : EF} {es : List Str}
theorem a4z {p : ErP} (h : p.1 ∈ es) : erM es (eX p) = some p.1 := a5T h
theorem o5 {nm : Str} {p : ErP} (ha : v6 fe ρ g = .ok (eX p) g) (k : p.1 ∈ es) : s9 es nm fe ρ g = .ok (.d (.bool (e9 p.1 nm))) g := by
 unfold s9
 rw [ha]
 show (match erM es (eX p) with | some n => R.ok (RV.d (.bool (e9 n nm))) g | none => .bad) = _
 rw [a4z k]
theorem a5j {p : ErP} (ha : v6 fe ρ g = .ok (eX p) g) (k : p.1 ∈ es) : a0Y es fe ρ g = .ok (.d (.bool true)) g := by
 unfold a0Y
 rw [ha]
 show (match erM es (eX p) with | some n => R.ok (RV.d (.bool true)) g | none => .bad) = _
 rw [a4z k]
theorem P1 {nm : Str} : a0U nm ρ g = .ok (.d (eX (nm, []))) g := rfl
theorem H9 {nm f : Str} {x : PyData} (ha : v6 fe ρ g = .ok x g) : X7 nm f fe ρ g = .ok (.d (eX (nm, [(f, x)]))) g := by
 unfold X7
 rw [ha]; rfl
theorem a0c {f : Str} {p : ErP} (ha : v6 fe ρ g = .ok (eX p) g) (k : p.1 ∈ es ∧ (w7 f (I7 p.2)).isSome = true) : W7 es f fe ρ g = .ok (.d (eA (xA f p))) g := by
 obtain ⟨k1, k2⟩ := k
 unfold W7
 rw [ha]
 show (match a2v (a0S p.1 p.2) with | some (n, ks) => if n ∈ es then R.ofO ((w7 f ks).map RV.d) g else .bad | none => .bad) = _
 rw [Q5]
 simp only
 rw [if_pos k1]
 unfold xA
 cases q : w7 f (I7 p.2) with
 | none => rw [q] at k2; cases k2
 | some y => rfl
end
end Fx

noncomputable section
namespace Hd
open PySem PySem.Spec PyProof.Rows L2 Fx
theorem a7M {K : PySem.W.Frag} {d : DX} (n4 : d.kd.beq 4 = false) (e : fnX K (d.ad K) = d.val) (c : d.ok K = true) :
  ∃ oc od osl dV kV doc pm an cdv ct, K.lookup (d.ad K) = some ⟨oc, od, .func (PySem.W.fnOf d.nm d.qual d.params d.body d.scope dV kV doc pm an cdv ct), osl⟩ ∧ PySem.W.codeIn K cdv d.qual = true ∧ a00 K dV d.dfl = true := by
 obtain ⟨_, c2⟩ := He.ba c
 unfold fnX at e
 cases q : K.lookup (d.ad K) with
 | none =>
  rw [q] at c2
  cases c2
 | some o =>
  obtain ⟨oc, od, dt, osl⟩ := o
  rw [q] at c2 e
  cases dt with
  | func fd =>
   obtain ⟨n1, n2, n3, m4, n5, n6, n7, n8, n9, n10, n11, n12, n13, n14, n15⟩ := fd
   have e2 : (some (n1, n2, n3, m4, n5, n6, n7.map fun p => (p.1, 0), n15) : He.FnW) = (some (d.nm, d.qual, d.params, .stmts d.body, d.scope, mainGlobals, if d.kd.beq 4 = true then [("__class__", 0)] else [], builtinsNs) : He.FnW) := e
   rw [n4] at e2
   simp only [Option.some.injEq, Prod.mk.injEq] at e2
   obtain ⟨h1, h2, h3, h4, h5, h6, h7, h8⟩ := e2
   have h7 : n7 = [] := List.map_eq_nil_iff.mp h7
   subst h1 h2 h3 h4 h5 h6 h7 h8
   obtain ⟨k1, k2⟩ := He.ba (show (PySem.W.codeIn K n13 d.qual && a00 K n8 d.dfl) = true from c2)
   exact ⟨oc, od, osl, n8, n9, n10, n11, n12, n13, n14, rfl, k1, k2⟩
  | _ => cases c2
theorem a64 {K : PySem.W.Frag} {d : DX} (n4 : d.kd.beq 4 = true) (e : fnX K (d.ad K) = d.val) (c : d.ok K = true) :
  ∃ cc oc od osl dV kV doc pm an cdv ct, K.lookup (d.ad K) = some ⟨oc, od, .func (PySem.W.fnX d.nm d.qual d.params d.body d.scope [("__class__", cc)] dV kV doc pm an cdv ct), osl⟩ ∧ PySem.W.codeIn K cdv d.qual = true ∧ a00 K dV d.dfl = true := by
 obtain ⟨_, c2⟩ := He.ba c
 unfold fnX at e
 cases q : K.lookup (d.ad K) with
 | none =>
  rw [q] at c2
  cases c2
 | some o =>
  obtain ⟨oc, od, dt, osl⟩ := o
  rw [q] at c2 e
  cases dt with
  | func fd =>
   obtain ⟨n1, n2, n3, m4, n5, n6, n7, n8, n9, n10, n11, n12, n13, n14, n15⟩ := fd
   have e2 : (some (n1, n2, n3, m4, n5, n6, n7.map fun p => (p.1, 0), n15) : He.FnW) = (some (d.nm, d.qual, d.params, .stmts d.body, d.scope, mainGlobals, if d.kd.beq 4 = true then [("__class__", 0)] else [], builtinsNs) : He.FnW) := e
   rw [n4, if_pos rfl] at e2
   simp only [Option.some.injEq, Prod.mk.injEq] at e2
   obtain ⟨h1, h2, h3, h4, h5, h6, h7, h8⟩ := e2
   obtain ⟨cc, h7⟩ : ∃ cc : Addr, n7 = [(("__class__" : Str), cc)] := by
    cases n7 with
    | nil => cases h7
    | cons p r =>
     obtain ⟨y, cc⟩ := p
     rw [List.map_cons] at h7
     have h8 := List.cons.inj h7
     have h9 : r = [] := List.map_eq_nil_iff.mp h8.2
     have h10 : y = "__class__" := congrArg Prod.fst h8.1
     exact ⟨cc, by rw [h9, h10]⟩
   subst h1 h2 h3 h4 h5 h6 h7 h8
   obtain ⟨k1, k2⟩ := He.ba (show (PySem.W.codeIn K n13 d.qual && a00 K n8 d.dfl) = true from c2)
   exact ⟨cc, oc, od, osl, n8, n9, n10, n11, n12, n13, n14, rfl, k1, k2⟩
  | _ => cases c2
theorem a2W {K : PySem.W.Frag} {v : Value} {n : Nat} (hn : n = 0) (h : a00 K v n = true) : v = .none := by
 subst hn
 cases v with
 | none => rfl
 | _ => cases h
theorem S5 {K : PySem.W.Frag} {f : Addr} : Fx.tabOf K f = (w5 K f).map (·.2) := by
 unfold Fx.tabOf w5
 cases K.lookup f with
 | none => rfl
 | some o =>
  obtain ⟨oc, od, dt, sl⟩ := o
  cases dt with
  | func fd =>
   dsimp only
   generalize fd.code = cv
   cases cv with
   | ref c =>
    dsimp only
    cases K.lookup c with
    | none => rfl
    | some o2 =>
     obtain ⟨oc2, od2, dt2, sl2⟩ := o2
     cases dt2 with
     | fields vs =>
      dsimp only
      generalize (vs[11]? : Option Value) = q
      cases q with
      | none => rfl
      | some v => cases v <;> rfl
     | _ => rfl
   | _ => rfl
  | _ => rfl
theorem a2E {K : PySem.W.Frag} {h : Heap} {c P : Addr} (X : K.In h) (e : R0 K c P = true) : PySem.W.CodeHd h c P := by
 unfold R0 at e
 split at e
 ·rename_i n od vs sl l
  obtain ⟨e1, e⟩ := He.ba e
  obtain ⟨e2, e⟩ := He.ba e
  obtain ⟨e3, e⟩ := He.ba e
  obtain ⟨e4, e⟩ := He.ba e
  obtain ⟨e5, e⟩ := He.ba e
  obtain ⟨e6, e7⟩ := He.ba e
  have e1 := of_decide_eq_true e1
  subst e1
  split at e2
  ·rename_i P' q
   have e2 := Nat.eq_of_beq_eq_true e2
   subst e2
   split at e3
   ·rename_i x3 t3 q3
    split at e4
    ·rename_i x4 t4 q4
     split at e5
     ·rename_i x5 q5
      split at e6
      ·rename_i x6 t6 q6
       refine ⟨_, vs, x3, t3, x4, t4, x5, x6, t6, X _ _ l, rfl, rfl, q, ?_, q3, q4, q5, q6, fun z => ?_⟩
       ·rw [Array.getD_eq_getD_getElem?, q]; rfl
       ·rw [z, Nat.beq_refl] at e7; cases e7
      ·cases e6
     ·cases e5
    ·cases e4
   ·cases e3
  ·cases e2
 ·cases e
theorem tab_of {T : PySem.W.Frag} {h : Heap} {P : Addr} (X : T.In h) (e : tabAt T P = true) : h.get? P = some { cls := .none, data := .fields #[] } := by
 unfold tabAt at e
 split at e
 ·rename_i vs sl l
  obtain ⟨e1, e2⟩ := He.ba e
  have e1 := Array.eq_empty_of_size_eq_zero (Nat.eq_of_beq_eq_true e1)
  have e2 := Array.eq_empty_of_size_eq_zero (Nat.eq_of_beq_eq_true e2)
  subst e1 e2
  exact X _ _ l
 ·cases e
theorem a2U : ∀ {l : List Nat}, a9m l = true → l.Nodup
 | [], _ => List.nodup_nil
 | a :: r, h => by
  obtain ⟨h1, h2⟩ := He.ba h
  refine List.nodup_cons.mpr ⟨fun m => ?_, a2U h2⟩
  have : r.any (Nat.beq a) = true := List.any_eq_true.mpr ⟨a, m, Nat.beq_refl a⟩
  rw [this] at h1
  cases h1
theorem obsG_eq {xs : List Str} {B : PySem.W.Frag → List Bool} {ds : List DX} {g : Addr → Option Obj} {s : Shared} (h : ∀ a, g a = s.heap.get? a) : obsG xs B ds g = (hookX xs B ds).obs s := by
 have e : g = s.heap.get? := funext h
 rw [e] <;> rfl
section
variable {B : PySem.W.Frag → List Bool} {ds : List DX} {K T : PySem.W.Frag}
theorem SaysX.fact (c : SaysX B ds K T) (i : Nat) {b : Bool} (h : (B K)[i]? = some b) : b = true := by
 have c1 := (He.ba (show ((B K).all id && ((ds.all fun d => d.ok K) && tabsB K T)) = true from congrArg (fun z : AlX => z.1) c)).1
 exact List.all_eq_true.mp c1 b (List.mem_of_getElem? h)
theorem SaysX.def_ (c : SaysX B ds K T) (i : Nat) {d : DX} (h : ds[i]? = some d) (n4 : d.kd.beq 4 = false := by rfl) : d.where_ K = true ∧
  ∃ oc od osl dV kV doc pm an cdv ct, K.lookup (d.ad K) = some ⟨oc, od, .func (PySem.W.fnOf d.nm d.qual d.params d.body d.scope dV kV doc pm an cdv ct), osl⟩ ∧ PySem.W.codeIn K cdv d.qual = true ∧ a00 K dV d.dfl = true := by
 have c2 := (He.ba (He.ba (show ((B K).all id && ((ds.all fun d => d.ok K) && tabsB K T)) = true from congrArg (fun z : AlX => z.1) c)).2).1
 have c3 := List.all_eq_true.mp c2 d (List.mem_of_getElem? h)
 have e : ds.map (fun d => fnX K (d.ad K)) = ds.map DX.val := congrArg (fun z : AlX => z.2) c
 have e2 : (ds.map fun d => fnX K (d.ad K))[i]? = (ds.map DX.val)[i]? := by rw [e]
 rw [List.getElem?_map, List.getElem?_map, h] at e2
 exact ⟨(He.ba c3).1, a7M n4 (Option.some.inj e2) c3⟩
theorem SaysX.def4 (c : SaysX B ds K T) (i : Nat) {d : DX} (h : ds[i]? = some d) (n4 : d.kd.beq 4 = true := by rfl) : d.where_ K = true ∧
  ∃ cc oc od osl dV kV doc pm an cdv ct, K.lookup (d.ad K) = some ⟨oc, od, .func (PySem.W.fnX d.nm d.qual d.params d.body d.scope [("__class__", cc)] dV kV doc pm an cdv ct), osl⟩ ∧ PySem.W.codeIn K cdv d.qual = true ∧ a00 K dV d.dfl = true := by
 have c2 := (He.ba (He.ba (show ((B K).all id && ((ds.all fun d => d.ok K) && tabsB K T)) = true from congrArg (fun z : AlX => z.1) c)).2).1
 have c3 := List.all_eq_true.mp c2 d (List.mem_of_getElem? h)
 have e : ds.map (fun d => fnX K (d.ad K)) = ds.map DX.val := congrArg (fun z : AlX => z.2) c
 have e2 : (ds.map fun d => fnX K (d.ad K))[i]? = (ds.map DX.val)[i]? := by rw [e]
 rw [List.getElem?_map, List.getElem?_map, h] at e2
 exact ⟨(He.ba c3).1, a64 n4 (Option.some.inj e2) c3⟩
theorem tabs_ok {mg : Str → Option Value} {h : Heap} (X : K.In h) (XT : T.In h) (G : h.Ns mainGlobals mg) (e : tabsB K T = true) : TabsOk K mg h (a2J K) := by
 obtain ⟨e1, e2⟩ := He.ba e
 have one : ∀ x ∈ C7, (PySem.W.nsIn K mainGlobals x = some none) ∨ ∃ f c P, PySem.W.nsIn K mainGlobals x = some (some (.ref f)) ∧ w5 K f = some (c, P) ∧ tabAt T P = true ∧ K.lookup P = none ∧ R0 K c P = true := fun x hx => by
  have z := List.all_eq_true.mp e1 x hx
  split at z
  ·exact .inl ‹_›
  ·rename_i f q
   split at z
   ·rename_i c P r
    obtain ⟨z1, z⟩ := He.ba z
    obtain ⟨z2, z3⟩ := He.ba z
    refine .inr ⟨f, c, P, q, r, z1, ?_, z3⟩
    split at z2
    ·assumption
    ·cases z2
   ·cases z
  ·cases z
 have inC : ∀ p ∈ a2J K, ∃ x ∈ C7, ∃ f, PySem.W.nsIn K mainGlobals x = some (some (.ref f)) ∧ w5 K f = some p := fun p hp => by
  obtain ⟨x, hx, q⟩ := List.mem_filterMap.mp hp
  refine ⟨x, hx, ?_⟩
  split at q
  ·exact ⟨_, ‹_›, q⟩
  ·cases q
 have good : ∀ p ∈ a2J K, tabAt T p.2 = true ∧ K.lookup p.2 = none ∧ R0 K p.1 p.2 = true := fun p hp => by
  obtain ⟨x, hx, f, q, r⟩ := inC p hp
  rcases one x hx with z | ⟨f', c, P, q', r', z1, z2, z3⟩
  ·rw [q] at z; cases z
  ·rw [q] at q'
   cases q'
   rw [r] at r'
   cases r'
   exact ⟨z1, z2, z3⟩
 have inT : ∀ p, p ∈ W9 K mg ↔ ∃ x ∈ C7, ∃ f c, PySem.W.nsIn K mainGlobals x = some (some (.ref f)) ∧ w5 K f = some (c, p.1) ∧ p.2 = x ++ ".<locals>.<lambda>" := fun p => by
  constructor
  ·intro hp
   obtain ⟨x, hx, q⟩ := List.mem_filterMap.mp hp
   refine ⟨x, hx, ?_⟩
   rcases one x hx with z | ⟨f, c, P, z, r, _⟩
   ·have m : mg x = none := PySem.W.mg_none_of X G z
    simp only [m] at q
    cases q
   ·have m : mg x = some (.ref f) := PySem.W.mg_of X G z
    simp only [m] at q
    rw [S5, r] at q
    cases q
    exact ⟨f, c, z, r, rfl⟩
  ·rintro ⟨x, hx, f, c, z, r, e⟩
   refine List.mem_filterMap.mpr ⟨x, hx, ?_⟩
   have m : mg x = some (.ref f) := PySem.W.mg_of X G z
   simp only [m]
   rw [S5, r]
   obtain ⟨a, b⟩ := p
   simp only at e ⊢
   rw [e]; rfl
 have mk : ∀ x ∈ C7, ∀ f c P, PySem.W.nsIn K mainGlobals x = some (some (.ref f)) → w5 K f = some (c, P) → (c, P) ∈ a2J K := fun x hx f c P z r => List.mem_filterMap.mpr ⟨x, hx, by simp only [z]; exact r⟩
 have nd := a2U e2
 refine ⟨fun p hp => tab_of XT (good p hp).1, fun p hp => (good p hp).2.1, fun p hp => a2E X (good p hp).2.2, fun p hp => ?_, fun x hx f z => ?_⟩
 ·obtain ⟨x, hx, f, c, z, r, _⟩ := (inT p).mp hp
  exact List.mem_map.mpr ⟨(c, p.1), mk x hx f c _ z r, rfl⟩
 ·rcases one x hx with q | ⟨f', c, P, q, r, _⟩
  ·rw [z] at q; cases q
  ·rw [z] at q
   cases q
   refine ⟨c, P, r, mk x hx f c P z r, (inT _).mpr ⟨x, hx, f, c, z, r, rfl⟩, fun p hp e => ?_⟩
   obtain ⟨y, hy, f2, c2, z2, r2, e3⟩ := (inT p).mp hp
   rw [e3]
   -- the same table, the same def
   rw [e] at r2
   by_cases hij : x = y
   ·rw [hij]
   ·exfalso
    have key : ∀ l : List Str, ((l.filterMap fun x => match PySem.W.nsIn K mainGlobals x with
      | some (some (.ref f)) => w5 K f
      | _ => none).map (·.2)).Nodup → x ∈ l → y ∈ l → False := by
     intro l
     induction l with
     | nil => intro _ h; cases h
     | cons a l ih =>
      intro nd h1 h2
      have tail : ∀ b ∈ l, ∀ f' c', PySem.W.nsIn K mainGlobals b = some (some (.ref f')) → w5 K f' = some (c', P) → P ∈ (l.filterMap fun x => match PySem.W.nsIn K mainGlobals x with
        | some (some (.ref f)) => w5 K f
        | _ => none).map (·.2) := fun b hb f' c' z' r' => List.mem_map.mpr ⟨(c', P), List.mem_filterMap.mpr ⟨b, hb, by simp only [z']; exact r'⟩, rfl⟩
      have nd' : ((l.filterMap fun x => match PySem.W.nsIn K mainGlobals x with
        | some (some (.ref f)) => w5 K f
        | _ => none).map (·.2)).Nodup := by
       rw [List.filterMap_cons] at nd
       split at nd
       ·exact nd
       ·exact (List.nodup_cons.mp (by simpa using nd)).2
      rcases List.mem_cons.mp h1 with rfl | h3
      ·rcases List.mem_cons.mp h2 with rfl | h4
       ·exact hij rfl
       ·rw [List.filterMap_cons_some (by simp only [z]; exact r), List.map_cons] at nd
        exact (List.nodup_cons.mp nd).1 (tail y h4 f2 c2 z2 r2)
      ·rcases List.mem_cons.mp h2 with rfl | h4
       ·rw [List.filterMap_cons_some (by simp only [z2]; exact r2), List.map_cons] at nd
        exact (List.nodup_cons.mp nd).1 (tail x h3 f c z r)
       ·exact ih nd' h3 h4
    exact key C7 nd hx hy
end
section
variable {K : PySem.W.Frag} {d : DX}
theorem wh0 (hk : d.kd = 0) (h : d.where_ K = true) : PySem.W.nsIn K mainGlobals d.nm = some (some (.ref (d.ad K))) ∧ PySem.W.keepIn K (.ref (d.ad K)) = true := by
 unfold DX.where_ at h
 rw [hk] at h
 exact ⟨He.eqO_ok (He.ba h).1, (He.ba h).2⟩
theorem wh4 (hk : d.kd = 4) (h : d.where_ K = true) : PySem.W.findIn K (.ref (He.ga K d.cls)) d.nm = some (some (.ref (d.ad K))) ∧ PySem.W.isFn K (.ref (d.ad K)) = true := by
 unfold DX.where_ at h
 rw [hk] at h
 exact ⟨He.eqO_ok (He.ba h).1, (He.ba h).2⟩
end
theorem a1G {l : PySem.W.OpenLaw} {k : Nat} {q : Program} {loose : List Str} {XP : (Str → Option Value) → Heap → Prop} {YP : World → Heap → Prop} {d : DefRec} {x : Str}
    (hn : l.most = some 63) (hdf : d.params.defaults = []) (hr : Room k callerA)
    (F : ∀ (w : World) (mg : Str → Option Value) (fa : Addr) (h : Heap), YP w h → h.Ns mainGlobals mg → mg d.name = some (.ref fa) →
      ∃ (K : PySem.W.Frag) (fd : FuncData) (cs : List (Addr × Addr)), K.In h ∧ TabsOk K mg h cs ∧ W9 K mg ≠ [] ∧ (∀ (s : Shared) (u : Value), BindsTo s fd ⟨[u], []⟩ [(x, u)]) ∧
        ∀ base : Heap, K.In base → base.Ns mainGlobals mg → (∀ p ∈ cs, LamX.TabB base mg p.1 p.2) → FnG l.prog w K mg base k fa fd [x] (a1g ⟨K, mg, w⟩)) :
    PySem.W.WalkO q loose XP YP l.row.toRowW d [] (fun f vs => PySem.call f vs) := by
  refine Att.attach_call hn hdf fun w s₀ s₁ mg mb fa o pm cd doc a vs ns G Y ho hd hcd hmg hobj hints hlen hg => ?_
  obtain ⟨K, fd, cs, KX, TO, ne, hb, hF⟩ := F w mg fa _ Y G.T.g hmg
  exact a2f KX G.T.g G.T.b G.T.builtins G.T.nolimit hg TO.tabs TO.off TO.codes ⟨ne, TO.lam⟩ G.T.bmain hobj hints hlen hr hF hb
section
variable {B : PySem.W.Frag → List Bool} {ds : List DX} {K T : PySem.W.Frag}
/-- a plain def out of the head -/
theorem SaysX.qf (c : SaysX B ds K T) {h : Heap} {mg : Str → Option Value} (X : K.In h) (G : h.Ns mainGlobals mg) (i : Nat) {d : DX} {nm : Str} {st : Stmt} (hi : ds[i]? = some d) (e : d = ⟨0, "", nm, nm, defArgs st, defBody st, defScope st, 0⟩) : ∃ fd, QF K mg nm nm st (d.ad K) fd := by
 subst e
 obtain ⟨wh, oc, od, sl, dV, kV, dc, pm, an, cd, ct, l, cc, df⟩ := c.def_ i hi
 obtain rfl := Hd.a2W (n := 0) rfl df
 obtain ⟨a, k⟩ := Hd.wh0 rfl wh
 exact ⟨_, PySem.W.mg_of X G a, fun_mk l cc k⟩
end
end Hd
namespace HandSHeadRun
open PySem PySem.W PySem.Calls PyProof.Rows
end HandSHeadRun


namespace Pg
open PySem L2 Fx

theorem v3 (a : Str) : slt a a = false := by
 unfold slt
 exact decide_eq_false (List.lt_irrefl _)
theorem R6 {a b c : Str} (h1 : slt a b = true) (h2 : slt b c = true) : slt a c = true := by
 unfold slt at *
 exact decide_eq_true (List.lt_trans (of_decide_eq_true h1) (of_decide_eq_true h2))
theorem a67 {a b : Str} (h : a.cps.toList = b.cps.toList) : a = b := by
 cases a; cases b
 congr
 exact Array.toList_inj.mp h
theorem A2 {a b : Str} (h : a ≠ b) : slt a b = true ∨ slt b a = true := by
 unfold slt
 by_cases c : a.cps.toList < b.cps.toList
 ·exact .inl (decide_eq_true c)
 ·by_cases d : b.cps.toList < a.cps.toList
  ·exact .inr (decide_eq_true d)
  ·exact absurd (a67 (List.le_antisymm (List.not_lt.mp d) (List.not_lt.mp c))) h
theorem G7 {a b : Str} (h : slt a b = true) : a ≠ b := by
 intro e
 subst e
 rw [v3] at h
 cases h
theorem a1L {a b : Str} (h : slt a b = true) : slt b a = false := by
 cases c : slt b a with
 | false => rfl
 | true =>
  have := R6 h c
  rw [v3] at this
  cases this

theorem k9 (x : Str × Int) (r : Plan) (n : Str) : get (x :: r) n = if x.1 = n then some x.2 else get r n := rfl
theorem get_none {p : Plan} {n : Str} : get p n = none ↔ ∀ x ∈ p, x.1 ≠ n := by
 induction p with
 | nil => simp [get]
 | cons x r ih =>
  rw [k9]
  by_cases c : x.1 = n
  ·rw [if_pos c]
   constructor
   ·intro h; cases h
   ·intro h; exact absurd c (h x (by simp))
  ·rw [if_neg c, ih]
   constructor
   ·intro h y hy
    rcases List.mem_cons.mp hy with rfl | hy
    ·exact c
    ·exact h y hy
   ·intro h y hy; exact h y (by simp [hy])
theorem get_mem {p : Plan} {n : Str} {m : Int} (h : get p n = some m) : (n, m) ∈ p := by
 induction p with
 | nil => cases h
 | cons x r ih =>
  rw [k9] at h
  by_cases c : x.1 = n
  ·rw [if_pos c] at h
   cases h
   cases c
   simp
  ·rw [if_neg c] at h
   simp [ih h]
theorem u3 {p : Plan} (hn : (p.map (·.1)).Nodup) {n : Str} {m : Int} (h : (n, m) ∈ p) : get p n = some m := by
 induction p with
 | nil => cases h
 | cons x r ih =>
  rw [List.map_cons, List.nodup_cons] at hn
  rw [k9]
  rcases List.mem_cons.mp h with h | h
  ·subst h; simp
  ·have : x.1 ≠ n := fun e => hn.1 (by rw [e]; exact List.mem_map.mpr ⟨_, h, rfl⟩)
   rw [if_neg this]
   exact ih hn.2 h
theorem Asc.nodup {p : Plan} (h : Asc p) : (p.map (·.1)).Nodup := by
 induction p with
 | nil => exact List.nodup_nil
 | cons x r ih =>
  have h' := List.pairwise_cons.mp h
  rw [List.map_cons, List.nodup_cons]
  refine ⟨fun hm => ?_, ih h'.2⟩
  obtain ⟨y, hy, e⟩ := List.mem_map.mp hm
  exact G7 (h'.1 y hy) e.symm
theorem Asc.tail {x : Str × Int} {p : Plan} (h : Asc (x :: p)) : Asc p := (List.pairwise_cons.mp h).2
theorem Asc.head {x : Str × Int} {p : Plan} (h : Asc (x :: p)) : ∀ y ∈ p, slt x.1 y.1 = true := (List.pairwise_cons.mp h).1
theorem u6 : ∀ {p q : Plan}, Asc p → Asc q → (∀ n, get p n = get q n) → p = q
 | [], [], _, _, _ => rfl
 | [], y :: q, _, _, h => by have := h y.1; simp [get] at this
 | x :: p, [], _, _, h => by have := h x.1; simp [get] at this
 | x :: p, y :: q, hp, hq, h => by
  have e : x.1 = y.1 := by
   by_cases c : x.1 = y.1
   ·exact c
   ·exfalso
    have h1 := h x.1
    have h2 := h y.1
    simp only [get, if_true, if_neg c, if_neg (Ne.symm c)] at h1 h2
    have m1 := get_mem h1.symm
    have m2 := get_mem h2
    have a1 := hq.head _ m1
    have a2 := hp.head _ m2
    rw [a1L a1] at a2
    cases a2
  have v : x.2 = y.2 := by
   have h1 := h x.1
   simp only [get, if_true, if_pos e.symm] at h1
   exact Option.some.inj h1
  have t : p = q := u6 hp.tail hq.tail fun n => by
   by_cases c : x.1 = n
   ·have n1 : get p n = none := get_none.mpr fun z hz => fun e2 => G7 (hp.head z hz) (c.trans e2.symm)
    have n2 : get q n = none := get_none.mpr fun z hz => fun e2 => G7 (hq.head z hz) (e.symm.trans (c.trans e2.symm))
    rw [n1, n2]
   ·have h1 := h n
    simp only [get, if_neg c, if_neg (fun z => c (e.trans z))] at h1
    exact h1
  rw [t]
  congr 1
  exact Prod.ext e v

theorem q8 (p : Plan) (k : Int) (n : Str) : get (w4 p k) n = (get p n).map (· + k) := by
 induction p with
 | nil => rfl
 | cons x r ih =>
  show (if x.1 = n then some (x.2 + k) else get (w4 r k) n) = _
  rw [k9]
  by_cases c : x.1 = n
  ·rw [if_pos c, if_pos c]; rfl
  ·rw [if_neg c, if_neg c]; exact ih
theorem m9 (p : Plan) : w4 p 0 = p := by
 unfold w4
 have : (fun x : Str × Int => (x.1, x.2 + 0)) = id := by funext x; simp
 rw [this, List.map_id]
theorem s7 (p : Plan) (a b : Int) : w4 (w4 p a) b = w4 p (a + b) := by
 unfold w4
 rw [List.map_map]
 congr 1
 funext x
 simp [Int.add_assoc]

def x9 : Option Int → Option Int → Option Int
 | none, b => b
 | some a, none => some a
 | some a, some b => some (max a b)
theorem T9 (a b c : Option Int) : x9 (x9 a b) c = x9 a (x9 b c) := by cases a <;> cases b <;> cases c <;> simp [x9, Int.max_assoc]
theorem G9 (a : Option Int) : x9 a none = a := by cases a <;> rfl
theorem x7 (a : Option Int) : x9 none a = a := by cases a <;> rfl
def a0u : Plan → Str × Int → Plan
 | [], y => [y]
 | x :: r, y => if x.1 = y.1 then (x.1, max x.2 y.2) :: r else if slt y.1 x.1 = true then y :: x :: r else x :: a0u r y
theorem a3n {p : Plan} {y z : Str × Int} (h : z ∈ a0u p y) : z.1 = y.1 ∨ z ∈ p := by
 induction p with
 | nil => rw [a0u, List.mem_singleton] at h; rw [h]; exact .inl rfl
 | cons x r ih =>
  unfold a0u at h
  split at h
  ·rename_i c
   rcases List.mem_cons.mp h with h | h
   ·rw [h]; exact .inl c
   ·exact .inr (by simp [h])
  ·split at h
   ·rcases List.mem_cons.mp h with h | h
    ·rw [h]; exact .inl rfl
    ·exact .inr h
   ·rcases List.mem_cons.mp h with h | h
    ·rw [h]; exact .inr (by simp)
    ·exact (ih h).imp id fun h => by simp [h]
theorem a3d {p : Plan} (h : Asc p) (y : Str × Int) : Asc (a0u p y) := by
 induction p with
 | nil => exact List.pairwise_singleton _ _
 | cons x r ih =>
  unfold a0u
  split
  ·exact List.pairwise_cons.mpr ⟨h.head, h.tail⟩
  ·rename_i c
   split
   ·rename_i d
    refine List.pairwise_cons.mpr ⟨fun z hz => ?_, h⟩
    rcases List.mem_cons.mp hz with rfl | hz
    ·exact d
    ·exact R6 d (h.head z hz)
   ·rename_i d
    refine List.pairwise_cons.mpr ⟨fun z hz => ?_, ih h.tail⟩
    rcases a3n hz with e | hz
    ·rw [e]; exact (A2 c).resolve_right d
    ·exact h.head z hz
theorem a3c {p : Plan} (h : Asc p) (y : Str × Int) (n : Str) : get (a0u p y) n = if y.1 = n then x9 (get p n) (some y.2) else get p n := by
 induction p with
 | nil =>
  show (if y.1 = n then some y.2 else none) = _
  rfl
 | cons x r ih =>
  unfold a0u
  split
  ·rename_i c
   show (if x.1 = n then some (max x.2 y.2) else get r n) = _
   rw [k9]
   by_cases d : x.1 = n
   ·rw [if_pos d, if_pos (c.symm.trans d), if_pos d]; rfl
   ·rw [if_neg d, if_neg (fun z => d (c.trans z)), if_neg d]
  ·rename_i c
   split
   ·rename_i d
    show (if y.1 = n then some y.2 else get (x :: r) n) = _
    by_cases e : y.1 = n
    ·rw [if_pos e, if_pos e]
     have : get (x :: r) n = none := get_none.mpr fun z hz => by
      rcases List.mem_cons.mp hz with rfl | hz
      ·exact fun q => c (q.trans e.symm)
      ·exact fun q => G7 (R6 d (h.head z hz)) (e.trans q.symm)
     rw [this]; rfl
    ·rw [if_neg e, if_neg e]
   ·show (if x.1 = n then some x.2 else get (a0u r y) n) = _
    by_cases e : x.1 = n
    ·rw [if_pos e, if_neg (fun z => c (e.trans z.symm))]
     rw [k9]
     rw [if_pos e]
    ·rw [if_neg e, ih h.tail]
     show _ = if y.1 = n then x9 (if x.1 = n then some x.2 else get r n) (some y.2) else if x.1 = n then some x.2 else get r n
     rw [if_neg e]
def a2Z (l : Plan) (n : Str) : Option Int := l.foldl (fun o x => if x.1 = n then x9 o (some x.2) else o) none
theorem P5 (l : Plan) (n : Str) : ∀ o, l.foldl (fun o x => if x.1 = n then x9 o (some x.2) else o) o = x9 o (a2Z l n) := by
 induction l with
 | nil => intro o; exact (G9 o).symm
 | cons x r ih =>
  intro o
  show r.foldl _ (if x.1 = n then x9 o (some x.2) else o) = x9 o (r.foldl _ (if x.1 = n then x9 none (some x.2) else none))
  rw [ih, ih]
  by_cases c : x.1 = n
  ·rw [if_pos c, if_pos c, ← T9, x7]
  ·rw [if_neg c, if_neg c, x7]
theorem a5V (l m : Plan) (n : Str) : a2Z (l ++ m) n = x9 (a2Z l n) (a2Z m n) := by
 unfold a2Z
 rw [List.foldl_append, P5]
 rfl
theorem a5r {p : Plan} (h : (p.map (·.1)).Nodup) (n : Str) : a2Z p n = get p n := by
 induction p with
 | nil => rfl
 | cons x r ih =>
  rw [List.map_cons, List.nodup_cons] at h
  show r.foldl _ (if x.1 = n then x9 none (some x.2) else none) = _
  rw [P5, ih h.2]
  rw [k9]
  by_cases c : x.1 = n
  ·rw [if_pos c, if_pos c]
   have : get r n = none := get_none.mpr fun z hz e => h.1 (by rw [c, ← e]; exact List.mem_map.mpr ⟨z, hz, rfl⟩)
   rw [this]; rfl
  ·rw [if_neg c, if_neg c, x7]
def z4 (ps : List Plan) : Plan := ps.flatten.foldl a0u []
theorem a0E (l : Plan) : ∀ p, Asc p → Asc (l.foldl a0u p) ∧ ∀ n, get (l.foldl a0u p) n = x9 (get p n) (a2Z l n) := by
 induction l with
 | nil => intro p h; exact ⟨h, fun n => (G9 _).symm⟩
 | cons x r ih =>
  intro p h
  obtain ⟨h1, h2⟩ := ih (a0u p x) (a3d h x)
  refine ⟨h1, fun n => ?_⟩
  show get (r.foldl a0u (a0u p x)) n = x9 (get p n) (r.foldl _ (if x.1 = n then x9 none (some x.2) else none))
  rw [h2, a3c h, P5]
  by_cases c : x.1 = n
  ·rw [if_pos c, if_pos c, x7, T9]
  ·rw [if_neg c, if_neg c, x7]
theorem m6 (ps : List Plan) : Asc (z4 ps) := (a0E _ [] List.Pairwise.nil).1
theorem Z5 (ps : List Plan) (n : Str) : get (z4 ps) n = a2Z ps.flatten n := ((a0E _ [] List.Pairwise.nil).2 n).trans (x7 _)
theorem m8 (ps : List Plan) (h : ∀ p ∈ ps, Asc p) (n : Str) : get (z4 ps) n = ps.foldr (fun p o => x9 (get p n) o) none := by
 rw [Z5]
 induction ps with
 | nil => rfl
 | cons p ps ih =>
  rw [List.flatten_cons, a5V, ih fun q hq => h q (by simp [hq]), a5r (h p (by simp)).nodup]
  rfl
theorem a0k (ps : List Plan) {x : Str × Int} (h : x ∈ z4 ps) : ∃ p ∈ ps, ∃ y ∈ p, y.1 = x.1 := by
 have h1 := u3 (m6 ps).nodup (n := x.1) (m := x.2) h
 rw [Z5] at h1
 have : ∀ l : Plan, a2Z l x.1 = some x.2 → ∃ y ∈ l, y.1 = x.1 := by
  intro l hl
  refine Classical.byContradiction fun hno => ?_
  have : ∀ l : Plan, (∀ y ∈ l, y.1 ≠ x.1) → a2Z l x.1 = none := by
   intro l
   induction l with
   | nil => intro _; rfl
   | cons y r ih =>
    intro hh
    show r.foldl _ (if y.1 = x.1 then x9 none (some y.2) else none) = _
    rw [if_neg (hh y (by simp)), P5, x7]
    exact ih fun z hz => hh z (by simp [hz])
  rw [this l fun y hy e => hno ⟨y, hy, e⟩] at hl
  cases hl
 obtain ⟨y, hy, e⟩ := this _ h1
 obtain ⟨p, hp, hy⟩ := List.mem_flatten.mp hy
 exact ⟨p, hp, y, hy, e⟩

def a8J (p q : Plan) : Option Int := if p = [] ∨ ¬ (p.all fun x => (get q x.1).isSome) = true then none else some (a87 (p.map fun x => (get q x.1).getD 0 - x.2))
def a1Y (p : Plan) : Int := if p = [] then 0 else a9X (p.map (·.2))
def a5U (p : Plan) : Plan := w4 p (-(a1Y p))

theorem w9 [DecidableEq α] : ∀ {l W : List α}, l.Nodup → (∀ x ∈ l, x ∈ W) → l.length ≤ W.length
 | [], W, _, _ => Nat.zero_le _
 | x :: l, W, hn, hs => by
  have hx := hs x (by simp)
  have hn' := List.nodup_cons.mp hn
  have := w9 (W := W.erase x) hn'.2 fun y hy => (List.mem_erase_of_ne (fun e : y = x => hn'.1 (by rw [← e]; exact hy))).mpr (hs y (by simp [hy]))
  rw [List.length_erase_of_mem hx] at this
  have : 0 < W.length := List.length_pos_of_mem hx
  simp only [List.length_cons]
  omega
theorem a4B (n : Int) : pl (.int n) = true := by simp [pl, PyData.plain, PyData.depth]
theorem a61 (a b : Int) : PyData.eqv (.int a) (.int b) = decide (a = b) := by simp only [PyData.eqv]; by_cases c : a = b <;> simp [c]
theorem a5O {np n : Nat} {b : EFs} {as : List AV} {g g' : Gs} {r : RV} (hl : as.length = np) (h : b (slots n as) g = .ok (.rt r) g') : fnR np n b as g = .ok r g' := by
 unfold fnR; rw [if_pos hl, h]; rfl
theorem sl1 : (1 ≤ sizeLine) = True := eq_true (by decide)
theorem sl2 : (2 ≤ sizeLine) = True := eq_true (by decide)
theorem sl3 : (3 ≤ sizeLine) = True := eq_true (by decide)
theorem sl4 : (4 ≤ sizeLine) = True := eq_true (by decide)
theorem sl5 : (5 ≤ sizeLine) = True := eq_true (by decide)
theorem sl6 : (6 ≤ sizeLine) = True := eq_true (by decide)
theorem sl7 : (7 ≤ sizeLine) = True := eq_true (by decide)
theorem sl8 : (8 ≤ sizeLine) = True := eq_true (by decide)
theorem sl9 : (9 ≤ sizeLine) = True := eq_true (by decide)
theorem a32 : (10 ≤ sizeLine) = True := eq_true (by decide)
theorem a30 : (11 ≤ sizeLine) = True := eq_true (by decide)
theorem a31 : (12 ≤ sizeLine) = True := eq_true (by decide)
theorem a2X : (13 ≤ sizeLine) = True := eq_true (by decide)
theorem a2Y : (14 ≤ sizeLine) = True := eq_true (by decide)
theorem a3Y : (15 ≤ sizeLine) = True := eq_true (by decide)
theorem a3o : (16 ≤ sizeLine) = True := eq_true (by decide)
theorem a4k : (17 ≤ sizeLine) = True := eq_true (by decide)
theorem a4d : (18 ≤ sizeLine) = True := eq_true (by decide)
theorem a3V : (19 ≤ sizeLine) = True := eq_true (by decide)
theorem a4l : (20 ≤ sizeLine) = True := eq_true (by decide)
theorem a3l : (21 ≤ sizeLine) = True := eq_true (by decide)
theorem a45 : (22 ≤ sizeLine) = True := eq_true (by decide)
theorem a49 : (23 ≤ sizeLine) = True := eq_true (by decide)
theorem a3x : (24 ≤ sizeLine) = True := eq_true (by decide)
theorem a3T : (25 ≤ sizeLine) = True := eq_true (by decide)
theorem a3L : (26 ≤ sizeLine) = True := eq_true (by decide)
theorem a3R : (27 ≤ sizeLine) = True := eq_true (by decide)
theorem a46 : (28 ≤ sizeLine) = True := eq_true (by decide)
theorem a3v : (29 ≤ sizeLine) = True := eq_true (by decide)
theorem a3a : (30 ≤ sizeLine) = True := eq_true (by decide)
theorem R.bind_cg {α β : Type} {m m' : R α} (k : α → Gs → R β) (h : m = m') : m.bind k = m'.bind k := by rw [h]
theorem a25 (xs : List PyData) : a55 (.list xs) = some (.d (.int xs.length)) := rfl
theorem a0C (a b : Int) : oEq (.int a) (.int b) = some (.d (.bool (decide (a = b)))) := by unfold oEq; rw [if_pos ⟨a4B a, a4B b⟩, a61]
end Pg

namespace Pg
open PySem L2 Fx
end Pg
namespace Hx
open PySem PySem.Spec PyProof.Rows L2 Fx Pg
theorem a8t (s : PySem.W.SharedT) : ob s = (Hd.hookX xs B ds).obs s.abs := Hd.obsG_eq (HandSHeadRun.getT_eq s)
end Hx
namespace Pg
open PySem L2 Fx Fq
noncomputable section
def C1 : EFs :=
  (o8 (S6 (a0B (u5 (fOp oEq (v9 0) (fC (.int 0)))) (t9 0))
  (Z7 0))
  (o8 (T7 (u5 (fOp oGt (v9 0) (fC (.int 0))))
  (o8 (E7 (fOp oMod (fCB (o1A a1j) (f9 (v9 0) m7)) (k4 1)) (k7 5))
  (o8 (N7 0 (fOp oDiv (v9 0) (k4 1)))
  (P2 5)))
  A7)
  (o8 (E7 (fOp P3 (a0e 0) (fC (.int 1))) (k7 2))
  (o8 (N3 0 (k4 2))
  (o8 (E7 (fIf (A9 0) (V0 0 (fOp oMod (fCB (o1A a1j) (f9 (k4 2) m7)) (C5 0))) (fC (.int 0))) (k7 3))
  (o8 (E7 (fOp oMod (fCB (o1A a1j) (f9 (fOp a0l (fOp P3 (fOp P3 (fOp oMod (fCB (o1A a1j) (f9 (k4 3) m7)) (fC (.int 2147483629))) (fOp a6k (fC (.int 48271)) (k4 2))) (fC (.int 13579))) (fC (.int 3))) m7)) (fC (.int 2147483647))) (k7 4))
  (P4 (fOp oMod (fCB (o1A a1j) (f9 (fOp oDiv (fOp oMod (fCB (o1A a1j) (f9 (fOp a0l (fOp P3 (k4 4) (fOp a6k (fC (.int 99991)) (k4 2))) (fC (.int 5))) m7)) (fC (.int 2147483587))) (fC (.int 23))) m7)) (k4 1)))))))))
def C6 : a1s := fnR 2 6 C1
def J0 : EFs :=
  (P4 (fOp oIx (k4 1) (C0 C6 (f9 (k4 0) (f9 (fCB (o1A a55) (f9 (k4 1) m7)) m7)))))
def w6 : a1s := fnR 2 2 J0
def O0 : EFs :=
  (o8 (E7 (E6 (f9 (fC .none) (f9 (fC (.int 0)) (f9 (fC (.int 5)) (f9 (fC (.bool true)) (f9 (fC (.bool false)) (f9 (fUn a7Q (fC (.int 1))) (f9 (fC (.str "")) (f9 (fC (.str "a")) (f9 (fC (.str "ab")) (f9 (z7 m7) (f9 (E6 m7) (f9 (a6P false) (f9 (z7 (f9 (z7 (f9 (fC (.str "a")) (f9 (fC (.int 0)) m7))) m7)) (f9 (E6 (f9 (z7 (f9 (fC (.str "a")) (f9 (fC (.int 0)) m7))) m7)) (f9 (z7 (f9 (z7 (f9 (fC (.str "a")) (f9 (fC (.int 0)) m7))) (f9 (z7 (f9 (fC (.str "b")) (f9 (fC (.int 1)) m7))) m7))) (f9 (z7 (f9 (z7 m7) (f9 (z7 m7) m7))) m7))))))))))))))))) (k7 1))
  (o8 (E7 (fOp P3 (k4 1) (E6 (f9 (z7 (f9 (z7 (f9 (fC (.str "a")) (f9 (fC (.int 0)) m7))) (f9 (z7 (f9 (fC (.str "a")) (f9 (fC (.int 1)) m7))) m7))) (f9 (z7 (f9 (z7 (f9 (fC (.str "b")) (f9 (fC (.int 0)) m7))) (f9 (z7 (f9 (fC (.str "a")) (f9 (fC (.int 0)) m7))) m7))) (f9 (z7 (f9 (z7 (f9 (fC (.str "a")) (f9 (fC (.bool true)) m7))) m7)) (f9 (z7 (f9 (z7 (f9 (fC (.str "A")) (f9 (fC (.int 0)) m7))) m7)) (f9 (z7 (f9 (fC (.str "a")) (f9 (fC (.int 0)) m7))) (f9 (z7 (f9 (z7 (f9 (fC (.str "a")) m7)) m7)) (f9 (z7 (f9 (fC (.int 5)) m7)) m7))))))))) (k7 1))
  (P4 (C0 w6 (f9 (k4 0) (f9 (fOp P3 (k4 1) (E6 (f9 (z7 (f9 (E6 (f9 (fC (.str "a")) (f9 (fC (.int 0)) m7))) m7)) (f9 (z7 (f9 (z7 (f9 (fC (.str "abcdefg")) (f9 (fC (.int 0)) m7))) m7)) (f9 (z7 (f9 (z7 (f9 (fC (.str "")) (f9 (fC (.int 0)) m7))) m7)) (f9 (z7 (f9 (z7 (f9 (fC (.str "a")) (f9 (fC .none) m7))) m7)) (f9 (a35 (((fC (.str "a")), (fC (.int 0))) :: [])) (f9 (z7 (f9 (z7 (f9 (z7 (f9 (fC (.str "a")) (f9 (fC (.int 0)) m7))) m7)) (f9 (z7 m7) m7))) m7)))))))) m7))))))
def A8 : a1s := fnR 1 2 O0
def F5 : EFs :=
  (o8 (E7 (E6 (f9 (s9 ["BadPlan", "BadPlans", "BadNumber", "BadSide", "BadRule", "BadRules", "BadBook", "BadThing", "NoPlans", "NoRule", "BadLot", "TooMany", "OtherThings", "NotSo", "NotEven", "BadTable", "NothingDone", "BadText", "BadChoice", "PlanError"] "BadPlan" (k4 0)) (f9 (s9 ["BadPlan", "BadPlans", "BadNumber", "BadSide", "BadRule", "BadRules", "BadBook", "BadThing", "NoPlans", "NoRule", "BadLot", "TooMany", "OtherThings", "NotSo", "NotEven", "BadTable", "NothingDone", "BadText", "BadChoice", "PlanError"] "BadNumber" (k4 0)) (f9 (s9 ["BadPlan", "BadPlans", "BadNumber", "BadSide", "BadRule", "BadRules", "BadBook", "BadThing", "NoPlans", "NoRule", "BadLot", "TooMany", "OtherThings", "NotSo", "NotEven", "BadTable", "NothingDone", "BadText", "BadChoice", "PlanError"] "BadSide" (k4 0)) m7)))) (k7 1))
  (o8 (E7 (fOp P3 (k4 1) (E6 (f9 (s9 ["BadPlan", "BadPlans", "BadNumber", "BadSide", "BadRule", "BadRules", "BadBook", "BadThing", "NoPlans", "NoRule", "BadLot", "TooMany", "OtherThings", "NotSo", "NotEven", "BadTable", "NothingDone", "BadText", "BadChoice", "PlanError"] "BadRule" (k4 0)) (f9 (s9 ["BadPlan", "BadPlans", "BadNumber", "BadSide", "BadRule", "BadRules", "BadBook", "BadThing", "NoPlans", "NoRule", "BadLot", "TooMany", "OtherThings", "NotSo", "NotEven", "BadTable", "NothingDone", "BadText", "BadChoice", "PlanError"] "NoPlans" (k4 0)) (f9 (s9 ["BadPlan", "BadPlans", "BadNumber", "BadSide", "BadRule", "BadRules", "BadBook", "BadThing", "NoPlans", "NoRule", "BadLot", "TooMany", "OtherThings", "NotSo", "NotEven", "BadTable", "NothingDone", "BadText", "BadChoice", "PlanError"] "BadLot" (k4 0)) m7))))) (k7 1))
  (o8 (E7 (fOp P3 (k4 1) (E6 (f9 (s9 ["BadPlan", "BadPlans", "BadNumber", "BadSide", "BadRule", "BadRules", "BadBook", "BadThing", "NoPlans", "NoRule", "BadLot", "TooMany", "OtherThings", "NotSo", "NotEven", "BadTable", "NothingDone", "BadText", "BadChoice", "PlanError"] "OtherThings" (k4 0)) (f9 (s9 ["BadPlan", "BadPlans", "BadNumber", "BadSide", "BadRule", "BadRules", "BadBook", "BadThing", "NoPlans", "NoRule", "BadLot", "TooMany", "OtherThings", "NotSo", "NotEven", "BadTable", "NothingDone", "BadText", "BadChoice", "PlanError"] "NotSo" (k4 0)) (f9 (s9 ["BadPlan", "BadPlans", "BadNumber", "BadSide", "BadRule", "BadRules", "BadBook", "BadThing", "NoPlans", "NoRule", "BadLot", "TooMany", "OtherThings", "NotSo", "NotEven", "BadTable", "NothingDone", "BadText", "BadChoice", "PlanError"] "NotEven" (k4 0)) m7))))) (k7 1))
  (o8 (E7 (fOp P3 (k4 1) (E6 (f9 (s9 ["BadPlan", "BadPlans", "BadNumber", "BadSide", "BadRule", "BadRules", "BadBook", "BadThing", "NoPlans", "NoRule", "BadLot", "TooMany", "OtherThings", "NotSo", "NotEven", "BadTable", "NothingDone", "BadText", "BadChoice", "PlanError"] "NothingDone" (k4 0)) (f9 (s9 ["BadPlan", "BadPlans", "BadNumber", "BadSide", "BadRule", "BadRules", "BadBook", "BadThing", "NoPlans", "NoRule", "BadLot", "TooMany", "OtherThings", "NotSo", "NotEven", "BadTable", "NothingDone", "BadText", "BadChoice", "PlanError"] "BadPlans" (k4 0)) (f9 (s9 ["BadPlan", "BadPlans", "BadNumber", "BadSide", "BadRule", "BadRules", "BadBook", "BadThing", "NoPlans", "NoRule", "BadLot", "TooMany", "OtherThings", "NotSo", "NotEven", "BadTable", "NothingDone", "BadText", "BadChoice", "PlanError"] "BadRules" (k4 0)) m7))))) (k7 1))
  (o8 (E7 (fOp P3 (k4 1) (E6 (f9 (s9 ["BadPlan", "BadPlans", "BadNumber", "BadSide", "BadRule", "BadRules", "BadBook", "BadThing", "NoPlans", "NoRule", "BadLot", "TooMany", "OtherThings", "NotSo", "NotEven", "BadTable", "NothingDone", "BadText", "BadChoice", "PlanError"] "BadBook" (k4 0)) (f9 (s9 ["BadPlan", "BadPlans", "BadNumber", "BadSide", "BadRule", "BadRules", "BadBook", "BadThing", "NoPlans", "NoRule", "BadLot", "TooMany", "OtherThings", "NotSo", "NotEven", "BadTable", "NothingDone", "BadText", "BadChoice", "PlanError"] "BadThing" (k4 0)) (f9 (s9 ["BadPlan", "BadPlans", "BadNumber", "BadSide", "BadRule", "BadRules", "BadBook", "BadThing", "NoPlans", "NoRule", "BadLot", "TooMany", "OtherThings", "NotSo", "NotEven", "BadTable", "NothingDone", "BadText", "BadChoice", "PlanError"] "NoRule" (k4 0)) m7))))) (k7 1))
  (o8 (E7 (fOp P3 (k4 1) (E6 (f9 (s9 ["BadPlan", "BadPlans", "BadNumber", "BadSide", "BadRule", "BadRules", "BadBook", "BadThing", "NoPlans", "NoRule", "BadLot", "TooMany", "OtherThings", "NotSo", "NotEven", "BadTable", "NothingDone", "BadText", "BadChoice", "PlanError"] "TooMany" (k4 0)) (f9 (s9 ["BadPlan", "BadPlans", "BadNumber", "BadSide", "BadRule", "BadRules", "BadBook", "BadThing", "NoPlans", "NoRule", "BadLot", "TooMany", "OtherThings", "NotSo", "NotEven", "BadTable", "NothingDone", "BadText", "BadChoice", "PlanError"] "BadTable" (k4 0)) (f9 (s9 ["BadPlan", "BadPlans", "BadNumber", "BadSide", "BadRule", "BadRules", "BadBook", "BadThing", "NoPlans", "NoRule", "BadLot", "TooMany", "OtherThings", "NotSo", "NotEven", "BadTable", "NothingDone", "BadText", "BadChoice", "PlanError"] "BadText" (k4 0)) m7))))) (k7 1))
  (P4 (fOp P3 (k4 1) (E6 (f9 (s9 ["BadPlan", "BadPlans", "BadNumber", "BadSide", "BadRule", "BadRules", "BadBook", "BadThing", "NoPlans", "NoRule", "BadLot", "TooMany", "OtherThings", "NotSo", "NotEven", "BadTable", "NothingDone", "BadText", "BadChoice", "PlanError"] "BadChoice" (k4 0)) m7))))))))))
def x8 : a1s := fnR 1 2 F5
def F6 : EFs :=
  (o8 (a2I (a2C (f9 (k4 0) m7)) (a6I 2 (a2q (k7 1) (a2q (k7 2) a7g)))
  (o8 (T7 (u5 (fOp oNe (C0 x8 (f9 (k4 2) m7)) (a73 (iaB (a1b a1e) (f9 (fC (.int 19)) m7)) (k7 3) a6c (fOp oEq (k4 3) (k4 1)) [3])))
  (P4 (fC (.bool false)))
  A7)
  (T7 (fOr (a0a (u5 (s9 ["BadPlan", "BadPlans", "BadNumber", "BadSide", "BadRule", "BadRules", "BadBook", "BadThing", "NoPlans", "NoRule", "BadLot", "TooMany", "OtherThings", "NotSo", "NotEven", "BadTable", "NothingDone", "BadText", "BadChoice", "PlanError"] "PlanError" (k4 2)))) (a0a (u5 (a0Y ["BadPlan", "BadPlans", "BadNumber", "BadSide", "BadRule", "BadRules", "BadBook", "BadThing", "NoPlans", "NoRule", "BadLot", "TooMany", "OtherThings", "NotSo", "NotEven", "BadTable", "NothingDone", "BadText", "BadChoice", "PlanError"] (k4 2)))))
  (P4 (fC (.bool false)))
  A7)))
  (P4 (fC (.bool true))))
def u7 : a1s := fnR 1 4 F6
def a27 : EFs :=
  (o8 (a2I (a4o (f9 (fOp P3 (fC (.int 2)) (fCB (o2A a1A) (f9 (fCB (o1A a55) (f9 (k4 0) m7)) (f9 (fC (.int 4)) m7)))) m7)) (k7 2)
  (o8 (E7 (C0 A8 (f9 (k4 1) m7)) (k7 3))
  (o8 (E7 (E6 (f9 (a0U "BadPlan") (f9 (a0U "BadNumber") (f9 (a0U "BadSide") (f9 (a0U "BadRule") (f9 (a0U "NoPlans") (f9 (a0U "BadLot") (f9 (a0U "OtherThings") m7)))))))) (k7 4))
  (o8 (E7 (fOp P3 (k4 4) (E6 (f9 (a0U "NotSo") (f9 (a0U "NotEven") (f9 (a0U "NothingDone") m7))))) (k7 4))
  (o8 (E7 (E6 (f9 (X7 "BadPlans" "at" (k4 3)) (f9 (X7 "BadRules" "at" (k4 3)) (f9 (X7 "BadBook" "part" (k4 3)) (f9 (X7 "BadThing" "thing" (k4 3)) (f9 (X7 "NoRule" "at" (k4 3)) (f9 (X7 "TooMany" "most" (k4 3)) (f9 (X7 "BadTable" "name" (k4 3)) (f9 (X7 "BadText" "line" (k4 3)) m7))))))))) (k7 5))
  (o8 (T7 (fOr (a0a (u5 (C0 u7 (f9 (fOp P3 (fOp P3 (k4 4) (k4 5)) (E6 (f9 (a0U "BadChoice") m7))) m7)))) (u5 (s9 ["BadPlan", "BadPlans", "BadNumber", "BadSide", "BadRule", "BadRules", "BadBook", "BadThing", "NoPlans", "NoRule", "BadLot", "TooMany", "OtherThings", "NotSo", "NotEven", "BadTable", "NothingDone", "BadText", "BadChoice", "PlanError"] "BadPlan" (a0U "PlanError"))))
  (P4 (fC (.bool false)))
  A7)
  (o8 (E7 (E6 (f9 (W7 ["BadPlans", "BadRules", "NoRule"] "at" (fOp oIx (k4 5) (fC (.int 0)))) (f9 (W7 ["BadPlans", "BadRules", "NoRule"] "at" (fOp oIx (k4 5) (fC (.int 1)))) (f9 (W7 ["BadBook"] "part" (fOp oIx (k4 5) (fC (.int 2)))) (f9 (W7 ["BadThing"] "thing" (fOp oIx (k4 5) (fC (.int 3)))) (f9 (W7 ["BadPlans", "BadRules", "NoRule"] "at" (fOp oIx (k4 5) (fC (.int 4)))) (f9 (W7 ["TooMany"] "most" (fOp oIx (k4 5) (fC (.int 5)))) (f9 (W7 ["BadTable"] "name" (fOp oIx (k4 5) (fC (.int 6)))) (f9 (W7 ["BadText"] "line" (fOp oIx (k4 5) (fC (.int 7)))) m7))))))))) (k7 6))
  (o8 (T7 (u5 (fOp oNe (fCB (o1A L9) (f9 (k4 6) m7)) (fCB (o1A L9) (f9 (a6p (E6 (f9 (k4 3) m7)) (fC (.int 8))) m7))))
  (P4 (fC (.bool false)))
  A7)
  (o8 (E7 (E6 (f9 (X7 "BadPlans" "at" (k4 3)) (f9 (X7 "BadRules" "at" (k4 3)) (f9 (X7 "BadBook" "part" (k4 3)) (f9 (X7 "BadThing" "thing" (k4 3)) (f9 (X7 "NoRule" "at" (k4 3)) (f9 (X7 "TooMany" "most" (k4 3)) m7))))))) (k7 7))
  (o8 (E7 (fOp P3 (k4 7) (E6 (f9 (X7 "BadTable" "name" (k4 3)) (f9 (X7 "BadText" "line" (k4 3)) m7)))) (k7 7))
  (o8 (E7 (E6 (f9 (W7 ["BadPlans", "BadRules", "NoRule"] "at" (fOp oIx (k4 7) (fC (.int 0)))) (f9 (W7 ["BadPlans", "BadRules", "NoRule"] "at" (fOp oIx (k4 7) (fC (.int 1)))) (f9 (W7 ["BadBook"] "part" (fOp oIx (k4 7) (fC (.int 2)))) (f9 (W7 ["BadThing"] "thing" (fOp oIx (k4 7) (fC (.int 3)))) (f9 (W7 ["BadPlans", "BadRules", "NoRule"] "at" (fOp oIx (k4 7) (fC (.int 4)))) (f9 (W7 ["TooMany"] "most" (fOp oIx (k4 7) (fC (.int 5)))) (f9 (W7 ["BadTable"] "name" (fOp oIx (k4 7) (fC (.int 6)))) m7)))))))) (k7 6))
  (T7 (fOr (u5 (fOp oNe (fCB (o1A L9) (f9 (fOp P3 (k4 6) (E6 (f9 (W7 ["BadText"] "line" (fOp oIx (k4 7) (fC (.int 7)))) m7))) m7)) (fCB (o1A L9) (f9 (a6p (E6 (f9 (k4 3) m7)) (fC (.int 8))) m7)))) (a0a (u5 (C0 u7 (f9 (fOp P3 (k4 4) (k4 7)) m7)))))
  (P4 (fC (.bool false)))
  A7))))))))))))
  (P4 (fC (.bool true))))
end
end Pg
namespace Pg
open PySem L2 Fx Fq
noncomputable section

noncomputable def J3 {α : Type} (e : α → PyData) (d : Addr) (xs : List α) (g : Gs) : R α := a2N (w6 [.o (.ref d), .d (eL e xs)] g) (fun x => RV.d (e x))
theorem a0q {α : Type} (e : α → PyData) (d : Addr) (xs : List α) (g : Gs) : RX (w6 [.o (.ref d), .d (eL e xs)] g) (J3 e d xs g) (fun x => RV.d (e x)) := a3u _ _
noncomputable def z6 (v0 : Addr) (g : Gs) : R PyData := (A6 [((eO eU) none), (PyData.int (0 : Int)), (PyData.int (5 : Int)), (PyData.bool true), (PyData.bool false), (PyData.int (-(1 : Int))), (PyData.str ("" : Str)), (PyData.str ("a" : Str)), (PyData.str ("ab" : Str)), ((eT eU) ([] : (List Unit))), ((eL eU) []), ((eD eU eU) []), (ePl [(("a" : Str), (0 : Int))]), ((eL ePr) [(("a" : Str), (0 : Int))]), ((eP ePr ePr) ((("a" : Str), (0 : Int)), (("b" : Str), (1 : Int)))), ((eP (eT eU) (eT eU)) (([] : (List Unit)), ([] : (List Unit))))] fun (y1 : (List PyData)) => (R.asrt (y1.length + [((eP ePr ePr) ((("a" : Str), (0 : Int)), (("a" : Str), (1 : Int)))), ((eP ePr ePr) ((("b" : Str), (0 : Int)), (("a" : Str), (0 : Int)))), ((eT (eP PyData.str PyData.bool)) [(("a" : Str), true)]), (ePl [(("A" : Str), (0 : Int))]), (ePr (("a" : Str), (0 : Int))), ((eT (eT PyData.str)) [[("a" : Str)]]), ((eT PyData.int) [(5 : Int)])].length ≤ sizeLine) (A6 (y1 ++ [((eP ePr ePr) ((("a" : Str), (0 : Int)), (("a" : Str), (1 : Int)))), ((eP ePr ePr) ((("b" : Str), (0 : Int)), (("a" : Str), (0 : Int)))), ((eT (eP PyData.str PyData.bool)) [(("a" : Str), true)]), (ePl [(("A" : Str), (0 : Int))]), (ePr (("a" : Str), (0 : Int))), ((eT (eT PyData.str)) [[("a" : Str)]]), ((eT PyData.int) [(5 : Int)])]) fun (y2 : (List PyData)) => (R.asrt (y2.length + [((eT (eL eA)) [[(PyData.str ("a" : Str)), (PyData.int (0 : Int))]]), (ePl [(("abcdefg" : Str), (0 : Int))]), (ePl [(("" : Str), (0 : Int))]), ((eT (eP PyData.str (eO eU))) [(("a" : Str), none)]), ((eD PyData.str PyData.int) [(("a" : Str), (0 : Int))]), ((eP ePl (eT eU)) ([(("a" : Str), (0 : Int))], ([] : (List Unit))))].length ≤ sizeLine) (J3 eA v0 (y2 ++ [((eT (eL eA)) [[(PyData.str ("a" : Str)), (PyData.int (0 : Int))]]), (ePl [(("abcdefg" : Str), (0 : Int))]), (ePl [(("" : Str), (0 : Int))]), ((eT (eP PyData.str (eO eU))) [(("a" : Str), none)]), ((eD PyData.str PyData.int) [(("a" : Str), (0 : Int))]), ((eP ePl (eT eU)) ([(("a" : Str), (0 : Int))], ([] : (List Unit))))]) g)))))
theorem a1k (v0 : Addr) (g : Gs) : RX (A8 [.o (.ref v0)] g) (z6 v0 g) (fun (x : PyData) => RV.d (eA x)) := by
 unfold A8 z6 O0
 refine a6T (w := (fun (x : PyData) => RV.d (eA x))) rfl (S7 ?_)
 refine o4 ?_
 refine M4 (w := (eL eA)) (v := [((eO eU) none), (PyData.int (0 : Int)), (PyData.int (5 : Int)), (PyData.bool true), (PyData.bool false), (PyData.int (-(1 : Int))), (PyData.str ("" : Str)), (PyData.str ("a" : Str)), (PyData.str ("ab" : Str)), ((eT eU) ([] : (List Unit))), ((eL eU) []), ((eD eU eU) []), (ePl [(("a" : Str), (0 : Int))]), ((eL ePr) [(("a" : Str), (0 : Int))]), ((eP ePr ePr) ((("a" : Str), (0 : Int)), (("b" : Str), (1 : Int)))), ((eP (eT eU) (eT eU)) (([] : (List Unit)), ([] : (List Unit))))]) ?_ (fun _ => rfl) ?_
 ·exact (dl (z5 (i2 v_c (i2 v_c (i2 v_c (i2 v_c (i2 v_c (i2 (a9R (dd v_c) rfl) (i2 v_c (i2 v_c (i2 v_c (i2 (t8 g7 rfl rfl) (a3s (z5 g7 rfl rfl) (a9K rfl (i2 (t8 (i2 (t8 (i2 v_c (i2 v_c g7)) rfl rfl) g7) rfl rfl) (a3s (z5 (i2 (t8 (i2 v_c (i2 v_c g7)) rfl rfl) g7) rfl rfl) (i2 (t8 (i2 (t8 (i2 v_c (i2 v_c g7)) rfl rfl) (i2 (t8 (i2 v_c (i2 v_c g7)) rfl rfl) g7)) rfl rfl) (i2 (t8 (i2 (t8 g7 rfl rfl) (i2 (t8 g7 rfl rfl) g7)) rfl rfl) g7)))))))))))))))) rfl rfl))
 intro y1
 refine o4 ?_
 refine L6 fun hz5 => ?_
 refine M4 (w := (eL eA)) (v := (y1 ++ [((eP ePr ePr) ((("a" : Str), (0 : Int)), (("a" : Str), (1 : Int)))), ((eP ePr ePr) ((("b" : Str), (0 : Int)), (("a" : Str), (0 : Int)))), ((eT (eP PyData.str PyData.bool)) [(("a" : Str), true)]), (ePl [(("A" : Str), (0 : Int))]), (ePr (("a" : Str), (0 : Int))), ((eT (eT PyData.str)) [[("a" : Str)]]), ((eT PyData.int) [(5 : Int)])])) ?_ (fun _ => rfl) ?_
 ·exact (dl (G6 (dd (v_var (x := (eL eA) y1) rfl)) (dl (z5 (i2 (t8 (i2 (t8 (i2 v_c (i2 v_c g7)) rfl rfl) (i2 (t8 (i2 v_c (i2 v_c g7)) rfl rfl) g7)) rfl rfl) (i2 (t8 (i2 (t8 (i2 v_c (i2 v_c g7)) rfl rfl) (i2 (t8 (i2 v_c (i2 v_c g7)) rfl rfl) g7)) rfl rfl) (i2 (t8 (i2 (t8 (i2 v_c (i2 v_c g7)) rfl rfl) g7) rfl rfl) (i2 (t8 (i2 (t8 (i2 v_c (i2 v_c g7)) rfl rfl) g7) rfl rfl) (i2 (t8 (i2 v_c (i2 v_c g7)) rfl rfl) (i2 (t8 (i2 (t8 (i2 v_c g7) rfl rfl) g7) rfl rfl) (i2 (t8 (i2 v_c g7) rfl rfl) g7))))))) rfl rfl)) (A4 y1 [((eP ePr ePr) ((("a" : Str), (0 : Int)), (("a" : Str), (1 : Int)))), ((eP ePr ePr) ((("b" : Str), (0 : Int)), (("a" : Str), (0 : Int)))), ((eT (eP PyData.str PyData.bool)) [(("a" : Str), true)]), (ePl [(("A" : Str), (0 : Int))]), (ePr (("a" : Str), (0 : Int))), ((eT (eT PyData.str)) [[("a" : Str)]]), ((eT PyData.int) [(5 : Int)])] hz5)))
 intro y2
 exact a7n (w := (fun (x : PyData) => RV.d (eA x))) (RX.asrt fun hp3 => (a2r (a0K (a4p rfl) (a3s (G6 (dd (v_var (x := (eL eA) y2) rfl)) (dl (z5 (i2 (t8 (a3s (z5 (i2 v_c (i2 v_c g7)) rfl rfl) g7) rfl rfl) (i2 (t8 (i2 (t8 (i2 v_c (i2 v_c g7)) rfl rfl) g7) rfl rfl) (i2 (t8 (i2 (t8 (i2 v_c (i2 v_c g7)) rfl rfl) g7) rfl rfl) (i2 (t8 (i2 (t8 (i2 v_c (i2 v_c g7)) rfl rfl) g7) rfl rfl) (a9K (a5P v_c (dd v_c)) (i2 (t8 (i2 (t8 (i2 (t8 (i2 v_c (i2 v_c g7)) rfl rfl) g7) rfl rfl) (i2 (t8 g7 rfl rfl) g7)) rfl rfl) g7)))))) rfl rfl)) (A4 y2 [((eT (eL eA)) [[(PyData.str ("a" : Str)), (PyData.int (0 : Int))]]), (ePl [(("abcdefg" : Str), (0 : Int))]), (ePl [(("" : Str), (0 : Int))]), ((eT (eP PyData.str (eO eU))) [(("a" : Str), none)]), ((eD PyData.str PyData.int) [(("a" : Str), (0 : Int))]), ((eP ePl (eT eU)) ([(("a" : Str), (0 : Int))], ([] : (List Unit))))] hp3)) g7)) (a0q eA v0 (y2 ++ [((eT (eL eA)) [[(PyData.str ("a" : Str)), (PyData.int (0 : Int))]]), (ePl [(("abcdefg" : Str), (0 : Int))]), (ePl [(("" : Str), (0 : Int))]), ((eT (eP PyData.str (eO eU))) [(("a" : Str), none)]), ((eD PyData.str PyData.int) [(("a" : Str), (0 : Int))]), ((eP ePl (eT eU)) ([(("a" : Str), (0 : Int))], ([] : (List Unit))))]) _))) (fun _ => rfl)
def q7 (v0 : ErP) : (List Bool) := (A6 [(e9 v0.1 "BadPlan"), (e9 v0.1 "BadNumber"), (e9 v0.1 "BadSide")] fun (y2 : (List Bool)) => (A6 (y2 ++ [(e9 v0.1 "BadRule"), (e9 v0.1 "NoPlans"), (e9 v0.1 "BadLot")]) fun (y4 : (List Bool)) => (A6 (y4 ++ [(e9 v0.1 "OtherThings"), (e9 v0.1 "NotSo"), (e9 v0.1 "NotEven")]) fun (y6 : (List Bool)) => (A6 (y6 ++ [(e9 v0.1 "NothingDone"), (e9 v0.1 "BadPlans"), (e9 v0.1 "BadRules")]) fun (y8 : (List Bool)) => (A6 (y8 ++ [(e9 v0.1 "BadBook"), (e9 v0.1 "BadThing"), (e9 v0.1 "NoRule")]) fun (y10 : (List Bool)) => (A6 (y10 ++ [(e9 v0.1 "TooMany"), (e9 v0.1 "BadTable"), (e9 v0.1 "BadText")]) fun (y12 : (List Bool)) => (y12 ++ [(e9 v0.1 "BadChoice")])))))))
def u9 (v0 : ErP) : Prop := (((v0.1 ∈ (["BadPlan", "BadPlans", "BadNumber", "BadSide", "BadRule", "BadRules", "BadBook", "BadThing", "NoPlans", "NoRule", "BadLot", "TooMany", "OtherThings", "NotSo", "NotEven", "BadTable", "NothingDone", "BadText", "BadChoice", "PlanError"] : List Str)) ∧ ((v0.1 ∈ (["BadPlan", "BadPlans", "BadNumber", "BadSide", "BadRule", "BadRules", "BadBook", "BadThing", "NoPlans", "NoRule", "BadLot", "TooMany", "OtherThings", "NotSo", "NotEven", "BadTable", "NothingDone", "BadText", "BadChoice", "PlanError"] : List Str)) ∧ (v0.1 ∈ (["BadPlan", "BadPlans", "BadNumber", "BadSide", "BadRule", "BadRules", "BadBook", "BadThing", "NoPlans", "NoRule", "BadLot", "TooMany", "OtherThings", "NotSo", "NotEven", "BadTable", "NothingDone", "BadText", "BadChoice", "PlanError"] : List Str)))) ∧ (A6 [(e9 v0.1 "BadPlan"), (e9 v0.1 "BadNumber"), (e9 v0.1 "BadSide")] fun (y2 : (List Bool)) => ((((v0.1 ∈ (["BadPlan", "BadPlans", "BadNumber", "BadSide", "BadRule", "BadRules", "BadBook", "BadThing", "NoPlans", "NoRule", "BadLot", "TooMany", "OtherThings", "NotSo", "NotEven", "BadTable", "NothingDone", "BadText", "BadChoice", "PlanError"] : List Str)) ∧ ((v0.1 ∈ (["BadPlan", "BadPlans", "BadNumber", "BadSide", "BadRule", "BadRules", "BadBook", "BadThing", "NoPlans", "NoRule", "BadLot", "TooMany", "OtherThings", "NotSo", "NotEven", "BadTable", "NothingDone", "BadText", "BadChoice", "PlanError"] : List Str)) ∧ (v0.1 ∈ (["BadPlan", "BadPlans", "BadNumber", "BadSide", "BadRule", "BadRules", "BadBook", "BadThing", "NoPlans", "NoRule", "BadLot", "TooMany", "OtherThings", "NotSo", "NotEven", "BadTable", "NothingDone", "BadText", "BadChoice", "PlanError"] : List Str)))) ∧ (y2.length + [(e9 v0.1 "BadRule"), (e9 v0.1 "NoPlans"), (e9 v0.1 "BadLot")].length ≤ sizeLine)) ∧ (A6 (y2 ++ [(e9 v0.1 "BadRule"), (e9 v0.1 "NoPlans"), (e9 v0.1 "BadLot")]) fun (y4 : (List Bool)) => ((((v0.1 ∈ (["BadPlan", "BadPlans", "BadNumber", "BadSide", "BadRule", "BadRules", "BadBook", "BadThing", "NoPlans", "NoRule", "BadLot", "TooMany", "OtherThings", "NotSo", "NotEven", "BadTable", "NothingDone", "BadText", "BadChoice", "PlanError"] : List Str)) ∧ ((v0.1 ∈ (["BadPlan", "BadPlans", "BadNumber", "BadSide", "BadRule", "BadRules", "BadBook", "BadThing", "NoPlans", "NoRule", "BadLot", "TooMany", "OtherThings", "NotSo", "NotEven", "BadTable", "NothingDone", "BadText", "BadChoice", "PlanError"] : List Str)) ∧ (v0.1 ∈ (["BadPlan", "BadPlans", "BadNumber", "BadSide", "BadRule", "BadRules", "BadBook", "BadThing", "NoPlans", "NoRule", "BadLot", "TooMany", "OtherThings", "NotSo", "NotEven", "BadTable", "NothingDone", "BadText", "BadChoice", "PlanError"] : List Str)))) ∧ (y4.length + [(e9 v0.1 "OtherThings"), (e9 v0.1 "NotSo"), (e9 v0.1 "NotEven")].length ≤ sizeLine)) ∧ (A6 (y4 ++ [(e9 v0.1 "OtherThings"), (e9 v0.1 "NotSo"), (e9 v0.1 "NotEven")]) fun (y6 : (List Bool)) => ((((v0.1 ∈ (["BadPlan", "BadPlans", "BadNumber", "BadSide", "BadRule", "BadRules", "BadBook", "BadThing", "NoPlans", "NoRule", "BadLot", "TooMany", "OtherThings", "NotSo", "NotEven", "BadTable", "NothingDone", "BadText", "BadChoice", "PlanError"] : List Str)) ∧ ((v0.1 ∈ (["BadPlan", "BadPlans", "BadNumber", "BadSide", "BadRule", "BadRules", "BadBook", "BadThing", "NoPlans", "NoRule", "BadLot", "TooMany", "OtherThings", "NotSo", "NotEven", "BadTable", "NothingDone", "BadText", "BadChoice", "PlanError"] : List Str)) ∧ (v0.1 ∈ (["BadPlan", "BadPlans", "BadNumber", "BadSide", "BadRule", "BadRules", "BadBook", "BadThing", "NoPlans", "NoRule", "BadLot", "TooMany", "OtherThings", "NotSo", "NotEven", "BadTable", "NothingDone", "BadText", "BadChoice", "PlanError"] : List Str)))) ∧ (y6.length + [(e9 v0.1 "NothingDone"), (e9 v0.1 "BadPlans"), (e9 v0.1 "BadRules")].length ≤ sizeLine)) ∧ (A6 (y6 ++ [(e9 v0.1 "NothingDone"), (e9 v0.1 "BadPlans"), (e9 v0.1 "BadRules")]) fun (y8 : (List Bool)) => ((((v0.1 ∈ (["BadPlan", "BadPlans", "BadNumber", "BadSide", "BadRule", "BadRules", "BadBook", "BadThing", "NoPlans", "NoRule", "BadLot", "TooMany", "OtherThings", "NotSo", "NotEven", "BadTable", "NothingDone", "BadText", "BadChoice", "PlanError"] : List Str)) ∧ ((v0.1 ∈ (["BadPlan", "BadPlans", "BadNumber", "BadSide", "BadRule", "BadRules", "BadBook", "BadThing", "NoPlans", "NoRule", "BadLot", "TooMany", "OtherThings", "NotSo", "NotEven", "BadTable", "NothingDone", "BadText", "BadChoice", "PlanError"] : List Str)) ∧ (v0.1 ∈ (["BadPlan", "BadPlans", "BadNumber", "BadSide", "BadRule", "BadRules", "BadBook", "BadThing", "NoPlans", "NoRule", "BadLot", "TooMany", "OtherThings", "NotSo", "NotEven", "BadTable", "NothingDone", "BadText", "BadChoice", "PlanError"] : List Str)))) ∧ (y8.length + [(e9 v0.1 "BadBook"), (e9 v0.1 "BadThing"), (e9 v0.1 "NoRule")].length ≤ sizeLine)) ∧ (A6 (y8 ++ [(e9 v0.1 "BadBook"), (e9 v0.1 "BadThing"), (e9 v0.1 "NoRule")]) fun (y10 : (List Bool)) => ((((v0.1 ∈ (["BadPlan", "BadPlans", "BadNumber", "BadSide", "BadRule", "BadRules", "BadBook", "BadThing", "NoPlans", "NoRule", "BadLot", "TooMany", "OtherThings", "NotSo", "NotEven", "BadTable", "NothingDone", "BadText", "BadChoice", "PlanError"] : List Str)) ∧ ((v0.1 ∈ (["BadPlan", "BadPlans", "BadNumber", "BadSide", "BadRule", "BadRules", "BadBook", "BadThing", "NoPlans", "NoRule", "BadLot", "TooMany", "OtherThings", "NotSo", "NotEven", "BadTable", "NothingDone", "BadText", "BadChoice", "PlanError"] : List Str)) ∧ (v0.1 ∈ (["BadPlan", "BadPlans", "BadNumber", "BadSide", "BadRule", "BadRules", "BadBook", "BadThing", "NoPlans", "NoRule", "BadLot", "TooMany", "OtherThings", "NotSo", "NotEven", "BadTable", "NothingDone", "BadText", "BadChoice", "PlanError"] : List Str)))) ∧ (y10.length + [(e9 v0.1 "TooMany"), (e9 v0.1 "BadTable"), (e9 v0.1 "BadText")].length ≤ sizeLine)) ∧ (A6 (y10 ++ [(e9 v0.1 "TooMany"), (e9 v0.1 "BadTable"), (e9 v0.1 "BadText")]) fun (y12 : (List Bool)) => ((v0.1 ∈ (["BadPlan", "BadPlans", "BadNumber", "BadSide", "BadRule", "BadRules", "BadBook", "BadThing", "NoPlans", "NoRule", "BadLot", "TooMany", "OtherThings", "NotSo", "NotEven", "BadTable", "NothingDone", "BadText", "BadChoice", "PlanError"] : List Str)) ∧ (y12.length + [(e9 v0.1 "BadChoice")].length ≤ sizeLine))))))))))))))
theorem Z2 (v0 : ErP) (hz : u9 v0) (g : Gs) : x8 [.d (eX v0)] g = .ok ((fun (x : (List Bool)) => RV.nl (x.map PyData.bool)) (q7 v0)) g := by
 unfold u9 at hz
 unfold x8 q7 F5
 refine a6K (w := (fun (x : (List Bool)) => RV.nl (x.map PyData.bool))) rfl (S7 ?_)
 refine o4 ?_
 refine T8 (w := (eL PyData.bool)) (v := [(e9 v0.1 "BadPlan"), (e9 v0.1 "BadNumber"), (e9 v0.1 "BadSide")]) (Z := fun (y2 : (List Bool)) => ((((v0.1 ∈ (["BadPlan", "BadPlans", "BadNumber", "BadSide", "BadRule", "BadRules", "BadBook", "BadThing", "NoPlans", "NoRule", "BadLot", "TooMany", "OtherThings", "NotSo", "NotEven", "BadTable", "NothingDone", "BadText", "BadChoice", "PlanError"] : List Str)) ∧ ((v0.1 ∈ (["BadPlan", "BadPlans", "BadNumber", "BadSide", "BadRule", "BadRules", "BadBook", "BadThing", "NoPlans", "NoRule", "BadLot", "TooMany", "OtherThings", "NotSo", "NotEven", "BadTable", "NothingDone", "BadText", "BadChoice", "PlanError"] : List Str)) ∧ (v0.1 ∈ (["BadPlan", "BadPlans", "BadNumber", "BadSide", "BadRule", "BadRules", "BadBook", "BadThing", "NoPlans", "NoRule", "BadLot", "TooMany", "OtherThings", "NotSo", "NotEven", "BadTable", "NothingDone", "BadText", "BadChoice", "PlanError"] : List Str)))) ∧ (y2.length + [(e9 v0.1 "BadRule"), (e9 v0.1 "NoPlans"), (e9 v0.1 "BadLot")].length ≤ sizeLine)) ∧ (A6 (y2 ++ [(e9 v0.1 "BadRule"), (e9 v0.1 "NoPlans"), (e9 v0.1 "BadLot")]) fun (y4 : (List Bool)) => ((((v0.1 ∈ (["BadPlan", "BadPlans", "BadNumber", "BadSide", "BadRule", "BadRules", "BadBook", "BadThing", "NoPlans", "NoRule", "BadLot", "TooMany", "OtherThings", "NotSo", "NotEven", "BadTable", "NothingDone", "BadText", "BadChoice", "PlanError"] : List Str)) ∧ ((v0.1 ∈ (["BadPlan", "BadPlans", "BadNumber", "BadSide", "BadRule", "BadRules", "BadBook", "BadThing", "NoPlans", "NoRule", "BadLot", "TooMany", "OtherThings", "NotSo", "NotEven", "BadTable", "NothingDone", "BadText", "BadChoice", "PlanError"] : List Str)) ∧ (v0.1 ∈ (["BadPlan", "BadPlans", "BadNumber", "BadSide", "BadRule", "BadRules", "BadBook", "BadThing", "NoPlans", "NoRule", "BadLot", "TooMany", "OtherThings", "NotSo", "NotEven", "BadTable", "NothingDone", "BadText", "BadChoice", "PlanError"] : List Str)))) ∧ (y4.length + [(e9 v0.1 "OtherThings"), (e9 v0.1 "NotSo"), (e9 v0.1 "NotEven")].length ≤ sizeLine)) ∧ (A6 (y4 ++ [(e9 v0.1 "OtherThings"), (e9 v0.1 "NotSo"), (e9 v0.1 "NotEven")]) fun (y6 : (List Bool)) => ((((v0.1 ∈ (["BadPlan", "BadPlans", "BadNumber", "BadSide", "BadRule", "BadRules", "BadBook", "BadThing", "NoPlans", "NoRule", "BadLot", "TooMany", "OtherThings", "NotSo", "NotEven", "BadTable", "NothingDone", "BadText", "BadChoice", "PlanError"] : List Str)) ∧ ((v0.1 ∈ (["BadPlan", "BadPlans", "BadNumber", "BadSide", "BadRule", "BadRules", "BadBook", "BadThing", "NoPlans", "NoRule", "BadLot", "TooMany", "OtherThings", "NotSo", "NotEven", "BadTable", "NothingDone", "BadText", "BadChoice", "PlanError"] : List Str)) ∧ (v0.1 ∈ (["BadPlan", "BadPlans", "BadNumber", "BadSide", "BadRule", "BadRules", "BadBook", "BadThing", "NoPlans", "NoRule", "BadLot", "TooMany", "OtherThings", "NotSo", "NotEven", "BadTable", "NothingDone", "BadText", "BadChoice", "PlanError"] : List Str)))) ∧ (y6.length + [(e9 v0.1 "NothingDone"), (e9 v0.1 "BadPlans"), (e9 v0.1 "BadRules")].length ≤ sizeLine)) ∧ (A6 (y6 ++ [(e9 v0.1 "NothingDone"), (e9 v0.1 "BadPlans"), (e9 v0.1 "BadRules")]) fun (y8 : (List Bool)) => ((((v0.1 ∈ (["BadPlan", "BadPlans", "BadNumber", "BadSide", "BadRule", "BadRules", "BadBook", "BadThing", "NoPlans", "NoRule", "BadLot", "TooMany", "OtherThings", "NotSo", "NotEven", "BadTable", "NothingDone", "BadText", "BadChoice", "PlanError"] : List Str)) ∧ ((v0.1 ∈ (["BadPlan", "BadPlans", "BadNumber", "BadSide", "BadRule", "BadRules", "BadBook", "BadThing", "NoPlans", "NoRule", "BadLot", "TooMany", "OtherThings", "NotSo", "NotEven", "BadTable", "NothingDone", "BadText", "BadChoice", "PlanError"] : List Str)) ∧ (v0.1 ∈ (["BadPlan", "BadPlans", "BadNumber", "BadSide", "BadRule", "BadRules", "BadBook", "BadThing", "NoPlans", "NoRule", "BadLot", "TooMany", "OtherThings", "NotSo", "NotEven", "BadTable", "NothingDone", "BadText", "BadChoice", "PlanError"] : List Str)))) ∧ (y8.length + [(e9 v0.1 "BadBook"), (e9 v0.1 "BadThing"), (e9 v0.1 "NoRule")].length ≤ sizeLine)) ∧ (A6 (y8 ++ [(e9 v0.1 "BadBook"), (e9 v0.1 "BadThing"), (e9 v0.1 "NoRule")]) fun (y10 : (List Bool)) => ((((v0.1 ∈ (["BadPlan", "BadPlans", "BadNumber", "BadSide", "BadRule", "BadRules", "BadBook", "BadThing", "NoPlans", "NoRule", "BadLot", "TooMany", "OtherThings", "NotSo", "NotEven", "BadTable", "NothingDone", "BadText", "BadChoice", "PlanError"] : List Str)) ∧ ((v0.1 ∈ (["BadPlan", "BadPlans", "BadNumber", "BadSide", "BadRule", "BadRules", "BadBook", "BadThing", "NoPlans", "NoRule", "BadLot", "TooMany", "OtherThings", "NotSo", "NotEven", "BadTable", "NothingDone", "BadText", "BadChoice", "PlanError"] : List Str)) ∧ (v0.1 ∈ (["BadPlan", "BadPlans", "BadNumber", "BadSide", "BadRule", "BadRules", "BadBook", "BadThing", "NoPlans", "NoRule", "BadLot", "TooMany", "OtherThings", "NotSo", "NotEven", "BadTable", "NothingDone", "BadText", "BadChoice", "PlanError"] : List Str)))) ∧ (y10.length + [(e9 v0.1 "TooMany"), (e9 v0.1 "BadTable"), (e9 v0.1 "BadText")].length ≤ sizeLine)) ∧ (A6 (y10 ++ [(e9 v0.1 "TooMany"), (e9 v0.1 "BadTable"), (e9 v0.1 "BadText")]) fun (y12 : (List Bool)) => ((v0.1 ∈ (["BadPlan", "BadPlans", "BadNumber", "BadSide", "BadRule", "BadRules", "BadBook", "BadThing", "NoPlans", "NoRule", "BadLot", "TooMany", "OtherThings", "NotSo", "NotEven", "BadTable", "NothingDone", "BadText", "BadChoice", "PlanError"] : List Str)) ∧ (y12.length + [(e9 v0.1 "BadChoice")].length ≤ sizeLine))))))))))))) ?_ (fun _ => rfl) ?_ ?_
 ·exact (dl (z5 (i2 (o5 (dd (v_var (x := eX v0) rfl)) hz.1.1) (i2 (o5 (dd (v_var (x := eX v0) rfl)) hz.1.2.1) (i2 (o5 (dd (v_var (x := eX v0) rfl)) hz.1.2.2) g7))) rfl rfl))
 ·exact hz.2
 intro y2 h1
 refine o4 ?_
 refine T8 (w := (eL PyData.bool)) (v := (y2 ++ [(e9 v0.1 "BadRule"), (e9 v0.1 "NoPlans"), (e9 v0.1 "BadLot")])) (Z := fun (y4 : (List Bool)) => ((((v0.1 ∈ (["BadPlan", "BadPlans", "BadNumber", "BadSide", "BadRule", "BadRules", "BadBook", "BadThing", "NoPlans", "NoRule", "BadLot", "TooMany", "OtherThings", "NotSo", "NotEven", "BadTable", "NothingDone", "BadText", "BadChoice", "PlanError"] : List Str)) ∧ ((v0.1 ∈ (["BadPlan", "BadPlans", "BadNumber", "BadSide", "BadRule", "BadRules", "BadBook", "BadThing", "NoPlans", "NoRule", "BadLot", "TooMany", "OtherThings", "NotSo", "NotEven", "BadTable", "NothingDone", "BadText", "BadChoice", "PlanError"] : List Str)) ∧ (v0.1 ∈ (["BadPlan", "BadPlans", "BadNumber", "BadSide", "BadRule", "BadRules", "BadBook", "BadThing", "NoPlans", "NoRule", "BadLot", "TooMany", "OtherThings", "NotSo", "NotEven", "BadTable", "NothingDone", "BadText", "BadChoice", "PlanError"] : List Str)))) ∧ (y4.length + [(e9 v0.1 "OtherThings"), (e9 v0.1 "NotSo"), (e9 v0.1 "NotEven")].length ≤ sizeLine)) ∧ (A6 (y4 ++ [(e9 v0.1 "OtherThings"), (e9 v0.1 "NotSo"), (e9 v0.1 "NotEven")]) fun (y6 : (List Bool)) => ((((v0.1 ∈ (["BadPlan", "BadPlans", "BadNumber", "BadSide", "BadRule", "BadRules", "BadBook", "BadThing", "NoPlans", "NoRule", "BadLot", "TooMany", "OtherThings", "NotSo", "NotEven", "BadTable", "NothingDone", "BadText", "BadChoice", "PlanError"] : List Str)) ∧ ((v0.1 ∈ (["BadPlan", "BadPlans", "BadNumber", "BadSide", "BadRule", "BadRules", "BadBook", "BadThing", "NoPlans", "NoRule", "BadLot", "TooMany", "OtherThings", "NotSo", "NotEven", "BadTable", "NothingDone", "BadText", "BadChoice", "PlanError"] : List Str)) ∧ (v0.1 ∈ (["BadPlan", "BadPlans", "BadNumber", "BadSide", "BadRule", "BadRules", "BadBook", "BadThing", "NoPlans", "NoRule", "BadLot", "TooMany", "OtherThings", "NotSo", "NotEven", "BadTable", "NothingDone", "BadText", "BadChoice", "PlanError"] : List Str)))) ∧ (y6.length + [(e9 v0.1 "NothingDone"), (e9 v0.1 "BadPlans"), (e9 v0.1 "BadRules")].length ≤ sizeLine)) ∧ (A6 (y6 ++ [(e9 v0.1 "NothingDone"), (e9 v0.1 "BadPlans"), (e9 v0.1 "BadRules")]) fun (y8 : (List Bool)) => ((((v0.1 ∈ (["BadPlan", "BadPlans", "BadNumber", "BadSide", "BadRule", "BadRules", "BadBook", "BadThing", "NoPlans", "NoRule", "BadLot", "TooMany", "OtherThings", "NotSo", "NotEven", "BadTable", "NothingDone", "BadText", "BadChoice", "PlanError"] : List Str)) ∧ ((v0.1 ∈ (["BadPlan", "BadPlans", "BadNumber", "BadSide", "BadRule", "BadRules", "BadBook", "BadThing", "NoPlans", "NoRule", "BadLot", "TooMany", "OtherThings", "NotSo", "NotEven", "BadTable", "NothingDone", "BadText", "BadChoice", "PlanError"] : List Str)) ∧ (v0.1 ∈ (["BadPlan", "BadPlans", "BadNumber", "BadSide", "BadRule", "BadRules", "BadBook", "BadThing", "NoPlans", "NoRule", "BadLot", "TooMany", "OtherThings", "NotSo", "NotEven", "BadTable", "NothingDone", "BadText", "BadChoice", "PlanError"] : List Str)))) ∧ (y8.length + [(e9 v0.1 "BadBook"), (e9 v0.1 "BadThing"), (e9 v0.1 "NoRule")].length ≤ sizeLine)) ∧ (A6 (y8 ++ [(e9 v0.1 "BadBook"), (e9 v0.1 "BadThing"), (e9 v0.1 "NoRule")]) fun (y10 : (List Bool)) => ((((v0.1 ∈ (["BadPlan", "BadPlans", "BadNumber", "BadSide", "BadRule", "BadRules", "BadBook", "BadThing", "NoPlans", "NoRule", "BadLot", "TooMany", "OtherThings", "NotSo", "NotEven", "BadTable", "NothingDone", "BadText", "BadChoice", "PlanError"] : List Str)) ∧ ((v0.1 ∈ (["BadPlan", "BadPlans", "BadNumber", "BadSide", "BadRule", "BadRules", "BadBook", "BadThing", "NoPlans", "NoRule", "BadLot", "TooMany", "OtherThings", "NotSo", "NotEven", "BadTable", "NothingDone", "BadText", "BadChoice", "PlanError"] : List Str)) ∧ (v0.1 ∈ (["BadPlan", "BadPlans", "BadNumber", "BadSide", "BadRule", "BadRules", "BadBook", "BadThing", "NoPlans", "NoRule", "BadLot", "TooMany", "OtherThings", "NotSo", "NotEven", "BadTable", "NothingDone", "BadText", "BadChoice", "PlanError"] : List Str)))) ∧ (y10.length + [(e9 v0.1 "TooMany"), (e9 v0.1 "BadTable"), (e9 v0.1 "BadText")].length ≤ sizeLine)) ∧ (A6 (y10 ++ [(e9 v0.1 "TooMany"), (e9 v0.1 "BadTable"), (e9 v0.1 "BadText")]) fun (y12 : (List Bool)) => ((v0.1 ∈ (["BadPlan", "BadPlans", "BadNumber", "BadSide", "BadRule", "BadRules", "BadBook", "BadThing", "NoPlans", "NoRule", "BadLot", "TooMany", "OtherThings", "NotSo", "NotEven", "BadTable", "NothingDone", "BadText", "BadChoice", "PlanError"] : List Str)) ∧ (y12.length + [(e9 v0.1 "BadChoice")].length ≤ sizeLine))))))))))) ?_ (fun _ => rfl) ?_ ?_
 ·exact (dl (G6 (dd (v_var (x := (eL PyData.bool) y2) rfl)) (dl (z5 (i2 (o5 (dd (v_var (x := eX v0) rfl)) h1.1.1.1) (i2 (o5 (dd (v_var (x := eX v0) rfl)) h1.1.1.2.1) (i2 (o5 (dd (v_var (x := eX v0) rfl)) h1.1.1.2.2) g7))) rfl rfl)) (A4 y2 [(e9 v0.1 "BadRule"), (e9 v0.1 "NoPlans"), (e9 v0.1 "BadLot")] h1.1.2)))
 ·exact h1.2
 intro y4 h3
 refine o4 ?_
 refine T8 (w := (eL PyData.bool)) (v := (y4 ++ [(e9 v0.1 "OtherThings"), (e9 v0.1 "NotSo"), (e9 v0.1 "NotEven")])) (Z := fun (y6 : (List Bool)) => ((((v0.1 ∈ (["BadPlan", "BadPlans", "BadNumber", "BadSide", "BadRule", "BadRules", "BadBook", "BadThing", "NoPlans", "NoRule", "BadLot", "TooMany", "OtherThings", "NotSo", "NotEven", "BadTable", "NothingDone", "BadText", "BadChoice", "PlanError"] : List Str)) ∧ ((v0.1 ∈ (["BadPlan", "BadPlans", "BadNumber", "BadSide", "BadRule", "BadRules", "BadBook", "BadThing", "NoPlans", "NoRule", "BadLot", "TooMany", "OtherThings", "NotSo", "NotEven", "BadTable", "NothingDone", "BadText", "BadChoice", "PlanError"] : List Str)) ∧ (v0.1 ∈ (["BadPlan", "BadPlans", "BadNumber", "BadSide", "BadRule", "BadRules", "BadBook", "BadThing", "NoPlans", "NoRule", "BadLot", "TooMany", "OtherThings", "NotSo", "NotEven", "BadTable", "NothingDone", "BadText", "BadChoice", "PlanError"] : List Str)))) ∧ (y6.length + [(e9 v0.1 "NothingDone"), (e9 v0.1 "BadPlans"), (e9 v0.1 "BadRules")].length ≤ sizeLine)) ∧ (A6 (y6 ++ [(e9 v0.1 "NothingDone"), (e9 v0.1 "BadPlans"), (e9 v0.1 "BadRules")]) fun (y8 : (List Bool)) => ((((v0.1 ∈ (["BadPlan", "BadPlans", "BadNumber", "BadSide", "BadRule", "BadRules", "BadBook", "BadThing", "NoPlans", "NoRule", "BadLot", "TooMany", "OtherThings", "NotSo", "NotEven", "BadTable", "NothingDone", "BadText", "BadChoice", "PlanError"] : List Str)) ∧ ((v0.1 ∈ (["BadPlan", "BadPlans", "BadNumber", "BadSide", "BadRule", "BadRules", "BadBook", "BadThing", "NoPlans", "NoRule", "BadLot", "TooMany", "OtherThings", "NotSo", "NotEven", "BadTable", "NothingDone", "BadText", "BadChoice", "PlanError"] : List Str)) ∧ (v0.1 ∈ (["BadPlan", "BadPlans", "BadNumber", "BadSide", "BadRule", "BadRules", "BadBook", "BadThing", "NoPlans", "NoRule", "BadLot", "TooMany", "OtherThings", "NotSo", "NotEven", "BadTable", "NothingDone", "BadText", "BadChoice", "PlanError"] : List Str)))) ∧ (y8.length + [(e9 v0.1 "BadBook"), (e9 v0.1 "BadThing"), (e9 v0.1 "NoRule")].length ≤ sizeLine)) ∧ (A6 (y8 ++ [(e9 v0.1 "BadBook"), (e9 v0.1 "BadThing"), (e9 v0.1 "NoRule")]) fun (y10 : (List Bool)) => ((((v0.1 ∈ (["BadPlan", "BadPlans", "BadNumber", "BadSide", "BadRule", "BadRules", "BadBook", "BadThing", "NoPlans", "NoRule", "BadLot", "TooMany", "OtherThings", "NotSo", "NotEven", "BadTable", "NothingDone", "BadText", "BadChoice", "PlanError"] : List Str)) ∧ ((v0.1 ∈ (["BadPlan", "BadPlans", "BadNumber", "BadSide", "BadRule", "BadRules", "BadBook", "BadThing", "NoPlans", "NoRule", "BadLot", "TooMany", "OtherThings", "NotSo", "NotEven", "BadTable", "NothingDone", "BadText", "BadChoice", "PlanError"] : List Str)) ∧ (v0.1 ∈ (["BadPlan", "BadPlans", "BadNumber", "BadSide", "BadRule", "BadRules", "BadBook", "BadThing", "NoPlans", "NoRule", "BadLot", "TooMany", "OtherThings", "NotSo", "NotEven", "BadTable", "NothingDone", "BadText", "BadChoice", "PlanError"] : List Str)))) ∧ (y10.length + [(e9 v0.1 "TooMany"), (e9 v0.1 "BadTable"), (e9 v0.1 "BadText")].length ≤ sizeLine)) ∧ (A6 (y10 ++ [(e9 v0.1 "TooMany"), (e9 v0.1 "BadTable"), (e9 v0.1 "BadText")]) fun (y12 : (List Bool)) => ((v0.1 ∈ (["BadPlan", "BadPlans", "BadNumber", "BadSide", "BadRule", "BadRules", "BadBook", "BadThing", "NoPlans", "NoRule", "BadLot", "TooMany", "OtherThings", "NotSo", "NotEven", "BadTable", "NothingDone", "BadText", "BadChoice", "PlanError"] : List Str)) ∧ (y12.length + [(e9 v0.1 "BadChoice")].length ≤ sizeLine))))))))) ?_ (fun _ => rfl) ?_ ?_
 ·exact (dl (G6 (dd (v_var (x := (eL PyData.bool) y4) rfl)) (dl (z5 (i2 (o5 (dd (v_var (x := eX v0) rfl)) h3.1.1.1) (i2 (o5 (dd (v_var (x := eX v0) rfl)) h3.1.1.2.1) (i2 (o5 (dd (v_var (x := eX v0) rfl)) h3.1.1.2.2) g7))) rfl rfl)) (A4 y4 [(e9 v0.1 "OtherThings"), (e9 v0.1 "NotSo"), (e9 v0.1 "NotEven")] h3.1.2)))
 ·exact h3.2
 intro y6 h5
 refine o4 ?_
 refine T8 (w := (eL PyData.bool)) (v := (y6 ++ [(e9 v0.1 "NothingDone"), (e9 v0.1 "BadPlans"), (e9 v0.1 "BadRules")])) (Z := fun (y8 : (List Bool)) => ((((v0.1 ∈ (["BadPlan", "BadPlans", "BadNumber", "BadSide", "BadRule", "BadRules", "BadBook", "BadThing", "NoPlans", "NoRule", "BadLot", "TooMany", "OtherThings", "NotSo", "NotEven", "BadTable", "NothingDone", "BadText", "BadChoice", "PlanError"] : List Str)) ∧ ((v0.1 ∈ (["BadPlan", "BadPlans", "BadNumber", "BadSide", "BadRule", "BadRules", "BadBook", "BadThing", "NoPlans", "NoRule", "BadLot", "TooMany", "OtherThings", "NotSo", "NotEven", "BadTable", "NothingDone", "BadText", "BadChoice", "PlanError"] : List Str)) ∧ (v0.1 ∈ (["BadPlan", "BadPlans", "BadNumber", "BadSide", "BadRule", "BadRules", "BadBook", "BadThing", "NoPlans", "NoRule", "BadLot", "TooMany", "OtherThings", "NotSo", "NotEven", "BadTable", "NothingDone", "BadText", "BadChoice", "PlanError"] : List Str)))) ∧ (y8.length + [(e9 v0.1 "BadBook"), (e9 v0.1 "BadThing"), (e9 v0.1 "NoRule")].length ≤ sizeLine)) ∧ (A6 (y8 ++ [(e9 v0.1 "BadBook"), (e9 v0.1 "BadThing"), (e9 v0.1 "NoRule")]) fun (y10 : (List Bool)) => ((((v0.1 ∈ (["BadPlan", "BadPlans", "BadNumber", "BadSide", "BadRule", "BadRules", "BadBook", "BadThing", "NoPlans", "NoRule", "BadLot", "TooMany", "OtherThings", "NotSo", "NotEven", "BadTable", "NothingDone", "BadText", "BadChoice", "PlanError"] : List Str)) ∧ ((v0.1 ∈ (["BadPlan", "BadPlans", "BadNumber", "BadSide", "BadRule", "BadRules", "BadBook", "BadThing", "NoPlans", "NoRule", "BadLot", "TooMany", "OtherThings", "NotSo", "NotEven", "BadTable", "NothingDone", "BadText", "BadChoice", "PlanError"] : List Str)) ∧ (v0.1 ∈ (["BadPlan", "BadPlans", "BadNumber", "BadSide", "BadRule", "BadRules", "BadBook", "BadThing", "NoPlans", "NoRule", "BadLot", "TooMany", "OtherThings", "NotSo", "NotEven", "BadTable", "NothingDone", "BadText", "BadChoice", "PlanError"] : List Str)))) ∧ (y10.length + [(e9 v0.1 "TooMany"), (e9 v0.1 "BadTable"), (e9 v0.1 "BadText")].length ≤ sizeLine)) ∧ (A6 (y10 ++ [(e9 v0.1 "TooMany"), (e9 v0.1 "BadTable"), (e9 v0.1 "BadText")]) fun (y12 : (List Bool)) => ((v0.1 ∈ (["BadPlan", "BadPlans", "BadNumber", "BadSide", "BadRule", "BadRules", "BadBook", "BadThing", "NoPlans", "NoRule", "BadLot", "TooMany", "OtherThings", "NotSo", "NotEven", "BadTable", "NothingDone", "BadText", "BadChoice", "PlanError"] : List Str)) ∧ (y12.length + [(e9 v0.1 "BadChoice")].length ≤ sizeLine))))))) ?_ (fun _ => rfl) ?_ ?_
 ·exact (dl (G6 (dd (v_var (x := (eL PyData.bool) y6) rfl)) (dl (z5 (i2 (o5 (dd (v_var (x := eX v0) rfl)) h5.1.1.1) (i2 (o5 (dd (v_var (x := eX v0) rfl)) h5.1.1.2.1) (i2 (o5 (dd (v_var (x := eX v0) rfl)) h5.1.1.2.2) g7))) rfl rfl)) (A4 y6 [(e9 v0.1 "NothingDone"), (e9 v0.1 "BadPlans"), (e9 v0.1 "BadRules")] h5.1.2)))
 ·exact h5.2
 intro y8 h7
 refine o4 ?_
 refine T8 (w := (eL PyData.bool)) (v := (y8 ++ [(e9 v0.1 "BadBook"), (e9 v0.1 "BadThing"), (e9 v0.1 "NoRule")])) (Z := fun (y10 : (List Bool)) => ((((v0.1 ∈ (["BadPlan", "BadPlans", "BadNumber", "BadSide", "BadRule", "BadRules", "BadBook", "BadThing", "NoPlans", "NoRule", "BadLot", "TooMany", "OtherThings", "NotSo", "NotEven", "BadTable", "NothingDone", "BadText", "BadChoice", "PlanError"] : List Str)) ∧ ((v0.1 ∈ (["BadPlan", "BadPlans", "BadNumber", "BadSide", "BadRule", "BadRules", "BadBook", "BadThing", "NoPlans", "NoRule", "BadLot", "TooMany", "OtherThings", "NotSo", "NotEven", "BadTable", "NothingDone", "BadText", "BadChoice", "PlanError"] : List Str)) ∧ (v0.1 ∈ (["BadPlan", "BadPlans", "BadNumber", "BadSide", "BadRule", "BadRules", "BadBook", "BadThing", "NoPlans", "NoRule", "BadLot", "TooMany", "OtherThings", "NotSo", "NotEven", "BadTable", "NothingDone", "BadText", "BadChoice", "PlanError"] : List Str)))) ∧ (y10.length + [(e9 v0.1 "TooMany"), (e9 v0.1 "BadTable"), (e9 v0.1 "BadText")].length ≤ sizeLine)) ∧ (A6 (y10 ++ [(e9 v0.1 "TooMany"), (e9 v0.1 "BadTable"), (e9 v0.1 "BadText")]) fun (y12 : (List Bool)) => ((v0.1 ∈ (["BadPlan", "BadPlans", "BadNumber", "BadSide", "BadRule", "BadRules", "BadBook", "BadThing", "NoPlans", "NoRule", "BadLot", "TooMany", "OtherThings", "NotSo", "NotEven", "BadTable", "NothingDone", "BadText", "BadChoice", "PlanError"] : List Str)) ∧ (y12.length + [(e9 v0.1 "BadChoice")].length ≤ sizeLine))))) ?_ (fun _ => rfl) ?_ ?_
 ·exact (dl (G6 (dd (v_var (x := (eL PyData.bool) y8) rfl)) (dl (z5 (i2 (o5 (dd (v_var (x := eX v0) rfl)) h7.1.1.1) (i2 (o5 (dd (v_var (x := eX v0) rfl)) h7.1.1.2.1) (i2 (o5 (dd (v_var (x := eX v0) rfl)) h7.1.1.2.2) g7))) rfl rfl)) (A4 y8 [(e9 v0.1 "BadBook"), (e9 v0.1 "BadThing"), (e9 v0.1 "NoRule")] h7.1.2)))
 ·exact h7.2
 intro y10 h9
 refine o4 ?_
 refine T8 (w := (eL PyData.bool)) (v := (y10 ++ [(e9 v0.1 "TooMany"), (e9 v0.1 "BadTable"), (e9 v0.1 "BadText")])) (Z := fun (y12 : (List Bool)) => ((v0.1 ∈ (["BadPlan", "BadPlans", "BadNumber", "BadSide", "BadRule", "BadRules", "BadBook", "BadThing", "NoPlans", "NoRule", "BadLot", "TooMany", "OtherThings", "NotSo", "NotEven", "BadTable", "NothingDone", "BadText", "BadChoice", "PlanError"] : List Str)) ∧ (y12.length + [(e9 v0.1 "BadChoice")].length ≤ sizeLine))) ?_ (fun _ => rfl) ?_ ?_
 ·exact (dl (G6 (dd (v_var (x := (eL PyData.bool) y10) rfl)) (dl (z5 (i2 (o5 (dd (v_var (x := eX v0) rfl)) h9.1.1.1) (i2 (o5 (dd (v_var (x := eX v0) rfl)) h9.1.1.2.1) (i2 (o5 (dd (v_var (x := eX v0) rfl)) h9.1.1.2.2) g7))) rfl rfl)) (A4 y10 [(e9 v0.1 "TooMany"), (e9 v0.1 "BadTable"), (e9 v0.1 "BadText")] h9.1.2)))
 ·exact h9.2
 intro y12 h11
 exact Z4 (G6 (dd (v_var (x := (eL PyData.bool) y12) rfl)) (dl (z5 (i2 (o5 (dd (v_var (x := eX v0) rfl)) h11.1) g7) rfl rfl)) (A4 y12 [(e9 v0.1 "BadChoice")] h11.2)) rfl
def o0 (v0 : (List ErP)) : Bool := (blV (fun (b20 : Bool) => b20) (fun (y15 : Unit) => true) (N9 (fun (s1 : Unit) (x2 : (Int × ErP)) => ((if (decide ((q7 x2.2) ≠ ((rng 0 (19 : Int)).map fun (x5 : Int) => (decide (x5 = x2.1))))) = true then (Bl.ret false) else (if ((!(e9 x2.2.1 "PlanError")) || (!true)) = true then (Bl.ret false) else (Bl.nx ()))) : Bl Bool (Unit))) (enu v0) ()))
def o9 (v0 : (List ErP)) : Prop := (a18 (fun (s1 : Unit) (x2 : (Int × ErP)) => (((u9 x2.2) ∧ ((-(2 ^ 62) ≤ (19 : Int) ∧ (19 : Int) < 2 ^ 62) ∧ ((rng 0 (19 : Int)).length ≤ sizeLine))) ∧ (∀ hc9 : (decide ((q7 x2.2) ≠ ((rng 0 (19 : Int)).map fun (x5 : Int) => (decide (x5 = x2.1))))) = false, ((x2.2.1 ∈ (["BadPlan", "BadPlans", "BadNumber", "BadSide", "BadRule", "BadRules", "BadBook", "BadThing", "NoPlans", "NoRule", "BadLot", "TooMany", "OtherThings", "NotSo", "NotEven", "BadTable", "NothingDone", "BadText", "BadChoice", "PlanError"] : List Str)) ∧ ((!(e9 x2.2.1 "PlanError")) = false → (x2.2.1 ∈ (["BadPlan", "BadPlans", "BadNumber", "BadSide", "BadRule", "BadRules", "BadBook", "BadThing", "NoPlans", "NoRule", "BadLot", "TooMany", "OtherThings", "NotSo", "NotEven", "BadTable", "NothingDone", "BadText", "BadChoice", "PlanError"] : List Str))))))) (fun (s1 : Unit) (x2 : (Int × ErP)) => ((if (decide ((q7 x2.2) ≠ ((rng 0 (19 : Int)).map fun (x5 : Int) => (decide (x5 = x2.1))))) = true then (Bl.ret false) else (if ((!(e9 x2.2.1 "PlanError")) || (!true)) = true then (Bl.ret false) else (Bl.nx ()))) : Bl Bool (Unit))) (enu v0) ())
theorem O6 (v0 : (List ErP)) (hz : o9 v0) (g : Gs) : u7 [.d ((eL eX) v0)] g = .ok ((fun (x : Bool) => RV.d (PyData.bool x)) (o0 v0)) g := by
 unfold o9 at hz
 unfold u7 o0 F6
 refine a6K (w := (fun (x : Bool) => RV.d (PyData.bool x))) rfl (S7 ?_)
 refine o4 ?_
 refine a5h (w := (fun (x : Bool) => RV.d (PyData.bool x))) (ea := (eP PyData.int eX)) (z := (fun (s1 : Unit) (x2 : (Int × ErP)) => (((u9 x2.2) ∧ ((-(2 ^ 62) ≤ (19 : Int) ∧ (19 : Int) < 2 ^ 62) ∧ ((rng 0 (19 : Int)).length ≤ sizeLine))) ∧ (∀ hc9 : (decide ((q7 x2.2) ≠ ((rng 0 (19 : Int)).map fun (x5 : Int) => (decide (x5 = x2.1))))) = false, ((x2.2.1 ∈ (["BadPlan", "BadPlans", "BadNumber", "BadSide", "BadRule", "BadRules", "BadBook", "BadThing", "NoPlans", "NoRule", "BadLot", "TooMany", "OtherThings", "NotSo", "NotEven", "BadTable", "NothingDone", "BadText", "BadChoice", "PlanError"] : List Str)) ∧ ((!(e9 x2.2.1 "PlanError")) = false → (x2.2.1 ∈ (["BadPlan", "BadPlans", "BadNumber", "BadSide", "BadRule", "BadRules", "BadBook", "BadThing", "NoPlans", "NoRule", "BadLot", "TooMany", "OtherThings", "NotSo", "NotEven", "BadTable", "NothingDone", "BadText", "BadChoice", "PlanError"] : List Str)))))))) (vr := fun (b20 : Bool) => b20) (vn := fun (y15 : Unit) => true) (fun (s1 : Unit) ρ => ∃ j3 j4 : SD, ρ = [.d ((eL eX) v0), j3, j4, .u]) ?_ ?_ ?_ ?_ ?_ ?_
 ·exact (a8K (i2 (v_var (x := (eL eX) v0) rfl) g7) (a4Z v0))
 ·exact ⟨_, _, rfl⟩
 ·exact hz
 ·intro s1 x2 ρ hr13 hz14
  obtain ⟨j3, j4, rfl⟩ := hr13
  refine ⟨_, rfl, S7 ?_⟩
  refine o4 ?_
  refine a9x (c := (decide ((q7 x2.2) ≠ ((rng 0 (19 : Int)).map fun (x5 : Int) => (decide (x5 = x2.1)))))) ?_ (fun hc8 => ?_) (fun hc9 => ?_)
  ·exact (O9 (G6 (dl (a2l (i2 (v_var (x := eX x2.2) rfl) g7) (Z2 x2.2 hz14.1.1 _))) (dl (a8Z (h := fun (x5 : Int) => (decide (x5 = x2.1))) (e' := PyData.bool) (a8K (i2 v_c g7) (a6n (a4W hz14.1.2.1.2 hz14.1.2.1.1) (by rw [List.length_map]; exact hz14.1.2.2))) (fun x5 hx7 => ⟨_, rfl, (dd (G6 (dd (v_var (x := PyData.int x5) rfl)) (dd (v_var (x := PyData.int x2.1) rfl)) (a9P a6N x5 x2.1 (by decide))))⟩))) (a8k (b06 a52) (q7 x2.2) ((rng 0 (19 : Int)).map fun (x5 : Int) => (decide (x5 = x2.1))) (by decide))))
  ·exact Z4 v_c rfl
  ·refine R8 ?_
   refine a9x (c := ((!(e9 x2.2.1 "PlanError")) || (!true))) ?_ (fun hc11 => ?_) (fun hc12 => ?_)
   ·exact (v_or (v_not (O9 (o5 (dd (v_var (x := eX x2.2) rfl)) (hz14.2 hc9).1))) (fun hb10 => (v_not (O9 (a5j (dd (v_var (x := eX x2.2) rfl)) ((hz14.2 hc9).2 hb10))))))
   ·exact Z4 v_c rfl
   ·refine R8 ?_
    exact a4D ⟨_, .inl rfl, ⟨_, _, rfl⟩⟩
 ·exact fun _ => rfl
 ·intro y15 ρ he19 hr16
  obtain ⟨j17, j18, rfl⟩ := hr16
  exact Z4 v_c rfl
noncomputable def a2z (v0 : (List Int)) (v1 : Addr) (g : Gs) : R Bool := (R.asrt (-(2 ^ 62) ≤ ((2 : Int) + (min (v0.length : Int) (4 : Int))) ∧ ((2 : Int) + (min (v0.length : Int) (4 : Int))) < 2 ^ 62) ((U7 (fun (s1 : Unit) (x2 : Int) g => (((z6 v1 g).bind fun (y10 : PyData) g => (A6 [((("BadPlan" : Str), []) : ErP), ((("BadNumber" : Str), []) : ErP), ((("BadSide" : Str), []) : ErP), ((("BadRule" : Str), []) : ErP), ((("NoPlans" : Str), []) : ErP), ((("BadLot" : Str), []) : ErP), ((("OtherThings" : Str), []) : ErP)] fun (y11 : (List ErP)) => (R.asrt (y11.length + [((("NotSo" : Str), []) : ErP), ((("NotEven" : Str), []) : ErP), ((("NothingDone" : Str), []) : ErP)].length ≤ sizeLine) (A6 (y11 ++ [((("NotSo" : Str), []) : ErP), ((("NotEven" : Str), []) : ErP), ((("NothingDone" : Str), []) : ErP)]) fun (y12 : (List ErP)) => (A6 [((("BadPlans" : Str), [("at", y10)]) : ErP), ((("BadRules" : Str), [("at", y10)]) : ErP), ((("BadBook" : Str), [("part", y10)]) : ErP), ((("BadThing" : Str), [("thing", y10)]) : ErP), ((("NoRule" : Str), [("at", y10)]) : ErP), ((("TooMany" : Str), [("most", y10)]) : ErP), ((("BadTable" : Str), [("name", y10)]) : ErP), ((("BadText" : Str), [("line", y10)]) : ErP)] fun (y13 : (List ErP)) => (R.asrt ((((y12.length + y13.length ≤ sizeLine) ∧ ((y12 ++ y13).length + [((("BadChoice" : Str), []) : ErP)].length ≤ sizeLine)) ∧ (o9 ((y12 ++ y13) ++ [((("BadChoice" : Str), []) : ErP)]))) ∧ (∀ hb14 : (!(o0 ((y12 ++ y13) ++ [((("BadChoice" : Str), []) : ErP)]))) = false, (((("PlanError" : Str), []) : ErP).1 ∈ (["BadPlan", "BadPlans", "BadNumber", "BadSide", "BadRule", "BadRules", "BadBook", "BadThing", "NoPlans", "NoRule", "BadLot", "TooMany", "OtherThings", "NotSo", "NotEven", "BadTable", "NothingDone", "BadText", "BadChoice", "PlanError"] : List Str)))) (if ((!(o0 ((y12 ++ y13) ++ [((("BadChoice" : Str), []) : ErP)]))) || (e9 ((("PlanError" : Str), []) : ErP).1 "BadPlan")) = true then (.ok (Bl.ret false) g) else (R.asrt ((((atI y13 (0 : Int)).isSome = true) ∧ (((atI y13 (0 : Int)).getD (("", []) : ErP)).1 ∈ (["BadPlans", "BadRules", "NoRule"] : List Str) ∧ (w7 "at" (I7 ((atI y13 (0 : Int)).getD (("", []) : ErP)).2)).isSome = true)) ∧ ((((atI y13 (1 : Int)).isSome = true) ∧ (((atI y13 (1 : Int)).getD (("", []) : ErP)).1 ∈ (["BadPlans", "BadRules", "NoRule"] : List Str) ∧ (w7 "at" (I7 ((atI y13 (1 : Int)).getD (("", []) : ErP)).2)).isSome = true)) ∧ ((((atI y13 (2 : Int)).isSome = true) ∧ (((atI y13 (2 : Int)).getD (("", []) : ErP)).1 ∈ (["BadBook"] : List Str) ∧ (w7 "part" (I7 ((atI y13 (2 : Int)).getD (("", []) : ErP)).2)).isSome = true)) ∧ ((((atI y13 (3 : Int)).isSome = true) ∧ (((atI y13 (3 : Int)).getD (("", []) : ErP)).1 ∈ (["BadThing"] : List Str) ∧ (w7 "thing" (I7 ((atI y13 (3 : Int)).getD (("", []) : ErP)).2)).isSome = true)) ∧ ((((atI y13 (4 : Int)).isSome = true) ∧ (((atI y13 (4 : Int)).getD (("", []) : ErP)).1 ∈ (["BadPlans", "BadRules", "NoRule"] : List Str) ∧ (w7 "at" (I7 ((atI y13 (4 : Int)).getD (("", []) : ErP)).2)).isSome = true)) ∧ ((((atI y13 (5 : Int)).isSome = true) ∧ (((atI y13 (5 : Int)).getD (("", []) : ErP)).1 ∈ (["TooMany"] : List Str) ∧ (w7 "most" (I7 ((atI y13 (5 : Int)).getD (("", []) : ErP)).2)).isSome = true)) ∧ ((((atI y13 (6 : Int)).isSome = true) ∧ (((atI y13 (6 : Int)).getD (("", []) : ErP)).1 ∈ (["BadTable"] : List Str) ∧ (w7 "name" (I7 ((atI y13 (6 : Int)).getD (("", []) : ErP)).2)).isSome = true)) ∧ (((atI y13 (7 : Int)).isSome = true) ∧ (((atI y13 (7 : Int)).getD (("", []) : ErP)).1 ∈ (["BadText"] : List Str) ∧ (w7 "line" (I7 ((atI y13 (7 : Int)).getD (("", []) : ErP)).2)).isSome = true))))))))) (A6 [(xA "at" ((atI y13 (0 : Int)).getD (("", []) : ErP))), (xA "at" ((atI y13 (1 : Int)).getD (("", []) : ErP))), (xA "part" ((atI y13 (2 : Int)).getD (("", []) : ErP))), (xA "thing" ((atI y13 (3 : Int)).getD (("", []) : ErP))), (xA "at" ((atI y13 (4 : Int)).getD (("", []) : ErP))), (xA "most" ((atI y13 (5 : Int)).getD (("", []) : ErP))), (xA "name" ((atI y13 (6 : Int)).getD (("", []) : ErP))), (xA "line" ((atI y13 (7 : Int)).getD (("", []) : ErP)))] fun (y17 : (List PyData)) => (R.asrt ((Shd ((eL eA) y17)) ∧ (Shd ((eL eA) (List.replicate 8 ([y10] : (List PyData))).flatten))) (if (decide ((PyData.shown ((eL eA) y17)) ≠ (PyData.shown ((eL eA) (List.replicate 8 ([y10] : (List PyData))).flatten)))) = true then (.ok (Bl.ret false) g) else (A6 [((("BadPlans" : Str), [("at", y10)]) : ErP), ((("BadRules" : Str), [("at", y10)]) : ErP), ((("BadBook" : Str), [("part", y10)]) : ErP), ((("BadThing" : Str), [("thing", y10)]) : ErP), ((("NoRule" : Str), [("at", y10)]) : ErP), ((("TooMany" : Str), [("most", y10)]) : ErP)] fun (y20 : (List ErP)) => (R.asrt (y20.length + [((("BadTable" : Str), [("name", y10)]) : ErP), ((("BadText" : Str), [("line", y10)]) : ErP)].length ≤ sizeLine) (A6 (y20 ++ [((("BadTable" : Str), [("name", y10)]) : ErP), ((("BadText" : Str), [("line", y10)]) : ErP)]) fun (y21 : (List ErP)) => (R.asrt ((((atI y21 (0 : Int)).isSome = true) ∧ (((atI y21 (0 : Int)).getD (("", []) : ErP)).1 ∈ (["BadPlans", "BadRules", "NoRule"] : List Str) ∧ (w7 "at" (I7 ((atI y21 (0 : Int)).getD (("", []) : ErP)).2)).isSome = true)) ∧ ((((atI y21 (1 : Int)).isSome = true) ∧ (((atI y21 (1 : Int)).getD (("", []) : ErP)).1 ∈ (["BadPlans", "BadRules", "NoRule"] : List Str) ∧ (w7 "at" (I7 ((atI y21 (1 : Int)).getD (("", []) : ErP)).2)).isSome = true)) ∧ ((((atI y21 (2 : Int)).isSome = true) ∧ (((atI y21 (2 : Int)).getD (("", []) : ErP)).1 ∈ (["BadBook"] : List Str) ∧ (w7 "part" (I7 ((atI y21 (2 : Int)).getD (("", []) : ErP)).2)).isSome = true)) ∧ ((((atI y21 (3 : Int)).isSome = true) ∧ (((atI y21 (3 : Int)).getD (("", []) : ErP)).1 ∈ (["BadThing"] : List Str) ∧ (w7 "thing" (I7 ((atI y21 (3 : Int)).getD (("", []) : ErP)).2)).isSome = true)) ∧ ((((atI y21 (4 : Int)).isSome = true) ∧ (((atI y21 (4 : Int)).getD (("", []) : ErP)).1 ∈ (["BadPlans", "BadRules", "NoRule"] : List Str) ∧ (w7 "at" (I7 ((atI y21 (4 : Int)).getD (("", []) : ErP)).2)).isSome = true)) ∧ ((((atI y21 (5 : Int)).isSome = true) ∧ (((atI y21 (5 : Int)).getD (("", []) : ErP)).1 ∈ (["TooMany"] : List Str) ∧ (w7 "most" (I7 ((atI y21 (5 : Int)).getD (("", []) : ErP)).2)).isSome = true)) ∧ (((atI y21 (6 : Int)).isSome = true) ∧ (((atI y21 (6 : Int)).getD (("", []) : ErP)).1 ∈ (["BadTable"] : List Str) ∧ (w7 "name" (I7 ((atI y21 (6 : Int)).getD (("", []) : ErP)).2)).isSome = true)))))))) (A6 [(xA "at" ((atI y21 (0 : Int)).getD (("", []) : ErP))), (xA "at" ((atI y21 (1 : Int)).getD (("", []) : ErP))), (xA "part" ((atI y21 (2 : Int)).getD (("", []) : ErP))), (xA "thing" ((atI y21 (3 : Int)).getD (("", []) : ErP))), (xA "at" ((atI y21 (4 : Int)).getD (("", []) : ErP))), (xA "most" ((atI y21 (5 : Int)).getD (("", []) : ErP))), (xA "name" ((atI y21 (6 : Int)).getD (("", []) : ErP)))] fun (y22 : (List PyData)) => (R.asrt (((((((atI y21 (7 : Int)).isSome = true) ∧ (((atI y21 (7 : Int)).getD (("", []) : ErP)).1 ∈ (["BadText"] : List Str) ∧ (w7 "line" (I7 ((atI y21 (7 : Int)).getD (("", []) : ErP)).2)).isSome = true)) ∧ (y22.length + [(xA "line" ((atI y21 (7 : Int)).getD (("", []) : ErP)))].length ≤ sizeLine)) ∧ (Shd ((eL eA) (y22 ++ [(xA "line" ((atI y21 (7 : Int)).getD (("", []) : ErP)))])))) ∧ (Shd ((eL eA) (List.replicate 8 ([y10] : (List PyData))).flatten))) ∧ (∀ hb23 : (decide ((PyData.shown ((eL eA) (y22 ++ [(xA "line" ((atI y21 (7 : Int)).getD (("", []) : ErP)))]))) ≠ (PyData.shown ((eL eA) (List.replicate 8 ([y10] : (List PyData))).flatten)))) = false, ((y12.length + y21.length ≤ sizeLine) ∧ (o9 (y12 ++ y21))))) (if ((decide ((PyData.shown ((eL eA) (y22 ++ [(xA "line" ((atI y21 (7 : Int)).getD (("", []) : ErP)))]))) ≠ (PyData.shown ((eL eA) (List.replicate 8 ([y10] : (List PyData))).flatten)))) || (!(o0 (y12 ++ y21)))) = true then (.ok (Bl.ret false) g) else (.ok (Bl.nx ()) g))))))))))))))))))) : R (Bl Bool (Unit)))) (rng 0 ((2 : Int) + (min (v0.length : Int) (4 : Int)))) () g).bind (blK (fun (b42 : Bool) => b42) (fun (y34 : Unit) g => (.ok true g)))))
theorem law_g (v0 : (List Int)) (v1 : Addr) (g : Gs) : RG a27 (L7 6 v0 v1) g (a2z v0 v1 g) (Rt (fun x => RV.d (PyData.bool x))) := by
 show RG a27 ([.d ((eL PyData.int) v0), .o (.ref v1), .u, .u, .u, .u, .u, .u] : List SD) g (a2z v0 v1 g) _
 unfold a27 a2z
 refine S7 ?_
 refine o4 ?_
 refine L6 fun hz43 => ?_
 refine a51 (w := (fun (x : Bool) => RV.d (PyData.bool x))) (ea := PyData.int) (vr := fun (b42 : Bool) => b42) (fun (s1 : Unit) ρ => ∃ j3 j4 j5 j6 j7 j8 : SD, ρ = [.d ((eL PyData.int) v0), .o (.ref v1), j3, j4, j5, j6, j7, j8]) ?_ ?_ ?_ ?_ ?_
 ·exact (a8K (i2 (G6 (dd v_c) (dd (a6l (i2 (a6l (i2 (v_var (x := (eL PyData.int) v0) rfl) g7) (a6A v0)) (i2 v_c g7)) (a7L (v0.length : Int) (4 : Int)))) rfl) g7) (a4W hz43.2 hz43.1))
 ·exact ⟨_, _, _, _, _, _, rfl⟩
 ·intro s1 x2 ρ g hr33
  obtain ⟨j3, j4, j5, j6, j7, j8, rfl⟩ := hr33
  refine ⟨_, rfl, S7 ?_⟩
  refine o4 ?_
  refine a9f (A := (z6 v1 g)) (e := eA) ?_ (fun _ => rfl) ?_
  ·exact (rd (a2r (a0K (a4p rfl) g7) (a1k v1 _)))
  intro y10 g
  refine o4 ?_
  refine M4 (w := (eL eX)) (v := [((("BadPlan" : Str), []) : ErP), ((("BadNumber" : Str), []) : ErP), ((("BadSide" : Str), []) : ErP), ((("BadRule" : Str), []) : ErP), ((("NoPlans" : Str), []) : ErP), ((("BadLot" : Str), []) : ErP), ((("OtherThings" : Str), []) : ErP)]) ?_ (fun _ => rfl) ?_
  ·exact (dl (z5 (i2 P1 (i2 P1 (i2 P1 (i2 P1 (i2 P1 (i2 P1 (i2 P1 g7))))))) rfl rfl))
  intro y11
  refine o4 ?_
  refine L6 fun hz32 => ?_
  refine M4 (w := (eL eX)) (v := (y11 ++ [((("NotSo" : Str), []) : ErP), ((("NotEven" : Str), []) : ErP), ((("NothingDone" : Str), []) : ErP)])) ?_ (fun _ => rfl) ?_
  ·exact (dl (G6 (dd (v_var (x := (eL eX) y11) rfl)) (dl (z5 (i2 P1 (i2 P1 (i2 P1 g7))) rfl rfl)) (A4 y11 [((("NotSo" : Str), []) : ErP), ((("NotEven" : Str), []) : ErP), ((("NothingDone" : Str), []) : ErP)] hz32)))
  intro y12
  refine o4 ?_
  refine M4 (w := (eL eX)) (v := [((("BadPlans" : Str), [("at", y10)]) : ErP), ((("BadRules" : Str), [("at", y10)]) : ErP), ((("BadBook" : Str), [("part", y10)]) : ErP), ((("BadThing" : Str), [("thing", y10)]) : ErP), ((("NoRule" : Str), [("at", y10)]) : ErP), ((("TooMany" : Str), [("most", y10)]) : ErP), ((("BadTable" : Str), [("name", y10)]) : ErP), ((("BadText" : Str), [("line", y10)]) : ErP)]) ?_ (fun _ => rfl) ?_
  ·exact (dl (z5 (i2 (H9 (dd (v_var (x := eA y10) rfl))) (i2 (H9 (dd (v_var (x := eA y10) rfl))) (i2 (H9 (dd (v_var (x := eA y10) rfl))) (i2 (H9 (dd (v_var (x := eA y10) rfl))) (i2 (H9 (dd (v_var (x := eA y10) rfl))) (i2 (H9 (dd (v_var (x := eA y10) rfl))) (i2 (H9 (dd (v_var (x := eA y10) rfl))) (i2 (H9 (dd (v_var (x := eA y10) rfl))) g7)))))))) rfl rfl))
  intro y13
  refine o4 ?_
  refine a4R (ρ' := [.d ((eL PyData.int) v0), .o (.ref v1), .d (PyData.int x2), .d (eA y10), .d ((eL eX) y12), .d ((eL eX) y13), j7, j8]) rfl ?_
  refine L6 fun hz31 => ?_
  refine a5q (c := ((!(o0 ((y12 ++ y13) ++ [((("BadChoice" : Str), []) : ErP)]))) || (e9 ((("PlanError" : Str), []) : ErP).1 "BadPlan"))) ?_ (fun hc15 => ?_) (fun hc16 => ?_)
  ·exact (v_or (v_not (O9 (a2l (a3s (G6 (dl (G6 (dd (v_var (x := (eL eX) y12) rfl)) (dd (v_var (x := (eL eX) y13) rfl)) (A4 y12 y13 hz31.1.1.1))) (dl (z5 (i2 P1 g7) rfl rfl)) (A4 (y12 ++ y13) [((("BadChoice" : Str), []) : ErP)] hz31.1.1.2)) g7) (O6 ((y12 ++ y13) ++ [((("BadChoice" : Str), []) : ErP)]) hz31.1.2 _)))) (fun hb14 => (O9 (o5 (dd P1) (hz31.2 hb14)))))
  ·exact Z4 v_c rfl
  ·refine R8 ?_
   refine o4 ?_
   refine L6 fun hz30 => ?_
   refine M4 (w := (eL eA)) (v := [(xA "at" ((atI y13 (0 : Int)).getD (("", []) : ErP))), (xA "at" ((atI y13 (1 : Int)).getD (("", []) : ErP))), (xA "part" ((atI y13 (2 : Int)).getD (("", []) : ErP))), (xA "thing" ((atI y13 (3 : Int)).getD (("", []) : ErP))), (xA "at" ((atI y13 (4 : Int)).getD (("", []) : ErP))), (xA "most" ((atI y13 (5 : Int)).getD (("", []) : ErP))), (xA "name" ((atI y13 (6 : Int)).getD (("", []) : ErP))), (xA "line" ((atI y13 (7 : Int)).getD (("", []) : ErP)))]) ?_ (fun _ => rfl) ?_
   ·exact (dl (z5 (i2 (a0c (dd (G6 (dd (v_var (x := (eL eX) y13) rfl)) (dd v_c) (I6 (d := (("", []) : ErP)) hz30.1.1))) hz30.1.2) (i2 (a0c (dd (G6 (dd (v_var (x := (eL eX) y13) rfl)) (dd v_c) (I6 (d := (("", []) : ErP)) hz30.2.1.1))) hz30.2.1.2) (i2 (a0c (dd (G6 (dd (v_var (x := (eL eX) y13) rfl)) (dd v_c) (I6 (d := (("", []) : ErP)) hz30.2.2.1.1))) hz30.2.2.1.2) (i2 (a0c (dd (G6 (dd (v_var (x := (eL eX) y13) rfl)) (dd v_c) (I6 (d := (("", []) : ErP)) hz30.2.2.2.1.1))) hz30.2.2.2.1.2) (i2 (a0c (dd (G6 (dd (v_var (x := (eL eX) y13) rfl)) (dd v_c) (I6 (d := (("", []) : ErP)) hz30.2.2.2.2.1.1))) hz30.2.2.2.2.1.2) (i2 (a0c (dd (G6 (dd (v_var (x := (eL eX) y13) rfl)) (dd v_c) (I6 (d := (("", []) : ErP)) hz30.2.2.2.2.2.1.1))) hz30.2.2.2.2.2.1.2) (i2 (a0c (dd (G6 (dd (v_var (x := (eL eX) y13) rfl)) (dd v_c) (I6 (d := (("", []) : ErP)) hz30.2.2.2.2.2.2.1.1))) hz30.2.2.2.2.2.2.1.2) (i2 (a0c (dd (G6 (dd (v_var (x := (eL eX) y13) rfl)) (dd v_c) (I6 (d := (("", []) : ErP)) hz30.2.2.2.2.2.2.2.1))) hz30.2.2.2.2.2.2.2.2) g7)))))))) rfl rfl))
   intro y17
   refine o4 ?_
   refine L6 fun hz29 => ?_
   refine a5q (c := (decide ((PyData.shown ((eL eA) y17)) ≠ (PyData.shown ((eL eA) (List.replicate 8 ([y10] : (List PyData))).flatten))))) ?_ (fun hc18 => ?_) (fun hc19 => ?_)
   ·exact (O9 (G6 (dd (a6l (i2 (v_var (x := (eL eA) y17) rfl) g7) (a0F hz29.1))) (dd (a6l (a3s (a4V (e := eA) (z5 (i2 (v_var (x := eA y10) rfl) g7) rfl rfl) (dd v_c) rfl rfl) g7) (a0F hz29.2))) (a8k a1x (PyData.shown ((eL eA) y17)) (PyData.shown ((eL eA) (List.replicate 8 ([y10] : (List PyData))).flatten)) (by decide))))
   ·exact Z4 v_c rfl
   ·refine R8 ?_
    refine o4 ?_
    refine M4 (w := (eL eX)) (v := [((("BadPlans" : Str), [("at", y10)]) : ErP), ((("BadRules" : Str), [("at", y10)]) : ErP), ((("BadBook" : Str), [("part", y10)]) : ErP), ((("BadThing" : Str), [("thing", y10)]) : ErP), ((("NoRule" : Str), [("at", y10)]) : ErP), ((("TooMany" : Str), [("most", y10)]) : ErP)]) ?_ (fun _ => rfl) ?_
    ·exact (dl (z5 (i2 (H9 (dd (v_var (x := eA y10) rfl))) (i2 (H9 (dd (v_var (x := eA y10) rfl))) (i2 (H9 (dd (v_var (x := eA y10) rfl))) (i2 (H9 (dd (v_var (x := eA y10) rfl))) (i2 (H9 (dd (v_var (x := eA y10) rfl))) (i2 (H9 (dd (v_var (x := eA y10) rfl))) g7)))))) rfl rfl))
    intro y20
    refine o4 ?_
    refine L6 fun hz28 => ?_
    refine M4 (w := (eL eX)) (v := (y20 ++ [((("BadTable" : Str), [("name", y10)]) : ErP), ((("BadText" : Str), [("line", y10)]) : ErP)])) ?_ (fun _ => rfl) ?_
    ·exact (dl (G6 (dd (v_var (x := (eL eX) y20) rfl)) (dl (z5 (i2 (H9 (dd (v_var (x := eA y10) rfl))) (i2 (H9 (dd (v_var (x := eA y10) rfl))) g7)) rfl rfl)) (A4 y20 [((("BadTable" : Str), [("name", y10)]) : ErP), ((("BadText" : Str), [("line", y10)]) : ErP)] hz28)))
    intro y21
    refine o4 ?_
    refine L6 fun hz27 => ?_
    refine M4 (w := (eL eA)) (v := [(xA "at" ((atI y21 (0 : Int)).getD (("", []) : ErP))), (xA "at" ((atI y21 (1 : Int)).getD (("", []) : ErP))), (xA "part" ((atI y21 (2 : Int)).getD (("", []) : ErP))), (xA "thing" ((atI y21 (3 : Int)).getD (("", []) : ErP))), (xA "at" ((atI y21 (4 : Int)).getD (("", []) : ErP))), (xA "most" ((atI y21 (5 : Int)).getD (("", []) : ErP))), (xA "name" ((atI y21 (6 : Int)).getD (("", []) : ErP)))]) ?_ (fun _ => rfl) ?_
    ·exact (dl (z5 (i2 (a0c (dd (G6 (dd (v_var (x := (eL eX) y21) rfl)) (dd v_c) (I6 (d := (("", []) : ErP)) hz27.1.1))) hz27.1.2) (i2 (a0c (dd (G6 (dd (v_var (x := (eL eX) y21) rfl)) (dd v_c) (I6 (d := (("", []) : ErP)) hz27.2.1.1))) hz27.2.1.2) (i2 (a0c (dd (G6 (dd (v_var (x := (eL eX) y21) rfl)) (dd v_c) (I6 (d := (("", []) : ErP)) hz27.2.2.1.1))) hz27.2.2.1.2) (i2 (a0c (dd (G6 (dd (v_var (x := (eL eX) y21) rfl)) (dd v_c) (I6 (d := (("", []) : ErP)) hz27.2.2.2.1.1))) hz27.2.2.2.1.2) (i2 (a0c (dd (G6 (dd (v_var (x := (eL eX) y21) rfl)) (dd v_c) (I6 (d := (("", []) : ErP)) hz27.2.2.2.2.1.1))) hz27.2.2.2.2.1.2) (i2 (a0c (dd (G6 (dd (v_var (x := (eL eX) y21) rfl)) (dd v_c) (I6 (d := (("", []) : ErP)) hz27.2.2.2.2.2.1.1))) hz27.2.2.2.2.2.1.2) (i2 (a0c (dd (G6 (dd (v_var (x := (eL eX) y21) rfl)) (dd v_c) (I6 (d := (("", []) : ErP)) hz27.2.2.2.2.2.2.1))) hz27.2.2.2.2.2.2.2) g7))))))) rfl rfl))
    intro y22
    refine a4R (ρ' := [.d ((eL PyData.int) v0), .o (.ref v1), .d (PyData.int x2), .d (eA y10), .d ((eL eX) y12), .d ((eL eX) y13), .d ((eL eA) y22), .d ((eL eX) y21)]) rfl ?_
    refine L6 fun hz26 => ?_
    refine a5q (c := ((decide ((PyData.shown ((eL eA) (y22 ++ [(xA "line" ((atI y21 (7 : Int)).getD (("", []) : ErP)))]))) ≠ (PyData.shown ((eL eA) (List.replicate 8 ([y10] : (List PyData))).flatten)))) || (!(o0 (y12 ++ y21))))) ?_ (fun hc24 => ?_) (fun hc25 => ?_)
    ·exact (v_or (O9 (G6 (dd (a6l (a3s (G6 (dd (v_var (x := (eL eA) y22) rfl)) (dl (z5 (i2 (a0c (dd (G6 (dd (v_var (x := (eL eX) y21) rfl)) (dd v_c) (I6 (d := (("", []) : ErP)) hz26.1.1.1.1.1))) hz26.1.1.1.1.2) g7) rfl rfl)) (A4 y22 [(xA "line" ((atI y21 (7 : Int)).getD (("", []) : ErP)))] hz26.1.1.1.2)) g7) (a0F hz26.1.1.2))) (dd (a6l (a3s (a4V (e := eA) (z5 (i2 (v_var (x := eA y10) rfl) g7) rfl rfl) (dd v_c) rfl rfl) g7) (a0F hz26.1.2))) (a8k a1x (PyData.shown ((eL eA) (y22 ++ [(xA "line" ((atI y21 (7 : Int)).getD (("", []) : ErP)))]))) (PyData.shown ((eL eA) (List.replicate 8 ([y10] : (List PyData))).flatten)) (by decide)))) (fun hb23 => (v_not (O9 (a2l (a3s (G6 (dd (v_var (x := (eL eX) y12) rfl)) (dd (v_var (x := (eL eX) y21) rfl)) (A4 y12 y21 (hz26.2 hb23).1)) g7) (O6 (y12 ++ y21) (hz26.2 hb23).2 _))))))
    ·exact Z4 v_c rfl
    ·refine R8 ?_
     exact a4D ⟨_, .inl rfl, ⟨_, _, _, _, _, _, rfl⟩⟩
 ·exact fun _ => rfl
 ·intro y34 ρ g hr35
  obtain ⟨j36, j37, j38, j39, j40, j41, rfl⟩ := hr35
  exact Z4 v_c rfl
end
end Pg
namespace Pg
open PySem L2 Fx
/-- the law's state is at d; n draws may still be made -/
structure GD (d : Addr) (n : Nat) (g : Gs) : Prop where
 q : ∃ l c, g.q = some (d, l, c)
 ok : GOk g n
theorem GD.le {d : Addr} {n m : Nat} {g : Gs} (h : GD d n g) (e : m ≤ n) : GD d m g := ⟨h.q, h.ok.le e⟩
theorem GD.st {d : Addr} {n : Nat} {g : Gs} (h : GD d n g) (ρ : List SD) : a8z (.o (.ref d) :: ρ) 0 g := by
 obtain ⟨l, c, e⟩ := h.q
 exact ⟨d, l, c, rfl, e⟩
theorem a6x {i : Int} (h0 : 0 ≤ i) (h : i < 2 ^ 60) : Builtin.Int.intBits i ≤ 60 := by
 unfold Builtin.Int.intBits
 split
 ·omega
 ·have : i.natAbs.log2 < 60 := (Nat.log2_lt (by intro e; rename_i c; apply c; simp; omega)).mpr (by omega)
  omega
theorem a1U {i : Int} {k : Int} (h0 : 0 ≤ i) (h : i < 2 ^ 60) (k0 : 0 ≤ k) (k1 : k ≤ 100) : a0l (.int i) (.int k) = some (.d (.int (i ^ k.toNat))) := by
 unfold a0l
 have := a6x h0 h
 refine if_pos ⟨k0, ?_⟩
 have h1 : ((Builtin.Int.intBits i : Nat) : Int) * k ≤ 60 * 100 := Int.mul_le_mul (by omega) k1 k0 (by omega)
 exact Int.le_trans h1 (by decide)
theorem a48 (d : Addr) (ρ : List SD) (n : Nat) : ∀ (ls : List Int) (g : Gs), g.ls = ls → GD d n g →
  ∃ m g', whR (a0B (u5 (fOp oEq (v9 0) (fC (.int 0)))) (t9 0)) (Z7 0) m (.o (.ref d) :: ρ) g = .ok (.nx (.o (.ref d) :: ρ)) g' ∧ GD d n g' := by
 intro ls
 induction ls with
 | nil =>
  intro g hl h
  refine ⟨1, g, ?_, h⟩
  have : a0B (u5 (fOp oEq (v9 0) (fC (.int 0)))) (t9 0) (.o (.ref d) :: ρ) g = .ok false g := by
   simp only [k4, fC, v6, fOp, fUn, u5, a0B, fOr, a0a, U8, a3r, V7, fIf, m7, f9, H6, U1, z7, E6, fCB, C0, o8, E7, a26, P4, P2, U5, T7, U3, A7, a3E, W1, fM, fSl, oS, oN, k7, a1n, R.bind_ok, R.ofO_some, R.stx_ok, G8, M9, F9, D9, M6, C4, M8, K3, C3, D7, W4, X5, K4, K6, List.getElem?_cons_zero, List.getElem?_cons_succ, List.set_cons_zero, List.set_cons_succ, if_true, if_false, Bool.false_eq_true, reduceIte, Bool.not_true, Bool.not_false, slots, List.map_cons, List.map_nil, avS, List.length_cons, List.length_nil, List.replicate_succ, List.replicate_zero, List.cons_append, List.nil_append, Nat.reduceAdd, Nat.reduceSub, Nat.reduceLeDiff, sl1, sl2, sl3, sl4, sl5, sl6, sl7, sl8, sl9, a32, a30, a31, a2X, a2Y, a3Y, a3o, a4k, a4d, a3V, a4l, a3l, a45, a49, a3x, a3T, a3L, a3R, a46, a3v, a3a, Nat.zero_le, R.bind_cg, Nat.zero_add, Option.map_some, Option.map_none, v9, t9, E9 _ (h.st ρ), a0C, hl]
   by_cases c : g.rest = 0 <;> simp [c]
  rw [whR, this]
  rfl
 | cons x r ih =>
  intro g hl h
  by_cases c : g.rest = 0
  ·have h' : GD d n { g with ls := r, rest := x } := ⟨h.q, ⟨h.ok.l0 x (by rw [hl]; simp), fun y hy => h.ok.l0 y (by rw [hl]; simp [hy]), h.ok.t0, h.ok.tn, h.ok.q0, h.ok.tt⟩⟩
   obtain ⟨m, g', e, k⟩ := ih _ rfl h'
   refine ⟨m + 1, g', ?_, k⟩
   have e1 : a0B (u5 (fOp oEq (v9 0) (fC (.int 0)))) (t9 0) (.o (.ref d) :: ρ) g = .ok true g := by
    simp only [k4, fC, v6, fOp, fUn, u5, a0B, fOr, a0a, U8, a3r, V7, fIf, m7, f9, H6, U1, z7, E6, fCB, C0, o8, E7, a26, P4, P2, U5, T7, U3, A7, a3E, W1, fM, fSl, oS, oN, k7, a1n, R.bind_ok, R.ofO_some, R.stx_ok, G8, M9, F9, D9, M6, C4, M8, K3, C3, D7, W4, X5, K4, K6, List.getElem?_cons_zero, List.getElem?_cons_succ, List.set_cons_zero, List.set_cons_succ, if_true, if_false, Bool.false_eq_true, reduceIte, Bool.not_true, Bool.not_false, slots, List.map_cons, List.map_nil, avS, List.length_cons, List.length_nil, List.replicate_succ, List.replicate_zero, List.cons_append, List.nil_append, Nat.reduceAdd, Nat.reduceSub, Nat.reduceLeDiff, sl1, sl2, sl3, sl4, sl5, sl6, sl7, sl8, sl9, a32, a30, a31, a2X, a2Y, a3Y, a3o, a4k, a4d, a3V, a4l, a3l, a45, a49, a3x, a3T, a3L, a3R, a46, a3v, a3a, Nat.zero_le, R.bind_cg, Nat.zero_add, Option.map_some, Option.map_none, v9, t9, E9 _ (h.st ρ), a0C, hl, c, decide_true]
    rfl
   have e2 : Z7 0 (.o (.ref d) :: ρ) g = .ok (.nx (.o (.ref d) :: ρ)) { g with ls := r, rest := x } := by
    unfold Z7
    rw [E9 _ (h.st ρ), hl]
   rw [whR, e1]
   simp only [k4, fC, v6, fOp, fUn, u5, a0B, fOr, a0a, U8, a3r, V7, fIf, m7, f9, H6, U1, z7, E6, fCB, C0, o8, E7, a26, P4, P2, U5, T7, U3, A7, a3E, W1, fM, fSl, oS, oN, k7, a1n, R.bind_ok, R.ofO_some, R.stx_ok, G8, M9, F9, D9, M6, C4, M8, K3, C3, D7, W4, X5, K4, K6, List.getElem?_cons_zero, List.getElem?_cons_succ, List.set_cons_zero, List.set_cons_succ, if_true, if_false, Bool.false_eq_true, reduceIte, Bool.not_true, Bool.not_false, slots, List.map_cons, List.map_nil, avS, List.length_cons, List.length_nil, List.replicate_succ, List.replicate_zero, List.cons_append, List.nil_append, Nat.reduceAdd, Nat.reduceSub, Nat.reduceLeDiff, sl1, sl2, sl3, sl4, sl5, sl6, sl7, sl8, sl9, a32, a30, a31, a2X, a2Y, a3Y, a3o, a4k, a4d, a3V, a4l, a3l, a45, a49, a3x, a3T, a3L, a3R, a46, a3v, a3a, Nat.zero_le, R.bind_cg, Nat.zero_add, Option.map_some, Option.map_none, e2, a5B]
   exact e
  ·refine ⟨1, g, ?_, h⟩
   have : a0B (u5 (fOp oEq (v9 0) (fC (.int 0)))) (t9 0) (.o (.ref d) :: ρ) g = .ok false g := by
    simp only [k4, fC, v6, fOp, fUn, u5, a0B, fOr, a0a, U8, a3r, V7, fIf, m7, f9, H6, U1, z7, E6, fCB, C0, o8, E7, a26, P4, P2, U5, T7, U3, A7, a3E, W1, fM, fSl, oS, oN, k7, a1n, R.bind_ok, R.ofO_some, R.stx_ok, G8, M9, F9, D9, M6, C4, M8, K3, C3, D7, W4, X5, K4, K6, List.getElem?_cons_zero, List.getElem?_cons_succ, List.set_cons_zero, List.set_cons_succ, if_true, if_false, Bool.false_eq_true, reduceIte, Bool.not_true, Bool.not_false, slots, List.map_cons, List.map_nil, avS, List.length_cons, List.length_nil, List.replicate_succ, List.replicate_zero, List.cons_append, List.nil_append, Nat.reduceAdd, Nat.reduceSub, Nat.reduceLeDiff, sl1, sl2, sl3, sl4, sl5, sl6, sl7, sl8, sl9, a32, a30, a31, a2X, a2Y, a3Y, a3o, a4k, a4d, a3V, a4l, a3l, a45, a49, a3x, a3T, a3L, a3R, a46, a3v, a3a, Nat.zero_le, R.bind_cg, Nat.zero_add, Option.map_some, Option.map_none, v9, t9, E9 _ (h.st ρ), a0C, c, decide_false]
   rw [whR, this]
   rfl
theorem a4K {α : Type} (xs : List α) {i : Int} (h0 : 0 ≤ i) (h1 : i < xs.length) : ∃ x ∈ xs, atI xs i = some x := by
 have hi : i.toNat < xs.length := by omega
 refine ⟨xs[i.toNat], List.getElem_mem hi, ?_⟩
 show (ixN xs.length i).bind (fun j => xs[j]?) = _
 unfold ixN
 rw [if_pos h0, if_pos h1]
 exact List.getElem?_eq_getElem hi
theorem a5W {d : Addr} {n : Nat} {g : Gs} (h : GD d n g) (hn : 1 ≤ n) {k : Int} (hk : 0 < k) (hk2 : k < 2 ^ 40) :
  ∃ v g', C6 [.o (.ref d), .d (.int k)] g = .ok (.d (.int v)) g' ∧ 0 ≤ v ∧ v < k ∧ GD d (n - 1) g' := by
 obtain ⟨m, g1, e, h1⟩ := a48 d [.d (.int k), .u, .u, .u, .u] n g.ls g rfl h
 have ew := a1u e (fun z => by cases z)
 by_cases c : g1.rest > 0
 ·refine ⟨g1.rest % k, { g1 with rest := g1.rest / k }, a5O rfl ?_, Int.emod_nonneg _ (by omega), Int.emod_lt_of_pos _ hk, h1.q, ⟨Int.ediv_nonneg (by omega) (by omega), h1.ok.l0, h1.ok.t0, by have := h1.ok.tn; show g1.turn + ((n - 1 : Nat) : Int) ≤ _; omega, h1.ok.q0, h1.ok.tt⟩⟩
  unfold C1
  have st := h1.st
  have lk : k.natAbs.log2 < 9000 := by
   have : k.natAbs.log2 < 40 := (Nat.log2_lt (by omega)).mpr (by omega)
   omega
  simp only [k4, fC, v6, fOp, fUn, u5, a0B, fOr, a0a, U8, a3r, V7, fIf, m7, f9, H6, U1, z7, E6, fCB, C0, o8, E7, a26, P4, P2, U5, T7, U3, A7, a3E, W1, fM, fSl, oS, oN, k7, a1n, R.bind_ok, R.ofO_some, R.stx_ok, G8, M9, F9, D9, M6, C4, M8, K3, C3, D7, W4, X5, K4, K6, List.getElem?_cons_zero, List.getElem?_cons_succ, List.set_cons_zero, List.set_cons_succ, if_true, if_false, Bool.false_eq_true, reduceIte, Bool.not_true, Bool.not_false, slots, List.map_cons, List.map_nil, avS, List.length_cons, List.length_nil, List.replicate_succ, List.replicate_zero, List.cons_append, List.nil_append, Nat.reduceAdd, Nat.reduceSub, Nat.reduceLeDiff, sl1, sl2, sl3, sl4, sl5, sl6, sl7, sl8, sl9, a32, a30, a31, a2X, a2Y, a3Y, a3o, a4k, a4d, a3V, a4l, a3l, a45, a49, a3x, a3T, a3L, a3R, a46, a3v, a3a, Nat.zero_le, R.bind_cg, Nat.zero_add, Option.map_some, Option.map_none, ew, v9, E9 _ (st _), oGt, a60, c, decide_true, a1j, oMod, hk, N7, oDiv, lk, and_self]
 ·have e0 : g1.rest = 0 := by have := h1.ok.r0; omega
  have st := h1.st
  have t1 := h1.ok.t0
  have tn := h1.ok.tn
  have ht : GD d (n - 1) { g1 with turn := g1.turn + 1 } := ⟨h1.q, ⟨h1.ok.r0, h1.ok.l0, by show 0 ≤ g1.turn + 1; omega, by show g1.turn + 1 + ((n - 1 : Nat) : Int) ≤ _; omega, h1.ok.q0, h1.ok.tt⟩⟩
  have hcell : ∃ z : Int, fIf (A9 0) (V0 0 (fOp oMod (fCB (o1A a1j) (f9 (k4 2) m7)) (C5 0))) (fC (.int 0)) [.o (.ref d), .d (.int k), .d (.int (g1.turn + 1)), .u, .u, .u] { g1 with turn := g1.turn + 1 } = .ok (.d (.int z)) { g1 with turn := g1.turn + 1 } := by
   by_cases ce : g1.cs = []
   ·refine ⟨0, ?_⟩
    have ie : g1.cs.isEmpty = true := by rw [ce]; rfl
    simp only [k4, fC, v6, fOp, fUn, u5, a0B, fOr, a0a, U8, a3r, V7, fIf, m7, f9, H6, U1, z7, E6, fCB, C0, o8, E7, a26, P4, P2, U5, T7, U3, A7, a3E, W1, fM, fSl, oS, oN, k7, a1n, R.bind_ok, R.ofO_some, R.stx_ok, G8, M9, F9, D9, M6, C4, M8, K3, C3, D7, W4, X5, K4, K6, List.getElem?_cons_zero, List.getElem?_cons_succ, List.set_cons_zero, List.set_cons_succ, if_true, if_false, Bool.false_eq_true, reduceIte, Bool.not_true, Bool.not_false, slots, List.map_cons, List.map_nil, avS, List.length_cons, List.length_nil, List.replicate_succ, List.replicate_zero, List.cons_append, List.nil_append, Nat.reduceAdd, Nat.reduceSub, Nat.reduceLeDiff, sl1, sl2, sl3, sl4, sl5, sl6, sl7, sl8, sl9, a32, a30, a31, a2X, a2Y, a3Y, a3o, a4k, a4d, a3V, a4l, a3l, a45, a49, a3x, a3T, a3L, a3R, a46, a3v, a3a, Nat.zero_le, R.bind_cg, Nat.zero_add, Option.map_some, Option.map_none, A9, E9 _ (ht.st _), ie]
   ·have hp : (0 : Int) < g1.cs.length := by have := List.length_pos_iff.mpr ce; omega
    obtain ⟨z, _, hz⟩ := a4K g1.cs (i := (g1.turn + 1) % (g1.cs.length : Int)) (Int.emod_nonneg _ (by omega)) (Int.emod_lt_of_pos _ hp)
    have ie : g1.cs.isEmpty = false := by cases hc : g1.cs with
     | nil => exact absurd hc ce
     | cons _ _ => rfl
    refine ⟨z, ?_⟩
    simp only [k4, fC, v6, fOp, fUn, u5, a0B, fOr, a0a, U8, a3r, V7, fIf, m7, f9, H6, U1, z7, E6, fCB, C0, o8, E7, a26, P4, P2, U5, T7, U3, A7, a3E, W1, fM, fSl, oS, oN, k7, a1n, R.bind_ok, R.ofO_some, R.stx_ok, G8, M9, F9, D9, M6, C4, M8, K3, C3, D7, W4, X5, K4, K6, List.getElem?_cons_zero, List.getElem?_cons_succ, List.set_cons_zero, List.set_cons_succ, if_true, if_false, Bool.false_eq_true, reduceIte, Bool.not_true, Bool.not_false, slots, List.map_cons, List.map_nil, avS, List.length_cons, List.length_nil, List.replicate_succ, List.replicate_zero, List.cons_append, List.nil_append, Nat.reduceAdd, Nat.reduceSub, Nat.reduceLeDiff, sl1, sl2, sl3, sl4, sl5, sl6, sl7, sl8, sl9, a32, a30, a31, a2X, a2Y, a3Y, a3o, a4k, a4d, a3V, a4l, a3l, a45, a49, a3x, a3T, a3L, a3R, a46, a3v, a3a, Nat.zero_le, R.bind_cg, Nat.zero_add, Option.map_some, Option.map_none, A9, E9 _ (ht.st _), ie, V0, C5, a1j, oMod, hp, a3e, hz]
  obtain ⟨z, hz⟩ := hcell
  have z0 : 0 ≤ z % 2147483629 := Int.emod_nonneg _ (by omega)
  have z1 : z % 2147483629 < 2147483629 := Int.emod_lt_of_pos _ (by omega)
  have q1 : a0l (.int (z % 2147483629 + 48271 * (g1.turn + 1) + 13579)) (.int 3) = some (.d (.int ((z % 2147483629 + 48271 * (g1.turn + 1) + 13579) ^ (3 : Int).toNat))) := a1U (by omega) (by omega) (by omega) (by omega)
  have m1 : ∀ a b : Int, 0 ≤ a → a < 2 ^ 60 → a6k (.int a) (.int b) = some (.d (.int (a * b))) := fun a b ha hb => if_pos (.inl (.inl ⟨by omega, by omega⟩))
  generalize hx : (z % 2147483629 + 48271 * (g1.turn + 1) + 13579) ^ (3 : Int).toNat = X at q1
  have x0 : 0 ≤ X % 2147483647 := Int.emod_nonneg _ (by omega)
  have x1 : X % 2147483647 < 2147483647 := Int.emod_lt_of_pos _ (by omega)
  have q2 : a0l (.int (X % 2147483647 + 99991 * (g1.turn + 1))) (.int 5) = some (.d (.int ((X % 2147483647 + 99991 * (g1.turn + 1)) ^ (5 : Int).toNat))) := a1U (by omega) (by omega) (by omega) (by omega)
  generalize hy : (X % 2147483647 + 99991 * (g1.turn + 1)) ^ (5 : Int).toNat = Y at q2
  have d1 : oDiv (.int (Y % 2147483587)) (.int 23) = some (.d (.int (Y % 2147483587 / 23))) := by
   have hc : (0 : Int) < 23 ∧ (23 : Int).natAbs.log2 < 9000 := ⟨by omega, by decide⟩
   show (if (0 : Int) < 23 ∧ (23 : Int).natAbs.log2 < 9000 then some (RV.d (.int (Y % 2147483587 / 23))) else none) = _
   rw [if_pos hc]
  refine ⟨Y % 2147483587 / 23 % k, { g1 with turn := g1.turn + 1 }, a5O rfl ?_, Int.emod_nonneg _ (by omega), Int.emod_lt_of_pos _ hk, ht⟩
  unfold C1
  have n1 : (0 : Int) < 2147483629 := by omega
  have n2 : (0 : Int) < 2147483647 := by omega
  have n3 : (0 : Int) < 2147483587 := by omega
  have m2 := m1 48271 (g1.turn + 1) (by omega) (by omega)
  have m3 := m1 99991 (g1.turn + 1) (by omega) (by omega)
  have e0d : decide (0 < g1.rest) = false := decide_eq_false c
  simp only [k4, fC, v6, fOp, fUn, u5, a0B, fOr, a0a, U8, a3r, V7, m7, f9, H6, U1, z7, E6, fCB, C0, o8, E7, a26, P4, P2, U5, T7, U3, A7, a3E, W1, fM, fSl, oS, oN, k7, a1n, R.bind_ok, R.ofO_some, R.stx_ok, G8, M9, F9, D9, M6, C4, M8, K3, C3, D7, W4, X5, K4, K6, List.getElem?_cons_zero, List.getElem?_cons_succ, List.set_cons_zero, List.set_cons_succ, if_true, if_false, Bool.false_eq_true, reduceIte, Bool.not_true, Bool.not_false, slots, List.map_cons, List.map_nil, avS, List.length_cons, List.length_nil, List.replicate_succ, List.replicate_zero, List.cons_append, List.nil_append, Nat.reduceAdd, Nat.reduceSub, Nat.reduceLeDiff, sl1, sl2, sl3, sl4, sl5, sl6, sl7, sl8, sl9, a32, a30, a31, a2X, a2Y, a3Y, a3o, a4k, a4d, a3V, a4l, a3l, a45, a49, a3x, a3T, a3L, a3R, a46, a3v, a3a, Nat.zero_le, R.bind_cg, Nat.zero_add, Option.map_some, Option.map_none, ew, v9, a0e, E9 _ (st _), oGt, a60, e0d, P3, N3, hz, a1j, oMod, n1, n2, n3, m2, q1, m3, q2, d1, hk]
theorem a5E {d : Addr} {n : Nat} {g : Gs} (h : GD d n g) (hn : 1 ≤ n) (xs : List PyData) (hx : xs ≠ []) (hl : xs.length ≤ 1000) :
  ∃ x ∈ xs, ∃ g', w6 [.o (.ref d), .d (.list xs)] g = .ok (.d x) g' ∧ GD d (n - 1) g' := by
 have hp := List.length_pos_iff.mpr hx
 obtain ⟨v, g', e, v0, v1, h'⟩ := a5W h hn (k := (xs.length : Int)) (by omega) (by omega)
 obtain ⟨x, hm, ex⟩ := a4K xs v0 v1
 refine ⟨x, hm, g', a5O rfl ?_, h'⟩
 unfold J0
 have : oIx (.list xs) (.int v) = some (.d x) := by show (atI xs v).map RV.d = _; rw [ex]; rfl
 simp only [k4, fC, v6, fOp, fUn, u5, a0B, fOr, a0a, U8, a3r, V7, fIf, m7, f9, H6, U1, z7, E6, fCB, C0, o8, E7, a26, P4, P2, U5, T7, U3, A7, a3E, W1, fM, fSl, oS, oN, k7, a1n, R.bind_ok, R.ofO_some, R.stx_ok, G8, M9, F9, D9, M6, C4, M8, K3, C3, D7, W4, X5, K4, K6, List.getElem?_cons_zero, List.getElem?_cons_succ, List.set_cons_zero, List.set_cons_succ, if_true, if_false, Bool.false_eq_true, reduceIte, Bool.not_true, Bool.not_false, slots, List.map_cons, List.map_nil, avS, List.length_cons, List.length_nil, List.replicate_succ, List.replicate_zero, List.cons_append, List.nil_append, Nat.reduceAdd, Nat.reduceSub, Nat.reduceLeDiff, sl1, sl2, sl3, sl4, sl5, sl6, sl7, sl8, sl9, a32, a30, a31, a2X, a2Y, a3Y, a3o, a4k, a4d, a3V, a4l, a3l, a45, a49, a3x, a3T, a3L, a3R, a46, a3v, a3a, Nat.zero_le, R.bind_cg, Nat.zero_add, Option.map_some, Option.map_none, a25, e, this]
end Pg

namespace Pg
open PySem L2 Fx
def Words (W : List Str) : Prop := Wd W ∧ W.Pairwise fun a b => slt a b = true
end Pg

namespace Pg
open PySem L2 Fx
theorem a6S {α : Type} {e : α → PyData} (inj : ∀ a b, e a = e b → a = b) {d : Addr} {n : Nat} {g : Gs} (h : GD d n g) (hn : 1 ≤ n) {xs : List α} (hx : xs ≠ []) (hl : xs.length ≤ 1000) {P : α → Gs → Prop} {X : PyData → Gs → Prop} (p : ∀ x g', x ∈ xs → GD d (n - 1) g' → P x g') : (J3 e d xs g).wp P X := by
 obtain ⟨y, hy, g', e1, h'⟩ := a5E h hn (xs.map e) (by simpa using hx) (by simpa using hl)
 obtain ⟨x, hx, rfl⟩ := List.mem_map.mp hy
 exact a3z (fun a b h => inj a b (by injection h)) e1 (p x g' hx h')
end Pg

namespace Pg
open PySem L2 Fx
section
variable {α β : Type} [DecidableEq α] {e : α → PyData} {n : Nat} {lt : α → α → Bool}
theorem a4g (lt : α → α → Bool) (xs : List α) : (srt lt xs).Perm xs := List.mergeSort_perm ..
theorem a7O (h : a8M n e lt) (xs : List α) : (srt lt xs).Pairwise fun a b => lt b a = false := by
 have hs := PySem.W.sort_pairwise (PySem.W.sortLe_total (PyProof.Rows.listOrd PyProof.Rows.itemOrd) false fun b : PyData => PySem.W.keyToks (id b)) (xs.map e)
 have hs : (a5v (xs.map e)).Pairwise fun a b => (!PySem.W.dataLt b a) = true := hs
 rw [a4a h, List.pairwise_map] at hs
 exact hs.imp fun {a b} q => by rw [h.lt] at q; simpa using q
end
theorem a5Q {xs : List Str} (hn : xs.Nodup) : (srt slt xs).Pairwise fun a b => slt a b = true := by
 have h1 := a7O a70 xs
 have h2 : (srt slt xs).Pairwise fun a b => a ≠ b := (a4g slt xs).nodup_iff.mpr hn
 exact (h1.and h2).imp fun {a b} h => (A2 h.2).resolve_right fun z => by rw [h.1] at z; cases z
section
variable {α β : Type} [DecidableEq α]
theorem a3B (x : α × β) (r : List (α × β)) (a : α) : dlk (x :: r) a = if x.1 = a then some x.2 else dlk r a := by
 unfold dlk
 rw [List.find?_cons]
 by_cases c : x.1 = a <;> simp [c]
theorem a58 {m : List (α × β)} {a : α} {b : β} (h : dlk m a = some b) : (a, b) ∈ m := by
 induction m with
 | nil => cases h
 | cons x m ih =>
  rw [a3B] at h
  by_cases c : x.1 = a
  ·rw [if_pos c] at h; cases h; subst c; exact List.mem_cons_self ..
  ·rw [if_neg c] at h; exact List.mem_cons_of_mem _ (ih h)
end
end Pg

namespace Pg
open PySem L2 Fx
/-- a plan whose names may be names, in their order -/
structure PlN (p : Plan) : Prop where
 nm : ∀ x ∈ p, a0H x.1
 asc : Asc p
end Pg

namespace Pg
open PySem L2 Fx
theorem a2K {α β σ : Type} {f : σ → α → Gs → R (Bl β σ)} {P : Bl β σ → Gs → Prop} {X : PyData → Gs → Prop} (I : List α → σ → Gs → Prop) (step : ∀ x r s g, I (x :: r) s g → (f s x g).wp (fun o g' => ∃ s', o = .nx s' ∧ I r s' g') X) : ∀ (xs : List α) (s : σ) (g : Gs), I xs s g → (∀ s g, I [] s g → P (.nx s) g) → (U7 f xs s g).wp P X
 | [], s, g, i, p => p s g i
 | x :: xs, s, g, i, p => by
  refine R.wp_bind.mpr (R.wp_imp (step x xs s g i) (fun o g' h => ?_) fun _ _ z => z)
  obtain ⟨s', rfl, i'⟩ := h
  exact a2K I step xs s' g' i' p
end Pg

namespace Pg
open PySem L2 Fx
/-- a side, a seen plan: names in order, waits not too large -/
structure Sd (b : Int) (p : Plan) : Prop extends PlN p where
 bd : ∀ x ∈ p, -b ≤ x.2 ∧ x.2 ≤ b
 sz : p.length ≤ 20
/-- a chart: things' names, a side for each -/
structure Ch (N : List Str) (b : Int) (m : List (Str × Plan)) : Prop where
 ks : (m.map Prod.fst).Perm N
 sd : ∀ x ∈ m, Sd b x.2
theorem a3k (a b : Option Int) (k : Int) : (x9 a b).map (· + k) = x9 (a.map (· + k)) (b.map (· + k)) := by
 cases a <;> cases b <;> simp [x9]
 try omega
def a3w (s r : Plan) : Option Int := s.foldr (fun x o => x9 ((get r x.1).map (· + x.2)) o) none
theorem R4 (s r : Plan) (k : Int) : a3w s (w4 r k) = (a3w s r).map (· + k) := by
 induction s with
 | nil => rfl
 | cons x s ih =>
  show x9 ((get (w4 r k) x.1).map (· + x.2)) (a3w s (w4 r k)) = (x9 ((get r x.1).map (· + x.2)) (a3w s r)).map (· + k)
  rw [ih, q8, a3k]
  congr 1
  cases get r x.1 with
  | none => rfl
  | some m => show some (m + k + x.2) = some (m + x.2 + k); congr 1; omega
end Pg

namespace Pg
open PySem L2 Fx
structure Shx (n m : Nat) (d : PyData) : Prop where
 ok : okS d = true
 dp : d.depth ≤ m
 sh : d.showable = true
 lv : d.leavesShort 41 = true
 bk : d.bulk ≤ n
theorem Shx.le {n m n' m' : Nat} {d : PyData} (h : Shx n m d) (e : n ≤ n') (e' : m ≤ m') : Shx n' m' d := ⟨h.ok, Nat.le_trans h.dp e', h.sh, h.lv, Nat.le_trans h.bk e⟩
theorem Shx.shd {n m : Nat} {d : PyData} (h : Shx n m d) (hn : n ≤ 300000) (hm : m ≤ 64) : Shd d := by
 have := PyData.shown_le_bulk 41 (by decide) d h.lv
 have hb := h.bk
 exact ⟨h.ok, Nat.le_trans h.dp hm, h.sh, by rw [sizeLine_eq]; omega⟩
structure ShA (n m : Nat) (ds : List PyData) : Prop where
 ok : a3q ds = true
 dp : PyData.depthAll ds ≤ m
 sh : PyData.showableAll ds = true
 lv : PyData.leavesShortAll 41 ds = true
 bk : PyData.bulkAll ds ≤ n
theorem ShA.nil {m : Nat} : ShA 0 m [] := ⟨by simp only [a3q], by simp [PyData.depthAll], by simp only [PyData.showableAll], by simp only [PyData.leavesShortAll], by simp [PyData.bulkAll]⟩
theorem ShA.cons {n n' m : Nat} {d : PyData} {ds : List PyData} (a : Shx n m d) (b : ShA n' m ds) : ShA (n + 1 + n') m (d :: ds) := by
 refine ⟨by simp only [a3q, a.ok, b.ok, Bool.and_self], ?_, by simp only [PyData.showableAll, a.sh, b.sh, Bool.and_self], by simp only [PyData.leavesShortAll, a.lv, b.lv, Bool.and_self], ?_⟩
 ·have := a.dp; have := b.dp; simp only [PyData.depthAll]; omega
 ·have := a.bk; have := b.bk; simp only [PyData.bulkAll]; omega
theorem a2y {α : Type} {e : α → PyData} {n m : Nat} : ∀ {xs : List α}, (∀ x ∈ xs, Shx n m (e x)) → ShA ((n + 1) * xs.length) m (xs.map e)
 | [], _ => ShA.nil
 | x :: xs, h => by
  have := (h x (List.mem_cons_self ..)).dp
  have q := ShA.cons (h x (List.mem_cons_self ..)) (a2y fun y hy => h y (List.mem_cons_of_mem _ hy))
  rw [List.length_cons, Nat.mul_add, Nat.mul_one, Nat.add_comm]
  exact q
theorem ShA.list {n m : Nat} {ds : List PyData} (h : ShA n m ds) : Shx n (m + 1) (.list ds) :=
 ⟨by simp only [okS, h.ok], by have := h.dp; simp only [PyData.depth]; omega, by simp only [PyData.showable, h.sh], by simp only [PyData.leavesShort, h.lv], by simp only [PyData.bulk]; exact h.bk⟩
theorem ShA.tuple {n m : Nat} {ds : List PyData} (h : ShA n m ds) : Shx n (m + 1) (.tuple ds) :=
 ⟨by simp only [okS, h.ok], by have := h.dp; simp only [PyData.depth]; omega, by simp only [PyData.showable, h.sh], by simp only [PyData.leavesShort, h.lv], by simp only [PyData.bulk]; exact h.bk⟩
theorem a8L {α : Type} {e : α → PyData} {n m : Nat} {xs : List α} (h : ∀ x ∈ xs, Shx n m (e x)) : Shx ((n + 1) * xs.length) (m + 1) (eL e xs) := (a2y h).list
structure ShK (n m : Nat) (ks : List (PyData × PyData)) : Prop where
 ok : a6g ks = true
 dp : PyData.depthKv ks ≤ m
 sh : PyData.showableKv ks = true
 lv : PyData.leavesShortKv 41 ks = true
 bk : PyData.bulkKv ks ≤ n
end Pg

namespace Pg
open PySem L2 Fx
theorem right_of {m : Nat} {b : EFs} {M : List Int → Addr → Gs → R Bool} (hg : ∀ v0 v1 g, RG b (L7 m v0 v1) g (M v0 v1 g) (Rt fun x => RV.d (PyData.bool x))) (hw : ∀ ns d g, ns.length ≤ 63 → GD d (2 ^ 39) g → (M ns d g).wp (fun b _ => b = true) NoX) : P7 m b := by
 intro ns d l c g hl hq hk
 have w := hw ns d g hl ⟨⟨l, c, hq⟩, hk⟩
 have r := hg ns d g
 unfold RG at r
 cases e : M ns d g with
 | ok b g' =>
  rw [e] at w r
  obtain rfl : b = true := w
  obtain ⟨o, h1, h2⟩ := r
  exact ⟨g', by rw [h1, h2]⟩
 | exc x g' => rw [e] at w; exact w.elim
 | bad => rw [e] at w; exact w.elim
section
variable {N : List Str} {m : List (Str × Plan)} {b : Int} (hm : Ch N b m) (hN : Words N)
include hm hN
theorem Ch.nd : (m.map Prod.fst).Nodup := hm.ks.nodup_iff.mpr (hN.2.imp fun {a b} h => G7 h)
theorem Ch.asc : (srt slt (m.map Prod.fst)).Pairwise fun a b => slt a b = true := a5Q (hm.nd hN)
theorem Ch.nm : ∀ x ∈ m.map Prod.fst, a0H x := fun x hx => hN.1.nm x (hm.ks.mem_iff.mp hx)
end
end Pg

namespace Pg
open PySem L2 Fx
/-- a side of some names -/
structure Sw (Z : List Str) (b : Int) (p : Plan) : Prop extends Sd b p where
 nz : ∀ x ∈ p, x.1 ∈ Z
/-- a chart to some names -/
structure Ct (N Z : List Str) (b : Int) (m : List (Str × Plan)) : Prop where
 ks : (m.map Prod.fst).Perm N
 sw : ∀ x ∈ m, Sw Z b x.2
theorem a21 (x : Str × Int) (s r : Plan) : a3w (x :: s) r = x9 ((get r x.1).map (· + x.2)) (a3w s r) := rfl
/-- a plan is known by the values of the sides -/
theorem val_one (p : Plan) (n : Str) (hn : (p.map (·.1)).Nodup) : a3w p [(n, 0)] = get p n := by
 induction p with
 | nil => rfl
 | cons x p ih =>
  have hn : x.1 ∉ p.map (·.1) ∧ (p.map (·.1)).Nodup := List.nodup_cons.mp (by simpa using hn)
  rw [a21, k9, ih hn.2, k9]
  by_cases c : x.1 = n
  ·subst c
   rw [if_pos rfl, if_pos rfl]
   have : get p x.1 = none := get_none.mpr fun y hy e => hn.1 (List.mem_map.mpr ⟨y, hy, e⟩)
   rw [this]
   show some (0 + x.2) = some x.2
   rw [Int.zero_add]
  ·rw [if_neg c, if_neg (fun z => c z.symm)]
   exact x7 _
section
variable {N0 N1 N2 W : List Str} {b0 b1 b2 : Int} {m0 m1 m2 : List (Str × Plan)}
theorem Ct.names (h1 : Ct N1 N0 b1 m1) (h0 : Ct N0 W b0 m0) {n : Str} : ∀ x ∈ (dlk m1 n).getD [], x.1 ∈ m0.map Prod.fst := by
 intro x hx
 cases e : dlk m1 n with
 | none => rw [e] at hx; cases hx
 | some s =>
  rw [e] at hx
  exact h0.ks.mem_iff.mpr ((h1.sw _ (a58 e)).nz x hx)
theorem Ct.nd (h : Ct N1 N0 b1 m1) (hN : Words N1) : (m1.map Prod.fst).Nodup := h.ks.nodup_iff.mpr (hN.2.imp fun {a b} h => G7 h)
end
end Pg

namespace Pg
open PySem L2 Fx
abbrev Rule := Plan × Plan
def leO : Option Int → Option Int → Bool
 | none, _ => true
 | some _, none => false
 | some a, some b => decide (a ≤ b)
/-- a plan keeps a rule -/
def keepR (u : Rule) (r : Plan) : Bool := leO (a3w u.1 r) (a3w u.2 r)
theorem a5S (a b : Option Int) (k : Int) : leO (a.map (· + k)) (b.map (· + k)) = leO a b := by
 cases a <;> cases b <;> simp [leO]
theorem a0I (u : Rule) (r : Plan) (k : Int) : keepR u (w4 r k) = keepR u r := by
 unfold keepR
 rw [R4, R4, a5S]
/-- a rule of some things -/
structure Ru (W : List Str) (b : Int) (u : Rule) : Prop where
 l : Sw W b u.1
 r : Sw W b u.2
end Pg

namespace Mk
open PySem L2 Fx
open Pg (Plan Asc get get_mem u3 u6 w4 q8 t5 m9 s7 x9 z4 m6 m8 a0k a8J a1Y a5U A2 v3 get_none)

def Le (p q : Plan) : Prop := ∀ n m, get p n = some m → ∃ k, get q n = some k ∧ m ≤ k
theorem Le.refl (p : Plan) : Le p p := fun n m h => ⟨m, h, Int.le_refl m⟩
theorem Le.trans {p q r : Plan} (h1 : Le p q) (h2 : Le q r) : Le p r := fun n m h => by
 obtain ⟨k, h, l⟩ := h1 n m h
 obtain ⟨j, h, l'⟩ := h2 n k h
 exact ⟨j, h, Int.le_trans l l'⟩
theorem Le.antisymm {p q : Plan} (hp : Asc p) (hq : Asc q) (h1 : Le p q) (h2 : Le q p) : p = q := u6 hp hq fun n => by
 cases e : get p n with
 | none =>
  cases f : get q n with
  | none => rfl
  | some k => obtain ⟨m, h, _⟩ := h2 n k f; rw [e] at h; cases h
 | some m =>
  obtain ⟨k, h, l⟩ := h1 n m e
  obtain ⟨m', h', l'⟩ := h2 n k h
  rw [e] at h'; cases h'
  rw [h]; congr 1; omega
theorem O4 {p : Plan} {k : Int} {n : Str} {m : Int} (h : get (w4 p k) n = some m) : get p n = some (m - k) := by
 rw [q8] at h
 cases e : get p n with
 | none => rw [e] at h; cases h
 | some v => rw [e] at h; obtain rfl : v + k = m := Option.some.inj h; congr 1; omega
theorem J6 {p : Plan} (k : Int) {n : Str} {m : Int} (h : get p n = some m) : get (w4 p k) n = some (m + k) := by rw [q8, h]; rfl
theorem Le.put {p q : Plan} (h : Le p q) (k : Int) : Le (w4 p k) (w4 q k) := fun n m e => by
 obtain ⟨j, e, l⟩ := h n _ (O4 e)
 exact ⟨j + k, J6 k e, by omega⟩
theorem a6B (p : Plan) {j k : Int} (h : j ≤ k) : Le (w4 p j) (w4 p k) := fun n m e => ⟨m - j + k, J6 k (O4 e), by omega⟩
theorem U2 {n : Str} : ∀ (qs : List Plan) (v : Int), qs.foldr (fun p o => x9 (get p n) o) none = some v → ∃ q ∈ qs, get q n = some v
 | [], v, h => by cases h
 | q :: qs, v, h => by
  rw [List.foldr_cons] at h
  cases e : qs.foldr (fun p o => x9 (get p n) o) none with
  | none =>
   rw [e] at h
   cases f : get q n with
   | none => rw [f] at h; cases h
   | some w => rw [f] at h; cases h; exact ⟨q, List.mem_cons_self .., f⟩
  | some u =>
   rw [e] at h
   cases f : get q n with
   | none => rw [f] at h; cases h; obtain ⟨r, hr, er⟩ := U2 qs _ e; exact ⟨r, List.mem_cons_of_mem _ hr, er⟩
   | some w =>
    rw [f] at h
    have h : max w u = v := Option.some.inj h
    by_cases c : w ≤ u
    ·obtain ⟨r, hr, er⟩ := U2 qs u e
     exact ⟨r, List.mem_cons_of_mem _ hr, by rw [er]; congr 1; omega⟩
    ·exact ⟨q, List.mem_cons_self .., by rw [f]; congr 1; omega⟩
theorem a2M {n : Str} : ∀ {qs : List Plan} {q : Plan} {a : Int}, q ∈ qs → get q n = some a → ∃ b, qs.foldr (fun p o => x9 (get p n) o) none = some b ∧ a ≤ b
 | [], q, a, h, _ => by cases h
 | r :: qs, q, a, h, e => by
  rw [List.foldr_cons]
  rcases List.mem_cons.mp h with rfl | h
  ·rw [e]
   cases qs.foldr (fun p o => x9 (get p n) o) none with
   | none => exact ⟨a, rfl, Int.le_refl a⟩
   | some u => exact ⟨max a u, rfl, by omega⟩
  ·obtain ⟨b, eb, l⟩ := a2M h e
   rw [eb]
   cases get r n with
   | none => exact ⟨b, rfl, l⟩
   | some w => exact ⟨max w b, rfl, by omega⟩
theorem U6 {qs : List Plan} (h : ∀ q ∈ qs, Asc q) {n : Str} {v : Int} (e : get (z4 qs) n = some v) : ∃ q ∈ qs, get q n = some v := U2 qs v (by rw [← m8 qs h n]; exact e)
theorem a2h {qs : List Plan} (h : ∀ q ∈ qs, Asc q) {q : Plan} (hq : q ∈ qs) : Le q (z4 qs) := fun n m e => by
 rw [m8 qs h n]
 exact a2M hq e
theorem a5y {p : Plan} {k : Int} {x : Str × Int} (h : x ∈ w4 p k) : ∃ y ∈ p, x = (y.1, y.2 + k) := by
 unfold w4 at h
 obtain ⟨y, hy, rfl⟩ := List.mem_map.mp h
 exact ⟨y, hy, rfl⟩
/-- at this thing one of the makers, put off, stays within the plan and comes to the plan's moment -/
def Hit (ms : List Plan) (p : Plan) (n : Str) (v : Int) : Prop := ∃ m ∈ ms, ∃ k, Le (w4 m k) p ∧ get (w4 m k) n = some v
def Made (ms : List Plan) (p : Plan) : Prop := ∀ n v, get p n = some v → Hit ms p n v
theorem Hit.up {ms : List Plan} {p q : Plan} {n : Str} {v : Int} (h : Hit ms p n v) (l : Le p q) : Hit ms q n v := by
 obtain ⟨m, hm, k, a, b⟩ := h
 exact ⟨m, hm, k, a.trans l, b⟩
theorem Made.mono {ms ns : List Plan} {p : Plan} (h : Made ms p) (hs : ∀ m ∈ ms, m ∈ ns) : Made ns p := fun n v e => by
 obtain ⟨m, hm, k, a, b⟩ := h n v e
 exact ⟨m, hs m hm, k, a, b⟩
theorem a2F {ms : List Plan} {m : Plan} (h : m ∈ ms) : Made ms m := fun n v e => ⟨m, h, 0, by rw [m9]; exact .refl m, by rw [m9]; exact e⟩
theorem Made.put {ms : List Plan} {p : Plan} (h : Made ms p) (k : Int) : Made ms (w4 p k) := fun n v e => by
 obtain ⟨m, hm, j, a, b⟩ := h n _ (O4 e)
 refine ⟨m, hm, j + k, ?_, ?_⟩
 ·have := a.put k
  rwa [s7] at this
 ·have := J6 k b
  rw [s7] at this
  rw [this]; congr 1; omega
theorem a1M {ms qs : List Plan} (ha : ∀ q ∈ qs, Asc q) (h : ∀ q ∈ qs, Made ms q) : Made ms (z4 qs) := fun n v e => by
 obtain ⟨q, hq, e⟩ := U6 ha e
 exact (h q hq n v e).up (a2h ha hq)
/-- what is made of what is made is made -/
theorem Made.trans {ms ns : List Plan} {p : Plan} (h : Made ns p) (hs : ∀ q ∈ ns, Made ms q) : Made ms p := fun n v e => by
 obtain ⟨q, hq, k, a, b⟩ := h n v e
 exact ((hs q hq).put k n v b).up a
/-- a list of makers as least_of sees it: normal, none of them empty -/
structure Nf (fs : List Plan) : Prop where
 asc : ∀ m ∈ fs, Asc m
 nil : ∀ m ∈ fs, m ≠ []
 nrm : ∀ m ∈ fs, a1Y m = 0
/-- told by what is made alone: who is a maker of the least lot -/
def Ext (S : Plan → Prop) (m : Plan) : Prop := Asc m ∧ m ≠ [] ∧ a1Y m = 0 ∧ S m ∧ ∃ n v, get m n = some v ∧ ∀ q, Asc q → S q → Le q m → get q n = some v → q = m
/-- the order of plans -/
def plt : Plan → Plan → Bool := lxL (lxP slt ilt)
def Up (l : List Plan) : Prop := l.Pairwise fun a b => plt a b = true ∧ plt b a = false
def val (s r : Plan) : Option Int := s.foldr (fun x o => x9 ((get r x.1).map (· + x.2)) o) none
def lo : Option Int → Option Int → Bool
 | none, _ => true
 | some _, none => false
 | some a, some b => decide (a ≤ b)
def keep (u : Plan × Plan) (r : Plan) : Bool := lo (val u.1 r) (val u.2 r)
theorem K5 {u : Plan × Plan} {r : Plan} : keep u r = true ↔ ∀ a, val u.1 r = some a → ∃ b, val u.2 r = some b ∧ a ≤ b := by
 unfold keep
 cases val u.1 r with
 | none => simp [lo]
 | some a =>
  cases val u.2 r with
  | none => simp [lo]
  | some b => simp [lo]
theorem J4 {r : Plan} : ∀ {s : Plan} {v : Int}, val s r = some v → ∃ x ∈ s, ∃ k, get r x.1 = some k ∧ v = k + x.2
 | [], v, h => by cases h
 | x :: s, v, h => by
  have h : x9 ((get r x.1).map (· + x.2)) (val s r) = some v := h
  cases e : get r x.1 with
  | none =>
   rw [e] at h
   obtain ⟨y, hy, z⟩ := J4 (s := s) (v := v) h
   exact ⟨y, List.mem_cons_of_mem _ hy, z⟩
  | some k =>
   rw [e] at h
   cases f : val s r with
   | none => rw [f] at h; exact ⟨x, List.mem_cons_self .., k, e, (Option.some.inj h).symm⟩
   | some w =>
    rw [f] at h
    have h : max (k + x.2) w = v := Option.some.inj h
    by_cases c : w ≤ k + x.2
    ·exact ⟨x, List.mem_cons_self .., k, e, by omega⟩
    ·obtain ⟨y, hy, z⟩ := J4 (s := s) f
     exact ⟨y, List.mem_cons_of_mem _ hy, by rw [show v = w from by omega]; exact z⟩
theorem T6 {r : Plan} : ∀ {s : Plan} {x : Str × Int} {k : Int}, x ∈ s → get r x.1 = some k → ∃ v, val s r = some v ∧ k + x.2 ≤ v
 | [], x, k, h, _ => by cases h
 | y :: s, x, k, h, e => by
  show ∃ v, x9 ((get r y.1).map (· + y.2)) (val s r) = some v ∧ _
  rcases List.mem_cons.mp h with rfl | h
  ·rw [e]
   cases val s r with
   | none => exact ⟨_, rfl, Int.le_refl _⟩
   | some w => exact ⟨max (k + x.2) w, rfl, by omega⟩
  ·obtain ⟨v, ev, l⟩ := T6 h e
   rw [ev]
   cases get r y.1 with
   | none => exact ⟨v, rfl, l⟩
   | some j => exact ⟨max (j + y.2) v, rfl, by omega⟩
theorem R4 {s p : Plan} {a : Int} (k : Int) (e : val s p = some a) : val s (w4 p k) = some (a + k) := by
 obtain ⟨x, hx, j, ej, rfl⟩ := J4 e
 obtain ⟨b, eb, l⟩ := T6 hx (J6 k ej)
 obtain ⟨y, hy, i, ei, rfl⟩ := J4 eb
 obtain ⟨c, ec, l'⟩ := T6 hy (O4 ei)
 rw [e] at ec
 have : j + x.2 = c := Option.some.inj ec
 rw [eb]; congr 1; omega
theorem a1a {s p : Plan} {a k : Int} (e : val s (w4 p k) = some a) : val s p = some (a - k) := by
 have := R4 (-k) e
 rw [s7, show k + -k = 0 from by omega, m9] at this
 rw [this]; rfl
theorem a0I {u : Plan × Plan} {p : Plan} {k : Int} (h : keep u p = true) : keep u (w4 p k) = true := K5.mpr fun a e => by
 obtain ⟨b, eb, l⟩ := K5.mp h _ (a1a e)
 exact ⟨b + k, R4 k eb, by omega⟩
def good (u : Plan × Plan) (ms : List Plan) : List Plan := ms.filter fun m => keep u m && (val u.2 m).isSome
def bad (u : Plan × Plan) (ms : List Plan) : List Plan := ms.filter fun m => !keep u m
theorem a5Z {a b : Plan} (ha : Asc a) (hb : Asc b) : ∀ q ∈ [a, b], Asc q := fun q hq => by
 simp only [List.mem_cons, List.not_mem_nil, or_false] at hq
 rcases hq with rfl | rfl
 ·exact ha
 ·exact hb
def In (W : List Str) (p : Plan) : Prop := ∀ x ∈ p, x.1 ∈ W
theorem a6R {W : List Str} {p : Plan} (h : In W p) (k : Int) : In W (w4 p k) := fun x hx => by
 obtain ⟨y, hy, rfl⟩ := a5y hx
 exact h y hy
def step (m : Nat) : Nat := (m + 1) * (m + 1) / 4
end Mk

namespace Mk
open PySem L2 Fx
open Pg (x9 z4 m6 m8 Plan Asc get get_mem u3 u6 w4 q8 t5 m9 s7 A2 v3 G7 get_none k9)
def plain (n : Str) (s : Plan) : Plan × Plan := ([(n, 0)], s)
theorem val_one (n : Str) (r : Plan) : val [(n, 0)] r = get r n := by
 show x9 ((get r n).map (· + 0)) none = _
 cases get r n with
 | none => rfl
 | some a => show some (a + 0) = some a; rw [Int.add_zero]
theorem a3N {s t r : Plan} (hs : Asc s) (h : Le s t) {a : Int} (e : val s r = some a) : ∃ b, val t r = some b ∧ a ≤ b := by
 obtain ⟨x, hx, k, ek, rfl⟩ := J4 e
 obtain ⟨y, ey, ly⟩ := h x.1 x.2 (u3 hs.nodup hx)
 obtain ⟨b, eb, lb⟩ := T6 (get_mem ey) ek
 exact ⟨b, eb, by have lb : k + y ≤ b := lb; omega⟩
theorem T5 {n : Str} {s r : Plan} : keep (plain n s) r = true ↔ ∀ v, get r n = some v → ∃ b, val s r = some b ∧ v ≤ b := by
 rw [K5]
 show (∀ a, val [(n, 0)] r = some a → _) ↔ _
 rw [val_one]
 exact Iff.rfl
theorem a1X {n : Str} {s t r : Plan} (hs : Asc s) (h : Le s t) (k : keep (plain n s) r = true) : keep (plain n t) r = true := T5.mpr fun v e => by
 obtain ⟨b, eb, lb⟩ := T5.mp k v e
 obtain ⟨c, ec, lc⟩ := a3N hs h eb
 exact ⟨c, ec, by omega⟩
/-- all of some plans keep the plain rule -/
def Fit (ms : List Plan) (n : Str) (s : Plan) : Prop := ∀ m ∈ ms, keep (plain n s) m = true
theorem Fit.wide {ms : List Plan} {n : Str} {s t : Plan} (hs : Asc s) (h : Le s t) (f : Fit ms n s) : Fit ms n t := fun m hm => a1X hs h (f m hm)
/-- a side in whose list a thing has another wait -/
def a6f (s : Plan) (o : Str) (w : Int) : Plan := z4 [s.filter fun x => decide (x.1 ≠ o), [(o, w)]]
theorem get_filter (s : Plan) (o n : Str) : get (s.filter fun x => decide (x.1 ≠ o)) n = if n = o then none else get s n := by
 induction s with
 | nil => split <;> rfl
 | cons x s ih =>
  by_cases c : x.1 = o
  ·rw [List.filter_cons_of_neg (by simpa using c), ih, k9]
   by_cases d : n = o
   ·rw [if_pos d, if_pos d]
   ·rw [if_neg d, if_neg d, if_neg fun z => d (z.symm.trans c)]
  ·rw [List.filter_cons_of_pos (by simpa using c), k9, k9, ih]
   by_cases d : n = o
   ·rw [if_pos d, if_pos d, if_neg fun z => c (z.trans d)]
   ·rw [if_neg d, if_neg d]
theorem a41 (s : Plan) (o : Str) (w : Int) : Asc (a6f s o w) := m6 _
theorem a5n (o : Str) (w : Int) : Asc [(o, w)] := by unfold Asc; simp
theorem S9 {s : Plan} (h : Asc s) (o : Str) : Asc (s.filter fun x => decide (x.1 ≠ o)) := List.Pairwise.sublist List.filter_sublist h
theorem X0 {s : Plan} (h : Asc s) (o : Str) (w : Int) (n : Str) : get (a6f s o w) n = if n = o then some w else get s n := by
 unfold a6f
 rw [m8 _ (a5Z (S9 h o) (a5n o w))]
 simp only [List.foldr_cons, List.foldr_nil]
 rw [get_filter, k9]
 by_cases d : n = o
 ·subst d; rw [if_pos rfl, if_pos rfl, if_pos rfl]; rfl
 ·rw [if_neg d, if_neg d, if_neg (Ne.symm d)]
  show x9 (get s n) (x9 none none) = _
  cases get s n <;> rfl
def raised (s m : Plan) (n : Str) : List Plan := (m.filter fun x => decide (x.1 ≠ n)).map fun x => a6f s x.1 ((get m n).getD 0 - x.2)
/-- the sides that do for some plans, none of which another one is under -/
structure a9N (ms : List Plan) (n : Str) (ss : List Plan) : Prop where
 asc : ∀ s ∈ ss, Asc s
 no : ∀ s ∈ ss, get s n = none
 fit : ∀ s ∈ ss, Fit ms n s
 all : ∀ t, Asc t → get t n = none → Fit ms n t → ∃ s ∈ ss, Le s t
 apart : ∀ s ∈ ss, ∀ t ∈ ss, Le s t → s = t
 up : Up ss
def more (ss : List Plan) (m : Plan) (n : Str) : List Plan := (ss.filter fun s => keep (plain n s) m) ++ ((ss.filter fun s => !keep (plain n s) m).flatMap fun s => raised s m n)
end Mk

namespace Mk
open PySem L2 Fx
open Pg (Plan Asc get get_mem u3 u6 w4 q8 t5 m9 s7 x9 G9 z4 m6 m8 a1Y w9 k9 get_none)
def oLe : Option Int → Option Int → Prop
 | none, _ => True
 | some _, none => False
 | some a, some b => a ≤ b
theorem a3C {a : Int} {b : Option Int} (h : oLe (some a) b) : ∃ k, b = some k ∧ a ≤ k := by
 cases b with
 | none => exact h.elim
 | some b => exact ⟨b, rfl, h⟩
theorem a02 {W : List Str} {p : Plan} (hp : Asc p) (h : ∀ n v, get p n = some v → n ∈ W) : In W p := fun x hx => h x.1 x.2 (u3 hp.nodup hx)
theorem a4T {W : List Str} {p : Plan} (h : In W p) {n : Str} {v : Int} (e : get p n = some v) : n ∈ W := h _ (get_mem e)
/-- the plans of some things that keep some rules -/
def Sr (W : List Str) (us : List (Plan × Plan)) (p : Plan) : Prop := In W p ∧ ∀ u ∈ us, keep u p = true
theorem Sr.put {W : List Str} {us : List (Plan × Plan)} {p : Plan} (h : Sr W us p) (k : Int) : Sr W us (w4 p k) := ⟨a6R h.1 k, fun u hu => a0I (h.2 u hu)⟩
structure Fib (W : List Str) (us : List (Plan × Plan)) (i c : Str) (t : Int) (y : Plan) : Prop where
 asc : Asc y
 s : Sr W us y
 root : get y i = some 0
 at' : get y c = some t
 min : ∀ q, Asc q → Sr W us q → Le q y → get q i = some 0 → q = y
structure Code (W : List Str) (us : List (Plan × Plan)) (u : Plan × Plan) (i c : Str) (m : Plan) : Prop where
 ne : i ≠ c
 ex : ∃ v w z, get u.1 i = some w ∧ get u.2 c = some z ∧ get m i = some v ∧ get m c = some (v + w - z) ∧ ∀ q, Asc q → Sr W us q → Le q m → get q i = some v → q = m
def b02 (W : List Str) (u : Plan × Plan) : List Str := W.filter fun n => match get u.1 n with
 | some w => (match get u.2 n with | some z => decide (z < w) | none => true)
 | none => false
def a9Y (W : List Str) (u : Plan × Plan) : List Str := W.filter fun n => match get u.2 n with
 | some z => (match get u.1 n with | some w => decide (w ≤ z) | none => true)
 | none => false
def codes (W : List Str) (us : List (Plan × Plan)) : List ((Plan × Plan) × Str × Str) := us.flatMap fun u => (b02 W u).flatMap fun i => (a9Y W u).map fun c => (u, i, c)
theorem Ext.imp {S T : Plan → Prop} (h : ∀ p, Asc p → (S p ↔ T p)) {m : Plan} (e : Ext S m) : Ext T m := by
 obtain ⟨a, b, c, d, n, v, en, mn⟩ := e
 exact ⟨a, b, c, (h m a).mp d, n, v, en, fun q qa qs => mn q qa ((h q qa).mpr qs)⟩
end Mk

namespace Mk
open PySem L2 Fx
open Pg (Plan Asc get get_mem u3 u6 w4 q8 t5 m9 s7 w9 k9 get_none)
/-- least plans with one thing at 0 -/
structure Lp (W : List Str) (us : List (Plan × Plan)) (i : Str) (y : Plan) : Prop where
 asc : Asc y
 s : Sr W us y
 root : get y i = some 0
 min : ∀ q, Asc q → Sr W us q → Le q y → get q i = some 0 → q = y
/-- a rule is tight, held by c, neither by i nor by b -/
structure Hc (i b c : Str) (u : Plan × Plan) (y : Plan) (γ z : Int) : Prop where
 gc : get y c = some γ
 gz : get u.2 c = some z
 top : val u.1 y = some (γ + z)
 par : ∃ p ∈ u.1, p.1 ≠ c ∧ ∃ κ, get y p.1 = some κ ∧ κ + p.2 = γ + z
 si : ∀ q ∈ u.2, (q.1 = i ∨ q.1 = b) → ∀ κ, get y q.1 = some κ → κ + q.2 < γ + z
/-- as late at b at least, and root -/
structure UpB (i b : Str) (x x' : Plan) : Prop where
 r : get x i = some 0
 r' : get x' i = some 0
 b : oLe (get x b) (get x' b)
theorem UpB.at_ {i b : Str} {x x' : Plan} (h : UpB i b x x') {n : Str} (hn : n = i ∨ n = b) {κ : Int} (e : get x n = some κ) : ∃ κ', get x' n = some κ' ∧ κ ≤ κ' := by
 rcases hn with rfl | rfl
 ·rw [h.r] at e
  cases e
  exact ⟨0, h.r', Int.le_refl _⟩
 ·have := h.b
  rw [e] at this
  exact a3C this
/-- the last one, by b, of those that a rule holds at c -/
def Tp (W : List Str) (us : List (Plan × Plan)) (i b c : Str) (u : Plan × Plan) (x : Plan) : Prop := ∃ γ z, Hc i b c u x γ z ∧ ∀ x' γ', Lp W us i x' → Hc i b c u x' γ' z → oLe (get x b) (get x' b) → x' = x
theorem fresh (l : List Str) : ∃ n : Str, n ∉ l := by
 have : ∀ l : List Str, ∃ n : Str, ∀ x ∈ l, x.length < n.length := fun l => by
  induction l with
  | nil => exact ⟨"", fun x hx => by cases hx⟩
  | cons a l ih =>
   obtain ⟨n, hn⟩ := ih
   refine ⟨a ++ n ++ "x", fun x hx => ?_⟩
   have e : (a ++ n ++ "x" : Str).length = a.length + n.length + 1 := by
    rw [strLen_append, strLen_append]; rfl
   rw [e]
   rcases List.mem_cons.mp hx with rfl | hx
   ·omega
   ·have := hn x hx; omega
 obtain ⟨n, hn⟩ := this l
 exact ⟨n, fun z => Nat.lt_irrefl _ (hn n z)⟩
end Mk

namespace Mk
open PySem L2 Fx
open Pg (x9 z4 m6 m8 Plan Asc get get_mem u3 u6 w4 A2 v3 G7 get_none k9 w9)
/-- each wait is the least one of some maker -/
def a62 (ms : List Plan) (n : Str) (s : Plan) : Prop := ∀ x ∈ s, ∃ m ∈ ms, ∃ u v, get m x.1 = some u ∧ get m n = some v ∧ x.2 = v - u
theorem a62.more {ms ns : List Plan} {n : Str} {s : Plan} (h : a62 ms n s) (hs : ∀ m ∈ ms, m ∈ ns) : a62 ns n s := fun x hx => by
 obtain ⟨m, hm, r⟩ := h x hx
 exact ⟨m, hs m hm, r⟩
end Mk

namespace Mk
open PySem L2 Fx
open Pg (Plan Asc get get_mem u3 u6 w4 q8 t5 m9 s7 x9 G9 z4 m6 m8)
end Mk

namespace Mk
open PySem L2 Fx
open Pg (Plan Asc get get_mem u3 u6 w4 q8 t5 m9 s7 x9 G9 z4 m6 m8)
def a80 (m F : Plan) : List Int := (F.filter fun x => (get m x.1).isSome).map fun x => x.2 - (get m x.1).getD 0
theorem U4 {m F : Plan} {v : Int} : v ∈ a80 m F ↔ ∃ x ∈ F, ∃ u, get m x.1 = some u ∧ v = x.2 - u := by
 unfold a80
 rw [List.mem_map]
 constructor
 ·rintro ⟨x, hx, rfl⟩
  obtain ⟨h1, h2⟩ := List.mem_filter.mp hx
  obtain ⟨u, e⟩ := Option.isSome_iff_exists.mp h2
  exact ⟨x, h1, u, e, by rw [e]; rfl⟩
 ·rintro ⟨x, hx, u, e, rfl⟩
  exact ⟨x, List.mem_filter.mpr ⟨hx, by rw [e]; rfl⟩, by rw [e]; rfl⟩
def R1 (m F : Plan) : Option Int := if a80 m F = [] then none else some (a87 (a80 m F))
theorem Y6 {m F : Plan} {k : Int} (h : R1 m F = some k) : (∃ x ∈ F, ∃ u, get m x.1 = some u ∧ k = x.2 - u) ∧ ∀ x ∈ F, ∀ u, get m x.1 = some u → u + k ≤ x.2 := by
 unfold R1 at h
 split at h
 ·cases h
 ·rename_i c
  cases h
  obtain ⟨h1, h2⟩ := a1H c
  refine ⟨U4.mp h1, fun x hx u e => ?_⟩
  have := h2 _ (U4.mpr ⟨x, hx, u, e, rfl⟩)
  omega
theorem a08 {m F : Plan} (h : R1 m F = none) : ∀ x ∈ F, get m x.1 = none := fun x hx => by
 cases e : get m x.1 with
 | none => rfl
 | some u =>
  unfold R1 at h
  split at h
  ·rename_i c
   exact absurd (U4.mpr ⟨x, hx, u, e, rfl⟩) (by rw [c]; simp)
  ·cases h
/-- a plan that passes no fixed moment -/
def Under (q F : Plan) : Prop := ∀ x ∈ F, ∀ u, get q x.1 = some u → u ≤ x.2
def a0h (p F : Plan) : Prop := ∀ x ∈ F, get p x.1 = some x.2
theorem a29 {m F : Plan} {k : Int} (h : ∀ j, R1 m F = some j → k ≤ j) : Under (w4 m k) F := fun x hx u e => by
 have e := O4 e
 cases c : R1 m F with
 | none => rw [a08 c x hx] at e; cases e
 | some j =>
  have := h j c
  have := (Y6 c).2 x hx _ e
  omega
def J7 (ms : List Plan) (F : Plan) : List Plan := (ms.filter fun m => (R1 m F).isSome).map fun m => w4 m ((R1 m F).getD 0)
theorem J5 {ms : List Plan} {F q : Plan} : q ∈ J7 ms F ↔ ∃ m ∈ ms, ∃ k, R1 m F = some k ∧ w4 m k = q := by
 unfold J7
 rw [List.mem_map]
 constructor
 ·rintro ⟨m, hm, rfl⟩
  obtain ⟨h1, h2⟩ := List.mem_filter.mp hm
  obtain ⟨k, e⟩ := Option.isSome_iff_exists.mp h2
  exact ⟨m, h1, k, e, by rw [e]; rfl⟩
 ·rintro ⟨m, hm, k, e, rfl⟩
  exact ⟨m, List.mem_filter.mpr ⟨hm, by rw [e]; rfl⟩, by rw [e]; rfl⟩
theorem a17 {ms : List Plan} {F q : Plan} (h : q ∈ J7 ms F) : Under q F := by
 obtain ⟨m, hm, k, e, rfl⟩ := J5.mp h
 exact a29 fun j ej => by rw [e] at ej; cases ej; omega
def N4 (ps : List Plan) (n : Str) (t : Int) : List Plan := ps.filter fun q => decide (get q n = some t)
theorem a04 {ps : List Plan} {n : Str} {t : Int} {q : Plan} : q ∈ N4 ps n t ↔ q ∈ ps ∧ get q n = some t := by
 unfold N4
 rw [List.mem_filter, decide_eq_true_iff]
theorem a59 {ms : List Plan} {p F : Plan} (hp : Made ms p) (hf : a0h p F) {x : Str × Int} (hx : x ∈ F) : ∃ q ∈ N4 (J7 ms F) x.1 x.2, Le q p := by
 obtain ⟨m, hm, k, l, e⟩ := hp _ _ (hf x hx)
 have em := O4 e
 cases c : R1 m F with
 | none => rw [a08 c x hx] at em; cases em
 | some j =>
  obtain ⟨⟨y, hy, u, eu, ej⟩, h2⟩ := Y6 c
  have a1 := h2 x hx _ em
  obtain ⟨w, ew, lw⟩ := l _ _ (J6 k eu)
  rw [hf y hy] at ew
  cases ew
  have : j = k := by omega
  subst this
  exact ⟨_, a04.mpr ⟨J5.mpr ⟨m, hm, j, c, rfl⟩, e⟩, l⟩
/-- one of some plans in which a thing comes first, or not at all -/
structure a68 (ps : List Plan) (w : Str) (e : Plan) : Prop where
 mem : e ∈ ps
 low : ∀ u, get e w = some u → ∀ q ∈ ps, ∃ v, get q w = some v ∧ u ≤ v
section
variable {ms : List Plan} {F : Plan} {w : Str} {E : Str × Int → Plan} (ha : ∀ m ∈ ms, Asc m) (hE : ∀ x ∈ F, a68 (N4 (J7 ms F) x.1 x.2) w (E x))
include ha hE
theorem part_of {x : Str × Int} (hx : x ∈ F) : (∃ m ∈ ms, ∃ k, R1 m F = some k ∧ w4 m k = E x) ∧ get (E x) x.1 = some x.2 ∧ Under (E x) F ∧ Asc (E x) := by
 obtain ⟨h1, h2⟩ := a04.mp (hE x hx).mem
 obtain ⟨m, hm, k, ek, e⟩ := J5.mp h1
 exact ⟨⟨m, hm, k, ek, e⟩, h2, a17 h1, by rw [← e]; exact t5 (ha m hm) k⟩
theorem a0Z : ∀ q ∈ F.map E, Asc q := fun q hq => by
 obtain ⟨x, hx, rfl⟩ := List.mem_map.mp hq
 exact (part_of ha hE hx).2.2.2
/-- each plan that fits has the thing, no earlier than the first moment -/
theorem a4b {p : Plan} {f : Int} (hp : Made ms p) (hf : a0h p F) (h : get (z4 (F.map E)) w = some f) : ∃ v, get p w = some v ∧ f ≤ v := by
 obtain ⟨q, hq, e⟩ := U6 (a0Z ha hE) h
 obtain ⟨x, hx, rfl⟩ := List.mem_map.mp hq
 obtain ⟨q, hq, l⟩ := a59 hp hf hx
 obtain ⟨v, ev, lv⟩ := (hE x hx).low f e q hq
 obtain ⟨z, ez, lz⟩ := l _ _ ev
 exact ⟨z, ez, by omega⟩
end
end Mk

namespace Mk
open PySem L2 Fx
open Pg (x9 z4 m6 m8 Plan Asc get get_mem u3 u6 w4 w9 A2 v3 G7 get_none k9)
/-- each wait of a side is a difference within a maker -/
def Told (ms : List Plan) (n : Str) (ss : List Plan) : Prop := ∀ s ∈ ss, Asc s ∧ ∀ o w, get s o = some w → o ≠ n ∧ ∃ m ∈ ms, ∃ v u, get m n = some v ∧ get m o = some u ∧ w = v - u
theorem Told.mono {ms ns : List Plan} {n : Str} {ss : List Plan} (h : Told ms n ss) (hs : ∀ m ∈ ms, m ∈ ns) : Told ns n ss := fun s hs' => ⟨(h s hs').1, fun o w e => by
 obtain ⟨a, m, hm, r⟩ := (h s hs').2 o w e
 exact ⟨a, m, hs m hm, r⟩⟩
end Mk

namespace Mk
open PySem L2 Fx
open Pg (Plan Asc get get_mem u3 u6 w4 q8 t5 x9 z4 m6 m8)
/-- a plan has each of these things, no earlier than told -/
def Meets (f p : Plan) : Prop := ∀ x ∈ f, ∃ k, get p x.1 = some k ∧ x.2 ≤ k
theorem Meets.up {f p q : Plan} (h : Meets f p) (l : Le p q) : Meets f q := fun x hx => by
 obtain ⟨k, e, h1⟩ := h x hx
 obtain ⟨j, e', h2⟩ := l _ _ e
 exact ⟨j, e', by omega⟩
/-- all least plans above floors -/
structure Abv (ms : List Plan) (f : Plan) (s : List Plan) : Prop where
 asc : ∀ p ∈ s, Asc p
 made : ∀ p ∈ s, Made ms p
 meets : ∀ p ∈ s, Meets f p
 least : ∀ q, Made ms q → Meets f q → ∃ p ∈ s, Le p q
 apart : ∀ p ∈ s, ∀ q ∈ s, Le p q → p = q
 up : Up s
end Mk

namespace Mk
open PySem L2 Fx
open Pg (x9 z4 m6 m8 Plan Asc get get_mem u3 u6 w4 w9 A2 v3 G7 get_none k9)
abbrev O3 := Option Int × Option Int × Option Int
/-- a wait holds a limit (none: no wait does) -/
def hB : Option Int → Option Int → Prop
 | some w, some l => l ≤ w
 | _, _ => False
/-- this maker is held by the second wait alone, just so -/
def a9T (m s : O3) : Prop := (∃ w, s.2.1 = some w ∧ m.2.1 = some w) ∧ ¬ hB s.1 m.1 ∧ ¬ hB s.2.2 m.2.2
def a9Q (m s : O3) : Prop := (∃ w, s.2.2 = some w ∧ m.2.2 = some w) ∧ ¬ hB s.1 m.1 ∧ ¬ hB s.2.1 m.2.1
def fl (s : O3) : O3 := (s.1, s.2.2, s.2.1)
structure a9S (ms ss : List O3) : Prop where
 fit : ∀ s ∈ ss, ∀ m ∈ ms, hB s.1 m.1 ∨ hB s.2.1 m.2.1 ∨ hB s.2.2 m.2.2
 apart : ∀ s ∈ ss, ∀ t ∈ ss, oLe s.1 t.1 → oLe s.2.1 t.2.1 → oLe s.2.2 t.2.2 → s = t
 y : ∀ s ∈ ss, ∀ w, s.2.1 = some w → ∃ m ∈ ms, a9T m s
 z : ∀ s ∈ ss, ∀ w, s.2.2 = some w → ∃ m ∈ ms, a9Q m s
/-- the least wait of a thing by which a maker keeps the rule -/
def lim (m : Plan) (n i : Str) : Option Int := match get m n, get m i with
 | some v, some u => some (v - u)
 | _, _ => none
end Mk

namespace Mk
open PySem L2 Fx
open Pg (x9 z4 m6 m8 Plan Asc get get_mem u3 u6 w4 q8 t5 m9 s7 w9 A2 v3 G7 get_none k9)
end Mk

namespace Mk
open PySem L2 Fx
open Pg (Plan Asc get get_mem u3 u6 w4 q8 t5 m9 s7 w9 k9 get_none z4 m6 m8 x9)
/-- some plans make just what keeps some rules -/
def By (W : List Str) (us : List (Plan × Plan)) (ms : List Plan) : Prop := ∀ p, Asc p → (Made ms p ↔ Sr W us p)
theorem a0R {x y : Str} {c d : Int} {m : Plan} : keep ([(x, c)], [(y, d)]) m = true ↔ ∀ a, get m x = some a → ∃ b, get m y = some b ∧ a + c ≤ b + d := by
 have v1 : ∀ (n : Str) (c : Int), val [(n, c)] m = (get m n).map (· + c) := fun n c => by
  show Pg.x9 ((get m n).map (· + c)) none = _
  cases get m n <;> rfl
 rw [K5, v1, v1]
 constructor
 ·intro h a ea
  obtain ⟨b, eb, l⟩ := h (a + c) (by rw [ea]; rfl)
  cases e : get m y with
  | none => rw [e] at eb; cases eb
  | some v =>
   rw [e] at eb
   have : v + d = b := by injection eb
   exact ⟨v, rfl, by omega⟩
 ·intro h a ea
  cases e : get m x with
  | none => rw [e] at ea; cases ea
  | some v =>
   rw [e] at ea
   have : v + c = a := by injection ea
   obtain ⟨b, eb, l⟩ := h v e
   exact ⟨b + d, by rw [eb]; rfl, by omega⟩
end Mk

namespace Mk
open PySem L2 Fx
open Pg (Plan Asc get get_mem u3 u6 w4 q8 t5 m9 s7 z4 m6)
theorem a4w {u : Plan × Plan} {r : Plan} : keep u r = true ↔ ∀ x ∈ u.1, ∀ k, get r x.1 = some k → ∃ y ∈ u.2, ∃ j, get r y.1 = some j ∧ k + x.2 ≤ j + y.2 := by
 rw [K5]
 constructor
 ·intro h x hx k e
  obtain ⟨v, ev, lv⟩ := T6 hx e
  obtain ⟨b, eb, lb⟩ := h v ev
  obtain ⟨y, hy, j, ej, q⟩ := J4 eb
  exact ⟨y, hy, j, ej, by omega⟩
 ·intro h a ea
  obtain ⟨x, hx, k, ek, q⟩ := J4 ea
  obtain ⟨y, hy, j, ej, l⟩ := h x hx k ek
  obtain ⟨v, ev, lv⟩ := T6 hy ej
  exact ⟨v, ev, by omega⟩
theorem X9 {W : List Str} {u : Plan × Plan} (h1 : In W u.1) (h2 : In W u.2) {r r' : Plan} (e : ∀ n ∈ W, get r n = get r' n) (h : keep u r = true) : keep u r' = true := a4w.mpr fun x hx k ek => by
 rw [← e _ (h1 x hx)] at ek
 obtain ⟨y, hy, j, ej, l⟩ := a4w.mp h x hx k ek
 exact ⟨y, hy, j, by rw [← e _ (h2 y hy)]; exact ej, l⟩
def a9w (F : Plan) (c : Str) : List (Plan × Plan) := F.flatMap fun x => [([(x.1, 0)], [(c, x.2)]), ([(c, x.2)], [(x.1, 0)])]
theorem a0T {F : Plan} {c : Str} {p : Plan} : (∀ u ∈ a9w F c, keep u p = true) ↔ ∀ x ∈ F, get p x.1 = (get p c).map (· + x.2) := by
 constructor
 ·intro h x hx
  have k1 := a0R.mp (h ([(x.1, 0)], [(c, x.2)]) (List.mem_flatMap.mpr ⟨x, hx, by simp⟩))
  have k2 := a0R.mp (h ([(c, x.2)], [(x.1, 0)]) (List.mem_flatMap.mpr ⟨x, hx, by simp⟩))
  cases e : get p x.1 with
  | none =>
   cases e2 : get p c with
   | none => rfl
   | some t =>
    obtain ⟨b, eb, _⟩ := k2 t e2
    rw [e] at eb; cases eb
  | some v =>
   obtain ⟨t, et, l1⟩ := k1 v e
   obtain ⟨b, eb, l2⟩ := k2 t et
   rw [e] at eb
   cases eb
   rw [et]
   show some v = some (t + x.2)
   congr 1
   omega
 ·intro h u hu
  obtain ⟨x, hx, hu⟩ := List.mem_flatMap.mp hu
  have e := h x hx
  simp only [List.mem_cons, List.not_mem_nil, or_false] at hu
  rcases hu with rfl | rfl
  ·refine a0R.mpr fun a ea => ?_
   rw [ea] at e
   cases e2 : get p c with
   | none => rw [e2] at e; cases e
   | some t =>
    rw [e2] at e
    have : a = t + x.2 := by injection e
    exact ⟨t, rfl, by omega⟩
  ·refine a0R.mpr fun t et => ?_
   rw [et] at e
   exact ⟨t + x.2, e, by omega⟩
structure Clk (W W' : List Str) (us : List (Plan × Plan)) (F : Plan) (c : Str) (ms ms' : List Plan) : Prop where
 ha : ∀ m ∈ ms, Asc m
 ha' : ∀ m ∈ ms', Asc m
 hb : By W us ms
 hb' : By W' (us ++ a9w F c) ms'
 W' : ∀ n, n ∈ W' ↔ n ∈ W ∨ n = c
 cW : c ∉ W
 hu : ∀ u ∈ us, In W u.1 ∧ In W u.2
 Fa : Asc F
 Fi : In W F
section
variable {W W' : List Str} {us : List (Plan × Plan)} {F : Plan} {c : Str} {ms ms' : List Plan} (C : Clk W W' us F c ms ms')
include C
theorem Clk.ne {n : Str} (h : n ∈ W) : n ≠ c := fun z => C.cW (z ▸ h)
theorem Clk.add {p : Plan} (hp : Asc p) (h : Made ms p) (f : a0h p F) : Made ms' (a6f p c 0) := by
 obtain ⟨pi, pk⟩ := (C.hb p hp).mp h
 have sg := X0 hp c 0
 have sa := a41 p c 0
 have same : ∀ n ∈ W, get p n = get (a6f p c 0) n := fun n hn => by rw [sg, if_neg (C.ne hn)]
 refine (C.hb' _ sa).mpr ⟨a02 sa fun n v e => ?_, fun u hu => ?_⟩
 ·rw [sg] at e
  split at e
  ·rename_i z; exact (C.W' n).mpr (.inr z)
  ·exact (C.W' n).mpr (.inl (a4T pi e))
 ·rcases List.mem_append.mp hu with hu | hu
  ·exact X9 (C.hu u hu).1 (C.hu u hu).2 same (pk u hu)
  ·refine a0T.mpr (fun x hx => ?_) u hu
   rw [← same _ (C.Fi x hx), sg, if_pos rfl, f x hx]
   show some x.2 = some (0 + x.2)
   rw [Int.zero_add]
def drp (c : Str) (p : Plan) : Plan := p.filter fun x => decide (x.1 ≠ c)
omit C in
theorem X4 (c : Str) (p : Plan) (n : Str) : get (drp c p) n = if n = c then none else get p n := get_filter p c n
/-- without the clock -/
theorem Clk.drop {p : Plan} (hp : Asc p) (h : Made ms' p) : Asc (drp c p) ∧ Made ms (drp c p) ∧ ∀ x ∈ F, get p x.1 = (get p c).map (· + x.2) := by
 obtain ⟨pi, pk⟩ := (C.hb' p hp).mp h
 have da : Asc (drp c p) := S9 hp c
 refine ⟨da, (C.hb _ da).mpr ⟨a02 da fun n v e => ?_, fun u hu => ?_⟩, a0T.mp fun u hu => pk u (List.mem_append.mpr (.inr hu))⟩
 ·rw [X4] at e
  split at e
  ·cases e
  ·rename_i z
   exact ((C.W' n).mp (a4T pi e)).resolve_right z
 ·exact X9 (C.hu u hu).1 (C.hu u hu).2 (fun n hn => by rw [X4, if_neg (C.ne hn)]) (pk u (List.mem_append.mpr (.inl hu)))
/-- at the clock's moment the fixed ones are met -/
theorem Clk.fit {p : Plan} (hp : Asc p) (h : Made ms' p) {t : Int} (e : get p c = some t) : Asc (w4 (drp c p) (-t)) ∧ Made ms (w4 (drp c p) (-t)) ∧ a0h (w4 (drp c p) (-t)) F ∧ ∀ n ∈ W, get (w4 (drp c p) (-t)) n = (get p n).map (· + -t) := by
 obtain ⟨da, dm, tie⟩ := C.drop hp h
 refine ⟨t5 da _, dm.put _, fun x hx => ?_, fun n hn => ?_⟩
 ·rw [q8, X4, if_neg (C.ne (C.Fi x hx)), tie x hx, e]
  show some (t + x.2 + -t) = some x.2
  congr 1
  omega
 ·rw [q8, X4, if_neg (C.ne hn)]
/-- the least plans above the clock at 0 -/
theorem Clk.row {s : List Plan} (A : Abv ms' [(c, 0)] s) {p : Plan} (hp : p ∈ s) : get p c = some 0 ∧ Asc (drp c p) ∧ Made ms (drp c p) ∧ a0h (drp c p) F ∧ ∀ n ∈ W, get (drp c p) n = get p n := by
 have pa := A.asc p hp
 obtain ⟨t, et, lt⟩ := A.meets p hp (c, 0) (List.mem_singleton.mpr rfl)
 have e0 : get p c = some 0 := by
  obtain ⟨q, hq, l⟩ := A.least (w4 p (-t)) ((A.made p hp).put _) fun x hx => by
   rw [List.mem_singleton.mp hx]
   exact ⟨t + -t, J6 _ et, by simp only; omega⟩
  have l2 : Le (w4 p (-t)) p := by
   have := a6B p (j := -t) (k := 0) (by simp only at lt; omega)
   rwa [m9] at this
  have e := A.apart q hq p hp (l.trans l2)
  subst e
  have e2 := Le.antisymm pa (t5 pa _) l l2
  have := J6 (-t) et
  rw [← e2, et] at this
  have : t = t + -t := by injection this
  rw [et]
  congr 1
  omega
 obtain ⟨a, b, f, g⟩ := C.fit pa (A.made p hp) e0
 rw [show -(0 : Int) = 0 from rfl, m9] at a b f g
 refine ⟨e0, a, b, f, fun n hn => ?_⟩
 rw [g n hn]
 cases get p n with
 | none => rfl
 | some v => show some (v + 0) = some v; rw [Int.add_zero]
theorem Clk.under {s : List Plan} (A : Abv ms' [(c, 0)] s) {p : Plan} (hp : Asc p) (h : Made ms p) (f : a0h p F) : ∃ q ∈ s, ∀ n ∈ W, ∀ v, get q n = some v → ∃ u, get p n = some u ∧ v ≤ u := by
 obtain ⟨q, hq, l⟩ := A.least _ (C.add hp h f) fun x hx => by
  rw [List.mem_singleton.mp hx]
  exact ⟨0, by rw [X0 hp, if_pos rfl], Int.le_refl _⟩
 refine ⟨q, hq, fun n hn v e => ?_⟩
 obtain ⟨u, eu, lu⟩ := l n v e
 rw [X0 hp, if_neg (C.ne hn)] at eu
 exact ⟨u, eu, lu⟩
end
section
variable {ms : List Plan} {F : Plan} {w : Str} {E : Str × Int → Plan} (ha : ∀ m ∈ ms, Asc m) (hE : ∀ x ∈ F, a68 (N4 (J7 ms F) x.1 x.2) w (E x))
include ha hE
/-- the join of the parts fits -/
theorem a2x : Made ms (z4 (F.map E)) ∧ a0h (z4 (F.map E)) F := by
 have as := a0Z ha hE
 refine ⟨a1M as fun q hq => ?_, fun x hx => ?_⟩
 ·obtain ⟨x, hx, rfl⟩ := List.mem_map.mp hq
  obtain ⟨⟨m, hm, k, _, e⟩, _⟩ := part_of ha hE hx
  rw [← e]
  exact (a2F hm).put k
 ·obtain ⟨_, e, _, _⟩ := part_of ha hE hx
  obtain ⟨v, ev, l⟩ := a2h as (List.mem_map.mpr ⟨x, hx, rfl⟩) _ _ e
  obtain ⟨q, hq, eq⟩ := U6 as ev
  obtain ⟨y, hy, rfl⟩ := List.mem_map.mp hq
  obtain ⟨_, _, un, _⟩ := part_of ha hE hy
  have := un x hx v eq
  rw [ev]
  congr 1
  omega
end
section
variable {W W' : List Str} {us : List (Plan × Plan)} {F : Plan} {c : Str} {ms ms' : List Plan} (C : Clk W W' us F c ms ms') {w : Str} (wW : w ∈ W) {E : Str × Int → Plan} (hE : ∀ x ∈ F, a68 (N4 (J7 ms F) x.1 x.2) w (E x))
include C wW
include hE
/-- the earliest moment is the least of them -/
theorem Clk.least {s : List Plan} (A : Abv ms' [(c, 0)] s) {f : Int} (e : get (z4 (F.map E)) w = some f) : (∃ p ∈ s, get p w = some f) ∧ ∀ p ∈ s, ∃ v, get p w = some v ∧ f ≤ v := by
 obtain ⟨jm, jf⟩ := a2x C.ha hE
 have ja := m6 (F.map E)
 have all : ∀ p ∈ s, ∃ v, get p w = some v ∧ f ≤ v := fun p hp => by
  obtain ⟨_, _, dm, df, g⟩ := C.row A hp
  obtain ⟨v, ev, lv⟩ := a4b C.ha hE dm df e
  exact ⟨v, by rw [← g w wW]; exact ev, lv⟩
 refine ⟨?_, all⟩
 obtain ⟨q, hq, l⟩ := C.under A ja jm jf
 obtain ⟨v, ev, lv⟩ := all q hq
 obtain ⟨u, eu, lu⟩ := l w wW v ev
 rw [e] at eu
 cases eu
 exact ⟨q, hq, by rw [ev]; congr 1; omega⟩
end
end Mk

namespace Pg
open PySem L2 Fx Fq
abbrev a3D : List Str := ["BadPlan", "BadPlans", "BadNumber", "BadSide", "BadRule", "BadRules", "BadBook", "BadThing", "NoPlans", "NoRule", "BadLot", "TooMany", "OtherThings", "NotSo", "NotEven", "BadTable", "NothingDone", "BadText", "BadChoice", "PlanError"]
theorem T1 {α β σ : Type} {z : σ → α → Prop} {f : σ → α → Bl β σ} : ∀ (xs : List α) (s : σ), (∀ s, ∀ x ∈ xs, z s x) → a18 z f xs s
 | [], _, _ => trivial
 | x :: xs, s, h => ⟨h s x (List.mem_cons_self ..), by
  cases f s x with
  | ret b => trivial
  | nx s' => exact T1 xs s' fun s y hy => h s y (List.mem_cons_of_mem _ hy)⟩
theorem a53 {p : ErP} (h : p.1 ∈ a3D) : u9 p := by
 unfold u9
 simp only [A6, h, true_and, and_true, List.length_cons, List.length_nil, List.length_append, sizeLine_eq]
 decide
theorem a7A {α : Type} {xs : List α} {x : Int × α} (h : x ∈ enu xs) : x.2 ∈ xs := by
 unfold enu at h
 obtain ⟨p, hp, rfl⟩ := List.mem_map.mp h
 exact (List.mem_zipIdx hp).2.2 ▸ List.getElem_mem ..
theorem a2G {L : List ErP} (h : ∀ p ∈ L, p.1 ∈ a3D) : o9 L := by
 unfold o9
 refine T1 (enu L) () fun s x hx => ?_
 have hm := h _ (a7A hx)
 exact ⟨⟨a53 hm, ⟨by decide, by decide⟩, by rw [sizeLine_eq]; decide⟩, fun _ => ⟨hm, fun _ => hm⟩⟩
def a0P : List ErP := [((("BadPlan" : Str), []) : ErP), ((("BadNumber" : Str), []) : ErP), ((("BadSide" : Str), []) : ErP), ((("BadRule" : Str), []) : ErP), ((("NoPlans" : Str), []) : ErP), ((("BadLot" : Str), []) : ErP), ((("OtherThings" : Str), []) : ErP)] ++ [((("NotSo" : Str), []) : ErP), ((("NotEven" : Str), []) : ErP), ((("NothingDone" : Str), []) : ErP)]
def a3S (y : PyData) : List ErP := [((("BadPlans" : Str), [("at", y)]) : ErP), ((("BadRules" : Str), [("at", y)]) : ErP), ((("BadBook" : Str), [("part", y)]) : ErP), ((("BadThing" : Str), [("thing", y)]) : ErP), ((("NoRule" : Str), [("at", y)]) : ErP), ((("TooMany" : Str), [("most", y)]) : ErP), ((("BadTable" : Str), [("name", y)]) : ErP), ((("BadText" : Str), [("line", y)]) : ErP)]
theorem a4M {L : List ErP} {N : List Str} (e : L.map Prod.fst = N) (h : ∀ n ∈ N, n ∈ a3D) : ∀ p ∈ L, p.1 ∈ a3D := fun p hp => h _ (by rw [← e]; exact List.mem_map.mpr ⟨p, hp, rfl⟩)
abbrev a6U : List Str := ["BadPlan", "BadNumber", "BadSide", "BadRule", "NoPlans", "BadLot", "OtherThings", "NotSo", "NotEven", "NothingDone", "BadPlans", "BadRules", "BadBook", "BadThing", "NoRule", "TooMany", "BadTable", "BadText"]
theorem a8E (y : PyData) : o9 (a0P ++ a3S y) := a2G (a4M (N := a6U) rfl (by decide +kernel))
theorem a5N (y : PyData) : o9 ((a0P ++ a3S y) ++ [((("BadChoice" : Str), []) : ErP)]) := a2G (a4M (N := a6U ++ (["BadChoice"] : List Str)) rfl (by decide +kernel))
theorem a8C (y : PyData) : o0 (a0P ++ a3S y) = true := by kernel_rfl
theorem a5M (y : PyData) : o0 ((a0P ++ a3S y) ++ [((("BadChoice" : Str), []) : ErP)]) = true := by kernel_rfl
theorem M0 {y : PyData} (h : Shx 60 8 y) : Shd ((eL eA) (List.replicate 8 ([y] : (List PyData))).flatten) := by
 have h8 : ∀ x ∈ (List.replicate 8 ([y] : (List PyData))).flatten, Shx 60 8 (eA x) := fun x hx => by
  have e : x = y := by
   obtain ⟨l, hl, hx⟩ := List.mem_flatten.mp hx
   rw [(List.mem_replicate.mp hl).2] at hx
   exact List.mem_singleton.mp hx
  rw [e]; exact h
 exact (a8L h8).shd (by simp) (by decide)
theorem a8X {d : Addr} {n : Nat} {g : Gs} (h : GD d n g) (hn : 1 ≤ n) {P : PyData → Gs → Prop} {X : PyData → Gs → Prop} (p : ∀ x g', Shx 60 8 x → GD d (n - 1) g' → P x g') : (z6 d g).wp P X := by
 unfold z6
 dsimp only [A6]
 refine R.wp_asrt (by simp only [List.length_cons, List.length_nil, List.length_append]; exact Nat.le_of_ble_eq_true (by decide)) (R.wp_asrt (by simp only [List.length_cons, List.length_nil, List.length_append]; exact Nat.le_of_ble_eq_true (by decide)) (a6S (fun a b h => h) h hn (by simp) (by simp) fun x g' hx h' => ?_))
 simp only [List.cons_append, List.nil_append, List.mem_cons, List.not_mem_nil, or_false] at hx
 refine p x g' ?_ h'
 rcases hx with rfl | rfl | rfl | rfl | rfl | rfl | rfl | rfl | rfl | rfl | rfl | rfl | rfl | rfl | rfl | rfl | rfl | rfl | rfl | rfl | rfl | rfl | rfl | rfl | rfl | rfl | rfl | rfl | rfl <;> exact ⟨by decide +kernel, by decide +kernel, by decide +kernel, by decide +kernel, by decide +kernel⟩
theorem a2m {α : Type} {c : Bool} {A B : R α} {P : α → Gs → Prop} {X : PyData → Gs → Prop} (hc : c = false) (h : B.wp P X) : (if c = true then A else B).wp P X := by
 rw [hc, if_neg Bool.false_ne_true]; exact h
theorem law_s (ns : List Int) (d : Addr) (g : Gs) (hl : ns.length ≤ 63) (h : GD d (2 ^ 39) g) : (a2z ns d g).wp (fun b _ => b = true) NoX := by
 unfold a2z
 refine R.wp_asrt ⟨by omega, by omega⟩ (R.wp_bind.mpr (a2K (fun (r : List Int) (_ : Unit) g => GD d (10 * r.length) g) (fun x0 r0 s0 g i => ?_) _ () g (h.le ?_) fun s g i => ?_))
 ·simp only [List.length_cons] at i
  refine R.wp_bind.mpr (a8X i (by omega) fun y g1 hy h1 => ?_)
  have sz := sizeLine_eq
  dsimp only [A6]
  have fin : ∃ s' : Unit, (Bl.nx () : Bl Bool Unit) = .nx s' ∧ GD d (10 * r0.length) g1 := ⟨(), rfl, h1.le (by omega)⟩
  refine R.wp_asrt (by simp only [List.length_cons, List.length_nil]; omega) ?_
  refine R.wp_asrt ⟨⟨⟨by simp only [List.length_cons, List.length_nil, List.length_append]; omega, by simp only [List.length_cons, List.length_nil, List.length_append]; omega⟩, a5N y⟩, fun _ => by decide +kernel⟩ ?_
  refine a2m (Bool.or_eq_false_iff.mpr ⟨congrArg not (a5M y), by decide +kernel⟩) ?_
  refine R.wp_asrt ⟨⟨rfl, .head _, rfl⟩, ⟨rfl, .tail _ (.head _), rfl⟩, ⟨rfl, .head _, rfl⟩, ⟨rfl, .head _, rfl⟩, ⟨rfl, .tail _ (.tail _ (.head _)), rfl⟩, ⟨rfl, .head _, rfl⟩, ⟨rfl, .head _, rfl⟩, ⟨rfl, .head _, rfl⟩⟩ ?_
  refine R.wp_asrt ⟨M0 hy, M0 hy⟩ (a2m (decide_eq_false fun z => z rfl) ?_)
  refine R.wp_asrt (by simp only [List.length_cons, List.length_nil]; omega) ?_
  refine R.wp_asrt ⟨⟨rfl, .head _, rfl⟩, ⟨rfl, .tail _ (.head _), rfl⟩, ⟨rfl, .head _, rfl⟩, ⟨rfl, .head _, rfl⟩, ⟨rfl, .tail _ (.tail _ (.head _)), rfl⟩, ⟨rfl, .head _, rfl⟩, ⟨rfl, .head _, rfl⟩⟩ ?_
  refine R.wp_asrt ⟨⟨⟨⟨⟨rfl, .head _, rfl⟩, by simp only [List.length_cons, List.length_nil]; omega⟩, M0 hy⟩, M0 hy⟩, fun _ => ⟨by simp only [List.length_cons, List.length_nil, List.length_append]; omega, a8E y⟩⟩ (a2m ?_ fin)
  exact Bool.or_eq_false_iff.mpr ⟨decide_eq_false fun z => z rfl, congrArg not (a8C y)⟩
 ·unfold rng
  rw [List.length_map, List.length_range]
  omega
 ·exact rfl
theorem right : P7 6 a27 := right_of law_g law_s
end Pg

namespace Pg
open PySem L2 Fx Fq
noncomputable section
structure Txt (K : PySem.W.Frag) (mg : Str → Option Value) (w : World) (E_BadBook : Addr) (E_BadChoice : Addr) (E_BadLot : Addr) (E_BadNumber : Addr) (E_BadPlan : Addr) (E_BadPlans : Addr) (E_BadRule : Addr) (E_BadRules : Addr) (E_BadSide : Addr) (E_BadTable : Addr) (E_BadText : Addr) (E_BadThing : Addr) (E_NoPlans : Addr) (E_NoRule : Addr) (E_NotEven : Addr) (E_NotSo : Addr) (E_NothingDone : Addr) (E_OtherThings : Addr) (E_PlanError : Addr) (E_TooMany : Addr) (P : Program) : Prop where
 A : a7r ⟨K, mg, w⟩
 E : a3A ⟨K, mg, w⟩ ["BadPlan", "BadPlans", "BadNumber", "BadSide", "BadRule", "BadRules", "BadBook", "BadThing", "NoPlans", "NoRule", "BadLot", "TooMany", "OtherThings", "NotSo", "NotEven", "BadTable", "NothingDone", "BadText", "BadChoice", "PlanError"]
 e_BadBook : mg "BadBook" = some (.ref E_BadBook)
 e_BadChoice : mg "BadChoice" = some (.ref E_BadChoice)
 e_BadLot : mg "BadLot" = some (.ref E_BadLot)
 e_BadNumber : mg "BadNumber" = some (.ref E_BadNumber)
 e_BadPlan : mg "BadPlan" = some (.ref E_BadPlan)
 e_BadPlans : mg "BadPlans" = some (.ref E_BadPlans)
 e_BadRule : mg "BadRule" = some (.ref E_BadRule)
 e_BadRules : mg "BadRules" = some (.ref E_BadRules)
 e_BadSide : mg "BadSide" = some (.ref E_BadSide)
 e_BadTable : mg "BadTable" = some (.ref E_BadTable)
 e_BadText : mg "BadText" = some (.ref E_BadText)
 e_BadThing : mg "BadThing" = some (.ref E_BadThing)
 e_NoPlans : mg "NoPlans" = some (.ref E_NoPlans)
 e_NoRule : mg "NoRule" = some (.ref E_NoRule)
 e_NotEven : mg "NotEven" = some (.ref E_NotEven)
 e_NotSo : mg "NotSo" = some (.ref E_NotSo)
 e_NothingDone : mg "NothingDone" = some (.ref E_NothingDone)
 e_OtherThings : mg "OtherThings" = some (.ref E_OtherThings)
 e_PlanError : mg "PlanError" = some (.ref E_PlanError)
 e_TooMany : mg "TooMany" = some (.ref E_TooMany)
 f_at : a0j ⟨K, mg, w⟩ ["BadPlans", "BadRules", "NoRule"] "at"
 f_line : a0j ⟨K, mg, w⟩ ["BadText"] "line"
 f_most : a0j ⟨K, mg, w⟩ ["TooMany"] "most"
 f_name : a0j ⟨K, mg, w⟩ ["BadTable"] "name"
 f_part : a0j ⟨K, mg, w⟩ ["BadBook"] "part"
 f_thing : a0j ⟨K, mg, w⟩ ["BadThing"] "thing"
 x_BadChoice : PySem.W.excIn K E_BadChoice [.type "ValueError", .type "Exception", .type "BaseException", .type "object"] "ValueError.__new__" = true
 k_BadChoice : PySem.W.keepIn K (.ref E_BadChoice) = true
 s_BadChoice : PySem.W.subIn K (.ref E_BadChoice) (.type "BaseException") = some true
 y_BadChoice : PySem.W.typeIn K (.ref E_BadChoice) = some (.type "type")
 x_BadLot : PySem.W.excIn K E_BadLot [.type "ValueError", .type "Exception", .type "BaseException", .type "object"] "ValueError.__new__" = true
 k_BadLot : PySem.W.keepIn K (.ref E_BadLot) = true
 s_BadLot : PySem.W.subIn K (.ref E_BadLot) (.type "BaseException") = some true
 y_BadLot : PySem.W.typeIn K (.ref E_BadLot) = some (.type "type")
 x_BadNumber : PySem.W.excIn K E_BadNumber [.type "ValueError", .type "Exception", .type "BaseException", .type "object"] "ValueError.__new__" = true
 k_BadNumber : PySem.W.keepIn K (.ref E_BadNumber) = true
 s_BadNumber : PySem.W.subIn K (.ref E_BadNumber) (.type "BaseException") = some true
 y_BadNumber : PySem.W.typeIn K (.ref E_BadNumber) = some (.type "type")
 x_BadPlan : PySem.W.excIn K E_BadPlan [.type "ValueError", .type "Exception", .type "BaseException", .type "object"] "ValueError.__new__" = true
 k_BadPlan : PySem.W.keepIn K (.ref E_BadPlan) = true
 s_BadPlan : PySem.W.subIn K (.ref E_BadPlan) (.type "BaseException") = some true
 y_BadPlan : PySem.W.typeIn K (.ref E_BadPlan) = some (.type "type")
 x_BadRule : PySem.W.excIn K E_BadRule [.type "ValueError", .type "Exception", .type "BaseException", .type "object"] "ValueError.__new__" = true
 k_BadRule : PySem.W.keepIn K (.ref E_BadRule) = true
 s_BadRule : PySem.W.subIn K (.ref E_BadRule) (.type "BaseException") = some true
 y_BadRule : PySem.W.typeIn K (.ref E_BadRule) = some (.type "type")
 x_BadSide : PySem.W.excIn K E_BadSide [.type "ValueError", .type "Exception", .type "BaseException", .type "object"] "ValueError.__new__" = true
 k_BadSide : PySem.W.keepIn K (.ref E_BadSide) = true
 s_BadSide : PySem.W.subIn K (.ref E_BadSide) (.type "BaseException") = some true
 y_BadSide : PySem.W.typeIn K (.ref E_BadSide) = some (.type "type")
 x_NoPlans : PySem.W.excIn K E_NoPlans [.type "ValueError", .type "Exception", .type "BaseException", .type "object"] "ValueError.__new__" = true
 k_NoPlans : PySem.W.keepIn K (.ref E_NoPlans) = true
 s_NoPlans : PySem.W.subIn K (.ref E_NoPlans) (.type "BaseException") = some true
 y_NoPlans : PySem.W.typeIn K (.ref E_NoPlans) = some (.type "type")
 x_NotEven : PySem.W.excIn K E_NotEven [.type "ValueError", .type "Exception", .type "BaseException", .type "object"] "ValueError.__new__" = true
 k_NotEven : PySem.W.keepIn K (.ref E_NotEven) = true
 s_NotEven : PySem.W.subIn K (.ref E_NotEven) (.type "BaseException") = some true
 y_NotEven : PySem.W.typeIn K (.ref E_NotEven) = some (.type "type")
 x_NotSo : PySem.W.excIn K E_NotSo [.type "ValueError", .type "Exception", .type "BaseException", .type "object"] "ValueError.__new__" = true
 k_NotSo : PySem.W.keepIn K (.ref E_NotSo) = true
 s_NotSo : PySem.W.subIn K (.ref E_NotSo) (.type "BaseException") = some true
 y_NotSo : PySem.W.typeIn K (.ref E_NotSo) = some (.type "type")
 x_NothingDone : PySem.W.excIn K E_NothingDone [.type "ValueError", .type "Exception", .type "BaseException", .type "object"] "ValueError.__new__" = true
 k_NothingDone : PySem.W.keepIn K (.ref E_NothingDone) = true
 s_NothingDone : PySem.W.subIn K (.ref E_NothingDone) (.type "BaseException") = some true
 y_NothingDone : PySem.W.typeIn K (.ref E_NothingDone) = some (.type "type")
 x_OtherThings : PySem.W.excIn K E_OtherThings [.type "ValueError", .type "Exception", .type "BaseException", .type "object"] "ValueError.__new__" = true
 k_OtherThings : PySem.W.keepIn K (.ref E_OtherThings) = true
 s_OtherThings : PySem.W.subIn K (.ref E_OtherThings) (.type "BaseException") = some true
 y_OtherThings : PySem.W.typeIn K (.ref E_OtherThings) = some (.type "type")
 x_PlanError : PySem.W.excIn K E_PlanError [.type "ValueError", .type "Exception", .type "BaseException", .type "object"] "ValueError.__new__" = true
 k_PlanError : PySem.W.keepIn K (.ref E_PlanError) = true
 s_PlanError : PySem.W.subIn K (.ref E_PlanError) (.type "BaseException") = some true
 y_PlanError : PySem.W.typeIn K (.ref E_PlanError) = some (.type "type")
 i_BadBook : RaA P K mg E_BadBook "part"
 i_BadPlans : RaA P K mg E_BadPlans "at"
 i_BadRules : RaA P K mg E_BadRules "at"
 i_BadTable : RaA P K mg E_BadTable "name"
 i_BadText : RaA P K mg E_BadText "line"
 i_BadThing : RaA P K mg E_BadThing "thing"
 i_NoRule : RaA P K mg E_NoRule "at"
 i_TooMany : RaA P K mg E_TooMany "most"
 j_BadBook : RaK P K mg E_BadBook "part"
 j_BadPlans : RaK P K mg E_BadPlans "at"
 j_BadRules : RaK P K mg E_BadRules "at"
 j_BadTable : RaK P K mg E_BadTable "name"
 j_BadText : RaK P K mg E_BadText "line"
 j_BadThing : RaK P K mg E_BadThing "thing"
 j_NoRule : RaK P K mg E_NoRule "at"
 j_TooMany : RaK P K mg E_TooMany "most"
 b_ValueError : mg "ValueError" = none
 b_abs : mg "abs" = none
 b_enumerate : mg "enumerate" = none
 b_int : mg "int" = none
 b_isinstance : mg "isinstance" = none
 b_len : mg "len" = none
 b_min : mg "min" = none
 b_range : mg "range" = none
 b_repr : mg "repr" = none
section
variable {P : Program} {w : World} {K : PySem.W.Frag} {mg : Str → Option Value} {base : Heap}

variable {E_BadBook E_BadChoice E_BadLot E_BadNumber E_BadPlan E_BadPlans E_BadRule E_BadRules E_BadSide E_BadTable E_BadText E_BadThing E_NoPlans E_NoRule E_NotEven E_NotSo E_NothingDone E_OtherThings E_PlanError E_TooMany : Addr}
theorem v4 : FnScope ["_law_script", "_law_cells", "_law_cell"] ["_law_script"] (defScope s__law_begun) := ⟨rfl, rfl, rfl, by decide +kernel, rfl, by decide +kernel, by decide +kernel⟩
theorem V2 {f : Addr} {fd : FuncData} (D : J8 K mg "_law_begun" s__law_begun ["_law_script"] f fd) (T : Txt K mg w E_BadBook E_BadChoice E_BadLot E_BadNumber E_BadPlan E_BadPlans E_BadRule E_BadRules E_BadSide E_BadTable E_BadText E_BadThing E_NoPlans E_NoRule E_NotEven E_NotSo E_NothingDone E_OtherThings E_PlanError E_TooMany P) :
    FnG P w K mg base 1 f fd ["_law_script"] (W6 ⟨K, mg, w⟩) := by
  refine Fun.okG D.F v4 (fun vs H Q E h => by obtain ⟨a, ns, rfl, _⟩ := h; rfl) (fun cdv A fr s H vs Q E hgd hr h => ?_)
  exact ⟨_, pss_cons (ps_setLc (i := 1) (own := [("_law_cell", 2)]) (g := gName 2) (tt := tYes) (te := tCB a7Y (tCons (tVar 2) tNil)) rfl v4.nd rfl rfl (sw_true rfl rfl rfl (by decide +kernel)) (a4S (pv 0)) (blkOk_by (by kernel_rfl)) (fun _ _ _ _ _ => pg_name (i := 2) v4.nd rfl (Or.inl rfl)) (fun _ _ _ _ _ => pts_nil) (fun _ _ _ _ _ => pe_callB call_abs (by rfl) T.b_abs (by rfl) (pa_cons (pv 2) pa_nil)))
    (pss_one (ps_ret (pe_disp (pps_cons pe_str (pe_lc (own := [("_law_cell", 2)]) (g := gName 2) (tt := tTest (tOp (rB ⟨K, mg, w⟩ gGe) (tVar 2) (tOp (rB ⟨K, mg, w⟩ a57) (tC (.int 10)) (tC (.int 18))))) (te := tOp (rB ⟨K, mg, w⟩ gSub) (tVar 2) (tOp (rB ⟨K, mg, w⟩ a57) (tC (.int 10)) (tC (.int 18)))) rfl v4.nd (a4S (pv 1)) (blkOk_by (by kernel_rfl)) (fun _ _ _ _ _ => pg_name (i := 2) v4.nd rfl (Or.inl rfl)) (fun _ _ _ _ _ => pts_one (pt_cmpR a7z (pv 2) (pe_op U9 pe_int pe_int) (nomark _))) (fun _ _ _ _ _ => pe_op a6a (pv 2) (pe_op U9 pe_int pe_int)))
      (pps_cons pe_str (pv 1) (pps_cons pe_str pe_int (pps_cons pe_str pe_int pps_nil)))) (by rfl) (by rfl) (fun z => by cases z) (by decide)))),
    a0g (n1 := "_law_script") (n2 := "_law_cells") (n3 := "_law_cell") h⟩
theorem w8 : FnScope ["_law_state", "_law_size", "_law_turn", "_law_cell", "_law_mixed", "_law_found"] ["_law_state", "_law_size"] (defScope s__law_draw) := ⟨rfl, rfl, rfl, by decide +kernel, rfl, by decide +kernel, by decide +kernel⟩
theorem a07 {f : Addr} {fd : FuncData} (D : J8 K mg "_law_draw" s__law_draw ["_law_state", "_law_size"] f fd) (T : Txt K mg w E_BadBook E_BadChoice E_BadLot E_BadNumber E_BadPlan E_BadPlans E_BadRule E_BadRules E_BadSide E_BadTable E_BadText E_BadThing E_NoPlans E_NoRule E_NotEven E_NotSo E_NothingDone E_OtherThings E_PlanError E_TooMany P) :
  FnG P w K mg base 1 f fd ["_law_state", "_law_size"] (spF ⟨K, mg, w⟩ C6) := by
 refine Fun.okG D.F w8 S0 (fun cdv A fr s H vs Q E hgd hr h => ?_)
 have tk := takes_of (X := cxOf (L2.CX P w) P w K mg base ["_law_state", "_law_size", "_law_turn", "_law_cell", "_law_mixed", "_law_found"] "_law_draw" (defScope s__law_draw) f cdv A fr s H E) (E := E) rfl rfl rfl rfl
 exact ⟨tSf ⟨K, mg, w⟩ (WB E) C1, (xss (pss_cons (xs (ps_while (passes_of rfl) (xt ((pw_and (xt (pt_cmpR (a4X (huN hr (by decide))) (xe (pe_dget (huN hr (by decide)) (pv 0) pe_str (fun _ _ => rfl)) (K9 0)) (xe pe_int i0) (nomark _)) (v5 (j9 a9D f7 f7))) (pw_and1 (xt (pt_cmpR (Z1 (huN hr (by decide))) (pe_dget (huN hr (by decide)) (pv 0) pe_str (fun _ _ => rfl)) (pe_lst pa_nil) (nomark _)) (V5 0))))).pt (a5u A5 A5))
  (xss (pss_one (xs (ps_dput (huN hr (by decide)) (pv 0) pe_str (pe_bm PySem.F.plainAttrs_list PySem.F.slot_list_pop PySem.F.type_list_pop mt_popAt (pe_dget (huN hr (by decide)) (pv 0) pe_str (fun _ _ => rfl)) (pa_cons pe_int pa_nil)) rfl) (a2a 0))) g8)) (a1B A5 g8))
  (xss (pss_cons (xs (ps_if (xt (pt_cmpR a6J (xe (pe_dget (huN hr (by decide)) (pv 0) pe_str (fun _ _ => rfl)) (K9 0)) (xe pe_int i0) (nomark _)) (v5 (j9 a9Z f7 f7)))
  (xss (pss_cons (xs (ps_set (i := 5) w8.nd rfl (Or.inl rfl) (xe (pe_op N5 (xe (pe_callTy call_int1 (by rfl) T.b_int (by rfl) (xa (pa_cons (xe (pe_dget (huN hr (by decide)) (pv 0) pe_str (fun _ _ => rfl)) (K9 0)) (xa pa_nil g5)) (c0 f7 e8))) (K7 a1f e8)) (xe (pv 1) (g6 1))) (j9 a1m f7 f7))) (o7 f7 (i5 5)))
  (xss (pss_cons (xs (ps_dput (huN hr (by decide)) (pv 0) pe_str (xe (pe_op a1v (xe (pe_dget (huN hr (by decide)) (pv 0) pe_str (fun _ _ => rfl)) (K9 0)) (xe (pv 1) (g6 1))) (j9 a7f f7 f7)) rfl) (V1 0 f7))
  (xss (pss_one (xs (ps_ret (pv 5)) (a3I 5))) g8)) (i6 g8 g8))) (i6 g8 g8))
  (xss pss_nil H7)) (T2 A5 g8 g8))
  (xss (pss_cons (xs (ps_set (i := 2) w8.nd rfl (Or.inl rfl) (xe (pe_op q9 (xe (pe_dget (huN hr (by decide)) (pv 0) pe_str (fun _ _ => rfl)) (a1w 0)) (xe pe_int i0)) (j9 D8 f7 f7))) (o7 f7 (i5 2)))
  (xss (pss_cons (xs (ps_dput (huN hr (by decide)) (pv 0) pe_str (xe (pv 2) (g6 2)) rfl) (V4 0 f7))
  (xss (pss_cons (xs (ps_set (i := 3) w8.nd rfl (Or.inl rfl) (xe (pe_ifExp (xt (pt_cmpR (Z1 (huN hr (by decide))) (pe_dget (huN hr (by decide)) (pv 0) pe_str (fun _ _ => rfl)) (pe_lst pa_nil) (nomark _)) (V6 0)) (xe (pe_ix (s8 (huN hr (by decide))) (pe_dget (huN hr (by decide)) (pv 0) pe_str (fun _ _ => rfl)) (xe (pe_op N5 (xe (pe_callTy call_int1 (by rfl) T.b_int (by rfl) (xa (pa_cons (xe (pv 2) (g6 2)) (xa pa_nil g5)) (c0 f7 e8))) (K7 a1f e8)) (xe (pe_callB call_len (by rfl) T.b_len (by rfl) (pa_cons (pe_dget (huN hr (by decide)) (pv 0) pe_str (fun _ _ => rfl)) pa_nil)) (W2 0))) (j9 a1m f7 f7)) (fun _ _ => rfl)) (a1W 0 f7)) (xe pe_int i0)) (a8d A5 f7 f7))) (o7 f7 (i5 3)))
  (xss (pss_cons (xs (ps_set (i := 4) w8.nd rfl (Or.inl rfl) (xe (pe_op N5 (xe (pe_callTy call_int1 (by rfl) T.b_int (by rfl) (xa (pa_cons (xe (pe_op U9 (xe (pe_op q9 (xe (pe_op q9 (xe (pe_op N5 (xe (pe_callTy call_int1 (by rfl) T.b_int (by rfl) (xa (pa_cons (xe (pv 3) (g6 3)) (xa pa_nil g5)) (c0 f7 e8))) (K7 a1f e8)) (xe pe_int i0)) (j9 a1m f7 f7)) (xe (pe_op a1C (xe pe_int i0) (xe (pv 2) (g6 2))) (j9 a7J f7 f7))) (j9 D8 f7 f7)) (xe pe_int i0)) (j9 D8 f7 f7)) (xe pe_int i0)) (j9 a3J f7 f7)) (xa pa_nil g5)) (c0 f7 e8))) (K7 a1f e8)) (xe pe_int i0)) (j9 a1m f7 f7))) (o7 f7 (i5 4)))
  (xss (pss_one (xs (ps_ret (xe (pe_op N5 (xe (pe_callTy call_int1 (by rfl) T.b_int (by rfl) (xa (pa_cons (xe (pe_op a1v (xe (pe_op N5 (xe (pe_callTy call_int1 (by rfl) T.b_int (by rfl) (xa (pa_cons (xe (pe_op U9 (xe (pe_op q9 (xe (pv 4) (g6 4)) (xe (pe_op a1C (xe pe_int i0) (xe (pv 2) (g6 2))) (j9 a7J f7 f7))) (j9 D8 f7 f7)) (xe pe_int i0)) (j9 a3J f7 f7)) (xa pa_nil g5)) (c0 f7 e8))) (K7 a1f e8)) (xe pe_int i0)) (j9 a1m f7 f7)) (xe pe_int i0)) (j9 a7f f7 f7)) (xa pa_nil g5)) (c0 f7 e8))) (K7 a1f e8)) (xe (pv 1) (g6 1))) (j9 a1m f7 f7))) (z8 f7))) g8)) (i6 g8 g8))) (i6 g8 g8))) (i6 g8 g8))) (i6 g8 g8))) (i6 g8 g8))) (i6 g8 g8)),
  Q9 g8 h⟩
theorem Y7 : FnScope ["_law_state", "_law_several"] ["_law_state", "_law_several"] (defScope s__law_pick) := ⟨rfl, rfl, rfl, by decide +kernel, rfl, by decide +kernel, by decide +kernel⟩
theorem a05 {f : Addr} {fd : FuncData} (D : J8 K mg "_law_pick" s__law_pick ["_law_state", "_law_several"] f fd) (T : Txt K mg w E_BadBook E_BadChoice E_BadLot E_BadNumber E_BadPlan E_BadPlans E_BadRule E_BadRules E_BadSide E_BadTable E_BadText E_BadThing E_NoPlans E_NoRule E_NotEven E_NotSo E_NothingDone E_OtherThings E_PlanError E_TooMany P) {f__law_draw : Addr} {fd__law_draw : FuncData} (D__law_draw : J8 K mg "_law_draw" s__law_draw ["_law_state", "_law_size"] f__law_draw fd__law_draw) (G__law_draw : FnG P w K mg base 1 f__law_draw fd__law_draw ["_law_state", "_law_size"] (spF ⟨K, mg, w⟩ C6)) :
  FnG P w K mg base 2 f fd ["_law_state", "_law_several"] (spF ⟨K, mg, w⟩ w6) := by
 refine Fun.okG D.F Y7 S0 (fun cdv A fr s H vs Q E hgd hr h => ?_)
 have tk := takes_of (X := cxOf (L2.CX P w) P w K mg base ["_law_state", "_law_several"] "_law_pick" (defScope s__law_pick) f cdv A fr s H E) (E := E) rfl rfl rfl rfl
 exact ⟨tSf ⟨K, mg, w⟩ (WB E) J0, (xss (pss_one (xs (ps_ret (xe (pe_ix (s8 (huN hr (by decide))) (xe (pv 1) (g6 1)) (xe (pe_callG G__law_draw hgd (hr.mono (by decide)) (by rfl) D__law_draw.g D__law_draw.F.kp D__law_draw.b (fun σ => passAt (W := WB E) tk σ) (xa (pa_cons (xe (pv 0) (g6 0)) (xa (pa_cons (xe (pe_callB Y1 (by rfl) T.b_len (by rfl) (xa (pa_cons (xe (pv 1) (g6 1)) (xa pa_nil g5)) (c0 f7 e8))) (K7 a6O e8)) (xa pa_nil g5)) (c0 f7 e8))) (c0 f7 e8))) (N8 e8)) (fun _ _ => rfl)) (j9 a09 f7 f7))) (z8 f7))) g8),
  Q9 g8 h⟩
theorem J9 : FnScope ["_law_state", "_law_several"] ["_law_state"] (defScope s__law_odd) := ⟨rfl, rfl, rfl, by decide +kernel, rfl, by decide +kernel, by decide +kernel⟩
theorem a0y {f : Addr} {fd : FuncData} (D : J8 K mg "_law_odd" s__law_odd ["_law_state"] f fd) (T : Txt K mg w E_BadBook E_BadChoice E_BadLot E_BadNumber E_BadPlan E_BadPlans E_BadRule E_BadRules E_BadSide E_BadTable E_BadText E_BadThing E_NoPlans E_NoRule E_NotEven E_NotSo E_NothingDone E_OtherThings E_PlanError E_TooMany P) {f__law_pick : Addr} {fd__law_pick : FuncData} (D__law_pick : J8 K mg "_law_pick" s__law_pick ["_law_state", "_law_several"] f__law_pick fd__law_pick) (G__law_pick : FnG P w K mg base 2 f__law_pick fd__law_pick ["_law_state", "_law_several"] (spF ⟨K, mg, w⟩ w6)) :
  FnG P w K mg base 3 f fd ["_law_state"] (spF ⟨K, mg, w⟩ A8) := by
 refine Fun.okG D.F J9 S0 (fun cdv A fr s H vs Q E hgd hr h => ?_)
 have tk := takes_of (X := cxOf (L2.CX P w) P w K mg base ["_law_state", "_law_several"] "_law_odd" (defScope s__law_odd) f cdv A fr s H E) (E := E) rfl rfl rfl rfl
 exact ⟨tSf ⟨K, mg, w⟩ (WB E) O0, (xss (pss_cons (xs (ps_set (i := 1) J9.nd rfl (Or.inl rfl) (xe (pe_lst (xa (pa_cons (xe pe_non a4J) (xa (pa_cons (xe pe_int i0) (xa (pa_cons (xe pe_int i0) (xa (pa_cons (xe pe_bl S4) (xa (pa_cons (xe pe_bl S4) (xa (pa_cons (xe (pe_un a5X (xe pe_int i0)) (a94 a9i f7)) (xa (pa_cons (xe pe_str u4) (xa (pa_cons (xe pe_str u4) (xa (pa_cons (xe pe_str u4) (xa (pa_cons (xe (i3 (xa pa_nil g5)) (m5 e8)) (xa (pa_cons (xe (pe_lst (xa pa_nil g5)) (t7 e8)) (xa (pa_cons (xe pe_dnewK a5a) (xa (pa_cons (xe (i3 (xa (pa_cons (xe (i3 (xa (pa_cons (xe pe_str u4) (xa (pa_cons (xe pe_int i0) (xa pa_nil g5)) (c0 f7 e8))) (c0 f7 e8))) (m5 e8)) (xa pa_nil g5)) (c0 f7 e8))) (m5 e8)) (xa (pa_cons (xe (pe_lst (xa (pa_cons (xe (i3 (xa (pa_cons (xe pe_str u4) (xa (pa_cons (xe pe_int i0) (xa pa_nil g5)) (c0 f7 e8))) (c0 f7 e8))) (m5 e8)) (xa pa_nil g5)) (c0 f7 e8))) (t7 e8)) (xa (pa_cons (xe (i3 (xa (pa_cons (xe (i3 (xa (pa_cons (xe pe_str u4) (xa (pa_cons (xe pe_int i0) (xa pa_nil g5)) (c0 f7 e8))) (c0 f7 e8))) (m5 e8)) (xa (pa_cons (xe (i3 (xa (pa_cons (xe pe_str u4) (xa (pa_cons (xe pe_int i0) (xa pa_nil g5)) (c0 f7 e8))) (c0 f7 e8))) (m5 e8)) (xa pa_nil g5)) (c0 f7 e8))) (c0 f7 e8))) (m5 e8)) (xa (pa_cons (xe (i3 (xa (pa_cons (xe (i3 (xa pa_nil g5)) (m5 e8)) (xa (pa_cons (xe (i3 (xa pa_nil g5)) (m5 e8)) (xa pa_nil g5)) (c0 f7 e8))) (c0 f7 e8))) (m5 e8)) (xa pa_nil g5)) (c0 f7 e8))) (c0 f7 e8))) (c0 f7 e8))) (c0 f7 e8))) (c0 f7 e8))) (c0 f7 e8))) (c0 f7 e8))) (c0 f7 e8))) (c0 f7 e8))) (c0 f7 e8))) (c0 f7 e8))) (c0 f7 e8))) (c0 f7 e8))) (c0 f7 e8))) (c0 f7 e8))) (c0 f7 e8))) (t7 e8))) (o7 f7 (i5 1)))
  (xss (pss_cons (xs (ps_set (i := 1) J9.nd rfl (Or.inl rfl) (xe (pe_op q9 (xe (pv 1) (g6 1)) (xe (pe_lst (xa (pa_cons (xe (i3 (xa (pa_cons (xe (i3 (xa (pa_cons (xe pe_str u4) (xa (pa_cons (xe pe_int i0) (xa pa_nil g5)) (c0 f7 e8))) (c0 f7 e8))) (m5 e8)) (xa (pa_cons (xe (i3 (xa (pa_cons (xe pe_str u4) (xa (pa_cons (xe pe_int i0) (xa pa_nil g5)) (c0 f7 e8))) (c0 f7 e8))) (m5 e8)) (xa pa_nil g5)) (c0 f7 e8))) (c0 f7 e8))) (m5 e8)) (xa (pa_cons (xe (i3 (xa (pa_cons (xe (i3 (xa (pa_cons (xe pe_str u4) (xa (pa_cons (xe pe_int i0) (xa pa_nil g5)) (c0 f7 e8))) (c0 f7 e8))) (m5 e8)) (xa (pa_cons (xe (i3 (xa (pa_cons (xe pe_str u4) (xa (pa_cons (xe pe_int i0) (xa pa_nil g5)) (c0 f7 e8))) (c0 f7 e8))) (m5 e8)) (xa pa_nil g5)) (c0 f7 e8))) (c0 f7 e8))) (m5 e8)) (xa (pa_cons (xe (i3 (xa (pa_cons (xe (i3 (xa (pa_cons (xe pe_str u4) (xa (pa_cons (xe pe_bl S4) (xa pa_nil g5)) (c0 f7 e8))) (c0 f7 e8))) (m5 e8)) (xa pa_nil g5)) (c0 f7 e8))) (m5 e8)) (xa (pa_cons (xe (i3 (xa (pa_cons (xe (i3 (xa (pa_cons (xe pe_str u4) (xa (pa_cons (xe pe_int i0) (xa pa_nil g5)) (c0 f7 e8))) (c0 f7 e8))) (m5 e8)) (xa pa_nil g5)) (c0 f7 e8))) (m5 e8)) (xa (pa_cons (xe (i3 (xa (pa_cons (xe pe_str u4) (xa (pa_cons (xe pe_int i0) (xa pa_nil g5)) (c0 f7 e8))) (c0 f7 e8))) (m5 e8)) (xa (pa_cons (xe (i3 (xa (pa_cons (xe (i3 (xa (pa_cons (xe pe_str u4) (xa pa_nil g5)) (c0 f7 e8))) (m5 e8)) (xa pa_nil g5)) (c0 f7 e8))) (m5 e8)) (xa (pa_cons (xe (i3 (xa (pa_cons (xe pe_int i0) (xa pa_nil g5)) (c0 f7 e8))) (m5 e8)) (xa pa_nil g5)) (c0 f7 e8))) (c0 f7 e8))) (c0 f7 e8))) (c0 f7 e8))) (c0 f7 e8))) (c0 f7 e8))) (c0 f7 e8))) (t7 e8))) (j9 D8 f7 f7))) (o7 f7 (i5 1)))
  (xss (pss_one (xs (ps_ret (xe (pe_callG G__law_pick hgd (hr.mono (by decide)) (by rfl) D__law_pick.g D__law_pick.F.kp D__law_pick.b (fun σ => passAt (W := WB E) tk σ) (xa (pa_cons (xe (pv 0) (g6 0)) (xa (pa_cons (xe (pe_op q9 (xe (pv 1) (g6 1)) (xe (pe_lst (xa (pa_cons (xe (i3 (xa (pa_cons (xe (pe_lst (xa (pa_cons (xe pe_str u4) (xa (pa_cons (xe pe_int i0) (xa pa_nil g5)) (c0 f7 e8))) (c0 f7 e8))) (t7 e8)) (xa pa_nil g5)) (c0 f7 e8))) (m5 e8)) (xa (pa_cons (xe (i3 (xa (pa_cons (xe (i3 (xa (pa_cons (xe pe_str u4) (xa (pa_cons (xe pe_int i0) (xa pa_nil g5)) (c0 f7 e8))) (c0 f7 e8))) (m5 e8)) (xa pa_nil g5)) (c0 f7 e8))) (m5 e8)) (xa (pa_cons (xe (i3 (xa (pa_cons (xe (i3 (xa (pa_cons (xe pe_str u4) (xa (pa_cons (xe pe_int i0) (xa pa_nil g5)) (c0 f7 e8))) (c0 f7 e8))) (m5 e8)) (xa pa_nil g5)) (c0 f7 e8))) (m5 e8)) (xa (pa_cons (xe (i3 (xa (pa_cons (xe (i3 (xa (pa_cons (xe pe_str u4) (xa (pa_cons (xe pe_non a4J) (xa pa_nil g5)) (c0 f7 e8))) (c0 f7 e8))) (m5 e8)) (xa pa_nil g5)) (c0 f7 e8))) (m5 e8)) (xa (pa_cons (xe (pe_disp (trs := ((tE ⟨K, mg, w⟩ W0 (fC (.str "a")), tE ⟨K, mg, w⟩ W0 (fC (.int 0))) :: [])) (pps_cons (xe pe_str u4) (xe pe_int i0) pps_nil) (by rfl) (by rfl) (fun z => by cases z) (by decide)) (a5I (.cons f7 f7 .nil))) (xa (pa_cons (xe (i3 (xa (pa_cons (xe (i3 (xa (pa_cons (xe (i3 (xa (pa_cons (xe pe_str u4) (xa (pa_cons (xe pe_int i0) (xa pa_nil g5)) (c0 f7 e8))) (c0 f7 e8))) (m5 e8)) (xa pa_nil g5)) (c0 f7 e8))) (m5 e8)) (xa (pa_cons (xe (i3 (xa pa_nil g5)) (m5 e8)) (xa pa_nil g5)) (c0 f7 e8))) (c0 f7 e8))) (m5 e8)) (xa pa_nil g5)) (c0 f7 e8))) (c0 f7 e8))) (c0 f7 e8))) (c0 f7 e8))) (c0 f7 e8))) (c0 f7 e8))) (t7 e8))) (j9 D8 f7 f7)) (xa pa_nil g5)) (c0 f7 e8))) (c0 f7 e8))) (N8 e8))) (z8 f7))) g8)) (i6 g8 g8))) (i6 g8 g8)),
  Q9 g8 h⟩
theorem s6 : FnScope ["_law_error", "_law_found"] ["_law_error"] (defScope s__law_marks) := ⟨rfl, rfl, rfl, by decide +kernel, rfl, by decide +kernel, by decide +kernel⟩
theorem W8 {f : Addr} {fd : FuncData} (D : J8 K mg "_law_marks" s__law_marks ["_law_error"] f fd) (T : Txt K mg w E_BadBook E_BadChoice E_BadLot E_BadNumber E_BadPlan E_BadPlans E_BadRule E_BadRules E_BadSide E_BadTable E_BadText E_BadThing E_NoPlans E_NoRule E_NotEven E_NotSo E_NothingDone E_OtherThings E_PlanError E_TooMany P) :
  FnG P w K mg base 1 f fd ["_law_error"] (spF ⟨K, mg, w⟩ x8) := by
 refine Fun.okG D.F s6 S0 (fun cdv A fr s H vs Q E hgd hr h => ?_)
 have tk := takes_of (X := cxOf (L2.CX P w) P w K mg base ["_law_error", "_law_found"] "_law_marks" (defScope s__law_marks) f cdv A fr s H E) (E := E) rfl rfl rfl rfl
 exact ⟨tSf ⟨K, mg, w⟩ (WB E) F5, (xss (pss_cons (xs (ps_set (i := 1) s6.nd rfl (Or.inl rfl) (xe (pe_lst (xa (pa_cons (xe (pe_callB i4 (by rfl) T.b_isinstance (by rfl) (pa_cons (xe (pv 0) (g6 0)) (pa_cons (pe_glob (v := .ref E_BadPlan) (by rfl) T.e_BadPlan rfl) pa_nil))) (k8 T.E (by decide +kernel) T.e_BadPlan f7)) (xa (pa_cons (xe (pe_callB i4 (by rfl) T.b_isinstance (by rfl) (pa_cons (xe (pv 0) (g6 0)) (pa_cons (pe_glob (v := .ref E_BadNumber) (by rfl) T.e_BadNumber rfl) pa_nil))) (k8 T.E (by decide +kernel) T.e_BadNumber f7)) (xa (pa_cons (xe (pe_callB i4 (by rfl) T.b_isinstance (by rfl) (pa_cons (xe (pv 0) (g6 0)) (pa_cons (pe_glob (v := .ref E_BadSide) (by rfl) T.e_BadSide rfl) pa_nil))) (k8 T.E (by decide +kernel) T.e_BadSide f7)) (xa pa_nil g5)) (c0 f7 e8))) (c0 f7 e8))) (c0 f7 e8))) (t7 e8))) (o7 f7 (i5 1)))
  (xss (pss_cons (xs (ps_set (i := 1) s6.nd rfl (Or.inl rfl) (xe (pe_op q9 (xe (pv 1) (g6 1)) (xe (pe_lst (xa (pa_cons (xe (pe_callB i4 (by rfl) T.b_isinstance (by rfl) (pa_cons (xe (pv 0) (g6 0)) (pa_cons (pe_glob (v := .ref E_BadRule) (by rfl) T.e_BadRule rfl) pa_nil))) (k8 T.E (by decide +kernel) T.e_BadRule f7)) (xa (pa_cons (xe (pe_callB i4 (by rfl) T.b_isinstance (by rfl) (pa_cons (xe (pv 0) (g6 0)) (pa_cons (pe_glob (v := .ref E_NoPlans) (by rfl) T.e_NoPlans rfl) pa_nil))) (k8 T.E (by decide +kernel) T.e_NoPlans f7)) (xa (pa_cons (xe (pe_callB i4 (by rfl) T.b_isinstance (by rfl) (pa_cons (xe (pv 0) (g6 0)) (pa_cons (pe_glob (v := .ref E_BadLot) (by rfl) T.e_BadLot rfl) pa_nil))) (k8 T.E (by decide +kernel) T.e_BadLot f7)) (xa pa_nil g5)) (c0 f7 e8))) (c0 f7 e8))) (c0 f7 e8))) (t7 e8))) (j9 D8 f7 f7))) (o7 f7 (i5 1)))
  (xss (pss_cons (xs (ps_set (i := 1) s6.nd rfl (Or.inl rfl) (xe (pe_op q9 (xe (pv 1) (g6 1)) (xe (pe_lst (xa (pa_cons (xe (pe_callB i4 (by rfl) T.b_isinstance (by rfl) (pa_cons (xe (pv 0) (g6 0)) (pa_cons (pe_glob (v := .ref E_OtherThings) (by rfl) T.e_OtherThings rfl) pa_nil))) (k8 T.E (by decide +kernel) T.e_OtherThings f7)) (xa (pa_cons (xe (pe_callB i4 (by rfl) T.b_isinstance (by rfl) (pa_cons (xe (pv 0) (g6 0)) (pa_cons (pe_glob (v := .ref E_NotSo) (by rfl) T.e_NotSo rfl) pa_nil))) (k8 T.E (by decide +kernel) T.e_NotSo f7)) (xa (pa_cons (xe (pe_callB i4 (by rfl) T.b_isinstance (by rfl) (pa_cons (xe (pv 0) (g6 0)) (pa_cons (pe_glob (v := .ref E_NotEven) (by rfl) T.e_NotEven rfl) pa_nil))) (k8 T.E (by decide +kernel) T.e_NotEven f7)) (xa pa_nil g5)) (c0 f7 e8))) (c0 f7 e8))) (c0 f7 e8))) (t7 e8))) (j9 D8 f7 f7))) (o7 f7 (i5 1)))
  (xss (pss_cons (xs (ps_set (i := 1) s6.nd rfl (Or.inl rfl) (xe (pe_op q9 (xe (pv 1) (g6 1)) (xe (pe_lst (xa (pa_cons (xe (pe_callB i4 (by rfl) T.b_isinstance (by rfl) (pa_cons (xe (pv 0) (g6 0)) (pa_cons (pe_glob (v := .ref E_NothingDone) (by rfl) T.e_NothingDone rfl) pa_nil))) (k8 T.E (by decide +kernel) T.e_NothingDone f7)) (xa (pa_cons (xe (pe_callB i4 (by rfl) T.b_isinstance (by rfl) (pa_cons (xe (pv 0) (g6 0)) (pa_cons (pe_glob (v := .ref E_BadPlans) (by rfl) T.e_BadPlans rfl) pa_nil))) (k8 T.E (by decide +kernel) T.e_BadPlans f7)) (xa (pa_cons (xe (pe_callB i4 (by rfl) T.b_isinstance (by rfl) (pa_cons (xe (pv 0) (g6 0)) (pa_cons (pe_glob (v := .ref E_BadRules) (by rfl) T.e_BadRules rfl) pa_nil))) (k8 T.E (by decide +kernel) T.e_BadRules f7)) (xa pa_nil g5)) (c0 f7 e8))) (c0 f7 e8))) (c0 f7 e8))) (t7 e8))) (j9 D8 f7 f7))) (o7 f7 (i5 1)))
  (xss (pss_cons (xs (ps_set (i := 1) s6.nd rfl (Or.inl rfl) (xe (pe_op q9 (xe (pv 1) (g6 1)) (xe (pe_lst (xa (pa_cons (xe (pe_callB i4 (by rfl) T.b_isinstance (by rfl) (pa_cons (xe (pv 0) (g6 0)) (pa_cons (pe_glob (v := .ref E_BadBook) (by rfl) T.e_BadBook rfl) pa_nil))) (k8 T.E (by decide +kernel) T.e_BadBook f7)) (xa (pa_cons (xe (pe_callB i4 (by rfl) T.b_isinstance (by rfl) (pa_cons (xe (pv 0) (g6 0)) (pa_cons (pe_glob (v := .ref E_BadThing) (by rfl) T.e_BadThing rfl) pa_nil))) (k8 T.E (by decide +kernel) T.e_BadThing f7)) (xa (pa_cons (xe (pe_callB i4 (by rfl) T.b_isinstance (by rfl) (pa_cons (xe (pv 0) (g6 0)) (pa_cons (pe_glob (v := .ref E_NoRule) (by rfl) T.e_NoRule rfl) pa_nil))) (k8 T.E (by decide +kernel) T.e_NoRule f7)) (xa pa_nil g5)) (c0 f7 e8))) (c0 f7 e8))) (c0 f7 e8))) (t7 e8))) (j9 D8 f7 f7))) (o7 f7 (i5 1)))
  (xss (pss_cons (xs (ps_set (i := 1) s6.nd rfl (Or.inl rfl) (xe (pe_op q9 (xe (pv 1) (g6 1)) (xe (pe_lst (xa (pa_cons (xe (pe_callB i4 (by rfl) T.b_isinstance (by rfl) (pa_cons (xe (pv 0) (g6 0)) (pa_cons (pe_glob (v := .ref E_TooMany) (by rfl) T.e_TooMany rfl) pa_nil))) (k8 T.E (by decide +kernel) T.e_TooMany f7)) (xa (pa_cons (xe (pe_callB i4 (by rfl) T.b_isinstance (by rfl) (pa_cons (xe (pv 0) (g6 0)) (pa_cons (pe_glob (v := .ref E_BadTable) (by rfl) T.e_BadTable rfl) pa_nil))) (k8 T.E (by decide +kernel) T.e_BadTable f7)) (xa (pa_cons (xe (pe_callB i4 (by rfl) T.b_isinstance (by rfl) (pa_cons (xe (pv 0) (g6 0)) (pa_cons (pe_glob (v := .ref E_BadText) (by rfl) T.e_BadText rfl) pa_nil))) (k8 T.E (by decide +kernel) T.e_BadText f7)) (xa pa_nil g5)) (c0 f7 e8))) (c0 f7 e8))) (c0 f7 e8))) (t7 e8))) (j9 D8 f7 f7))) (o7 f7 (i5 1)))
  (xss (pss_one (xs (ps_ret (xe (pe_op q9 (xe (pv 1) (g6 1)) (xe (pe_lst (xa (pa_cons (xe (pe_callB i4 (by rfl) T.b_isinstance (by rfl) (pa_cons (xe (pv 0) (g6 0)) (pa_cons (pe_glob (v := .ref E_BadChoice) (by rfl) T.e_BadChoice rfl) pa_nil))) (k8 T.E (by decide +kernel) T.e_BadChoice f7)) (xa pa_nil g5)) (c0 f7 e8))) (t7 e8))) (j9 D8 f7 f7))) (z8 f7))) g8)) (i6 g8 g8))) (i6 g8 g8))) (i6 g8 g8))) (i6 g8 g8))) (i6 g8 g8))) (i6 g8 g8)),
  Q9 g8 h⟩
theorem v8 : FnScope ["_law_errors", "_law_spot", "_law_error", "_law_k"] ["_law_errors"] (defScope s__law_apart) := ⟨rfl, rfl, rfl, by decide +kernel, rfl, by decide +kernel, by decide +kernel⟩
theorem W5 {f : Addr} {fd : FuncData} (D : J8 K mg "_law_apart" s__law_apart ["_law_errors"] f fd) (T : Txt K mg w E_BadBook E_BadChoice E_BadLot E_BadNumber E_BadPlan E_BadPlans E_BadRule E_BadRules E_BadSide E_BadTable E_BadText E_BadThing E_NoPlans E_NoRule E_NotEven E_NotSo E_NothingDone E_OtherThings E_PlanError E_TooMany P) {f__law_marks : Addr} {fd__law_marks : FuncData} (D__law_marks : J8 K mg "_law_marks" s__law_marks ["_law_error"] f__law_marks fd__law_marks) (G__law_marks : FnG P w K mg base 1 f__law_marks fd__law_marks ["_law_error"] (spF ⟨K, mg, w⟩ x8)) :
  FnG P w K mg base 2 f fd ["_law_errors"] (spF ⟨K, mg, w⟩ u7) := by
 refine Fun.okG D.F v8 S0 (fun cdv A fr s H vs Q E hgd hr h => ?_)
 have tk := takes_of (X := cxOf (L2.CX P w) P w K mg base ["_law_errors", "_law_spot", "_law_error", "_law_k"] "_law_apart" (defScope s__law_apart) f cdv A fr s H E) (E := E) rfl rfl rfl rfl
 exact ⟨tSf ⟨K, mg, w⟩ (WB E) F6, (xss (pss_cons (xs (ps_for (passes_of rfl) rfl (xi (a44 (by rfl) T.b_enumerate (xa (pa_cons (xe (pv 0) (g6 0)) (xa pa_nil g5)) (c0 f7 e8))) (a1E e8)) (pg_tup rfl (pgs_cons (pg_name (i := 1) v8.nd rfl (Or.inr rfl)) (pgs_cons (pg_name (i := 2) v8.nd rfl (Or.inl rfl)) pgs_nil)))
  (xss (pss_cons (xs (ps_if (xt (pt_cmpR (Z1 (huN hr (by decide))) (xe (pe_callG G__law_marks hgd (hr.mono (by decide)) (by rfl) D__law_marks.g D__law_marks.F.kp D__law_marks.b (fun σ => passAt (W := WB E) tk σ) (xa (pa_cons (xe (pv 2) (g6 2)) (xa pa_nil g5)) (c0 f7 e8))) (N8 e8)) (xe (pe_lc (own := [("_law_k", 3)]) (g := (gName 3)) (tt := tT ⟨K, mg, w⟩ W0 a6c) (te := tE ⟨K, mg, w⟩ W0 (fOp oEq (k4 3) (k4 1))) rfl v8.nd (xiZ (pi_range1 (by rfl) T.b_range (xa (pa_cons (xe pe_int i0) (xa pa_nil g5)) (c0 f7 e8))) (a3f a0W e8)) (blkOk_by (by kernel_rfl)) (fun _ _ _ _ _ => (pg_name (i := 3) v8.nd rfl (Or.inl rfl))) (fun _ _ _ _ _ => (xts pts_nil a2c)) (fun _ _ _ _ _ => (xe (pe_cmpR (a4X (huN hr (by decide))) (xe (pv 3) (g6 3)) (xe (pv 1) (g6 1)) (nomark _)) (j9 a9D f7 f7)))) (a7x (w := false) a6r (i5 3) A5 f7 (by decide))) (nomark _)) (v5 (j9 a8e f7 f7)))
  (xss (pss_one (xs (ps_ret (xe pe_bl S4)) (z8 f7))) g8)
  (xss pss_nil H7)) (T2 A5 g8 g8))
  (xss (pss_one (xs (ps_if (xt ((pw_or (xt (pt_not (xt (pt_val (xe (pe_callB i4 (by rfl) T.b_isinstance (by rfl) (pa_cons (xe (pv 2) (g6 2)) (pa_cons (pe_glob (v := .ref E_PlanError) (by rfl) T.e_PlanError rfl) pa_nil))) (k8 T.E (by decide +kernel) T.e_PlanError f7))) (v5 f7))) (V8 A5)) (pw_or1 (xt (pt_not (xt (pt_val (xe (pe_callB i4 (by rfl) T.b_isinstance (by rfl) (pa_cons (xe (pv 2) (g6 2)) (pa_cons (pe_bltn (v := .ty "ValueError") (u := .type "ValueError") (by rfl) T.b_ValueError (by rfl) rfl) pa_nil))) (a42 T.E f7))) (v5 f7))) (V8 A5))))).pt (a2L A5 A5))
  (xss (pss_one (xs (ps_ret (xe pe_bl S4)) (z8 f7))) g8)
  (xss pss_nil H7)) (T2 A5 g8 g8))) g8)) (i6 g8 g8))) (a2p (w := true) a6C (a50 (Y8 (i5 1) (Y8 (i5 2) a4h))) g8))
  (xss (pss_one (xs (ps_ret (xe pe_bl S4)) (z8 f7))) g8)) (i6 g8 g8)),
  Q9 g8 h⟩
theorem E8 : FnScope ["_law_script", "_law_state", "_law_turn", "_law_odd_here", "_law_plain", "_law_told", "_law_due", "_law_named"] ["_law_script"] (defScope s_law) := ⟨rfl, rfl, rfl, by decide +kernel, rfl, by decide +kernel, by decide +kernel⟩
theorem a6y {f : Addr} {fd : FuncData} (D : J8 K mg "law" s_law ["_law_script"] f fd) (T : Txt K mg w E_BadBook E_BadChoice E_BadLot E_BadNumber E_BadPlan E_BadPlans E_BadRule E_BadRules E_BadSide E_BadTable E_BadText E_BadThing E_NoPlans E_NoRule E_NotEven E_NotSo E_NothingDone E_OtherThings E_PlanError E_TooMany P) {f_b : Addr} {fd_b : FuncData} (D_b : J8 K mg "_law_begun" s__law_begun ["_law_script"] f_b fd_b) (G_b : FnG P w K mg base 1 f_b fd_b ["_law_script"] (W6 ⟨K, mg, w⟩)) (right : P7 6 a27) {f__law_odd : Addr} {fd__law_odd : FuncData} (D__law_odd : J8 K mg "_law_odd" s__law_odd ["_law_state"] f__law_odd fd__law_odd) (G__law_odd : FnG P w K mg base 3 f__law_odd fd__law_odd ["_law_state"] (spF ⟨K, mg, w⟩ A8)) {f__law_apart : Addr} {fd__law_apart : FuncData} (D__law_apart : J8 K mg "_law_apart" s__law_apart ["_law_errors"] f__law_apart fd__law_apart) (G__law_apart : FnG P w K mg base 2 f__law_apart fd__law_apart ["_law_errors"] (spF ⟨K, mg, w⟩ u7)) :
  FnG P w K mg base 4 f fd ["_law_script"] (a1g ⟨K, mg, w⟩) := by
 refine Fun.okG D.F E8 (fun vs H Q E h => by obtain ⟨a, ns, rfl, _⟩ := h; rfl) (fun cdv A fr s H vs Q E hgd hr h => ?_)
 have tk := takes_of (X := cxOf (L2.CX P w) P w K mg base ["_law_script", "_law_state", "_law_turn", "_law_odd_here", "_law_plain", "_law_told", "_law_due", "_law_named"] "law" (defScope s_law) f cdv A fr s H E) (E := E) rfl rfl rfl rfl
 exact ⟨_, pss_cons (ps_set (i := 1) E8.nd rfl (Or.inl rfl) (pe_callG G_b hgd (hr.mono (by decide)) (by rfl) D_b.g D_b.F.kp D_b.b (fun σ => passAt (W := WB E) tk σ) (pa_cons (pv 0) pa_nil)))
  (xss (pss_cons (xs (ps_for (passes_of rfl) rfl (xi (pi_range1 (by rfl) T.b_range (xa (pa_cons (xe (pe_op q9 (xe pe_int i0) (xe (pe_callB (call_min2 rfl) (by rfl) T.b_min (by rfl) (xa (pa_cons (xe (pe_callB Y1 (by rfl) T.b_len (by rfl) (xa (pa_cons (xe (pv 0) (g6 0)) (xa pa_nil g5)) (c0 f7 e8))) (K7 a6O e8)) (xa (pa_cons (xe pe_int i0) (xa pa_nil g5)) (c0 f7 e8))) (c0 f7 e8))) (K7 a7G e8))) (j9 D8 f7 f7)) (xa pa_nil g5)) (c0 f7 e8))) (a0W e8)) (pg_name (i := 2) E8.nd rfl (Or.inl rfl))
  (xss (pss_cons (xs (ps_set (i := 3) E8.nd rfl (Or.inl rfl) (xe (pe_callG G__law_odd hgd (hr.mono (by decide)) (by rfl) D__law_odd.g D__law_odd.F.kp D__law_odd.b (fun σ => passAt (W := WB E) tk σ) (xa (pa_cons (xe (pv 1) (g6 1)) (xa pa_nil g5)) (c0 f7 e8))) (N8 e8))) (o7 f7 (i5 3)))
  (xss (pss_cons (xs (ps_set (i := 4) E8.nd rfl (Or.inl rfl) (xe (pe_lst (xa (pa_cons (xe (o6 rfl (pmk_own PySem.F.excBase_ValueError T.x_BadPlan T.e_BadPlan T.k_BadPlan (raises_own T.s_BadPlan T.y_BadPlan) (by rfl))) (E5 T.e_BadPlan)) (xa (pa_cons (xe (o6 rfl (pmk_own PySem.F.excBase_ValueError T.x_BadNumber T.e_BadNumber T.k_BadNumber (raises_own T.s_BadNumber T.y_BadNumber) (by rfl))) (E5 T.e_BadNumber)) (xa (pa_cons (xe (o6 rfl (pmk_own PySem.F.excBase_ValueError T.x_BadSide T.e_BadSide T.k_BadSide (raises_own T.s_BadSide T.y_BadSide) (by rfl))) (E5 T.e_BadSide)) (xa (pa_cons (xe (o6 rfl (pmk_own PySem.F.excBase_ValueError T.x_BadRule T.e_BadRule T.k_BadRule (raises_own T.s_BadRule T.y_BadRule) (by rfl))) (E5 T.e_BadRule)) (xa (pa_cons (xe (o6 rfl (pmk_own PySem.F.excBase_ValueError T.x_NoPlans T.e_NoPlans T.k_NoPlans (raises_own T.s_NoPlans T.y_NoPlans) (by rfl))) (E5 T.e_NoPlans)) (xa (pa_cons (xe (o6 rfl (pmk_own PySem.F.excBase_ValueError T.x_BadLot T.e_BadLot T.k_BadLot (raises_own T.s_BadLot T.y_BadLot) (by rfl))) (E5 T.e_BadLot)) (xa (pa_cons (xe (o6 rfl (pmk_own PySem.F.excBase_ValueError T.x_OtherThings T.e_OtherThings T.k_OtherThings (raises_own T.s_OtherThings T.y_OtherThings) (by rfl))) (E5 T.e_OtherThings)) (xa pa_nil g5)) (c0 f7 e8))) (c0 f7 e8))) (c0 f7 e8))) (c0 f7 e8))) (c0 f7 e8))) (c0 f7 e8))) (c0 f7 e8))) (t7 e8))) (o7 f7 (i5 4)))
  (xss (pss_cons (xs (ps_set (i := 4) E8.nd rfl (Or.inl rfl) (xe (pe_op q9 (xe (pv 4) (g6 4)) (xe (pe_lst (xa (pa_cons (xe (o6 rfl (pmk_own PySem.F.excBase_ValueError T.x_NotSo T.e_NotSo T.k_NotSo (raises_own T.s_NotSo T.y_NotSo) (by rfl))) (E5 T.e_NotSo)) (xa (pa_cons (xe (o6 rfl (pmk_own PySem.F.excBase_ValueError T.x_NotEven T.e_NotEven T.k_NotEven (raises_own T.s_NotEven T.y_NotEven) (by rfl))) (E5 T.e_NotEven)) (xa (pa_cons (xe (o6 rfl (pmk_own PySem.F.excBase_ValueError T.x_NothingDone T.e_NothingDone T.k_NothingDone (raises_own T.s_NothingDone T.y_NothingDone) (by rfl))) (E5 T.e_NothingDone)) (xa pa_nil g5)) (c0 f7 e8))) (c0 f7 e8))) (c0 f7 e8))) (t7 e8))) (j9 D8 f7 f7))) (o7 f7 (i5 4)))
  (xss (pss_cons (xs (ps_set (i := 5) E8.nd rfl (Or.inl rfl) (xe (pe_lst (xa (pa_cons (xe (o6 rfl (X8 (k := 0) T.i_BadPlans (hr.mono (by decide)) (by rfl) T.e_BadPlans (xe (pv 3) (g6 3)))) (y0 T.e_BadPlans f7)) (xa (pa_cons (xe (o6 rfl (X8 (k := 0) T.i_BadRules (hr.mono (by decide)) (by rfl) T.e_BadRules (xe (pv 3) (g6 3)))) (y0 T.e_BadRules f7)) (xa (pa_cons (xe (o6 rfl (X8 (k := 0) T.i_BadBook (hr.mono (by decide)) (by rfl) T.e_BadBook (xe (pv 3) (g6 3)))) (y0 T.e_BadBook f7)) (xa (pa_cons (xe (o6 rfl (X8 (k := 0) T.i_BadThing (hr.mono (by decide)) (by rfl) T.e_BadThing (xe (pv 3) (g6 3)))) (y0 T.e_BadThing f7)) (xa (pa_cons (xe (o6 rfl (X8 (k := 0) T.i_NoRule (hr.mono (by decide)) (by rfl) T.e_NoRule (xe (pv 3) (g6 3)))) (y0 T.e_NoRule f7)) (xa (pa_cons (xe (o6 rfl (X8 (k := 0) T.i_TooMany (hr.mono (by decide)) (by rfl) T.e_TooMany (xe (pv 3) (g6 3)))) (y0 T.e_TooMany f7)) (xa (pa_cons (xe (o6 rfl (X8 (k := 0) T.i_BadTable (hr.mono (by decide)) (by rfl) T.e_BadTable (xe (pv 3) (g6 3)))) (y0 T.e_BadTable f7)) (xa (pa_cons (xe (o6 rfl (X8 (k := 0) T.i_BadText (hr.mono (by decide)) (by rfl) T.e_BadText (xe (pv 3) (g6 3)))) (y0 T.e_BadText f7)) (xa pa_nil g5)) (c0 f7 e8))) (c0 f7 e8))) (c0 f7 e8))) (c0 f7 e8))) (c0 f7 e8))) (c0 f7 e8))) (c0 f7 e8))) (c0 f7 e8))) (t7 e8))) (o7 f7 (i5 5)))
  (xss (pss_cons (xs (ps_if (xt ((pw_or (xt (pt_not (xt (pt_val (xe (pe_callG G__law_apart hgd (hr.mono (by decide)) (by rfl) D__law_apart.g D__law_apart.F.kp D__law_apart.b (fun σ => passAt (W := WB E) tk σ) (xa (pa_cons (xe (pe_op q9 (xe (pe_op q9 (xe (pv 4) (g6 4)) (xe (pv 5) (g6 5))) (j9 D8 f7 f7)) (xe (pe_lst (xa (pa_cons (xe (o6 rfl (pmk_own PySem.F.excBase_ValueError T.x_BadChoice T.e_BadChoice T.k_BadChoice (raises_own T.s_BadChoice T.y_BadChoice) (by rfl))) (E5 T.e_BadChoice)) (xa pa_nil g5)) (c0 f7 e8))) (t7 e8))) (j9 D8 f7 f7)) (xa pa_nil g5)) (c0 f7 e8))) (N8 e8))) (v5 f7))) (V8 A5)) (pw_or1 (xt (pt_val (xe (pe_callB i4 (by rfl) T.b_isinstance (by rfl) (pa_cons (xe (o6 rfl (pmk_own PySem.F.excBase_ValueError T.x_PlanError T.e_PlanError T.k_PlanError (raises_own T.s_PlanError T.y_PlanError) (by rfl))) (E5 T.e_PlanError)) (pa_cons (pe_glob (v := .ref E_BadPlan) (by rfl) T.e_BadPlan rfl) pa_nil))) (k8 T.E (by decide +kernel) T.e_BadPlan f7))) (v5 f7))))).pt (a2L A5 A5))
  (xss (pss_one (xs (ps_ret (xe pe_bl S4)) (z8 f7))) g8)
  (xss pss_nil H7)) (T2 A5 g8 g8))
  (xss (pss_cons (xs (ps_set (i := 6) E8.nd rfl (Or.inl rfl) (xe (pe_lst (xa (pa_cons (xe (y9 (xe (pe_ix (s8 (huN hr (by decide))) (xe (pv 5) (g6 5)) (xe pe_int i0) (fun _ _ => rfl)) (j9 a09 f7 f7)) rfl) (y5 T.f_at f7)) (xa (pa_cons (xe (y9 (xe (pe_ix (s8 (huN hr (by decide))) (xe (pv 5) (g6 5)) (xe pe_int i0) (fun _ _ => rfl)) (j9 a09 f7 f7)) rfl) (y5 T.f_at f7)) (xa (pa_cons (xe (y9 (xe (pe_ix (s8 (huN hr (by decide))) (xe (pv 5) (g6 5)) (xe pe_int i0) (fun _ _ => rfl)) (j9 a09 f7 f7)) rfl) (y5 T.f_part f7)) (xa (pa_cons (xe (y9 (xe (pe_ix (s8 (huN hr (by decide))) (xe (pv 5) (g6 5)) (xe pe_int i0) (fun _ _ => rfl)) (j9 a09 f7 f7)) rfl) (y5 T.f_thing f7)) (xa (pa_cons (xe (y9 (xe (pe_ix (s8 (huN hr (by decide))) (xe (pv 5) (g6 5)) (xe pe_int i0) (fun _ _ => rfl)) (j9 a09 f7 f7)) rfl) (y5 T.f_at f7)) (xa (pa_cons (xe (y9 (xe (pe_ix (s8 (huN hr (by decide))) (xe (pv 5) (g6 5)) (xe pe_int i0) (fun _ _ => rfl)) (j9 a09 f7 f7)) rfl) (y5 T.f_most f7)) (xa (pa_cons (xe (y9 (xe (pe_ix (s8 (huN hr (by decide))) (xe (pv 5) (g6 5)) (xe pe_int i0) (fun _ _ => rfl)) (j9 a09 f7 f7)) rfl) (y5 T.f_name f7)) (xa (pa_cons (xe (y9 (xe (pe_ix (s8 (huN hr (by decide))) (xe (pv 5) (g6 5)) (xe pe_int i0) (fun _ _ => rfl)) (j9 a09 f7 f7)) rfl) (y5 T.f_line f7)) (xa pa_nil g5)) (c0 f7 e8))) (c0 f7 e8))) (c0 f7 e8))) (c0 f7 e8))) (c0 f7 e8))) (c0 f7 e8))) (c0 f7 e8))) (c0 f7 e8))) (t7 e8))) (o7 f7 (i5 6)))
  (xss (pss_cons (xs (ps_if (xt (pt_cmpR (Z1 (huN hr (by decide))) (xe (pe_callB (H8 hgd (huN hr (by decide))) (by rfl) T.b_repr (by rfl) (xa (pa_cons (xe (pv 6) (g6 6)) (xa pa_nil g5)) (c0 f7 e8))) (K7 V3 e8)) (xe (pe_callB (H8 hgd (huN hr (by decide))) (by rfl) T.b_repr (by rfl) (xa (pa_cons (xe (pe_op op_rep (xe (pe_lst (xa (pa_cons (xe (pv 3) (g6 3)) (xa pa_nil g5)) (c0 f7 e8))) (t7 e8)) (xe pe_int i0)) (a4m f7 f7)) (xa pa_nil g5)) (c0 f7 e8))) (K7 V3 e8)) (nomark _)) (v5 (j9 a8e f7 f7)))
  (xss (pss_one (xs (ps_ret (xe pe_bl S4)) (z8 f7))) g8)
  (xss pss_nil H7)) (T2 A5 g8 g8))
  (xss (pss_cons (xs (ps_set (i := 7) E8.nd rfl (Or.inl rfl) (xe (pe_lst (xa (pa_cons (xe (o6 rfl (O8 (k := 0) T.j_BadPlans (hr.mono (by decide)) (by rfl) T.e_BadPlans (xe (pv 3) (g6 3)))) (y0 T.e_BadPlans f7)) (xa (pa_cons (xe (o6 rfl (O8 (k := 0) T.j_BadRules (hr.mono (by decide)) (by rfl) T.e_BadRules (xe (pv 3) (g6 3)))) (y0 T.e_BadRules f7)) (xa (pa_cons (xe (o6 rfl (O8 (k := 0) T.j_BadBook (hr.mono (by decide)) (by rfl) T.e_BadBook (xe (pv 3) (g6 3)))) (y0 T.e_BadBook f7)) (xa (pa_cons (xe (o6 rfl (O8 (k := 0) T.j_BadThing (hr.mono (by decide)) (by rfl) T.e_BadThing (xe (pv 3) (g6 3)))) (y0 T.e_BadThing f7)) (xa (pa_cons (xe (o6 rfl (O8 (k := 0) T.j_NoRule (hr.mono (by decide)) (by rfl) T.e_NoRule (xe (pv 3) (g6 3)))) (y0 T.e_NoRule f7)) (xa (pa_cons (xe (o6 rfl (O8 (k := 0) T.j_TooMany (hr.mono (by decide)) (by rfl) T.e_TooMany (xe (pv 3) (g6 3)))) (y0 T.e_TooMany f7)) (xa pa_nil g5)) (c0 f7 e8))) (c0 f7 e8))) (c0 f7 e8))) (c0 f7 e8))) (c0 f7 e8))) (c0 f7 e8))) (t7 e8))) (o7 f7 (i5 7)))
  (xss (pss_cons (xs (ps_set (i := 7) E8.nd rfl (Or.inl rfl) (xe (pe_op q9 (xe (pv 7) (g6 7)) (xe (pe_lst (xa (pa_cons (xe (o6 rfl (O8 (k := 0) T.j_BadTable (hr.mono (by decide)) (by rfl) T.e_BadTable (xe (pv 3) (g6 3)))) (y0 T.e_BadTable f7)) (xa (pa_cons (xe (o6 rfl (O8 (k := 0) T.j_BadText (hr.mono (by decide)) (by rfl) T.e_BadText (xe (pv 3) (g6 3)))) (y0 T.e_BadText f7)) (xa pa_nil g5)) (c0 f7 e8))) (c0 f7 e8))) (t7 e8))) (j9 D8 f7 f7))) (o7 f7 (i5 7)))
  (xss (pss_cons (xs (ps_set (i := 6) E8.nd rfl (Or.inl rfl) (xe (pe_lst (xa (pa_cons (xe (y9 (xe (pe_ix (s8 (huN hr (by decide))) (xe (pv 7) (g6 7)) (xe pe_int i0) (fun _ _ => rfl)) (j9 a09 f7 f7)) rfl) (y5 T.f_at f7)) (xa (pa_cons (xe (y9 (xe (pe_ix (s8 (huN hr (by decide))) (xe (pv 7) (g6 7)) (xe pe_int i0) (fun _ _ => rfl)) (j9 a09 f7 f7)) rfl) (y5 T.f_at f7)) (xa (pa_cons (xe (y9 (xe (pe_ix (s8 (huN hr (by decide))) (xe (pv 7) (g6 7)) (xe pe_int i0) (fun _ _ => rfl)) (j9 a09 f7 f7)) rfl) (y5 T.f_part f7)) (xa (pa_cons (xe (y9 (xe (pe_ix (s8 (huN hr (by decide))) (xe (pv 7) (g6 7)) (xe pe_int i0) (fun _ _ => rfl)) (j9 a09 f7 f7)) rfl) (y5 T.f_thing f7)) (xa (pa_cons (xe (y9 (xe (pe_ix (s8 (huN hr (by decide))) (xe (pv 7) (g6 7)) (xe pe_int i0) (fun _ _ => rfl)) (j9 a09 f7 f7)) rfl) (y5 T.f_at f7)) (xa (pa_cons (xe (y9 (xe (pe_ix (s8 (huN hr (by decide))) (xe (pv 7) (g6 7)) (xe pe_int i0) (fun _ _ => rfl)) (j9 a09 f7 f7)) rfl) (y5 T.f_most f7)) (xa (pa_cons (xe (y9 (xe (pe_ix (s8 (huN hr (by decide))) (xe (pv 7) (g6 7)) (xe pe_int i0) (fun _ _ => rfl)) (j9 a09 f7 f7)) rfl) (y5 T.f_name f7)) (xa pa_nil g5)) (c0 f7 e8))) (c0 f7 e8))) (c0 f7 e8))) (c0 f7 e8))) (c0 f7 e8))) (c0 f7 e8))) (c0 f7 e8))) (t7 e8))) (o7 f7 (i5 6)))
  (xss (pss_one (xs (ps_if (xt ((pw_or (xt (pt_cmpR (Z1 (huN hr (by decide))) (xe (pe_callB (H8 hgd (huN hr (by decide))) (by rfl) T.b_repr (by rfl) (xa (pa_cons (xe (pe_op q9 (xe (pv 6) (g6 6)) (xe (pe_lst (xa (pa_cons (xe (y9 (xe (pe_ix (s8 (huN hr (by decide))) (xe (pv 7) (g6 7)) (xe pe_int i0) (fun _ _ => rfl)) (j9 a09 f7 f7)) rfl) (y5 T.f_line f7)) (xa pa_nil g5)) (c0 f7 e8))) (t7 e8))) (j9 D8 f7 f7)) (xa pa_nil g5)) (c0 f7 e8))) (K7 V3 e8)) (xe (pe_callB (H8 hgd (huN hr (by decide))) (by rfl) T.b_repr (by rfl) (xa (pa_cons (xe (pe_op op_rep (xe (pe_lst (xa (pa_cons (xe (pv 3) (g6 3)) (xa pa_nil g5)) (c0 f7 e8))) (t7 e8)) (xe pe_int i0)) (a4m f7 f7)) (xa pa_nil g5)) (c0 f7 e8))) (K7 V3 e8)) (nomark _)) (v5 (j9 a8e f7 f7))) (pw_or1 (xt (pt_not (xt (pt_val (xe (pe_callG G__law_apart hgd (hr.mono (by decide)) (by rfl) D__law_apart.g D__law_apart.F.kp D__law_apart.b (fun σ => passAt (W := WB E) tk σ) (xa (pa_cons (xe (pe_op q9 (xe (pv 4) (g6 4)) (xe (pv 7) (g6 7))) (j9 D8 f7 f7)) (xa pa_nil g5)) (c0 f7 e8))) (N8 e8))) (v5 f7))) (V8 A5))))).pt (a2L A5 A5))
  (xss (pss_one (xs (ps_ret (xe pe_bl S4)) (z8 f7))) g8)
  (xss pss_nil H7)) (T2 A5 g8 g8))) g8)) (i6 g8 g8))) (i6 g8 g8))) (i6 g8 g8))) (i6 g8 g8))) (i6 g8 g8))) (i6 g8 g8))) (i6 g8 g8))) (i6 g8 g8))) (i6 g8 g8))) (i6 g8 g8))) (a2p (w := false) a6C (i5 2) g8))
  (xss (pss_one (xs (ps_ret (xe pe_bl S4)) (z8 f7))) g8)) (i6 g8 g8)),
  a2B (n0 := "_law_script") (n1 := "_law_state") (Ns := ["_law_turn", "_law_odd_here", "_law_plain", "_law_told", "_law_due", "_law_named"]) g8 right h⟩
end
theorem all_mk {l : PySem.W.OpenLaw} {w : World} {K : PySem.W.Frag} {h : Heap} {mg : Str → Option Value} {fa : Addr} {cs : List (Addr × Addr)} (X : K.In h) (G : h.Ns mainGlobals mg) (hfa : mg "law" = some (.ref fa))
  {E_BadPlan : Addr}
  {E_BadPlans : Addr}
  {E_BadNumber : Addr}
  {E_BadSide : Addr}
  {E_BadRule : Addr}
  {E_BadRules : Addr}
  {E_BadBook : Addr}
  {E_BadThing : Addr}
  {E_NoPlans : Addr}
  {E_NoRule : Addr}
  {E_BadLot : Addr}
  {E_TooMany : Addr}
  {E_OtherThings : Addr}
  {E_NotSo : Addr}
  {E_NotEven : Addr}
  {E_BadTable : Addr}
  {E_NothingDone : Addr}
  {E_BadText : Addr}
  {E_BadChoice : Addr}
  {E_PlanError : Addr}
  {f0 f1 f2 f3 f4 f5 : Addr} {fd0 fd1 fd2 fd3 fd4 fd5 : FuncData}
  {f6 : Addr} {od6 an6 : Option Addr} {sl6 : Array (Option Value)} {oc6 kV6 dc6 pm6 cd6 ct6 : Value}
  (ynBadPlan : PySem.W.nsIn K mainGlobals "BadPlan" = some (some (.ref E_BadPlan)))
  (yaBadPlan : (PySem.W.clsIn K E_BadPlan).isSome = true)
  (ybBadPlan : PySem.W.findIn K (.ref E_BadPlan) "__getattribute__" = some (some (.builtin "BaseException.__getattribute__")))
  (ycBadPlan : PySem.W.findIn K (.ref E_BadPlan) "__getattr__" = some none)
  (ydBadPlan : PySem.W.subIn K (.ref E_BadPlan) (.type "BaseException") = some true)
  (yeBadPlan : PySem.W.hasDictIn K E_BadPlan = true)
  (yfBadPlan : PySem.W.findIn K (.ref E_BadPlan) "__class__" = some (some (.builtin "object.__class__")))
  (ygBadPlan : PySem.W.mroIn K E_BadPlan (.type "object") = some true)
  (yhBadPlan : PySem.W.typeIn K (.ref E_BadPlan) = some (.type "type"))
  (yiBadPlan : PySem.W.kitOne K (.ref E_BadPlan) (.type "ValueError") = some true)
  (ykBadPlan_BadPlan : PySem.W.kitOne K (.ref E_BadPlan) (.ref E_BadPlan) = some true)
  (ykBadPlan_BadPlans : PySem.W.kitOne K (.ref E_BadPlan) (.ref E_BadPlans) = some false)
  (ykBadPlan_BadNumber : PySem.W.kitOne K (.ref E_BadPlan) (.ref E_BadNumber) = some false)
  (ykBadPlan_BadSide : PySem.W.kitOne K (.ref E_BadPlan) (.ref E_BadSide) = some false)
  (ykBadPlan_BadRule : PySem.W.kitOne K (.ref E_BadPlan) (.ref E_BadRule) = some false)
  (ykBadPlan_BadRules : PySem.W.kitOne K (.ref E_BadPlan) (.ref E_BadRules) = some false)
  (ykBadPlan_BadBook : PySem.W.kitOne K (.ref E_BadPlan) (.ref E_BadBook) = some false)
  (ykBadPlan_BadThing : PySem.W.kitOne K (.ref E_BadPlan) (.ref E_BadThing) = some false)
  (ykBadPlan_NoPlans : PySem.W.kitOne K (.ref E_BadPlan) (.ref E_NoPlans) = some false)
  (ykBadPlan_NoRule : PySem.W.kitOne K (.ref E_BadPlan) (.ref E_NoRule) = some false)
  (ykBadPlan_BadLot : PySem.W.kitOne K (.ref E_BadPlan) (.ref E_BadLot) = some false)
  (ykBadPlan_TooMany : PySem.W.kitOne K (.ref E_BadPlan) (.ref E_TooMany) = some false)
  (ykBadPlan_OtherThings : PySem.W.kitOne K (.ref E_BadPlan) (.ref E_OtherThings) = some false)
  (ykBadPlan_NotSo : PySem.W.kitOne K (.ref E_BadPlan) (.ref E_NotSo) = some false)
  (ykBadPlan_NotEven : PySem.W.kitOne K (.ref E_BadPlan) (.ref E_NotEven) = some false)
  (ykBadPlan_BadTable : PySem.W.kitOne K (.ref E_BadPlan) (.ref E_BadTable) = some false)
  (ykBadPlan_NothingDone : PySem.W.kitOne K (.ref E_BadPlan) (.ref E_NothingDone) = some false)
  (ykBadPlan_BadText : PySem.W.kitOne K (.ref E_BadPlan) (.ref E_BadText) = some false)
  (ykBadPlan_BadChoice : PySem.W.kitOne K (.ref E_BadPlan) (.ref E_BadChoice) = some false)
  (ykBadPlan_PlanError : PySem.W.kitOne K (.ref E_BadPlan) (.ref E_PlanError) = some true)
  (ylBadPlan : PySem.W.excIn K E_BadPlan [.type "ValueError", .type "Exception", .type "BaseException", .type "object"] "ValueError.__new__" = true)
  (ymBadPlan : PySem.W.keepIn K (.ref E_BadPlan) = true)
  (ynBadPlans : PySem.W.nsIn K mainGlobals "BadPlans" = some (some (.ref E_BadPlans)))
  (yaBadPlans : (PySem.W.clsIn K E_BadPlans).isSome = true)
  (ybBadPlans : PySem.W.findIn K (.ref E_BadPlans) "__getattribute__" = some (some (.builtin "BaseException.__getattribute__")))
  (ycBadPlans : PySem.W.findIn K (.ref E_BadPlans) "__getattr__" = some none)
  (ydBadPlans : PySem.W.subIn K (.ref E_BadPlans) (.type "BaseException") = some true)
  (yeBadPlans : PySem.W.hasDictIn K E_BadPlans = true)
  (yfBadPlans : PySem.W.findIn K (.ref E_BadPlans) "__class__" = some (some (.builtin "object.__class__")))
  (ygBadPlans : PySem.W.mroIn K E_BadPlans (.type "object") = some true)
  (yhBadPlans : PySem.W.typeIn K (.ref E_BadPlans) = some (.type "type"))
  (yiBadPlans : PySem.W.kitOne K (.ref E_BadPlans) (.type "ValueError") = some true)
  (ypBadPlans_at : PySem.W.findIn K (.ref E_BadPlans) "at" = some none)
  (ykBadPlans_BadPlan : PySem.W.kitOne K (.ref E_BadPlans) (.ref E_BadPlan) = some false)
  (ykBadPlans_BadPlans : PySem.W.kitOne K (.ref E_BadPlans) (.ref E_BadPlans) = some true)
  (ykBadPlans_BadNumber : PySem.W.kitOne K (.ref E_BadPlans) (.ref E_BadNumber) = some false)
  (ykBadPlans_BadSide : PySem.W.kitOne K (.ref E_BadPlans) (.ref E_BadSide) = some false)
  (ykBadPlans_BadRule : PySem.W.kitOne K (.ref E_BadPlans) (.ref E_BadRule) = some false)
  (ykBadPlans_BadRules : PySem.W.kitOne K (.ref E_BadPlans) (.ref E_BadRules) = some false)
  (ykBadPlans_BadBook : PySem.W.kitOne K (.ref E_BadPlans) (.ref E_BadBook) = some false)
  (ykBadPlans_BadThing : PySem.W.kitOne K (.ref E_BadPlans) (.ref E_BadThing) = some false)
  (ykBadPlans_NoPlans : PySem.W.kitOne K (.ref E_BadPlans) (.ref E_NoPlans) = some false)
  (ykBadPlans_NoRule : PySem.W.kitOne K (.ref E_BadPlans) (.ref E_NoRule) = some false)
  (ykBadPlans_BadLot : PySem.W.kitOne K (.ref E_BadPlans) (.ref E_BadLot) = some false)
  (ykBadPlans_TooMany : PySem.W.kitOne K (.ref E_BadPlans) (.ref E_TooMany) = some false)
  (ykBadPlans_OtherThings : PySem.W.kitOne K (.ref E_BadPlans) (.ref E_OtherThings) = some false)
  (ykBadPlans_NotSo : PySem.W.kitOne K (.ref E_BadPlans) (.ref E_NotSo) = some false)
  (ykBadPlans_NotEven : PySem.W.kitOne K (.ref E_BadPlans) (.ref E_NotEven) = some false)
  (ykBadPlans_BadTable : PySem.W.kitOne K (.ref E_BadPlans) (.ref E_BadTable) = some false)
  (ykBadPlans_NothingDone : PySem.W.kitOne K (.ref E_BadPlans) (.ref E_NothingDone) = some false)
  (ykBadPlans_BadText : PySem.W.kitOne K (.ref E_BadPlans) (.ref E_BadText) = some false)
  (ykBadPlans_BadChoice : PySem.W.kitOne K (.ref E_BadPlans) (.ref E_BadChoice) = some false)
  (ykBadPlans_PlanError : PySem.W.kitOne K (.ref E_BadPlans) (.ref E_PlanError) = some true)
  (ynBadNumber : PySem.W.nsIn K mainGlobals "BadNumber" = some (some (.ref E_BadNumber)))
  (yaBadNumber : (PySem.W.clsIn K E_BadNumber).isSome = true)
  (ybBadNumber : PySem.W.findIn K (.ref E_BadNumber) "__getattribute__" = some (some (.builtin "BaseException.__getattribute__")))
  (ycBadNumber : PySem.W.findIn K (.ref E_BadNumber) "__getattr__" = some none)
  (ydBadNumber : PySem.W.subIn K (.ref E_BadNumber) (.type "BaseException") = some true)
  (yeBadNumber : PySem.W.hasDictIn K E_BadNumber = true)
  (yfBadNumber : PySem.W.findIn K (.ref E_BadNumber) "__class__" = some (some (.builtin "object.__class__")))
  (ygBadNumber : PySem.W.mroIn K E_BadNumber (.type "object") = some true)
  (yhBadNumber : PySem.W.typeIn K (.ref E_BadNumber) = some (.type "type"))
  (yiBadNumber : PySem.W.kitOne K (.ref E_BadNumber) (.type "ValueError") = some true)
  (ykBadNumber_BadPlan : PySem.W.kitOne K (.ref E_BadNumber) (.ref E_BadPlan) = some false)
  (ykBadNumber_BadPlans : PySem.W.kitOne K (.ref E_BadNumber) (.ref E_BadPlans) = some false)
  (ykBadNumber_BadNumber : PySem.W.kitOne K (.ref E_BadNumber) (.ref E_BadNumber) = some true)
  (ykBadNumber_BadSide : PySem.W.kitOne K (.ref E_BadNumber) (.ref E_BadSide) = some false)
  (ykBadNumber_BadRule : PySem.W.kitOne K (.ref E_BadNumber) (.ref E_BadRule) = some false)
  (ykBadNumber_BadRules : PySem.W.kitOne K (.ref E_BadNumber) (.ref E_BadRules) = some false)
  (ykBadNumber_BadBook : PySem.W.kitOne K (.ref E_BadNumber) (.ref E_BadBook) = some false)
  (ykBadNumber_BadThing : PySem.W.kitOne K (.ref E_BadNumber) (.ref E_BadThing) = some false)
  (ykBadNumber_NoPlans : PySem.W.kitOne K (.ref E_BadNumber) (.ref E_NoPlans) = some false)
  (ykBadNumber_NoRule : PySem.W.kitOne K (.ref E_BadNumber) (.ref E_NoRule) = some false)
  (ykBadNumber_BadLot : PySem.W.kitOne K (.ref E_BadNumber) (.ref E_BadLot) = some false)
  (ykBadNumber_TooMany : PySem.W.kitOne K (.ref E_BadNumber) (.ref E_TooMany) = some false)
  (ykBadNumber_OtherThings : PySem.W.kitOne K (.ref E_BadNumber) (.ref E_OtherThings) = some false)
  (ykBadNumber_NotSo : PySem.W.kitOne K (.ref E_BadNumber) (.ref E_NotSo) = some false)
  (ykBadNumber_NotEven : PySem.W.kitOne K (.ref E_BadNumber) (.ref E_NotEven) = some false)
  (ykBadNumber_BadTable : PySem.W.kitOne K (.ref E_BadNumber) (.ref E_BadTable) = some false)
  (ykBadNumber_NothingDone : PySem.W.kitOne K (.ref E_BadNumber) (.ref E_NothingDone) = some false)
  (ykBadNumber_BadText : PySem.W.kitOne K (.ref E_BadNumber) (.ref E_BadText) = some false)
  (ykBadNumber_BadChoice : PySem.W.kitOne K (.ref E_BadNumber) (.ref E_BadChoice) = some false)
  (ykBadNumber_PlanError : PySem.W.kitOne K (.ref E_BadNumber) (.ref E_PlanError) = some true)
  (ylBadNumber : PySem.W.excIn K E_BadNumber [.type "ValueError", .type "Exception", .type "BaseException", .type "object"] "ValueError.__new__" = true)
  (ymBadNumber : PySem.W.keepIn K (.ref E_BadNumber) = true)
  (ynBadSide : PySem.W.nsIn K mainGlobals "BadSide" = some (some (.ref E_BadSide)))
  (yaBadSide : (PySem.W.clsIn K E_BadSide).isSome = true)
  (ybBadSide : PySem.W.findIn K (.ref E_BadSide) "__getattribute__" = some (some (.builtin "BaseException.__getattribute__")))
  (ycBadSide : PySem.W.findIn K (.ref E_BadSide) "__getattr__" = some none)
  (ydBadSide : PySem.W.subIn K (.ref E_BadSide) (.type "BaseException") = some true)
  (yeBadSide : PySem.W.hasDictIn K E_BadSide = true)
  (yfBadSide : PySem.W.findIn K (.ref E_BadSide) "__class__" = some (some (.builtin "object.__class__")))
  (ygBadSide : PySem.W.mroIn K E_BadSide (.type "object") = some true)
  (yhBadSide : PySem.W.typeIn K (.ref E_BadSide) = some (.type "type"))
  (yiBadSide : PySem.W.kitOne K (.ref E_BadSide) (.type "ValueError") = some true)
  (ykBadSide_BadPlan : PySem.W.kitOne K (.ref E_BadSide) (.ref E_BadPlan) = some false)
  (ykBadSide_BadPlans : PySem.W.kitOne K (.ref E_BadSide) (.ref E_BadPlans) = some false)
  (ykBadSide_BadNumber : PySem.W.kitOne K (.ref E_BadSide) (.ref E_BadNumber) = some false)
  (ykBadSide_BadSide : PySem.W.kitOne K (.ref E_BadSide) (.ref E_BadSide) = some true)
  (ykBadSide_BadRule : PySem.W.kitOne K (.ref E_BadSide) (.ref E_BadRule) = some false)
  (ykBadSide_BadRules : PySem.W.kitOne K (.ref E_BadSide) (.ref E_BadRules) = some false)
  (ykBadSide_BadBook : PySem.W.kitOne K (.ref E_BadSide) (.ref E_BadBook) = some false)
  (ykBadSide_BadThing : PySem.W.kitOne K (.ref E_BadSide) (.ref E_BadThing) = some false)
  (ykBadSide_NoPlans : PySem.W.kitOne K (.ref E_BadSide) (.ref E_NoPlans) = some false)
  (ykBadSide_NoRule : PySem.W.kitOne K (.ref E_BadSide) (.ref E_NoRule) = some false)
  (ykBadSide_BadLot : PySem.W.kitOne K (.ref E_BadSide) (.ref E_BadLot) = some false)
  (ykBadSide_TooMany : PySem.W.kitOne K (.ref E_BadSide) (.ref E_TooMany) = some false)
  (ykBadSide_OtherThings : PySem.W.kitOne K (.ref E_BadSide) (.ref E_OtherThings) = some false)
  (ykBadSide_NotSo : PySem.W.kitOne K (.ref E_BadSide) (.ref E_NotSo) = some false)
  (ykBadSide_NotEven : PySem.W.kitOne K (.ref E_BadSide) (.ref E_NotEven) = some false)
  (ykBadSide_BadTable : PySem.W.kitOne K (.ref E_BadSide) (.ref E_BadTable) = some false)
  (ykBadSide_NothingDone : PySem.W.kitOne K (.ref E_BadSide) (.ref E_NothingDone) = some false)
  (ykBadSide_BadText : PySem.W.kitOne K (.ref E_BadSide) (.ref E_BadText) = some false)
  (ykBadSide_BadChoice : PySem.W.kitOne K (.ref E_BadSide) (.ref E_BadChoice) = some false)
  (ykBadSide_PlanError : PySem.W.kitOne K (.ref E_BadSide) (.ref E_PlanError) = some true)
  (ylBadSide : PySem.W.excIn K E_BadSide [.type "ValueError", .type "Exception", .type "BaseException", .type "object"] "ValueError.__new__" = true)
  (ymBadSide : PySem.W.keepIn K (.ref E_BadSide) = true)
  (ynBadRule : PySem.W.nsIn K mainGlobals "BadRule" = some (some (.ref E_BadRule)))
  (yaBadRule : (PySem.W.clsIn K E_BadRule).isSome = true)
  (ybBadRule : PySem.W.findIn K (.ref E_BadRule) "__getattribute__" = some (some (.builtin "BaseException.__getattribute__")))
  (ycBadRule : PySem.W.findIn K (.ref E_BadRule) "__getattr__" = some none)
  (ydBadRule : PySem.W.subIn K (.ref E_BadRule) (.type "BaseException") = some true)
  (yeBadRule : PySem.W.hasDictIn K E_BadRule = true)
  (yfBadRule : PySem.W.findIn K (.ref E_BadRule) "__class__" = some (some (.builtin "object.__class__")))
  (ygBadRule : PySem.W.mroIn K E_BadRule (.type "object") = some true)
  (yhBadRule : PySem.W.typeIn K (.ref E_BadRule) = some (.type "type"))
  (yiBadRule : PySem.W.kitOne K (.ref E_BadRule) (.type "ValueError") = some true)
  (ykBadRule_BadPlan : PySem.W.kitOne K (.ref E_BadRule) (.ref E_BadPlan) = some false)
  (ykBadRule_BadPlans : PySem.W.kitOne K (.ref E_BadRule) (.ref E_BadPlans) = some false)
  (ykBadRule_BadNumber : PySem.W.kitOne K (.ref E_BadRule) (.ref E_BadNumber) = some false)
  (ykBadRule_BadSide : PySem.W.kitOne K (.ref E_BadRule) (.ref E_BadSide) = some false)
  (ykBadRule_BadRule : PySem.W.kitOne K (.ref E_BadRule) (.ref E_BadRule) = some true)
  (ykBadRule_BadRules : PySem.W.kitOne K (.ref E_BadRule) (.ref E_BadRules) = some false)
  (ykBadRule_BadBook : PySem.W.kitOne K (.ref E_BadRule) (.ref E_BadBook) = some false)
  (ykBadRule_BadThing : PySem.W.kitOne K (.ref E_BadRule) (.ref E_BadThing) = some false)
  (ykBadRule_NoPlans : PySem.W.kitOne K (.ref E_BadRule) (.ref E_NoPlans) = some false)
  (ykBadRule_NoRule : PySem.W.kitOne K (.ref E_BadRule) (.ref E_NoRule) = some false)
  (ykBadRule_BadLot : PySem.W.kitOne K (.ref E_BadRule) (.ref E_BadLot) = some false)
  (ykBadRule_TooMany : PySem.W.kitOne K (.ref E_BadRule) (.ref E_TooMany) = some false)
  (ykBadRule_OtherThings : PySem.W.kitOne K (.ref E_BadRule) (.ref E_OtherThings) = some false)
  (ykBadRule_NotSo : PySem.W.kitOne K (.ref E_BadRule) (.ref E_NotSo) = some false)
  (ykBadRule_NotEven : PySem.W.kitOne K (.ref E_BadRule) (.ref E_NotEven) = some false)
  (ykBadRule_BadTable : PySem.W.kitOne K (.ref E_BadRule) (.ref E_BadTable) = some false)
  (ykBadRule_NothingDone : PySem.W.kitOne K (.ref E_BadRule) (.ref E_NothingDone) = some false)
  (ykBadRule_BadText : PySem.W.kitOne K (.ref E_BadRule) (.ref E_BadText) = some false)
  (ykBadRule_BadChoice : PySem.W.kitOne K (.ref E_BadRule) (.ref E_BadChoice) = some false)
  (ykBadRule_PlanError : PySem.W.kitOne K (.ref E_BadRule) (.ref E_PlanError) = some true)
  (ylBadRule : PySem.W.excIn K E_BadRule [.type "ValueError", .type "Exception", .type "BaseException", .type "object"] "ValueError.__new__" = true)
  (ymBadRule : PySem.W.keepIn K (.ref E_BadRule) = true)
  (ynBadRules : PySem.W.nsIn K mainGlobals "BadRules" = some (some (.ref E_BadRules)))
  (yaBadRules : (PySem.W.clsIn K E_BadRules).isSome = true)
  (ybBadRules : PySem.W.findIn K (.ref E_BadRules) "__getattribute__" = some (some (.builtin "BaseException.__getattribute__")))
  (ycBadRules : PySem.W.findIn K (.ref E_BadRules) "__getattr__" = some none)
  (ydBadRules : PySem.W.subIn K (.ref E_BadRules) (.type "BaseException") = some true)
  (yeBadRules : PySem.W.hasDictIn K E_BadRules = true)
  (yfBadRules : PySem.W.findIn K (.ref E_BadRules) "__class__" = some (some (.builtin "object.__class__")))
  (ygBadRules : PySem.W.mroIn K E_BadRules (.type "object") = some true)
  (yhBadRules : PySem.W.typeIn K (.ref E_BadRules) = some (.type "type"))
  (yiBadRules : PySem.W.kitOne K (.ref E_BadRules) (.type "ValueError") = some true)
  (ypBadRules_at : PySem.W.findIn K (.ref E_BadRules) "at" = some none)
  (ykBadRules_BadPlan : PySem.W.kitOne K (.ref E_BadRules) (.ref E_BadPlan) = some false)
  (ykBadRules_BadPlans : PySem.W.kitOne K (.ref E_BadRules) (.ref E_BadPlans) = some false)
  (ykBadRules_BadNumber : PySem.W.kitOne K (.ref E_BadRules) (.ref E_BadNumber) = some false)
  (ykBadRules_BadSide : PySem.W.kitOne K (.ref E_BadRules) (.ref E_BadSide) = some false)
  (ykBadRules_BadRule : PySem.W.kitOne K (.ref E_BadRules) (.ref E_BadRule) = some false)
  (ykBadRules_BadRules : PySem.W.kitOne K (.ref E_BadRules) (.ref E_BadRules) = some true)
  (ykBadRules_BadBook : PySem.W.kitOne K (.ref E_BadRules) (.ref E_BadBook) = some false)
  (ykBadRules_BadThing : PySem.W.kitOne K (.ref E_BadRules) (.ref E_BadThing) = some false)
  (ykBadRules_NoPlans : PySem.W.kitOne K (.ref E_BadRules) (.ref E_NoPlans) = some false)
  (ykBadRules_NoRule : PySem.W.kitOne K (.ref E_BadRules) (.ref E_NoRule) = some false)
  (ykBadRules_BadLot : PySem.W.kitOne K (.ref E_BadRules) (.ref E_BadLot) = some false)
  (ykBadRules_TooMany : PySem.W.kitOne K (.ref E_BadRules) (.ref E_TooMany) = some false)
  (ykBadRules_OtherThings : PySem.W.kitOne K (.ref E_BadRules) (.ref E_OtherThings) = some false)
  (ykBadRules_NotSo : PySem.W.kitOne K (.ref E_BadRules) (.ref E_NotSo) = some false)
  (ykBadRules_NotEven : PySem.W.kitOne K (.ref E_BadRules) (.ref E_NotEven) = some false)
  (ykBadRules_BadTable : PySem.W.kitOne K (.ref E_BadRules) (.ref E_BadTable) = some false)
  (ykBadRules_NothingDone : PySem.W.kitOne K (.ref E_BadRules) (.ref E_NothingDone) = some false)
  (ykBadRules_BadText : PySem.W.kitOne K (.ref E_BadRules) (.ref E_BadText) = some false)
  (ykBadRules_BadChoice : PySem.W.kitOne K (.ref E_BadRules) (.ref E_BadChoice) = some false)
  (ykBadRules_PlanError : PySem.W.kitOne K (.ref E_BadRules) (.ref E_PlanError) = some true)
  (ynBadBook : PySem.W.nsIn K mainGlobals "BadBook" = some (some (.ref E_BadBook)))
  (yaBadBook : (PySem.W.clsIn K E_BadBook).isSome = true)
  (ybBadBook : PySem.W.findIn K (.ref E_BadBook) "__getattribute__" = some (some (.builtin "BaseException.__getattribute__")))
  (ycBadBook : PySem.W.findIn K (.ref E_BadBook) "__getattr__" = some none)
  (ydBadBook : PySem.W.subIn K (.ref E_BadBook) (.type "BaseException") = some true)
  (yeBadBook : PySem.W.hasDictIn K E_BadBook = true)
  (yfBadBook : PySem.W.findIn K (.ref E_BadBook) "__class__" = some (some (.builtin "object.__class__")))
  (ygBadBook : PySem.W.mroIn K E_BadBook (.type "object") = some true)
  (yhBadBook : PySem.W.typeIn K (.ref E_BadBook) = some (.type "type"))
  (yiBadBook : PySem.W.kitOne K (.ref E_BadBook) (.type "ValueError") = some true)
  (ypBadBook_part : PySem.W.findIn K (.ref E_BadBook) "part" = some none)
  (ykBadBook_BadPlan : PySem.W.kitOne K (.ref E_BadBook) (.ref E_BadPlan) = some false)
  (ykBadBook_BadPlans : PySem.W.kitOne K (.ref E_BadBook) (.ref E_BadPlans) = some false)
  (ykBadBook_BadNumber : PySem.W.kitOne K (.ref E_BadBook) (.ref E_BadNumber) = some false)
  (ykBadBook_BadSide : PySem.W.kitOne K (.ref E_BadBook) (.ref E_BadSide) = some false)
  (ykBadBook_BadRule : PySem.W.kitOne K (.ref E_BadBook) (.ref E_BadRule) = some false)
  (ykBadBook_BadRules : PySem.W.kitOne K (.ref E_BadBook) (.ref E_BadRules) = some false)
  (ykBadBook_BadBook : PySem.W.kitOne K (.ref E_BadBook) (.ref E_BadBook) = some true)
  (ykBadBook_BadThing : PySem.W.kitOne K (.ref E_BadBook) (.ref E_BadThing) = some false)
  (ykBadBook_NoPlans : PySem.W.kitOne K (.ref E_BadBook) (.ref E_NoPlans) = some false)
  (ykBadBook_NoRule : PySem.W.kitOne K (.ref E_BadBook) (.ref E_NoRule) = some false)
  (ykBadBook_BadLot : PySem.W.kitOne K (.ref E_BadBook) (.ref E_BadLot) = some false)
  (ykBadBook_TooMany : PySem.W.kitOne K (.ref E_BadBook) (.ref E_TooMany) = some false)
  (ykBadBook_OtherThings : PySem.W.kitOne K (.ref E_BadBook) (.ref E_OtherThings) = some false)
  (ykBadBook_NotSo : PySem.W.kitOne K (.ref E_BadBook) (.ref E_NotSo) = some false)
  (ykBadBook_NotEven : PySem.W.kitOne K (.ref E_BadBook) (.ref E_NotEven) = some false)
  (ykBadBook_BadTable : PySem.W.kitOne K (.ref E_BadBook) (.ref E_BadTable) = some false)
  (ykBadBook_NothingDone : PySem.W.kitOne K (.ref E_BadBook) (.ref E_NothingDone) = some false)
  (ykBadBook_BadText : PySem.W.kitOne K (.ref E_BadBook) (.ref E_BadText) = some false)
  (ykBadBook_BadChoice : PySem.W.kitOne K (.ref E_BadBook) (.ref E_BadChoice) = some false)
  (ykBadBook_PlanError : PySem.W.kitOne K (.ref E_BadBook) (.ref E_PlanError) = some true)
  (ynBadThing : PySem.W.nsIn K mainGlobals "BadThing" = some (some (.ref E_BadThing)))
  (yaBadThing : (PySem.W.clsIn K E_BadThing).isSome = true)
  (ybBadThing : PySem.W.findIn K (.ref E_BadThing) "__getattribute__" = some (some (.builtin "BaseException.__getattribute__")))
  (ycBadThing : PySem.W.findIn K (.ref E_BadThing) "__getattr__" = some none)
  (ydBadThing : PySem.W.subIn K (.ref E_BadThing) (.type "BaseException") = some true)
  (yeBadThing : PySem.W.hasDictIn K E_BadThing = true)
  (yfBadThing : PySem.W.findIn K (.ref E_BadThing) "__class__" = some (some (.builtin "object.__class__")))
  (ygBadThing : PySem.W.mroIn K E_BadThing (.type "object") = some true)
  (yhBadThing : PySem.W.typeIn K (.ref E_BadThing) = some (.type "type"))
  (yiBadThing : PySem.W.kitOne K (.ref E_BadThing) (.type "ValueError") = some true)
  (ypBadThing_thing : PySem.W.findIn K (.ref E_BadThing) "thing" = some none)
  (ykBadThing_BadPlan : PySem.W.kitOne K (.ref E_BadThing) (.ref E_BadPlan) = some false)
  (ykBadThing_BadPlans : PySem.W.kitOne K (.ref E_BadThing) (.ref E_BadPlans) = some false)
  (ykBadThing_BadNumber : PySem.W.kitOne K (.ref E_BadThing) (.ref E_BadNumber) = some false)
  (ykBadThing_BadSide : PySem.W.kitOne K (.ref E_BadThing) (.ref E_BadSide) = some false)
  (ykBadThing_BadRule : PySem.W.kitOne K (.ref E_BadThing) (.ref E_BadRule) = some false)
  (ykBadThing_BadRules : PySem.W.kitOne K (.ref E_BadThing) (.ref E_BadRules) = some false)
  (ykBadThing_BadBook : PySem.W.kitOne K (.ref E_BadThing) (.ref E_BadBook) = some false)
  (ykBadThing_BadThing : PySem.W.kitOne K (.ref E_BadThing) (.ref E_BadThing) = some true)
  (ykBadThing_NoPlans : PySem.W.kitOne K (.ref E_BadThing) (.ref E_NoPlans) = some false)
  (ykBadThing_NoRule : PySem.W.kitOne K (.ref E_BadThing) (.ref E_NoRule) = some false)
  (ykBadThing_BadLot : PySem.W.kitOne K (.ref E_BadThing) (.ref E_BadLot) = some false)
  (ykBadThing_TooMany : PySem.W.kitOne K (.ref E_BadThing) (.ref E_TooMany) = some false)
  (ykBadThing_OtherThings : PySem.W.kitOne K (.ref E_BadThing) (.ref E_OtherThings) = some false)
  (ykBadThing_NotSo : PySem.W.kitOne K (.ref E_BadThing) (.ref E_NotSo) = some false)
  (ykBadThing_NotEven : PySem.W.kitOne K (.ref E_BadThing) (.ref E_NotEven) = some false)
  (ykBadThing_BadTable : PySem.W.kitOne K (.ref E_BadThing) (.ref E_BadTable) = some false)
  (ykBadThing_NothingDone : PySem.W.kitOne K (.ref E_BadThing) (.ref E_NothingDone) = some false)
  (ykBadThing_BadText : PySem.W.kitOne K (.ref E_BadThing) (.ref E_BadText) = some false)
  (ykBadThing_BadChoice : PySem.W.kitOne K (.ref E_BadThing) (.ref E_BadChoice) = some false)
  (ykBadThing_PlanError : PySem.W.kitOne K (.ref E_BadThing) (.ref E_PlanError) = some true)
  (ynNoPlans : PySem.W.nsIn K mainGlobals "NoPlans" = some (some (.ref E_NoPlans)))
  (yaNoPlans : (PySem.W.clsIn K E_NoPlans).isSome = true)
  (ybNoPlans : PySem.W.findIn K (.ref E_NoPlans) "__getattribute__" = some (some (.builtin "BaseException.__getattribute__")))
  (ycNoPlans : PySem.W.findIn K (.ref E_NoPlans) "__getattr__" = some none)
  (ydNoPlans : PySem.W.subIn K (.ref E_NoPlans) (.type "BaseException") = some true)
  (yeNoPlans : PySem.W.hasDictIn K E_NoPlans = true)
  (yfNoPlans : PySem.W.findIn K (.ref E_NoPlans) "__class__" = some (some (.builtin "object.__class__")))
  (ygNoPlans : PySem.W.mroIn K E_NoPlans (.type "object") = some true)
  (yhNoPlans : PySem.W.typeIn K (.ref E_NoPlans) = some (.type "type"))
  (yiNoPlans : PySem.W.kitOne K (.ref E_NoPlans) (.type "ValueError") = some true)
  (ykNoPlans_BadPlan : PySem.W.kitOne K (.ref E_NoPlans) (.ref E_BadPlan) = some false)
  (ykNoPlans_BadPlans : PySem.W.kitOne K (.ref E_NoPlans) (.ref E_BadPlans) = some false)
  (ykNoPlans_BadNumber : PySem.W.kitOne K (.ref E_NoPlans) (.ref E_BadNumber) = some false)
  (ykNoPlans_BadSide : PySem.W.kitOne K (.ref E_NoPlans) (.ref E_BadSide) = some false)
  (ykNoPlans_BadRule : PySem.W.kitOne K (.ref E_NoPlans) (.ref E_BadRule) = some false)
  (ykNoPlans_BadRules : PySem.W.kitOne K (.ref E_NoPlans) (.ref E_BadRules) = some false)
  (ykNoPlans_BadBook : PySem.W.kitOne K (.ref E_NoPlans) (.ref E_BadBook) = some false)
  (ykNoPlans_BadThing : PySem.W.kitOne K (.ref E_NoPlans) (.ref E_BadThing) = some false)
  (ykNoPlans_NoPlans : PySem.W.kitOne K (.ref E_NoPlans) (.ref E_NoPlans) = some true)
  (ykNoPlans_NoRule : PySem.W.kitOne K (.ref E_NoPlans) (.ref E_NoRule) = some false)
  (ykNoPlans_BadLot : PySem.W.kitOne K (.ref E_NoPlans) (.ref E_BadLot) = some false)
  (ykNoPlans_TooMany : PySem.W.kitOne K (.ref E_NoPlans) (.ref E_TooMany) = some false)
  (ykNoPlans_OtherThings : PySem.W.kitOne K (.ref E_NoPlans) (.ref E_OtherThings) = some false)
  (ykNoPlans_NotSo : PySem.W.kitOne K (.ref E_NoPlans) (.ref E_NotSo) = some false)
  (ykNoPlans_NotEven : PySem.W.kitOne K (.ref E_NoPlans) (.ref E_NotEven) = some false)
  (ykNoPlans_BadTable : PySem.W.kitOne K (.ref E_NoPlans) (.ref E_BadTable) = some false)
  (ykNoPlans_NothingDone : PySem.W.kitOne K (.ref E_NoPlans) (.ref E_NothingDone) = some false)
  (ykNoPlans_BadText : PySem.W.kitOne K (.ref E_NoPlans) (.ref E_BadText) = some false)
  (ykNoPlans_BadChoice : PySem.W.kitOne K (.ref E_NoPlans) (.ref E_BadChoice) = some false)
  (ykNoPlans_PlanError : PySem.W.kitOne K (.ref E_NoPlans) (.ref E_PlanError) = some true)
  (ylNoPlans : PySem.W.excIn K E_NoPlans [.type "ValueError", .type "Exception", .type "BaseException", .type "object"] "ValueError.__new__" = true)
  (ymNoPlans : PySem.W.keepIn K (.ref E_NoPlans) = true)
  (ynNoRule : PySem.W.nsIn K mainGlobals "NoRule" = some (some (.ref E_NoRule)))
  (yaNoRule : (PySem.W.clsIn K E_NoRule).isSome = true)
  (ybNoRule : PySem.W.findIn K (.ref E_NoRule) "__getattribute__" = some (some (.builtin "BaseException.__getattribute__")))
  (ycNoRule : PySem.W.findIn K (.ref E_NoRule) "__getattr__" = some none)
  (ydNoRule : PySem.W.subIn K (.ref E_NoRule) (.type "BaseException") = some true)
  (yeNoRule : PySem.W.hasDictIn K E_NoRule = true)
  (yfNoRule : PySem.W.findIn K (.ref E_NoRule) "__class__" = some (some (.builtin "object.__class__")))
  (ygNoRule : PySem.W.mroIn K E_NoRule (.type "object") = some true)
  (yhNoRule : PySem.W.typeIn K (.ref E_NoRule) = some (.type "type"))
  (yiNoRule : PySem.W.kitOne K (.ref E_NoRule) (.type "ValueError") = some true)
  (ypNoRule_at : PySem.W.findIn K (.ref E_NoRule) "at" = some none)
  (ykNoRule_BadPlan : PySem.W.kitOne K (.ref E_NoRule) (.ref E_BadPlan) = some false)
  (ykNoRule_BadPlans : PySem.W.kitOne K (.ref E_NoRule) (.ref E_BadPlans) = some false)
  (ykNoRule_BadNumber : PySem.W.kitOne K (.ref E_NoRule) (.ref E_BadNumber) = some false)
  (ykNoRule_BadSide : PySem.W.kitOne K (.ref E_NoRule) (.ref E_BadSide) = some false)
  (ykNoRule_BadRule : PySem.W.kitOne K (.ref E_NoRule) (.ref E_BadRule) = some false)
  (ykNoRule_BadRules : PySem.W.kitOne K (.ref E_NoRule) (.ref E_BadRules) = some false)
  (ykNoRule_BadBook : PySem.W.kitOne K (.ref E_NoRule) (.ref E_BadBook) = some false)
  (ykNoRule_BadThing : PySem.W.kitOne K (.ref E_NoRule) (.ref E_BadThing) = some false)
  (ykNoRule_NoPlans : PySem.W.kitOne K (.ref E_NoRule) (.ref E_NoPlans) = some false)
  (ykNoRule_NoRule : PySem.W.kitOne K (.ref E_NoRule) (.ref E_NoRule) = some true)
  (ykNoRule_BadLot : PySem.W.kitOne K (.ref E_NoRule) (.ref E_BadLot) = some false)
  (ykNoRule_TooMany : PySem.W.kitOne K (.ref E_NoRule) (.ref E_TooMany) = some false)
  (ykNoRule_OtherThings : PySem.W.kitOne K (.ref E_NoRule) (.ref E_OtherThings) = some false)
  (ykNoRule_NotSo : PySem.W.kitOne K (.ref E_NoRule) (.ref E_NotSo) = some false)
  (ykNoRule_NotEven : PySem.W.kitOne K (.ref E_NoRule) (.ref E_NotEven) = some false)
  (ykNoRule_BadTable : PySem.W.kitOne K (.ref E_NoRule) (.ref E_BadTable) = some false)
  (ykNoRule_NothingDone : PySem.W.kitOne K (.ref E_NoRule) (.ref E_NothingDone) = some false)
  (ykNoRule_BadText : PySem.W.kitOne K (.ref E_NoRule) (.ref E_BadText) = some false)
  (ykNoRule_BadChoice : PySem.W.kitOne K (.ref E_NoRule) (.ref E_BadChoice) = some false)
  (ykNoRule_PlanError : PySem.W.kitOne K (.ref E_NoRule) (.ref E_PlanError) = some true)
  (ynBadLot : PySem.W.nsIn K mainGlobals "BadLot" = some (some (.ref E_BadLot)))
  (yaBadLot : (PySem.W.clsIn K E_BadLot).isSome = true)
  (ybBadLot : PySem.W.findIn K (.ref E_BadLot) "__getattribute__" = some (some (.builtin "BaseException.__getattribute__")))
  (ycBadLot : PySem.W.findIn K (.ref E_BadLot) "__getattr__" = some none)
  (ydBadLot : PySem.W.subIn K (.ref E_BadLot) (.type "BaseException") = some true)
  (yeBadLot : PySem.W.hasDictIn K E_BadLot = true)
  (yfBadLot : PySem.W.findIn K (.ref E_BadLot) "__class__" = some (some (.builtin "object.__class__")))
  (ygBadLot : PySem.W.mroIn K E_BadLot (.type "object") = some true)
  (yhBadLot : PySem.W.typeIn K (.ref E_BadLot) = some (.type "type"))
  (yiBadLot : PySem.W.kitOne K (.ref E_BadLot) (.type "ValueError") = some true)
  (ykBadLot_BadPlan : PySem.W.kitOne K (.ref E_BadLot) (.ref E_BadPlan) = some false)
  (ykBadLot_BadPlans : PySem.W.kitOne K (.ref E_BadLot) (.ref E_BadPlans) = some false)
  (ykBadLot_BadNumber : PySem.W.kitOne K (.ref E_BadLot) (.ref E_BadNumber) = some false)
  (ykBadLot_BadSide : PySem.W.kitOne K (.ref E_BadLot) (.ref E_BadSide) = some false)
  (ykBadLot_BadRule : PySem.W.kitOne K (.ref E_BadLot) (.ref E_BadRule) = some false)
  (ykBadLot_BadRules : PySem.W.kitOne K (.ref E_BadLot) (.ref E_BadRules) = some false)
  (ykBadLot_BadBook : PySem.W.kitOne K (.ref E_BadLot) (.ref E_BadBook) = some false)
  (ykBadLot_BadThing : PySem.W.kitOne K (.ref E_BadLot) (.ref E_BadThing) = some false)
  (ykBadLot_NoPlans : PySem.W.kitOne K (.ref E_BadLot) (.ref E_NoPlans) = some false)
  (ykBadLot_NoRule : PySem.W.kitOne K (.ref E_BadLot) (.ref E_NoRule) = some false)
  (ykBadLot_BadLot : PySem.W.kitOne K (.ref E_BadLot) (.ref E_BadLot) = some true)
  (ykBadLot_TooMany : PySem.W.kitOne K (.ref E_BadLot) (.ref E_TooMany) = some false)
  (ykBadLot_OtherThings : PySem.W.kitOne K (.ref E_BadLot) (.ref E_OtherThings) = some false)
  (ykBadLot_NotSo : PySem.W.kitOne K (.ref E_BadLot) (.ref E_NotSo) = some false)
  (ykBadLot_NotEven : PySem.W.kitOne K (.ref E_BadLot) (.ref E_NotEven) = some false)
  (ykBadLot_BadTable : PySem.W.kitOne K (.ref E_BadLot) (.ref E_BadTable) = some false)
  (ykBadLot_NothingDone : PySem.W.kitOne K (.ref E_BadLot) (.ref E_NothingDone) = some false)
  (ykBadLot_BadText : PySem.W.kitOne K (.ref E_BadLot) (.ref E_BadText) = some false)
  (ykBadLot_BadChoice : PySem.W.kitOne K (.ref E_BadLot) (.ref E_BadChoice) = some false)
  (ykBadLot_PlanError : PySem.W.kitOne K (.ref E_BadLot) (.ref E_PlanError) = some true)
  (ylBadLot : PySem.W.excIn K E_BadLot [.type "ValueError", .type "Exception", .type "BaseException", .type "object"] "ValueError.__new__" = true)
  (ymBadLot : PySem.W.keepIn K (.ref E_BadLot) = true)
  (ynTooMany : PySem.W.nsIn K mainGlobals "TooMany" = some (some (.ref E_TooMany)))
  (yaTooMany : (PySem.W.clsIn K E_TooMany).isSome = true)
  (ybTooMany : PySem.W.findIn K (.ref E_TooMany) "__getattribute__" = some (some (.builtin "BaseException.__getattribute__")))
  (ycTooMany : PySem.W.findIn K (.ref E_TooMany) "__getattr__" = some none)
  (ydTooMany : PySem.W.subIn K (.ref E_TooMany) (.type "BaseException") = some true)
  (yeTooMany : PySem.W.hasDictIn K E_TooMany = true)
  (yfTooMany : PySem.W.findIn K (.ref E_TooMany) "__class__" = some (some (.builtin "object.__class__")))
  (ygTooMany : PySem.W.mroIn K E_TooMany (.type "object") = some true)
  (yhTooMany : PySem.W.typeIn K (.ref E_TooMany) = some (.type "type"))
  (yiTooMany : PySem.W.kitOne K (.ref E_TooMany) (.type "ValueError") = some true)
  (ypTooMany_most : PySem.W.findIn K (.ref E_TooMany) "most" = some none)
  (ykTooMany_BadPlan : PySem.W.kitOne K (.ref E_TooMany) (.ref E_BadPlan) = some false)
  (ykTooMany_BadPlans : PySem.W.kitOne K (.ref E_TooMany) (.ref E_BadPlans) = some false)
  (ykTooMany_BadNumber : PySem.W.kitOne K (.ref E_TooMany) (.ref E_BadNumber) = some false)
  (ykTooMany_BadSide : PySem.W.kitOne K (.ref E_TooMany) (.ref E_BadSide) = some false)
  (ykTooMany_BadRule : PySem.W.kitOne K (.ref E_TooMany) (.ref E_BadRule) = some false)
  (ykTooMany_BadRules : PySem.W.kitOne K (.ref E_TooMany) (.ref E_BadRules) = some false)
  (ykTooMany_BadBook : PySem.W.kitOne K (.ref E_TooMany) (.ref E_BadBook) = some false)
  (ykTooMany_BadThing : PySem.W.kitOne K (.ref E_TooMany) (.ref E_BadThing) = some false)
  (ykTooMany_NoPlans : PySem.W.kitOne K (.ref E_TooMany) (.ref E_NoPlans) = some false)
  (ykTooMany_NoRule : PySem.W.kitOne K (.ref E_TooMany) (.ref E_NoRule) = some false)
  (ykTooMany_BadLot : PySem.W.kitOne K (.ref E_TooMany) (.ref E_BadLot) = some false)
  (ykTooMany_TooMany : PySem.W.kitOne K (.ref E_TooMany) (.ref E_TooMany) = some true)
  (ykTooMany_OtherThings : PySem.W.kitOne K (.ref E_TooMany) (.ref E_OtherThings) = some false)
  (ykTooMany_NotSo : PySem.W.kitOne K (.ref E_TooMany) (.ref E_NotSo) = some false)
  (ykTooMany_NotEven : PySem.W.kitOne K (.ref E_TooMany) (.ref E_NotEven) = some false)
  (ykTooMany_BadTable : PySem.W.kitOne K (.ref E_TooMany) (.ref E_BadTable) = some false)
  (ykTooMany_NothingDone : PySem.W.kitOne K (.ref E_TooMany) (.ref E_NothingDone) = some false)
  (ykTooMany_BadText : PySem.W.kitOne K (.ref E_TooMany) (.ref E_BadText) = some false)
  (ykTooMany_BadChoice : PySem.W.kitOne K (.ref E_TooMany) (.ref E_BadChoice) = some false)
  (ykTooMany_PlanError : PySem.W.kitOne K (.ref E_TooMany) (.ref E_PlanError) = some true)
  (ynOtherThings : PySem.W.nsIn K mainGlobals "OtherThings" = some (some (.ref E_OtherThings)))
  (yaOtherThings : (PySem.W.clsIn K E_OtherThings).isSome = true)
  (ybOtherThings : PySem.W.findIn K (.ref E_OtherThings) "__getattribute__" = some (some (.builtin "BaseException.__getattribute__")))
  (ycOtherThings : PySem.W.findIn K (.ref E_OtherThings) "__getattr__" = some none)
  (ydOtherThings : PySem.W.subIn K (.ref E_OtherThings) (.type "BaseException") = some true)
  (yeOtherThings : PySem.W.hasDictIn K E_OtherThings = true)
  (yfOtherThings : PySem.W.findIn K (.ref E_OtherThings) "__class__" = some (some (.builtin "object.__class__")))
  (ygOtherThings : PySem.W.mroIn K E_OtherThings (.type "object") = some true)
  (yhOtherThings : PySem.W.typeIn K (.ref E_OtherThings) = some (.type "type"))
  (yiOtherThings : PySem.W.kitOne K (.ref E_OtherThings) (.type "ValueError") = some true)
  (ykOtherThings_BadPlan : PySem.W.kitOne K (.ref E_OtherThings) (.ref E_BadPlan) = some false)
  (ykOtherThings_BadPlans : PySem.W.kitOne K (.ref E_OtherThings) (.ref E_BadPlans) = some false)
  (ykOtherThings_BadNumber : PySem.W.kitOne K (.ref E_OtherThings) (.ref E_BadNumber) = some false)
  (ykOtherThings_BadSide : PySem.W.kitOne K (.ref E_OtherThings) (.ref E_BadSide) = some false)
  (ykOtherThings_BadRule : PySem.W.kitOne K (.ref E_OtherThings) (.ref E_BadRule) = some false)
  (ykOtherThings_BadRules : PySem.W.kitOne K (.ref E_OtherThings) (.ref E_BadRules) = some false)
  (ykOtherThings_BadBook : PySem.W.kitOne K (.ref E_OtherThings) (.ref E_BadBook) = some false)
  (ykOtherThings_BadThing : PySem.W.kitOne K (.ref E_OtherThings) (.ref E_BadThing) = some false)
  (ykOtherThings_NoPlans : PySem.W.kitOne K (.ref E_OtherThings) (.ref E_NoPlans) = some false)
  (ykOtherThings_NoRule : PySem.W.kitOne K (.ref E_OtherThings) (.ref E_NoRule) = some false)
  (ykOtherThings_BadLot : PySem.W.kitOne K (.ref E_OtherThings) (.ref E_BadLot) = some false)
  (ykOtherThings_TooMany : PySem.W.kitOne K (.ref E_OtherThings) (.ref E_TooMany) = some false)
  (ykOtherThings_OtherThings : PySem.W.kitOne K (.ref E_OtherThings) (.ref E_OtherThings) = some true)
  (ykOtherThings_NotSo : PySem.W.kitOne K (.ref E_OtherThings) (.ref E_NotSo) = some false)
  (ykOtherThings_NotEven : PySem.W.kitOne K (.ref E_OtherThings) (.ref E_NotEven) = some false)
  (ykOtherThings_BadTable : PySem.W.kitOne K (.ref E_OtherThings) (.ref E_BadTable) = some false)
  (ykOtherThings_NothingDone : PySem.W.kitOne K (.ref E_OtherThings) (.ref E_NothingDone) = some false)
  (ykOtherThings_BadText : PySem.W.kitOne K (.ref E_OtherThings) (.ref E_BadText) = some false)
  (ykOtherThings_BadChoice : PySem.W.kitOne K (.ref E_OtherThings) (.ref E_BadChoice) = some false)
  (ykOtherThings_PlanError : PySem.W.kitOne K (.ref E_OtherThings) (.ref E_PlanError) = some true)
  (ylOtherThings : PySem.W.excIn K E_OtherThings [.type "ValueError", .type "Exception", .type "BaseException", .type "object"] "ValueError.__new__" = true)
  (ymOtherThings : PySem.W.keepIn K (.ref E_OtherThings) = true)
  (ynNotSo : PySem.W.nsIn K mainGlobals "NotSo" = some (some (.ref E_NotSo)))
  (yaNotSo : (PySem.W.clsIn K E_NotSo).isSome = true)
  (ybNotSo : PySem.W.findIn K (.ref E_NotSo) "__getattribute__" = some (some (.builtin "BaseException.__getattribute__")))
  (ycNotSo : PySem.W.findIn K (.ref E_NotSo) "__getattr__" = some none)
  (ydNotSo : PySem.W.subIn K (.ref E_NotSo) (.type "BaseException") = some true)
  (yeNotSo : PySem.W.hasDictIn K E_NotSo = true)
  (yfNotSo : PySem.W.findIn K (.ref E_NotSo) "__class__" = some (some (.builtin "object.__class__")))
  (ygNotSo : PySem.W.mroIn K E_NotSo (.type "object") = some true)
  (yhNotSo : PySem.W.typeIn K (.ref E_NotSo) = some (.type "type"))
  (yiNotSo : PySem.W.kitOne K (.ref E_NotSo) (.type "ValueError") = some true)
  (ykNotSo_BadPlan : PySem.W.kitOne K (.ref E_NotSo) (.ref E_BadPlan) = some false)
  (ykNotSo_BadPlans : PySem.W.kitOne K (.ref E_NotSo) (.ref E_BadPlans) = some false)
  (ykNotSo_BadNumber : PySem.W.kitOne K (.ref E_NotSo) (.ref E_BadNumber) = some false)
  (ykNotSo_BadSide : PySem.W.kitOne K (.ref E_NotSo) (.ref E_BadSide) = some false)
  (ykNotSo_BadRule : PySem.W.kitOne K (.ref E_NotSo) (.ref E_BadRule) = some false)
  (ykNotSo_BadRules : PySem.W.kitOne K (.ref E_NotSo) (.ref E_BadRules) = some false)
  (ykNotSo_BadBook : PySem.W.kitOne K (.ref E_NotSo) (.ref E_BadBook) = some false)
  (ykNotSo_BadThing : PySem.W.kitOne K (.ref E_NotSo) (.ref E_BadThing) = some false)
  (ykNotSo_NoPlans : PySem.W.kitOne K (.ref E_NotSo) (.ref E_NoPlans) = some false)
  (ykNotSo_NoRule : PySem.W.kitOne K (.ref E_NotSo) (.ref E_NoRule) = some false)
  (ykNotSo_BadLot : PySem.W.kitOne K (.ref E_NotSo) (.ref E_BadLot) = some false)
  (ykNotSo_TooMany : PySem.W.kitOne K (.ref E_NotSo) (.ref E_TooMany) = some false)
  (ykNotSo_OtherThings : PySem.W.kitOne K (.ref E_NotSo) (.ref E_OtherThings) = some false)
  (ykNotSo_NotSo : PySem.W.kitOne K (.ref E_NotSo) (.ref E_NotSo) = some true)
  (ykNotSo_NotEven : PySem.W.kitOne K (.ref E_NotSo) (.ref E_NotEven) = some false)
  (ykNotSo_BadTable : PySem.W.kitOne K (.ref E_NotSo) (.ref E_BadTable) = some false)
  (ykNotSo_NothingDone : PySem.W.kitOne K (.ref E_NotSo) (.ref E_NothingDone) = some false)
  (ykNotSo_BadText : PySem.W.kitOne K (.ref E_NotSo) (.ref E_BadText) = some false)
  (ykNotSo_BadChoice : PySem.W.kitOne K (.ref E_NotSo) (.ref E_BadChoice) = some false)
  (ykNotSo_PlanError : PySem.W.kitOne K (.ref E_NotSo) (.ref E_PlanError) = some true)
  (ylNotSo : PySem.W.excIn K E_NotSo [.type "ValueError", .type "Exception", .type "BaseException", .type "object"] "ValueError.__new__" = true)
  (ymNotSo : PySem.W.keepIn K (.ref E_NotSo) = true)
  (ynNotEven : PySem.W.nsIn K mainGlobals "NotEven" = some (some (.ref E_NotEven)))
  (yaNotEven : (PySem.W.clsIn K E_NotEven).isSome = true)
  (ybNotEven : PySem.W.findIn K (.ref E_NotEven) "__getattribute__" = some (some (.builtin "BaseException.__getattribute__")))
  (ycNotEven : PySem.W.findIn K (.ref E_NotEven) "__getattr__" = some none)
  (ydNotEven : PySem.W.subIn K (.ref E_NotEven) (.type "BaseException") = some true)
  (yeNotEven : PySem.W.hasDictIn K E_NotEven = true)
  (yfNotEven : PySem.W.findIn K (.ref E_NotEven) "__class__" = some (some (.builtin "object.__class__")))
  (ygNotEven : PySem.W.mroIn K E_NotEven (.type "object") = some true)
  (yhNotEven : PySem.W.typeIn K (.ref E_NotEven) = some (.type "type"))
  (yiNotEven : PySem.W.kitOne K (.ref E_NotEven) (.type "ValueError") = some true)
  (ykNotEven_BadPlan : PySem.W.kitOne K (.ref E_NotEven) (.ref E_BadPlan) = some false)
  (ykNotEven_BadPlans : PySem.W.kitOne K (.ref E_NotEven) (.ref E_BadPlans) = some false)
  (ykNotEven_BadNumber : PySem.W.kitOne K (.ref E_NotEven) (.ref E_BadNumber) = some false)
  (ykNotEven_BadSide : PySem.W.kitOne K (.ref E_NotEven) (.ref E_BadSide) = some false)
  (ykNotEven_BadRule : PySem.W.kitOne K (.ref E_NotEven) (.ref E_BadRule) = some false)
  (ykNotEven_BadRules : PySem.W.kitOne K (.ref E_NotEven) (.ref E_BadRules) = some false)
  (ykNotEven_BadBook : PySem.W.kitOne K (.ref E_NotEven) (.ref E_BadBook) = some false)
  (ykNotEven_BadThing : PySem.W.kitOne K (.ref E_NotEven) (.ref E_BadThing) = some false)
  (ykNotEven_NoPlans : PySem.W.kitOne K (.ref E_NotEven) (.ref E_NoPlans) = some false)
  (ykNotEven_NoRule : PySem.W.kitOne K (.ref E_NotEven) (.ref E_NoRule) = some false)
  (ykNotEven_BadLot : PySem.W.kitOne K (.ref E_NotEven) (.ref E_BadLot) = some false)
  (ykNotEven_TooMany : PySem.W.kitOne K (.ref E_NotEven) (.ref E_TooMany) = some false)
  (ykNotEven_OtherThings : PySem.W.kitOne K (.ref E_NotEven) (.ref E_OtherThings) = some false)
  (ykNotEven_NotSo : PySem.W.kitOne K (.ref E_NotEven) (.ref E_NotSo) = some false)
  (ykNotEven_NotEven : PySem.W.kitOne K (.ref E_NotEven) (.ref E_NotEven) = some true)
  (ykNotEven_BadTable : PySem.W.kitOne K (.ref E_NotEven) (.ref E_BadTable) = some false)
  (ykNotEven_NothingDone : PySem.W.kitOne K (.ref E_NotEven) (.ref E_NothingDone) = some false)
  (ykNotEven_BadText : PySem.W.kitOne K (.ref E_NotEven) (.ref E_BadText) = some false)
  (ykNotEven_BadChoice : PySem.W.kitOne K (.ref E_NotEven) (.ref E_BadChoice) = some false)
  (ykNotEven_PlanError : PySem.W.kitOne K (.ref E_NotEven) (.ref E_PlanError) = some true)
  (ylNotEven : PySem.W.excIn K E_NotEven [.type "ValueError", .type "Exception", .type "BaseException", .type "object"] "ValueError.__new__" = true)
  (ymNotEven : PySem.W.keepIn K (.ref E_NotEven) = true)
  (ynBadTable : PySem.W.nsIn K mainGlobals "BadTable" = some (some (.ref E_BadTable)))
  (yaBadTable : (PySem.W.clsIn K E_BadTable).isSome = true)
  (ybBadTable : PySem.W.findIn K (.ref E_BadTable) "__getattribute__" = some (some (.builtin "BaseException.__getattribute__")))
  (ycBadTable : PySem.W.findIn K (.ref E_BadTable) "__getattr__" = some none)
  (ydBadTable : PySem.W.subIn K (.ref E_BadTable) (.type "BaseException") = some true)
  (yeBadTable : PySem.W.hasDictIn K E_BadTable = true)
  (yfBadTable : PySem.W.findIn K (.ref E_BadTable) "__class__" = some (some (.builtin "object.__class__")))
  (ygBadTable : PySem.W.mroIn K E_BadTable (.type "object") = some true)
  (yhBadTable : PySem.W.typeIn K (.ref E_BadTable) = some (.type "type"))
  (yiBadTable : PySem.W.kitOne K (.ref E_BadTable) (.type "ValueError") = some true)
  (ypBadTable_name : PySem.W.findIn K (.ref E_BadTable) "name" = some none)
  (ykBadTable_BadPlan : PySem.W.kitOne K (.ref E_BadTable) (.ref E_BadPlan) = some false)
  (ykBadTable_BadPlans : PySem.W.kitOne K (.ref E_BadTable) (.ref E_BadPlans) = some false)
  (ykBadTable_BadNumber : PySem.W.kitOne K (.ref E_BadTable) (.ref E_BadNumber) = some false)
  (ykBadTable_BadSide : PySem.W.kitOne K (.ref E_BadTable) (.ref E_BadSide) = some false)
  (ykBadTable_BadRule : PySem.W.kitOne K (.ref E_BadTable) (.ref E_BadRule) = some false)
  (ykBadTable_BadRules : PySem.W.kitOne K (.ref E_BadTable) (.ref E_BadRules) = some false)
  (ykBadTable_BadBook : PySem.W.kitOne K (.ref E_BadTable) (.ref E_BadBook) = some false)
  (ykBadTable_BadThing : PySem.W.kitOne K (.ref E_BadTable) (.ref E_BadThing) = some false)
  (ykBadTable_NoPlans : PySem.W.kitOne K (.ref E_BadTable) (.ref E_NoPlans) = some false)
  (ykBadTable_NoRule : PySem.W.kitOne K (.ref E_BadTable) (.ref E_NoRule) = some false)
  (ykBadTable_BadLot : PySem.W.kitOne K (.ref E_BadTable) (.ref E_BadLot) = some false)
  (ykBadTable_TooMany : PySem.W.kitOne K (.ref E_BadTable) (.ref E_TooMany) = some false)
  (ykBadTable_OtherThings : PySem.W.kitOne K (.ref E_BadTable) (.ref E_OtherThings) = some false)
  (ykBadTable_NotSo : PySem.W.kitOne K (.ref E_BadTable) (.ref E_NotSo) = some false)
  (ykBadTable_NotEven : PySem.W.kitOne K (.ref E_BadTable) (.ref E_NotEven) = some false)
  (ykBadTable_BadTable : PySem.W.kitOne K (.ref E_BadTable) (.ref E_BadTable) = some true)
  (ykBadTable_NothingDone : PySem.W.kitOne K (.ref E_BadTable) (.ref E_NothingDone) = some false)
  (ykBadTable_BadText : PySem.W.kitOne K (.ref E_BadTable) (.ref E_BadText) = some false)
  (ykBadTable_BadChoice : PySem.W.kitOne K (.ref E_BadTable) (.ref E_BadChoice) = some false)
  (ykBadTable_PlanError : PySem.W.kitOne K (.ref E_BadTable) (.ref E_PlanError) = some true)
  (ynNothingDone : PySem.W.nsIn K mainGlobals "NothingDone" = some (some (.ref E_NothingDone)))
  (yaNothingDone : (PySem.W.clsIn K E_NothingDone).isSome = true)
  (ybNothingDone : PySem.W.findIn K (.ref E_NothingDone) "__getattribute__" = some (some (.builtin "BaseException.__getattribute__")))
  (ycNothingDone : PySem.W.findIn K (.ref E_NothingDone) "__getattr__" = some none)
  (ydNothingDone : PySem.W.subIn K (.ref E_NothingDone) (.type "BaseException") = some true)
  (yeNothingDone : PySem.W.hasDictIn K E_NothingDone = true)
  (yfNothingDone : PySem.W.findIn K (.ref E_NothingDone) "__class__" = some (some (.builtin "object.__class__")))
  (ygNothingDone : PySem.W.mroIn K E_NothingDone (.type "object") = some true)
  (yhNothingDone : PySem.W.typeIn K (.ref E_NothingDone) = some (.type "type"))
  (yiNothingDone : PySem.W.kitOne K (.ref E_NothingDone) (.type "ValueError") = some true)
  (ykNothingDone_BadPlan : PySem.W.kitOne K (.ref E_NothingDone) (.ref E_BadPlan) = some false)
  (ykNothingDone_BadPlans : PySem.W.kitOne K (.ref E_NothingDone) (.ref E_BadPlans) = some false)
  (ykNothingDone_BadNumber : PySem.W.kitOne K (.ref E_NothingDone) (.ref E_BadNumber) = some false)
  (ykNothingDone_BadSide : PySem.W.kitOne K (.ref E_NothingDone) (.ref E_BadSide) = some false)
  (ykNothingDone_BadRule : PySem.W.kitOne K (.ref E_NothingDone) (.ref E_BadRule) = some false)
  (ykNothingDone_BadRules : PySem.W.kitOne K (.ref E_NothingDone) (.ref E_BadRules) = some false)
  (ykNothingDone_BadBook : PySem.W.kitOne K (.ref E_NothingDone) (.ref E_BadBook) = some false)
  (ykNothingDone_BadThing : PySem.W.kitOne K (.ref E_NothingDone) (.ref E_BadThing) = some false)
  (ykNothingDone_NoPlans : PySem.W.kitOne K (.ref E_NothingDone) (.ref E_NoPlans) = some false)
  (ykNothingDone_NoRule : PySem.W.kitOne K (.ref E_NothingDone) (.ref E_NoRule) = some false)
  (ykNothingDone_BadLot : PySem.W.kitOne K (.ref E_NothingDone) (.ref E_BadLot) = some false)
  (ykNothingDone_TooMany : PySem.W.kitOne K (.ref E_NothingDone) (.ref E_TooMany) = some false)
  (ykNothingDone_OtherThings : PySem.W.kitOne K (.ref E_NothingDone) (.ref E_OtherThings) = some false)
  (ykNothingDone_NotSo : PySem.W.kitOne K (.ref E_NothingDone) (.ref E_NotSo) = some false)
  (ykNothingDone_NotEven : PySem.W.kitOne K (.ref E_NothingDone) (.ref E_NotEven) = some false)
  (ykNothingDone_BadTable : PySem.W.kitOne K (.ref E_NothingDone) (.ref E_BadTable) = some false)
  (ykNothingDone_NothingDone : PySem.W.kitOne K (.ref E_NothingDone) (.ref E_NothingDone) = some true)
  (ykNothingDone_BadText : PySem.W.kitOne K (.ref E_NothingDone) (.ref E_BadText) = some false)
  (ykNothingDone_BadChoice : PySem.W.kitOne K (.ref E_NothingDone) (.ref E_BadChoice) = some false)
  (ykNothingDone_PlanError : PySem.W.kitOne K (.ref E_NothingDone) (.ref E_PlanError) = some true)
  (ylNothingDone : PySem.W.excIn K E_NothingDone [.type "ValueError", .type "Exception", .type "BaseException", .type "object"] "ValueError.__new__" = true)
  (ymNothingDone : PySem.W.keepIn K (.ref E_NothingDone) = true)
  (ynBadText : PySem.W.nsIn K mainGlobals "BadText" = some (some (.ref E_BadText)))
  (yaBadText : (PySem.W.clsIn K E_BadText).isSome = true)
  (ybBadText : PySem.W.findIn K (.ref E_BadText) "__getattribute__" = some (some (.builtin "BaseException.__getattribute__")))
  (ycBadText : PySem.W.findIn K (.ref E_BadText) "__getattr__" = some none)
  (ydBadText : PySem.W.subIn K (.ref E_BadText) (.type "BaseException") = some true)
  (yeBadText : PySem.W.hasDictIn K E_BadText = true)
  (yfBadText : PySem.W.findIn K (.ref E_BadText) "__class__" = some (some (.builtin "object.__class__")))
  (ygBadText : PySem.W.mroIn K E_BadText (.type "object") = some true)
  (yhBadText : PySem.W.typeIn K (.ref E_BadText) = some (.type "type"))
  (yiBadText : PySem.W.kitOne K (.ref E_BadText) (.type "ValueError") = some true)
  (ypBadText_line : PySem.W.findIn K (.ref E_BadText) "line" = some none)
  (ykBadText_BadPlan : PySem.W.kitOne K (.ref E_BadText) (.ref E_BadPlan) = some false)
  (ykBadText_BadPlans : PySem.W.kitOne K (.ref E_BadText) (.ref E_BadPlans) = some false)
  (ykBadText_BadNumber : PySem.W.kitOne K (.ref E_BadText) (.ref E_BadNumber) = some false)
  (ykBadText_BadSide : PySem.W.kitOne K (.ref E_BadText) (.ref E_BadSide) = some false)
  (ykBadText_BadRule : PySem.W.kitOne K (.ref E_BadText) (.ref E_BadRule) = some false)
  (ykBadText_BadRules : PySem.W.kitOne K (.ref E_BadText) (.ref E_BadRules) = some false)
  (ykBadText_BadBook : PySem.W.kitOne K (.ref E_BadText) (.ref E_BadBook) = some false)
  (ykBadText_BadThing : PySem.W.kitOne K (.ref E_BadText) (.ref E_BadThing) = some false)
  (ykBadText_NoPlans : PySem.W.kitOne K (.ref E_BadText) (.ref E_NoPlans) = some false)
  (ykBadText_NoRule : PySem.W.kitOne K (.ref E_BadText) (.ref E_NoRule) = some false)
  (ykBadText_BadLot : PySem.W.kitOne K (.ref E_BadText) (.ref E_BadLot) = some false)
  (ykBadText_TooMany : PySem.W.kitOne K (.ref E_BadText) (.ref E_TooMany) = some false)
  (ykBadText_OtherThings : PySem.W.kitOne K (.ref E_BadText) (.ref E_OtherThings) = some false)
  (ykBadText_NotSo : PySem.W.kitOne K (.ref E_BadText) (.ref E_NotSo) = some false)
  (ykBadText_NotEven : PySem.W.kitOne K (.ref E_BadText) (.ref E_NotEven) = some false)
  (ykBadText_BadTable : PySem.W.kitOne K (.ref E_BadText) (.ref E_BadTable) = some false)
  (ykBadText_NothingDone : PySem.W.kitOne K (.ref E_BadText) (.ref E_NothingDone) = some false)
  (ykBadText_BadText : PySem.W.kitOne K (.ref E_BadText) (.ref E_BadText) = some true)
  (ykBadText_BadChoice : PySem.W.kitOne K (.ref E_BadText) (.ref E_BadChoice) = some false)
  (ykBadText_PlanError : PySem.W.kitOne K (.ref E_BadText) (.ref E_PlanError) = some true)
  (ynBadChoice : PySem.W.nsIn K mainGlobals "BadChoice" = some (some (.ref E_BadChoice)))
  (yaBadChoice : (PySem.W.clsIn K E_BadChoice).isSome = true)
  (ybBadChoice : PySem.W.findIn K (.ref E_BadChoice) "__getattribute__" = some (some (.builtin "BaseException.__getattribute__")))
  (ycBadChoice : PySem.W.findIn K (.ref E_BadChoice) "__getattr__" = some none)
  (ydBadChoice : PySem.W.subIn K (.ref E_BadChoice) (.type "BaseException") = some true)
  (yeBadChoice : PySem.W.hasDictIn K E_BadChoice = true)
  (yfBadChoice : PySem.W.findIn K (.ref E_BadChoice) "__class__" = some (some (.builtin "object.__class__")))
  (ygBadChoice : PySem.W.mroIn K E_BadChoice (.type "object") = some true)
  (yhBadChoice : PySem.W.typeIn K (.ref E_BadChoice) = some (.type "type"))
  (yiBadChoice : PySem.W.kitOne K (.ref E_BadChoice) (.type "ValueError") = some true)
  (ykBadChoice_BadPlan : PySem.W.kitOne K (.ref E_BadChoice) (.ref E_BadPlan) = some false)
  (ykBadChoice_BadPlans : PySem.W.kitOne K (.ref E_BadChoice) (.ref E_BadPlans) = some false)
  (ykBadChoice_BadNumber : PySem.W.kitOne K (.ref E_BadChoice) (.ref E_BadNumber) = some false)
  (ykBadChoice_BadSide : PySem.W.kitOne K (.ref E_BadChoice) (.ref E_BadSide) = some false)
  (ykBadChoice_BadRule : PySem.W.kitOne K (.ref E_BadChoice) (.ref E_BadRule) = some false)
  (ykBadChoice_BadRules : PySem.W.kitOne K (.ref E_BadChoice) (.ref E_BadRules) = some false)
  (ykBadChoice_BadBook : PySem.W.kitOne K (.ref E_BadChoice) (.ref E_BadBook) = some false)
  (ykBadChoice_BadThing : PySem.W.kitOne K (.ref E_BadChoice) (.ref E_BadThing) = some false)
  (ykBadChoice_NoPlans : PySem.W.kitOne K (.ref E_BadChoice) (.ref E_NoPlans) = some false)
  (ykBadChoice_NoRule : PySem.W.kitOne K (.ref E_BadChoice) (.ref E_NoRule) = some false)
  (ykBadChoice_BadLot : PySem.W.kitOne K (.ref E_BadChoice) (.ref E_BadLot) = some false)
  (ykBadChoice_TooMany : PySem.W.kitOne K (.ref E_BadChoice) (.ref E_TooMany) = some false)
  (ykBadChoice_OtherThings : PySem.W.kitOne K (.ref E_BadChoice) (.ref E_OtherThings) = some false)
  (ykBadChoice_NotSo : PySem.W.kitOne K (.ref E_BadChoice) (.ref E_NotSo) = some false)
  (ykBadChoice_NotEven : PySem.W.kitOne K (.ref E_BadChoice) (.ref E_NotEven) = some false)
  (ykBadChoice_BadTable : PySem.W.kitOne K (.ref E_BadChoice) (.ref E_BadTable) = some false)
  (ykBadChoice_NothingDone : PySem.W.kitOne K (.ref E_BadChoice) (.ref E_NothingDone) = some false)
  (ykBadChoice_BadText : PySem.W.kitOne K (.ref E_BadChoice) (.ref E_BadText) = some false)
  (ykBadChoice_BadChoice : PySem.W.kitOne K (.ref E_BadChoice) (.ref E_BadChoice) = some true)
  (ykBadChoice_PlanError : PySem.W.kitOne K (.ref E_BadChoice) (.ref E_PlanError) = some true)
  (ylBadChoice : PySem.W.excIn K E_BadChoice [.type "ValueError", .type "Exception", .type "BaseException", .type "object"] "ValueError.__new__" = true)
  (ymBadChoice : PySem.W.keepIn K (.ref E_BadChoice) = true)
  (ynPlanError : PySem.W.nsIn K mainGlobals "PlanError" = some (some (.ref E_PlanError)))
  (yaPlanError : (PySem.W.clsIn K E_PlanError).isSome = true)
  (ybPlanError : PySem.W.findIn K (.ref E_PlanError) "__getattribute__" = some (some (.builtin "BaseException.__getattribute__")))
  (ycPlanError : PySem.W.findIn K (.ref E_PlanError) "__getattr__" = some none)
  (ydPlanError : PySem.W.subIn K (.ref E_PlanError) (.type "BaseException") = some true)
  (yePlanError : PySem.W.hasDictIn K E_PlanError = true)
  (yfPlanError : PySem.W.findIn K (.ref E_PlanError) "__class__" = some (some (.builtin "object.__class__")))
  (ygPlanError : PySem.W.mroIn K E_PlanError (.type "object") = some true)
  (yhPlanError : PySem.W.typeIn K (.ref E_PlanError) = some (.type "type"))
  (yiPlanError : PySem.W.kitOne K (.ref E_PlanError) (.type "ValueError") = some true)
  (ykPlanError_BadPlan : PySem.W.kitOne K (.ref E_PlanError) (.ref E_BadPlan) = some false)
  (ykPlanError_BadPlans : PySem.W.kitOne K (.ref E_PlanError) (.ref E_BadPlans) = some false)
  (ykPlanError_BadNumber : PySem.W.kitOne K (.ref E_PlanError) (.ref E_BadNumber) = some false)
  (ykPlanError_BadSide : PySem.W.kitOne K (.ref E_PlanError) (.ref E_BadSide) = some false)
  (ykPlanError_BadRule : PySem.W.kitOne K (.ref E_PlanError) (.ref E_BadRule) = some false)
  (ykPlanError_BadRules : PySem.W.kitOne K (.ref E_PlanError) (.ref E_BadRules) = some false)
  (ykPlanError_BadBook : PySem.W.kitOne K (.ref E_PlanError) (.ref E_BadBook) = some false)
  (ykPlanError_BadThing : PySem.W.kitOne K (.ref E_PlanError) (.ref E_BadThing) = some false)
  (ykPlanError_NoPlans : PySem.W.kitOne K (.ref E_PlanError) (.ref E_NoPlans) = some false)
  (ykPlanError_NoRule : PySem.W.kitOne K (.ref E_PlanError) (.ref E_NoRule) = some false)
  (ykPlanError_BadLot : PySem.W.kitOne K (.ref E_PlanError) (.ref E_BadLot) = some false)
  (ykPlanError_TooMany : PySem.W.kitOne K (.ref E_PlanError) (.ref E_TooMany) = some false)
  (ykPlanError_OtherThings : PySem.W.kitOne K (.ref E_PlanError) (.ref E_OtherThings) = some false)
  (ykPlanError_NotSo : PySem.W.kitOne K (.ref E_PlanError) (.ref E_NotSo) = some false)
  (ykPlanError_NotEven : PySem.W.kitOne K (.ref E_PlanError) (.ref E_NotEven) = some false)
  (ykPlanError_BadTable : PySem.W.kitOne K (.ref E_PlanError) (.ref E_BadTable) = some false)
  (ykPlanError_NothingDone : PySem.W.kitOne K (.ref E_PlanError) (.ref E_NothingDone) = some false)
  (ykPlanError_BadText : PySem.W.kitOne K (.ref E_PlanError) (.ref E_BadText) = some false)
  (ykPlanError_BadChoice : PySem.W.kitOne K (.ref E_PlanError) (.ref E_BadChoice) = some false)
  (ykPlanError_PlanError : PySem.W.kitOne K (.ref E_PlanError) (.ref E_PlanError) = some true)
  (ylPlanError : PySem.W.excIn K E_PlanError [.type "ValueError", .type "Exception", .type "BaseException", .type "object"] "ValueError.__new__" = true)
  (ymPlanError : PySem.W.keepIn K (.ref E_PlanError) = true)
  (ri_BadBook : RaA l.prog K mg E_BadBook "part")
  (ri_BadPlans : RaA l.prog K mg E_BadPlans "at")
  (ri_BadRules : RaA l.prog K mg E_BadRules "at")
  (ri_BadTable : RaA l.prog K mg E_BadTable "name")
  (ri_BadText : RaA l.prog K mg E_BadText "line")
  (ri_BadThing : RaA l.prog K mg E_BadThing "thing")
  (ri_NoRule : RaA l.prog K mg E_NoRule "at")
  (ri_TooMany : RaA l.prog K mg E_TooMany "most")
  (rj_BadBook : RaK l.prog K mg E_BadBook "part")
  (rj_BadPlans : RaK l.prog K mg E_BadPlans "at")
  (rj_BadRules : RaK l.prog K mg E_BadRules "at")
  (rj_BadTable : RaK l.prog K mg E_BadTable "name")
  (rj_BadText : RaK l.prog K mg E_BadText "line")
  (rj_BadThing : RaK l.prog K mg E_BadThing "thing")
  (rj_NoRule : RaK l.prog K mg E_NoRule "at")
  (rj_TooMany : RaK l.prog K mg E_TooMany "most")
  (qhn : PySem.W.specialIn K (.builtin "object.__class__") "__get__" = some (some (.builtin "getset_descriptor.__get__")))
  (qhtk : PySem.W.takesIn K (.builtin "object.__class__") = some true)
  (q0 : QF K mg "_law_begun" "_law_begun" s__law_begun f0 fd0)
  (q1 : QF K mg "_law_draw" "_law_draw" s__law_draw f1 fd1)
  (q2 : QF K mg "_law_pick" "_law_pick" s__law_pick f2 fd2)
  (q3 : QF K mg "_law_odd" "_law_odd" s__law_odd f3 fd3)
  (q4 : QF K mg "_law_marks" "_law_marks" s__law_marks f4 fd4)
  (q5 : QF K mg "_law_apart" "_law_apart" s__law_apart f5 fd5)
  (a6 : PySem.W.nsIn K mainGlobals "law" = some (some (.ref f6)))
  (l6 : K.lookup f6 = some ⟨oc6, od6, .func (PySem.W.fnOf "law" "law" (defArgs s_law) (defBody s_law) (defScope s_law) .none kV6 dc6 pm6 an6 cd6 ct6), sl6⟩)
  (c6 : PySem.W.codeIn K cd6 "law" = true)
  (k6 : PySem.W.keepIn K (.ref f6) = true)
  (b_ValueError : PySem.W.nsIn K mainGlobals "ValueError" = some none)
  (b_abs : PySem.W.nsIn K mainGlobals "abs" = some none)
  (b_enumerate : PySem.W.nsIn K mainGlobals "enumerate" = some none)
  (b_int : PySem.W.nsIn K mainGlobals "int" = some none)
  (b_isinstance : PySem.W.nsIn K mainGlobals "isinstance" = some none)
  (b_len : PySem.W.nsIn K mainGlobals "len" = some none)
  (b_min : PySem.W.nsIn K mainGlobals "min" = some none)
  (b_range : PySem.W.nsIn K mainGlobals "range" = some none)
  (b_repr : PySem.W.nsIn K mainGlobals "repr" = some none)
  (n_Book : PySem.W.nsIn K mainGlobals "Book" = some none)
  (n_Plans : PySem.W.nsIn K mainGlobals "Plans" = some none)
  (n_RoundBook : PySem.W.nsIn K mainGlobals "RoundBook" = some none)
  (n_Stand : PySem.W.nsIn K mainGlobals "Stand" = some none)
  (n_Held : PySem.W.nsIn K mainGlobals "Held" = some none)
  (n_Live : PySem.W.nsIn K mainGlobals "Live" = some none)
  (n_Desk : PySem.W.nsIn K mainGlobals "Desk" = some none) :
  ∃ fd : FuncData, (∀ (s : Shared) (v : Value), BindsTo s fd ⟨[v], []⟩ [("_law_script", v)]) ∧ ∀ base : Heap, K.In base → base.Ns mainGlobals mg → (∀ p ∈ cs, LamX.TabB base mg p.1 p.2) → FnG l.prog w K mg base 4 fa fd ["_law_script"] (a1g ⟨K, mg, w⟩) := by
 have e := hfa.symm.trans (PySem.W.mg_of X G a6)
 cases e
 have byC : ∀ (Pr : Str → Addr → Prop), ∀ nm C, a0o nm = true → mg nm = some (.ref C) → Pr nm C := fun Pr nm C hi hm => by
  have hi : nm ∈ (["Book", "Plans", "RoundBook", "Stand", "Held", "Live", "Desk"] : List Str) := of_decide_eq_true hi
  simp only [List.mem_cons, List.not_mem_nil, or_false] at hi
  rcases hi with rfl | rfl | rfl | rfl | rfl | rfl | rfl
  ·exact absurd (hm.symm.trans (PySem.W.mg_none_of X G n_Book)) (fun z => by cases z)
  ·exact absurd (hm.symm.trans (PySem.W.mg_none_of X G n_Plans)) (fun z => by cases z)
  ·exact absurd (hm.symm.trans (PySem.W.mg_none_of X G n_RoundBook)) (fun z => by cases z)
  ·exact absurd (hm.symm.trans (PySem.W.mg_none_of X G n_Stand)) (fun z => by cases z)
  ·exact absurd (hm.symm.trans (PySem.W.mg_none_of X G n_Held)) (fun z => by cases z)
  ·exact absurd (hm.symm.trans (PySem.W.mg_none_of X G n_Live)) (fun z => by cases z)
  ·exact absurd (hm.symm.trans (PySem.W.mg_none_of X G n_Desk)) (fun z => by cases z)
 have mE_BadPlan : mg "BadPlan" = some (.ref E_BadPlan) := PySem.W.mg_of X G ynBadPlan
 have mE_BadPlans : mg "BadPlans" = some (.ref E_BadPlans) := PySem.W.mg_of X G ynBadPlans
 have mE_BadNumber : mg "BadNumber" = some (.ref E_BadNumber) := PySem.W.mg_of X G ynBadNumber
 have mE_BadSide : mg "BadSide" = some (.ref E_BadSide) := PySem.W.mg_of X G ynBadSide
 have mE_BadRule : mg "BadRule" = some (.ref E_BadRule) := PySem.W.mg_of X G ynBadRule
 have mE_BadRules : mg "BadRules" = some (.ref E_BadRules) := PySem.W.mg_of X G ynBadRules
 have mE_BadBook : mg "BadBook" = some (.ref E_BadBook) := PySem.W.mg_of X G ynBadBook
 have mE_BadThing : mg "BadThing" = some (.ref E_BadThing) := PySem.W.mg_of X G ynBadThing
 have mE_NoPlans : mg "NoPlans" = some (.ref E_NoPlans) := PySem.W.mg_of X G ynNoPlans
 have mE_NoRule : mg "NoRule" = some (.ref E_NoRule) := PySem.W.mg_of X G ynNoRule
 have mE_BadLot : mg "BadLot" = some (.ref E_BadLot) := PySem.W.mg_of X G ynBadLot
 have mE_TooMany : mg "TooMany" = some (.ref E_TooMany) := PySem.W.mg_of X G ynTooMany
 have mE_OtherThings : mg "OtherThings" = some (.ref E_OtherThings) := PySem.W.mg_of X G ynOtherThings
 have mE_NotSo : mg "NotSo" = some (.ref E_NotSo) := PySem.W.mg_of X G ynNotSo
 have mE_NotEven : mg "NotEven" = some (.ref E_NotEven) := PySem.W.mg_of X G ynNotEven
 have mE_BadTable : mg "BadTable" = some (.ref E_BadTable) := PySem.W.mg_of X G ynBadTable
 have mE_NothingDone : mg "NothingDone" = some (.ref E_NothingDone) := PySem.W.mg_of X G ynNothingDone
 have mE_BadText : mg "BadText" = some (.ref E_BadText) := PySem.W.mg_of X G ynBadText
 have mE_BadChoice : mg "BadChoice" = some (.ref E_BadChoice) := PySem.W.mg_of X G ynBadChoice
 have mE_PlanError : mg "PlanError" = some (.ref E_PlanError) := PySem.W.mg_of X G ynPlanError
 have byE : ∀ (Pr : Str → Addr → Prop) (_ : Pr "BadPlan" E_BadPlan) (_ : Pr "BadPlans" E_BadPlans) (_ : Pr "BadNumber" E_BadNumber) (_ : Pr "BadSide" E_BadSide) (_ : Pr "BadRule" E_BadRule) (_ : Pr "BadRules" E_BadRules) (_ : Pr "BadBook" E_BadBook) (_ : Pr "BadThing" E_BadThing) (_ : Pr "NoPlans" E_NoPlans) (_ : Pr "NoRule" E_NoRule) (_ : Pr "BadLot" E_BadLot) (_ : Pr "TooMany" E_TooMany) (_ : Pr "OtherThings" E_OtherThings) (_ : Pr "NotSo" E_NotSo) (_ : Pr "NotEven" E_NotEven) (_ : Pr "BadTable" E_BadTable) (_ : Pr "NothingDone" E_NothingDone) (_ : Pr "BadText" E_BadText) (_ : Pr "BadChoice" E_BadChoice) (_ : Pr "PlanError" E_PlanError), ∀ nm ∈ (["BadPlan", "BadPlans", "BadNumber", "BadSide", "BadRule", "BadRules", "BadBook", "BadThing", "NoPlans", "NoRule", "BadLot", "TooMany", "OtherThings", "NotSo", "NotEven", "BadTable", "NothingDone", "BadText", "BadChoice", "PlanError"] : List Str), ∀ C, mg nm = some (.ref C) → Pr nm C := fun Pr p_BadPlan p_BadPlans p_BadNumber p_BadSide p_BadRule p_BadRules p_BadBook p_BadThing p_NoPlans p_NoRule p_BadLot p_TooMany p_OtherThings p_NotSo p_NotEven p_BadTable p_NothingDone p_BadText p_BadChoice p_PlanError nm hi C hm => by
  simp only [List.mem_cons, List.not_mem_nil, or_false] at hi
  rcases hi with rfl | rfl | rfl | rfl | rfl | rfl | rfl | rfl | rfl | rfl | rfl | rfl | rfl | rfl | rfl | rfl | rfl | rfl | rfl | rfl
  ·have e := mE_BadPlan.symm.trans hm; cases e; exact p_BadPlan
  ·have e := mE_BadPlans.symm.trans hm; cases e; exact p_BadPlans
  ·have e := mE_BadNumber.symm.trans hm; cases e; exact p_BadNumber
  ·have e := mE_BadSide.symm.trans hm; cases e; exact p_BadSide
  ·have e := mE_BadRule.symm.trans hm; cases e; exact p_BadRule
  ·have e := mE_BadRules.symm.trans hm; cases e; exact p_BadRules
  ·have e := mE_BadBook.symm.trans hm; cases e; exact p_BadBook
  ·have e := mE_BadThing.symm.trans hm; cases e; exact p_BadThing
  ·have e := mE_NoPlans.symm.trans hm; cases e; exact p_NoPlans
  ·have e := mE_NoRule.symm.trans hm; cases e; exact p_NoRule
  ·have e := mE_BadLot.symm.trans hm; cases e; exact p_BadLot
  ·have e := mE_TooMany.symm.trans hm; cases e; exact p_TooMany
  ·have e := mE_OtherThings.symm.trans hm; cases e; exact p_OtherThings
  ·have e := mE_NotSo.symm.trans hm; cases e; exact p_NotSo
  ·have e := mE_NotEven.symm.trans hm; cases e; exact p_NotEven
  ·have e := mE_BadTable.symm.trans hm; cases e; exact p_BadTable
  ·have e := mE_NothingDone.symm.trans hm; cases e; exact p_NothingDone
  ·have e := mE_BadText.symm.trans hm; cases e; exact p_BadText
  ·have e := mE_BadChoice.symm.trans hm; cases e; exact p_BadChoice
  ·have e := mE_PlanError.symm.trans hm; cases e; exact p_PlanError
 have AE : a3A ⟨K, mg, w⟩ ["BadPlan", "BadPlans", "BadNumber", "BadSide", "BadRule", "BadRules", "BadBook", "BadThing", "NoPlans", "NoRule", "BadLot", "TooMany", "OtherThings", "NotSo", "NotEven", "BadTable", "NothingDone", "BadText", "BadChoice", "PlanError"] := ⟨byE (fun _ C => a3K K C) ⟨yaBadPlan, ybBadPlan, ycBadPlan, ydBadPlan, yeBadPlan, yfBadPlan, qhn, qhtk, ygBadPlan, yhBadPlan⟩ ⟨yaBadPlans, ybBadPlans, ycBadPlans, ydBadPlans, yeBadPlans, yfBadPlans, qhn, qhtk, ygBadPlans, yhBadPlans⟩ ⟨yaBadNumber, ybBadNumber, ycBadNumber, ydBadNumber, yeBadNumber, yfBadNumber, qhn, qhtk, ygBadNumber, yhBadNumber⟩ ⟨yaBadSide, ybBadSide, ycBadSide, ydBadSide, yeBadSide, yfBadSide, qhn, qhtk, ygBadSide, yhBadSide⟩ ⟨yaBadRule, ybBadRule, ycBadRule, ydBadRule, yeBadRule, yfBadRule, qhn, qhtk, ygBadRule, yhBadRule⟩ ⟨yaBadRules, ybBadRules, ycBadRules, ydBadRules, yeBadRules, yfBadRules, qhn, qhtk, ygBadRules, yhBadRules⟩ ⟨yaBadBook, ybBadBook, ycBadBook, ydBadBook, yeBadBook, yfBadBook, qhn, qhtk, ygBadBook, yhBadBook⟩ ⟨yaBadThing, ybBadThing, ycBadThing, ydBadThing, yeBadThing, yfBadThing, qhn, qhtk, ygBadThing, yhBadThing⟩ ⟨yaNoPlans, ybNoPlans, ycNoPlans, ydNoPlans, yeNoPlans, yfNoPlans, qhn, qhtk, ygNoPlans, yhNoPlans⟩ ⟨yaNoRule, ybNoRule, ycNoRule, ydNoRule, yeNoRule, yfNoRule, qhn, qhtk, ygNoRule, yhNoRule⟩ ⟨yaBadLot, ybBadLot, ycBadLot, ydBadLot, yeBadLot, yfBadLot, qhn, qhtk, ygBadLot, yhBadLot⟩ ⟨yaTooMany, ybTooMany, ycTooMany, ydTooMany, yeTooMany, yfTooMany, qhn, qhtk, ygTooMany, yhTooMany⟩ ⟨yaOtherThings, ybOtherThings, ycOtherThings, ydOtherThings, yeOtherThings, yfOtherThings, qhn, qhtk, ygOtherThings, yhOtherThings⟩ ⟨yaNotSo, ybNotSo, ycNotSo, ydNotSo, yeNotSo, yfNotSo, qhn, qhtk, ygNotSo, yhNotSo⟩ ⟨yaNotEven, ybNotEven, ycNotEven, ydNotEven, yeNotEven, yfNotEven, qhn, qhtk, ygNotEven, yhNotEven⟩ ⟨yaBadTable, ybBadTable, ycBadTable, ydBadTable, yeBadTable, yfBadTable, qhn, qhtk, ygBadTable, yhBadTable⟩ ⟨yaNothingDone, ybNothingDone, ycNothingDone, ydNothingDone, yeNothingDone, yfNothingDone, qhn, qhtk, ygNothingDone, yhNothingDone⟩ ⟨yaBadText, ybBadText, ycBadText, ydBadText, yeBadText, yfBadText, qhn, qhtk, ygBadText, yhBadText⟩ ⟨yaBadChoice, ybBadChoice, ycBadChoice, ydBadChoice, yeBadChoice, yfBadChoice, qhn, qhtk, ygBadChoice, yhBadChoice⟩ ⟨yaPlanError, ybPlanError, ycPlanError, ydPlanError, yePlanError, yfPlanError, qhn, qhtk, ygPlanError, yhPlanError⟩, fun nm hi n2 hi2 C C2 m m2 => byE (fun nm C => ∀ n2 ∈ (["BadPlan", "BadPlans", "BadNumber", "BadSide", "BadRule", "BadRules", "BadBook", "BadThing", "NoPlans", "NoRule", "BadLot", "TooMany", "OtherThings", "NotSo", "NotEven", "BadTable", "NothingDone", "BadText", "BadChoice", "PlanError"] : List Str), ∀ C2, mg n2 = some (.ref C2) → PySem.W.kitOne K (.ref C) (.ref C2) = some (e9 nm n2)) (byE (fun n2 C2 => PySem.W.kitOne K (.ref E_BadPlan) (.ref C2) = some (e9 "BadPlan" n2)) (by rw [ykBadPlan_BadPlan]; decide +kernel) (by rw [ykBadPlan_BadPlans]; decide +kernel) (by rw [ykBadPlan_BadNumber]; decide +kernel) (by rw [ykBadPlan_BadSide]; decide +kernel) (by rw [ykBadPlan_BadRule]; decide +kernel) (by rw [ykBadPlan_BadRules]; decide +kernel) (by rw [ykBadPlan_BadBook]; decide +kernel) (by rw [ykBadPlan_BadThing]; decide +kernel) (by rw [ykBadPlan_NoPlans]; decide +kernel) (by rw [ykBadPlan_NoRule]; decide +kernel) (by rw [ykBadPlan_BadLot]; decide +kernel) (by rw [ykBadPlan_TooMany]; decide +kernel) (by rw [ykBadPlan_OtherThings]; decide +kernel) (by rw [ykBadPlan_NotSo]; decide +kernel) (by rw [ykBadPlan_NotEven]; decide +kernel) (by rw [ykBadPlan_BadTable]; decide +kernel) (by rw [ykBadPlan_NothingDone]; decide +kernel) (by rw [ykBadPlan_BadText]; decide +kernel) (by rw [ykBadPlan_BadChoice]; decide +kernel) (by rw [ykBadPlan_PlanError]; decide +kernel)) (byE (fun n2 C2 => PySem.W.kitOne K (.ref E_BadPlans) (.ref C2) = some (e9 "BadPlans" n2)) (by rw [ykBadPlans_BadPlan]; decide +kernel) (by rw [ykBadPlans_BadPlans]; decide +kernel) (by rw [ykBadPlans_BadNumber]; decide +kernel) (by rw [ykBadPlans_BadSide]; decide +kernel) (by rw [ykBadPlans_BadRule]; decide +kernel) (by rw [ykBadPlans_BadRules]; decide +kernel) (by rw [ykBadPlans_BadBook]; decide +kernel) (by rw [ykBadPlans_BadThing]; decide +kernel) (by rw [ykBadPlans_NoPlans]; decide +kernel) (by rw [ykBadPlans_NoRule]; decide +kernel) (by rw [ykBadPlans_BadLot]; decide +kernel) (by rw [ykBadPlans_TooMany]; decide +kernel) (by rw [ykBadPlans_OtherThings]; decide +kernel) (by rw [ykBadPlans_NotSo]; decide +kernel) (by rw [ykBadPlans_NotEven]; decide +kernel) (by rw [ykBadPlans_BadTable]; decide +kernel) (by rw [ykBadPlans_NothingDone]; decide +kernel) (by rw [ykBadPlans_BadText]; decide +kernel) (by rw [ykBadPlans_BadChoice]; decide +kernel) (by rw [ykBadPlans_PlanError]; decide +kernel)) (byE (fun n2 C2 => PySem.W.kitOne K (.ref E_BadNumber) (.ref C2) = some (e9 "BadNumber" n2)) (by rw [ykBadNumber_BadPlan]; decide +kernel) (by rw [ykBadNumber_BadPlans]; decide +kernel) (by rw [ykBadNumber_BadNumber]; decide +kernel) (by rw [ykBadNumber_BadSide]; decide +kernel) (by rw [ykBadNumber_BadRule]; decide +kernel) (by rw [ykBadNumber_BadRules]; decide +kernel) (by rw [ykBadNumber_BadBook]; decide +kernel) (by rw [ykBadNumber_BadThing]; decide +kernel) (by rw [ykBadNumber_NoPlans]; decide +kernel) (by rw [ykBadNumber_NoRule]; decide +kernel) (by rw [ykBadNumber_BadLot]; decide +kernel) (by rw [ykBadNumber_TooMany]; decide +kernel) (by rw [ykBadNumber_OtherThings]; decide +kernel) (by rw [ykBadNumber_NotSo]; decide +kernel) (by rw [ykBadNumber_NotEven]; decide +kernel) (by rw [ykBadNumber_BadTable]; decide +kernel) (by rw [ykBadNumber_NothingDone]; decide +kernel) (by rw [ykBadNumber_BadText]; decide +kernel) (by rw [ykBadNumber_BadChoice]; decide +kernel) (by rw [ykBadNumber_PlanError]; decide +kernel)) (byE (fun n2 C2 => PySem.W.kitOne K (.ref E_BadSide) (.ref C2) = some (e9 "BadSide" n2)) (by rw [ykBadSide_BadPlan]; decide +kernel) (by rw [ykBadSide_BadPlans]; decide +kernel) (by rw [ykBadSide_BadNumber]; decide +kernel) (by rw [ykBadSide_BadSide]; decide +kernel) (by rw [ykBadSide_BadRule]; decide +kernel) (by rw [ykBadSide_BadRules]; decide +kernel) (by rw [ykBadSide_BadBook]; decide +kernel) (by rw [ykBadSide_BadThing]; decide +kernel) (by rw [ykBadSide_NoPlans]; decide +kernel) (by rw [ykBadSide_NoRule]; decide +kernel) (by rw [ykBadSide_BadLot]; decide +kernel) (by rw [ykBadSide_TooMany]; decide +kernel) (by rw [ykBadSide_OtherThings]; decide +kernel) (by rw [ykBadSide_NotSo]; decide +kernel) (by rw [ykBadSide_NotEven]; decide +kernel) (by rw [ykBadSide_BadTable]; decide +kernel) (by rw [ykBadSide_NothingDone]; decide +kernel) (by rw [ykBadSide_BadText]; decide +kernel) (by rw [ykBadSide_BadChoice]; decide +kernel) (by rw [ykBadSide_PlanError]; decide +kernel)) (byE (fun n2 C2 => PySem.W.kitOne K (.ref E_BadRule) (.ref C2) = some (e9 "BadRule" n2)) (by rw [ykBadRule_BadPlan]; decide +kernel) (by rw [ykBadRule_BadPlans]; decide +kernel) (by rw [ykBadRule_BadNumber]; decide +kernel) (by rw [ykBadRule_BadSide]; decide +kernel) (by rw [ykBadRule_BadRule]; decide +kernel) (by rw [ykBadRule_BadRules]; decide +kernel) (by rw [ykBadRule_BadBook]; decide +kernel) (by rw [ykBadRule_BadThing]; decide +kernel) (by rw [ykBadRule_NoPlans]; decide +kernel) (by rw [ykBadRule_NoRule]; decide +kernel) (by rw [ykBadRule_BadLot]; decide +kernel) (by rw [ykBadRule_TooMany]; decide +kernel) (by rw [ykBadRule_OtherThings]; decide +kernel) (by rw [ykBadRule_NotSo]; decide +kernel) (by rw [ykBadRule_NotEven]; decide +kernel) (by rw [ykBadRule_BadTable]; decide +kernel) (by rw [ykBadRule_NothingDone]; decide +kernel) (by rw [ykBadRule_BadText]; decide +kernel) (by rw [ykBadRule_BadChoice]; decide +kernel) (by rw [ykBadRule_PlanError]; decide +kernel)) (byE (fun n2 C2 => PySem.W.kitOne K (.ref E_BadRules) (.ref C2) = some (e9 "BadRules" n2)) (by rw [ykBadRules_BadPlan]; decide +kernel) (by rw [ykBadRules_BadPlans]; decide +kernel) (by rw [ykBadRules_BadNumber]; decide +kernel) (by rw [ykBadRules_BadSide]; decide +kernel) (by rw [ykBadRules_BadRule]; decide +kernel) (by rw [ykBadRules_BadRules]; decide +kernel) (by rw [ykBadRules_BadBook]; decide +kernel) (by rw [ykBadRules_BadThing]; decide +kernel) (by rw [ykBadRules_NoPlans]; decide +kernel) (by rw [ykBadRules_NoRule]; decide +kernel) (by rw [ykBadRules_BadLot]; decide +kernel) (by rw [ykBadRules_TooMany]; decide +kernel) (by rw [ykBadRules_OtherThings]; decide +kernel) (by rw [ykBadRules_NotSo]; decide +kernel) (by rw [ykBadRules_NotEven]; decide +kernel) (by rw [ykBadRules_BadTable]; decide +kernel) (by rw [ykBadRules_NothingDone]; decide +kernel) (by rw [ykBadRules_BadText]; decide +kernel) (by rw [ykBadRules_BadChoice]; decide +kernel) (by rw [ykBadRules_PlanError]; decide +kernel)) (byE (fun n2 C2 => PySem.W.kitOne K (.ref E_BadBook) (.ref C2) = some (e9 "BadBook" n2)) (by rw [ykBadBook_BadPlan]; decide +kernel) (by rw [ykBadBook_BadPlans]; decide +kernel) (by rw [ykBadBook_BadNumber]; decide +kernel) (by rw [ykBadBook_BadSide]; decide +kernel) (by rw [ykBadBook_BadRule]; decide +kernel) (by rw [ykBadBook_BadRules]; decide +kernel) (by rw [ykBadBook_BadBook]; decide +kernel) (by rw [ykBadBook_BadThing]; decide +kernel) (by rw [ykBadBook_NoPlans]; decide +kernel) (by rw [ykBadBook_NoRule]; decide +kernel) (by rw [ykBadBook_BadLot]; decide +kernel) (by rw [ykBadBook_TooMany]; decide +kernel) (by rw [ykBadBook_OtherThings]; decide +kernel) (by rw [ykBadBook_NotSo]; decide +kernel) (by rw [ykBadBook_NotEven]; decide +kernel) (by rw [ykBadBook_BadTable]; decide +kernel) (by rw [ykBadBook_NothingDone]; decide +kernel) (by rw [ykBadBook_BadText]; decide +kernel) (by rw [ykBadBook_BadChoice]; decide +kernel) (by rw [ykBadBook_PlanError]; decide +kernel)) (byE (fun n2 C2 => PySem.W.kitOne K (.ref E_BadThing) (.ref C2) = some (e9 "BadThing" n2)) (by rw [ykBadThing_BadPlan]; decide +kernel) (by rw [ykBadThing_BadPlans]; decide +kernel) (by rw [ykBadThing_BadNumber]; decide +kernel) (by rw [ykBadThing_BadSide]; decide +kernel) (by rw [ykBadThing_BadRule]; decide +kernel) (by rw [ykBadThing_BadRules]; decide +kernel) (by rw [ykBadThing_BadBook]; decide +kernel) (by rw [ykBadThing_BadThing]; decide +kernel) (by rw [ykBadThing_NoPlans]; decide +kernel) (by rw [ykBadThing_NoRule]; decide +kernel) (by rw [ykBadThing_BadLot]; decide +kernel) (by rw [ykBadThing_TooMany]; decide +kernel) (by rw [ykBadThing_OtherThings]; decide +kernel) (by rw [ykBadThing_NotSo]; decide +kernel) (by rw [ykBadThing_NotEven]; decide +kernel) (by rw [ykBadThing_BadTable]; decide +kernel) (by rw [ykBadThing_NothingDone]; decide +kernel) (by rw [ykBadThing_BadText]; decide +kernel) (by rw [ykBadThing_BadChoice]; decide +kernel) (by rw [ykBadThing_PlanError]; decide +kernel)) (byE (fun n2 C2 => PySem.W.kitOne K (.ref E_NoPlans) (.ref C2) = some (e9 "NoPlans" n2)) (by rw [ykNoPlans_BadPlan]; decide +kernel) (by rw [ykNoPlans_BadPlans]; decide +kernel) (by rw [ykNoPlans_BadNumber]; decide +kernel) (by rw [ykNoPlans_BadSide]; decide +kernel) (by rw [ykNoPlans_BadRule]; decide +kernel) (by rw [ykNoPlans_BadRules]; decide +kernel) (by rw [ykNoPlans_BadBook]; decide +kernel) (by rw [ykNoPlans_BadThing]; decide +kernel) (by rw [ykNoPlans_NoPlans]; decide +kernel) (by rw [ykNoPlans_NoRule]; decide +kernel) (by rw [ykNoPlans_BadLot]; decide +kernel) (by rw [ykNoPlans_TooMany]; decide +kernel) (by rw [ykNoPlans_OtherThings]; decide +kernel) (by rw [ykNoPlans_NotSo]; decide +kernel) (by rw [ykNoPlans_NotEven]; decide +kernel) (by rw [ykNoPlans_BadTable]; decide +kernel) (by rw [ykNoPlans_NothingDone]; decide +kernel) (by rw [ykNoPlans_BadText]; decide +kernel) (by rw [ykNoPlans_BadChoice]; decide +kernel) (by rw [ykNoPlans_PlanError]; decide +kernel)) (byE (fun n2 C2 => PySem.W.kitOne K (.ref E_NoRule) (.ref C2) = some (e9 "NoRule" n2)) (by rw [ykNoRule_BadPlan]; decide +kernel) (by rw [ykNoRule_BadPlans]; decide +kernel) (by rw [ykNoRule_BadNumber]; decide +kernel) (by rw [ykNoRule_BadSide]; decide +kernel) (by rw [ykNoRule_BadRule]; decide +kernel) (by rw [ykNoRule_BadRules]; decide +kernel) (by rw [ykNoRule_BadBook]; decide +kernel) (by rw [ykNoRule_BadThing]; decide +kernel) (by rw [ykNoRule_NoPlans]; decide +kernel) (by rw [ykNoRule_NoRule]; decide +kernel) (by rw [ykNoRule_BadLot]; decide +kernel) (by rw [ykNoRule_TooMany]; decide +kernel) (by rw [ykNoRule_OtherThings]; decide +kernel) (by rw [ykNoRule_NotSo]; decide +kernel) (by rw [ykNoRule_NotEven]; decide +kernel) (by rw [ykNoRule_BadTable]; decide +kernel) (by rw [ykNoRule_NothingDone]; decide +kernel) (by rw [ykNoRule_BadText]; decide +kernel) (by rw [ykNoRule_BadChoice]; decide +kernel) (by rw [ykNoRule_PlanError]; decide +kernel)) (byE (fun n2 C2 => PySem.W.kitOne K (.ref E_BadLot) (.ref C2) = some (e9 "BadLot" n2)) (by rw [ykBadLot_BadPlan]; decide +kernel) (by rw [ykBadLot_BadPlans]; decide +kernel) (by rw [ykBadLot_BadNumber]; decide +kernel) (by rw [ykBadLot_BadSide]; decide +kernel) (by rw [ykBadLot_BadRule]; decide +kernel) (by rw [ykBadLot_BadRules]; decide +kernel) (by rw [ykBadLot_BadBook]; decide +kernel) (by rw [ykBadLot_BadThing]; decide +kernel) (by rw [ykBadLot_NoPlans]; decide +kernel) (by rw [ykBadLot_NoRule]; decide +kernel) (by rw [ykBadLot_BadLot]; decide +kernel) (by rw [ykBadLot_TooMany]; decide +kernel) (by rw [ykBadLot_OtherThings]; decide +kernel) (by rw [ykBadLot_NotSo]; decide +kernel) (by rw [ykBadLot_NotEven]; decide +kernel) (by rw [ykBadLot_BadTable]; decide +kernel) (by rw [ykBadLot_NothingDone]; decide +kernel) (by rw [ykBadLot_BadText]; decide +kernel) (by rw [ykBadLot_BadChoice]; decide +kernel) (by rw [ykBadLot_PlanError]; decide +kernel)) (byE (fun n2 C2 => PySem.W.kitOne K (.ref E_TooMany) (.ref C2) = some (e9 "TooMany" n2)) (by rw [ykTooMany_BadPlan]; decide +kernel) (by rw [ykTooMany_BadPlans]; decide +kernel) (by rw [ykTooMany_BadNumber]; decide +kernel) (by rw [ykTooMany_BadSide]; decide +kernel) (by rw [ykTooMany_BadRule]; decide +kernel) (by rw [ykTooMany_BadRules]; decide +kernel) (by rw [ykTooMany_BadBook]; decide +kernel) (by rw [ykTooMany_BadThing]; decide +kernel) (by rw [ykTooMany_NoPlans]; decide +kernel) (by rw [ykTooMany_NoRule]; decide +kernel) (by rw [ykTooMany_BadLot]; decide +kernel) (by rw [ykTooMany_TooMany]; decide +kernel) (by rw [ykTooMany_OtherThings]; decide +kernel) (by rw [ykTooMany_NotSo]; decide +kernel) (by rw [ykTooMany_NotEven]; decide +kernel) (by rw [ykTooMany_BadTable]; decide +kernel) (by rw [ykTooMany_NothingDone]; decide +kernel) (by rw [ykTooMany_BadText]; decide +kernel) (by rw [ykTooMany_BadChoice]; decide +kernel) (by rw [ykTooMany_PlanError]; decide +kernel)) (byE (fun n2 C2 => PySem.W.kitOne K (.ref E_OtherThings) (.ref C2) = some (e9 "OtherThings" n2)) (by rw [ykOtherThings_BadPlan]; decide +kernel) (by rw [ykOtherThings_BadPlans]; decide +kernel) (by rw [ykOtherThings_BadNumber]; decide +kernel) (by rw [ykOtherThings_BadSide]; decide +kernel) (by rw [ykOtherThings_BadRule]; decide +kernel) (by rw [ykOtherThings_BadRules]; decide +kernel) (by rw [ykOtherThings_BadBook]; decide +kernel) (by rw [ykOtherThings_BadThing]; decide +kernel) (by rw [ykOtherThings_NoPlans]; decide +kernel) (by rw [ykOtherThings_NoRule]; decide +kernel) (by rw [ykOtherThings_BadLot]; decide +kernel) (by rw [ykOtherThings_TooMany]; decide +kernel) (by rw [ykOtherThings_OtherThings]; decide +kernel) (by rw [ykOtherThings_NotSo]; decide +kernel) (by rw [ykOtherThings_NotEven]; decide +kernel) (by rw [ykOtherThings_BadTable]; decide +kernel) (by rw [ykOtherThings_NothingDone]; decide +kernel) (by rw [ykOtherThings_BadText]; decide +kernel) (by rw [ykOtherThings_BadChoice]; decide +kernel) (by rw [ykOtherThings_PlanError]; decide +kernel)) (byE (fun n2 C2 => PySem.W.kitOne K (.ref E_NotSo) (.ref C2) = some (e9 "NotSo" n2)) (by rw [ykNotSo_BadPlan]; decide +kernel) (by rw [ykNotSo_BadPlans]; decide +kernel) (by rw [ykNotSo_BadNumber]; decide +kernel) (by rw [ykNotSo_BadSide]; decide +kernel) (by rw [ykNotSo_BadRule]; decide +kernel) (by rw [ykNotSo_BadRules]; decide +kernel) (by rw [ykNotSo_BadBook]; decide +kernel) (by rw [ykNotSo_BadThing]; decide +kernel) (by rw [ykNotSo_NoPlans]; decide +kernel) (by rw [ykNotSo_NoRule]; decide +kernel) (by rw [ykNotSo_BadLot]; decide +kernel) (by rw [ykNotSo_TooMany]; decide +kernel) (by rw [ykNotSo_OtherThings]; decide +kernel) (by rw [ykNotSo_NotSo]; decide +kernel) (by rw [ykNotSo_NotEven]; decide +kernel) (by rw [ykNotSo_BadTable]; decide +kernel) (by rw [ykNotSo_NothingDone]; decide +kernel) (by rw [ykNotSo_BadText]; decide +kernel) (by rw [ykNotSo_BadChoice]; decide +kernel) (by rw [ykNotSo_PlanError]; decide +kernel)) (byE (fun n2 C2 => PySem.W.kitOne K (.ref E_NotEven) (.ref C2) = some (e9 "NotEven" n2)) (by rw [ykNotEven_BadPlan]; decide +kernel) (by rw [ykNotEven_BadPlans]; decide +kernel) (by rw [ykNotEven_BadNumber]; decide +kernel) (by rw [ykNotEven_BadSide]; decide +kernel) (by rw [ykNotEven_BadRule]; decide +kernel) (by rw [ykNotEven_BadRules]; decide +kernel) (by rw [ykNotEven_BadBook]; decide +kernel) (by rw [ykNotEven_BadThing]; decide +kernel) (by rw [ykNotEven_NoPlans]; decide +kernel) (by rw [ykNotEven_NoRule]; decide +kernel) (by rw [ykNotEven_BadLot]; decide +kernel) (by rw [ykNotEven_TooMany]; decide +kernel) (by rw [ykNotEven_OtherThings]; decide +kernel) (by rw [ykNotEven_NotSo]; decide +kernel) (by rw [ykNotEven_NotEven]; decide +kernel) (by rw [ykNotEven_BadTable]; decide +kernel) (by rw [ykNotEven_NothingDone]; decide +kernel) (by rw [ykNotEven_BadText]; decide +kernel) (by rw [ykNotEven_BadChoice]; decide +kernel) (by rw [ykNotEven_PlanError]; decide +kernel)) (byE (fun n2 C2 => PySem.W.kitOne K (.ref E_BadTable) (.ref C2) = some (e9 "BadTable" n2)) (by rw [ykBadTable_BadPlan]; decide +kernel) (by rw [ykBadTable_BadPlans]; decide +kernel) (by rw [ykBadTable_BadNumber]; decide +kernel) (by rw [ykBadTable_BadSide]; decide +kernel) (by rw [ykBadTable_BadRule]; decide +kernel) (by rw [ykBadTable_BadRules]; decide +kernel) (by rw [ykBadTable_BadBook]; decide +kernel) (by rw [ykBadTable_BadThing]; decide +kernel) (by rw [ykBadTable_NoPlans]; decide +kernel) (by rw [ykBadTable_NoRule]; decide +kernel) (by rw [ykBadTable_BadLot]; decide +kernel) (by rw [ykBadTable_TooMany]; decide +kernel) (by rw [ykBadTable_OtherThings]; decide +kernel) (by rw [ykBadTable_NotSo]; decide +kernel) (by rw [ykBadTable_NotEven]; decide +kernel) (by rw [ykBadTable_BadTable]; decide +kernel) (by rw [ykBadTable_NothingDone]; decide +kernel) (by rw [ykBadTable_BadText]; decide +kernel) (by rw [ykBadTable_BadChoice]; decide +kernel) (by rw [ykBadTable_PlanError]; decide +kernel)) (byE (fun n2 C2 => PySem.W.kitOne K (.ref E_NothingDone) (.ref C2) = some (e9 "NothingDone" n2)) (by rw [ykNothingDone_BadPlan]; decide +kernel) (by rw [ykNothingDone_BadPlans]; decide +kernel) (by rw [ykNothingDone_BadNumber]; decide +kernel) (by rw [ykNothingDone_BadSide]; decide +kernel) (by rw [ykNothingDone_BadRule]; decide +kernel) (by rw [ykNothingDone_BadRules]; decide +kernel) (by rw [ykNothingDone_BadBook]; decide +kernel) (by rw [ykNothingDone_BadThing]; decide +kernel) (by rw [ykNothingDone_NoPlans]; decide +kernel) (by rw [ykNothingDone_NoRule]; decide +kernel) (by rw [ykNothingDone_BadLot]; decide +kernel) (by rw [ykNothingDone_TooMany]; decide +kernel) (by rw [ykNothingDone_OtherThings]; decide +kernel) (by rw [ykNothingDone_NotSo]; decide +kernel) (by rw [ykNothingDone_NotEven]; decide +kernel) (by rw [ykNothingDone_BadTable]; decide +kernel) (by rw [ykNothingDone_NothingDone]; decide +kernel) (by rw [ykNothingDone_BadText]; decide +kernel) (by rw [ykNothingDone_BadChoice]; decide +kernel) (by rw [ykNothingDone_PlanError]; decide +kernel)) (byE (fun n2 C2 => PySem.W.kitOne K (.ref E_BadText) (.ref C2) = some (e9 "BadText" n2)) (by rw [ykBadText_BadPlan]; decide +kernel) (by rw [ykBadText_BadPlans]; decide +kernel) (by rw [ykBadText_BadNumber]; decide +kernel) (by rw [ykBadText_BadSide]; decide +kernel) (by rw [ykBadText_BadRule]; decide +kernel) (by rw [ykBadText_BadRules]; decide +kernel) (by rw [ykBadText_BadBook]; decide +kernel) (by rw [ykBadText_BadThing]; decide +kernel) (by rw [ykBadText_NoPlans]; decide +kernel) (by rw [ykBadText_NoRule]; decide +kernel) (by rw [ykBadText_BadLot]; decide +kernel) (by rw [ykBadText_TooMany]; decide +kernel) (by rw [ykBadText_OtherThings]; decide +kernel) (by rw [ykBadText_NotSo]; decide +kernel) (by rw [ykBadText_NotEven]; decide +kernel) (by rw [ykBadText_BadTable]; decide +kernel) (by rw [ykBadText_NothingDone]; decide +kernel) (by rw [ykBadText_BadText]; decide +kernel) (by rw [ykBadText_BadChoice]; decide +kernel) (by rw [ykBadText_PlanError]; decide +kernel)) (byE (fun n2 C2 => PySem.W.kitOne K (.ref E_BadChoice) (.ref C2) = some (e9 "BadChoice" n2)) (by rw [ykBadChoice_BadPlan]; decide +kernel) (by rw [ykBadChoice_BadPlans]; decide +kernel) (by rw [ykBadChoice_BadNumber]; decide +kernel) (by rw [ykBadChoice_BadSide]; decide +kernel) (by rw [ykBadChoice_BadRule]; decide +kernel) (by rw [ykBadChoice_BadRules]; decide +kernel) (by rw [ykBadChoice_BadBook]; decide +kernel) (by rw [ykBadChoice_BadThing]; decide +kernel) (by rw [ykBadChoice_NoPlans]; decide +kernel) (by rw [ykBadChoice_NoRule]; decide +kernel) (by rw [ykBadChoice_BadLot]; decide +kernel) (by rw [ykBadChoice_TooMany]; decide +kernel) (by rw [ykBadChoice_OtherThings]; decide +kernel) (by rw [ykBadChoice_NotSo]; decide +kernel) (by rw [ykBadChoice_NotEven]; decide +kernel) (by rw [ykBadChoice_BadTable]; decide +kernel) (by rw [ykBadChoice_NothingDone]; decide +kernel) (by rw [ykBadChoice_BadText]; decide +kernel) (by rw [ykBadChoice_BadChoice]; decide +kernel) (by rw [ykBadChoice_PlanError]; decide +kernel)) (byE (fun n2 C2 => PySem.W.kitOne K (.ref E_PlanError) (.ref C2) = some (e9 "PlanError" n2)) (by rw [ykPlanError_BadPlan]; decide +kernel) (by rw [ykPlanError_BadPlans]; decide +kernel) (by rw [ykPlanError_BadNumber]; decide +kernel) (by rw [ykPlanError_BadSide]; decide +kernel) (by rw [ykPlanError_BadRule]; decide +kernel) (by rw [ykPlanError_BadRules]; decide +kernel) (by rw [ykPlanError_BadBook]; decide +kernel) (by rw [ykPlanError_BadThing]; decide +kernel) (by rw [ykPlanError_NoPlans]; decide +kernel) (by rw [ykPlanError_NoRule]; decide +kernel) (by rw [ykPlanError_BadLot]; decide +kernel) (by rw [ykPlanError_TooMany]; decide +kernel) (by rw [ykPlanError_OtherThings]; decide +kernel) (by rw [ykPlanError_NotSo]; decide +kernel) (by rw [ykPlanError_NotEven]; decide +kernel) (by rw [ykPlanError_BadTable]; decide +kernel) (by rw [ykPlanError_NothingDone]; decide +kernel) (by rw [ykPlanError_BadText]; decide +kernel) (by rw [ykPlanError_BadChoice]; decide +kernel) (by rw [ykPlanError_PlanError]; decide +kernel)) nm hi C m n2 hi2 C2 m2, byE (fun _ C => PySem.W.kitOne K (.ref C) (.type "ValueError") = some true) yiBadPlan yiBadPlans yiBadNumber yiBadSide yiBadRule yiBadRules yiBadBook yiBadThing yiNoPlans yiNoRule yiBadLot yiTooMany yiOtherThings yiNotSo yiNotEven yiBadTable yiNothingDone yiBadText yiBadChoice yiPlanError⟩
 have T : Txt K mg w E_BadBook E_BadChoice E_BadLot E_BadNumber E_BadPlan E_BadPlans E_BadRule E_BadRules E_BadSide E_BadTable E_BadText E_BadThing E_NoPlans E_NoRule E_NotEven E_NotSo E_NothingDone E_OtherThings E_PlanError E_TooMany l.prog := ⟨⟨byC (fun nm C => a9r ⟨K, mg, w⟩ nm C), fun nm C nm2 C2 hi hm hi2 hm2 => byC (fun nm C => ∀ nm2 C2, a0o nm2 = true → mg nm2 = some (.ref C2) → PySem.W.kitOne K (.ref C) (.ref C2) = some (decide (nm = nm2))) nm C hi hm nm2 C2 hi2 hm2⟩, AE, mE_BadBook, mE_BadChoice, mE_BadLot, mE_BadNumber, mE_BadPlan, mE_BadPlans, mE_BadRule, mE_BadRules, mE_BadSide, mE_BadTable, mE_BadText, mE_BadThing, mE_NoPlans, mE_NoRule, mE_NotEven, mE_NotSo, mE_NothingDone, mE_OtherThings, mE_PlanError, mE_TooMany, (fun nm hi C hm => by
  simp only [List.mem_cons, List.not_mem_nil, or_false] at hi
  rcases hi with rfl | rfl | rfl
  ·have e := mE_BadPlans.symm.trans hm; cases e; exact ⟨⟨ybBadPlans, ycBadPlans, ydBadPlans, yeBadPlans⟩, ypBadPlans_at⟩
  ·have e := mE_BadRules.symm.trans hm; cases e; exact ⟨⟨ybBadRules, ycBadRules, ydBadRules, yeBadRules⟩, ypBadRules_at⟩
  ·have e := mE_NoRule.symm.trans hm; cases e; exact ⟨⟨ybNoRule, ycNoRule, ydNoRule, yeNoRule⟩, ypNoRule_at⟩), (fun nm hi C hm => by
  simp only [List.mem_cons, List.not_mem_nil, or_false] at hi
  subst hi
  ·have e := mE_BadText.symm.trans hm; cases e; exact ⟨⟨ybBadText, ycBadText, ydBadText, yeBadText⟩, ypBadText_line⟩), (fun nm hi C hm => by
  simp only [List.mem_cons, List.not_mem_nil, or_false] at hi
  subst hi
  ·have e := mE_TooMany.symm.trans hm; cases e; exact ⟨⟨ybTooMany, ycTooMany, ydTooMany, yeTooMany⟩, ypTooMany_most⟩), (fun nm hi C hm => by
  simp only [List.mem_cons, List.not_mem_nil, or_false] at hi
  subst hi
  ·have e := mE_BadTable.symm.trans hm; cases e; exact ⟨⟨ybBadTable, ycBadTable, ydBadTable, yeBadTable⟩, ypBadTable_name⟩), (fun nm hi C hm => by
  simp only [List.mem_cons, List.not_mem_nil, or_false] at hi
  subst hi
  ·have e := mE_BadBook.symm.trans hm; cases e; exact ⟨⟨ybBadBook, ycBadBook, ydBadBook, yeBadBook⟩, ypBadBook_part⟩), (fun nm hi C hm => by
  simp only [List.mem_cons, List.not_mem_nil, or_false] at hi
  subst hi
  ·have e := mE_BadThing.symm.trans hm; cases e; exact ⟨⟨ybBadThing, ycBadThing, ydBadThing, yeBadThing⟩, ypBadThing_thing⟩), ylBadChoice, ymBadChoice, ydBadChoice, yhBadChoice, ylBadLot, ymBadLot, ydBadLot, yhBadLot, ylBadNumber, ymBadNumber, ydBadNumber, yhBadNumber, ylBadPlan, ymBadPlan, ydBadPlan, yhBadPlan, ylBadRule, ymBadRule, ydBadRule, yhBadRule, ylBadSide, ymBadSide, ydBadSide, yhBadSide, ylNoPlans, ymNoPlans, ydNoPlans, yhNoPlans, ylNotEven, ymNotEven, ydNotEven, yhNotEven, ylNotSo, ymNotSo, ydNotSo, yhNotSo, ylNothingDone, ymNothingDone, ydNothingDone, yhNothingDone, ylOtherThings, ymOtherThings, ydOtherThings, yhOtherThings, ylPlanError, ymPlanError, ydPlanError, yhPlanError, ri_BadBook, ri_BadPlans, ri_BadRules, ri_BadTable, ri_BadText, ri_BadThing, ri_NoRule, ri_TooMany, rj_BadBook, rj_BadPlans, rj_BadRules, rj_BadTable, rj_BadText, rj_BadThing, rj_NoRule, rj_TooMany, PySem.W.mg_none_of X G b_ValueError, PySem.W.mg_none_of X G b_abs, PySem.W.mg_none_of X G b_enumerate, PySem.W.mg_none_of X G b_int, PySem.W.mg_none_of X G b_isinstance, PySem.W.mg_none_of X G b_len, PySem.W.mg_none_of X G b_min, PySem.W.mg_none_of X G b_range, PySem.W.mg_none_of X G b_repr⟩
 have D0 := q0.d (ps := ["_law_script"]) fun _ _ _ _ _ _ us hl => match us, hl with | [_], _ => rfl
 have D1 := q1.d (ps := ["_law_state", "_law_size"]) fun _ _ _ _ _ _ us hl => match us, hl with | [_, _], _ => rfl
 have D2 := q2.d (ps := ["_law_state", "_law_several"]) fun _ _ _ _ _ _ us hl => match us, hl with | [_, _], _ => rfl
 have D3 := q3.d (ps := ["_law_state"]) fun _ _ _ _ _ _ us hl => match us, hl with | [_], _ => rfl
 have D4 := q4.d (ps := ["_law_error"]) fun _ _ _ _ _ _ us hl => match us, hl with | [_], _ => rfl
 have D5 := q5.d (ps := ["_law_errors"]) fun _ _ _ _ _ _ us hl => match us, hl with | [_], _ => rfl
 have D6 : J8 K mg "law" s_law ["_law_script"] fa (PySem.W.fnOf "law" "law" (defArgs s_law) (defBody s_law) (defScope s_law) .none kV6 dc6 pm6 an6 cd6 ct6) := ⟨fun_mk (st := s_law) l6 c6 k6, PySem.W.mg_of X G a6, (fun_mk (st := s_law) l6 c6 k6).binds (ps := ["_law_script"]) fun _ _ _ _ _ _ us hl => match us, hl with | [_], _ => rfl⟩
 refine ⟨(PySem.W.fnOf "law" "law" (defArgs s_law) (defBody s_law) (defScope s_law) .none kV6 dc6 pm6 an6 cd6 ct6), fun s v => .of_eq rfl, fun base _ _ hTB => ?_⟩
 have G0 := V2 (P := l.prog) (w := w) (base := base) D0 T
 have G1 := a07 (P := l.prog) (w := w) (base := base) D1 T
 have G2 := a05 D2 T D1 G1
 have G3 := a0y D3 T D2 G2
 have G4 := W8 (P := l.prog) (w := w) (base := base) D4 T
 have G5 := W5 D5 T D4 G4
 exact a6y D6 T D0 G0 right D3 G3 D5 G5
end
end Pg
namespace Hx
open PySem PySem.Spec PyProof.Rows L2 Fx Pg
theorem facts {l : PySem.W.OpenLaw} (pf : (l.prog.main.file : Str) = "/claim/cut.py") (ptop : (l.prog.main.scope.names.lookup ("super" : Str)).isSome = false) {w : World} {K : PySem.W.Frag} {h : Heap} {mg : Str → Option Value} {fa : Addr} (X : K.In h) (G : h.Ns mainGlobals mg) (hfa : mg "law" = some (.ref fa)) {T : PySem.W.Frag} (XT : T.In h) (c : Hd.SaysX B ds K T) :
  ∃ fd : FuncData, Hd.TabsOk K mg h (Hd.a2J K) ∧ W9 K mg ≠ [] ∧ (∀ (s : Shared) (v : Value), BindsTo s fd ⟨[v], []⟩ [("_law_script", v)]) ∧ ∀ base : Heap, K.In base → base.Ns mainGlobals mg → (∀ p ∈ Hd.a2J K, LamX.TabB base mg p.1 p.2) → FnG l.prog w K mg base 4 fa fd ["_law_script"] (a1g ⟨K, mg, w⟩) := by
 have TO := Hd.tabs_ok X XT G c.tab
 obtain ⟨fd0, q0⟩ := c.qf X G 0 (d := d0) (st := s__law_begun) rfl rfl
 obtain ⟨fd1, q1⟩ := c.qf X G 1 (d := d1) (st := s__law_draw) rfl rfl
 obtain ⟨fd2, q2⟩ := c.qf X G 2 (d := d2) (st := s__law_pick) rfl rfl
 obtain ⟨fd3, q3⟩ := c.qf X G 3 (d := d3) (st := s__law_odd) rfl rfl
 obtain ⟨fd4, q4⟩ := c.qf X G 4 (d := d4) (st := s__law_marks) rfl rfl
 obtain ⟨fd5, q5⟩ := c.qf X G 5 (d := d5) (st := s__law_apart) rfl rfl
 obtain ⟨wh6, oc6, od6, sl6, dV6, kV6, dc6, pm6, an6, cd6, ct6, l6, c6, df6⟩ := c.def_ 6 (d := d6) rfl
 obtain rfl := Hd.a2W (n := d6.dfl) rfl df6
 obtain ⟨a6, k6⟩ := Hd.wh0 (d := d6) rfl wh6
 obtain ⟨wh7, cc7, oc7, od7, sl7, dV7, kV7, dc7, pm7, an7, cd7, ct7, l7, c7, df7⟩ := c.def4 7 (d := d7) rfl
 obtain rfl := Hd.a2W (n := d7.dfl) rfl df7
 obtain ⟨a7, i7⟩ := Hd.wh4 (d := d7) rfl wh7
 have ri_BadBook : RaA l.prog K mg (He.ga K "BadBook") "part" := O7 (x := "part") (m := "no book, or no things of one") (scope := defScope s_BadBook___init__) (params := defArgs s_BadBook___init__) (body := defBody s_BadBook___init__) X G pf ptop a7 (c.fact 650 rfl) l7 c7 rfl (by decide +kernel) rfl rfl (by rfl) (by rfl) (fun env => rfl) (fun env => rfl) (.all fun us hl => match us, hl with | [_, _], _ => rfl)
 have rj_BadBook : RaK l.prog K mg (He.ga K "BadBook") "part" := P0 (x := "part") (m := "no book, or no things of one") (scope := defScope s_BadBook___init__) (params := defArgs s_BadBook___init__) (body := defBody s_BadBook___init__) X G pf ptop a7 (c.fact 650 rfl) l7 c7 rfl (by decide +kernel) rfl rfl (by rfl) (by rfl) (fun env => rfl) (fun env => rfl) (fun s u v _ => .of_eq rfl)
 obtain ⟨wh8, cc8, oc8, od8, sl8, dV8, kV8, dc8, pm8, an8, cd8, ct8, l8, c8, df8⟩ := c.def4 8 (d := d8) rfl
 obtain rfl := Hd.a2W (n := d8.dfl) rfl df8
 obtain ⟨a8, i8⟩ := Hd.wh4 (d := d8) rfl wh8
 have ri_BadPlans : RaA l.prog K mg (He.ga K "BadPlans") "at" := O7 (x := "at") (m := "no list of plans") (scope := defScope s_BadPlans___init__) (params := defArgs s_BadPlans___init__) (body := defBody s_BadPlans___init__) X G pf ptop a8 (c.fact 651 rfl) l8 c8 rfl (by decide +kernel) rfl rfl (by rfl) (by rfl) (fun env => rfl) (fun env => rfl) (.all fun us hl => match us, hl with | [_, _], _ => rfl)
 have rj_BadPlans : RaK l.prog K mg (He.ga K "BadPlans") "at" := P0 (x := "at") (m := "no list of plans") (scope := defScope s_BadPlans___init__) (params := defArgs s_BadPlans___init__) (body := defBody s_BadPlans___init__) X G pf ptop a8 (c.fact 651 rfl) l8 c8 rfl (by decide +kernel) rfl rfl (by rfl) (by rfl) (fun env => rfl) (fun env => rfl) (fun s u v _ => .of_eq rfl)
 obtain ⟨wh9, cc9, oc9, od9, sl9, dV9, kV9, dc9, pm9, an9, cd9, ct9, l9, c9, df9⟩ := c.def4 9 (d := d9) rfl
 obtain rfl := Hd.a2W (n := d9.dfl) rfl df9
 obtain ⟨a9, i9⟩ := Hd.wh4 (d := d9) rfl wh9
 have ri_BadRules : RaA l.prog K mg (He.ga K "BadRules") "at" := O7 (x := "at") (m := "no list of rules") (scope := defScope s_BadRules___init__) (params := defArgs s_BadRules___init__) (body := defBody s_BadRules___init__) X G pf ptop a9 (c.fact 652 rfl) l9 c9 rfl (by decide +kernel) rfl rfl (by rfl) (by rfl) (fun env => rfl) (fun env => rfl) (.all fun us hl => match us, hl with | [_, _], _ => rfl)
 have rj_BadRules : RaK l.prog K mg (He.ga K "BadRules") "at" := P0 (x := "at") (m := "no list of rules") (scope := defScope s_BadRules___init__) (params := defArgs s_BadRules___init__) (body := defBody s_BadRules___init__) X G pf ptop a9 (c.fact 652 rfl) l9 c9 rfl (by decide +kernel) rfl rfl (by rfl) (by rfl) (fun env => rfl) (fun env => rfl) (fun s u v _ => .of_eq rfl)
 obtain ⟨wh10, cc10, oc10, od10, a32, dV10, kV10, dc10, pm10, an10, cd10, ct10, l10, c10, df10⟩ := c.def4 10 (d := d10) rfl
 obtain rfl := Hd.a2W (n := d10.dfl) rfl df10
 obtain ⟨a10, i10⟩ := Hd.wh4 (d := d10) rfl wh10
 have ri_BadTable : RaA l.prog K mg (He.ga K "BadTable") "name" := O7 (x := "name") (m := "no table") (scope := defScope s_BadTable___init__) (params := defArgs s_BadTable___init__) (body := defBody s_BadTable___init__) X G pf ptop a10 (c.fact 653 rfl) l10 c10 rfl (by decide +kernel) rfl rfl (by rfl) (by rfl) (fun env => rfl) (fun env => rfl) (.all fun us hl => match us, hl with | [_, _], _ => rfl)
 have rj_BadTable : RaK l.prog K mg (He.ga K "BadTable") "name" := P0 (x := "name") (m := "no table") (scope := defScope s_BadTable___init__) (params := defArgs s_BadTable___init__) (body := defBody s_BadTable___init__) X G pf ptop a10 (c.fact 653 rfl) l10 c10 rfl (by decide +kernel) rfl rfl (by rfl) (by rfl) (fun env => rfl) (fun env => rfl) (fun s u v _ => .of_eq rfl)
 obtain ⟨wh11, cc11, oc11, od11, a30, dV11, kV11, dc11, pm11, an11, cd11, ct11, l11, c11, df11⟩ := c.def4 11 (d := d11) rfl
 obtain rfl := Hd.a2W (n := d11.dfl) rfl df11
 obtain ⟨a11, i11⟩ := Hd.wh4 (d := d11) rfl wh11
 have ri_BadText : RaA l.prog K mg (He.ga K "BadText") "line" := O7 (x := "line") (m := "a wrong line") (scope := defScope s_BadText___init__) (params := defArgs s_BadText___init__) (body := defBody s_BadText___init__) X G pf ptop a11 (c.fact 654 rfl) l11 c11 rfl (by decide +kernel) rfl rfl (by rfl) (by rfl) (fun env => rfl) (fun env => rfl) (.all fun us hl => match us, hl with | [_, _], _ => rfl)
 have rj_BadText : RaK l.prog K mg (He.ga K "BadText") "line" := P0 (x := "line") (m := "a wrong line") (scope := defScope s_BadText___init__) (params := defArgs s_BadText___init__) (body := defBody s_BadText___init__) X G pf ptop a11 (c.fact 654 rfl) l11 c11 rfl (by decide +kernel) rfl rfl (by rfl) (by rfl) (fun env => rfl) (fun env => rfl) (fun s u v _ => .of_eq rfl)
 obtain ⟨wh12, cc12, oc12, od12, a31, dV12, kV12, dc12, pm12, an12, cd12, ct12, l12, c12, df12⟩ := c.def4 12 (d := d12) rfl
 obtain rfl := Hd.a2W (n := d12.dfl) rfl df12
 obtain ⟨a12, i12⟩ := Hd.wh4 (d := d12) rfl wh12
 have ri_BadThing : RaA l.prog K mg (He.ga K "BadThing") "thing" := O7 (x := "thing") (m := "no such thing") (scope := defScope s_BadThing___init__) (params := defArgs s_BadThing___init__) (body := defBody s_BadThing___init__) X G pf ptop a12 (c.fact 655 rfl) l12 c12 rfl (by decide +kernel) rfl rfl (by rfl) (by rfl) (fun env => rfl) (fun env => rfl) (.all fun us hl => match us, hl with | [_, _], _ => rfl)
 have rj_BadThing : RaK l.prog K mg (He.ga K "BadThing") "thing" := P0 (x := "thing") (m := "no such thing") (scope := defScope s_BadThing___init__) (params := defArgs s_BadThing___init__) (body := defBody s_BadThing___init__) X G pf ptop a12 (c.fact 655 rfl) l12 c12 rfl (by decide +kernel) rfl rfl (by rfl) (by rfl) (fun env => rfl) (fun env => rfl) (fun s u v _ => .of_eq rfl)
 obtain ⟨wh13, cc13, oc13, od13, a2X, dV13, kV13, dc13, pm13, an13, cd13, ct13, l13, c13, df13⟩ := c.def4 13 (d := d13) rfl
 obtain rfl := Hd.a2W (n := d13.dfl) rfl df13
 obtain ⟨a13, i13⟩ := Hd.wh4 (d := d13) rfl wh13
 have ri_NoRule : RaA l.prog K mg (He.ga K "NoRule") "at" := O7 (x := "at") (m := "no rule has this index") (scope := defScope s_NoRule___init__) (params := defArgs s_NoRule___init__) (body := defBody s_NoRule___init__) X G pf ptop a13 (c.fact 656 rfl) l13 c13 rfl (by decide +kernel) rfl rfl (by rfl) (by rfl) (fun env => rfl) (fun env => rfl) (.all fun us hl => match us, hl with | [_, _], _ => rfl)
 have rj_NoRule : RaK l.prog K mg (He.ga K "NoRule") "at" := P0 (x := "at") (m := "no rule has this index") (scope := defScope s_NoRule___init__) (params := defArgs s_NoRule___init__) (body := defBody s_NoRule___init__) X G pf ptop a13 (c.fact 656 rfl) l13 c13 rfl (by decide +kernel) rfl rfl (by rfl) (by rfl) (fun env => rfl) (fun env => rfl) (fun s u v _ => .of_eq rfl)
 obtain ⟨wh14, cc14, oc14, od14, a2Y, dV14, kV14, dc14, pm14, an14, cd14, ct14, l14, c14, df14⟩ := c.def4 14 (d := d14) rfl
 obtain rfl := Hd.a2W (n := d14.dfl) rfl df14
 obtain ⟨a14, i14⟩ := Hd.wh4 (d := d14) rfl wh14
 have ri_TooMany : RaA l.prog K mg (He.ga K "TooMany") "most" := O7 (x := "most") (m := "too many") (scope := defScope s_TooMany___init__) (params := defArgs s_TooMany___init__) (body := defBody s_TooMany___init__) X G pf ptop a14 (c.fact 657 rfl) l14 c14 rfl (by decide +kernel) rfl rfl (by rfl) (by rfl) (fun env => rfl) (fun env => rfl) (.all fun us hl => match us, hl with | [_, _], _ => rfl)
 have rj_TooMany : RaK l.prog K mg (He.ga K "TooMany") "most" := P0 (x := "most") (m := "too many") (scope := defScope s_TooMany___init__) (params := defArgs s_TooMany___init__) (body := defBody s_TooMany___init__) X G pf ptop a14 (c.fact 657 rfl) l14 c14 rfl (by decide +kernel) rfl rfl (by rfl) (by rfl) (fun env => rfl) (fun env => rfl) (fun s u v _ => .of_eq rfl)
 obtain ⟨fd, hb, hF⟩ := Pg.all_mk (cs := Hd.a2J K) X G hfa (He.eqO_ok (c.fact 0 rfl)) (c.fact 1 rfl) (He.eqO_ok (c.fact 2 rfl)) (He.eqO_ok (c.fact 3 rfl)) (of_decide_eq_true (c.fact 4 rfl)) (c.fact 5 rfl) (He.eqO_ok (c.fact 6 rfl)) (of_decide_eq_true (c.fact 7 rfl)) (of_decide_eq_true (c.fact 8 rfl)) (of_decide_eq_true (c.fact 9 rfl)) (of_decide_eq_true (c.fact 10 rfl)) (of_decide_eq_true (c.fact 11 rfl)) (of_decide_eq_true (c.fact 12 rfl)) (of_decide_eq_true (c.fact 13 rfl)) (of_decide_eq_true (c.fact 14 rfl)) (of_decide_eq_true (c.fact 15 rfl)) (of_decide_eq_true (c.fact 16 rfl)) (of_decide_eq_true (c.fact 17 rfl)) (of_decide_eq_true (c.fact 18 rfl)) (of_decide_eq_true (c.fact 19 rfl)) (of_decide_eq_true (c.fact 20 rfl)) (of_decide_eq_true (c.fact 21 rfl)) (of_decide_eq_true (c.fact 22 rfl)) (of_decide_eq_true (c.fact 23 rfl)) (of_decide_eq_true (c.fact 24 rfl)) (of_decide_eq_true (c.fact 25 rfl)) (of_decide_eq_true (c.fact 26 rfl)) (of_decide_eq_true (c.fact 27 rfl)) (of_decide_eq_true (c.fact 28 rfl)) (of_decide_eq_true (c.fact 29 rfl)) (c.fact 30 rfl) (c.fact 31 rfl) (He.eqO_ok (c.fact 32 rfl)) (c.fact 33 rfl) (He.eqO_ok (c.fact 34 rfl)) (He.eqO_ok (c.fact 35 rfl)) (of_decide_eq_true (c.fact 36 rfl)) (c.fact 37 rfl) (He.eqO_ok (c.fact 38 rfl)) (of_decide_eq_true (c.fact 39 rfl)) (of_decide_eq_true (c.fact 40 rfl)) (of_decide_eq_true (c.fact 41 rfl)) (He.eqO_ok (c.fact 42 rfl)) (of_decide_eq_true (c.fact 43 rfl)) (of_decide_eq_true (c.fact 44 rfl)) (of_decide_eq_true (c.fact 45 rfl)) (of_decide_eq_true (c.fact 46 rfl)) (of_decide_eq_true (c.fact 47 rfl)) (of_decide_eq_true (c.fact 48 rfl)) (of_decide_eq_true (c.fact 49 rfl)) (of_decide_eq_true (c.fact 50 rfl)) (of_decide_eq_true (c.fact 51 rfl)) (of_decide_eq_true (c.fact 52 rfl)) (of_decide_eq_true (c.fact 53 rfl)) (of_decide_eq_true (c.fact 54 rfl)) (of_decide_eq_true (c.fact 55 rfl)) (of_decide_eq_true (c.fact 56 rfl)) (of_decide_eq_true (c.fact 57 rfl)) (of_decide_eq_true (c.fact 58 rfl)) (of_decide_eq_true (c.fact 59 rfl)) (of_decide_eq_true (c.fact 60 rfl)) (of_decide_eq_true (c.fact 61 rfl)) (of_decide_eq_true (c.fact 62 rfl)) (He.eqO_ok (c.fact 63 rfl)) (c.fact 64 rfl) (He.eqO_ok (c.fact 65 rfl)) (He.eqO_ok (c.fact 66 rfl)) (of_decide_eq_true (c.fact 67 rfl)) (c.fact 68 rfl) (He.eqO_ok (c.fact 69 rfl)) (of_decide_eq_true (c.fact 70 rfl)) (of_decide_eq_true (c.fact 71 rfl)) (of_decide_eq_true (c.fact 72 rfl)) (of_decide_eq_true (c.fact 73 rfl)) (of_decide_eq_true (c.fact 74 rfl)) (of_decide_eq_true (c.fact 75 rfl)) (of_decide_eq_true (c.fact 76 rfl)) (of_decide_eq_true (c.fact 77 rfl)) (of_decide_eq_true (c.fact 78 rfl)) (of_decide_eq_true (c.fact 79 rfl)) (of_decide_eq_true (c.fact 80 rfl)) (of_decide_eq_true (c.fact 81 rfl)) (of_decide_eq_true (c.fact 82 rfl)) (of_decide_eq_true (c.fact 83 rfl)) (of_decide_eq_true (c.fact 84 rfl)) (of_decide_eq_true (c.fact 85 rfl)) (of_decide_eq_true (c.fact 86 rfl)) (of_decide_eq_true (c.fact 87 rfl)) (of_decide_eq_true (c.fact 88 rfl)) (of_decide_eq_true (c.fact 89 rfl)) (of_decide_eq_true (c.fact 90 rfl)) (of_decide_eq_true (c.fact 91 rfl)) (of_decide_eq_true (c.fact 92 rfl)) (c.fact 93 rfl) (c.fact 94 rfl) (He.eqO_ok (c.fact 95 rfl)) (c.fact 96 rfl) (He.eqO_ok (c.fact 97 rfl)) (He.eqO_ok (c.fact 98 rfl)) (of_decide_eq_true (c.fact 99 rfl)) (c.fact 100 rfl) (He.eqO_ok (c.fact 101 rfl)) (of_decide_eq_true (c.fact 102 rfl)) (of_decide_eq_true (c.fact 103 rfl)) (of_decide_eq_true (c.fact 104 rfl)) (of_decide_eq_true (c.fact 105 rfl)) (of_decide_eq_true (c.fact 106 rfl)) (of_decide_eq_true (c.fact 107 rfl)) (of_decide_eq_true (c.fact 108 rfl)) (of_decide_eq_true (c.fact 109 rfl)) (of_decide_eq_true (c.fact 110 rfl)) (of_decide_eq_true (c.fact 111 rfl)) (of_decide_eq_true (c.fact 112 rfl)) (of_decide_eq_true (c.fact 113 rfl)) (of_decide_eq_true (c.fact 114 rfl)) (of_decide_eq_true (c.fact 115 rfl)) (of_decide_eq_true (c.fact 116 rfl)) (of_decide_eq_true (c.fact 117 rfl)) (of_decide_eq_true (c.fact 118 rfl)) (of_decide_eq_true (c.fact 119 rfl)) (of_decide_eq_true (c.fact 120 rfl)) (of_decide_eq_true (c.fact 121 rfl)) (of_decide_eq_true (c.fact 122 rfl)) (of_decide_eq_true (c.fact 123 rfl)) (of_decide_eq_true (c.fact 124 rfl)) (c.fact 125 rfl) (c.fact 126 rfl) (He.eqO_ok (c.fact 127 rfl)) (c.fact 128 rfl) (He.eqO_ok (c.fact 129 rfl)) (He.eqO_ok (c.fact 130 rfl)) (of_decide_eq_true (c.fact 131 rfl)) (c.fact 132 rfl) (He.eqO_ok (c.fact 133 rfl)) (of_decide_eq_true (c.fact 134 rfl)) (of_decide_eq_true (c.fact 135 rfl)) (of_decide_eq_true (c.fact 136 rfl)) (of_decide_eq_true (c.fact 137 rfl)) (of_decide_eq_true (c.fact 138 rfl)) (of_decide_eq_true (c.fact 139 rfl)) (of_decide_eq_true (c.fact 140 rfl)) (of_decide_eq_true (c.fact 141 rfl)) (of_decide_eq_true (c.fact 142 rfl)) (of_decide_eq_true (c.fact 143 rfl)) (of_decide_eq_true (c.fact 144 rfl)) (of_decide_eq_true (c.fact 145 rfl)) (of_decide_eq_true (c.fact 146 rfl)) (of_decide_eq_true (c.fact 147 rfl)) (of_decide_eq_true (c.fact 148 rfl)) (of_decide_eq_true (c.fact 149 rfl)) (of_decide_eq_true (c.fact 150 rfl)) (of_decide_eq_true (c.fact 151 rfl)) (of_decide_eq_true (c.fact 152 rfl)) (of_decide_eq_true (c.fact 153 rfl)) (of_decide_eq_true (c.fact 154 rfl)) (of_decide_eq_true (c.fact 155 rfl)) (of_decide_eq_true (c.fact 156 rfl)) (c.fact 157 rfl) (c.fact 158 rfl) (He.eqO_ok (c.fact 159 rfl)) (c.fact 160 rfl) (He.eqO_ok (c.fact 161 rfl)) (He.eqO_ok (c.fact 162 rfl)) (of_decide_eq_true (c.fact 163 rfl)) (c.fact 164 rfl) (He.eqO_ok (c.fact 165 rfl)) (of_decide_eq_true (c.fact 166 rfl)) (of_decide_eq_true (c.fact 167 rfl)) (of_decide_eq_true (c.fact 168 rfl)) (He.eqO_ok (c.fact 169 rfl)) (of_decide_eq_true (c.fact 170 rfl)) (of_decide_eq_true (c.fact 171 rfl)) (of_decide_eq_true (c.fact 172 rfl)) (of_decide_eq_true (c.fact 173 rfl)) (of_decide_eq_true (c.fact 174 rfl)) (of_decide_eq_true (c.fact 175 rfl)) (of_decide_eq_true (c.fact 176 rfl)) (of_decide_eq_true (c.fact 177 rfl)) (of_decide_eq_true (c.fact 178 rfl)) (of_decide_eq_true (c.fact 179 rfl)) (of_decide_eq_true (c.fact 180 rfl)) (of_decide_eq_true (c.fact 181 rfl)) (of_decide_eq_true (c.fact 182 rfl)) (of_decide_eq_true (c.fact 183 rfl)) (of_decide_eq_true (c.fact 184 rfl)) (of_decide_eq_true (c.fact 185 rfl)) (of_decide_eq_true (c.fact 186 rfl)) (of_decide_eq_true (c.fact 187 rfl)) (of_decide_eq_true (c.fact 188 rfl)) (of_decide_eq_true (c.fact 189 rfl)) (He.eqO_ok (c.fact 190 rfl)) (c.fact 191 rfl) (He.eqO_ok (c.fact 192 rfl)) (He.eqO_ok (c.fact 193 rfl)) (of_decide_eq_true (c.fact 194 rfl)) (c.fact 195 rfl) (He.eqO_ok (c.fact 196 rfl)) (of_decide_eq_true (c.fact 197 rfl)) (of_decide_eq_true (c.fact 198 rfl)) (of_decide_eq_true (c.fact 199 rfl)) (He.eqO_ok (c.fact 200 rfl)) (of_decide_eq_true (c.fact 201 rfl)) (of_decide_eq_true (c.fact 202 rfl)) (of_decide_eq_true (c.fact 203 rfl)) (of_decide_eq_true (c.fact 204 rfl)) (of_decide_eq_true (c.fact 205 rfl)) (of_decide_eq_true (c.fact 206 rfl)) (of_decide_eq_true (c.fact 207 rfl)) (of_decide_eq_true (c.fact 208 rfl)) (of_decide_eq_true (c.fact 209 rfl)) (of_decide_eq_true (c.fact 210 rfl)) (of_decide_eq_true (c.fact 211 rfl)) (of_decide_eq_true (c.fact 212 rfl)) (of_decide_eq_true (c.fact 213 rfl)) (of_decide_eq_true (c.fact 214 rfl)) (of_decide_eq_true (c.fact 215 rfl)) (of_decide_eq_true (c.fact 216 rfl)) (of_decide_eq_true (c.fact 217 rfl)) (of_decide_eq_true (c.fact 218 rfl)) (of_decide_eq_true (c.fact 219 rfl)) (of_decide_eq_true (c.fact 220 rfl)) (He.eqO_ok (c.fact 221 rfl)) (c.fact 222 rfl) (He.eqO_ok (c.fact 223 rfl)) (He.eqO_ok (c.fact 224 rfl)) (of_decide_eq_true (c.fact 225 rfl)) (c.fact 226 rfl) (He.eqO_ok (c.fact 227 rfl)) (of_decide_eq_true (c.fact 228 rfl)) (of_decide_eq_true (c.fact 229 rfl)) (of_decide_eq_true (c.fact 230 rfl)) (He.eqO_ok (c.fact 231 rfl)) (of_decide_eq_true (c.fact 232 rfl)) (of_decide_eq_true (c.fact 233 rfl)) (of_decide_eq_true (c.fact 234 rfl)) (of_decide_eq_true (c.fact 235 rfl)) (of_decide_eq_true (c.fact 236 rfl)) (of_decide_eq_true (c.fact 237 rfl)) (of_decide_eq_true (c.fact 238 rfl)) (of_decide_eq_true (c.fact 239 rfl)) (of_decide_eq_true (c.fact 240 rfl)) (of_decide_eq_true (c.fact 241 rfl)) (of_decide_eq_true (c.fact 242 rfl)) (of_decide_eq_true (c.fact 243 rfl)) (of_decide_eq_true (c.fact 244 rfl)) (of_decide_eq_true (c.fact 245 rfl)) (of_decide_eq_true (c.fact 246 rfl)) (of_decide_eq_true (c.fact 247 rfl)) (of_decide_eq_true (c.fact 248 rfl)) (of_decide_eq_true (c.fact 249 rfl)) (of_decide_eq_true (c.fact 250 rfl)) (of_decide_eq_true (c.fact 251 rfl)) (He.eqO_ok (c.fact 252 rfl)) (c.fact 253 rfl) (He.eqO_ok (c.fact 254 rfl)) (He.eqO_ok (c.fact 255 rfl)) (of_decide_eq_true (c.fact 256 rfl)) (c.fact 257 rfl) (He.eqO_ok (c.fact 258 rfl)) (of_decide_eq_true (c.fact 259 rfl)) (of_decide_eq_true (c.fact 260 rfl)) (of_decide_eq_true (c.fact 261 rfl)) (of_decide_eq_true (c.fact 262 rfl)) (of_decide_eq_true (c.fact 263 rfl)) (of_decide_eq_true (c.fact 264 rfl)) (of_decide_eq_true (c.fact 265 rfl)) (of_decide_eq_true (c.fact 266 rfl)) (of_decide_eq_true (c.fact 267 rfl)) (of_decide_eq_true (c.fact 268 rfl)) (of_decide_eq_true (c.fact 269 rfl)) (of_decide_eq_true (c.fact 270 rfl)) (of_decide_eq_true (c.fact 271 rfl)) (of_decide_eq_true (c.fact 272 rfl)) (of_decide_eq_true (c.fact 273 rfl)) (of_decide_eq_true (c.fact 274 rfl)) (of_decide_eq_true (c.fact 275 rfl)) (of_decide_eq_true (c.fact 276 rfl)) (of_decide_eq_true (c.fact 277 rfl)) (of_decide_eq_true (c.fact 278 rfl)) (of_decide_eq_true (c.fact 279 rfl)) (of_decide_eq_true (c.fact 280 rfl)) (of_decide_eq_true (c.fact 281 rfl)) (c.fact 282 rfl) (c.fact 283 rfl) (He.eqO_ok (c.fact 284 rfl)) (c.fact 285 rfl) (He.eqO_ok (c.fact 286 rfl)) (He.eqO_ok (c.fact 287 rfl)) (of_decide_eq_true (c.fact 288 rfl)) (c.fact 289 rfl) (He.eqO_ok (c.fact 290 rfl)) (of_decide_eq_true (c.fact 291 rfl)) (of_decide_eq_true (c.fact 292 rfl)) (of_decide_eq_true (c.fact 293 rfl)) (He.eqO_ok (c.fact 294 rfl)) (of_decide_eq_true (c.fact 295 rfl)) (of_decide_eq_true (c.fact 296 rfl)) (of_decide_eq_true (c.fact 297 rfl)) (of_decide_eq_true (c.fact 298 rfl)) (of_decide_eq_true (c.fact 299 rfl)) (of_decide_eq_true (c.fact 300 rfl)) (of_decide_eq_true (c.fact 301 rfl)) (of_decide_eq_true (c.fact 302 rfl)) (of_decide_eq_true (c.fact 303 rfl)) (of_decide_eq_true (c.fact 304 rfl)) (of_decide_eq_true (c.fact 305 rfl)) (of_decide_eq_true (c.fact 306 rfl)) (of_decide_eq_true (c.fact 307 rfl)) (of_decide_eq_true (c.fact 308 rfl)) (of_decide_eq_true (c.fact 309 rfl)) (of_decide_eq_true (c.fact 310 rfl)) (of_decide_eq_true (c.fact 311 rfl)) (of_decide_eq_true (c.fact 312 rfl)) (of_decide_eq_true (c.fact 313 rfl)) (of_decide_eq_true (c.fact 314 rfl)) (He.eqO_ok (c.fact 315 rfl)) (c.fact 316 rfl) (He.eqO_ok (c.fact 317 rfl)) (He.eqO_ok (c.fact 318 rfl)) (of_decide_eq_true (c.fact 319 rfl)) (c.fact 320 rfl) (He.eqO_ok (c.fact 321 rfl)) (of_decide_eq_true (c.fact 322 rfl)) (of_decide_eq_true (c.fact 323 rfl)) (of_decide_eq_true (c.fact 324 rfl)) (of_decide_eq_true (c.fact 325 rfl)) (of_decide_eq_true (c.fact 326 rfl)) (of_decide_eq_true (c.fact 327 rfl)) (of_decide_eq_true (c.fact 328 rfl)) (of_decide_eq_true (c.fact 329 rfl)) (of_decide_eq_true (c.fact 330 rfl)) (of_decide_eq_true (c.fact 331 rfl)) (of_decide_eq_true (c.fact 332 rfl)) (of_decide_eq_true (c.fact 333 rfl)) (of_decide_eq_true (c.fact 334 rfl)) (of_decide_eq_true (c.fact 335 rfl)) (of_decide_eq_true (c.fact 336 rfl)) (of_decide_eq_true (c.fact 337 rfl)) (of_decide_eq_true (c.fact 338 rfl)) (of_decide_eq_true (c.fact 339 rfl)) (of_decide_eq_true (c.fact 340 rfl)) (of_decide_eq_true (c.fact 341 rfl)) (of_decide_eq_true (c.fact 342 rfl)) (of_decide_eq_true (c.fact 343 rfl)) (of_decide_eq_true (c.fact 344 rfl)) (c.fact 345 rfl) (c.fact 346 rfl) (He.eqO_ok (c.fact 347 rfl)) (c.fact 348 rfl) (He.eqO_ok (c.fact 349 rfl)) (He.eqO_ok (c.fact 350 rfl)) (of_decide_eq_true (c.fact 351 rfl)) (c.fact 352 rfl) (He.eqO_ok (c.fact 353 rfl)) (of_decide_eq_true (c.fact 354 rfl)) (of_decide_eq_true (c.fact 355 rfl)) (of_decide_eq_true (c.fact 356 rfl)) (He.eqO_ok (c.fact 357 rfl)) (of_decide_eq_true (c.fact 358 rfl)) (of_decide_eq_true (c.fact 359 rfl)) (of_decide_eq_true (c.fact 360 rfl)) (of_decide_eq_true (c.fact 361 rfl)) (of_decide_eq_true (c.fact 362 rfl)) (of_decide_eq_true (c.fact 363 rfl)) (of_decide_eq_true (c.fact 364 rfl)) (of_decide_eq_true (c.fact 365 rfl)) (of_decide_eq_true (c.fact 366 rfl)) (of_decide_eq_true (c.fact 367 rfl)) (of_decide_eq_true (c.fact 368 rfl)) (of_decide_eq_true (c.fact 369 rfl)) (of_decide_eq_true (c.fact 370 rfl)) (of_decide_eq_true (c.fact 371 rfl)) (of_decide_eq_true (c.fact 372 rfl)) (of_decide_eq_true (c.fact 373 rfl)) (of_decide_eq_true (c.fact 374 rfl)) (of_decide_eq_true (c.fact 375 rfl)) (of_decide_eq_true (c.fact 376 rfl)) (of_decide_eq_true (c.fact 377 rfl)) (He.eqO_ok (c.fact 378 rfl)) (c.fact 379 rfl) (He.eqO_ok (c.fact 380 rfl)) (He.eqO_ok (c.fact 381 rfl)) (of_decide_eq_true (c.fact 382 rfl)) (c.fact 383 rfl) (He.eqO_ok (c.fact 384 rfl)) (of_decide_eq_true (c.fact 385 rfl)) (of_decide_eq_true (c.fact 386 rfl)) (of_decide_eq_true (c.fact 387 rfl)) (of_decide_eq_true (c.fact 388 rfl)) (of_decide_eq_true (c.fact 389 rfl)) (of_decide_eq_true (c.fact 390 rfl)) (of_decide_eq_true (c.fact 391 rfl)) (of_decide_eq_true (c.fact 392 rfl)) (of_decide_eq_true (c.fact 393 rfl)) (of_decide_eq_true (c.fact 394 rfl)) (of_decide_eq_true (c.fact 395 rfl)) (of_decide_eq_true (c.fact 396 rfl)) (of_decide_eq_true (c.fact 397 rfl)) (of_decide_eq_true (c.fact 398 rfl)) (of_decide_eq_true (c.fact 399 rfl)) (of_decide_eq_true (c.fact 400 rfl)) (of_decide_eq_true (c.fact 401 rfl)) (of_decide_eq_true (c.fact 402 rfl)) (of_decide_eq_true (c.fact 403 rfl)) (of_decide_eq_true (c.fact 404 rfl)) (of_decide_eq_true (c.fact 405 rfl)) (of_decide_eq_true (c.fact 406 rfl)) (of_decide_eq_true (c.fact 407 rfl)) (c.fact 408 rfl) (c.fact 409 rfl) (He.eqO_ok (c.fact 410 rfl)) (c.fact 411 rfl) (He.eqO_ok (c.fact 412 rfl)) (He.eqO_ok (c.fact 413 rfl)) (of_decide_eq_true (c.fact 414 rfl)) (c.fact 415 rfl) (He.eqO_ok (c.fact 416 rfl)) (of_decide_eq_true (c.fact 417 rfl)) (of_decide_eq_true (c.fact 418 rfl)) (of_decide_eq_true (c.fact 419 rfl)) (of_decide_eq_true (c.fact 420 rfl)) (of_decide_eq_true (c.fact 421 rfl)) (of_decide_eq_true (c.fact 422 rfl)) (of_decide_eq_true (c.fact 423 rfl)) (of_decide_eq_true (c.fact 424 rfl)) (of_decide_eq_true (c.fact 425 rfl)) (of_decide_eq_true (c.fact 426 rfl)) (of_decide_eq_true (c.fact 427 rfl)) (of_decide_eq_true (c.fact 428 rfl)) (of_decide_eq_true (c.fact 429 rfl)) (of_decide_eq_true (c.fact 430 rfl)) (of_decide_eq_true (c.fact 431 rfl)) (of_decide_eq_true (c.fact 432 rfl)) (of_decide_eq_true (c.fact 433 rfl)) (of_decide_eq_true (c.fact 434 rfl)) (of_decide_eq_true (c.fact 435 rfl)) (of_decide_eq_true (c.fact 436 rfl)) (of_decide_eq_true (c.fact 437 rfl)) (of_decide_eq_true (c.fact 438 rfl)) (of_decide_eq_true (c.fact 439 rfl)) (c.fact 440 rfl) (c.fact 441 rfl) (He.eqO_ok (c.fact 442 rfl)) (c.fact 443 rfl) (He.eqO_ok (c.fact 444 rfl)) (He.eqO_ok (c.fact 445 rfl)) (of_decide_eq_true (c.fact 446 rfl)) (c.fact 447 rfl) (He.eqO_ok (c.fact 448 rfl)) (of_decide_eq_true (c.fact 449 rfl)) (of_decide_eq_true (c.fact 450 rfl)) (of_decide_eq_true (c.fact 451 rfl)) (of_decide_eq_true (c.fact 452 rfl)) (of_decide_eq_true (c.fact 453 rfl)) (of_decide_eq_true (c.fact 454 rfl)) (of_decide_eq_true (c.fact 455 rfl)) (of_decide_eq_true (c.fact 456 rfl)) (of_decide_eq_true (c.fact 457 rfl)) (of_decide_eq_true (c.fact 458 rfl)) (of_decide_eq_true (c.fact 459 rfl)) (of_decide_eq_true (c.fact 460 rfl)) (of_decide_eq_true (c.fact 461 rfl)) (of_decide_eq_true (c.fact 462 rfl)) (of_decide_eq_true (c.fact 463 rfl)) (of_decide_eq_true (c.fact 464 rfl)) (of_decide_eq_true (c.fact 465 rfl)) (of_decide_eq_true (c.fact 466 rfl)) (of_decide_eq_true (c.fact 467 rfl)) (of_decide_eq_true (c.fact 468 rfl)) (of_decide_eq_true (c.fact 469 rfl)) (of_decide_eq_true (c.fact 470 rfl)) (of_decide_eq_true (c.fact 471 rfl)) (c.fact 472 rfl) (c.fact 473 rfl) (He.eqO_ok (c.fact 474 rfl)) (c.fact 475 rfl) (He.eqO_ok (c.fact 476 rfl)) (He.eqO_ok (c.fact 477 rfl)) (of_decide_eq_true (c.fact 478 rfl)) (c.fact 479 rfl) (He.eqO_ok (c.fact 480 rfl)) (of_decide_eq_true (c.fact 481 rfl)) (of_decide_eq_true (c.fact 482 rfl)) (of_decide_eq_true (c.fact 483 rfl)) (He.eqO_ok (c.fact 484 rfl)) (of_decide_eq_true (c.fact 485 rfl)) (of_decide_eq_true (c.fact 486 rfl)) (of_decide_eq_true (c.fact 487 rfl)) (of_decide_eq_true (c.fact 488 rfl)) (of_decide_eq_true (c.fact 489 rfl)) (of_decide_eq_true (c.fact 490 rfl)) (of_decide_eq_true (c.fact 491 rfl)) (of_decide_eq_true (c.fact 492 rfl)) (of_decide_eq_true (c.fact 493 rfl)) (of_decide_eq_true (c.fact 494 rfl)) (of_decide_eq_true (c.fact 495 rfl)) (of_decide_eq_true (c.fact 496 rfl)) (of_decide_eq_true (c.fact 497 rfl)) (of_decide_eq_true (c.fact 498 rfl)) (of_decide_eq_true (c.fact 499 rfl)) (of_decide_eq_true (c.fact 500 rfl)) (of_decide_eq_true (c.fact 501 rfl)) (of_decide_eq_true (c.fact 502 rfl)) (of_decide_eq_true (c.fact 503 rfl)) (of_decide_eq_true (c.fact 504 rfl)) (He.eqO_ok (c.fact 505 rfl)) (c.fact 506 rfl) (He.eqO_ok (c.fact 507 rfl)) (He.eqO_ok (c.fact 508 rfl)) (of_decide_eq_true (c.fact 509 rfl)) (c.fact 510 rfl) (He.eqO_ok (c.fact 511 rfl)) (of_decide_eq_true (c.fact 512 rfl)) (of_decide_eq_true (c.fact 513 rfl)) (of_decide_eq_true (c.fact 514 rfl)) (of_decide_eq_true (c.fact 515 rfl)) (of_decide_eq_true (c.fact 516 rfl)) (of_decide_eq_true (c.fact 517 rfl)) (of_decide_eq_true (c.fact 518 rfl)) (of_decide_eq_true (c.fact 519 rfl)) (of_decide_eq_true (c.fact 520 rfl)) (of_decide_eq_true (c.fact 521 rfl)) (of_decide_eq_true (c.fact 522 rfl)) (of_decide_eq_true (c.fact 523 rfl)) (of_decide_eq_true (c.fact 524 rfl)) (of_decide_eq_true (c.fact 525 rfl)) (of_decide_eq_true (c.fact 526 rfl)) (of_decide_eq_true (c.fact 527 rfl)) (of_decide_eq_true (c.fact 528 rfl)) (of_decide_eq_true (c.fact 529 rfl)) (of_decide_eq_true (c.fact 530 rfl)) (of_decide_eq_true (c.fact 531 rfl)) (of_decide_eq_true (c.fact 532 rfl)) (of_decide_eq_true (c.fact 533 rfl)) (of_decide_eq_true (c.fact 534 rfl)) (c.fact 535 rfl) (c.fact 536 rfl) (He.eqO_ok (c.fact 537 rfl)) (c.fact 538 rfl) (He.eqO_ok (c.fact 539 rfl)) (He.eqO_ok (c.fact 540 rfl)) (of_decide_eq_true (c.fact 541 rfl)) (c.fact 542 rfl) (He.eqO_ok (c.fact 543 rfl)) (of_decide_eq_true (c.fact 544 rfl)) (of_decide_eq_true (c.fact 545 rfl)) (of_decide_eq_true (c.fact 546 rfl)) (He.eqO_ok (c.fact 547 rfl)) (of_decide_eq_true (c.fact 548 rfl)) (of_decide_eq_true (c.fact 549 rfl)) (of_decide_eq_true (c.fact 550 rfl)) (of_decide_eq_true (c.fact 551 rfl)) (of_decide_eq_true (c.fact 552 rfl)) (of_decide_eq_true (c.fact 553 rfl)) (of_decide_eq_true (c.fact 554 rfl)) (of_decide_eq_true (c.fact 555 rfl)) (of_decide_eq_true (c.fact 556 rfl)) (of_decide_eq_true (c.fact 557 rfl)) (of_decide_eq_true (c.fact 558 rfl)) (of_decide_eq_true (c.fact 559 rfl)) (of_decide_eq_true (c.fact 560 rfl)) (of_decide_eq_true (c.fact 561 rfl)) (of_decide_eq_true (c.fact 562 rfl)) (of_decide_eq_true (c.fact 563 rfl)) (of_decide_eq_true (c.fact 564 rfl)) (of_decide_eq_true (c.fact 565 rfl)) (of_decide_eq_true (c.fact 566 rfl)) (of_decide_eq_true (c.fact 567 rfl)) (He.eqO_ok (c.fact 568 rfl)) (c.fact 569 rfl) (He.eqO_ok (c.fact 570 rfl)) (He.eqO_ok (c.fact 571 rfl)) (of_decide_eq_true (c.fact 572 rfl)) (c.fact 573 rfl) (He.eqO_ok (c.fact 574 rfl)) (of_decide_eq_true (c.fact 575 rfl)) (of_decide_eq_true (c.fact 576 rfl)) (of_decide_eq_true (c.fact 577 rfl)) (of_decide_eq_true (c.fact 578 rfl)) (of_decide_eq_true (c.fact 579 rfl)) (of_decide_eq_true (c.fact 580 rfl)) (of_decide_eq_true (c.fact 581 rfl)) (of_decide_eq_true (c.fact 582 rfl)) (of_decide_eq_true (c.fact 583 rfl)) (of_decide_eq_true (c.fact 584 rfl)) (of_decide_eq_true (c.fact 585 rfl)) (of_decide_eq_true (c.fact 586 rfl)) (of_decide_eq_true (c.fact 587 rfl)) (of_decide_eq_true (c.fact 588 rfl)) (of_decide_eq_true (c.fact 589 rfl)) (of_decide_eq_true (c.fact 590 rfl)) (of_decide_eq_true (c.fact 591 rfl)) (of_decide_eq_true (c.fact 592 rfl)) (of_decide_eq_true (c.fact 593 rfl)) (of_decide_eq_true (c.fact 594 rfl)) (of_decide_eq_true (c.fact 595 rfl)) (of_decide_eq_true (c.fact 596 rfl)) (of_decide_eq_true (c.fact 597 rfl)) (c.fact 598 rfl) (c.fact 599 rfl) (He.eqO_ok (c.fact 600 rfl)) (c.fact 601 rfl) (He.eqO_ok (c.fact 602 rfl)) (He.eqO_ok (c.fact 603 rfl)) (of_decide_eq_true (c.fact 604 rfl)) (c.fact 605 rfl) (He.eqO_ok (c.fact 606 rfl)) (of_decide_eq_true (c.fact 607 rfl)) (of_decide_eq_true (c.fact 608 rfl)) (of_decide_eq_true (c.fact 609 rfl)) (of_decide_eq_true (c.fact 610 rfl)) (of_decide_eq_true (c.fact 611 rfl)) (of_decide_eq_true (c.fact 612 rfl)) (of_decide_eq_true (c.fact 613 rfl)) (of_decide_eq_true (c.fact 614 rfl)) (of_decide_eq_true (c.fact 615 rfl)) (of_decide_eq_true (c.fact 616 rfl)) (of_decide_eq_true (c.fact 617 rfl)) (of_decide_eq_true (c.fact 618 rfl)) (of_decide_eq_true (c.fact 619 rfl)) (of_decide_eq_true (c.fact 620 rfl)) (of_decide_eq_true (c.fact 621 rfl)) (of_decide_eq_true (c.fact 622 rfl)) (of_decide_eq_true (c.fact 623 rfl)) (of_decide_eq_true (c.fact 624 rfl)) (of_decide_eq_true (c.fact 625 rfl)) (of_decide_eq_true (c.fact 626 rfl)) (of_decide_eq_true (c.fact 627 rfl)) (of_decide_eq_true (c.fact 628 rfl)) (of_decide_eq_true (c.fact 629 rfl)) (c.fact 630 rfl) (c.fact 631 rfl) ri_BadBook ri_BadPlans ri_BadRules ri_BadTable ri_BadText ri_BadThing ri_NoRule ri_TooMany rj_BadBook rj_BadPlans rj_BadRules rj_BadTable rj_BadText rj_BadThing rj_NoRule rj_TooMany (He.eqO_ok (c.fact 632 rfl)) (of_decide_eq_true (c.fact 633 rfl)) q0 q1 q2 q3 q4 q5 a6 l6 c6 k6 (He.eqO_ok (c.fact 634 rfl)) (He.eqO_ok (c.fact 635 rfl)) (He.eqO_ok (c.fact 636 rfl)) (He.eqO_ok (c.fact 637 rfl)) (He.eqO_ok (c.fact 638 rfl)) (He.eqO_ok (c.fact 639 rfl)) (He.eqO_ok (c.fact 640 rfl)) (He.eqO_ok (c.fact 641 rfl)) (He.eqO_ok (c.fact 642 rfl)) (He.eqO_ok (c.fact 643 rfl)) (He.eqO_ok (c.fact 644 rfl)) (He.eqO_ok (c.fact 645 rfl)) (He.eqO_ok (c.fact 646 rfl)) (He.eqO_ok (c.fact 647 rfl)) (He.eqO_ok (c.fact 648 rfl)) (He.eqO_ok (c.fact 649 rfl))
 refine ⟨fd, TO, ?_, hb, hF⟩
 obtain ⟨_, _, _, _, m, _⟩ := TO.at_ "law" (by decide +kernel) _ a6
 exact fun z => by rw [z] at m; cases m
end Hx
open PySem PySem.W PyProof.Rows Fx in
set_option maxRecDepth 100000 in
set_option maxHeartbeats 0 in
theorem PySem.Challenge.cw_lastmakers_k01_errors_by_hand_holds : PySem.Challenge.rw_lastmakers_k01_errors_by_hand.Holds := by
 w_on; o_law
 refine HandSHeadRun.head_any (r := OpenLaw.row PySem.Challenge.rw_lastmakers_k01_errors_by_hand) (q := view (OpenLaw.row PySem.Challenge.rw_lastmakers_k01_errors_by_hand).prog [28]) (H := Hd.hookX Hx.xs Hx.B Hx.ds) (ob := Hx.ob) (M := 20000) (loose := Hx.loose) (d := HandSHeadRun.topDef (OpenLaw.row PySem.Challenge.rw_lastmakers_k01_errors_by_hand).prog 28) (kwd := []) Hx.a8t
  (by kernel_rfl) (fun s => by kernel_rfl) Hx.run (by kernel_rfl) (by kernel_rfl) (by kernel_rfl) (by rfl) (by first | assumption | decide +kernel) (by decide +kernel) ⟨rfl, rfl, rfl, rfl, rfl, by decide +kernel⟩ ?hw ?hc
 case hw => w_witness2
 case hc =>
  refine Hd.a1G (l := PySem.Challenge.rw_lastmakers_k01_errors_by_hand) (k := 4) (x := "_law_script") rfl (by kernel_rfl) ⟨rfl, by decide, by decide⟩ ?F
  intro w mg fa h Y G hmg0
  obtain ⟨K, T, KX, XT, c⟩ := Y
  have hmg : mg ("law" : PySem.Str) = some (.ref fa) := by
   have e : (HandSHeadRun.topDef (OpenLaw.row PySem.Challenge.rw_lastmakers_k01_errors_by_hand).prog 28).name = ("law" : PySem.Str) := by kernel_rfl
   rw [← e]
   exact hmg0
  obtain ⟨fd, TO, ne, hb, hF⟩ := Hx.facts (l := PySem.Challenge.rw_lastmakers_k01_errors_by_hand) (by kernel_rfl) (by kernel_rfl) (w := w) KX G hmg XT c
  exact ⟨K, fd, _, KX, TO, ne, hb, hF⟩


