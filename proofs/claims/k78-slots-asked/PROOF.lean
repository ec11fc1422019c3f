import PyProof.Rows.All
import Wide.All
import OpenK.AllK
import Wide.FinOn
import HandS.ForMost
import HandS.Deep
import HandS.Conv
import HandS.Flow
import HandS.Style
import HandS.Zip
import HandS.TupAny
import KE.SortData
import HandS.Slots
import HandS.Lambda
import HandS.Star
import HandS.Codes
import HandS.More
import HandS.Iter
import HandS.Text
import HandS.Replace
import HandS.RaiseMore
import PyProof.ReprRoads
import PyProof.ReprLen
import PyProof.Draws
import PyProof.EnumMake
import HandS.IsInst
import HandS.SetKeys
import HandS.Strs
import HandS.SetFor
import HandS.HeadHook3
import KE.GoesEnum
import KE.GoesMore
import HandS.DictComp
import KE.KDictPairs
import PyProof.FactsDict
import HandS.WideBits
import PyProof.Rows.CountFlat
import HandS.DeepEq
import HandS.SlotsOwn
import HandS.OwnEq
import PyProof.StrBlock2
import PyProof.Rows.IntBool
import PyProof.AutoSeq1
import HandS.Exc
import HandS.ExcInit
import HandS.ExcField
import HandS.ExcSuper
import HandS.Nested
import KE.KSuper
import KE.KExcSuper
import HandS.ExcIs
import HandS.TryOnly
import KE.KExcIs
import PyProof.EqKinds
import HandS.DictEq
import HandS.NamedTupSort
import HandS.ListItems
import PyProof.CallStr
import KE.SortKeyHeap
import KE.KSortKey
import KE.KNestM
import HandS.EndTab
import HandS.TupSets
import KE.KDictWalk
import PyProof.WalkInts
import PyProof.FactsAll.subtypes_4
import PyProof.FactsAll.subtypes_5
import HandS.BoundDict
import HandS.TupMul
import HandS.SortRule
import HandS.DictTup
import KE.KDictCopyH
import PySem.Challenge.RW_rowsborne_k78_slots_asked
set_option Elab.async false
set_option linter.all false
set_option maxRecDepth 100000
/-! Tv: Python data as trees over the layer L2. -/
namespace Tv
open PySem PySem.Spec PyProof.Rows L2

/-- data as trees; bag: the law's own number bag -/
inductive D where
  | non
  | bl (b : Bool)
  | int (i : Int)
  | str (x : Str)
  | tup (ds : List D)
  | lst (ds : List D)
  | bag
  | scr
  /-- a function (a class) of the text, by its name -/
  | fn (x : Str)
  /-- dicts: keys that are ints and texts; keys that are tuples of these -/
  | dct (ks : List Key) (ds : List D)
  | dcu (ks : List (List Key)) (ds : List D)
  /-- an instance of a class of the text -/
  | ins (c : Str) (ns : List Str) (ds : List D)
  /-- any value at all -/
  | unk
  /-- a thing of the store, by its address -/
  | ptr (a : Addr)

/-- ghosts: F, what never changes any more; B, the bags and the things of the store -/
structure Gh where
  F : Addr → Prop
  B : Addr → Prop
  /-- what borrowed variables hold -/
  A : Nat → V → Prop
  /-- of B, the things of the store -/
  M : Addr → Prop
/-- what a thing of the store may be -/
def isMu : HO → Bool
  | .lst _ => true
  | .dK _ => true
  | .ext _ => true
  | _ => false
def IsMu (o : HO) : Prop := isMu o = true ∧ ∀ c q, o ≠ LamX.CodeO c q

/-- the tables of code objects that makers of lambdas write, with the lambdas' names; how tuples of keys are hashed -/
class LamT where
  tabs : List (Addr × Str)
  /-- the hash of a tuple of keys -/
  hsh : List Key → Int
section
variable [LamT] (K : PySem.W.Frag) (G : Gh) (H : Hp)
def isTab (a : Addr) : Prop := ∃ q, (a, q) ∈ LamT.tabs
/-- a list that never changes any more -/
def LsF (a : Addr) (xs : List V) : Prop := G.F a ∧ H a = some (.lst xs)
/-- the script as it was handed in: known to the object, or written -/
def ScrAt (a : Addr) (ns : List Int) : Prop :=
  (∃ o, H a = some (.frz o (.lst (ns.map V.int)))) ∨
    ∃ (o : Obj) (its : Array Value) (n : Nat), K.lookup a = some o ∧ o.cls = .type "list" ∧ o.dict = none ∧ o.data = .seq its n ∧ its.size ≤ sizeLine ∧ Vals (ns.map V.int) its.toList
/-- an object that is a dict with tuples of keys for keys: the keys, where their tuples stand, the values -/
structure DtO (a : Addr) (o : Obj) (kvs : List (List Key × Addr × V)) : Prop where
  hd : (a == sysModules) = false
  len : kvs.length ≤ sizeLine
  ex : o.ExactDict
  da : ∃ (xs : List (List Key × Addr × Value)) (es : Array DictEntry) (ep : Nat), o.data = .dict es ep ∧ Paired (fun (p : List Key × Addr × V) (q : List Key × Addr × Value) => p.1 = q.1 ∧ p.2.1 = q.2.1 ∧ RelV p.2.2 q.2.2) kvs xs ∧ es.toList = xs.map fun x => ⟨LamT.hsh x.1, .ref x.2.1, x.2.2⟩
  nd : (kvs.map (·.1)).Nodup
abbrev anyO : HO := .ext fun _ => True
/-- such a dict, by its object -/
def DtX (a : Addr) (kvs : List (List Key × Addr × V)) : HO := .ext fun h => ∃ o, h.get? a = some o ∧ DtO a o kvs
/-- the tuple at a has no dict -/
def NdT (a : Addr) : Prop := (∃ o xs, H a = some (.frz o (.tup xs)) ∧ o.dict = none) ∨ ∃ o, K.lookup a = some o ∧ o.dict = none
def isKD : D → Bool
  | .int _ => true
  | .str _ => true
  | _ => false
/-- of which tuples it is told that they have no dict: of all but rows of dicts, numbered things, and keys -/
def nst : D → Bool
  | .str _ => false
  | _ => true
def needD : List D → Bool
  | [.str _, .str _] => true
  | [.int _, _] => false
  | [.str _, _] => false
  | ds => ds.isEmpty || !(ds.all isKD)
theorem needD_s {x : Str} {d : D} (h : nst d = true) : needD [.str x, d] = false := by cases d <;> first | rfl | cases h
mutual
inductive Rep : D → V → Prop
  | non : Rep .non .non
  | bl (b : Bool) : Rep (.bl b) (.bl b)
  | int (i : Int) : Rep (.int i) (.int i)
  | str (x : Str) : Rep (.str x) (.str x)
  | tup {a : Addr} {xs : List V} {ds : List D} (h : SqT K H a xs) (r : RepL ds xs) {n : needD ds = true → NdT K H a} : Rep (.tup ds) (.ref a)
  | lst {a : Addr} {xs : List V} {ds : List D} : LsF G H a xs → RepL ds xs → Rep (.lst ds) (.ref a)
  | bag {a : Addr} : G.B a → ¬ (isTab a ∨ G.M a) → Rep .bag (.ref a)
  | scr {a : Addr} {ns : List Int} : ScrAt K H a ns → ns.length ≤ 63 → Rep .scr (.ref a)
  | fn {x : Str} {f : Addr} : PySem.W.nsIn K mainGlobals x = some (some (.ref f)) → Rep (.fn x) (.ref f)
  | dct {a : Addr} {o : Obj} {kvs : List (Key × V)} {ks : List Key} {ds : List D} : G.F a → H a = some (.frz o (.dK kvs)) → kvs.map (·.1) = ks → RepL ds (kvs.map (·.2)) → Rep (.dct ks ds) (.ref a)
  | dcu {a : Addr} {o : Obj} {kvs : List (List Key × Addr × V)} {ks : List (List Key)} {ds : List D} : G.F a → H a = some (.frz o anyO) → DtO a o kvs → (∀ p ∈ kvs, SqT K H p.2.1 (p.1.map kV)) → kvs.map (·.1) = ks → RepL ds (kvs.map (·.2.2)) → Rep (.dcu ks ds) (.ref a)
  | ins {a C dx : Addr} {vs : List V} {c : Str} {ns : List Str} {ds : List D} : G.F a → G.F dx → H a = some (SlX.SlO a C dx (vs.map some)) → H dx = some (.xd []) → PySem.W.nsIn K mainGlobals c = some (some (.ref C)) → ns.length = ds.length → RepL ds vs → Rep (.ins c ns ds) (.ref a)
  | unk (v : V) : Rep .unk v
  | ptr (a : Addr) : Rep (.ptr a) (.ref a)
inductive RepL : List D → List V → Prop
  | nil : RepL [] []
  | cons {d : D} {v : V} {ds : List D} {vs : List V} : Rep d v → RepL ds vs → RepL (d :: ds) (v :: vs)
end
/-- what the law's bag looks like -/
def BagL (ns : List Int) : Prop := (∀ n ∈ ns, 0 ≤ n) ∧ ns.length ≤ 63
def BagAt (a : Addr) : Prop := ∃ (i j k : Int) (r : Addr) (ns : List Int), H a = some (.lst [.int i, .int j, .int k, .ref r]) ∧ LsF G H r (ns.map V.int) ∧ 0 ≤ i ∧ 0 ≤ j ∧ j < 2147483647 ∧ 0 ≤ k ∧ BagL ns
/-- a table of code objects: each that it tells bears the name q -/
def TabAt (a : Addr) (q : Str) : Prop := ∃ ps : Array Value, H a = some (.tbl ps) ∧ TriplesOk ps.toList ∧ ∀ (pos : Pos) (cv : Value), codeAmong pos ps.toList = some cv → ∃ c, cv = .ref c ∧ H c = some (LamX.CodeO c q) ∧ ¬ G.B c
structure Wd : Prop where
  b : ∀ a, G.B a → ((isTab a ∨ G.M a) ∨ BagAt G H a) ∧ ¬ G.F a
  f : ∀ a, G.F a → ∃ o, H a = some o
  t : ∀ p ∈ LamT.tabs, G.B p.1 ∧ TabAt G H p.1 p.2
  m : ∀ a, G.M a → G.B a ∧ ∃ o, H a = some o ∧ IsMu o
/-- what a thing of the store holds -/
def Obm (a : Addr) : D → Prop
  | .lst ds => ∃ xs, H a = some (.lst xs) ∧ RepL K G H ds xs
  | .dct ks ds => ∃ (kvs : List (Key × V)), H a = some (.dK kvs) ∧ kvs.map (·.1) = ks ∧ RepL K G H ds (kvs.map (·.2))
  | .dcu ks ds => ∃ (kvs : List (List Key × Addr × V)), H a = some (DtX a kvs) ∧ (∀ c q, DtX a kvs ≠ LamX.CodeO c q) ∧ (∀ p ∈ kvs, SqT K H p.2.1 (p.1.map kV)) ∧ kvs.map (·.1) = ks ∧ RepL K G H ds (kvs.map (·.2.2))
  | _ => False
/-- an object that one variable alone holds -/
def Obw (a : Addr) : D → Prop
  | .lst ds => ∃ xs, H a = some (.lst xs) ∧ RepL K G H ds xs
  | .dct ks ds => ∃ (o : Obj) (kvs : List (Key × V)), H a = some (.frz o (.dK kvs)) ∧ kvs.map (·.1) = ks ∧ RepL K G H ds (kvs.map (·.2))
  | .dcu ks ds => ∃ (o : Obj) (kvs : List (List Key × Addr × V)), H a = some (.frz o anyO) ∧ DtO a o kvs ∧ (∀ p ∈ kvs, SqT K H p.2.1 (p.1.map kV)) ∧ kvs.map (·.1) = ks ∧ RepL K G H ds (kvs.map (·.2.2))
  | _ => False
def Own (a : Addr) (d : D) : Prop := ¬ G.F a ∧ ¬ G.B a ∧ Obw K G H a d
/-- it may be read now -/
def Sh (d : D) (v : V) : Prop := Rep K G H d v ∨ ∃ a, v = .ref a ∧ ¬ G.B a ∧ Obw K G H a d
end

/-- no dict -/
def NDct (u : HO) : Prop := (∀ kvs, u ≠ .dK kvs) ∧ ∀ φ, u ≠ .ext φ
/-- nothing that is frozen is changed -/
structure FE (G : Gh) (H : Hp) (G' : Gh) (H' : Hp) : Prop where
  f : ∀ a, G.F a → G'.F a
  b : ∀ a, G.B a → ¬ G.M a → G'.B a ∧ ¬ G'.M a
  l : ∀ a o, G.F a → H a = some o → H' a = some o
  t : ∀ a xs, H a = some (.tup xs) → H' a = some (.tup xs)
  z : ∀ a o u, H a = some (.frz o u) → NDct u → H' a = some (.frz o u)
/-- a step: only new things, and bags -/
structure Grow (G : Gh) (H : Hp) (G' : Gh) (H' : Hp) : Prop where
  f : ∀ a, G.F a → G'.F a
  b : ∀ a, G.B a → G'.B a
  k : ∀ a o, H a = some o → ¬ G.B a → H' a = some o
  nf : ∀ a, G'.F a → G.F a ∨ H a = none
  nb : ∀ a, G'.B a → G.B a ∨ H a = none
  m : ∀ a, G.M a → G'.M a ∧ ∀ o, H a = some o → H' a = some o
  nm : ∀ a, G'.M a → G.M a ∨ H a = none
/-- a longer way: things of the store may have changed, too -/
structure GrW (G : Gh) (H : Hp) (G' : Gh) (H' : Hp) : Prop where
  f : ∀ a, G.F a → G'.F a
  b : ∀ a, G.B a → G'.B a
  k : ∀ a o, H a = some o → ¬ G.B a → H' a = some o
  nf : ∀ a, G'.F a → G.F a ∨ H a = none
  nb : ∀ a, G'.B a → G.B a ∨ H a = none
  nm : ∀ a, G'.M a → G.M a ∨ H a = none
theorem Grow.w {G H G' H'} (g : Grow G H G' H') : GrW G H G' H' := ⟨g.f, g.b, g.k, g.nf, g.nb, g.nm⟩
theorem GrW.refl (G : Gh) (H : Hp) : GrW G H G H := ⟨fun _ h => h, fun _ h => h, fun _ _ h _ => h, fun _ h => .inl h, fun _ h => .inl h, fun _ h => .inl h⟩

theorem FE.refl (G : Gh) (H : Hp) : FE G H G H := ⟨fun _ h => h, fun _ h n => ⟨h, n⟩, fun _ _ _ h => h, fun _ _ h => h, fun _ _ _ h _ => h⟩
theorem FE.trans {G H G1 H1 G2 H2} (x : FE G H G1 H1) (y : FE G1 H1 G2 H2) : FE G H G2 H2 :=
  ⟨fun a h => y.f a (x.f a h), fun a h n => y.b a (x.b a h n).1 (x.b a h n).2, fun a o h e => y.l a o (x.f a h) (x.l a o h e), fun a xs e => y.t a xs (x.t a xs e), fun a o u e n => y.z a o u (x.z a o u e n) n⟩
theorem Grow.refl (G : Gh) (H : Hp) : Grow G H G H := ⟨fun _ h => h, fun _ h => h, fun _ _ h _ => h, fun _ h => .inl h, fun _ h => .inl h, fun _ h => ⟨h, fun _ e => e⟩, fun _ h => .inl h⟩

section
variable [LamT] {K : PySem.W.Frag} {G G' G1 G2 : Gh} {H H' H1 H2 : Hp} {a : Addr} {d : D} {v : V} {xs : List V} {ds : List D}
theorem Wd.bag (w : Wd G H) (h : G.B a) (n : ¬ (isTab a ∨ G.M a)) : BagAt G H a := (w.b a h).1.resolve_left n
theorem Wd.bobj (w : Wd G H) (h : G.B a) : (∃ o, H a = some o ∧ IsMu o) ∨ ∃ ps, H a = some (.tbl ps) := by
  rcases (w.b a h).1 with (⟨q, z⟩ | z) | ⟨i, j, k, r, ns, e, _⟩
  · obtain ⟨_, ps, e, _⟩ := w.t _ z
    exact .inr ⟨ps, e⟩
  · exact .inl (w.m a z).2
  · exact .inl ⟨_, e, rfl, fun _ _ z => nomatch z⟩
theorem Wd.btr (w : Wd G H) (h : G.B a) : ∃ o, H a = some o := (w.bobj h).elim (fun ⟨_, e, _⟩ => ⟨_, e⟩) fun ⟨_, e⟩ => ⟨_, e⟩
theorem Wd.mtr (w : Wd G H) (h : G.M a) : ∃ o, H a = some o := w.btr (w.m a h).1
theorem Wd.nB {o : HO} (w : Wd G H) (e : H a = some o) (h1 : isMu o = false) (h2 : ∀ ps, o ≠ .tbl ps) : ¬ G.B a := fun h => by
  rcases w.bobj h with ⟨u, z, y⟩ | ⟨xs, z⟩ <;> rw [e] at z
  · cases z; have y1 := y.1; rw [h1] at y1; cases y1
  · exact h2 xs (Option.some.inj z)
/-- what a table asks stays -/
theorem TabAt.on {q : Str} (h : TabAt G H a q) (e : ∀ ps, H a = some (.tbl ps) → H' a = some (.tbl ps)) (k : ∀ c o, H c = some o → (∃ φ, o = .ext φ) → ¬ G.B c → (∃ q, o = LamX.CodeO c q) → H' c = some o ∧ ¬ G'.B c) : TabAt G' H' a q := by
  obtain ⟨ps, e1, e2, e3⟩ := h
  refine ⟨ps, e ps e1, e2, fun pos cv hc => ?_⟩
  obtain ⟨c, e4, e5, e6⟩ := e3 pos cv hc
  obtain ⟨f1, f2⟩ := k c _ e5 ⟨_, rfl⟩ e6 ⟨_, rfl⟩
  exact ⟨c, e4, f1, f2⟩
theorem Grow.fe (g : Grow G H G' H') (w : Wd G H) : FE G H G' H' := by
  exact ⟨g.f, fun a h n => ⟨g.b a h, fun z => (g.nm a z).elim n fun y => by obtain ⟨o, e⟩ := w.btr h; rw [y] at e; cases e⟩, fun a o h e => g.k a o e fun hb => (w.b a hb).2 h, fun a xs e => g.k a _ e (w.nB e rfl nofun), fun a o u e _ => g.k a _ e (w.nB e rfl nofun)⟩
theorem GrW.fe (g : GrW G H G' H') (w : Wd G H) : FE G H G' H' := by
  exact ⟨g.f, fun a h n => ⟨g.b a h, fun z => (g.nm a z).elim n fun y => by obtain ⟨o, e⟩ := w.btr h; rw [y] at e; cases e⟩, fun a o h e => g.k a o e fun hb => (w.b a hb).2 h, fun a xs e => g.k a _ e (w.nB e rfl nofun), fun a o u e _ => g.k a _ e (w.nB e rfl nofun)⟩
theorem GrW.nn (g : GrW G H G1 H1) (w1 : Wd G1 H1) (h : H1 a = none) : H a = none := by
  cases e : H a with
  | none => rfl
  | some o =>
    by_cases hb : G.B a
    · obtain ⟨xs, e'⟩ := w1.btr (g.b a hb)
      rw [h] at e'; cases e'
    · rw [g.k a o e hb] at h; cases h
theorem GrW.trans (x : GrW G H G1 H1) (w1 : Wd G1 H1) (y : GrW G1 H1 G2 H2) : GrW G H G2 H2 := by
  refine ⟨fun a h => y.f a (x.f a h), fun a h => y.b a (x.b a h), fun a o e hb => y.k a o (x.k a o e hb) fun h1 => ?_, fun a h => ?_, fun a h => ?_, fun a h => ?_⟩
  · rcases x.nb a h1 with h1 | h1
    · exact hb h1
    · rw [h1] at e; cases e
  · rcases y.nf a h with h | h
    · exact x.nf a h
    · exact .inr (x.nn w1 h)
  · rcases y.nb a h with h | h
    · exact x.nb a h
    · exact .inr (x.nn w1 h)
  · rcases y.nm a h with h | h
    · exact x.nm a h
    · exact .inr (x.nn w1 h)
theorem Grow.nn (g : Grow G H G1 H1) (w1 : Wd G1 H1) (h : H1 a = none) : H a = none := by
  cases e : H a with
  | none => rfl
  | some o =>
    by_cases hb : G.B a
    · obtain ⟨xs, e'⟩ := w1.btr (g.b a hb)
      rw [h] at e'; cases e'
    · rw [g.k a o e hb] at h; cases h
theorem Grow.trans (x : Grow G H G1 H1) (w1 : Wd G1 H1) (y : Grow G1 H1 G2 H2) : Grow G H G2 H2 := by
  refine ⟨fun a h => y.f a (x.f a h), fun a h => y.b a (x.b a h), fun a o e hb => y.k a o (x.k a o e hb) fun h1 => ?_, fun a h => ?_, fun a h => ?_, fun a h => ⟨(y.m a (x.m a h).1).1, fun o e => (y.m a (x.m a h).1).2 o ((x.m a h).2 o e)⟩, fun a h => ?_⟩
  · rcases x.nb a h1 with h1 | h1
    · exact hb h1
    · rw [h1] at e; cases e
  · rcases y.nf a h with h | h
    · exact x.nf a h
    · exact .inr (x.nn w1 h)
  · rcases y.nb a h with h | h
    · exact x.nb a h
    · exact .inr (x.nn w1 h)
  · rcases y.nm a h with h | h
    · exact x.nm a h
    · exact .inr (x.nn w1 h)
theorem SqT.fe (g : FE G H G' H') (h : SqT K H a xs) : SqT K H' a xs := by
  rcases h with (h | ⟨o, h⟩) | h
  · exact .inl (.inl (g.t _ _ h))
  · exact .inl (.inr ⟨o, g.z _ _ _ h ⟨nofun, nofun⟩⟩)
  · exact .inr h
theorem NdT.fe (g : FE G H G' H') (h : NdT K H a) : NdT K H' a := h.imp (fun ⟨o, ys, e, d⟩ => ⟨o, ys, g.z _ _ _ e ⟨nofun, nofun⟩, d⟩) id
/-- a tuple that is known -/
theorem repT {o : Obj} (e : H a = some (.frz o (.tup xs))) (d : o.dict = none) (r : RepL K G H ds xs) : Rep K G H (.tup ds) (.ref a) := Rep.tup (n := fun _ => .inl ⟨o, xs, e, d⟩) (.inl (.inr ⟨o, e⟩)) r
/-- a new tuple, told at any free place -/
def NewT (Q : VK) (H : Hp) (xs : List V) : Prop := ∀ p o, o.dict = none → H p = none → Q (.ref p) (upd H p (.frz o (.tup xs)))
theorem LsF.fe (g : FE G H G' H') (h : LsF G H a xs) : LsF G' H' a xs := by
  exact ⟨g.f _ h.1, g.l _ _ h.1 h.2⟩
theorem LsF.sq (h : LsF G H a xs) : SqL K H a xs := .inl (.inl h.2)
theorem ScrAt.fe {ns : List Int} (g : FE G H G' H') (h : ScrAt K H a ns) : ScrAt K H' a ns := by
  rcases h with ⟨o, h⟩ | h
  · exact .inl ⟨o, g.z _ _ _ h ⟨nofun, nofun⟩⟩
  · exact .inr h
theorem ScrAt.sq {ns : List Int} (h : ScrAt K H a ns) : SqL K H a (ns.map V.int) := by
  rcases h with ⟨o, h⟩ | h
  · exact .inl (.inr ⟨o, h⟩)
  · exact .inr h
mutual
theorem Rep.fe (g : FE G H G' H') : ∀ {d : D} {v : V}, Rep K G H d v → Rep K G' H' d v
  | _, _, .non => .non
  | _, _, .bl b => .bl b
  | _, _, .int i => .int i
  | _, _, .str x => .str x
  | _, _, @Rep.tup _ _ _ _ _ _ _ h r n => Rep.tup (n := fun z => (n z).fe g) (SqT.fe g h) (RepL.fe g r)
  | _, _, .lst h r => .lst (LsF.fe g h) (RepL.fe g r)
  | _, _, .bag h n => .bag (g.b _ h fun z => n (.inr z)).1 fun z => z.elim (fun y => n (.inl y)) (g.b _ h fun z => n (.inr z)).2
  | _, _, .scr h z => .scr (ScrAt.fe g h) z
  | _, _, .fn h => .fn h
  | _, _, .dct h e k r => .dct (g.f _ h) (g.l _ _ h e) k (RepL.fe g r)
  | _, _, .dcu h e y t k r => .dcu (g.f _ h) (g.l _ _ h e) y (fun p hp => SqT.fe g (t p hp)) k (RepL.fe g r)
  | _, _, .ins h h2 e e2 c k r => .ins (g.f _ h) (g.f _ h2) (g.l _ _ h e) (g.l _ _ h2 e2) c k (RepL.fe g r)
  | _, _, .unk v => .unk v
  | _, _, .ptr a => .ptr a
theorem RepL.fe (g : FE G H G' H') : ∀ {ds : List D} {vs : List V}, RepL K G H ds vs → RepL K G' H' ds vs
  | _, _, .nil => .nil
  | _, _, .cons r t => .cons (Rep.fe g r) (RepL.fe g t)
end
theorem Obw.fe (g : FE G H G' H') (e : ∀ o, H a = some o → H' a = some o) (h : Obw K G H a d) : Obw K G' H' a d := by
  cases d with
  | lst ds => obtain ⟨xs, e1, r⟩ := h; exact ⟨xs, e _ e1, RepL.fe g r⟩
  | dct ks ds => obtain ⟨o, xs, e1, k, r⟩ := h; exact ⟨o, xs, e _ e1, k, RepL.fe g r⟩
  | dcu ks ds => obtain ⟨o, xs, e1, y, t, k, r⟩ := h; exact ⟨o, xs, e _ e1, y, fun p hp => SqT.fe g (t p hp), k, RepL.fe g r⟩
  | _ => exact h.elim
theorem Obw.tracked (h : Obw K G H a d) : ∃ o, H a = some o := by
  cases d with
  | lst ds => obtain ⟨xs, e1, r⟩ := h; exact ⟨_, e1⟩
  | dct ks ds => obtain ⟨o, xs, e1, k, r⟩ := h; exact ⟨_, e1⟩
  | dcu ks ds => obtain ⟨o, xs, e1, y, t, k, r⟩ := h; exact ⟨_, e1⟩
  | _ => exact h.elim
theorem Obm.fe (g : FE G H G' H') (e : ∀ o, H a = some o → H' a = some o) (h : Obm K G H a d) : Obm K G' H' a d := by
  cases d with
  | lst ds => obtain ⟨xs, e1, r⟩ := h; exact ⟨xs, e _ e1, RepL.fe g r⟩
  | dct ks ds => obtain ⟨xs, e1, k, r⟩ := h; exact ⟨xs, e _ e1, k, RepL.fe g r⟩
  | dcu ks ds => obtain ⟨xs, e1, n, t, k, r⟩ := h; exact ⟨xs, e _ e1, n, fun p hp => SqT.fe g (t p hp), k, RepL.fe g r⟩
  | _ => exact h.elim
theorem Obm.tracked (h : Obm K G H a d) : ∃ o, H a = some o ∧ IsMu o := by
  cases d with
  | lst ds => obtain ⟨xs, e1, r⟩ := h; exact ⟨_, e1, rfl, fun _ _ z => nomatch z⟩
  | dct ks ds => obtain ⟨xs, e1, r⟩ := h; exact ⟨_, e1, rfl, fun _ _ z => nomatch z⟩
  | dcu ks ds => obtain ⟨xs, e1, n, r⟩ := h; exact ⟨_, e1, rfl, n⟩
  | _ => exact h.elim
theorem Sh.grow (w : Wd G H) (g : Grow G H G' H') (h : Sh K G H d v) : Sh K G' H' d v := by
  rcases h with h | ⟨a, e, hb, h⟩
  · exact .inl (h.fe (g.fe w))
  · refine .inr ⟨a, e, fun hb' => ?_, h.fe (g.fe w) fun o e => g.k a o e hb⟩
    obtain ⟨o, ho⟩ := h.tracked
    rcases g.nb a hb' with q | q
    · exact hb q
    · rw [q] at ho; cases ho
theorem Sh.growW (w : Wd G H) (g : GrW G H G' H') (h : Sh K G H d v) : Sh K G' H' d v := by
  rcases h with h | ⟨a, e, hb, h⟩
  · exact .inl (h.fe (g.fe w))
  · refine .inr ⟨a, e, fun hb' => ?_, h.fe (g.fe w) fun o e => g.k a o e hb⟩
    obtain ⟨o, ho⟩ := h.tracked
    rcases g.nb a hb' with q | q
    · exact hb q
    · rw [q] at ho; cases ho
/-- a list that is readable now -/
theorem Sh.list (h : Sh K G H (.lst ds) v) : ∃ a xs, v = .ref a ∧ SqL K H a xs ∧ RepL K G H ds xs := by
  rcases h with h | ⟨a, e, _, xs, h, r⟩
  · cases h with
    | lst h r => exact ⟨_, _, rfl, h.sq, r⟩
  · exact ⟨a, xs, e, SqL.of h, r⟩
theorem Sh.tuple (h : Sh K G H (.tup ds) v) : ∃ a xs, v = .ref a ∧ SqT K H a xs ∧ RepL K G H ds xs := by
  rcases h with h | ⟨a, e, _, h⟩
  · cases h with
    | tup h r => exact ⟨_, _, rfl, h, r⟩
  · exact h.elim
theorem Sh.tupleN (h : Sh K G H (.tup ds) v) : ∃ a xs, v = .ref a ∧ SqT K H a xs ∧ RepL K G H ds xs ∧ (needD ds = true → NdT K H a) := by
  rcases h with h | ⟨a, e, _, h⟩
  · cases h with
    | @tup _ _ _ h r n => exact ⟨_, _, rfl, h, r, n⟩
  · exact h.elim
theorem Sh.i {i : Int} (h : Sh K G H (.int i) v) : v = .int i := by
  rcases h with h | ⟨a, e, _, h⟩
  · cases h; rfl
  · exact h.elim
theorem Sh.b {i : Bool} (h : Sh K G H (.bl i) v) : v = .bl i := by
  rcases h with h | ⟨a, e, _, h⟩
  · cases h; rfl
  · exact h.elim
theorem Sh.s {i : Str} (h : Sh K G H (.str i) v) : v = .str i := by
  rcases h with h | ⟨a, e, _, h⟩
  · cases h; rfl
  · exact h.elim
theorem Sh.n (h : Sh K G H .non v) : v = .non := by
  rcases h with h | ⟨a, e, _, h⟩
  · cases h; rfl
  · exact h.elim
theorem RepL.length : ∀ {ds : List D} {vs : List V}, RepL K G H ds vs → ds.length = vs.length
  | _, _, .nil => rfl
  | _, _, .cons _ t => by simp [RepL.length t]
theorem RepL.get : ∀ {ds : List D} {vs : List V} {i : Nat} {d : D}, RepL K G H ds vs → ds[i]? = some d → ∃ v, vs[i]? = some v ∧ Rep K G H d v
  | _, _, _, _, .nil, e => by simp at e
  | _, _, 0, _, .cons r _, e => by simp at e; subst e; exact ⟨_, rfl, r⟩
  | _, _, i + 1, _, .cons _ t, e => by
    obtain ⟨v, h1, h2⟩ := RepL.get t (by simpa using e)
    exact ⟨v, by simpa using h1, h2⟩
theorem RepL.append : ∀ {ds es : List D} {vs us : List V}, RepL K G H ds vs → RepL K G H es us → RepL K G H (ds ++ es) (vs ++ us)
  | _, _, _, _, .nil, s => s
  | _, _, _, _, .cons r t, s => .cons r (RepL.append t s)
theorem RepL.take : ∀ {ds : List D} {vs : List V} (n : Nat), RepL K G H ds vs → RepL K G H (ds.take n) (vs.take n)
  | _, _, 0, _ => .nil
  | _, _, _ + 1, .nil => .nil
  | _, _, n + 1, .cons r t => .cons r (RepL.take n t)
theorem RepL.drop : ∀ {ds : List D} {vs : List V} (n : Nat), RepL K G H ds vs → RepL K G H (ds.drop n) (vs.drop n)
  | _, _, 0, r => r
  | _, _, _ + 1, .nil => .nil
  | _, _, n + 1, .cons _ t => RepL.drop n t
theorem RepL.set {d : D} {v : V} (r : Rep K G H d v) : ∀ {ds : List D} {vs : List V} (n : Nat), RepL K G H ds vs → RepL K G H (ds.set n d) (vs.set n v)
  | _, _, _, .nil => .nil
  | _, _, 0, .cons _ t => .cons r t
  | _, _, n + 1, .cons q t => .cons q (RepL.set r n t)
theorem RepL.reverse : ∀ {ds : List D} {vs : List V}, RepL K G H ds vs → RepL K G H ds.reverse vs.reverse
  | _, _, .nil => .nil
  | _, _, .cons r t => by
    rw [List.reverse_cons, List.reverse_cons]
    exact (RepL.reverse t).append (.cons r .nil)
end
end Tv
/-! Tv2: environments of trees, expressions. -/
namespace Tv
open PySem PySem.Spec PyProof.Rows L2
variable [LamT]

/-- a variable: unknown, frozen, or the only holder of its object -/
inductive Cell where
  | no
  | fr (d : D)
  | ow (d : D)
  /-- a parameter that is looked at alone: its holder is the caller -/
  | bo (d : D)
  /-- no variable: a thing of the store, at a -/
  | st (a : Addr) (d : D)
abbrev En := List Cell
/-- a result: frozen, held by nobody else, or borrowed -/
inductive R where
  | fr (d : D)
  | ow (d : D)
  | bo (d : D)
@[reducible] def R.d : R → D
  | .fr d => d
  | .ow d => d
  | .bo d => d

def OwnA (ρ : En) (σ : L2.St) (a : Addr) : Prop := ∃ (i : Nat) (d : D), ρ[i]? = some (.ow d) ∧ σ[i]? = some (some (.ref a))
/-- as long as the variables; what lies behind them is the store -/
def LnE (ρ : En) (σ : L2.St) : Prop := σ.length ≤ ρ.length ∧ ∀ (i : Nat) (a : Addr) (d : D), ρ[i]? = some (.st a d) → σ.length ≤ i
/-- the store -/
structure StH (K : PySem.W.Frag) (G : Gh) (H : Hp) (ρ : En) : Prop where
  at_ : ∀ (i : Nat) (a : Addr) (d : D), ρ[i]? = some (.st a d) → G.M a ∧ Obm K G H a d
  ds : ∀ (i j : Nat) (a : Addr) (d e : D), ρ[i]? = some (.st a d) → ρ[j]? = some (.st a e) → i = j
structure Sta (K : PySem.W.Frag) (G0 : Gh) (H0 : Hp) (ρ : En) (G : Gh) (H : Hp) (σ : L2.St) : Prop where
  wd : Wd G H
  ex : GrW G0 H0 G H
  w0 : Wd G0 H0
  fr : ∀ (i : Nat) (d : D), ρ[i]? = some (.fr d) → ∃ v, σ[i]? = some (some v) ∧ Rep K G H d v
  ow : ∀ (i : Nat) (d : D), ρ[i]? = some (.ow d) → ∃ a, σ[i]? = some (some (.ref a)) ∧ Own K G H a d ∧ H0 a = none
  ds : ∀ (i j : Nat) (d e : D) (a : Addr), ρ[i]? = some (.ow d) → ρ[j]? = some (.ow e) → σ[i]? = some (some (.ref a)) → σ[j]? = some (some (.ref a)) → i = j
  ln : LnE ρ σ
  bo : ∀ (i : Nat) (d : D), ρ[i]? = some (.bo d) → ∃ v, σ[i]? = some (some v) ∧ Sh K G0 H0 d v ∧ G0.A i v
  st : StH K G H ρ
structure Stp (ρ : En) (σ : L2.St) (G : Gh) (H : Hp) (G' : Gh) (H' : Hp) : Prop where
  f : ∀ a, G.F a → G'.F a
  b : ∀ a, G.B a → G'.B a
  k : ∀ a o, H a = some o → ¬ G.B a → H' a = some o
  nf : ∀ a, G'.F a → G.F a ∨ H a = none ∨ OwnA ρ σ a
  nb : ∀ a, G'.B a → G.B a ∨ H a = none
  nm : ∀ a, G'.M a → G.M a ∨ H a = none
structure LeE (ρ' ρ : En) : Prop where
  ln : True
  le : ∀ (i : Nat) (c : Cell), ρ'[i]? = some c → c = .no ∨ ρ[i]? = some c ∨ (∃ d, ρ[i]? = some (.ow d) ∧ c = .fr d) ∨ ∃ a d, c = .st a d
def RepR (K : PySem.W.Frag) (G : Gh) (H Hs : Hp) : R → V → Prop
  | .fr d, v => Rep K G H d v
  | .ow d, v => ∃ a, v = .ref a ∧ Own K G H a d ∧ Hs a = none
  | .bo d, v => Sh K G H d v

section
variable {K : PySem.W.Frag} {G G0 G' G1 G2 : Gh} {H H0 H' H1 H2 Hs Ht : Hp} {ρ ρ' ρ1 ρ2 : En} {σ : L2.St} {a : Addr} {d : D} {v : V} {r : R}
theorem LnE.set {i : Nat} {c : Cell} (h : LnE ρ σ) (hc : ∀ a d, c ≠ .st a d := by nofun) : LnE (ρ.set i c) σ := by
  refine ⟨by rw [List.length_set]; exact h.1, fun j a d q => ?_⟩
  by_cases hj : i = j
  · subst hj
    by_cases hi : i < ρ.length
    · rw [List.getElem?_set_self hi] at q
      exact (hc a d (Option.some.inj q)).elim
    · rw [List.getElem?_eq_none (by rw [List.length_set]; omega)] at q; cases q
  · rw [List.getElem?_set_ne hj] at q
    exact h.2 j a d q
theorem LnE.setS {i : Nat} {v : Option V} (h : LnE ρ σ) : LnE ρ (σ.set i v) := by
  unfold LnE
  rw [List.length_set]; exact h
theorem StH.sub (h : StH K G H ρ) (e : ∀ (i : Nat) a d, ρ'[i]? = some (.st a d) → ρ[i]? = some (.st a d)) : StH K G H ρ' :=
  ⟨fun i a d q => h.at_ i a d (e i a d q), fun i j a d d' q1 q2 => h.ds i j a d d' (e i a d q1) (e j a d' q2)⟩
theorem StH.set {i : Nat} {c : Cell} (h : StH K G H ρ) (hc : ∀ a d, c ≠ .st a d := by nofun) : StH K G H (ρ.set i c) := h.sub fun j a d q => by
  by_cases hj : i = j
  · subst hj
    by_cases hi : i < ρ.length
    · rw [List.getElem?_set_self hi] at q
      exact (hc a d (Option.some.inj q)).elim
    · rw [List.getElem?_eq_none (by rw [List.length_set]; omega)] at q; cases q
  · rwa [List.getElem?_set_ne hj] at q
theorem StH.fe (h : StH K G H ρ) (f : FE G H G' H') (k : ∀ a, G.M a → G'.M a ∧ ∀ o, H a = some o → H' a = some o) : StH K G' H' ρ :=
  ⟨fun i a d q => ⟨(k a (h.at_ i a d q).1).1, (h.at_ i a d q).2.fe f (k a (h.at_ i a d q).1).2⟩, h.ds⟩
theorem LeE.refl (ρ : En) : LeE ρ ρ := ⟨trivial, fun _ _ e => .inr (.inl e)⟩
theorem LeE.trans (x : LeE ρ2 ρ1) (y : LeE ρ1 ρ) : LeE ρ2 ρ := by
  refine ⟨trivial, fun i c e => ?_⟩
  rcases x.le i c e with e1 | e1 | ⟨d, e1, rfl⟩ | e1
  · exact .inl e1
  · exact y.le i c e1
  · rcases y.le i _ e1 with e2 | e2 | ⟨d', e2, e3⟩ | ⟨_, _, e2⟩
    · cases e2
    · exact .inr (.inr (.inl ⟨d, e2, rfl⟩))
    · cases e3
    · cases e2
  · exact .inr (.inr (.inr e1))
theorem LeE.own (x : LeE ρ' ρ) (h : OwnA ρ' σ a) : OwnA ρ σ a := by
  obtain ⟨i, d, e1, e2⟩ := h
  rcases x.le i _ e1 with e | e | ⟨d', _, e⟩ | ⟨_, _, e⟩
  · cases e
  · exact ⟨i, d, e, e2⟩
  · cases e
  · cases e
theorem LeE.fz {i : Nat} (h : ρ[i]? = some (.ow d)) : LeE (ρ.set i (.fr d)) ρ := by
  have hi : i < ρ.length := (List.getElem?_eq_some_iff.mp h).1
  refine ⟨trivial, fun j c e => ?_⟩
  by_cases hj : i = j
  · subst hj
    rw [List.getElem?_set_self hi] at e
    cases e
    exact .inr (.inr (.inl ⟨d, h, rfl⟩))
  · rw [List.getElem?_set_ne hj] at e
    exact .inr (.inl e)
theorem Stp.refl : Stp ρ σ G H G H := ⟨fun _ h => h, fun _ h => h, fun _ _ e _ => e, fun _ h => .inl h, fun _ h => .inl h, fun _ h => .inl h⟩
theorem Grow.stp (g : Grow G H G' H') : Stp ρ σ G H G' H' := ⟨g.f, g.b, g.k, fun a h => (g.nf a h).elim .inl fun z => .inr (.inl z), g.nb, g.nm⟩
theorem GrW.stp (g : GrW G H G' H') : Stp ρ σ G H G' H' := ⟨g.f, g.b, g.k, fun a h => (g.nf a h).elim .inl fun z => .inr (.inl z), g.nb, g.nm⟩
theorem Stp.fe (w : Wd G H) (g : Stp ρ σ G H G' H') : FE G H G' H' := by
  exact ⟨g.f, fun a h n => ⟨g.b a h, fun z => (g.nm a z).elim n fun y => by obtain ⟨o, e⟩ := w.btr h; rw [y] at e; cases e⟩, fun a o h e => g.k a o e fun hb => (w.b a hb).2 h, fun a xs e => g.k a _ e (w.nB e rfl nofun), fun a o u e _ => g.k a _ e (w.nB e rfl nofun)⟩
theorem Stp.nn (g : Stp ρ σ G H G1 H1) (w1 : Wd G1 H1) (h : H1 a = none) : H a = none := by
  cases e : H a with
  | none => rfl
  | some o =>
    by_cases hb : G.B a
    · obtain ⟨xs, e'⟩ := w1.btr (g.b a hb)
      rw [h] at e'; cases e'
    · rw [g.k a o e hb] at h; cases h
theorem Stp.trans (x : Stp ρ σ G H G1 H1) (w1 : Wd G1 H1) (y : Stp ρ1 σ G1 H1 G2 H2) (l : LeE ρ1 ρ) : Stp ρ σ G H G2 H2 := by
  refine ⟨fun a h => y.f a (x.f a h), fun a h => y.b a (x.b a h), fun a o e hb => y.k a o (x.k a o e hb) fun h1 => ?_, fun a h => ?_, fun a h => ?_, fun a h => ?_⟩
  · rcases x.nb a h1 with h1 | h1
    · exact hb h1
    · rw [h1] at e; cases e
  · rcases y.nf a h with h | h | h
    · exact x.nf a h
    · exact .inr (.inl (x.nn w1 h))
    · exact .inr (.inr (l.own h))
  · rcases y.nb a h with h | h
    · exact x.nb a h
    · exact .inr (x.nn w1 h)
  · rcases y.nm a h with h | h
    · exact x.nm a h
    · exact .inr (x.nn w1 h)
theorem Sta.tracked (S : Sta K G0 H0 ρ G H σ) (h : OwnA ρ σ a) : ∃ o, H a = some o := by
  obtain ⟨i, d, e1, e2⟩ := h
  obtain ⟨b, e3, o, _⟩ := S.ow i d e1
  rw [e2] at e3; cases e3
  exact o.2.2.tracked
theorem Sta.none0 (S : Sta K G0 H0 ρ G H σ) (h : H a = none) : H0 a = none := S.ex.nn S.wd h
theorem Own.grow (w : Wd G H) (g : Grow G H G' H') (h : Own K G H a d) : Own K G' H' a d := by
  obtain ⟨h1, h2, h3⟩ := h
  obtain ⟨o, ho⟩ := h3.tracked
  refine ⟨fun q => ?_, fun q => ?_, h3.fe (g.fe w) fun o e => g.k a o e h2⟩
  · rcases g.nf a q with q | q
    · exact h1 q
    · rw [q] at ho; cases ho
  · rcases g.nb a q with q | q
    · exact h2 q
    · rw [q] at ho; cases ho
/-- new things alone: the environment stays -/
theorem Sta.grow (S : Sta K G0 H0 ρ G H σ) (w : Wd G' H') (g : Grow G H G' H') : Sta K G0 H0 ρ G' H' σ :=
  ⟨w, S.ex.trans S.wd g.w, S.w0, fun i d e => let ⟨v, e1, r⟩ := S.fr i d e; ⟨v, e1, r.fe (g.fe S.wd)⟩, fun i d e => let ⟨a, e1, o, z⟩ := S.ow i d e; ⟨a, e1, o.grow S.wd g, z⟩, S.ds, S.ln, S.bo, S.st.fe (g.fe S.wd) g.m⟩
theorem RepR.sh (h : RepR K G H Hs r v) : Sh K G H r.d v := by
  cases r with
  | fr d => exact .inl h
  | ow d => obtain ⟨a, e, o, _⟩ := h; exact .inr ⟨a, e, o.2.1, o.2.2⟩
  | bo d => exact h
theorem RepR.back (h : RepR K G H Hs r v) (z : ∀ a, Hs a = none → Ht a = none) : RepR K G H Ht r v := by
  cases r with
  | fr d => exact h
  | ow d => obtain ⟨a, e, o, q⟩ := h; exact ⟨a, e, o, z a q⟩
  | bo d => exact h
theorem Sh.stp (w : Wd G H) (g : Stp ρ σ G H G' H') (h : Sh K G H d v) : Sh K G' H' d v := by
  rcases h with h | ⟨a, e, hb, h⟩
  · exact .inl (h.fe (g.fe w))
  · refine .inr ⟨a, e, fun hb' => ?_, h.fe (g.fe w) fun o e => g.k a o e hb⟩
    obtain ⟨o, ho⟩ := h.tracked
    rcases g.nb a hb' with q | q
    · exact hb q
    · rw [q] at ho; cases ho
theorem RepR.stp (w : Wd G H) (g : Stp ρ σ G H G' H') (hO : ∀ a, OwnA ρ σ a → Hs a ≠ none) (h : RepR K G H Hs r v) : RepR K G' H' Hs r v := by
  cases r with
  | fr d => exact Rep.fe (g.fe w) h
  | bo d => exact Sh.stp w g h
  | ow d =>
    obtain ⟨a, e, ⟨h1, h2, h3⟩, q⟩ := h
    obtain ⟨o, ho⟩ := h3.tracked
    refine ⟨a, e, ⟨fun z => ?_, fun z => ?_, h3.fe (g.fe w) fun o e => g.k a o e h2⟩, q⟩
    · rcases g.nf a z with z | z | z
      · exact h1 z
      · rw [z] at ho; cases ho
      · exact hO a z q
    · rcases g.nb a z with z | z
      · exact h2 z
      · rw [z] at ho; cases ho
theorem Sta.hO (S : Sta K G0 H0 ρ G H σ) (l : LeE ρ' ρ) : ∀ a, OwnA ρ' σ a → H a ≠ none := fun a h q => by
  obtain ⟨o, ho⟩ := S.tracked (l.own h)
  rw [q] at ho; cases ho
end

/-! ### freezing -/
def Gh.add (G : Gh) (a : Addr) : Gh := ⟨fun b => G.F b ∨ b = a, G.B, G.A, G.M⟩
section
variable {K : PySem.W.Frag} {G G0 G' : Gh} {H H0 Hs : Hp} {ρ : En} {σ : L2.St} {a : Addr} {d : D} {v : V}
theorem FE.add : FE G H (G.add a) H := ⟨fun _ h => .inl h, fun _ h n => ⟨h, n⟩, fun _ _ _ e => e, fun _ _ e => e, fun _ _ _ e _ => e⟩
theorem Obw.rep (h : Obw K G H a d) : Rep K (G.add a) H d (.ref a) := by
  cases d with
  | lst ds => obtain ⟨xs, e, r⟩ := h; exact .lst ⟨.inr rfl, e⟩ (r.fe FE.add)
  | dct ks ds => obtain ⟨o, xs, e, k, r⟩ := h; exact .dct (.inr rfl) e k (r.fe FE.add)
  | dcu ks ds => obtain ⟨o, xs, e, y, t, k, r⟩ := h; exact .dcu (.inr rfl) e y t k (r.fe FE.add)
  | _ => exact h.elim
theorem Wd.add (w : Wd G H) (h : ¬ G.B a) (ht : ∃ o, H a = some o) : Wd (G.add a) H := by
  refine ⟨fun b hb => ?_, fun b hb => ?_, w.t, w.m⟩
  · have hb' : G.B b := hb
    obtain ⟨u, n⟩ := w.b b hb'
    refine ⟨u.imp id fun ⟨i, j, k, r, ns, e, l, q⟩ => ⟨i, j, k, r, ns, e, l.fe FE.add, q⟩, fun z => ?_⟩
    rcases z with z | z
    · exact n z
    · subst z; exact h hb'
  · rcases hb with z | z
    · exact w.f b z
    · subst z; exact ht
/-- one's own variable is frozen -/
theorem Sta.freeze {i : Nat} (S : Sta K G0 H0 ρ G H σ) (h : ρ[i]? = some (.ow d)) (e : σ[i]? = some (some (.ref a))) :
    Sta K G0 H0 (ρ.set i (.fr d)) (G.add a) H σ ∧ Stp ρ σ G H (G.add a) H ∧ Rep K (G.add a) H d (.ref a) := by
  obtain ⟨a', e', o, h0⟩ := S.ow i d h
  rw [e] at e'; cases e'
  have hi : i < ρ.length := (List.getElem?_eq_some_iff.mp h).1
  refine ⟨⟨S.wd.add o.2.1 o.2.2.tracked, ⟨fun b z => .inl (S.ex.f b z), S.ex.b, S.ex.k, fun b z => ?_, S.ex.nb, S.ex.nm⟩, S.w0, fun j c q => ?_, fun j c q => ?_, fun j k c c' b q1 q2 => ?_, S.ln.set, fun j c q => by
      by_cases hj : i = j
      · subst hj; rw [List.getElem?_set_self hi] at q; cases q
      · rw [List.getElem?_set_ne hj] at q; exact S.bo j c q, (S.st.fe FE.add fun _ z => ⟨z, fun _ e => e⟩).set⟩,
    ⟨fun b z => .inl z, fun _ z => z, fun _ _ z _ => z, fun b z => ?_, fun _ z => .inl z, fun _ z => .inl z⟩, o.2.2.rep⟩
  · rcases z with z | z
    · exact S.ex.nf b z
    · subst z; exact .inr h0
  · by_cases hj : i = j
    · subst hj
      rw [List.getElem?_set_self hi] at q
      cases q
      exact ⟨_, e, o.2.2.rep⟩
    · rw [List.getElem?_set_ne hj] at q
      obtain ⟨v, e1, r⟩ := S.fr j c q
      exact ⟨v, e1, r.fe FE.add⟩
  · by_cases hj : i = j
    · subst hj
      rw [List.getElem?_set_self hi] at q
      cases q
    · rw [List.getElem?_set_ne hj] at q
      obtain ⟨b, e1, o1, z1⟩ := S.ow j c q
      refine ⟨b, e1, ⟨fun z => ?_, o1.2.1, o1.2.2.fe FE.add fun _ z => z⟩, z1⟩
      rcases z with z | z
      · exact o1.1 z
      · subst z
        exact hj (S.ds i j d c b h q e e1)
  · have f1 : ∀ {j : Nat} {c : D}, (ρ.set i (.fr d))[j]? = some (.ow c) → ρ[j]? = some (.ow c) := fun {j c} q => by
      by_cases hj : i = j
      · subst hj
        rw [List.getElem?_set_self hi] at q
        cases q
      · rwa [List.getElem?_set_ne hj] at q
    exact S.ds j k c c' b (f1 q1) (f1 q2)
  · rcases z with z | z
    · exact .inl z
    · subst z; exact .inr (.inr ⟨i, d, h, e⟩)
/-- a new thing is frozen -/
theorem Sta.freezeR (S : Sta K G0 H0 ρ G H σ) (o : Own K G H a d) (h0 : H0 a = none) (hn : ¬ OwnA ρ σ a) :
    Sta K G0 H0 ρ (G.add a) H σ ∧ Rep K (G.add a) H d (.ref a) := by
  refine ⟨⟨S.wd.add o.2.1 o.2.2.tracked, ⟨fun b z => .inl (S.ex.f b z), S.ex.b, S.ex.k, fun b z => ?_, S.ex.nb, S.ex.nm⟩, S.w0, fun j c q => ?_, fun j c q => ?_, S.ds, S.ln, S.bo, S.st.fe FE.add fun _ z => ⟨z, fun _ e => e⟩⟩, o.2.2.rep⟩
  · rcases z with z | z
    · exact S.ex.nf b z
    · subst z; exact .inr h0
  · obtain ⟨v, e1, r⟩ := S.fr j c q
    exact ⟨v, e1, r.fe FE.add⟩
  · obtain ⟨b, e1, o1, z1⟩ := S.ow j c q
    refine ⟨b, e1, ⟨fun z => ?_, o1.2.1, o1.2.2.fe FE.add fun _ z => z⟩, z1⟩
    rcases z with z | z
    · exact o1.1 z
    · subst z
      exact hn ⟨j, c, q, e1⟩
end

/-! ### readings of expressions -/
abbrev WE := En → (R → En → Prop) → Prop
abbrev WT := En → (Bool → En → Prop) → Prop
abbrev WA := En → (List R → En → Prop) → Prop
section
variable (K : PySem.W.Frag) (G0 : Gh) (H0 : Hp)
inductive RepRs (K : PySem.W.Frag) (G : Gh) (H Hs : Hp) : List R → List V → Prop
  | nil : RepRs K G H Hs [] []
  | cons {r : R} {v : V} {rs : List R} {vs : List V} : RepR K G H Hs r v → RepRs K G H Hs rs vs → (∀ d, r = .ow d → ∀ p ∈ rs.zip vs, (∃ d', p.1 = .ow d') → p.2 ≠ v) → RepRs K G H Hs (r :: rs) (v :: vs)
def TX (W : WE) : TE := fun σ H Q => ∃ ρ G Φ, Sta K G0 H0 ρ G H σ ∧ W ρ Φ ∧ ∀ r ρ' v G' H', Φ r ρ' → Sta K G0 H0 ρ' G' H' σ → Stp ρ σ G H G' H' → LeE ρ' ρ → RepR K G' H' H r v → Q v H'
def TTX (W : WT) : TT := fun σ H Q => ∃ ρ G Φ, Sta K G0 H0 ρ G H σ ∧ W ρ Φ ∧ ∀ b ρ' G' H', Φ b ρ' → Sta K G0 H0 ρ' G' H' σ → Stp ρ σ G H G' H' → LeE ρ' ρ → Q b H'
def TAX (W : WA) : TA := fun σ H Q => ∃ ρ G Φ, Sta K G0 H0 ρ G H σ ∧ W ρ Φ ∧ ∀ rs ρ' vs G' H', Φ rs ρ' → Sta K G0 H0 ρ' G' H' σ → Stp ρ σ G H G' H' → LeE ρ' ρ → RepRs K G' H' H rs vs → Q vs H'
end
def PEI (X : Cx) (G0 : Gh) (H0 : Hp) (e : Expr) (W : WE) : Prop := PE X e (TX X.K G0 H0 W)
def PTI (X : Cx) (G0 : Gh) (H0 : Hp) (e : Expr) (W : WT) : Prop := PT X e (TTX X.K G0 H0 W)
def PAI (X : Cx) (G0 : Gh) (H0 : Hp) (es : List Expr) (W : WA) : Prop := PA X es (TAX X.K G0 H0 W)
section
variable {X : Cx} {G0 : Gh} {H0 : Hp} {e a b : Expr} {wa wb : WE} {pos : Pos}
theorem pe_imp {t t' : TE} (h : PE X e t) (i : ∀ σ H Q, t' σ H Q → t σ H Q) : PE X e t' := ⟨fun pins s σ H Q I q => h.run pins s σ H Q I (i σ H Q q)⟩
theorem pt_imp {t t' : TT} (h : PT X e t) (i : ∀ σ H Q, t' σ H Q → t σ H Q) : PT X e t' := ⟨fun pins s σ H Q I q => h.run pins s σ H Q I (i σ H Q q)⟩
theorem pa_imp {es : List Expr} {t t' : TA} (h : PA X es t) (i : ∀ σ H Q, t' σ H Q → t σ H Q) : PA X es t' := ⟨fun pos pins s σ H Q I q => h.run pos pins s σ H Q I (i σ H Q q)⟩

/-! constants, names -/
def wC (d : D) : WE := fun ρ Φ => Φ (.fr d) ρ
theorem tx_c {K : PySem.W.Frag} {d : D} {v : V} (r : ∀ G H, Rep K G H d v) {σ H Q} (h : TX K G0 H0 (wC d) σ H Q) : Q v H := by
  obtain ⟨ρ, G, Φ, S, h, c⟩ := h
  exact c _ _ v G H h S Stp.refl (LeE.refl _) (r G H)
theorem i_int {i : Int} {j} : PEI X G0 H0 (.Constant (.int i) j pos) (wC (.int i)) := pe_imp pe_int fun _ _ _ h => tx_c (fun _ _ => .int i) h
theorem i_bl {i : Bool} {j} : PEI X G0 H0 (.Constant (.bool i) j pos) (wC (.bl i)) := pe_imp pe_bl fun _ _ _ h => tx_c (fun _ _ => .bl i) h
theorem i_str {i : Str} {j} : PEI X G0 H0 (.Constant (.str i) j pos) (wC (.str i)) := pe_imp pe_str fun _ _ _ h => tx_c (fun _ _ => .str i) h
/-- a name whose value is handed on -/
def wV (i : Nat) : WE := fun ρ Φ => match ρ[i]? with
  | some (.fr d) => Φ (.fr d) ρ
  | some (.ow d) => Φ (.fr d) (ρ.set i (.fr d))
  | _ => False
/-- a name whose value is looked at -/
def wP (i : Nat) : WE := fun ρ Φ => match ρ[i]? with
  | some (.fr d) => Φ (.fr d) ρ
  | some (.ow d) => Φ (.bo d) ρ
  | some (.bo d) => Φ (.bo d) ρ
  | _ => False
theorem i_var (i : Nat) {x : Str} (hN : X.N[i]? = some x := by rfl) (hv : Vis X.env.scope x := by first | exact Or.inl rfl | exact Or.inr (Or.inl rfl) | exact Or.inr (Or.inr rfl)) (hd : (x == ("__debug__" : Str)) = false := by decide)
    (hcd : (x == ("__classdict__" : Str)) = false := by decide) : PEI X G0 H0 (.Name x pos) (wV i) := by
  refine pe_imp (pe_var hN hv hd hcd) fun σ H Q h => ?_
  obtain ⟨ρ, G, Φ, S, h, c⟩ := h
  unfold wV at h
  split at h
  · rename_i d e
    obtain ⟨v, e1, r⟩ := S.fr i d e
    exact ⟨v, e1, c _ _ v G H h S Stp.refl (LeE.refl _) r⟩
  · rename_i d e
    obtain ⟨a, e1, _⟩ := S.ow i d e
    obtain ⟨S1, P1, r1⟩ := S.freeze e e1
    exact ⟨_, e1, c _ _ _ _ H h S1 P1 (LeE.fz e) r1⟩
  · exact h.elim
theorem i_peek (i : Nat) {x : Str} (hN : X.N[i]? = some x := by rfl) (hv : Vis X.env.scope x := by first | exact Or.inl rfl | exact Or.inr (Or.inl rfl) | exact Or.inr (Or.inr rfl)) (hd : (x == ("__debug__" : Str)) = false := by decide)
    (hcd : (x == ("__classdict__" : Str)) = false := by decide) : PEI X G0 H0 (.Name x pos) (wP i) := by
  refine pe_imp (pe_var hN hv hd hcd) fun σ H Q h => ?_
  obtain ⟨ρ, G, Φ, S, h, c⟩ := h
  unfold wP at h
  split at h
  · rename_i d e
    obtain ⟨v, e1, r⟩ := S.fr i d e
    exact ⟨v, e1, c _ _ v G H h S Stp.refl (LeE.refl _) r⟩
  · rename_i d e
    obtain ⟨a, e1, o, _⟩ := S.ow i d e
    exact ⟨_, e1, c _ _ _ G H h S Stp.refl (LeE.refl _) (.inr ⟨a, rfl, o.2.1, o.2.2⟩)⟩
  · rename_i d e
    obtain ⟨v, e1, r, _⟩ := S.bo i d e
    exact ⟨v, e1, c _ _ _ G H h S Stp.refl (LeE.refl _) (r.growW S.w0 S.ex)⟩
  · exact h.elim
/-- what is new is frozen at once -/
def wF (W : WE) : WE := fun ρ Φ => W ρ fun r ρ' => match r with
  | .fr d => Φ (.fr d) ρ'
  | .ow d => Φ (.fr d) ρ'
  | .bo _ => False
theorem i_fz (h : PEI X G0 H0 e wa) : PEI X G0 H0 e (wF wa) := by
  refine pe_imp h fun σ H Q h => ?_
  obtain ⟨ρ, G, Φ, S, h, c⟩ := h
  refine ⟨ρ, G, _, S, h, fun r ρ' v G' H' q S' P L rr => ?_⟩
  cases r with
  | fr d => exact c _ _ v G' H' q S' P L rr
  | ow d =>
    obtain ⟨a, ea, o, hn⟩ := rr
    subst ea
    obtain ⟨S1, r1⟩ := S'.freezeR o (S.none0 hn) fun z => S.hO L a z hn
    refine c _ _ _ _ H' q S1 ⟨fun b z => .inl (P.f b z), P.b, P.k, fun b z => ?_, P.nb, P.nm⟩ L r1
    rcases z with z | z
    · exact P.nf b z
    · subst z; exact .inr (.inl hn)
  | bo d => exact q.elim

/-! operations by values -/
def Op1 (K : PySem.W.Frag) (o : D → (R → Prop) → Prop) (rr : V → Hp → VK → Prop) : Prop :=
  ∀ G H d v Φ Q, Wd G H → Sh K G H d v → o d Φ → (∀ r' v' G' H', Φ r' → Wd G' H' → Grow G H G' H' → RepR K G' H' H r' v' → Q v' H') → rr v H Q
def Op2 (K : PySem.W.Frag) (o : D → D → (R → Prop) → Prop) (rr : R2) : Prop :=
  ∀ G H d e v u Φ Q, Wd G H → Sh K G H d v → Sh K G H e u → o d e Φ → (∀ r' v' G' H', Φ r' → Wd G' H' → Grow G H G' H' → RepR K G' H' H r' v' → Q v' H') → rr v u H Q
def w1 (o : D → (R → Prop) → Prop) (wa : WE) : WE := fun ρ Φ => wa ρ fun r ρ' => o r.d fun r' => Φ r' ρ'
def w2 (o : D → D → (R → Prop) → Prop) (wa wb : WE) : WE := fun ρ Φ => wa ρ fun r ρ' => wb ρ' fun r2 ρ2 => o r.d r2.d fun r' => Φ r' ρ2
theorem tx1 {K : PySem.W.Frag} {o : D → (R → Prop) → Prop} {rr : V → Hp → VK → Prop} (h1 : Op1 K o rr) {σ H Q} (h : TX K G0 H0 (w1 o wa) σ H Q) : tUn rr (TX K G0 H0 wa) σ H Q := by
  obtain ⟨ρ, G, Φ, S, h, c⟩ := h
  refine ⟨ρ, G, _, S, h, fun r ρ' v G' H' q S' P L x => ?_⟩
  exact h1 G' H' r.d v _ Q S'.wd x.sh q fun r' v' G2 H2 φ w g x' => c r' ρ' v' G2 H2 φ (S'.grow w g) (P.trans S'.wd g.stp L) L (x'.back fun a z => P.nn S'.wd z)
theorem tx2 {K : PySem.W.Frag} {o : D → D → (R → Prop) → Prop} {rr : R2} (h2 : Op2 K o rr) {σ H Q} (h : TX K G0 H0 (w2 o wa wb) σ H Q) : tOp rr (TX K G0 H0 wa) (TX K G0 H0 wb) σ H Q := by
  obtain ⟨ρ, G, Φ, S, h, c⟩ := h
  refine ⟨ρ, G, _, S, h, fun r ρ' v G' H' q S' P L x => ⟨ρ', G', _, S', q, fun r2 ρ2 v2 G2 H2 q2 S2 P2 L2 x2 => ?_⟩⟩
  have PP := P.trans S'.wd P2 L
  exact h2 G2 H2 r.d r2.d v v2 _ Q S2.wd (x.sh.stp S'.wd P2) x2.sh q2 fun r' v' G3 H3 φ w g x' => c r' ρ2 v' G3 H3 φ (S2.grow w g) (PP.trans S2.wd g.stp (L2.trans L)) (L2.trans L) (x'.back fun a z => PP.nn S2.wd z)
theorem i_op {op : Operator} {rr : R2} {o : D → D → (R → Prop) → Prop} (ho : OpR X (binaryOp op) rr) (h2 : Op2 X.K o rr) (ha : PEI X G0 H0 a wa) (hb : PEI X G0 H0 b wb) : PEI X G0 H0 (.BinOp a op b pos) (w2 o wa wb) :=
  pe_imp (pe_op ho ha hb) fun _ _ _ h => tx2 h2 h
theorem i_un {op : UnaryOp} {rr : V → Hp → VK → Prop} {o : D → (R → Prop) → Prop} (ho : UnR X (unaryOp op) rr) (h1 : Op1 X.K o rr) (ha : PEI X G0 H0 a wa) : PEI X G0 H0 (.UnaryOp op a pos) (w1 o wa) :=
  pe_imp (pe_un ho ha) fun _ _ _ h => tx1 h1 h
theorem i_cmp {op : CmpOp} {rr : R2} {o : D → D → (R → Prop) → Prop} (ho : OpR X (compareOp op) rr) (h2 : Op2 X.K o rr) (ha : PEI X G0 H0 a wa) (hb : PEI X G0 H0 b wb) (hm : behindInMarks op b = false) : PEI X G0 H0 (.Compare a [op] [b] pos) (w2 o wa wb) :=
  pe_imp (pe_cmpR ho ha hb hm) fun _ _ _ h => tx2 h2 h
/-- a[b] -/
theorem i_ix {rr : R2} {o : D → D → (R → Prop) → Prop} (ho : IxR X rr) (h2 : Op2 X.K o rr) (ha : PEI X G0 H0 a wa) (hb : PEI X G0 H0 b wb) (hs : PlainIx b) : PEI X G0 H0 (.Subscript a b pos) (w2 o wa wb) :=
  pe_imp (pe_ix ho ha hb hs) fun _ _ _ h => tx2 h2 h

/-! tests -/
/-- a value that is a bool, as a test -/
def wB (W : WE) : WT := fun ρ Φ => W ρ fun r ρ' => match r.d with
  | .bl b => Φ b ρ'
  | _ => False
theorem t_cmp {op : CmpOp} {rr : R2} {o : D → D → (R → Prop) → Prop} (ho : OpR X (compareOp op) rr) (h2 : Op2 X.K o rr) (ha : PEI X G0 H0 a wa) (hb : PEI X G0 H0 b wb) (hm : behindInMarks op b = false) : PTI X G0 H0 (.Compare a [op] [b] pos) (wB (w2 o wa wb)) := by
  refine pt_imp (pt_cmpR ho ha hb hm) fun σ H Q h => ?_
  exact tx2 (Q := fun x H' => ∃ k, x = .bl k ∧ Q k H') h2 (by
    obtain ⟨ρ, G, Φ, S, h, c⟩ := h
    refine ⟨ρ, G, _, S, h, fun r ρ' v G' H' q S' P L x => ?_⟩
    have x' := x.sh
    split at q
    · rename_i bb e
      rw [e] at x'
      exact ⟨bb, x'.b, c bb ρ' G' H' q S' P L⟩
    · exact q.elim)
end
end Tv
/-! Tv3: tests, arguments, displays, statements, defs. -/
namespace Tv
open PySem PySem.Spec PyProof.Rows L2
variable [LamT]

section
variable {X : Cx} {G0 : Gh} {H0 : Hp} {e a b c : Expr} {es rest : List Expr} {wa wb : WE} {ta tb tc : WT} {ws : WA} {pos : Pos} {K : PySem.W.Frag} {σ : L2.St} {H : Hp}

/-! ### and, or, not, if -/
def PWI (X : Cx) (G0 : Gh) (H0 : Hp) (e : Expr) (W : WT) : Prop := PW X e (TTX X.K G0 H0 W)
theorem pw_imp {t t' : TT} (h : PW X e t) (i : ∀ σ H Q, t' σ H Q → t σ H Q) : PW X e t' := ⟨fun wh pins s σ H Q I q => h.run wh pins s σ H Q I (i σ H Q q)⟩
def tAnd' (ta tb : WT) : WT := fun ρ Φ => ta ρ fun k ρ' => if k = true then tb ρ' Φ else Φ false ρ'
def tOr' (ta tb : WT) : WT := fun ρ Φ => ta ρ fun k ρ' => if k = true then Φ true ρ' else tb ρ' Φ
def tNot' (ta : WT) : WT := fun ρ Φ => ta ρ fun k ρ' => Φ (!k) ρ'
theorem ttx_seq {Q : Bool → Hp → Prop} {W : WT} {f : Bool → WT} (h : TTX K G0 H0 (fun ρ Φ => W ρ fun k ρ' => f k ρ' Φ) σ H Q) : TTX K G0 H0 W σ H fun k H1 => TTX K G0 H0 (f k) σ H1 Q := by
  obtain ⟨ρ, G, Φ, S, h, c⟩ := h
  refine ⟨ρ, G, _, S, h, fun k ρ' G' H' q S' P L => ⟨ρ', G', Φ, S', q, fun k2 ρ2 G2 H2 q2 S2 P2 L2 => c k2 ρ2 G2 H2 q2 S2 (P.trans S'.wd P2 L) (L2.trans L)⟩⟩
theorem ttx_done {Q : Bool → Hp → Prop} {k : Bool} (h : TTX K G0 H0 (fun ρ Φ => Φ k ρ) σ H Q) : Q k H := by
  obtain ⟨ρ, G, Φ, S, h, c⟩ := h
  exact c k ρ G H h S Stp.refl (LeE.refl _)
theorem w_and1 (ha : PTI X G0 H0 a ta) : PWI X G0 H0 (.BoolOp .And [a] pos) ta := pw_and1 ha
theorem w_or1 (ha : PTI X G0 H0 a ta) : PWI X G0 H0 (.BoolOp .Or [a] pos) ta := pw_or1 ha
theorem w_and (ha : PTI X G0 H0 a ta) (hb : PWI X G0 H0 (.BoolOp .And (b :: rest) pos) tb) : PWI X G0 H0 (.BoolOp .And (a :: b :: rest) pos) (tAnd' ta tb) := by
  refine pw_imp (pw_and ha hb) fun σ H Q h => ?_
  have z := ttx_seq (f := fun k ρ' Φ => if k = true then tb ρ' Φ else Φ false ρ') h
  obtain ⟨ρ, G, Φ, S, h, c⟩ := z
  refine ⟨ρ, G, Φ, S, h, fun k ρ' G' H' q S' P L => ?_⟩
  have y := c k ρ' G' H' q S' P L
  cases k with
  | true => exact iteT (by simpa using y)
  | false => exact iteF (ttx_done (by simpa using y))
theorem w_or (ha : PTI X G0 H0 a ta) (hb : PWI X G0 H0 (.BoolOp .Or (b :: rest) pos) tb) : PWI X G0 H0 (.BoolOp .Or (a :: b :: rest) pos) (tOr' ta tb) := by
  refine pw_imp (pw_or ha hb) fun σ H Q h => ?_
  have z := ttx_seq (f := fun k ρ' Φ => if k = true then Φ true ρ' else tb ρ' Φ) h
  obtain ⟨ρ, G, Φ, S, h, c⟩ := z
  refine ⟨ρ, G, Φ, S, h, fun k ρ' G' H' q S' P L => ?_⟩
  have y := c k ρ' G' H' q S' P L
  cases k with
  | false => exact iteF (by simpa using y)
  | true => exact iteT (ttx_done (by simpa using y))
theorem t_bool {W : WT} (h : PWI X G0 H0 e W) : PTI X G0 H0 e W := h.pt
theorem t_not (ha : PTI X G0 H0 a ta) : PTI X G0 H0 (.UnaryOp .Not a pos) (tNot' ta) := by
  refine pt_imp (pt_not ha) fun σ H Q h => ?_
  obtain ⟨ρ, G, Φ, S, h, c⟩ := h
  exact ⟨ρ, G, _, S, h, fun k ρ' G' H' q S' P L => c (!k) ρ' G' H' q S' P L⟩
/-- .. as values -/
def wAnd (wa wb : WE) : WE := fun ρ Φ => wa ρ fun r ρ' => match r.d with
  | .bl true => wb ρ' Φ
  | .bl false => Φ (.fr (.bl false)) ρ'
  | _ => False
def wOr (wa wb : WE) : WE := fun ρ Φ => wa ρ fun r ρ' => match r.d with
  | .bl true => Φ (.fr (.bl true)) ρ'
  | .bl false => wb ρ' Φ
  | _ => False
def wNot (wa : WE) : WE := fun ρ Φ => wa ρ fun r ρ' => match r.d with
  | .bl k => Φ (.fr (.bl (!k))) ρ'
  | _ => False
theorem i_one {op} (h : PEI X G0 H0 a wa) : PEI X G0 H0 (.BoolOp op [a] pos) wa := pe_one h
def wIf (t : WT) (wa wb : WE) : WE := fun ρ Φ => t ρ fun k ρ' => if k = true then wa ρ' Φ else wb ρ' Φ
theorem i_if (hc : PTI X G0 H0 c tc) (ha : PEI X G0 H0 a wa) (hb : PEI X G0 H0 b wb) : PEI X G0 H0 (.IfExp c a b pos) (wIf tc wa wb) := by
  refine pe_imp (pe_ifExp hc ha hb) fun σ H Q h => ?_
  obtain ⟨ρ, G, Φ, S, h, k⟩ := h
  refine ⟨ρ, G, _, S, h, fun b ρ' G' H' q S' P L => ?_⟩
  cases b with
  | true => exact iteT ⟨ρ', G', Φ, S', by simpa using q, fun r2 ρ2 v2 G2 H2 q2 S2 P2 L2 x2 => k r2 ρ2 v2 G2 H2 q2 S2 (P.trans S'.wd P2 L) (L2.trans L) (x2.back fun a z => P.nn S'.wd z)⟩
  | false => exact iteF ⟨ρ', G', Φ, S', by simpa using q, fun r2 ρ2 v2 G2 H2 q2 S2 P2 L2 x2 => k r2 ρ2 v2 G2 H2 q2 S2 (P.trans S'.wd P2 L) (L2.trans L) (x2.back fun a z => P.nn S'.wd z)⟩
/-- a test by a value's truth -/
def truD : D → Option Bool
  | .non => some false
  | .bl b => some b
  | .int i => some (i != 0)
  | .str x => if x.length ≤ sizeLine then some ((x.length : Int) != 0) else none
  | .tup ds => some (!ds.isEmpty)
  | .lst ds => some (!ds.isEmpty)
  | _ => none
def wTr (W : WE) : WT := fun ρ Φ => W ρ fun r ρ' => match truD r.d with
  | some k => Φ k ρ'
  | none => False
theorem truD_ok {G : Gh} {d : D} {v : V} {k : Bool} (h : Sh K G H d v) (e : truD d = some k) : TruV K v H k := by
  cases d with
  | non => cases h.n; cases e; rfl
  | bl b => cases h.b; cases e; rfl
  | int i => cases h.i; cases e; rfl
  | str x =>
    cases h.s
    have e' : (if x.length ≤ sizeLine then some ((x.length : Int) != 0) else none) = some k := e
    by_cases hx : x.length ≤ sizeLine
    · rw [if_pos hx] at e'
      cases e'
      exact ⟨hx, rfl⟩
    · rw [if_neg hx] at e'
      cases e'
  | tup ds =>
    obtain ⟨a, xs, rfl, q, r⟩ := h.tuple
    cases e
    exact .inr (.inl ⟨xs, q, by cases r <;> rfl⟩)
  | lst ds =>
    obtain ⟨a, xs, rfl, q, r⟩ := h.list
    cases e
    exact .inl ⟨xs, q, by cases r <;> rfl⟩
  | _ => cases e
theorem t_tru (ha : PEI X G0 H0 e wa) (he : ∀ whole, isTrue e X.env whole = (do let v ← whole; standAt e.pos; holding [v] (truthy v)) := by intro _; rfl) : PTI X G0 H0 e (wTr wa) := by
  refine pt_imp (pt_truth ha he) fun σ H Q h => ?_
  obtain ⟨ρ, G, Φ, S, h, c⟩ := h
  refine ⟨ρ, G, _, S, h, fun r ρ' v G' H' q S' P L x => ?_⟩
  split at q
  · rename_i k e
    exact ⟨k, truD_ok x.sh e, c k ρ' G' H' q S' P L⟩
  · exact q.elim

/-! ### arguments -/
def wNil : WA := fun ρ Φ => Φ [] ρ
def wCons (wa : WE) (ws : WA) : WA := fun ρ Φ => wa ρ fun r ρ' => ws ρ' fun rs ρ2 => Φ (r :: rs) ρ2
/-- a star: the items of a list or a tuple -/
def itemsD : D → Option (List D)
  | .tup ds => some ds
  | .lst ds => some ds
  | _ => none
def wStar (wa : WE) (ws : WA) : WA := fun ρ Φ => wa ρ fun r ρ' => match itemsD r.d with
  | some ds => ws ρ' fun rs ρ2 => Φ (ds.map R.fr ++ rs) ρ2
  | none => False
theorem RepRs.stp {G G' : Gh} {H' Hs : Hp} {ρ : En} (w : Wd G H) (g : Stp ρ σ G H G' H') (hO : ∀ a, OwnA ρ σ a → Hs a ≠ none) : ∀ {rs : List R} {vs : List V}, RepRs K G H Hs rs vs → RepRs K G' H' Hs rs vs
  | _, _, .nil => .nil
  | _, _, .cons r t n => .cons (r.stp w g hO) (RepRs.stp w g hO t) n
theorem RepRs.back {G : Gh} {Hs Ht : Hp} (z : ∀ a, Hs a = none → Ht a = none) : ∀ {rs : List R} {vs : List V}, RepRs K G H Hs rs vs → RepRs K G H Ht rs vs
  | _, _, .nil => .nil
  | _, _, .cons r t n => .cons (r.back z) (RepRs.back z t) n
theorem RepL.appendF {G : Gh} {Hs : Hp} : ∀ {ds : List D} {ss : List R} {vs us : List V}, RepL K G H ds vs → RepRs K G H Hs ss us → RepRs K G H Hs (ds.map R.fr ++ ss) (vs ++ us)
  | _, _, _, _, .nil, s => s
  | _, _, _, _, .cons r t, s => .cons r (RepL.appendF t s) fun d e => nomatch e
theorem RepRs.fresh {G : Gh} {Hs : Hp} : ∀ {rs : List R} {vs : List V}, RepRs K G H Hs rs vs → ∀ p ∈ rs.zip vs, (∃ d', p.1 = .ow d') → ∃ a, p.2 = .ref a ∧ Hs a = none
  | _, _, .nil => fun p hp => by simp at hp
  | _, _, .cons (r := r) (v := v) (rs := rs) (vs := vs) x t n => fun p hp hd => by
    have hp' : p ∈ (r, v) :: rs.zip vs := hp
    rcases List.mem_cons.mp hp' with e | hp
    · subst e
      obtain ⟨d', e⟩ := hd
      have e' : r = .ow d' := e
      subst e'
      obtain ⟨a, ea, _, z⟩ := x
      exact ⟨a, ea, z⟩
    · exact RepRs.fresh t p hp hd
theorem RepL.rs {G : Gh} {Hs : Hp} {ds : List D} {vs : List V} (r : RepL K G H ds vs) : RepRs K G H Hs (ds.map R.fr) vs := by
  have z := r.appendF (Hs := Hs) .nil
  rw [List.append_nil, List.append_nil] at z
  exact z
theorem a_nil : PAI X G0 H0 [] wNil := pa_imp pa_nil fun σ H Q h => by
  obtain ⟨ρ, G, Φ, S, h, c⟩ := h
  exact c [] ρ [] G H h S Stp.refl (LeE.refl _) .nil
theorem a_cons (ha : PEI X G0 H0 e wa) (hr : PAI X G0 H0 es ws) (hs : starEach (e :: es) X.env = (false, eval e X.env) :: starEach es X.env := by rfl) : PAI X G0 H0 (e :: es) (wCons wa ws) := by
  refine pa_imp (pa_cons ha hr hs) fun σ H Q h => ?_
  obtain ⟨ρ, G, Φ, S, h, c⟩ := h
  refine ⟨ρ, G, _, S, h, fun r ρ' v G' H' q S' P L x => ⟨ρ', G', _, S', q, fun rs ρ2 vs G2 H2 q2 S2 P2 L2 x2 => ?_⟩⟩
  exact c (r :: rs) ρ2 (v :: vs) G2 H2 q2 S2 (P.trans S'.wd P2 L) (L2.trans L) (.cons (x.stp S'.wd P2 (S.hO L)) (x2.back fun a z => P.nn S'.wd z) fun d e p hp hd z => by
    subst e
    obtain ⟨a, ea, o, _⟩ := x
    obtain ⟨a', ea', hn⟩ := x2.fresh p hp hd
    rw [ea, ea'] at z
    cases z
    obtain ⟨ob, ho⟩ := o.2.2.tracked
    rw [hn] at ho; cases ho)
/-! ### displays -/
/-- all are frozen -/
def frs' : List R → Option (List D)
  | [] => some []
  | .fr d :: rs => match frs' rs with
    | some ds => some (d :: ds)
    | none => none
  | _ :: _ => none
theorem frs_rep {G : Gh} {Hs : Hp} : ∀ {rs : List R} {vs : List V} {ds : List D}, RepRs K G H Hs rs vs → frs' rs = some ds → RepL K G H ds vs
  | _, _, ds, .nil, e => by cases e; exact .nil
  | .fr d :: rs, _, ds, .cons r t _, e => by
    unfold frs' at e
    cases q : frs' rs with
    | none => rw [q] at e; cases e
    | some es => rw [q] at e; cases e; exact .cons r (frs_rep t q)
  | .ow d :: rs, _, ds, .cons r t _, e => by cases e
  | .bo d :: rs, _, ds, .cons r t _, e => by cases e
/-- what is laid is new -/
theorem Grow.laid {G : Gh} {p : Addr} {o : HO} (hp : H p = none) : Grow G H G (upd H p o) :=
  ⟨fun _ h => h, fun _ h => h, fun a o' e _ => by rw [upd_ne (fun z => by rw [z, hp] at e; cases e)]; exact e, fun _ h => .inl h, fun _ h => .inl h, fun a h => ⟨h, fun o' e => by rw [upd_ne (fun z => by rw [z, hp] at e; cases e)]; exact e⟩, fun _ h => .inl h⟩
theorem Wd.grow {G : Gh} {H' : Hp} (w : Wd G H) (g : ∀ a o, H a = some o → H' a = some o) : Wd G H' := by
  refine ⟨fun a h => ?_, fun a h => ?_, fun p hp => ⟨(w.t p hp).1, (w.t p hp).2.on (fun ps => g _ _) fun c o e _ n hco => ⟨g _ _ e, n⟩⟩, fun a h => ⟨(w.m a h).1, let ⟨o, e, y⟩ := (w.m a h).2; ⟨o, g _ _ e, y⟩⟩⟩
  · obtain ⟨u, n⟩ := w.b a h
    exact ⟨u.imp id fun ⟨i, j, k, r, ns, e, l, q⟩ => ⟨i, j, k, r, ns, g _ _ e, ⟨l.1, g _ _ l.2⟩, q⟩, n⟩
  · obtain ⟨o, e⟩ := w.f a h
    exact ⟨o, g _ _ e⟩
theorem Wd.laid {G : Gh} {p : Addr} {o : HO} (w : Wd G H) (hp : H p = none) : Wd G (upd H p o) :=
  w.grow fun a o' e => by rw [upd_ne (fun z => by rw [z, hp] at e; cases e)]; exact e
theorem Own.laid {G : Gh} {p : Addr} {xs : List V} {ds : List D} (w : Wd G H) (hp : H p = none) (r : RepL K G H ds xs) : Own K G (upd H p (.lst xs)) p (.lst ds) := by
  refine ⟨fun z => ?_, fun z => ?_, xs, upd_same, r.fe ((Grow.laid hp).fe w)⟩
  · obtain ⟨o, e⟩ := w.f p z
    rw [hp] at e; cases e
  obtain ⟨ys, e⟩ := w.btr z
  rw [hp] at e; cases e
end
end Tv
/-! Tv4: displays, statements, loops, defs and their calls. -/
namespace Tv
open PySem PySem.Spec PyProof.Rows L2
variable [LamT]

section
variable {X : Cx} {G0 : Gh} {H0 : Hp} {e a b c : Expr} {es rest : List Expr} {wa wb : WE} {ta tb tc : WT} {ws : WA} {pos : Pos} {K : PySem.W.Frag} {σ : L2.St} {H : Hp}
theorem RepRs.length {G : Gh} {Hs : Hp} : ∀ {rs : List R} {vs : List V}, RepRs K G H Hs rs vs → rs.length = vs.length
  | _, _, .nil => rfl
  | _, _, .cons _ t _ => by simp [RepRs.length t]
/-- (a, .., b): all parts frozen -/
def wTup (ws : WA) : WE := fun ρ Φ => ws ρ fun rs ρ' => match frs' rs with
  | some ds => rs.length ≤ sizeLine ∧ Φ (.fr (.tup ds)) ρ'
  | none => False
def wLst (ws : WA) : WE := fun ρ Φ => ws ρ fun rs ρ' => match frs' rs with
  | some ds => rs.length ≤ sizeLine ∧ Φ (.ow (.lst ds)) ρ'
  | none => False
/-- (a, .., b): a tuple that is known -/
def tTupN (t : TA) : TE := fun σ H Q => t σ H fun xs H1 => xs.length ≤ sizeLine ∧ NewT Q H1 xs
theorem laidT {pins : List (Addr × Obj)} {s s' : Shared} {Q : VK} {p : Addr} {xs : List V} {us : List Value} {k : Nat} (I : Inv X pins σ H s) (es : s' = { s with heap := s'.heap, toks := k }) (kp : ∀ b u, s.heap.get? b = some u → s'.heap.get? b = some u) (hp : s.heap.objs.size ≤ p) (z : xs.length ≤ sizeLine) (r : Vals xs us)
    (e : s'.heap.get? p = some { cls := .type "tuple", data := .seq us.toArray }) (q : NewT Q H xs) : EP X pins σ Q (.ref p) s' := by
  rw [es]
  exact ⟨.ref p, _, I.laid (t' := k) (o := .frz { cls := .type "tuple", data := .seq us.toArray } (.tup xs)) kp hp ⟨e, z, us, r, _, e, rfl, _, rfl⟩, rfl, q p _ rfl (I.hok.fresh hp)⟩
theorem pe_tupN {x1} {t : TA} (h : PA X es t) : PE X (.Tuple es x1 pos) (tTupN t) := by
  refine ⟨fun pins s σ H Q I w => ?_⟩
  refine wpAny_Tuple_spliced (thn (h.run pos pins s σ H _ I w) fun ws s1 ⟨ys, H1, I1, r, z, q⟩ => ?_)
  refine ⟨(r.length ▸ z : ws.length ≤ sizeLine), ?_⟩
  exact laidT (k := s1.toks) I1 rfl (fun b u e => Heap.get?_push_of_some _ e) (Nat.le_refl _) z r (Heap.get?_push_size _ rfl) q
theorem i_tup {k} (h : PAI X G0 H0 es ws) : PEI X G0 H0 (.Tuple es k pos) (wTup ws) := by
  refine pe_imp (pe_tupN h) fun σ H Q h => ?_
  obtain ⟨ρ, G, Φ, S, h, c⟩ := h
  refine ⟨ρ, G, _, S, h, fun rs ρ' vs G' H' q S' P L x => ?_⟩
  split at q
  · rename_i ds e
    refine ⟨by rw [← x.length]; exact q.1, fun p o od hp => ?_⟩
    have g : Grow G' H' G' (upd H' p (.frz o (.tup vs))) := Grow.laid hp
    exact c _ ρ' _ G' _ q.2 (S'.grow (S'.wd.laid hp) g) (P.trans S'.wd g.stp L) L (repT upd_same od ((frs_rep x e).fe (g.fe S'.wd)))
  · exact q.elim
theorem i_lst (h : PAI X G0 H0 es ws) : PEI X G0 H0 (.List es pos) (wLst ws) := by
  refine pe_imp (pe_lst h) fun σ H Q h => ?_
  obtain ⟨ρ, G, Φ, S, h, c⟩ := h
  refine ⟨ρ, G, _, S, h, fun rs ρ' vs G' H' q S' P L x => ?_⟩
  split at q
  · rename_i ds e
    refine ⟨by rw [← x.length]; exact q.1, fun p hp => ?_⟩
    have g : Grow G' H' G' (upd H' p (.lst vs)) := Grow.laid hp
    exact c _ ρ' _ G' _ q.2 (S'.grow (S'.wd.laid hp) g) (P.trans S'.wd g.stp L) L ⟨p, rfl, Own.laid S'.wd hp (frs_rep x e), P.nn S'.wd hp⟩
  · exact q.elim

/-! ### built-ins by values -/
def OpN (K : PySem.W.Frag) (o : List D → (R → Prop) → Prop) (rr : List V → Hp → VK → Prop) : Prop :=
  ∀ G H ds vs Φ Q, Wd G H → (ds.length = vs.length) → (∀ (i : Nat) d v, ds[i]? = some d → vs[i]? = some v → Sh K G H d v) → o ds Φ → (∀ r' v' G' H', Φ r' → Wd G' H' → Grow G H G' H' → RepR K G' H' H r' v' → Q v' H') → rr vs H Q
def wN (o : List D → (R → Prop) → Prop) (ws : WA) : WE := fun ρ Φ => ws ρ fun rs ρ' => o (rs.map R.d) fun r' => Φ r' ρ'
theorem RepRs.sh {G : Gh} {Hs : Hp} : ∀ {rs : List R} {vs : List V}, RepRs K G H Hs rs vs → ∀ (i : Nat) d v, (rs.map R.d)[i]? = some d → vs[i]? = some v → Sh K G H d v
  | _, _, .nil => fun i d v e _ => by simp at e
  | _, _, .cons r t _ => fun i d v e e' => by
    cases i with
    | zero => simp at e e'; subst e e'; exact r.sh
    | succ i => exact RepRs.sh t i d v (by simpa using e) (by simpa using e')
theorem tcb_n {o : List D → (R → Prop) → Prop} {rr : List V → Hp → VK → Prop} (hn : OpN K o rr) {Q} (h : TX K G0 H0 (wN o ws) σ H Q) : tCB rr (TAX K G0 H0 ws) σ H Q := by
  obtain ⟨ρ, G, Φ, S, h, c⟩ := h
  refine ⟨ρ, G, _, S, h, fun rs ρ' vs G' H' q S' P L x => ?_⟩
  exact hn G' H' _ vs _ Q S'.wd (by rw [List.length_map]; exact x.length) x.sh q fun r' v' G2 H2 φ w g x' => c r' ρ' v' G2 H2 φ (S'.grow w g) (P.trans S'.wd g.stp L) L (x'.back fun a z => P.nn S'.wd z)
theorem i_callB {id : String} {o : List D → (R → Prop) → Prop} {rr : List V → Hp → VK → Prop} {x : Str} {p : Pos} (hc : CallR X (.builtin id) rr) (hn : OpN X.K o rr) (hg : Gl X x) (hm : X.mg x = none) (hv : bootBuiltins x = some (.builtin id)) (ha : PAI X G0 H0 (e :: es) ws)
    (hnn : x ≠ "__name__" := by decide) (hdb : (x == ("__debug__" : Str)) = false := by decide) (he : starEach (e :: es) X.env = (false, eval e X.env) :: starEach es X.env := by rfl) (hpl : (backTo pos (starEach es X.env)).any (·.1) = false := by rfl) :
    PEI X G0 H0 (.Call (.Name x p) (e :: es) [] pos) (wN o ws) :=
  pe_imp (pe_callB hc hg hm hv ha hnn hdb he hpl) fun _ _ _ h => tcb_n hn h
theorem i_callT {T : String} {o : List D → (R → Prop) → Prop} {rr : List V → Hp → VK → Prop} {x : Str} {p : Pos} (hc : CallR X (.type T) rr) (hn : OpN X.K o rr) (hg : Gl X x) (hm : X.mg x = none) (hv : bootBuiltins x = some (.type T)) (ha : PAI X G0 H0 (e :: es) ws)
    (hnn : x ≠ "__name__" := by decide) (hdb : (x == ("__debug__" : Str)) = false := by decide) (he : starEach (e :: es) X.env = (false, eval e X.env) :: starEach es X.env := by rfl) (hpl : (backTo pos (starEach es X.env)).any (·.1) = false := by rfl) :
    PEI X G0 H0 (.Call (.Name x p) (e :: es) [] pos) (wN o ws) :=
  pe_imp (pe_callTy hc hg hm hv ha hnn hdb he hpl) fun _ _ _ h => tcb_n hn h
/-- a method of a built-in type, by values: the receiver first -/
def OpM (K : PySem.W.Frag) (T : String) (o : D → List D → (R → Prop) → Prop) (rr : V → List V → Hp → VK → Prop) : Prop :=
  ∀ G H d v ds vs Φ Q, Wd G H → Sh K G H d v → (ds.length = vs.length) → (∀ (i : Nat) d v, ds[i]? = some d → vs[i]? = some v → Sh K G H d v) → o d ds Φ → (∀ r' v' G' H', Φ r' → Wd G' H' → Grow G H G' H' → RepR K G' H' H r' v' → Q v' H') → rr v vs H Q
def wM (ty : D → Prop) (o : D → List D → (R → Prop) → Prop) (wa : WE) (ws : WA) : WE := fun ρ Φ => wa ρ fun r ρ' => ty r.d ∧ ws ρ' fun rs ρ2 => o r.d (rs.map R.d) fun r' => Φ r' ρ2
theorem i_meth {T name : Str} {id : String} {T' : String} {ty : D → Prop} {o : D → List D → (R → Prop) → Prop} {rr : V → List V → Hp → VK → Prop} {ob : Expr} {apos : Pos} (pe : ∀ {to : TE} {t : TA}, PE X ob to → PA X (e :: es) t → PE X (.Call (.Attribute ob name apos) (e :: es) [] pos) (tBM X.K T' rr to t))
    (hty : ∀ G H d v, ty d → Sh X.K G H d v → tyV X.K T' v H) (hm : OpM X.K T' o rr) (ho : PEI X G0 H0 ob wa) (ha : PAI X G0 H0 (e :: es) ws) : PEI X G0 H0 (.Call (.Attribute ob name apos) (e :: es) [] pos) (wM ty o wa ws) := by
  refine pe_imp (pe ho ha) fun σ H Q h => ?_
  obtain ⟨ρ, G, Φ, S, h, c⟩ := h
  refine ⟨ρ, G, _, S, h, fun r ρ' v G' H' q S' P L x => ⟨hty _ _ _ _ q.1 x.sh, ρ', G', _, S', q.2, fun rs ρ2 vs G2 H2 q2 S2 P2 L2 x2 => ?_⟩⟩
  have PP := P.trans S'.wd P2 L
  exact hm G2 H2 r.d v _ vs _ Q S2.wd (x.sh.stp S'.wd P2) (by rw [List.length_map]; exact x2.length) x2.sh q2 fun r' v' G3 H3 φ w g x' => c r' ρ2 v' G3 H3 φ (S2.grow w g) (PP.trans S2.wd g.stp (L2.trans L)) (L2.trans L) (x'.back fun a z => PP.nn S2.wd z)

/-! ### statements -/
def R.ok : R → Prop
  | .bo _ => False
  | _ => True
structure SK where
  nx : En → Prop
  rt : R → En → Prop
  bk : En → Prop
  ct : En → Prop
abbrev WS := En → SK → Prop
structure KS (K : PySem.W.Frag) (G0 : Gh) (H0 : Hp) (G : Gh) (H : Hp) (S : SK) (D : Ends) : Prop where
  nx : ∀ ρ' G' H' σ', S.nx ρ' → Sta K G0 H0 ρ' G' H' σ' → FE G H G' H' → D.nx σ' H'
  rt : ∀ r v ρ' G' H', S.rt r ρ' → r.ok → Wd G' H' → GrW G0 H0 G' H' → RepR K G' H' H0 r v → StH K G' H' ρ' → D.rt v H'
  bk : ∀ ρ' G' H' σ', S.bk ρ' → Sta K G0 H0 ρ' G' H' σ' → FE G H G' H' → D.bk σ' H'
  ct : ∀ ρ' G' H' σ', S.ct ρ' → Sta K G0 H0 ρ' G' H' σ' → FE G H G' H' → D.ct σ' H'
theorem KS.fe {G G1 : Gh} {H1 : Hp} {S : SK} {D : Ends} (k : KS K G0 H0 G H S D) (f : FE G H G1 H1) : KS K G0 H0 G1 H1 S D :=
  ⟨fun ρ' G' H' σ' h s f' => k.nx ρ' G' H' σ' h s (f.trans f'), k.rt, fun ρ' G' H' σ' h s f' => k.bk ρ' G' H' σ' h s (f.trans f'), fun ρ' G' H' σ' h s f' => k.ct ρ' G' H' σ' h s (f.trans f')⟩
def TSX (K : PySem.W.Frag) (G0 : Gh) (H0 : Hp) (W : WS) : TS := fun D σ H => ∃ ρ G S, Sta K G0 H0 ρ G H σ ∧ W ρ S ∧ KS K G0 H0 G H S D
def PSI (X : Cx) (G0 : Gh) (H0 : Hp) (s : Stmt) (W : WS) : Prop := PS X s (TSX X.K G0 H0 W)
def PBI (X : Cx) (G0 : Gh) (H0 : Hp) (ss : List Stmt) (W : WS) : Prop := PSs X ss (TSX X.K G0 H0 W)
theorem ps_impL {s : Stmt} {t t' : TS} (h : PS X s t) (i : ∀ D σ H, σ.length = X.N.length → t' D σ H → t D σ H) : PS X s t' := ⟨fun pins s σ H D I q => h.run pins s σ H D I (i D σ H I.len q)⟩
theorem ps_imp {s : Stmt} {t t' : TS} (h : PS X s t) (i : ∀ D σ H, t' D σ H → t D σ H) : PS X s t' := ⟨fun pins s σ H D I q => h.run pins s σ H D I (i D σ H q)⟩
theorem pss_imp {ss : List Stmt} {t t' : TS} (h : PSs X ss t) (i : ∀ D σ H, t' D σ H → t D σ H) : PSs X ss t' := ⟨fun pins s σ H D I q => h.run pins s σ H D I (i D σ H q)⟩
def sSkip : WS := fun ρ S => S.nx ρ
def sSeq (u v : WS) : WS := fun ρ S => u ρ { S with nx := fun ρ' => v ρ' S }
theorem b_nil : PBI X G0 H0 [] sSkip := pss_imp pss_nil fun D σ H h => by
  obtain ⟨ρ, G, S, s, h, k⟩ := h
  exact k.nx ρ G H σ h s (FE.refl _ _)
variable {st : Stmt} {ss : List Stmt} {u v : WS}
theorem b_one (h : PSI X G0 H0 st u) : PBI X G0 H0 [st] u := pss_one h
theorem b_cons (h1 : PSI X G0 H0 st u) (h2 : PBI X G0 H0 ss v) : PBI X G0 H0 (st :: ss) (sSeq u v) := by
  refine pss_imp (pss_cons h1 h2) fun D σ H h => ?_
  obtain ⟨ρ, G, S, s, h, k⟩ := h
  exact ⟨ρ, G, _, s, h, ⟨fun ρ' G' H' σ' h' s' f => ⟨ρ', G', S, s', h', k.fe f⟩, k.rt, k.bk, k.ct⟩⟩
def sBreak : WS := fun ρ S => S.bk ρ
def sCont : WS := fun ρ S => S.ct ρ
/-- an expression whose value is dropped -/
def sDrop (wa : WE) : WS := fun ρ S => wa ρ fun _ ρ' => S.nx ρ'
theorem s_expr (h : PEI X G0 H0 e wa) (hs : swapsWith e none pos.line X.env = pure false := by rfl) : PSI X G0 H0 (.Expr e pos) (sDrop wa) := by
  refine ps_imp (ps_expr h hs) fun D σ H h => ?_
  obtain ⟨ρ, G, S, s, h, k⟩ := h
  exact ⟨ρ, G, _, s, h, fun r ρ' v G' H' q s' P L x => k.nx ρ' G' H' σ q s' (P.fe s.wd)⟩
/-- return -/
def sRet (wa : WE) : WS := fun ρ S => wa ρ fun r ρ' => match r with
  | .bo _ => False
  | r => S.rt r ρ'
theorem s_ret (h : PEI X G0 H0 e wa) : PSI X G0 H0 (.Return (some e) pos) (sRet wa) := by
  refine ps_imp (ps_ret h) fun D σ H h => ?_
  obtain ⟨ρ, G, S, s, h, k⟩ := h
  refine ⟨ρ, G, _, s, h, fun r ρ' v G' H' q s' P L x => ?_⟩
  have z := x.back (Ht := H0) fun a z => s.none0 z
  cases r with
  | fr d => exact k.rt _ v _ G' H' q trivial s'.wd s'.ex z s'.st
  | ow d => exact k.rt _ v _ G' H' q trivial s'.wd s'.ex z s'.st
  | bo d => exact q.elim
def sRetN : WS := fun ρ S => S.rt (.fr .non) ρ
/-- return of a variable: its object goes out -/
def sRetV (i : Nat) : WS := fun ρ S => match ρ[i]? with
  | some (.fr d) => S.rt (.fr d) ρ
  | some (.ow d) => S.rt (.ow d) ρ
  | _ => False
theorem s_retv (i : Nat) {x : Str} {p : Pos} (hN : X.N[i]? = some x := by rfl) (hv : Vis X.env.scope x := by first | exact Or.inl rfl | exact Or.inr (Or.inl rfl) | exact Or.inr (Or.inr rfl)) (hd : (x == ("__debug__" : Str)) = false := by decide)
    (hcd : (x == ("__classdict__" : Str)) = false := by decide) : PSI X G0 H0 (.Return (some (.Name x p)) pos) (sRetV i) := by
  refine ps_imp (ps_ret (pe_var hN hv hd hcd)) fun D σ H h => ?_
  obtain ⟨ρ, G, S, s, h, k⟩ := h
  unfold sRetV at h
  split at h
  · rename_i d e
    obtain ⟨v, e1, r⟩ := s.fr i d e
    exact ⟨v, e1, k.rt _ v _ G H h trivial s.wd s.ex r s.st⟩
  · rename_i d e
    obtain ⟨a, e1, o, z⟩ := s.ow i d e
    exact ⟨_, e1, k.rt _ _ _ G H h trivial s.wd s.ex ⟨a, rfl, o, z⟩ s.st⟩
  · exact h.elim
def sIf (t : WT) (u v : WS) : WS := fun ρ S => t ρ fun k ρ' => if k = true then u ρ' S else v ρ' S
theorem s_if {ss' : List Stmt} (hc : PTI X G0 H0 c tc) (ha : PBI X G0 H0 ss u) (hb : PBI X G0 H0 ss' v) : PSI X G0 H0 (.If c ss ss' pos) (sIf tc u v) := by
  refine ps_imp (ps_if hc ha hb) fun D σ H h => ?_
  obtain ⟨ρ, G, S, s, h, k⟩ := h
  refine ⟨ρ, G, _, s, h, fun b ρ' G' H' q s' P L => ?_⟩
  cases b with
  | true => exact iteT ⟨ρ', G', S, s', by simpa using q, k.fe (P.fe s.wd)⟩
  | false => exact iteF ⟨ρ', G', S, s', by simpa using q, k.fe (P.fe s.wd)⟩
/-- code that is never reached -/
def sNever : WS := fun _ _ => False
theorem s_never : PSI X G0 H0 st sNever := ps_imp ps_never fun D σ H h => by
  obtain ⟨ρ, G, S, s, h, k⟩ := h
  exact h

/-! ### stores -/
def R.cell : R → Cell
  | .fr d => .fr d
  | .ow d => .ow d
  | .bo _ => .no
theorem lt_of_N {N : List Str} {i : Nat} {x : Str} (h : N[i]? = some x) (e : σ.length = N.length) : i < σ.length := by
  rw [e]; exact (List.getElem?_eq_some_iff.mp h).1
/-- a slot gets a value -/
theorem Sta.put {G Gs : Gh} {Hs : Hp} {ρ ρs : En} {r : R} {w : V} {i : Nat} (s : Sta K G0 H0 ρ G H σ) (ss : Sta K G0 H0 ρs Gs Hs σ) (L : LeE ρ ρs) (hσ : i < σ.length) (x : RepR K G H Hs r w) (ok : r.ok) : Sta K G0 H0 (ρ.set i r.cell) G H (σ.set i (some w)) := by
  have hi : i < ρ.length := Nat.lt_of_lt_of_le hσ s.ln.1
  have nc : ∀ a d, r.cell ≠ .st a d := by cases r <;> nofun
  refine ⟨s.wd, s.ex, s.w0, fun j d e => ?_, fun j d e => ?_, fun j k d d' a e1 e2 e3 e4 => ?_, (s.ln.set nc).setS, fun j c q => by
      by_cases hj : i = j
      · subst hj; rw [List.getElem?_set_self hi] at q; cases r <;> cases q
      · rw [List.getElem?_set_ne hj] at q ⊢; exact s.bo j c q, s.st.set nc⟩
  · by_cases hj : i = j
    · subst hj
      rw [List.getElem?_set_self hi] at e
      refine ⟨w, List.getElem?_set_self hσ, ?_⟩
      cases r <;> cases e
      exact x
    · rw [List.getElem?_set_ne hj] at e ⊢
      exact s.fr j d e
  · by_cases hj : i = j
    · subst hj
      rw [List.getElem?_set_self hi] at e
      cases r <;> cases e
      obtain ⟨a, ea, o, z⟩ := x
      exact ⟨a, by rw [ea]; exact List.getElem?_set_self hσ, o, ss.none0 z⟩
    · rw [List.getElem?_set_ne hj] at e ⊢
      exact s.ow j d e
  · have old : ∀ {m : Nat} {d : D}, m ≠ i → (ρ.set i r.cell)[m]? = some (.ow d) → (σ.set i (some w))[m]? = some (some (.ref a)) → OwnA ρ σ a := fun {m d} hm q1 q2 => by
      rw [List.getElem?_set_ne (Ne.symm hm)] at q1 q2
      exact ⟨m, d, q1, q2⟩
    have new : ∀ {d : D}, (ρ.set i r.cell)[i]? = some (.ow d) → (σ.set i (some w))[i]? = some (some (.ref a)) → Hs a = none := fun {d} q1 q2 => by
      rw [List.getElem?_set_self hi] at q1
      rw [List.getElem?_set_self hσ] at q2
      cases r <;> cases q1
      obtain ⟨a', ea, o, z⟩ := x
      rw [ea] at q2
      cases q2
      exact z
    by_cases hj : j = i
    · by_cases hk : k = i
      · rw [hj, hk]
      · subst hj
        exact absurd (new e1 e3) (ss.hO L a (old hk e2 e4))
    · by_cases hk : k = i
      · subst hk
        exact absurd (new e2 e4) (ss.hO L a (old hj e1 e3))
      · rw [List.getElem?_set_ne (Ne.symm hj)] at e1 e3
        rw [List.getElem?_set_ne (Ne.symm hk)] at e2 e4
        exact s.ds j k d d' a e1 e2 e3 e4
def sSet (i : Nat) (wa : WE) : WS := fun ρ S => wa ρ fun r ρ' => i < ρ'.length ∧ r.ok ∧ S.nx (ρ'.set i r.cell)
theorem s_set {i : Nat} {x : Str} {p : Pos} (hN : X.N.Nodup) (hi : X.N[i]? = some x) (hx : Loc X.env.scope x) (h : PEI X G0 H0 e wa) (hs : swapsWith e (some (.Name x p)) pos.line X.env = pure false := by rfl)
    (hf : X.fn x = true ∨ X.env.scope.names.lookup x = some .local := by first | exact .inl rfl | exact .inr rfl | assumption) : PSI X G0 H0 (.Assign [.Name x p] e pos) (sSet i wa) := by
  refine ps_impL (ps_set hN hi hx h hs hf) fun D σ H hl h => ?_
  obtain ⟨ρ, G, S, s, h, k⟩ := h
  exact ⟨ρ, G, _, s, h, fun r ρ' v G' H' q s' P L x => k.nx _ G' H' _ q.2.2 (s'.put s L (lt_of_N hi hl) x q.2.1) (P.fe s.wd)⟩
def sAug (o : D → D → (D → Prop) → Prop) (i : Nat) (wa : WE) : WS := fun ρ S => match ρ[i]? with
  | some (.fr d) => wa ρ fun r ρ' => o d r.d fun d' => i < ρ'.length ∧ S.nx (ρ'.set i (.fr d'))
  | _ => False
/-! ### methods that change one's own list: x.m(..) as a statement -/
theorem FE.wr {G : Gh} {H : Hp} {a : Addr} {xs : List V} {o : HO} (h : H a = some (.lst xs)) (hf : ¬ G.F a) : FE G H G (upd H a o) :=
  ⟨fun _ z => z, fun _ z n => ⟨z, n⟩, fun b o' z e => (upd_ne (show b ≠ a from fun q => hf (q ▸ z))).trans e, fun b ys e => by rw [upd_ne (fun q => by rw [q, h] at e; cases e)]; exact e, fun b o' u' e _ => by rw [upd_ne (fun q => by rw [q, h] at e; cases e)]; exact e⟩
theorem Wd.wr {G : Gh} {H : Hp} {a : Addr} {xs : List V} {o : HO} (w : Wd G H) (hf : ¬ G.F a) (hb : ¬ G.B a) (hx : ∀ φ, H a ≠ some (.ext φ)) : Wd G (upd H a o) := by
  refine ⟨fun b h => ?_, fun b h => ?_, fun p hp => ⟨(w.t p hp).1, (w.t p hp).2.on (fun ps e => (upd_ne (show p.1 ≠ a from fun z => hb (z ▸ (w.t p hp).1))).trans e) fun c o e ⟨φ, q⟩ n hco => ⟨(upd_ne (show c ≠ a from fun z => hx φ (by rw [← z, e, q]))).trans e, n⟩⟩, fun b h => ⟨(w.m b h).1, let ⟨o', e, y⟩ := (w.m b h).2; ⟨o', (upd_ne (show b ≠ a from fun z => hb (z ▸ (w.m b h).1))).trans e, y⟩⟩⟩
  · obtain ⟨u, n⟩ := w.b b h
    exact ⟨u.imp id fun ⟨i, j, k, r, ns, e, l, q⟩ => ⟨i, j, k, r, ns, (upd_ne (show b ≠ a from fun z => hb (z ▸ h))).trans e, ⟨l.1, (upd_ne (show r ≠ a from fun z => hf (z ▸ l.1))).trans l.2⟩, q⟩, n⟩
  · obtain ⟨o', e⟩ := w.f b h
    exact ⟨o', (upd_ne (show b ≠ a from fun z => hf (z ▸ h))).trans e⟩
theorem Sta.write {G : Gh} {ρ : En} {i : Nat} {a : Addr} {d d' : D} {xs : List V} {o : HO} (s : Sta K G0 H0 ρ G H σ) (h : ρ[i]? = some (.ow d)) (e : σ[i]? = some (some (.ref a))) (hl : H a = some (.lst xs)) (n : Obw K G (upd H a o) a d') :
    Sta K G0 H0 (ρ.set i (.ow d')) G (upd H a o) σ ∧ FE G H G (upd H a o) := by
  obtain ⟨a', e', ⟨o1, o2, o3⟩, h0⟩ := s.ow i d h
  rw [e] at e'; cases e'
  have hi : i < ρ.length := (List.getElem?_eq_some_iff.mp h).1
  have f : FE G H G (upd H a o) := FE.wr hl o1
  refine ⟨⟨s.wd.wr (xs := xs) o1 o2 (by rw [hl]; nofun), ⟨s.ex.f, s.ex.b, fun b o' z zb => ?_, s.ex.nf, s.ex.nb, s.ex.nm⟩, s.w0, fun j c q => ?_, fun j c q => ?_, fun j k c c' b q1 q2 q3 q4 => ?_, s.ln.set, fun j c q => by
      by_cases hj : i = j
      · subst hj; rw [List.getElem?_set_self hi] at q; cases q
      · rw [List.getElem?_set_ne hj] at q; exact s.bo j c q, (s.st.fe f fun b z => ⟨z, fun o' e => (upd_ne (show b ≠ a from fun q => o2 (q ▸ (s.wd.m b z).1))).trans e⟩).set⟩, f⟩
  · rw [upd_ne (fun q => by rw [q, h0] at z; cases z)]
    exact s.ex.k b o' z zb
  · by_cases hj : i = j
    · subst hj
      rw [List.getElem?_set_self hi] at q; cases q
    · rw [List.getElem?_set_ne hj] at q
      obtain ⟨v, e1, r⟩ := s.fr j c q
      exact ⟨v, e1, r.fe f⟩
  · by_cases hj : i = j
    · subst hj
      rw [List.getElem?_set_self hi] at q; cases q
      exact ⟨a, e, ⟨o1, o2, n⟩, h0⟩
    · rw [List.getElem?_set_ne hj] at q
      obtain ⟨b, e1, ⟨p1, p2, p3⟩, z1⟩ := s.ow j c q
      have hba : b ≠ a := fun z => hj (s.ds i j d c a h q e (z ▸ e1))
      exact ⟨b, e1, ⟨p1, p2, p3.fe f fun o' z => by rw [upd_ne hba]; exact z⟩, z1⟩
  · have old : ∀ {m : Nat} {c : D}, (ρ.set i (.ow d'))[m]? = some (.ow c) → ∃ c', ρ[m]? = some (.ow c') := fun {m c} q => by
      by_cases hm : i = m
      · subst hm; exact ⟨d, h⟩
      · rw [List.getElem?_set_ne hm] at q; exact ⟨c, q⟩
    obtain ⟨_, r1⟩ := old q1
    obtain ⟨_, r2⟩ := old q2
    exact s.ds j k _ _ b r1 r2 q3 q4
theorem RepRs.rep {G : Gh} {Hs : Hp} {a : Addr} (ha : ∃ o, Hs a = some o) : ∀ {rs : List R} {vs : List V}, RepRs K G H Hs rs vs → (∀ r ∈ rs, r.ok) → ∀ (i : Nat) d v, (rs.map R.d)[i]? = some d → vs[i]? = some v → Rep K G H d v ∨ ∃ b, v = .ref b ∧ b ≠ a ∧ Obw K G H b d
  | _, _, .nil, _ => fun i d v e _ => by simp at e
  | _, _, .cons (r := r) x t _, ok => fun i d v e e' => by
    cases i with
    | zero =>
      simp at e e'; subst e e'
      cases r with
      | fr d => exact .inl x
      | ow d =>
        obtain ⟨b, eb, o, z⟩ := x
        refine .inr ⟨b, eb, fun q => ?_, o.2.2⟩
        obtain ⟨o', ho⟩ := ha
        rw [q, ho] at z; cases z
      | bo d => exact (ok _ List.mem_cons_self).elim
    | succ i => exact RepRs.rep ha t (fun r hr => ok r (List.mem_cons_of_mem _ hr)) i d v (by simpa using e) (by simpa using e')
end
end Tv
/-! Tv5: what is walked, targets, for, while, list comprehensions. -/
namespace Tv
open PySem PySem.Spec PyProof.Rows L2
variable [LamT]

abbrev WI := En → (List D → En → Prop) → Prop
/-- a walk that yields these -/
def ItR (K : PySem.W.Frag) (J : It) (G : Gh) (H : Hp) (ds : List D) : Prop :=
  ∀ (i : Nat) (G' : Gh) (H' : Hp), Wd G' H' → FE G H G' H' → (ds.length ≤ i → J.stop i H') ∧
    ∀ d, ds[i]? = some d → J.go i H' ∧ ∀ x H'', J.yld i H' x H'' → ∃ G'', Wd G'' H'' ∧ Grow G' H' G'' H'' ∧ Rep K G'' H'' d x
def TIX (K : PySem.W.Frag) (G0 : Gh) (H0 : Hp) (W : WI) : TI := fun σ H R' => ∃ ρ G Φ, Sta K G0 H0 ρ G H σ ∧ W ρ Φ ∧ ∀ ds ρ' J G' H', Φ ds ρ' → Sta K G0 H0 ρ' G' H' σ → Stp ρ σ G H G' H' → LeE ρ' ρ → ItR K J G' H' ds → R' J H'
def PII (X : Cx) (G0 : Gh) (H0 : Hp) (tg e : Expr) (W : WI) : Prop := PI X tg e (TIX X.K G0 H0 W)
theorem pi_imp {X : Cx} {tg e : Expr} {t t' : TI} (h : PI X tg e t) (i : ∀ σ H R', t' σ H R' → t σ H R') : PI X tg e t' := ⟨fun pins s σ H R' I q => h.run pins s σ H R' I (i σ H R' q)⟩

section
variable {X : Cx} {G0 : Gh} {H0 : Hp} {e tg : Expr} {es : List Expr} {wa : WE} {ws : WA} {pos : Pos} {K : PySem.W.Frag} {σ : L2.St} {H : Hp}
/-- over a list or a tuple -/
def iSeq (K : PySem.W.Frag) (tl : TE) : TI := fun σ H R' => tl σ H fun x H1 => ∃ a, x = .ref a ∧ ((∃ xs, SqL K H1 a xs ∧ R' (Itl K a) H1) ∨ ∃ xs, SqT K H1 a xs ∧ R' (Itt K a) H1)
theorem pi_seq {l : Expr} {tl : TE} (hl : PE X l tl) : PI X tg l (iSeq X.K tl) := by
  refine ⟨fun pins s σ H R' I h => ?_⟩
  refine thn (hl.run pins s σ H _ I h) fun v s1 hq => ?_
  obtain ⟨x, H1, I1, r1, a, e, q⟩ := hq
  subst e
  cases r1
  have fp : ∀ (b : Addr), b ∈ [s1.heap.objs.size] → FpOk X pins H1 b := fun b hb => by
    have e : b = s1.heap.objs.size := by simpa using hb
    subst e
    exact I1.fpOk (Nat.le_refl _) (I1.hok.fresh (Nat.le_refl _))
  rcases q with ⟨xs, hx, q⟩ | ⟨xs, hx, q⟩
  · obtain ⟨its, rv, p, hz⟩ := I1.list hx
    exact wpAny_pyIter_list p.isList ⟨s1.heap.objs.size, [s1.heap.objs.size], _, _, H1, rfl, I1.kept (t' := s1.toks) fun b o e => Heap.get?_push_of_some _ e, turn_list a _, ⟨_, Heap.get?_push_size _ rfl, rfl, rfl⟩, fp, q⟩
  · obtain ⟨its, rv, p, hz⟩ := I1.tuple hx
    exact wpAny_pyIter_tuple (show s1.heap.IsTuple a its.toArray from p) ⟨s1.heap.objs.size, [s1.heap.objs.size], _, _, H1, rfl, I1.kept (t' := s1.toks) fun b o e => Heap.get?_push_of_some _ e, turn_tuple a _, ⟨_, Heap.get?_push_size _ rfl, rfl, rfl⟩, fp, q⟩
def wSeqI (wa : WE) : WI := fun ρ Φ => wa ρ fun r ρ' => match r with
  | .fr (.lst ds) => Φ ds ρ'
  | .fr (.tup ds) => Φ ds ρ'
  | _ => False
theorem itr_list {G : Gh} {a : Addr} {xs : List V} {ds : List D} (l : LsF G H a xs) (r : RepL K G H ds xs) : ItR K (Itl K a) G H ds := fun i G' H' w f => by
  have l' := l.fe f
  have r' := r.fe f
  refine ⟨fun h => ⟨xs, l'.sq, by rw [← r.length]; exact h⟩, fun d e => ?_⟩
  obtain ⟨v, e1, rv⟩ := r'.get e
  exact ⟨⟨xs, v, l'.sq, e1⟩, fun x H'' y => ⟨G', by rw [y.1]; exact w, by rw [y.1]; exact Grow.refl _ _, by
    have e2 := y.2 xs l'.sq
    rw [e1] at e2
    cases e2
    rw [y.1]; exact rv⟩⟩
theorem itr_tup {G : Gh} {a : Addr} {xs : List V} {ds : List D} (l : SqT K H a xs) (r : RepL K G H ds xs) : ItR K (Itt K a) G H ds := fun i G' H' w f => by
  have l' := SqT.fe f l
  have r' := r.fe f
  refine ⟨fun h => ⟨xs, l', by rw [← r.length]; exact h⟩, fun d e => ?_⟩
  obtain ⟨v, e1, rv⟩ := r'.get e
  exact ⟨⟨xs, v, l', e1⟩, fun x H'' y => ⟨G', by rw [y.1]; exact w, by rw [y.1]; exact Grow.refl _ _, by
    have e2 := y.2 xs l'
    rw [e1] at e2
    cases e2
    rw [y.1]; exact rv⟩⟩
theorem p_seq (h : PEI X G0 H0 e wa) : PII X G0 H0 tg e (wSeqI wa) := by
  refine pi_imp (pi_seq h) fun σ H R' h => ?_
  obtain ⟨ρ, G, Φ, S, h, c⟩ := h
  refine ⟨ρ, G, _, S, h, fun r ρ' v G' H' q S' P L x => ?_⟩
  split at q
  · cases x with
    | lst l r => exact ⟨_, rfl, .inl ⟨_, l.sq, c _ ρ' _ G' H' q S' P L (itr_list l r)⟩⟩
  · cases x with
    | tup l r => exact ⟨_, rfl, .inr ⟨_, l, c _ ρ' _ G' H' q S' P L (itr_tup l r)⟩⟩
  · exact q.elim
/-- range(n), range(a, b) -/
def rngD (lo : Int) (n : Nat) : List D := (List.range n).map fun i => .int (lo + (i : Nat))
def wRng1 (ws : WA) : WI := fun ρ Φ => ws ρ fun rs ρ' => match rs.map R.d with
  | [.int j] => (-(2 ^ 62) ≤ j ∧ j < 2 ^ 62) ∧ Φ (rngD 0 j.toNat) ρ'
  | _ => False
def wRng2 (ws : WA) : WI := fun ρ Φ => ws ρ fun rs ρ' => match rs.map R.d with
  | [.int i, .int j] => (-(2 ^ 62) ≤ i ∧ i < 2 ^ 62 ∧ -(2 ^ 62) ≤ j ∧ j < 2 ^ 62) ∧ Φ (rngD i (j - i).toNat) ρ'
  | _ => False
theorem RepRs.one {G : Gh} {Hs : Hp} {rs : List R} {vs : List V} {d : D} (x : RepRs K G H Hs rs vs) (e : rs.map R.d = [d]) : ∃ v, vs = [v] ∧ Sh K G H d v := by
  have hs := x.sh
  have hl := x.length
  rw [← List.length_map (f := R.d), e] at hl
  rw [e] at hs
  match vs, hl with
  | [v], _ => exact ⟨v, rfl, hs 0 _ v rfl rfl⟩
theorem RepRs.two {G : Gh} {Hs : Hp} {rs : List R} {vs : List V} {d d' : D} (x : RepRs K G H Hs rs vs) (e : rs.map R.d = [d, d']) : ∃ v v', vs = [v, v'] ∧ Sh K G H d v ∧ Sh K G H d' v' := by
  have hs := x.sh
  have hl := x.length
  rw [← List.length_map (f := R.d), e] at hl
  rw [e] at hs
  match vs, hl with
  | [v, v'], _ => exact ⟨v, v', rfl, hs 0 _ v rfl rfl, hs 1 _ v' rfl rfl⟩
theorem itr_rng {G : Gh} {lo : Int} {n : Nat} : ItR K (Itr lo n) G H (rngD lo n) := fun i G' H' w f => by
  refine ⟨fun h => ?_, fun d e => ?_⟩
  · unfold rngD at h
    rw [List.length_map, List.length_range] at h
    exact h
  · unfold rngD at e
    rw [List.getElem?_map] at e
    have hi : i < n := by
      by_cases q : i < n
      · exact q
      · rw [List.getElem?_eq_none (by rw [List.length_range]; omega)] at e
        cases e
    rw [List.getElem?_range hi] at e
    cases e
    exact ⟨hi, fun x H'' y => ⟨G', by rw [y.1]; exact w, by rw [y.1]; exact Grow.refl _ _, by rw [y.2]; exact .int _⟩⟩
theorem p_rng1 {a : Expr} {p : Pos} (hg : Gl X "range") (hm : X.mg "range" = none) (ha : PAI X G0 H0 [a] ws) (hs : starEach [a] X.env = [(false, eval a X.env)] := by rfl) : PII X G0 H0 tg (.Call (.Name "range" p) [a] [] pos) (wRng1 ws) := by
  refine pi_imp (pi_range1 hg hm ha hs) fun σ H R' h => ?_
  obtain ⟨ρ, G, Φ, S, h, c⟩ := h
  refine ⟨ρ, G, _, S, h, fun rs ρ' vs G' H' q S' P L x => ?_⟩
  split at q
  · rename_i j e
    obtain ⟨v, rfl, z⟩ := x.one e
    cases z.i
    exact ⟨j, rfl, q.1.1, q.1.2, c _ ρ' _ G' H' q.2 S' P L itr_rng⟩
  · exact q.elim
theorem p_rng2 {a b : Expr} {p : Pos} (hg : Gl X "range") (hm : X.mg "range" = none) (ha : PAI X G0 H0 [a, b] ws) (hs : starEach [a, b] X.env = [(false, eval a X.env), (false, eval b X.env)] := by rfl) (hs2 : starEach [b] X.env = [(false, eval b X.env)] := by rfl) :
    PII X G0 H0 tg (.Call (.Name "range" p) [a, b] [] pos) (wRng2 ws) := by
  refine pi_imp (pi_range2 hg hm ha hs hs2) fun σ H R' h => ?_
  obtain ⟨ρ, G, Φ, S, h, c⟩ := h
  refine ⟨ρ, G, _, S, h, fun rs ρ' vs G' H' q S' P L x => ?_⟩
  split at q
  · rename_i i j e
    obtain ⟨v, v', rfl, z, z'⟩ := x.two e
    cases z.i
    cases z'.i
    exact ⟨i, j, rfl, q.1, c _ ρ' _ G' H' q.2 S' P L itr_rng⟩
  · exact q.elim
end

/-! ### targets -/
abbrev WTg := D → En → (En → Prop) → Prop
/-- some slots of an environment forgotten -/
def wipeE (vs : List Nat) : Nat → En → En
  | _, [] => []
  | k, c :: ρ => (if vs.contains k then .no else c) :: wipeE vs (k + 1) ρ
/-- what a store into the slots vs alone does -/
structure TgR (vs : List Nat) (ρ' : En) (σ' : L2.St) (ρ : En) (σ : L2.St) : Prop where
  w : wipe σ' vs = wipe σ vs
  e : wipeE vs 0 ρ' = wipeE vs 0 ρ
  o : ∀ a, OwnA ρ' σ' a → OwnA ρ σ a
theorem TgR.refl {vs : List Nat} {ρ : En} {σ : L2.St} : TgR vs ρ σ ρ σ := ⟨rfl, rfl, fun _ h => h⟩
theorem TgR.trans {vs : List Nat} {ρ ρ1 ρ2 : En} {σ σ1 σ2 : L2.St} (x : TgR vs ρ2 σ2 ρ1 σ1) (y : TgR vs ρ1 σ1 ρ σ) : TgR vs ρ2 σ2 ρ σ := ⟨x.w.trans y.w, x.e.trans y.e, fun a h => y.o a (x.o a h)⟩
theorem wipeE_get {vs : List Nat} : ∀ (ρ : En) (k i : Nat), (wipeE vs k ρ)[i]? = ρ[i]?.map fun c => if vs.contains (k + i) then .no else c
  | [], _, _ => by simp [wipeE]
  | c :: ρ, k, 0 => by simp [wipeE]
  | c :: ρ, k, i + 1 => by
    unfold wipeE
    rw [List.getElem?_cons_succ, List.getElem?_cons_succ, wipeE_get ρ (k + 1) i, Nat.add_right_comm, Nat.add_assoc]
theorem wipeE_len {vs : List Nat} : ∀ (ρ : En) (k : Nat), (wipeE vs k ρ).length = ρ.length
  | [], _ => rfl
  | _ :: ρ, k => by simp [wipeE, wipeE_len ρ (k + 1)]
theorem wipeE_set {vs : List Nat} {ρ : En} {i : Nat} {c : Cell} (h : i ∈ vs) : wipeE vs 0 (ρ.set i c) = wipeE vs 0 ρ := by
  apply List.ext_getElem?
  intro j
  rw [wipeE_get, wipeE_get]
  by_cases hj : i = j
  · subst hj
    by_cases hl : i < ρ.length
    · rw [List.getElem?_set_self hl, List.getElem?_eq_getElem hl]
      simp [h]
    · rw [List.getElem?_eq_none (by rw [List.length_set]; omega), List.getElem?_eq_none (by omega)]
  · rw [List.getElem?_set_ne hj]
def TGX (K : PySem.W.Frag) (G0 : Gh) (H0 : Hp) (vs : List Nat) (W : WTg) : TG := fun v σ H Q => ∃ ρ G d Φ, Sta K G0 H0 ρ G H σ ∧ Rep K G H d v ∧ W d ρ Φ ∧ ∀ ρ' σ', Φ ρ' → Sta K G0 H0 ρ' G H σ' → TgR vs ρ' σ' ρ σ → Q σ' H
def PGI (X : Cx) (G0 : Gh) (H0 : Hp) (vs : List Nat) (tg : Expr) (W : WTg) : Prop := PG X tg (TGX X.K G0 H0 vs W)
theorem pg_impL {X : Cx} {tg : Expr} {t t' : TG} (h : PG X tg t) (i : ∀ v σ H Q, σ.length = X.N.length → t' v σ H Q → t v σ H Q) : PG X tg t' := ⟨fun pins s σ H v u Q I r q => h.run pins s σ H v u Q I r (i v σ H Q I.len q)⟩
theorem pg_imp {X : Cx} {tg : Expr} {t t' : TG} (h : PG X tg t) (i : ∀ v σ H Q, t' v σ H Q → t v σ H Q) : PG X tg t' := ⟨fun pins s σ H v u Q I r q => h.run pins s σ H v u Q I r (i v σ H Q q)⟩
theorem wipe_get {σ : L2.St} {i : Nat} : ∀ {vs : List Nat}, i ∈ vs → i < σ.length → (wipe σ vs)[i]? = some none
  | [], h, _ => by simp at h
  | v :: vs, h, hi => by
    unfold wipe
    by_cases e : v = i
    · subst e
      exact List.getElem?_set_self (by rw [wipe_length]; exact hi)
    · rw [List.getElem?_set_ne e]
      exact wipe_get ((List.mem_cons.mp h).resolve_left fun z => e z.symm) hi
theorem wipe_set {σ : L2.St} {i : Nat} {o : Option V} {vs : List Nat} (h : i ∈ vs) : wipe (σ.set i o) vs = wipe σ vs := by
  apply List.ext_getElem?
  intro j
  by_cases hj : j ∈ vs
  · by_cases hl : j < σ.length
    · rw [wipe_get hj (by rw [List.length_set]; exact hl), wipe_get hj hl]
    · rw [List.getElem?_eq_none (by rw [wipe_length, List.length_set]; omega), List.getElem?_eq_none (by rw [wipe_length]; omega)]
  · rw [wipe_out hj, wipe_out hj, List.getElem?_set_ne (show i ≠ j from fun e => hj (e ▸ h))]
section
variable {X : Cx} {G0 : Gh} {H0 : Hp} {e tg : Expr} {es : List Expr} {wa : WE} {ws : WA} {wi : WI} {pos : Pos} {K : PySem.W.Frag} {σ : L2.St} {H : Hp} {vs : List Nat}
def gN (i : Nat) : WTg := fun d ρ Φ => i < ρ.length ∧ Φ (ρ.set i (.fr d))
theorem g_name {i : Nat} {x : Str} (hN : X.N.Nodup) (hi : X.N[i]? = some x) (hx : Loc X.env.scope x) (hm : i ∈ vs) (hf : X.fn x = true ∨ X.env.scope.names.lookup x = some .local := by first | exact .inl rfl | exact .inr rfl | assumption) : PGI X G0 H0 vs (.Name x pos) (gN i) := by
  refine pg_impL (pg_name hN hi hx hf) fun v σ H Q hl h => ?_
  obtain ⟨ρ, G, d, Φ, S, r, h, c⟩ := h
  refine c _ _ h.2 (Sta.put (r := .fr d) S S (LeE.refl _) (lt_of_N hi hl) r trivial) ⟨wipe_set hm, wipeE_set hm, fun a ha => ?_⟩
  obtain ⟨j, d', e1, e2⟩ := ha
  by_cases hj : i = j
  · subst hj
    rw [List.getElem?_set_self h.1] at e1
    cases e1
  · rw [List.getElem?_set_ne hj] at e1 e2
    exact ⟨j, d', e1, e2⟩
abbrev WTgs := List D → En → (En → Prop) → Prop
def TGsX (K : PySem.W.Frag) (G0 : Gh) (H0 : Hp) (vs : List Nat) (W : WTgs) : TGs := fun us σ H Q => ∃ ρ G ds Φ, Sta K G0 H0 ρ G H σ ∧ RepL K G H ds us ∧ W ds ρ Φ ∧ ∀ ρ' σ', Φ ρ' → Sta K G0 H0 ρ' G H σ' → TgR vs ρ' σ' ρ σ → Q σ' H
def PGsI (X : Cx) (G0 : Gh) (H0 : Hp) (vs : List Nat) (ts : List Expr) (W : WTgs) : Prop := PGs X ts (TGsX X.K G0 H0 vs W)
theorem pgs_imp {ts : List Expr} {t t' : TGs} (h : PGs X ts t) (i : ∀ v σ H Q, t' v σ H Q → t v σ H Q) : PGs X ts t' := ⟨fun pins s σ H v u Q I r q => h.run pins s σ H v u Q I r (i v σ H Q q)⟩
def gNl : WTgs := fun ds ρ Φ => ds = [] ∧ Φ ρ
def gCs (w : WTg) (ws : WTgs) : WTgs := fun ds ρ Φ => match ds with
  | d :: ds => w d ρ fun ρ' => ws ds ρ' Φ
  | [] => False
variable {W : WTg} {Ws : WTgs}
theorem g_nil : PGsI X G0 H0 vs [] gNl := by
  refine pgs_imp pgs_nil fun us σ H Q h => ?_
  obtain ⟨ρ, G, ds, Φ, S, r, ⟨rfl, h⟩, c⟩ := h
  cases r
  exact ⟨rfl, c ρ σ h S TgR.refl⟩
theorem g_cons (h1 : PGI X G0 H0 vs e W) (h2 : PGsI X G0 H0 vs es Ws) (hs : (assignEach (e :: es) X.env).map (·.2) = assign e X.env :: (assignEach es X.env).map (·.2) := by rfl) : PGsI X G0 H0 vs (e :: es) (gCs W Ws) := by
  refine pgs_imp (pgs_cons h1 h2 hs) fun us σ H Q h => ?_
  obtain ⟨ρ, G, ds, Φ, S, r, h, c⟩ := h
  cases r with
  | nil => exact h.elim
  | cons r rr => exact ⟨_, _, rfl, ρ, G, _, _, S, r, h, fun ρ' σ' q S' e1 => ⟨ρ', G, _, Φ, S', rr, q, fun ρ2 σ2 q2 S2 e2 => c ρ2 σ2 q2 S2 (e2.trans e1)⟩⟩
def gTp (n : Nat) (Ws : WTgs) : WTg := fun d ρ Φ => match d with
  | .tup ds => ds.length = n ∧ Ws ds ρ Φ
  | _ => False
theorem g_tup {k n : Nat} (hc : X.calm = true) (h : PGsI X G0 H0 vs es Ws) (hn : (assignEach es X.env).length = n := by rfl) (hst : (assignEach es X.env).findIdx? (·.1) = none := by rfl) : PGI X G0 H0 vs (.Tuple es k pos) (gTp n Ws) := by
  refine pg_imp (pg_tup hc h hn hst) fun v σ H Q h => ?_
  obtain ⟨ρ, G, d, Φ, S, r, h, c⟩ := h
  unfold gTp at h
  split at h
  · cases r with
    | tup l r => exact ⟨_, _, rfl, l, by rw [← r.length]; exact h.1, ρ, G, _, Φ, S, r, h.2, c⟩
  · exact h.elim
/-- a, b = e -/
def sUnp (W : WTg) (wa : WE) : WS := fun ρ S => wa ρ fun r ρ' => match r with
  | .fr d => W d ρ' S.nx
  | _ => False
theorem s_unp (he : PEI X G0 H0 e wa) (hg : PGI X G0 H0 vs tg W) (hs : swapsWithSole [tg] e pos.line X.env = pure false := by rfl) (hw : swappedStores [tg] e X.env = pure none := by rfl)
    (h1 : (assignEach [tg] X.env).map (·.2) = [assign tg X.env] := by rfl) : PSI X G0 H0 (.Assign [tg] e pos) (sUnp W wa) := by
  refine ps_imp (ps_asg he hg hs hw h1) fun D σ H h => ?_
  obtain ⟨ρ, G, S, s, h, k⟩ := h
  refine ⟨ρ, G, _, s, h, fun r ρ' v G' H' q s' P L x => ?_⟩
  cases r with
  | fr d => exact ⟨ρ', G', d, _, s', x, q, fun ρ2 σ2 q2 s2 _ => k.nx ρ2 G' H' σ2 q2 s2 (P.fe s.wd)⟩
  | ow d => exact q.elim
  | bo d => exact q.elim

/-! ### for -/
def forD (W : WTg) (body : WS) (S : SK) : List D → En → Prop
  | [], ρ => S.nx ρ
  | d :: ds, ρ => W d ρ fun ρ' => body ρ' { nx := forD W body S ds, rt := S.rt, bk := S.nx, ct := forD W body S ds }
def sFor (wi : WI) (W : WTg) (body : WS) : WS := fun ρ S => wi ρ fun ds ρ' => forD W body S ds ρ'
theorem s_for {iter : Expr} {body : List Stmt} {wb : WS} (hp : PassesOwn (model X.prog X.w) X.A X.env X.xe) (hc : X.calm = true) (hi : PII X G0 H0 tg iter wi) (hg : PGI X G0 H0 vs tg W) (hb : PBI X G0 H0 body wb)
    (hs : ∀ x, foldedSetIterable iter X.env x = pure x := by intro _; rfl) : PSI X G0 H0 (.For tg iter body [] pos) (sFor wi W wb) := by
  refine ps_imp (ps_for hp hc hi hg hb hs) fun D σ H h => ?_
  obtain ⟨ρ, G, S, s, h, k⟩ := h
  refine ⟨ρ, G, _, s, h, fun ds ρ1 J G1 H1 q s1 P L it => ?_⟩
  refine ⟨fun i m σ' H' => m = ds.length - i ∧ i ≤ ds.length ∧ ∃ ρ' G', Sta X.K G0 H0 ρ' G' H' σ' ∧ FE G1 H1 G' H' ∧ forD W wb S (ds.drop i) ρ', ⟨ds.length, by omega, Nat.zero_le _, ρ1, G1, s1, FE.refl _ _, q⟩, ?_⟩
  rintro i m σ' H' ⟨rfl, hi, ρ', G', s', f, q'⟩
  obtain ⟨it1, it2⟩ := it i G' H' s'.wd f
  have kf : KS X.K G0 H0 G' H' S D := k.fe ((P.fe s.wd).trans f)
  by_cases hlt : i < ds.length
  · obtain ⟨d, ed⟩ : ∃ d, ds[i]? = some d := ⟨ds[i], by simp [hlt]⟩
    obtain ⟨go, yl⟩ := it2 d ed
    refine .inr ⟨go, fun σ2 H2 => i + 1 ≤ ds.length ∧ ∃ ρ2 G2, Sta X.K G0 H0 ρ2 G2 H2 σ2 ∧ FE G1 H1 G2 H2 ∧ forD W wb S (ds.drop (i + 1)) ρ2, fun σ2 H2 z => ⟨ds.length - (i + 1), by omega, rfl, z⟩, fun x H2 y => ?_⟩
    obtain ⟨G2, w2, g2, r2⟩ := yl x H2 y
    have e2 : ds.drop i = d :: ds.drop (i + 1) := by
      rw [List.drop_eq_getElem_cons hlt]
      have : ds[i] = d := by simpa [hlt] using ed
      rw [this]
    rw [e2] at q'
    have f2 : FE G1 H1 G2 H2 := f.trans (g2.fe s'.wd)
    refine ⟨ρ', G2, d, _, s'.grow w2 g2, r2, q', fun ρ3 σ3 q3 s3 _ => ⟨ρ3, G2, _, s3, q3, ?_⟩⟩
    have k2 := kf.fe (g2.fe s'.wd)
    exact ⟨fun ρ4 G4 H4 σ4 q4 s4 f4 => ⟨hlt, ρ4, G4, s4, f2.trans f4, q4⟩, k2.rt, fun ρ4 G4 H4 σ4 q4 s4 f4 => k2.nx ρ4 G4 H4 σ4 q4 s4 f4, fun ρ4 G4 H4 σ4 q4 s4 f4 => ⟨hlt, ρ4, G4, s4, f2.trans f4, q4⟩⟩
  · have e : i = ds.length := by omega
    subst e
    rw [List.drop_length] at q'
    exact .inl ⟨it1 (Nat.le_refl _), kf.nx ρ' G' H' σ' q' s' (FE.refl _ _)⟩

/-! ### while -/
end
end Tv
/-! Tv6: list comprehensions. -/
namespace Tv
open PySem PySem.Spec PyProof.Rows L2
variable [LamT]

def keepC : Cell → Cell
  | .fr d => .fr d
  | _ => .no
/-- behind a block: its own slots as they were, the others as it left them -/
def mixE (vs : List Nat) : Nat → En → En → En
  | k, c :: ρ, d :: ρe => (if vs.contains k then keepC c else d) :: mixE vs (k + 1) ρ ρe
  | _, [], ρe => ρe
  | _, _ :: _, [] => []
theorem mixE_get {vs : List Nat} {c : Cell} : ∀ (ρ ρe : En) (k i : Nat), (mixE vs k ρ ρe)[i]? = some c → (∃ c' d, ρ[i]? = some c' ∧ ρe[i]? = some d ∧ c = if vs.contains (k + i) then keepC c' else d) ∨ (ρ[i]? = none ∧ ρe[i]? = some c)
  | [], _, _, _, e => .inr ⟨by simp, by simpa [mixE] using e⟩
  | _ :: _, [], _, i, e => by simp [mixE] at e
  | c :: ρ, d :: ρe, k, 0, e => .inl ⟨c, d, rfl, rfl, by simpa [mixE] using e.symm⟩
  | c :: ρ, d :: ρe, k, i + 1, e => by
    unfold mixE at e
    rw [List.getElem?_cons_succ] at e
    have z := mixE_get ρ ρe (k + 1) i e
    have e2 : k + (i + 1) = k + 1 + i := by omega
    rw [List.getElem?_cons_succ, List.getElem?_cons_succ, e2]
    exact z
theorem mixE_len {vs : List Nat} : ∀ (ρ ρe : En) (k : Nat), (mixE vs k ρ ρe).length = ρe.length
  | [], _, _ => by simp [mixE]
  | _ :: _, [], _ => by simp [mixE]
  | _ :: ρ, _ :: ρe, k => by
    unfold mixE
    rw [List.length_cons, List.length_cons, mixE_len ρ ρe (k + 1)]
section
variable {K : PySem.W.Frag} {G G0 G' G1 G2 : Gh} {H H0 H' H1 H2 : Hp} {ρ ρ' ρ1 ρ2 ρe : En} {σ σ1 : L2.St} {vs : List Nat} {a p : Addr}
theorem wipeE_in {i : Nat} {c : Cell} (h : (wipeE vs 0 ρ)[i]? = some c) : (i ∉ vs ∧ ρ[i]? = some c) ∨ c = .no := by
  rw [wipeE_get] at h
  cases e : ρ[i]? with
  | none => rw [e] at h; cases h
  | some d =>
    rw [e] at h
    simp only [Option.map_some, Nat.zero_add, Option.some.injEq] at h
    by_cases hi : i ∈ vs
    · rw [if_pos (List.contains_iff_mem.mpr hi)] at h
      exact .inr h.symm
    · rw [if_neg (fun z => hi (List.contains_iff_mem.mp z))] at h
      exact .inl ⟨hi, by rw [h]⟩
theorem wipeE_idem : wipeE vs 0 (wipeE vs 0 ρ) = wipeE vs 0 ρ := by
  apply List.ext_getElem?
  intro j
  rw [wipeE_get, wipeE_get]
  cases ρ[j]? with
  | none => rfl
  | some c =>
    simp only [Option.map_some]
    split <;> rfl
theorem wipe_idem : wipe (wipe σ vs) vs = wipe σ vs := by
  apply List.ext_getElem?
  intro j
  by_cases hj : j ∈ vs
  · by_cases hl : j < σ.length
    · rw [wipe_get hj (by rw [wipe_length]; exact hl), wipe_get hj hl]
    · rw [List.getElem?_eq_none (by rw [wipe_length, wipe_length]; omega), List.getElem?_eq_none (by rw [wipe_length]; omega)]
  · rw [wipe_out hj]
theorem LeE.wipe (L : LeE ρ' ρ) : LeE (wipeE vs 0 ρ') (wipeE vs 0 ρ) := by
  refine ⟨trivial, fun i c e => ?_⟩
  rcases wipeE_in e with ⟨hi, e1⟩ | e1
  · have sub : ∀ {c' : Cell}, ρ[i]? = some c' → (wipeE vs 0 ρ)[i]? = some c' := fun {c'} q => by
      rw [wipeE_get, q]
      simp only [Option.map_some, Nat.zero_add]
      rw [if_neg (fun z => hi (List.contains_iff_mem.mp z))]
    rcases L.le i c e1 with e2 | e2 | ⟨d, e2, e3⟩ | e2
    · exact .inl e2
    · exact .inr (.inl (sub e2))
    · exact .inr (.inr (.inl ⟨d, sub e2, e3⟩))
    · exact .inr (.inr (.inr e2))
  · exact .inl e1
theorem OwnA.wiped (h : OwnA (wipeE vs 0 ρ) (wipe σ vs) a) : OwnA ρ σ a := by
  obtain ⟨i, d, e1, e2⟩ := h
  rcases wipeE_in e1 with ⟨hi, e⟩ | e
  · rw [wipe_out hi] at e2
    exact ⟨i, d, e, e2⟩
  · cases e
theorem LnE.wiped (h : LnE ρ σ) : LnE (wipeE vs 0 ρ) (wipe σ vs) := by
  refine ⟨by rw [wipeE_len, wipe_length]; exact h.1, fun i a d e => ?_⟩
  rw [wipe_length]
  rcases wipeE_in e with ⟨_, e⟩ | e
  · exact h.2 i a d e
  · cases e
theorem Sta.wiped (S : Sta K G0 H0 ρ G H σ) : Sta K G0 H0 (wipeE vs 0 ρ) G H (wipe σ vs) := by
  refine ⟨S.wd, S.ex, S.w0, fun i d e => ?_, fun i d e => ?_, fun i j d e a q1 q2 q3 q4 => ?_, S.ln.wiped, fun i d e => by
    rcases wipeE_in e with ⟨hi, e⟩ | e
    · rw [wipe_out hi]; exact S.bo i d e
    · exact (nomatch e), S.st.sub fun i a d e => by
    rcases wipeE_in e with ⟨_, e⟩ | e
    · exact e
    · cases e⟩
  · rcases wipeE_in e with ⟨hi, e⟩ | e
    · rw [wipe_out hi]; exact S.fr i d e
    · cases e
  · rcases wipeE_in e with ⟨hi, e⟩ | e
    · rw [wipe_out hi]; exact S.ow i d e
    · cases e
  · rcases wipeE_in q1 with ⟨hi, e1⟩ | e1
    · rcases wipeE_in q2 with ⟨hj, e2⟩ | e2
      · rw [wipe_out hi] at q3
        rw [wipe_out hj] at q4
        exact S.ds i j d e a e1 e2 q3 q4
      · cases e2
    · cases e1
theorem Sta.mix (S : Sta K G0 H0 ρ G H σ) (T : Sta K G0 H0 ρe G1 H1 (wipe σ vs)) (f : FE G H G1 H1) : Sta K G0 H0 (mixE vs 0 ρ ρe) G1 H1 σ := by
  have key : ∀ {i : Nat} {c : Cell}, (mixE vs 0 ρ ρe)[i]? = some c → (i ∈ vs ∧ ∃ c', ρ[i]? = some c' ∧ c = keepC c') ∨ ((i ∉ vs ∨ ρ[i]? = none) ∧ ρe[i]? = some c) := fun {i c} e => by
    rcases mixE_get _ _ _ _ e with ⟨c', d, q, q2, z⟩ | ⟨q, q2⟩
    · rw [Nat.zero_add] at z
      by_cases hi : i ∈ vs
      · rw [if_pos (List.contains_iff_mem.mpr hi)] at z
        exact .inl ⟨hi, c', q, z⟩
      · rw [if_neg (fun z => hi (List.contains_iff_mem.mp z))] at z
        exact .inr ⟨.inl hi, by rw [q2, z]⟩
    · exact .inr ⟨.inr q, q2⟩
  have out : ∀ {i : Nat}, (i ∉ vs ∨ ρ[i]? = none) → (wipe σ vs)[i]? = σ[i]? := fun {i} h => by
    rcases h with h | h
    · exact wipe_out h
    · have hi : σ.length ≤ i := Nat.le_trans S.ln.1 (List.getElem?_eq_none_iff.mp h)
      rw [List.getElem?_eq_none (by rw [wipe_length]; exact hi), List.getElem?_eq_none hi]
  have LN : LnE (mixE vs 0 ρ ρe) σ := by
    have h1 := T.ln.1
    have h2 := S.ln.1
    rw [wipe_length] at h1
    refine ⟨?_, fun i a d e => ?_⟩
    · rw [mixE_len]; exact h1
    · rcases key e with ⟨hi, c', e1, e2⟩ | ⟨hi, e1⟩
      · cases c' <;> cases e2
      · have z := T.ln.2 i a d e1
        rwa [wipe_length] at z
  refine ⟨T.wd, T.ex, T.w0, fun i d e => ?_, fun i d e => ?_, fun i j d e a q1 q2 q3 q4 => ?_, LN, fun i d e => by
    rcases key e with ⟨hi, c', e1, e2⟩ | ⟨hi, e1⟩
    · cases c' <;> cases e2
    · obtain ⟨v, e3, r⟩ := T.bo i d e1
      rw [out hi] at e3
      exact ⟨v, e3, r⟩, T.st.sub fun i a d e => by
    rcases key e with ⟨hi, c', e1, e2⟩ | ⟨hi, e1⟩
    · cases c' <;> cases e2
    · exact e1⟩
  · rcases key e with ⟨hi, c', e1, e2⟩ | ⟨hi, e1⟩
    · cases c' <;> cases e2
      obtain ⟨v, e3, r⟩ := S.fr i _ e1
      exact ⟨v, e3, r.fe f⟩
    · obtain ⟨v, e3, r⟩ := T.fr i d e1
      rw [out hi] at e3
      exact ⟨v, e3, r⟩
  · rcases key e with ⟨hi, c', e1, e2⟩ | ⟨hi, e1⟩
    · cases c' <;> cases e2
    · obtain ⟨v, e3, r⟩ := T.ow i d e1
      rw [out hi] at e3
      exact ⟨v, e3, r⟩
  · rcases key q1 with ⟨hi, c', e1, e2⟩ | ⟨hi, e1⟩
    · cases c' <;> cases e2
    · rcases key q2 with ⟨hj, c', e2, e3⟩ | ⟨hj, e2⟩
      · cases c' <;> cases e3
      · refine T.ds i j d e a e1 e2 ?_ ?_
        · rw [out hi]; exact q3
        · rw [out hj]; exact q4
theorem LeE.mix (L : LeE ρe (wipeE vs 0 ρ)) : LeE (mixE vs 0 ρ ρe) ρ := by
  refine ⟨trivial, fun i c e => ?_⟩
  rcases mixE_get _ _ _ _ e with ⟨c', d, q, q2, z⟩ | ⟨q, q2⟩
  · rw [Nat.zero_add] at z
    by_cases hi : i ∈ vs
    · rw [if_pos (List.contains_iff_mem.mpr hi)] at z
      cases c' with
      | fr d' => exact .inr (.inl (by rw [z, q]; rfl))
      | _ => exact .inl z
    · rw [if_neg (fun z => hi (List.contains_iff_mem.mp z))] at z
      subst z
      have back : ∀ {c2 : Cell}, (wipeE vs 0 ρ)[i]? = some c2 → some c' = some c2 := fun {c2} z => by
        rw [wipeE_get, q] at z
        simp only [Option.map_some, Nat.zero_add] at z
        rwa [if_neg (fun z => hi (List.contains_iff_mem.mp z))] at z
      rcases L.le i c q2 with e2 | e2 | ⟨d', e2, e3⟩ | e2
      · exact .inl e2
      · exact .inr (.inl (by rw [q]; exact back e2))
      · exact .inr (.inr (.inl ⟨d', by rw [q]; exact back e2, e3⟩))
      · exact .inr (.inr (.inr e2))
  · rcases L.le i c q2 with e2 | e2 | ⟨d', e2, e3⟩ | e2
    · exact .inl e2
    · rw [wipeE_get, q] at e2; cases e2
    · rw [wipeE_get, q] at e2; cases e2
    · exact .inr (.inr (.inr e2))
theorem Stp.tr {ρ1 : En} {σ1 : L2.St} (x : Stp ρ σ G H G1 H1) (w1 : Wd G1 H1) (y : Stp ρ1 σ1 G1 H1 G2 H2) (l : ∀ a, OwnA ρ1 σ1 a → OwnA ρ σ a) : Stp ρ σ G H G2 H2 := by
  refine ⟨fun a h => y.f a (x.f a h), fun a h => y.b a (x.b a h), fun a o e hb => y.k a o (x.k a o e hb) fun h1 => ?_, fun a h => ?_, fun a h => ?_, fun a h => ?_⟩
  · rcases x.nb a h1 with h1 | h1
    · exact hb h1
    · rw [h1] at e; cases e
  · rcases y.nf a h with h | h | h
    · exact x.nf a h
    · exact .inr (.inl (x.nn w1 h))
    · exact .inr (.inr (l a h))
  · rcases y.nb a h with h | h
    · exact x.nb a h
    · exact .inr (x.nn w1 h)
  · rcases y.nm a h with h | h
    · exact x.nm a h
    · exact .inr (x.nn w1 h)
/-- an object that no variable holds is written -/
theorem Sta.wrP {xs : List V} {o : HO} (S : Sta K G0 H0 ρ G H σ) (hl : H p = some (.lst xs)) (hf : ¬ G.F p) (hb : ¬ G.B p) (h0 : H0 p = none) (hn : ¬ OwnA ρ σ p) : Sta K G0 H0 ρ G (upd H p o) σ := by
  have f : FE G H G (upd H p o) := FE.wr hl hf
  refine ⟨S.wd.wr (xs := xs) hf hb (by rw [hl]; nofun), ⟨S.ex.f, S.ex.b, fun b o' z zb => ?_, S.ex.nf, S.ex.nb, S.ex.nm⟩, S.w0, fun j c q => ?_, fun j c q => ?_, S.ds, S.ln, S.bo, S.st.fe f fun b z => ⟨z, fun o' e => (upd_ne (show b ≠ p from fun q => hb (q ▸ (S.wd.m b z).1))).trans e⟩⟩
  · rw [upd_ne (fun q => by rw [q, h0] at z; cases z)]
    exact S.ex.k b o' z zb
  · obtain ⟨v, e1, r⟩ := S.fr j c q
    exact ⟨v, e1, r.fe f⟩
  · obtain ⟨b, e1, ⟨p1, p2, p3⟩, z1⟩ := S.ow j c q
    have hbp : b ≠ p := fun z => hn ⟨j, c, q, z ▸ e1⟩
    exact ⟨b, e1, ⟨p1, p2, p3.fe f fun o' z => by rw [upd_ne hbp]; exact z⟩, z1⟩
end

/-! ### the comprehension -/
def lcD (W : WTg) (wt : WT) (we : WE) (vs : List Nat) (Φ : List D → En → Prop) : List D → List D → En → Prop
  | [], acc, ρ => Φ acc ρ
  | d :: ds, acc, ρ => W d ρ fun ρ1 => wt ρ1 fun b ρ2 => if b = true then we ρ2 fun r ρ3 => match r with
      | .fr y => acc.length < sizeLine ∧ lcD W wt we vs Φ ds (acc ++ [y]) (wipeE vs 0 ρ3)
      | _ => False
    else lcD W wt we vs Φ ds acc (wipeE vs 0 ρ2)
def wLc (wi : WI) (W : WTg) (wt : WT) (we : WE) (vs : List Nat) : WE := fun ρ Φ => wi ρ fun ds ρ1 => lcD W wt we vs (fun out ρe => Φ (.ow (.lst out)) (mixE vs 0 ρ1 ρe)) ds [] (wipeE vs 0 ρ1)
section
variable {X : Cx} {G0 : Gh} {H0 : Hp} {K : PySem.W.Frag} {σ : L2.St} {H : Hp} {wi : WI} {W : WTg} {wt : WT} {we : WE} {vs : List Nat}
/-- a list that is being made -/
structure Mk (K : PySem.W.Frag) (p : Addr) (acc : List D) (G : Gh) (H : Hp) (xs : List V) : Prop where
  at_ : H p = some (.lst xs)
  r : RepL K G H acc xs
  f : ¬ G.F p
  b : ¬ G.B p
theorem Mk.stp {p : Addr} {acc : List D} {xs : List V} {G G' : Gh} {H' : Hp} {ρ : En} (m : Mk K p acc G H xs) (w : Wd G H) (P : Stp ρ σ G H G' H') (hn : ¬ OwnA ρ σ p) : Mk K p acc G' H' xs := by
  refine ⟨P.k _ _ m.at_ m.b, m.r.fe (P.fe w), fun z => ?_, fun z => ?_⟩
  · rcases P.nf p z with z | z | z
    · exact m.f z
    · rw [m.at_] at z; cases z
    · exact hn z
  · rcases P.nb p z with z | z
    · exact m.b z
    · rw [m.at_] at z; cases z
theorem tlc_of {Q : VK} (h : TX K G0 H0 (wLc wi W wt we vs) σ H Q) : tLc (TIX K G0 H0 wi) (TGX K G0 H0 vs W) (TTX K G0 H0 wt) (TX K G0 H0 we) vs σ H Q := by
  obtain ⟨ρ, G, Φ, S, h, c⟩ := h
  refine ⟨ρ, G, _, S, h, fun ds ρ1 J G1 H1 q s1 P L it p hp => ?_⟩
  have hown : ¬ OwnA ρ1 σ p := fun z => by
    obtain ⟨o, e⟩ := s1.tracked z
    rw [hp] at e; cases e
  have g0 : Grow G1 H1 G1 (upd H1 p (.lst [])) := Grow.laid hp
  have s2 := s1.grow (s1.wd.laid (o := .lst []) hp) g0
  have m0 : Mk K p [] G1 (upd H1 p (.lst [])) [] := by
    refine ⟨upd_same, .nil, fun z => ?_, fun z => ?_⟩
    · obtain ⟨o, e⟩ := s1.wd.f p z
      rw [hp] at e; cases e
    · obtain ⟨ys, e⟩ := s1.wd.btr z
      rw [hp] at e; cases e
  have h0 : H0 p = none := s1.none0 hp
  refine ⟨fun i m H' => m = ds.length - i ∧ i ≤ ds.length ∧ ∃ ρ' G' acc xs, Sta K G0 H0 ρ' G' H' (wipe σ vs) ∧ Stp (wipeE vs 0 ρ1) (wipe σ vs) G1 H1 G' H' ∧ LeE ρ' (wipeE vs 0 ρ1) ∧ Mk K p acc G' H' xs ∧
    lcD W wt we vs (fun out ρe => Φ (.ow (.lst out)) (mixE vs 0 ρ1 ρe)) (ds.drop i) acc ρ', ⟨ds.length, by omega, Nat.zero_le _, wipeE vs 0 ρ1, G1, [], [], s2.wiped, g0.stp, LeE.refl _, m0, q⟩, ?_⟩
  rintro i m H' ⟨rfl, hi, ρ', G', acc, xs, s', P', L', mk, q'⟩
  obtain ⟨it1, it2⟩ := it i G' H' s'.wd (P'.fe s1.wd)
  have own' : ∀ a, OwnA ρ' (wipe σ vs) a → OwnA (wipeE vs 0 ρ1) (wipe σ vs) a := fun a z => L'.own z
  by_cases hlt : i < ds.length
  · obtain ⟨d, ed⟩ : ∃ d, ds[i]? = some d := ⟨ds[i], by simp [hlt]⟩
    obtain ⟨go, yl⟩ := it2 d ed
    have e2 : ds.drop i = d :: ds.drop (i + 1) := by
      rw [List.drop_eq_getElem_cons hlt]
      have : ds[i] = d := by simpa [hlt] using ed
      rw [this]
    rw [e2] at q'
    refine .inr ⟨go, fun H2 => i + 1 ≤ ds.length ∧ ∃ ρ2 G2 acc2 xs2, Sta K G0 H0 ρ2 G2 H2 (wipe σ vs) ∧ Stp (wipeE vs 0 ρ1) (wipe σ vs) G1 H1 G2 H2 ∧ LeE ρ2 (wipeE vs 0 ρ1) ∧ Mk K p acc2 G2 H2 xs2 ∧
      lcD W wt we vs (fun out ρe => Φ (.ow (.lst out)) (mixE vs 0 ρ1 ρe)) (ds.drop (i + 1)) acc2 ρ2, fun H2 z => ⟨ds.length - (i + 1), by omega, rfl, z⟩, fun x H2 y => ?_⟩
    obtain ⟨G2, w2, g2, r2⟩ := yl x H2 y
    have P2 : Stp (wipeE vs 0 ρ1) (wipe σ vs) G1 H1 G2 H2 := P'.trans s'.wd g2.stp (LeE.refl _)
    have nop : ¬ OwnA ρ' (wipe σ vs) p := fun z => hown (own' p z).wiped
    have mk2 : Mk K p acc G2 H2 xs := mk.stp s'.wd (ρ := ρ') (σ := wipe σ vs) g2.stp nop
    refine ⟨ρ', G2, d, _, s'.grow w2 g2, r2, q', fun ρ3 σ3 q3 s3 tr => ⟨tr.w.trans wipe_idem, ρ3, G2, _, s3, q3, fun b ρ4 G4 H4 q4 s4 P4 L4 => ?_⟩⟩
    have own3 : ∀ a, OwnA ρ3 σ3 a → OwnA (wipeE vs 0 ρ1) (wipe σ vs) a := fun a z => own' a (tr.o a z)
    have nop3 : ¬ OwnA ρ3 σ3 p := fun z => hown (own3 p z).wiped
    have mk4 := mk2.stp s3.wd P4 nop3
    have P14 := P2.tr s3.wd P4 own3
    have le3 : LeE (wipeE vs 0 ρ3) (wipeE vs 0 ρ1) := by
      have z := L'.wipe (vs := vs)
      rw [wipeE_idem] at z
      rw [tr.e]; exact z
    have w3 : wipe σ3 vs = wipe σ vs := tr.w.trans wipe_idem
    cases b with
    | false =>
      refine iteF ⟨hlt, wipeE vs 0 ρ4, G4, acc, xs, ?_, P14, (L4.wipe).trans le3, mk4, by simpa using q4⟩
      have z := s4.wiped (vs := vs)
      rw [w3] at z
      exact z
    | true =>
      refine iteT ⟨ρ4, G4, _, s4, by simpa using q4, fun r ρ5 y5 G5 H5 q5 s5 P5 L5 x5 => ?_⟩
      have nop4 : ¬ OwnA ρ4 σ3 p := fun z => nop3 (L4.own z)
      have nop5 : ¬ OwnA ρ5 σ3 p := fun z => nop4 (L5.own z)
      have mk5 := mk4.stp s4.wd P5 nop4
      have P15 := P14.tr s4.wd P5 fun a z => own3 a (L4.own z)
      cases r with
      | fr yd =>
        have x5' : Rep K G5 H5 yd y5 := x5
        have hlen : xs.length < sizeLine := by rw [← mk5.r.length]; exact q5.1
        refine ⟨xs, mk5.at_, hlen, hlt, wipeE vs 0 ρ5, G5, acc ++ [yd], xs ++ [y5], ?_, ?_, (L5.wipe).trans ((L4.wipe).trans le3), ?_, q5.2⟩
        · have z := (s5.wrP (o := .lst (xs ++ [y5])) mk5.at_ mk5.f mk5.b h0 nop5).wiped (vs := vs)
          rw [w3] at z
          exact z
        · exact ⟨P15.f, P15.b, fun a o e hb => by rw [upd_ne (fun z => by rw [z, hp] at e; cases e)]; exact P15.k a o e hb, P15.nf, P15.nb, P15.nm⟩
        · have f : FE G5 H5 G5 (upd H5 p (.lst (xs ++ [y5]))) := FE.wr mk5.at_ mk5.f
          exact ⟨upd_same, (mk5.r.append (.cons x5' .nil)).fe f, mk5.f, mk5.b⟩
      | ow yd => exact q5.elim
      | bo yd => exact q5.elim
  · have e : i = ds.length := by omega
    subst e
    rw [List.drop_length] at q'
    refine .inl ⟨it1 (Nat.le_refl _), ?_⟩
    have P1' : Stp ρ1 σ G1 H1 G' H' := ⟨P'.f, P'.b, P'.k, fun a z => (P'.nf a z).elim .inl fun z => .inr (z.elim .inl fun z => .inr z.wiped), P'.nb, P'.nm⟩
    exact c _ _ _ G' H' q' (s1.mix s' (P'.fe s1.wd)) (P.trans s1.wd P1' L) ((L'.mix).trans L) ⟨p, rfl, ⟨mk.f, mk.b, xs, mk.at_, mk.r⟩, P.nn s1.wd hp⟩
def PTsI (X : Cx) (G0 : Gh) (H0 : Hp) (ifs : List Expr) (W : WT) : Prop := PTs X ifs (TTX X.K G0 H0 W)
def tYes' : WT := fun ρ Φ => Φ true ρ
theorem ts_nil : PTsI X G0 H0 [] tYes' := ⟨fun pins s σ H Q I h => pts_nil.run pins s σ H Q I (ttx_done (k := true) h)⟩
theorem ts_one {c : Expr} (h : PTI X G0 H0 c wt) : PTsI X G0 H0 [c] wt := pts_one h
variable {elt tg iter : Expr} {ifs : List Expr} {scope : Scope} {own : List (Str × Nat)} {pos : Pos}
theorem i_lc (hc : X.calm = true) (hN : X.N.Nodup) (hi : PII X G0 H0 tg iter wi) (ok : BlkOk X.N X.env.scope scope own)
    (hg : ∀ (s : Shared) (H : Hp) (C : Addr) (cl : List (Str × Addr)) (fp : List Addr), PGI (X.blk s H scope (compEnvC scope cl C X.env) fp) G0 H0 (own.map (·.2)) tg W) (ht : ∀ (s : Shared) (H : Hp) (C : Addr) (cl : List (Str × Addr)) (fp : List Addr), PTsI (X.blk s H scope (compEnvC scope cl C X.env) fp) G0 H0 ifs wt)
    (he : ∀ (s : Shared) (H : Hp) (C : Addr) (cl : List (Str × Addr)) (fp : List Addr), PEI (X.blk s H scope (compEnvC scope cl C X.env) fp) G0 H0 elt we) (hs : ∀ x, foldedSetIterable iter X.env x = pure x := by intro _; rfl) :
    PEI X G0 H0 (.ListComp elt [⟨tg, iter, ifs, 0⟩] scope pos) (wLc wi W wt we (own.map (·.2))) :=
  pe_imp (pe_lc (g := TGX X.K G0 H0 (own.map fun p : Str × Nat => p.2) W) (tt := TTX X.K G0 H0 wt) (te := TX X.K G0 H0 we) hc hN hi ok hg ht he hs) fun σ H Q h => tlc_of h
end
end Tv
/-! Tv7: defs, calls, the law's own end. -/
namespace Tv
open PySem PySem.Spec PyProof.Rows L2
variable [LamT]

/-! ### the store, out of sight of a def that is not handed it -/
def Gh.noM (G : Gh) : Gh := ⟨G.F, fun a => G.B a ∧ ¬ G.M a, G.A, fun _ => False⟩
def Gh.reM (G' G : Gh) : Gh := ⟨G'.F, fun a => G'.B a ∨ G.M a, G'.A, fun a => G'.M a ∨ G.M a⟩
section
variable {K : PySem.W.Frag} {G G' : Gh} {H H' : Hp} {r : R} {v : V} {ρ : En}
theorem FE.noM : FE G H G.noM H := ⟨fun _ h => h, fun _ h n => ⟨⟨h, n⟩, id⟩, fun _ _ _ e => e, fun _ _ e => e, fun _ _ _ e _ => e⟩
theorem StH.none_ (h : ∀ (i : Nat) a d, ρ[i]? ≠ some (.st a d)) : StH K G H ρ := ⟨fun i a d q => (h i a d q).elim, fun i _ a d _ q _ => (h i a d q).elim⟩
theorem Wd.noM (w : Wd G H) : Wd G.noM H := by
  refine ⟨fun a ⟨h, n⟩ => ⟨?_, (w.b a h).2⟩, w.f, fun p hp => ⟨⟨(w.t p hp).1, fun z => ?_⟩, (w.t p hp).2.on (fun _ e => e) fun c o e _ n hco => ⟨e, fun z => n z.1⟩⟩, fun _ h => h.elim⟩
  · rcases (w.b a h).1 with (z | z) | ⟨i, j, k, r, ns, e, l, q⟩
    · exact .inl (.inl z)
    · exact (n z).elim
    · exact .inr ⟨i, j, k, r, ns, e, l, q⟩
  · obtain ⟨o, e, y⟩ := (w.m _ z).2
    obtain ⟨ps, e2, _⟩ := (w.t p hp).2
    rw [e] at e2; cases e2; cases y.1
section
variable (w : Wd G H) (g : GrW G.noM H G' H')
include w g
theorem GrW.keepM {a : Addr} {o : HO} (h : G.M a) (e : H a = some o) : H' a = some o := g.k a o e fun z => z.2 h
theorem GrW.nF {a : Addr} (h : G.M a) : ¬ G'.F a := fun z => by
  rcases g.nf a z with z | z
  · exact (w.b a (w.m a h).1).2 z
  · obtain ⟨o, e⟩ := w.mtr h
    rw [z] at e; cases e
theorem GrW.nBm {a : Addr} (h : G.M a) : ¬ G'.B a := fun z => by
  rcases g.nb a z with z | z
  · exact z.2 h
  · obtain ⟨o, e⟩ := w.mtr h
    rw [z] at e; cases e
theorem GrW.reF : FE G' H' (G'.reM G) H' := ⟨fun _ h => h, fun a h n => ⟨.inl h, fun z => z.elim n fun y => g.nBm w y h⟩, fun _ _ _ e => e, fun _ _ e => e, fun _ _ _ e _ => e⟩
theorem GrW.reG : Grow G H (G'.reM G) H' := by
  refine ⟨g.f, fun a h => ?_, fun a o e hb => g.k a o e fun z => hb z.1, g.nf, fun a h => ?_, fun a h => ⟨.inr h, fun o e => g.keepM w h e⟩, fun a h => ?_⟩
  · by_cases n : G.M a
    · exact .inr n
    · exact .inl (g.b a ⟨h, n⟩)
  · rcases h with h | h
    · exact (g.nb a h).elim (fun z => .inl z.1) .inr
    · exact .inl (w.m a h).1
  · rcases h with h | h
    · exact (g.nm a h).elim (fun z => z.elim) .inr
    · exact .inl h
theorem GrW.reW (w' : Wd G' H') : Wd (G'.reM G) H' := by
  refine ⟨fun a h => ?_, w'.f, fun p hp => ⟨.inl (w'.t p hp).1, (w'.t p hp).2.on (fun _ e => e) fun c o e ⟨φ, q⟩ n hco => ⟨e, fun z => z.elim n fun y => ?_⟩⟩, fun a h => ?_⟩
  · rcases h with h | h
    · obtain ⟨u, n⟩ := w'.b a h
      exact ⟨u.imp (fun z => z.imp id .inl) fun ⟨i, j, k, r, ns, e, l, q⟩ => ⟨i, j, k, r, ns, e, l, q⟩, n⟩
    · exact ⟨.inl (.inr (.inr h)), g.nF w h⟩
  · obtain ⟨o', e', y'⟩ := (w.m c y).2
    have e2 := g.keepM w y e'
    rw [e] at e2
    cases e2
    obtain ⟨q', hq⟩ := hco
    exact y'.2 c q' hq
  · rcases h with h | h
    · exact ⟨.inl (w'.m a h).1, (w'.m a h).2⟩
    · obtain ⟨o, e, y⟩ := (w.m a h).2
      exact ⟨.inr h, o, g.keepM w h e, y⟩
theorem GrW.reR (ok : r.ok) (x : RepR K G' H' H r v) : RepR K (G'.reM G) H' H r v := by
  cases r with
  | fr d => exact Rep.fe (g.reF w) x
  | ow d =>
    obtain ⟨a, ea, ⟨o1, o2, o3⟩, n⟩ := x
    refine ⟨a, ea, ⟨o1, fun z => z.elim o2 fun y => ?_, o3.fe (g.reF w) fun _ e => e⟩, n⟩
    obtain ⟨o, e⟩ := w.mtr y
    rw [n] at e; cases e
  | bo d => exact ok.elim
end
end

abbrev WF := List D → (R → Prop) → Prop
def spG (K : PySem.W.Frag) (w : WF) (vs : List V) (H : Hp) (Q : VK) : Prop :=
  ∃ G ds Φ, Wd G H ∧ RepL K G H ds vs ∧ w ds Φ ∧ ∀ r v G' H', Φ r → Wd G' H' → Grow G H G' H' → RepR K G' H' H r v → Q v H'
/-- the def at f does what w says, k calls deep at most; no repr is under way around it -/
def FnG (P : Program) (w : World) (K : PySem.W.Frag) (mg : Str → Option Value) (base : Heap) (k : Nat) (f : Addr) (wf : WF) : Prop :=
  ∀ (A : Around) (outer : List Env) (s : Shared) (H : Hp) (us : List Value) (vs : List V) (Q : VK), Room k A → A.guards = some [] → Env0 P w K mg base A outer s H → Vals vs us → spG K wf vs H Q →
    codeAny (model P w) A (.call (.ref f) ⟨us, []⟩) (CR CX0 outer P w H s Q E0) s
section
variable {P : Program} {w : World} {K : PySem.W.Frag} {mg : Str → Option Value} {base : Heap} {j k : Nat} {f : Addr} {wf wf' : WF}
theorem FnG.mono (F : FnG P w K mg base j f wf) (h : j ≤ k) : FnG P w K mg base k f wf := fun A outer s H us vs Q hr => F A outer s H us vs Q (hr.mono h)
theorem FnG.imp (F : FnG P w K mg base k f wf) (h : ∀ ds Φ, wf' ds Φ → wf ds Φ) : FnG P w K mg base k f wf' := fun A outer s H us vs Q hr hg e0 r ⟨G, ds, Φ, wd, rp, hw, kk⟩ =>
  F A outer s H us vs Q hr hg e0 r ⟨G, ds, Φ, wd, rp, h ds Φ hw, kk⟩
/-- a def of the text by its body: n parameters, m further names -/
def wDef (n m : Nat) (b : WS) : WF := fun ds Φ => ds.length = n ∧ b (ds.map Cell.fr ++ List.replicate m .no) ⟨fun _ => Φ (.fr .non), fun r _ => Φ r, fun _ => False, fun _ => False⟩
theorem sta_start {G : Gh} {H : Hp} {ds : List D} {vs : List V} {N : List Str} {n m : Nat} (wd : Wd G H) (r : RepL K G H ds vs) (hl : ds.length = n) (hN : N.length = n + m) :
    Sta K G H (ds.map Cell.fr ++ List.replicate m .no) G H (L2.start N vs) := by
  have hlv := r.length
  have get : ∀ {i : Nat} {c : Cell}, (ds.map Cell.fr ++ List.replicate m .no)[i]? = some c → (∃ d, ds[i]? = some d ∧ c = .fr d) ∨ c = .no := fun {i c} e => by
    by_cases hi : i < ds.length
    · rw [List.getElem?_append_left (by simpa using hi), List.getElem?_map] at e
      cases q : ds[i]? with
      | none => rw [q] at e; cases e
      | some d => rw [q] at e; cases e; exact .inl ⟨d, rfl, rfl⟩
    · rw [List.getElem?_append_right (by simpa using hi), List.getElem?_replicate] at e
      split at e
      · cases e; exact .inr rfl
      · cases e
  have nst : ∀ (i : Nat) a d, (ds.map Cell.fr ++ List.replicate m .no)[i]? ≠ some (.st a d) := fun i a d e => by
    rcases get e with ⟨d', e1, e2⟩ | e1
    · cases e2
    · cases e1
  refine ⟨wd, GrW.refl _ _, wd, fun i d e => ?_, fun i d e => ?_, fun i _ d _ _ e => ?_, ⟨?_, fun i a d e => (nst i a d e).elim⟩, fun i d e => by
    rcases get e with ⟨d', e1, e2⟩ | e1
    · cases e2
    · exact (nomatch e1), .none_ nst⟩
  · rcases get e with ⟨d', e1, e2⟩ | e1
    · cases e2
      obtain ⟨v, e3, rv⟩ := r.get e1
      refine ⟨v, ?_, rv⟩
      unfold L2.start
      have hi : i < vs.length := (List.getElem?_eq_some_iff.mp e3).1
      rw [List.getElem?_append_left (by simpa using hi), List.getElem?_map, e3]
      rfl
    · cases e1
  · rcases get e with ⟨d', e1, e2⟩ | e1
    · cases e2
    · cases e1
  · rcases get e with ⟨d', e1, e2⟩ | e1
    · cases e2
    · cases e1
  · unfold L2.start
    simp only [List.length_append, List.length_map, List.length_replicate]
    omega
theorem fnG_of {x qual : Str} {st : Stmt} {fd : FuncData} {N ps : List Str} {n m : Nat} {b : WS} (F : Fun K x qual st f fd) (S : FnScope N ps (defScope st)) (hb : Binds K fd ps []) (hn : ps.length = n) (hN : N.length = n + m)
    (hbody : ∀ (cdv : Value) (A : Around) (outer : List Env) (s : Shared) (H : Hp) (G : Gh), Room k (A.deeper (envOfC qual (defScope st) s.heap.objs.size f cdv)) → A.guards = some [] →
      PBI (cxOf CX0 P w K mg base N qual (defScope st) f cdv A outer s H E0).nox G H (defBody st) b) : FnG P w K mg base (k + 1) f (wDef n m b) := by
  intro A outer s H us vs Q hr hg e0 r hsp
  obtain ⟨G, ds, Φ, wd, rp, ⟨hl, hw⟩, kk⟩ := hsp
  obtain ⟨oc, od, kV, doc, pm, an, cdv, ct, osl, e, lk, hcd⟩ := F.ex
  have hus : us.length = ps.length := by rw [← r.length, ← rp.length, hl, hn]
  have kin := e0.mod.kin.keeps fun b o z => (e0.bs b o z).1
  have bt := hb s us kin (by rw [List.append_nil]; exact hus)
  rw [List.append_nil] at bt
  subst e
  refine StX.run_bnd (G := fun vs' H' => vs' = vs ∧ H' = H ∧ True) lk hcd S hr e0 (fun A' Ex Q' h => bt _ _ _ _ (h s H vs us e0 Un.refl rfl (fun _ _ z => z) r (by rw [r.length, hus]) ⟨rfl, rfl, trivial⟩)) fun s2 H2 vs2 g hr2 => ?_
  obtain ⟨rfl, rfl, _⟩ := g
  refine ⟨_, (hbody cdv A outer s2 H2 G.noM hr2 hg).nox, _, G.noM, _, sta_start wd.noM (rp.fe FE.noM) hl (hN := hN), hw, ?_⟩
  exact ⟨fun ρ' G' H' σ' q st _ => kk _ _ _ H' q (st.ex.reW wd st.wd) (st.ex.reG wd) .non, fun r' v' ρ' G' H' q ok w' g' x' _ => kk r' v' _ H' q (g'.reW wd w') (g'.reG wd) (g'.reR wd ok x'), fun _ _ _ _ q => q.elim, fun _ _ _ _ q => q.elim⟩
end

/-! ### calls -/
section
variable {X : Cx} {G0 : Gh} {H0 : Hp} {e : Expr} {es : List Expr} {ws : WA} {pos p : Pos} {k : Nat} {f : Addr} {wf : WF} {x : Str} {K : PySem.W.Frag} {σ : L2.St} {H : Hp}
theorem run_fnG {pins : List (Addr × Obj)} {s : Shared} {Q : VK} {us : List Value} {vs : List V} (F : FnG X.prog X.w X.K X.mg X.base k f wf) (hr : Room k X.A) (hg : X.A.guards = some []) (I : Inv X pins σ H s) (r : Vals vs us) (h : spG X.K wf vs H Q) :
    wpAny (model X.prog X.w) X.A (call (.ref f) us) (EP X pins σ Q) X.xe s := by
  refine wpAny_call (codeAny_mono (F X.A X.stack s H us vs Q hr hg I.env0 r h) fun res s' hq => ?_)
  match res, hq with
  | .error _, hq => exact hq.elim
  | .ok (.ret u), hq => exact I.after hq
  | .ok .next, hq => exact hq.elim
  | .ok .brk, hq => exact hq.elim
  | .ok .cont, hq => exact hq.elim
/-- f(..), all arguments frozen -/
def wCall (wf : WF) (ws : WA) : WE := fun ρ Φ => ws ρ fun rs ρ' => match frs' rs with
  | some ds => wf ds fun r => Φ r ρ'
  | none => False
theorem tx_call {Q : VK} (h : TX K G0 H0 (wCall wf ws) σ H Q) : TAX K G0 H0 ws σ H fun vs H1 => spG K wf vs H1 Q := by
  obtain ⟨ρ, G, Φ, S, h, c⟩ := h
  refine ⟨ρ, G, _, S, h, fun rs ρ' vs G' H' q S' P L x => ?_⟩
  split at q
  · rename_i ds e
    exact ⟨G', ds, _, S'.wd, frs_rep x e, q, fun r v G2 H2 φ w2 g2 x2 => c r ρ' v G2 H2 φ (S'.grow w2 g2) (P.trans S'.wd g2.stp L) L (x2.back fun a z => P.nn S'.wd z)⟩
  · exact q.elim
theorem i_call (F : FnG X.prog X.w X.K X.mg X.base k f wf) (hr : Room k X.A) (hg : X.A.guards = some []) (hgl : Gl X x) (hm : X.mg x = some (.ref f)) (hk : PySem.W.keepIn X.K (.ref f) = true) (ha : PAI X G0 H0 (e :: es) ws)
    (hdb : (x == ("__debug__" : Str)) = false := by decide) (he : starEach (e :: es) X.env = (false, eval e X.env) :: starEach es X.env := by rfl) (hpl : (backTo pos (starEach es X.env)).any (·.1) = false := by rfl) :
    PEI X G0 H0 (.Call (.Name x p) (e :: es) [] pos) (wCall wf ws) := by
  refine ⟨fun pins s σ H Q I h => wpAny_Call_Name_kw (ld_glob I hgl hm ?_ hdb)⟩
  exact PySem.W.callWith_K (h₀ := X.base) I.ok.mod.kin hk (thn (ha.run pos pins s σ H _ I (tx_call h)) fun us s1 ⟨vs, H1, I1, r, q⟩ => ⟨I1.kIn, run_fnG F hr hg I1 r q⟩) he hpl
theorem i_call0 (F : FnG X.prog X.w X.K X.mg X.base k f wf) (hr : Room k X.A) (hg : X.A.guards = some []) (hgl : Gl X x) (hm : X.mg x = some (.ref f)) (hk : PySem.W.keepIn X.K (.ref f) = true)
    (hdb : (x == ("__debug__" : Str)) = false := by decide) : PEI X G0 H0 (.Call (.Name x p) [] [] pos) (wCall wf wNil) := by
  refine ⟨fun pins s σ H Q I h => wpAny_Call_Name_kw (ld_glob I hgl hm (PySem.W.callWith_K0 I.kIn hk (run_fnG F hr hg I .nil ?_)) hdb)⟩
  obtain ⟨ρ, G, Φ, S, h, c⟩ := tx_call h
  exact c [] ρ [] G H h S Stp.refl (LeE.refl _) .nil
end

/-! ### defs that only look at what they are handed -/
def ShL (K : PySem.W.Frag) (G : Gh) (H : Hp) (ds : List D) (vs : List V) : Prop := ds.length = vs.length ∧ ∀ (i : Nat) d v, ds[i]? = some d → vs[i]? = some v → Sh K G H d v
def spB (K : PySem.W.Frag) (w : WF) (vs : List V) (H : Hp) (Q : VK) : Prop :=
  ∃ G ds Φ, Wd G H ∧ ShL K G H ds vs ∧ w ds Φ ∧ ∀ r v G' H', Φ r → Wd G' H' → Grow G H G' H' → RepR K G' H' H r v → Q v H'
def FnB (P : Program) (w : World) (K : PySem.W.Frag) (mg : Str → Option Value) (base : Heap) (k : Nat) (f : Addr) (wf : WF) : Prop :=
  ∀ (A : Around) (outer : List Env) (s : Shared) (H : Hp) (us : List Value) (vs : List V) (Q : VK), Room k A → A.guards = some [] → Env0 P w K mg base A outer s H → Vals vs us → spB K wf vs H Q →
    codeAny (model P w) A (.call (.ref f) ⟨us, []⟩) (CR CX0 outer P w H s Q E0) s
def wDefB (n m : Nat) (b : WS) : WF := fun ds Φ => ds.length = n ∧ b (ds.map Cell.bo ++ List.replicate m .no) ⟨fun _ => Φ (.fr .non), fun r _ => Φ r, fun _ => False, fun _ => False⟩
section
variable {P : Program} {w : World} {K : PySem.W.Frag} {mg : Str → Option Value} {base : Heap} {j k : Nat} {f : Addr} {wf wf' : WF}
theorem FnB.mono (F : FnB P w K mg base j f wf) (h : j ≤ k) : FnB P w K mg base k f wf := fun A outer s H us vs Q hr => F A outer s H us vs Q (hr.mono h)
def Gh.anc (G : Gh) (A : Nat → V → Prop) : Gh := ⟨G.F, G.B, A, G.M⟩
theorem FE.anc {G : Gh} {H : Hp} {A : Nat → V → Prop} : FE G H (G.anc A) H := ⟨fun _ z => z, fun _ z n => ⟨z, n⟩, fun _ _ _ e => e, fun _ _ e => e, fun _ _ _ e _ => e⟩
theorem StH.anc {K : PySem.W.Frag} {G : Gh} {H : Hp} {ρ : En} {A : Nat → V → Prop} (h : StH K G H ρ) : StH K (G.anc A) H ρ := StH.fe h FE.anc fun _ z => ⟨z, fun _ e => e⟩
theorem Wd.anc {G : Gh} {H : Hp} {A : Nat → V → Prop} (w : Wd G H) : Wd (G.anc A) H := ⟨w.b, w.f, w.t, w.m⟩
theorem Obw.anc {K : PySem.W.Frag} {G : Gh} {H : Hp} {A : Nat → V → Prop} {a : Addr} {d : D} (h : Obw K G H a d) : Obw K (G.anc A) H a d := h.fe FE.anc fun _ e => e
theorem Sh.anc {K : PySem.W.Frag} {G : Gh} {H : Hp} {A : Nat → V → Prop} {d : D} {v : V} (h : Sh K G H d v) : Sh K (G.anc A) H d v := by
  rcases h with h | ⟨a, e, nb, h⟩
  · exact .inl (h.fe FE.anc)
  · exact .inr ⟨a, e, nb, h.anc⟩
theorem Grow.anc {G G' : Gh} {H H' : Hp} {A : Nat → V → Prop} (g : Grow (G.anc A) H G' H') : Grow G H G' H' := ⟨g.f, g.b, g.k, g.nf, g.nb, g.m, g.nm⟩
theorem GrW.anc {G G' : Gh} {H H' : Hp} {A : Nat → V → Prop} (g : GrW (G.anc A) H G' H') : GrW G H G' H' := ⟨g.f, g.b, g.k, g.nf, g.nb, g.nm⟩
theorem Sh.noM {K : PySem.W.Frag} {G : Gh} {H : Hp} {d : D} {v : V} (h : Sh K G H d v) : Sh K G.noM H d v := by
  rcases h with h | ⟨a, e, nb, h⟩
  · exact .inl (h.fe FE.noM)
  · exact .inr ⟨a, e, fun z => nb z.1, h.fe FE.noM fun _ e => e⟩
theorem ShL.noM {K : PySem.W.Frag} {G : Gh} {H : Hp} {ds : List D} {vs : List V} (h : ShL K G H ds vs) : ShL K G.noM H ds vs := ⟨h.1, fun i d v e1 e2 => (h.2 i d v e1 e2).noM⟩
theorem staB_start {G : Gh} {H : Hp} {ds : List D} {vs : List V} {N : List Str} {n m : Nat} (wd : Wd G H) (r : ShL K G H ds vs) (hl : ds.length = n) (hN : N.length = n + m) :
    Sta K (G.anc fun _ _ => True) H (ds.map Cell.bo ++ List.replicate m .no) (G.anc fun _ _ => True) H (L2.start N vs) := by
  have hlv := r.1
  have get : ∀ {i : Nat} {c : Cell}, (ds.map Cell.bo ++ List.replicate m .no)[i]? = some c → (∃ d, ds[i]? = some d ∧ c = .bo d) ∨ c = .no := fun {i c} e => by
    by_cases hi : i < ds.length
    · rw [List.getElem?_append_left (by simpa using hi), List.getElem?_map] at e
      cases q : ds[i]? with
      | none => rw [q] at e; cases e
      | some d => rw [q] at e; cases e; exact .inl ⟨d, rfl, rfl⟩
    · rw [List.getElem?_append_right (by simpa using hi), List.getElem?_replicate] at e
      split at e
      · cases e; exact .inr rfl
      · cases e
  have nst : ∀ (i : Nat) a d, (ds.map Cell.bo ++ List.replicate m .no)[i]? ≠ some (.st a d) := fun i a d e => by
    rcases get e with ⟨d', e1, e2⟩ | e1
    · cases e2
    · cases e1
  refine ⟨wd.anc, GrW.refl _ _, wd.anc, fun i d e => ?_, fun i d e => ?_, fun i _ d _ _ e => ?_, ⟨?_, fun i a d e => (nst i a d e).elim⟩, fun i d e => ?_, .none_ nst⟩
  · rcases get e with ⟨d', e1, e2⟩ | e1
    · cases e2
    · cases e1
  · rcases get e with ⟨d', e1, e2⟩ | e1
    · cases e2
    · cases e1
  · rcases get e with ⟨d', e1, e2⟩ | e1
    · cases e2
    · cases e1
  · unfold L2.start
    simp only [List.length_append, List.length_map, List.length_replicate]
    omega
  · rcases get e with ⟨d', e1, e2⟩ | e1
    · cases e2
      have hi : i < vs.length := by
        have := (List.getElem?_eq_some_iff.mp e1).1
        omega
      have e3 : vs[i]? = some vs[i] := List.getElem?_eq_getElem hi
      refine ⟨vs[i], ?_, (r.2 i d _ e1 e3).anc, trivial⟩
      unfold L2.start
      rw [List.getElem?_append_left (by simpa using hi), List.getElem?_map, e3]
      rfl
    · cases e1
theorem fnB_of {x qual : Str} {st : Stmt} {fd : FuncData} {N ps : List Str} {n m : Nat} {b : WS} (F : Fun K x qual st f fd) (S : FnScope N ps (defScope st)) (hb : Binds K fd ps []) (hn : ps.length = n) (hN : N.length = n + m)
    (hbody : ∀ (cdv : Value) (A : Around) (outer : List Env) (s : Shared) (H : Hp) (G : Gh), Room k (A.deeper (envOfC qual (defScope st) s.heap.objs.size f cdv)) → A.guards = some [] →
      PBI (cxOf CX0 P w K mg base N qual (defScope st) f cdv A outer s H E0).nox G H (defBody st) b) : FnB P w K mg base (k + 1) f (wDefB n m b) := by
  intro A outer s H us vs Q hr hg e0 r hsp
  obtain ⟨G, ds, Φ, wd, rp, ⟨hl, hw⟩, kk⟩ := hsp
  obtain ⟨oc, od, kV, doc, pm, an, cdv, ct, osl, e, lk, hcd⟩ := F.ex
  have hus : us.length = ps.length := by rw [← r.length, ← rp.1, hl, hn]
  have kin := e0.mod.kin.keeps fun b o z => (e0.bs b o z).1
  have bt := hb s us kin (by rw [List.append_nil]; exact hus)
  rw [List.append_nil] at bt
  subst e
  refine StX.run_bnd (G := fun vs' H' => vs' = vs ∧ H' = H ∧ True) lk hcd S hr e0 (fun A' Ex Q' h => bt _ _ _ _ (h s H vs us e0 Un.refl rfl (fun _ _ z => z) r (by rw [r.length, hus]) ⟨rfl, rfl, trivial⟩)) fun s2 H2 vs2 g hr2 => ?_
  obtain ⟨rfl, rfl, _⟩ := g
  refine ⟨_, (hbody cdv A outer s2 H2 (G.noM.anc fun _ _ => True) hr2 hg).nox, _, _, _, staB_start wd.noM rp.noM hl (hN := hN), hw, ?_⟩
  exact ⟨fun ρ' G' H' σ' q st _ => kk _ _ _ H' q (st.ex.anc.reW wd st.wd) (st.ex.anc.reG wd) .non, fun r' v' ρ' G' H' q ok w' g' x' _ => kk r' v' _ H' q (g'.anc.reW wd w') (g'.anc.reG wd) (g'.anc.reR wd ok x'), fun _ _ _ _ q => q.elim, fun _ _ _ _ q => q.elim⟩
end
section
variable {X : Cx} {G0 : Gh} {H0 : Hp} {e : Expr} {es : List Expr} {ws : WA} {pos p : Pos} {k : Nat} {f : Addr} {wf : WF} {x : Str} {K : PySem.W.Frag} {σ : L2.St} {H : Hp}
theorem run_fnB {pins : List (Addr × Obj)} {s : Shared} {Q : VK} {us : List Value} {vs : List V} (F : FnB X.prog X.w X.K X.mg X.base k f wf) (hr : Room k X.A) (hg : X.A.guards = some []) (I : Inv X pins σ H s) (r : Vals vs us) (h : spB X.K wf vs H Q) :
    wpAny (model X.prog X.w) X.A (call (.ref f) us) (EP X pins σ Q) X.xe s := by
  refine wpAny_call (codeAny_mono (F X.A X.stack s H us vs Q hr hg I.env0 r h) fun res s' hq => ?_)
  match res, hq with
  | .error _, hq => exact hq.elim
  | .ok (.ret u), hq => exact I.after hq
  | .ok .next, hq => exact hq.elim
  | .ok .brk, hq => exact hq.elim
  | .ok .cont, hq => exact hq.elim
def wCallB (wf : WF) (ws : WA) : WE := fun ρ Φ => ws ρ fun rs ρ' => wf (rs.map R.d) fun r => Φ r ρ'
theorem tx_callB {Q : VK} (h : TX K G0 H0 (wCallB wf ws) σ H Q) : TAX K G0 H0 ws σ H fun vs H1 => spB K wf vs H1 Q := by
  obtain ⟨ρ, G, Φ, S, h, c⟩ := h
  refine ⟨ρ, G, _, S, h, fun rs ρ' vs G' H' q S' P L x => ?_⟩
  exact ⟨G', rs.map R.d, _, S'.wd, ⟨by rw [List.length_map]; exact x.length, x.sh⟩, q, fun r v G2 H2 φ w2 g2 x2 => c r ρ' v G2 H2 φ (S'.grow w2 g2) (P.trans S'.wd g2.stp L) L (x2.back fun a z => P.nn S'.wd z)⟩
theorem i_callBo (F : FnB X.prog X.w X.K X.mg X.base k f wf) (hr : Room k X.A) (hg : X.A.guards = some []) (hgl : Gl X x) (hm : X.mg x = some (.ref f)) (hk : PySem.W.keepIn X.K (.ref f) = true) (ha : PAI X G0 H0 (e :: es) ws)
    (hdb : (x == ("__debug__" : Str)) = false := by decide) (he : starEach (e :: es) X.env = (false, eval e X.env) :: starEach es X.env := by rfl) (hpl : (backTo pos (starEach es X.env)).any (·.1) = false := by rfl) :
    PEI X G0 H0 (.Call (.Name x p) (e :: es) [] pos) (wCallB wf ws) := by
  refine ⟨fun pins s σ H Q I h => wpAny_Call_Name_kw (ld_glob I hgl hm ?_ hdb)⟩
  exact PySem.W.callWith_K (h₀ := X.base) I.ok.mod.kin hk (thn (ha.run pos pins s σ H _ I (tx_callB h)) fun us s1 ⟨vs, H1, I1, r, q⟩ => ⟨I1.kIn, run_fnB F hr hg I1 r q⟩) he hpl
end

/-! ### the law's own end -/
/-- what the law's def is to do: the script in, True out -/
def lawG (wf : WF) : Prop := wf [.scr] fun r => r = .fr (.bl true)
theorem law_end {P : Program} {w : World} {K : PySem.W.Frag} {mg mb : Str → Option Value} {k : Nat} {fa a : Addr} {wf : WF} {s₁ : Shared} {vs : List Value} {ns : List Int}
    (h0 : (LamT.tabs : List (Addr × Str)) = []) (KX : K.In s₁.heap) (hns : s₁.heap.Ns mainGlobals mg) (hb : s₁.heap.Ns builtinsNs mb) (hbb : ∀ x : Str, x ≠ "__name__" → mb x = bootBuiltins x) (hlim : s₁.heap.NoLimit) (hgn : s₁.gens = #[])
    (ha : s₁.heap.get? a = some { cls := .type "list", data := .seq vs.toArray }) (hi : IntsAre vs ns) (hl : ns.length ≤ 63) (hr : Room k callerA)
    (F : ∀ base : Heap, K.In base → base.Ns mainGlobals mg → FnG P w K mg base k fa wf) (hw : lawG wf) :
    codeAny (model P w) callerA (.call (.ref fa) ⟨[.ref a], []⟩) (fun r s' => r = .ok (.ret (.bool true)) ∧ OldK s₁.heap s'.heap ∧ s'.os = s₁.os ∧ AllBare s'.gens) s₁ := by
  have rv := vals_ints hi
  have hlv := hi.length
  have hsl : ns.length ≤ sizeLine := Nat.le_trans hl (by decide)
  -- over any abstract heap that tracks the script at most
  have core : ∀ H : Hp, Only H → ScrAt K H a ns → HOk P w H s₁.heap → (∀ b, H b ≠ none → b = a ∧ K.lookup a = none) →
      codeAny (model P w) callerA (.call (.ref fa) ⟨[.ref a], []⟩) (fun r s' => r = .ok (.ret (.bool true)) ∧ OldK s₁.heap s'.heap ∧ s'.os = s₁.os ∧ AllBare s'.gens) s₁ := by
    intro H hO hS hok hA
    have free : ∀ {b : Addr} {o : Obj}, s₁.heap.get? b = some o → (b = a → ∃ es ep, o.data = .dict es ep) → H b = none := fun {b o} e hd => by
      cases q : H b with
      | none => rfl
      | some u =>
        obtain ⟨eb, _⟩ := hA b (by rw [q]; simp)
        obtain ⟨es, ep, d⟩ := hd eb
        rw [eb, ha] at e
        cases e
        cases d
    have nsH : ∀ {b : Addr} {m : Str → Option Value}, s₁.heap.Ns b m → (hidT s₁.heap H).Ns b m := fun {b m} z => by
      obtain ⟨o, es, ep, e, d, r⟩ := z
      exact ⟨o, es, ep, hidT_get e (free e fun _ => ⟨es, ep, d⟩), d, r⟩
    have kinH : K.In (hidT s₁.heap H) := fun b o e => hidT_get (KX b o e) (by
      cases q : H b with
      | none => rfl
      | some u =>
        obtain ⟨eb, hn⟩ := hA b (by rw [q]; simp)
        rw [eb, hn] at e
        cases e)
    obtain ⟨mc, l1, l2⟩ := hlim
    have md : Mod K mg (hidT s₁.heap H) := ⟨kinH, nsH hns, ⟨mb, nsH hb, hbb⟩, mc, nsH l1, l2⟩
    have e0 : Env0 P w K mg (hidT s₁.heap H) callerA [] s₁ H :=
      ⟨rfl, md, fun b o e => of_hidT e, Nat.le_of_eq (hidT_size _ _), trivial, (fun b z => nomatch (show b ∈ ([] : List Addr) from z)), hok, AllBare.of_eq hgn⟩
    have g0 : Wd ⟨fun _ => False, fun _ => False, fun _ _ => True, fun _ => False⟩ H := ⟨fun _ z => z.elim, fun _ z => z.elim, fun p hp => by rw [h0] at hp; exact (nomatch hp), fun _ z => z.elim⟩
    refine codeAny_mono (F _ kinH (nsH hns) callerA [] s₁ H [.ref a] [.ref a] (fun v _ => v = .bl true) hr rfl e0 (.cons rfl .nil) ⟨_, [.scr], _, g0, .cons (.scr hS hl) .nil, hw, fun r v G' H' q _ _ x => ?_⟩) fun res s' h => ?_
    · subst q
      cases x
      rfl
    · match res, h with
      | .error _, h => exact h.elim
      | .ok .next, h => exact h.elim
      | .ok .brk, h => exact h.elim
      | .ok .cont, h => exact h.elim
      | .ok (.ret u), h =>
        obtain ⟨v, H', os, bare, un, hok', r', q⟩ := h
        have q' : v = .bl true := q
        subst q'
        obtain rfl : u = Value.bool true := r'
        refine ⟨rfl, OldK.of_keep fun b o e => ?_, os, bare⟩
        cases q : H b with
        | none => exact un.keep b o e q (fun z => nomatch (show b ∈ ([] : List Addr) from z)) (by simp)
        | some u =>
          rcases hO b with z | ⟨ob, xs, z⟩
          · rw [q] at z; cases z
          · have i1 := (hok b _ z).1
            have i2 := (hok' b _ (un.frzs b ob _ z)).1
            rw [e] at i1
            rw [← i1] at i2
            exact i2
  cases hk : K.lookup a with
  | some o =>
    have e := KX a o hk
    rw [ha] at e
    cases e
    refine core (fun _ => none) (fun _ => .inl rfl) (.inr ⟨_, vs.toArray, _, hk, rfl, rfl, rfl, by rw [List.size_toArray, hlv]; exact hsl, by simpa using rv⟩) (fun b u z => ?_) fun b z => absurd rfl z
    cases (show (none : Option HO) = some u from z)
  | none =>
    refine core (fun b => if b = a then some (.frz { cls := .type "list", data := .seq vs.toArray } (.lst (ns.map V.int))) else none) (fun b => ?_) (.inl ⟨{ cls := .type "list", data := .seq vs.toArray }, if_pos rfl⟩) (fun b u z => ?_) fun b z => ?_
    · by_cases hb : b = a
      · exact .inr ⟨_, _, if_pos hb⟩
      · exact .inl (if_neg hb)
    · by_cases hb : b = a
      · cases (if_pos hb).symm.trans z
        rw [hb]
        exact ⟨ha, by rw [List.length_map]; exact hsl, vs, _, rv, ha⟩
      · cases (if_neg hb).symm.trans z
    · by_cases hb : b = a
      · exact ⟨hb, hk⟩
      · exact absurd (if_neg hb) z
/-- the goal that the head leaves -/
theorem law_walk {l : PySem.W.OpenLaw} {k : Nat} {q : Program} {loose : List Str} {XP : (Str → Option Value) → Heap → Prop} {YP : World → Heap → Prop} {d : DefRec} {K : Params → PySem.W.Frag} {wf : WF}
    (h0 : (LamT.tabs : List (Addr × Str)) = []) (hn : l.most = some 63) (hdf : d.params.defaults = []) (hr : Room k callerA) (hY : ∀ (w : World) (h : Heap), YP w h → (K w.params).In h)
    (F : ∀ (w : World) (mg : Str → Option Value) (fa : Addr) (h : Heap), (K w.params).In h → h.Ns mainGlobals mg → mg d.name = some (.ref fa) →
      ∀ base : Heap, (K w.params).In base → base.Ns mainGlobals mg → FnG l.prog w (K w.params) mg base k fa wf) (hw : lawG wf) :
    PySem.W.WalkO q loose XP YP l.row.toRowW d [] (fun f vs => PySem.call f vs) := by
  refine Att.attach_call hn hdf fun w s₀ s₁ mg mb fa o pm cd doc a vs ns G Y ho hd hcd hmg hobj hints hlen hgn => ?_
  exact law_end h0 (hY w _ Y) G.T.g G.T.b G.T.builtins G.T.nolimit hgn hobj hints hlen hr (F w mg fa _ (hY w _ Y) G.T.g hmg) hw
end Tv
/-! Tv8: Python's operations on trees. -/
namespace Tv
open PySem PySem.Spec PyProof.Rows L2
variable [LamT]

/-! ### equality at any depth -/
mutual
def D.py : D → PyData
  | .non => .none
  | .bl b => .bool b
  | .int i => .int i
  | .str x => .str x
  | .tup ds => .tuple (D.pyL ds)
  | .lst ds => .list (D.pyL ds)
  | .bag => .none
  | .scr => .none
  | .fn _ => .none
  | .dct _ _ => .none
  | .dcu _ _ => .none
  | .ins _ _ _ => .none
  | .unk => .none
  | .ptr _ => .none
def D.pyL : List D → List PyData
  | [] => []
  | d :: ds => d.py :: D.pyL ds
end
mutual
/-- data that may be compared and shown -/
def D.good : D → Bool
  | .str x => PyData.strOk x
  | .tup ds => D.goodL ds
  | .lst ds => D.goodL ds
  | .bag => false
  | .scr => false
  | .fn _ => false
  | .dct _ _ => false
  | .dcu _ _ => false
  | .ins _ _ _ => false
  | .unk => false
  | .ptr _ => false
  | _ => true
def D.goodL : List D → Bool
  | [] => true
  | d :: ds => d.good && D.goodL ds
end
mutual
def D.dep : D → Nat
  | .tup ds => D.depL ds + 1
  | .lst ds => D.depL ds + 1
  | _ => 0
def D.depL : List D → Nat
  | [] => 0
  | d :: ds => max d.dep (D.depL ds)
end
section
variable {K : PySem.W.Frag} {G : Gh} {H : Hp}
mutual
theorem good_lay : ∀ d : D, d.good = true → d.py.canLay0 = true
  | .non, _ => rfl
  | .bl _, _ => rfl
  | .int _, _ => rfl
  | .str x, h => h
  | .tup ds, h => good_layL ds h
  | .lst ds, h => good_layL ds h
  | .bag, h => nomatch h
  | .scr, h => nomatch h
  | .fn _, h => nomatch h
  | .dct _ _, h => nomatch h
  | .dcu _ _, h => nomatch h
  | .ins _ _ _, h => nomatch h
  | .unk, h => nomatch h
  | .ptr _, h => nomatch h
theorem good_layL : ∀ ds : List D, D.goodL ds = true → PyData.canLayAll0 (D.pyL ds) = true
  | [], _ => rfl
  | d :: ds, h => by
    have h' : (d.good && D.goodL ds) = true := h
    rw [Bool.and_eq_true] at h'
    show (d.py.canLay0 && PyData.canLayAll0 (D.pyL ds)) = true
    rw [good_lay d h'.1, good_layL ds h'.2]
    rfl
end
mutual
theorem dep_py : ∀ d : D, d.py.depth = d.dep
  | .non => rfl
  | .bl _ => rfl
  | .int _ => rfl
  | .str _ => rfl
  | .bag => rfl
  | .scr => rfl
  | .fn _ => rfl
  | .dct _ _ => rfl
  | .dcu _ _ => rfl
  | .ins _ _ _ => rfl
  | .unk => rfl
  | .ptr _ => rfl
  | .tup ds => by show PyData.depthAll (D.pyL ds) + 1 = _; rw [dep_pyL ds]; rfl
  | .lst ds => by show PyData.depthAll (D.pyL ds) + 1 = _; rw [dep_pyL ds]; rfl
theorem dep_pyL : ∀ ds : List D, PyData.depthAll (D.pyL ds) = D.depL ds
  | [] => rfl
  | d :: ds => by show max d.py.depth (PyData.depthAll (D.pyL ds)) = _; rw [dep_py d, dep_pyL ds]; rfl
end
mutual
theorem Rep.dp : ∀ {d : D} {v : V}, Rep K G H d v → d.good = true → Dp K H v d.py
  | _, _, .non, _ => .non
  | _, _, .bl b, _ => .bl b
  | _, _, .int i, _ => .int i
  | _, _, .str x, _ => .str x
  | _, _, .tup h r, g => .tup h (RepL.dp r g)
  | _, _, .lst h r, g => .lst h.sq (RepL.dp r g)
  | _, _, .bag _ _, g => nomatch g
  | _, _, .scr _ _, g => nomatch g
  | _, _, .fn _, g => nomatch g
  | _, _, .dct _ _ _ _, g => nomatch g
  | _, _, .dcu _ _ _ _ _ _, g => nomatch g
  | _, _, .ins _ _ _ _ _ _ _, g => nomatch g
  | _, _, .unk _, g => nomatch g
  | _, _, .ptr _, g => nomatch g
theorem RepL.dp : ∀ {ds : List D} {vs : List V}, RepL K G H ds vs → D.goodL ds = true → DpAll K H vs (D.pyL ds)
  | _, _, .nil, _ => .nil
  | _, _, .cons (d := d) (ds := ds) r t, g => by
    have g' : (d.good && D.goodL ds) = true := g
    rw [Bool.and_eq_true] at g'
    exact .cons (Rep.dp r g'.1) (RepL.dp t g'.2)
end
theorem Sh.dp {d : D} {v : V} (h : Sh K G H d v) (g : d.good = true) : Dp K H v d.py := by
  rcases h with h | ⟨a, e, _, h⟩
  · exact h.dp g
  · cases d with
    | lst ds =>
      obtain ⟨xs, e1, r⟩ := h
      subst e
      exact .lst (SqL.of e1) (r.dp g)
    | dct _ _ => exact nomatch g
    | dcu _ _ => exact nomatch g
    | _ => exact h.elim
end
def okE (d : D) : Bool := d.good && decide (d.dep ≤ 64)
theorem okE_shaped {d : D} (h : okE d = true) : SeqAt.shaped d.py = true ∧ d.good = true := by
  unfold okE at h
  rw [Bool.and_eq_true, decide_eq_true_eq] at h
  refine ⟨?_, h.1⟩
  unfold SeqAt.shaped
  rw [good_lay d h.1, dep_py, Bool.true_and, decide_eq_true h.2]
/-- == of data -/
def eqD (d e : D) : Bool := PyData.eqv d.py e.py
mutual
theorem eqv_refl : ∀ d : D, d.good = true → PyData.eqv d.py d.py = true
  | .non, _ => rfl
  | .bl b, _ => by show (b == b) = true; simp
  | .int b, _ => by show (b == b) = true; simp
  | .str b, _ => by show (b == b) = true; simp
  | .tup ds, h => eqvL_refl ds h
  | .lst ds, h => eqvL_refl ds h
  | .bag, h => nomatch h
  | .scr, h => nomatch h
  | .fn _, h => nomatch h
  | .dct _ _, h => nomatch h
  | .dcu _ _, h => nomatch h
  | .ins _ _ _, h => nomatch h
  | .ptr _, h => nomatch h
theorem eqvL_refl : ∀ ds : List D, D.goodL ds = true → PyData.eqvAll (D.pyL ds) (D.pyL ds) = true
  | [], _ => rfl
  | d :: ds, h => by
    have h' : (d.good && D.goodL ds) = true := h
    rw [Bool.and_eq_true] at h'
    show (PyData.eqv d.py d.py && PyData.eqvAll (D.pyL ds) (D.pyL ds)) = true
    rw [eqv_refl d h'.1, eqvL_refl ds h'.2]
    rfl
end
theorem eqD_refl {d : D} (h : d.good = true) : eqD d d = true := eqv_refl d h
def oEq : D → D → (R → Prop) → Prop
  | .str a, .str b, Φ => Φ (.fr (.bl (decide (a = b))))
  | d, e, Φ => (okE d && okE e) = true ∧ Φ (.fr (.bl (eqD d e)))
def oNe : D → D → (R → Prop) → Prop
  | .str a, .str b, Φ => Φ (.fr (.bl (!decide (a = b))))
  | d, e, Φ => (okE d && okE e) = true ∧ Φ (.fr (.bl (!eqD d e)))
def rEqA (K : PySem.W.Frag) : R2 := fun x y H Q => rEq x y H Q ∨ rEqD K x y H Q
def rNeA (K : PySem.W.Frag) : R2 := fun x y H Q => rNe x y H Q ∨ rNeD K x y H Q
theorem op_eqA {X : Cx} (hu : X.A.units + 64 < cLine) : OpR X (compareOp .Eq) (rEqA X.K) := op_eq.or (op_eqD hu)
theorem op_neA {X : Cx} (hu : X.A.units + 64 < cLine) : OpR X (compareOp .NotEq) (rNeA X.K) := op_ne.or (op_neD hu)
theorem dec_str {a b : Str} : decide (V.str a = V.str b) = decide (a = b) := by
  rw [Bool.eq_iff_iff]
  simp
section
variable {K : PySem.W.Frag}
theorem op2_eq : Op2 K oEq (rEqA K) := fun G H d e v u Φ Q w s1 s2 h k => by
  unfold oEq at h
  split at h
  · cases s1.s; cases s2.s
    refine .inl ⟨rfl, ?_⟩
    rw [dec_str]
    exact k _ _ G H h w (Grow.refl _ _) (.bl _)
  · obtain ⟨h1, h2⟩ := h
    rw [Bool.and_eq_true] at h1
    obtain ⟨a1, a2⟩ := okE_shaped h1.1
    obtain ⟨b1, b2⟩ := okE_shaped h1.2
    exact .inr ⟨_, _, s1.dp a2, s2.dp b2, a1, b1, k _ _ G H h2 w (Grow.refl _ _) (.bl _)⟩
theorem op2_ne : Op2 K oNe (rNeA K) := fun G H d e v u Φ Q w s1 s2 h k => by
  unfold oNe at h
  split at h
  · cases s1.s; cases s2.s
    refine .inl ⟨rfl, ?_⟩
    rw [dec_str]
    exact k _ _ G H h w (Grow.refl _ _) (.bl _)
  · obtain ⟨h1, h2⟩ := h
    rw [Bool.and_eq_true] at h1
    obtain ⟨a1, a2⟩ := okE_shaped h1.1
    obtain ⟨b1, b2⟩ := okE_shaped h1.2
    exact .inr ⟨_, _, s1.dp a2, s2.dp b2, a1, b1, k _ _ G H h2 w (Grow.refl _ _) (.bl _)⟩

/-! ### + -/
theorem Sh.lst_at {G : Gh} {H : Hp} {ds : List D} {v : V} (h : Sh K G H (.lst ds) v) : ∃ a xs, v = .ref a ∧ H a = some (.lst xs) ∧ RepL K G H ds xs := by
  rcases h with h | ⟨a, e, _, xs, h, r⟩
  · cases h with
    | lst h r => exact ⟨_, _, rfl, h.2, r⟩
  · exact ⟨a, xs, e, h, r⟩
/-- a new list, told at any free place -/
theorem new_lst {G : Gh} {H : Hp} {Φ : R → Prop} {Q : VK} {ds : List D} {xs : List V} (w : Wd G H) (k : ∀ r' v' G' H', Φ r' → Wd G' H' → Grow G H G' H' → RepR K G' H' H r' v' → Q v' H') (r : RepL K G H ds xs) (h : Φ (.ow (.lst ds))) :
    ∀ p, H p = none → Q (.ref p) (upd H p (.lst xs)) := fun p hp => k _ _ G _ h (w.laid hp) (Grow.laid hp) ⟨p, rfl, Own.laid w hp r, hp⟩
theorem new_tup {G : Gh} {H : Hp} {Φ : R → Prop} {Q : VK} {ds : List D} {xs : List V} (w : Wd G H) (k : ∀ r' v' G' H', Φ r' → Wd G' H' → Grow G H G' H' → RepR K G' H' H r' v' → Q v' H') (r : RepL K G H ds xs) (h : Φ (.fr (.tup ds))) :
    NewT Q H xs := fun p o od hp => k _ _ G _ h (w.laid hp) (Grow.laid hp) (repT upd_same od (r.fe ((Grow.laid hp).fe w)))
/-- t + u, what is new is known -/
def rCatN (K : PySem.W.Frag) : R2 := fun x y H Q => ∃ a b xs ys, x = .ref a ∧ y = .ref b ∧ SqT K H a xs ∧ SqT K H b ys ∧ xs.length + ys.length ≤ sizeLine ∧
  (xs = [] → Q (.ref b) H) ∧ (xs ≠ [] → ys = [] → Q (.ref a) H) ∧ (xs ≠ [] → ys ≠ [] → NewT Q H (xs ++ ys))
theorem op_catN {X : Cx} : OpR X (binaryOp .Add) (rCatN X.K) := by
  intro pins s σ H x1 x2 v1 v2 Q I rx1 rx2 h
  obtain ⟨t1, t2, ys1, ys2, rfl, rfl, h1, h2, hz, n0, n1, n2⟩ := h
  cases rx1
  cases rx2
  obtain ⟨is1, rel1, tp1, _⟩ := I.tuple h1
  obtain ⟨is2, rel2, tp2, _⟩ := I.tuple h2
  by_cases hx : ys1 = []
  · subst hx
    cases rel1
    exact cat_tup0 tp1 tp2 ⟨.ref t2, H, I, rfl, n0 rfl⟩
  · refine HT.cat_tup tp1 tp2 (fun z => hx (rel1.nil_iff.mp z)) (fun z => ⟨.ref t1, H, I, rfl, n1 hx (rel2.nil_iff.mp z)⟩) (fun z => ?_) (by rw [← rel1.length, ← rel2.length]; exact hz)
    exact laidT (k := s.toks) I rfl (fun b ob q => Heap.get?_push_of_some _ q) (Nat.le_refl _) (by rw [List.length_append]; exact hz) (rel1.append rel2) (Heap.get?_push_size _ rfl) (n2 hx fun w => z (rel2.nil_iff.mpr w))
def oAdd : D → D → (R → Prop) → Prop
  | .int i, .int j, Φ => Φ (.fr (.int (i + j)))
  | .str a, .str b, Φ => a.length + b.length ≤ sizeLine ∧ Φ (.fr (.str (a ++ b)))
  | .lst xs, .lst ys, Φ => xs.length + ys.length ≤ sizeLine ∧ Φ (.ow (.lst (xs ++ ys)))
  | .tup xs, .tup ys, Φ => xs.length + ys.length ≤ sizeLine ∧ Φ (.fr (.tup (xs ++ ys)))
  | _, _, _ => False
def rAddA (K : PySem.W.Frag) : R2 := fun x y H Q => (rI0 fun i j => .int (i + j)) x y H Q ∨ ((∃ i j, x = .str i ∧ y = .str j ∧ i.length + j.length ≤ sizeLine ∧ Q (.str (i ++ j)) H) ∨ (rCat x y H Q ∨ rCatN K x y H Q))
theorem op_addA {X : Cx} : OpR X (binaryOp .Add) (rAddA X.K) := op_add.or (op_add_str.or (op_cat.or op_catN))
theorem op2_add : Op2 K oAdd (rAddA K) := fun G H d e v u Φ Q w s1 s2 h k => by
  unfold oAdd at h
  split at h
  · cases s1.i; cases s2.i
    exact .inl ⟨_, _, rfl, rfl, k _ _ G H h w (Grow.refl _ _) (.int _)⟩
  · cases s1.s; cases s2.s
    exact .inr (.inl ⟨_, _, rfl, rfl, h.1, k _ _ G H h.2 w (Grow.refl _ _) (.str _)⟩)
  · obtain ⟨a, xs, rfl, e1, r1⟩ := s1.lst_at
    obtain ⟨b, ys, rfl, e2, r2⟩ := s2.lst_at
    exact .inr (.inr (.inl ⟨a, b, xs, ys, rfl, rfl, e1, e2, by rw [← r1.length, ← r2.length]; exact h.1, new_lst w k (r1.append r2) h.2⟩))
  · obtain ⟨a, xs, rfl, e1, r1, n1⟩ := s1.tupleN
    obtain ⟨b, ys, rfl, e2, r2, n2⟩ := s2.tupleN
    refine .inr (.inr (.inr ⟨a, b, xs, ys, rfl, rfl, e1, e2, by rw [← r1.length, ← r2.length]; exact h.1, fun z => ?_, fun _ z => ?_, fun _ _ => new_tup w k (r1.append r2) h.2⟩))
    · subst z
      cases r1
      exact k _ _ G H h.2 w (Grow.refl _ _) (Rep.tup (n := n2) e2 r2)
    · subst z
      cases r2
      refine k _ _ G H h.2 w (Grow.refl _ _) ?_
      rw [List.append_nil]
      exact Rep.tup (n := n1) e1 r1
  · exact h.elim

/-! ### ints -/
def oInt (C : Int → Int → Prop) (g : Int → Int → D) : D → D → (R → Prop) → Prop
  | .int i, .int j, Φ => C i j ∧ Φ (.fr (g i j))
  | _, _, _ => False
theorem op2_int {C : Int → Int → Prop} {g : Int → Int → D} {g' : Int → Int → V} (hg : ∀ G H i j, Rep K G H (g i j) (g' i j)) : Op2 K (oInt C g) (rI C g') := fun G H d e v u Φ Q w s1 s2 h k => by
  unfold oInt at h
  split at h
  · cases s1.i; cases s2.i
    exact ⟨_, _, rfl, rfl, h.1, k _ _ G H h.2 w (Grow.refl _ _) (hg _ _ _ _)⟩
  · exact h.elim
def oInt0 (g : Int → Int → D) : D → D → (R → Prop) → Prop
  | .int i, .int j, Φ => Φ (.fr (g i j))
  | _, _, _ => False
theorem op2_int0 {g : Int → Int → D} {g' : Int → Int → V} (hg : ∀ G H i j, Rep K G H (g i j) (g' i j)) : Op2 K (oInt0 g) (rI0 g') := fun G H d e v u Φ Q w s1 s2 h k => by
  unfold oInt0 at h
  split at h
  · cases s1.i; cases s2.i
    exact ⟨_, _, rfl, rfl, k _ _ G H h w (Grow.refl _ _) (hg _ _ _ _)⟩
  · exact h.elim
abbrev oSub := oInt0 fun i j => .int (i - j)
abbrev oDiv := oInt CDiv fun i j => .int (i / j)
abbrev oMod := oInt (fun _ j => 0 < j) fun i j => .int (i % j)
abbrev oPow := oInt CPow fun i j => .int (i ^ j.toNat)

/-! ### order: ints, texts -/
def strLt (a b : Str) : Bool := decide (a.cps.toList < b.cps.toList)
def oLt : D → D → (R → Prop) → Prop
  | .int i, .int j, Φ => Φ (.fr (.bl (decide (i < j))))
  | .str a, .str b, Φ => Φ (.fr (.bl (strLt a b)))
  | _, _, _ => False
def oLe : D → D → (R → Prop) → Prop
  | .int i, .int j, Φ => Φ (.fr (.bl (decide (i ≤ j))))
  | .str a, .str b, Φ => Φ (.fr (.bl (!strLt b a)))
  | _, _, _ => False
def oGt : D → D → (R → Prop) → Prop
  | .int i, .int j, Φ => Φ (.fr (.bl (decide (j < i))))
  | .str a, .str b, Φ => Φ (.fr (.bl (strLt b a)))
  | _, _, _ => False
def oGe : D → D → (R → Prop) → Prop
  | .int i, .int j, Φ => Φ (.fr (.bl (decide (j ≤ i))))
  | .str a, .str b, Φ => Φ (.fr (.bl (!strLt a b)))
  | _, _, _ => False
def rOrd (g : Int → Int → Bool) (t : Str → Str → Bool) : R2 := fun x y H Q => (rI0 fun i j => .bl (g i j)) x y H Q ∨ ∃ i j, x = .str i ∧ y = .str j ∧ Q (.bl (t i j)) H
theorem op2_ord {g : Int → Int → Bool} {t : Str → Str → Bool} {o : D → D → (R → Prop) → Prop} (hi : ∀ i j Φ, o (.int i) (.int j) Φ → Φ (.fr (.bl (g i j)))) (hs : ∀ i j Φ, o (.str i) (.str j) Φ → Φ (.fr (.bl (t i j))))
    (hn : ∀ d e Φ, o d e Φ → (∃ i j, d = .int i ∧ e = .int j) ∨ ∃ i j, d = .str i ∧ e = .str j) : Op2 K o (rOrd g t) := fun G H d e v u Φ Q w s1 s2 h k => by
  rcases hn d e Φ h with ⟨i, j, rfl, rfl⟩ | ⟨i, j, rfl, rfl⟩
  · cases s1.i; cases s2.i
    exact .inl ⟨i, j, rfl, rfl, k _ _ G H (hi _ _ _ h) w (Grow.refl _ _) (.bl _)⟩
  · cases s1.s; cases s2.s
    exact .inr ⟨i, j, rfl, rfl, k _ _ G H (hs _ _ _ h) w (Grow.refl _ _) (.bl _)⟩
theorem op2_gt : Op2 K oGt (rOrd (fun i j => decide (j < i)) fun a b => strLt b a) := op2_ord (fun _ _ _ h => h) (fun _ _ _ h => h) fun d e Φ h => by
  unfold oGt at h; split at h <;> first | exact .inl ⟨_, _, rfl, rfl⟩ | exact .inr ⟨_, _, rfl, rfl⟩ | exact h.elim
theorem op2_ge : Op2 K oGe (rOrd (fun i j => decide (j ≤ i)) fun a b => !strLt a b) := op2_ord (fun _ _ _ h => h) (fun _ _ _ h => h) fun d e Φ h => by
  unfold oGe at h; split at h <;> first | exact .inl ⟨_, _, rfl, rfl⟩ | exact .inr ⟨_, _, rfl, rfl⟩ | exact h.elim
theorem op_ltA {X : Cx} : OpR X (compareOp .Lt) (rOrd (fun i j => decide (i < j)) strLt) := op_lt.or op_lt_str
theorem op_gtA {X : Cx} : OpR X (compareOp .Gt) (rOrd (fun i j => decide (j < i)) fun a b => strLt b a) := op_gt.or op_gt_str
theorem op_geA {X : Cx} : OpR X (compareOp .GtE) (rOrd (fun i j => decide (j ≤ i)) fun a b => !strLt a b) := op_ge.or op_ge_str

end
end Tv
/-! Tv9: in, items, slices, len, sum, texts, stores of several names, constants of the text. -/
namespace Tv
open PySem PySem.Spec PyProof.Rows L2
variable [LamT]

section
variable {K : PySem.W.Frag} {X : Cx} {G0 : Gh} {H0 : Hp} {pos : Pos} {e a b c : Expr} {es : List Expr} {wa wb wc : WE} {ws : WA}
/-! ### in, not in -/
def rInA (K : PySem.W.Frag) (neg : Bool) : R2 := fun x y H Q => ∃ d ds, Dp K H x d ∧ (Dp K H y (.list ds) ∨ Dp K H y (.tuple ds)) ∧ SeqAt.shaped d = true ∧ SeqAt.shaped (.list ds) = true ∧
  Q (.bl (if neg then !ds.any fun z => PyData.eqv z d else ds.any fun z => PyData.eqv z d)) H
theorem op_inA (hu : X.A.units + 65 < cLine) : OpR X (compareOp .In) (rInA X.K false) := by
  intro pins s σ H x y v u Q I rx ry h
  obtain ⟨d, ds, hd, he, sd, se, q⟩ := h
  obtain ⟨as, r1⟩ := Dp.reads I d x v hd rx
  have c1 := SeqAt.canLay_of_shaped sd
  have c2 := SeqAt.canLay_of_shaped se
  rcases he with he | he
  · obtain ⟨bs, r2⟩ := Dp.reads I (.list ds) y u he ry
    exact SeqAt.in_list_reads r2 r1 c2 c1 (room_in_shaped sd hu) ⟨.bl _, H, I, rfl, q⟩
  · obtain ⟨bs, r2⟩ := Dp.reads I (.tuple ds) y u he ry
    exact SeqAt.in_tuple_reads r2 r1 c2 c1 (room_in_shaped sd hu) ⟨.bl _, H, I, rfl, q⟩
theorem op_notInA (hu : X.A.units + 65 < cLine) : OpR X (compareOp .NotIn) (rInA X.K true) := by
  intro pins s σ H x y v u Q I rx ry h
  obtain ⟨d, ds, hd, he, sd, se, q⟩ := h
  obtain ⟨as, r1⟩ := Dp.reads I d x v hd rx
  have c1 := SeqAt.canLay_of_shaped sd
  have c2 := SeqAt.canLay_of_shaped se
  rcases he with he | he
  · obtain ⟨bs, r2⟩ := Dp.reads I (.list ds) y u he ry
    exact SeqAt.notIn_list_reads r2 r1 c2 c1 (room_in_shaped sd hu) ⟨.bl _, H, I, rfl, q⟩
  · obtain ⟨bs, r2⟩ := Dp.reads I (.tuple ds) y u he ry
    exact SeqAt.notIn_tuple_reads r2 r1 c2 c1 (room_in_shaped sd hu) ⟨.bl _, H, I, rfl, q⟩
def inD (d : D) (ds : List D) : Bool := ds.any fun z => eqD z d
theorem inD_py (d : D) : ∀ ds : List D, ((D.pyL ds).any fun z => PyData.eqv z d.py) = inD d ds
  | [] => rfl
  | z :: ds => by
    show (PyData.eqv z.py d.py || (D.pyL ds).any fun z => PyData.eqv z d.py) = _
    rw [inD_py d ds]
    rfl
/-- x in c: one sign in a text; data in a list or a tuple -/
def oIn (neg : Bool) : D → D → (R → Prop) → Prop
  | .str x, .str z, Φ => ∃ n, x.cps = #[n] ∧ Φ (.fr (.bl (if neg then !decide (n ∈ z.cps.toList) else decide (n ∈ z.cps.toList))))
  | d, .lst ds, Φ => (okE d && okE (.lst ds)) = true ∧ Φ (.fr (.bl (if neg then !inD d ds else inD d ds)))
  | d, .tup ds, Φ => (okE d && okE (.lst ds)) = true ∧ Φ (.fr (.bl (if neg then !inD d ds else inD d ds)))
  | _, _, _ => False
def rInB (K : PySem.W.Frag) (neg : Bool) : R2 := fun x y H Q => (∃ (c : Nat) (z : Str), x = .str ⟨#[c]⟩ ∧ y = .str z ∧ Q (.bl (if neg then !decide (c ∈ z.cps.toList) else decide (c ∈ z.cps.toList))) H) ∨ rInA K neg x y H Q
theorem op_inB (hu : X.A.units + 65 < cLine) : OpR X (compareOp .In) (rInB X.K false) := op_in_sign.or (op_inA hu)
theorem op_notInB (hu : X.A.units + 65 < cLine) : OpR X (compareOp .NotIn) (rInB X.K true) := op_notIn_sign.or (op_notInA hu)
theorem op2_in {neg : Bool} : Op2 K (oIn neg) (rInB K neg) := fun G H d e v u Φ Q w s1 s2 h k => by
  unfold oIn at h
  split at h
  · obtain ⟨n, hn, h⟩ := h
    rename_i x z
    cases s1.s; cases s2.s
    have ex : x = ⟨#[n]⟩ := by cases x; cases hn; rfl
    exact .inl ⟨n, z, by rw [ex], rfl, k _ _ G H h w (Grow.refl _ _) (.bl _)⟩
  · rename_i d ds Φ _
    obtain ⟨h1, h2⟩ := h
    rw [Bool.and_eq_true] at h1
    obtain ⟨a1, a2⟩ := okE_shaped h1.1
    obtain ⟨b1, b2⟩ := okE_shaped h1.2
    exact .inr ⟨_, _, s1.dp a2, .inl (s2.dp b2), a1, b1, by rw [inD_py]; exact k _ _ G H h2 w (Grow.refl _ _) (.bl _)⟩
  · rename_i d ds Φ _
    obtain ⟨h1, h2⟩ := h
    rw [Bool.and_eq_true] at h1
    obtain ⟨a1, a2⟩ := okE_shaped h1.1
    obtain ⟨b1, b2⟩ := okE_shaped h1.2
    exact .inr ⟨_, _, s1.dp a2, .inr (s2.dp b2), a1, b1, by rw [inD_py]; exact k _ _ G H h2 w (Grow.refl _ _) (.bl _)⟩
  · exact h.elim

/-! ### items -/
def oIx : D → D → (R → Prop) → Prop
  | .lst ds, .int i, Φ => ∃ d, atI ds i = some d ∧ Φ (.fr d)
  | .tup ds, .int i, Φ => ∃ d, atI ds i = some d ∧ Φ (.fr d)
  | .str z, .int i, Φ => z.length ≤ sizeLine ∧ ∃ n, atI z.cps.toList i = some n ∧ Φ (.fr (.str ⟨#[n]⟩))
  | _, _, _ => False
theorem RepL.atI {G : Gh} {H : Hp} {ds : List D} {xs : List V} {i : Int} {d : D} (r : RepL K G H ds xs) (h : L2.atI ds i = some d) : ∃ v, L2.atI xs i = some v ∧ Rep K G H d v := by
  unfold L2.atI at h ⊢
  rw [← r.length]
  cases q : ixN ds.length i with
  | none => rw [q] at h; cases h
  | some j =>
    rw [q] at h
    obtain ⟨v, e, rv⟩ := r.get (i := j) h
    exact ⟨v, e, rv⟩
theorem op2_ix : Op2 K oIx (rIx K) := fun G H d e v u Φ Q w s1 s2 h k => by
  unfold oIx at h
  split at h
  · obtain ⟨d, hd, h⟩ := h
    obtain ⟨p, xs, rfl, e1, r⟩ := s1.list
    cases s2.i
    obtain ⟨x, ex, rx⟩ := r.atI hd
    exact .inl ⟨p, xs, _, x, rfl, rfl, e1, ex, k _ _ G H h w (Grow.refl _ _) rx⟩
  · obtain ⟨d, hd, h⟩ := h
    obtain ⟨p, xs, rfl, e1, r⟩ := s1.tuple
    cases s2.i
    obtain ⟨x, ex, rx⟩ := r.atI hd
    exact .inr (.inl ⟨p, xs, _, x, rfl, rfl, e1, ex, k _ _ G H h w (Grow.refl _ _) rx⟩)
  · obtain ⟨hz, n, hn, h⟩ := h
    cases s1.s; cases s2.i
    exact .inr (.inr ⟨_, _, n, rfl, rfl, hz, hn, k _ _ G H h w (Grow.refl _ _) (.str _)⟩)
  · exact h.elim

/-! ### slices -/
abbrev WO := En → (Option Int → En → Prop) → Prop
def TOX (K : PySem.W.Frag) (G0 : Gh) (H0 : Hp) (W : WO) : TO := fun σ H Q => ∃ ρ G Φ, Sta K G0 H0 ρ G H σ ∧ W ρ Φ ∧ ∀ o ρ' G' H', Φ o ρ' → Sta K G0 H0 ρ' G' H' σ → Stp ρ σ G H G' H' → LeE ρ' ρ → Q o H'
def POI (X : Cx) (G0 : Gh) (H0 : Hp) (o : Option Expr) (W : WO) : Prop := PO X o (TOX X.K G0 H0 W)
def wNoP : WO := fun ρ Φ => Φ none ρ
def wSomeP (wa : WE) : WO := fun ρ Φ => wa ρ fun r ρ' => match r.d with
  | .int i => Φ (some i) ρ'
  | _ => False
theorem po_imp {o : Option Expr} {t t' : TO} (h : PO X o t) (i : ∀ σ H Q, t' σ H Q → t σ H Q) : PO X o t' := ⟨fun pins s σ H Q I q => h.run pins s σ H Q I (i σ H Q q)⟩
theorem o_none : POI X G0 H0 none wNoP := po_imp po_none fun σ H Q h => by
  obtain ⟨ρ, G, Φ, S, h, c⟩ := h
  exact c none ρ G H h S Stp.refl (LeE.refl _)
theorem o_some (h : PEI X G0 H0 e wa) : POI X G0 H0 (some e) (wSomeP wa) := by
  refine po_imp (po_some h) fun σ H Q h => ?_
  obtain ⟨ρ, G, Φ, S, h, c⟩ := h
  refine ⟨ρ, G, _, S, h, fun r ρ' v G' H' q S' P L x => ?_⟩
  split at q
  · rename_i i e
    have x' := x.sh
    rw [e] at x'
    exact ⟨i, x'.i, c _ ρ' G' H' q S' P L⟩
  · exact q.elim
def cutD (ds : List D) (lo hi : Option Int) : List D := (ds.drop (HT.sIx ds.length 0 lo)).take (HT.sIx ds.length ds.length hi - HT.sIx ds.length 0 lo)
def oSl : D → Option Int → Option Int → (R → Prop) → Prop
  | .lst ds, lo, hi, Φ => Φ (.ow (.lst (cutD ds lo hi)))
  | .tup ds, lo, hi, Φ => Φ (.fr (.tup (cutD ds lo hi)))
  | .str z, lo, hi, Φ => z.length ≤ sizeLine ∧ Φ (.fr (.str (cutS z lo hi)))
  | _, _, _, _ => False
theorem RepL.cut {G : Gh} {H : Hp} {ds : List D} {xs : List V} {lo hi : Option Int} (r : RepL K G H ds xs) : RepL K G H (cutD ds lo hi) (cutV xs lo hi) := by
  unfold cutD cutV
  rw [r.length]
  exact (r.drop _).take _
theorem cut_wholeD {ds : List D} {lo hi : Option Int} (hw : HT.sIx ds.length 0 lo = 0 ∧ HT.sIx ds.length ds.length hi = ds.length) : cutD ds lo hi = ds := by
  unfold cutD
  rw [hw.1, hw.2, List.drop_zero, Nat.sub_zero, List.take_length]
theorem RepL.cut_whole {G : Gh} {H : Hp} {ds : List D} {xs : List V} {lo hi : Option Int} (r : RepL K G H ds xs) (hw : HT.sIx xs.length 0 lo = 0 ∧ HT.sIx xs.length xs.length hi = xs.length) : RepL K G H (cutD ds lo hi) xs := by
  have z := RepL.cut (lo := lo) (hi := hi) r
  unfold cutV at z
  rw [hw.1, hw.2, List.drop_zero, Nat.sub_zero, List.take_length] at z
  exact z
/-- t[lo:hi]: the whole of it is t itself; what is new is known -/
def rSlN (K : PySem.W.Frag) : V → Option Int → Option Int → Hp → VK → Prop := fun x lo hi H Q => ∃ a xs, x = .ref a ∧ SqT K H a xs ∧
  (HT.sIx xs.length 0 lo = 0 ∧ HT.sIx xs.length xs.length hi = xs.length → Q (.ref a) H) ∧ (¬ (HT.sIx xs.length 0 lo = 0 ∧ HT.sIx xs.length xs.length hi = xs.length) → NewT Q H (cutV xs lo hi))
theorem sl_tupN : SlR X (rSlN X.K) := by
  intro pins s σ H x v lv uv lo hi sl Q I rx st pl pu h
  obtain ⟨t, ys, rfl, ht, n1, n2⟩ := h
  cases rx
  obtain ⟨is, rel, tp, z⟩ := I.tuple ht
  have el : is.toArray.size = ys.length := List.size_toArray.trans rel.length.symm
  refine ⟨_, _, PyProof.Rows.slot_tuple_getitem.lookup, tp.typeIs, ?_⟩
  by_cases w : HT.sIx ys.length 0 lo = 0 ∧ HT.sIx ys.length ys.length hi = ys.length
  · exact getItem_tuple_whole tp st pl pu (by rw [el]; exact w) ⟨.ref t, H, I, rfl, n1 w⟩
  · refine HT.getItem_tuple_cut tp st pl pu (by rw [el]; exact w) ?_ (by rw [el]; exact z)
    rw [el]
    exact laidT (k := s.toks) I rfl (fun b ob q => Heap.get?_push_of_some _ q) (Nat.le_refl _) (Nat.le_trans (cutV_length ys lo hi) z) ((rel.drop (HT.sIx ys.length 0 lo)).take (HT.sIx ys.length ys.length hi - HT.sIx ys.length 0 lo)) (Heap.get?_push_size _ rfl) (n2 w)
def rSlAll (K : PySem.W.Frag) : V → Option Int → Option Int → Hp → VK → Prop := fun x lo hi H Q => rSlL K x lo hi H Q ∨ (rSlN K x lo hi H Q ∨ rSlS x lo hi H Q)
theorem sl_all : SlR X (rSlAll X.K) := sl_list.or (sl_tupN.or sl_str)
def wSl (wa : WE) (wl wh : WO) : WE := fun ρ Φ => wa ρ fun r ρ1 => wl ρ1 fun lo ρ2 => wh ρ2 fun hi ρ3 => oSl r.d lo hi fun r' => Φ r' ρ3
theorem i_slice {lo hi : Option Expr} {wl wh : WO} {p2 : Pos} (ha : PEI X G0 H0 e wa) (hl : POI X G0 H0 lo wl) (hh : POI X G0 H0 hi wh) : PEI X G0 H0 (.Subscript e (.Slice lo hi none p2) pos) (wSl wa wl wh) := by
  refine pe_imp (pe_slice sl_all ha hl hh) fun σ H Q h => ?_
  obtain ⟨ρ, G, Φ, S, h, c⟩ := h
  refine ⟨ρ, G, _, S, h, fun r ρ1 v G1 H1 q S1 P1 L1 x => ⟨ρ1, G1, _, S1, q, fun il ρ2 G2 H2 q2 S2 P2 L2 => ⟨ρ2, G2, _, S2, q2, fun ih ρ3 G3 H3 q3 S3 P3 L3 => ?_⟩⟩⟩
  have PP := (P1.trans S1.wd P2 L1).trans S2.wd P3 (L2.trans L1)
  have LL := L3.trans (L2.trans L1)
  have x3 := (x.sh.stp S1.wd P2).stp S2.wd P3
  have kk : ∀ r' v' G' H', Φ r' ρ3 → Wd G' H' → Grow G3 H3 G' H' → RepR X.K G' H' H3 r' v' → Q v' H' := fun r' v' G' H' φ w g x' => c r' ρ3 v' G' H' φ (S3.grow w g) (PP.trans S3.wd g.stp LL) LL (x'.back fun a z => PP.nn S3.wd z)
  unfold oSl at q3
  split at q3
  · rename_i ed
    rw [ed] at x3
    obtain ⟨p, xs, rfl, e1, rr⟩ := x3.list
    exact .inl ⟨p, xs, rfl, e1, new_lst (Φ := fun r => Φ r ρ3) S3.wd kk rr.cut q3⟩
  · rename_i ed
    rw [ed] at x3
    obtain ⟨p, xs, rfl, e1, rr, n1⟩ := x3.tupleN
    refine .inr (.inl ⟨p, xs, rfl, e1, fun hw => ?_, fun _ => new_tup (Φ := fun r => Φ r ρ3) S3.wd kk rr.cut q3⟩)
    exact kk _ _ G3 H3 q3 S3.wd (Grow.refl _ _) (Rep.tup (n := fun z => n1 (by rw [← z, cut_wholeD (by rw [rr.length]; exact hw)])) e1 (rr.cut_whole hw))
  · rename_i ed
    rw [ed] at x3
    cases x3.s
    exact .inr (.inr ⟨_, rfl, q3.1, kk _ _ G3 H3 q3.2 S3.wd (Grow.refl _ _) (.str _)⟩)
  · exact q3.elim

/-! ### len, sum, int, max, min, list, tuple -/
theorem one_sh {G : Gh} {H : Hp} {d : D} {vs : List V} (hl : [d].length = vs.length) (hs : ∀ (i : Nat) d' v, [d][i]? = some d' → vs[i]? = some v → Sh K G H d' v) : ∃ v, vs = [v] ∧ Sh K G H d v := by
  match vs, hl with
  | [v], _ => exact ⟨v, rfl, hs 0 _ v rfl rfl⟩
def oLen : List D → (R → Prop) → Prop
  | [.lst ds], Φ => Φ (.fr (.int ds.length))
  | [.tup ds], Φ => Φ (.fr (.int ds.length))
  | [.str x], Φ => x.length ≤ sizeLine ∧ Φ (.fr (.int x.length))
  | _, _ => False
theorem opn_len : OpN K oLen (fun xs H Q => ∃ x n, xs = [x] ∧ LenV K x H n ∧ Q (.int n) H) := fun G H ds vs Φ Q w hl hs h k => by
  unfold oLen at h
  split at h
  · obtain ⟨v, rfl, s⟩ := one_sh hl hs
    obtain ⟨p, xs, rfl, e, r⟩ := s.list
    exact ⟨_, xs.length, rfl, .inl ⟨xs, e, rfl⟩, by rw [← r.length]; exact k _ _ G H h w (Grow.refl _ _) (.int _)⟩
  · obtain ⟨v, rfl, s⟩ := one_sh hl hs
    obtain ⟨p, xs, rfl, e, r⟩ := s.tuple
    exact ⟨_, xs.length, rfl, .inr ⟨xs, e, rfl⟩, by rw [← r.length]; exact k _ _ G H h w (Grow.refl _ _) (.int _)⟩
  · obtain ⟨v, rfl, s⟩ := one_sh hl hs
    cases s.s
    exact ⟨_, _, rfl, ⟨h.1, rfl⟩, k _ _ G H h.2 w (Grow.refl _ _) (.int _)⟩
  · exact h.elim
def intsD : List D → Option (List Int)
  | [] => some []
  | .int i :: ds => (intsD ds).map (i :: ·)
  | _ :: _ => none
theorem intsD_rep {G : Gh} {H : Hp} : ∀ {ds : List D} {xs : List V} {ns : List Int}, RepL K G H ds xs → intsD ds = some ns → xs = ns.map V.int
  | _, _, _, .nil, e => by cases e; rfl
  | .int i :: ds, _, ns, .cons r t, e => by
    cases r
    unfold intsD at e
    cases q : intsD ds with
    | none => rw [q] at e; cases e
    | some ms => rw [q] at e; cases e; rw [intsD_rep t q]; rfl
  | .non :: _, _, _, _, e => by cases e
  | .bl _ :: _, _, _, _, e => by cases e
  | .str _ :: _, _, _, _, e => by cases e
  | .tup _ :: _, _, _, _, e => by cases e
  | .lst _ :: _, _, _, _, e => by cases e
  | .bag :: _, _, _, _, e => by cases e
  | .scr :: _, _, _, _, e => by cases e
  | .fn _ :: _, _, _, _, e => by cases e
  | .dct _ _ :: _, _, _, _, e => by cases e
  | .dcu _ _ :: _, _, _, _, e => by cases e
  | .ins _ _ _ :: _, _, _, _, e => by cases e
  | .unk :: _, _, _, _, e => by cases e
  | .ptr _ :: _, _, _, _, e => by cases e
def oSum : List D → (R → Prop) → Prop
  | [.lst ds], Φ => ∃ ns, intsD ds = some ns ∧ Φ (.fr (.int ns.sum))
  | _, _ => False
def oIntC : List D → (R → Prop) → Prop
  | [.int i], Φ => Φ (.fr (.int i))
  | [.bl b], Φ => Φ (.fr (.int (if b then 1 else 0)))
  | _, _ => False
theorem opn_int : OpN K oIntC (fun xs H Q => (∃ i, xs = [.int i] ∧ Q (.int i) H) ∨ ∃ k, xs = [.bl k] ∧ Q (.int (if k then 1 else 0)) H) := fun G H ds vs Φ Q w hl hs h k => by
  unfold oIntC at h
  split at h
  · obtain ⟨v, rfl, s⟩ := one_sh hl hs
    cases s.i
    exact .inl ⟨_, rfl, k _ _ G H h w (Grow.refl _ _) (.int _)⟩
  · obtain ⟨v, rfl, s⟩ := one_sh hl hs
    cases s.b
    exact .inr ⟨_, rfl, k _ _ G H h w (Grow.refl _ _) (.int _)⟩
  · exact h.elim
def oList : List D → (R → Prop) → Prop
  | [.lst ds], Φ => Φ (.ow (.lst ds))
  | [.tup ds], Φ => Φ (.ow (.lst ds))
  | _, _ => False
def oTuple : List D → (R → Prop) → Prop
  | [.lst ds], Φ => Φ (.fr (.tup ds))
  | [.tup ds], Φ => Φ (.fr (.tup ds))
  | _, _ => False
def rTupN (K : PySem.W.Frag) : List V → Hp → VK → Prop := fun xs H Q => ∃ p ys, xs = [.ref p] ∧ ((SqL K H p ys ∧ NewT Q H ys) ∨ (SqT K H p ys ∧ Q (.ref p) H))
theorem call_tupleN {X : Cx} : CallR X (.type "tuple") (rTupN X.K) := by
  intro pins s σ H vs us Q I r h
  obtain ⟨l, ys, rfl, h⟩ := h
  obtain ⟨u, rfl, ru⟩ := vals1 r
  cases ru
  rcases h with ⟨hl, n⟩ | ⟨ht, n⟩
  · obtain ⟨is, rel, pl, z⟩ := I.list hl
    have el := rel.length
    refine call_tuple_list pl.isList (fun g kp => ?_) (by simp only [List.size_toArray]; omega)
    exact laidT (k := s.toks) (s := { s with heap := g }) (I.kept (t' := s.toks) kp) rfl (fun b o e => Heap.get?_push_of_some _ e) (Nat.le_refl _) z rel (Heap.get?_push_size _ rfl) n
  · obtain ⟨is, _, tp, _⟩ := I.tuple ht
    exact call_tuple_same tp ⟨.ref l, H, I, rfl, n⟩
theorem opn_tuple : OpN K oTuple (rTupN K) := fun G H ds vs Φ Q w hl hs h k => by
  unfold oTuple at h
  split at h
  · obtain ⟨v, rfl, s⟩ := one_sh hl hs
    obtain ⟨p, xs, rfl, e, r⟩ := s.list
    exact ⟨p, xs, rfl, .inl ⟨e, new_tup w k r h⟩⟩
  · obtain ⟨v, rfl, s⟩ := one_sh hl hs
    obtain ⟨p, xs, rfl, e, r, n⟩ := s.tupleN
    exact ⟨p, xs, rfl, .inr ⟨e, k _ _ G H h w (Grow.refl _ _) (Rep.tup (n := n) e r)⟩⟩
  · exact h.elim
def blsD : List D → Option (List Bool)
  | [] => some []
  | .bl i :: ds => (blsD ds).map (i :: ·)
  | _ :: _ => none
theorem blsD_rep {G : Gh} {H : Hp} : ∀ {ds : List D} {xs : List V} {ns : List Bool}, RepL K G H ds xs → blsD ds = some ns → xs = ns.map V.bl
  | _, _, _, .nil, e => by cases e; rfl
  | .bl i :: ds, _, ns, .cons r t, e => by
    cases r
    unfold blsD at e
    cases q : blsD ds with
    | none => rw [q] at e; cases e
    | some ms => rw [q] at e; cases e; rw [blsD_rep t q]; rfl
  | .non :: _, _, _, _, e => by cases e
  | .int _ :: _, _, _, _, e => by cases e
  | .str _ :: _, _, _, _, e => by cases e
  | .tup _ :: _, _, _, _, e => by cases e
  | .lst _ :: _, _, _, _, e => by cases e
  | .bag :: _, _, _, _, e => by cases e
  | .scr :: _, _, _, _, e => by cases e
  | .fn _ :: _, _, _, _, e => by cases e
  | .dct _ _ :: _, _, _, _, e => by cases e
  | .dcu _ _ :: _, _, _, _, e => by cases e
  | .ins _ _ _ :: _, _, _, _, e => by cases e
  | .unk :: _, _, _, _, e => by cases e
  | .ptr _ :: _, _, _, _, e => by cases e
def oAll : List D → (R → Prop) → Prop
  | [.lst ds], Φ => ∃ bs, blsD ds = some bs ∧ Φ (.fr (.bl (bs.all id)))
  | _, _ => False
def oAny : List D → (R → Prop) → Prop
  | [.lst ds], Φ => ∃ bs, blsD ds = some bs ∧ Φ (.fr (.bl (bs.any id)))
  | _, _ => False
theorem opn_all : OpN K oAll (rAll K) := fun G H ds vs Φ Q w hl hs h k => by
  unfold oAll at h
  split at h
  · obtain ⟨v, rfl, s⟩ := one_sh hl hs
    obtain ⟨p, xs, rfl, e, r⟩ := s.list
    obtain ⟨bs, en, h⟩ := h
    have ex := blsD_rep r en
    subst ex
    exact ⟨p, bs, rfl, e, k _ _ G H h w (Grow.refl _ _) (.bl _)⟩
  · exact h.elim
/-! ### times: ints; a list repeated -/
def oMulA : D → D → (R → Prop) → Prop
  | .int i, .int j, Φ => CMul i j ∧ Φ (.fr (.int (i * j)))
  | .lst ds, .int k, Φ => (-(2 ^ 63) ≤ k ∧ k < 2 ^ 63 ∧ ds.length * k.toNat ≤ sizeLine) ∧ Φ (.ow (.lst (List.replicate k.toNat ds).flatten))
  | _, _, _ => False
theorem RepL.rep {G : Gh} {H : Hp} {ds : List D} {xs : List V} (r : RepL K G H ds xs) : ∀ k : Nat, RepL K G H (List.replicate k ds).flatten (List.replicate k xs).flatten
  | 0 => .nil
  | k + 1 => by
    rw [List.replicate_succ, List.replicate_succ, List.flatten_cons, List.flatten_cons]
    exact r.append (RepL.rep r k)
def rMulA : R2 := fun x y H Q => (rI CMul fun i j => .int (i * j)) x y H Q ∨ rRep x y H Q
theorem op_mulA : OpR X (binaryOp .Mult) rMulA := op_mul.or op_rep
theorem op2_mulA : Op2 K oMulA rMulA := fun G H d e v u Φ Q w s1 s2 h k => by
  unfold oMulA at h
  split at h
  · cases s1.i; cases s2.i
    exact .inl ⟨_, _, rfl, rfl, h.1, k _ _ G H h.2 w (Grow.refl _ _) (.int _)⟩
  · obtain ⟨p, xs, rfl, e, r⟩ := s1.lst_at
    cases s2.i
    exact .inr ⟨p, _, xs, rfl, rfl, e, h.1.1, h.1.2.1, by rw [← r.length]; exact h.1.2.2, new_lst w k (r.rep _) h.2⟩
  · exact h.elim
end
end Tv
/-! Tv10: repr, texts' methods, changes of one's own list, more walks, several names at once. -/
namespace Tv
open PySem PySem.Spec PyProof.Rows L2
variable [LamT]

/-! ### repr -/
section
variable {X : Cx} {K : PySem.W.Frag}
def rRepr (K : PySem.W.Frag) : List V → Hp → VK → Prop := fun xs H Q => ∃ x d, xs = [x] ∧ Dp K H x d ∧ d.canLay0 = true ∧ d.depth ≤ 64 ∧ d.showable = true ∧ d.shown.length ≤ sizeLine ∧ Q (.str d.shown) H
theorem call_reprA (hg : X.A.guards = some []) (hu : X.A.units + 65 < cLine) : CallR X (.builtin "repr") (rRepr X.K) := by
  intro pins s σ H xs us Q I r h
  obtain ⟨x, d, rfl, hd, hc, hdep, hs, hz, q⟩ := h
  obtain ⟨u, rfl, ru⟩ := vals1 r
  obtain ⟨as, rd⟩ := Dp.reads I d x u hd ru
  cases rd with
  | none =>
    cases hd
    rw [PyData.shown_none] at q
    exact P.repr_of_none ⟨.str _, H, I.tok _, ⟨_, rfl⟩, q⟩
  | bool b =>
    cases hd
    rw [PyData.shown_bool] at q
    exact P.repr_of_bool ⟨.str _, H, I.tok _, ⟨_, rfl⟩, q⟩
  | int i t =>
    cases hd
    rw [PyData.shown_int] at q
    exact P.repr_of_int (by simpa [PyData.showable] using hs) ⟨.str _, H, I.tok _, ⟨_, rfl⟩, q⟩
  | str y t =>
    cases hd
    rw [PyData.shown_str] at q hz
    exact P.repr_of_str ⟨.str _, H, I.tok _, ⟨_, rfl⟩, q⟩ hz
  | list h1 h2 h3 h4 =>
    exact repr_of_reads' (.list h1 h2 h3 h4) hs (PyData.noDict_hsm (PyData.hasDict_of_canLay _ hc)) hg (by omega) (fun _ _ e => e) (fun h' t tk hk => ⟨.str _, H, I.kept hk, ⟨_, rfl⟩, q⟩) hz
  | tuple h1 h2 h3 h4 =>
    exact repr_of_reads' (.tuple h1 h2 h3 h4) hs (PyData.noDict_hsm (PyData.hasDict_of_canLay _ hc)) hg (by omega) (fun _ _ e => e) (fun h' t tk hk => ⟨.str _, H, I.kept hk, ⟨_, rfl⟩, q⟩) hz
  | dict h1 h2 h3 h4 h5 => simp [PyData.canLay0] at hc
mutual
/-- at most so many signs are shown -/
def D.cost : D → Nat
  | .int i => i.natAbs.log2 + 3
  | .str x => 10 * x.length + 2
  | .tup ds => D.costL ds + 3
  | .lst ds => D.costL ds + 3
  | _ => 5
def D.costL : List D → Nat
  | [] => 0
  | d :: ds => d.cost + 2 + D.costL ds
end
mutual
/-- no int that is too long to be shown -/
def D.sho : D → Bool
  | .int i => decide (i.natAbs.log2 < 1920)
  | .tup ds => D.shoL ds
  | .lst ds => D.shoL ds
  | _ => true
def D.shoL : List D → Bool
  | [] => true
  | d :: ds => d.sho && D.shoL ds
end
mutual
theorem sho_py : ∀ d : D, d.sho = true → d.py.showable = true
  | .non, _ => by simp [D.py, PyData.showable]
  | .bl _, _ => by simp [D.py, PyData.showable]
  | .int i, h => by simpa [D.py, D.sho, PyData.showable] using h
  | .str _, _ => by simp [D.py, PyData.showable]
  | .tup ds, h => by
    simp only [D.py, PyData.showable]
    exact sho_pyL ds (by simpa [D.sho] using h)
  | .lst ds, h => by
    simp only [D.py, PyData.showable]
    exact sho_pyL ds (by simpa [D.sho] using h)
  | .bag, _ => by simp [D.py, PyData.showable]
  | .scr, _ => by simp [D.py, PyData.showable]
  | .fn _, _ => by simp [D.py, PyData.showable]
  | .dct _ _, _ => by simp [D.py, PyData.showable]
  | .dcu _ _, _ => by simp [D.py, PyData.showable]
  | .ins _ _ _, _ => by simp [D.py, PyData.showable]
  | .unk, _ => by simp [D.py, PyData.showable]
  | .ptr _, _ => by simp [D.py, PyData.showable]
theorem sho_pyL : ∀ ds : List D, D.shoL ds = true → PyData.showableAll (D.pyL ds) = true
  | [], _ => by simp [D.pyL, PyData.showableAll]
  | d :: ds, h => by
    simp only [D.shoL, Bool.and_eq_true] at h
    simp only [D.pyL, PyData.showableAll, Bool.and_eq_true]
    exact ⟨sho_py d h.1, sho_pyL ds h.2⟩
end
theorem lenS (x : String) : (Str.ofString x).length = x.length := PySem.ofString_length x
mutual
theorem shown_cost : ∀ d : D, d.good = true → d.py.shown.length ≤ d.cost
  | .non, _ => by rw [show D.non.py = .none from rfl, PyData.shown_none, lenS]; decide
  | .bl b, _ => by rw [show (D.bl b).py = .bool b from rfl, PyData.shown_bool]; cases b <;> decide
  | .int i, _ => by
    rw [show (D.int i).py = .int i from rfl, PyData.shown_int, lenS]
    have z := int_text_length_le (a := i) (k := i.natAbs.log2 + 1) (by omega) (by omega)
    show _ ≤ i.natAbs.log2 + 3
    omega
  | .str x, h => by
    rw [show (D.str x).py = .str x from rfl, PyData.shown_str]
    refine StrLaws.reprText_len x fun c hc => ?_
    have h' : x.cps.all (· < 0x110000) = true := h
    rw [← Array.all_toList, List.all_eq_true] at h'
    have := of_decide_eq_true (h' c hc)
    omega
  | .tup ds, h => by
    rw [show (D.tup ds).py = .tuple (D.pyL ds) from rfl]
    simp only [PyData.shown]
    have z := tupleText_len_le (PyData.shownAll (D.pyL ds))
    have y := shown_costL ds h
    show _ ≤ D.costL ds + 3
    omega
  | .lst ds, h => by
    rw [show (D.lst ds).py = .list (D.pyL ds) from rfl]
    simp only [PyData.shown]
    have z := listText_len_le (PyData.shownAll (D.pyL ds))
    have y := shown_costL ds h
    show _ ≤ D.costL ds + 3
    omega
  | .bag, h => nomatch h
  | .scr, h => nomatch h
  | .fn _, h => nomatch h
  | .dct _ _, h => nomatch h
  | .dcu _ _, h => nomatch h
  | .ins _ _ _, h => nomatch h
  | .unk, h => nomatch h
  | .ptr _, h => nomatch h
theorem shown_costL : ∀ ds : List D, D.goodL ds = true → ((PyData.shownAll (D.pyL ds)).map (·.length)).sum + 2 * (PyData.shownAll (D.pyL ds)).length ≤ D.costL ds
  | [], _ => by simp [D.pyL, PyData.shownAll, D.costL]
  | d :: ds, h => by
    have h' : (d.good && D.goodL ds) = true := h
    rw [Bool.and_eq_true] at h'
    have a := shown_cost d h'.1
    have b := shown_costL ds h'.2
    simp only [D.pyL, PyData.shownAll, List.map_cons, List.sum_cons, List.length_cons, D.costL]
    omega
end
/-- it may be shown -/
def okR (d : D) : Bool := okE d && d.sho && decide (d.cost ≤ 16777216)
def oRepr : List D → (R → Prop) → Prop
  | [d], Φ => okR d = true ∧ Φ (.fr (.str d.py.shown))
  | _, _ => False
theorem opn_repr : OpN K oRepr (rRepr K) := fun G H ds vs Φ Q w hl hs h k => by
  unfold oRepr at h
  split at h
  · obtain ⟨v, rfl, s⟩ := one_sh hl hs
    obtain ⟨hr, h⟩ := h
    unfold okR at hr
    simp only [Bool.and_eq_true, decide_eq_true_eq] at hr
    obtain ⟨⟨h1, h2⟩, h3⟩ := hr
    obtain ⟨a1, a2⟩ := okE_shaped h1
    unfold SeqAt.shaped at a1
    rw [Bool.and_eq_true, decide_eq_true_eq] at a1
    have e := sizeLine_eq
    exact ⟨v, _, rfl, s.dp a2, a1.1, a1.2, sho_py _ h2, by have := shown_cost _ a2; omega, k _ _ G H h w (Grow.refl _ _) (.str _)⟩
  · exact h.elim
end

/-! ### methods of texts -/
section
variable {K : PySem.W.Frag}
def isTxt : D → Prop
  | .str _ => True
  | _ => False
theorem txt_ty : ∀ G H d v, isTxt d → Sh K G H d v → tyV K "str" v H := fun G H d v t s => by
  unfold isTxt at t
  split at t
  · cases s.s; rfl
  · exact t.elim
def oSplit : D → List D → (R → Prop) → Prop
  | .str a, [.str b], Φ => (b.length == 0) = false ∧ a.length + 2 ≤ sizeLine ∧ Φ (.ow (.lst ((Txt.split a b).map D.str)))
  | _, _, _ => False
theorem strs_repL {G : Gh} {H : Hp} : ∀ ys : List Str, RepL K G H (ys.map D.str) (ys.map V.str)
  | [] => .nil
  | y :: ys => .cons (.str y) (strs_repL ys)
theorem opm_split : OpM K "str" oSplit (fun x xs H Q => ∃ a b, x = .str a ∧ xs = [.str b] ∧ (b.length == 0) = false ∧ a.length + 2 ≤ sizeLine ∧ rNewStrs (Txt.split a b) H Q) := fun G H d v ds vs Φ Q w s hl hs h k => by
  unfold oSplit at h
  split at h
  · obtain ⟨u, rfl, su⟩ := one_sh hl hs
    cases s.s; cases su.s
    exact ⟨_, _, rfl, rfl, h.1, h.2.1, new_lst w k (strs_repL _) h.2.2⟩
  · exact h.elim
def strsD : List D → Option (List Str)
  | [] => some []
  | .str i :: ds => (strsD ds).map (i :: ·)
  | _ :: _ => none
theorem strsD_rep {G : Gh} {H : Hp} : ∀ {ds : List D} {xs : List V} {ns : List Str}, RepL K G H ds xs → strsD ds = some ns → xs = ns.map V.str
  | _, _, _, .nil, e => by cases e; rfl
  | .str i :: ds, _, ns, .cons r t, e => by
    cases r
    unfold strsD at e
    cases q : strsD ds with
    | none => rw [q] at e; cases e
    | some ms => rw [q] at e; cases e; rw [strsD_rep t q]; rfl
  | .non :: _, _, _, _, e => by cases e
  | .bl _ :: _, _, _, _, e => by cases e
  | .int _ :: _, _, _, _, e => by cases e
  | .tup _ :: _, _, _, _, e => by cases e
  | .lst _ :: _, _, _, _, e => by cases e
  | .bag :: _, _, _, _, e => by cases e
  | .scr :: _, _, _, _, e => by cases e
  | .fn _ :: _, _, _, _, e => by cases e
  | .dct _ _ :: _, _, _, _, e => by cases e
  | .dcu _ _ :: _, _, _, _, e => by cases e
  | .ins _ _ _ :: _, _, _, _, e => by cases e
  | .unk :: _, _, _, _, e => by cases e
  | .ptr _ :: _, _, _, _, e => by cases e
theorem strsD_map : ∀ ys : List Str, strsD (ys.map D.str) = some ys
  | [] => rfl
  | y :: ys => by show (strsD (ys.map D.str)).map (y :: ·) = _; rw [strsD_map ys]; rfl
def oJoin : D → List D → (R → Prop) → Prop
  | .str a, [.lst ds], Φ => ∃ ys, strsD ds = some ys ∧ (ys.map (·.length)).sum + ys.length * a.length ≤ 16777216 ∧ Φ (.fr (.str (Txt.join a ys)))
  | .str a, [.tup ds], Φ => ∃ ys, strsD ds = some ys ∧ (ys.map (·.length)).sum + ys.length * a.length ≤ 16777216 ∧ Φ (.fr (.str (Txt.join a ys)))
  | _, _, _ => False
def oSIndex : D → List D → (R → Prop) → Prop
  | .str a, [.str b], Φ => ∃ i rest, Builtin.Str.occurrences a b 0 a.length 1 = i :: rest ∧ Φ (.fr (.int (i : Nat)))
  | _, _, _ => False
/-! ### changes of one's own list -/
/-- by values, all handed in being frozen -/
def OpF (K : PySem.W.Frag) (o : List D → List D → (List D → Prop) → Prop) (rr : V → List V → Hp → VK → Prop) : Prop :=
  ∀ G H a xs ds es vs Φ Q, Wd G H → H a = some (.lst xs) → RepL K G H ds xs → RepL K G H es vs → (∀ b, G.F b → b ≠ a) → o ds es Φ → (∀ ds' ys v', Φ ds' → RepL K G H ds' ys → Q v' (upd H a (.lst ys))) → rr (.ref a) vs H Q
def sMutF (o : List D → List D → (List D → Prop) → Prop) (i : Nat) (ws : WA) : WS := fun ρ S => match ρ[i]? with
  | some (.ow (.lst _)) => ws ρ fun rs ρ' => match ρ'[i]?, frs' rs with
    | some (.ow (.lst ds)), some es => o ds es fun ds' => S.nx (ρ'.set i (.ow (.lst ds')))
    | _, _ => False
  | _ => False
end
section
variable {X : Cx} {G0 : Gh} {H0 : Hp} {es : List Expr} {ws : WA} {pos : Pos} {K : PySem.W.Frag}
theorem tmutF {i : Nat} {o : List D → List D → (List D → Prop) → Prop} {rr : V → List V → Hp → VK → Prop} (ho : OpF K o rr) {D : Ends} {σ : L2.St} {H : Hp} (h : TSX K G0 H0 (sMutF o i ws) D σ H) :
    tDrop (tBM K "list" rr (tVar i) (TAX K G0 H0 ws)) D σ H := by
  obtain ⟨ρ, G, S, s, h, k⟩ := h
  unfold sMutF at h
  split at h
  · rename_i d0 e
    obtain ⟨a, e1, o1, z1⟩ := s.ow i _ e
    obtain ⟨xs0, hx0, _⟩ := o1.2.2
    refine ⟨.ref a, e1, ?_, ρ, G, _, s, h, fun rs ρ' vs G' H' q s' P L x => ?_⟩
    · exact .inl ⟨rfl, _, .inl (.inl hx0)⟩
    · split at q
      · rename_i ds es e2 e4
        obtain ⟨a2, e3, o2, z2⟩ := s'.ow i _ e2
        rw [e1] at e3; cases e3
        obtain ⟨xs, hx, rx⟩ := o2.2.2
        refine ho G' H' a xs ds es vs _ _ s'.wd hx rx (frs_rep x e4) (fun b hb z => o2.1 (z ▸ hb)) q fun ds' ys v' φ ry => ?_
        have f : FE G' H' G' (upd H' a (.lst ys)) := FE.wr hx o2.1
        obtain ⟨s2, f2⟩ := s'.write (d' := .lst ds') (o := .lst ys) e2 e1 hx ⟨ys, upd_same, ry.fe f⟩
        exact k.nx _ G' _ _ φ s2 ((P.fe s.wd).trans f2)
      · exact q.elim
  · exact h.elim
theorem s_mutF {i : Nat} {x name : Str} {p apos : Pos} {o : List D → List D → (List D → Prop) → Prop} {rr : V → List V → Hp → VK → Prop} (pe : ∀ {to : TE} {t : TA}, PE X (.Name x p) to → PA X es t → PE X (.Call (.Attribute (.Name x p) name apos) es [] pos) (tBM X.K "list" rr to t))
    (ho : OpF X.K o rr) (ha : PAI X G0 H0 es ws) {pos' : Pos} (hN : X.N[i]? = some x := by rfl) (hv : Vis X.env.scope x := by first | exact Or.inl rfl | exact Or.inr (Or.inl rfl) | exact Or.inr (Or.inr rfl)) (hd : (x == ("__debug__" : Str)) = false := by decide)
    (hcd : (x == ("__classdict__" : Str)) = false := by decide) (hs : swapsWith (.Call (.Attribute (.Name x p) name apos) es [] pos) none pos'.line X.env = pure false := by rfl) :
    PSI X G0 H0 (.Expr (.Call (.Attribute (.Name x p) name apos) es [] pos) pos') (sMutF o i ws) :=
  ps_imp (ps_expr (pe (pe_var hN hv hd hcd) ha) hs) fun _ _ _ h => tmutF ho h
/-- .. with no argument -/
def sMut0 (o : List D → (List D → Prop) → Prop) (i : Nat) : WS := fun ρ S => match ρ[i]? with
  | some (.ow (.lst ds)) => o ds fun ds' => S.nx (ρ.set i (.ow (.lst ds')))
  | _ => False
def owApp : List D → List D → (List D → Prop) → Prop
  | ds, [d], Φ => ds.length < sizeLine ∧ Φ (ds ++ [d])
  | _, _, _ => False
theorem RepL.snoc {G : Gh} {H : Hp} {ds : List D} {xs : List V} {d : D} {v : V} (r : RepL K G H ds xs) (x : Rep K G H d v) : RepL K G H (ds ++ [d]) (xs ++ [v]) := r.append (.cons x .nil)
theorem opf_app : OpF K owApp rAppend := fun G H a xs ds es vs Φ Q w hx rx re _ h k => by
  unfold owApp at h
  split at h
  · cases re with
    | cons r1 r2 =>
      cases r2
      exact ⟨a, xs, _, rfl, rfl, hx, by rw [← rx.length]; exact h.1, k _ _ _ h.2 (rx.snoc r1)⟩
  · exact h.elim
def owExt : List D → List D → (List D → Prop) → Prop
  | ds, [.lst es], Φ => ds.length + es.length ≤ sizeLine ∧ Φ (ds ++ es)
  | _, _, _ => False
def owIns : List D → List D → (List D → Prop) → Prop
  | ds, [.int i, d], Φ => ds.length < sizeLine ∧ 0 ≤ i ∧ i < 2 ^ 63 ∧ Φ (ds.take i.toNat ++ [d] ++ ds.drop i.toNat)
  | _, _, _ => False
theorem opf_ins : OpF K owIns (fun x vs H Q => ∃ (l : Addr) (xs : List V) (i : Int) (y : V), x = .ref l ∧ vs = [.int i, y] ∧ H l = some (.lst xs) ∧ xs.length < sizeLine ∧ 0 ≤ i ∧ i < 2 ^ 63 ∧
    Q .non (upd H l (.lst (xs.take i.toNat ++ [y] ++ xs.drop i.toNat)))) := fun G H a xs ds es vs Φ Q w hx rx re _ h k => by
  unfold owIns at h
  split at h
  · cases re with
    | cons r1 r2 =>
      cases r1
      cases r2 with
      | cons r2 r3 =>
        cases r3
        exact ⟨a, xs, _, _, rfl, rfl, hx, by rw [← rx.length]; exact h.1, h.2.1, h.2.2.1, k _ _ _ h.2.2.2 (((rx.take _).snoc r2).append (rx.drop _))⟩
  · exact h.elim

/-! ### x op= y -/
def aAdd : D → D → (D → Prop) → Prop
  | .int i, .int j, Φ => Φ (.int (i + j))
  | .str a, .str b, Φ => a.length + b.length ≤ sizeLine ∧ Φ (.str (a ++ b))
  | _, _, _ => False
def aInt (C : Int → Int → Prop) (g : Int → Int → Int) : D → D → (D → Prop) → Prop
  | .int i, .int j, Φ => C i j ∧ Φ (.int (g i j))
  | _, _, _ => False
/-! ### or, by truth -/
variable {a b : Expr} {rest : List Expr} {wa wb : WE}
def wOrT (wa wb : WE) : WE := fun ρ Φ => wa ρ fun r ρ' => match truD r.d with
  | some true => Φ r ρ'
  | some false => wb ρ' Φ
  | none => False
theorem i_orT (ha : PEI X G0 H0 a wa) (hb : PEI X G0 H0 (.BoolOp .Or (b :: rest) pos) wb) : PEI X G0 H0 (.BoolOp .Or (a :: b :: rest) pos) (wOrT wa wb) := by
  refine pe_imp (pe_orT ha hb) fun σ H Q h => ?_
  obtain ⟨ρ, G, Φ, S, h, c⟩ := h
  refine ⟨ρ, G, _, S, h, fun r ρ' v G' H' q S' P L x => ?_⟩
  split at q
  · rename_i e
    exact ⟨true, truD_ok x.sh e, iteT (c r ρ' v G' H' q S' P L x)⟩
  · rename_i e
    exact ⟨false, truD_ok x.sh e, iteF ⟨ρ', G', Φ, S', q, fun r2 ρ2 v2 G2 H2 q2 S2 P2 L2 x2 => c r2 ρ2 v2 G2 H2 q2 S2 (P.trans S'.wd P2 L) (L2.trans L) (x2.back fun a z => P.nn S'.wd z)⟩⟩
  · exact q.elim

/-! ### several names at once -/
theorem Sta.put' {G : Gh} {H : Hp} {σ : L2.St} {ρ : En} {r : R} {w : V} {i : Nat} (s : Sta K G0 H0 ρ G H σ) (hσ : i < σ.length) (x : RepR K G H H0 r w) (hf : ∀ d a, r = .ow d → w = .ref a → ¬ OwnA ρ σ a) (ok : r.ok) : Sta K G0 H0 (ρ.set i r.cell) G H (σ.set i (some w)) := by
  have hi : i < ρ.length := Nat.lt_of_lt_of_le hσ s.ln.1
  have nc : ∀ a d, r.cell ≠ .st a d := by cases r <;> nofun
  refine ⟨s.wd, s.ex, s.w0, fun j d e => ?_, fun j d e => ?_, fun j k d d' a e1 e2 e3 e4 => ?_, (s.ln.set nc).setS, fun j c q => by
      by_cases hj : i = j
      · subst hj; rw [List.getElem?_set_self hi] at q; cases r <;> cases q
      · rw [List.getElem?_set_ne hj] at q ⊢; exact s.bo j c q, s.st.set nc⟩
  · by_cases hj : i = j
    · subst hj
      rw [List.getElem?_set_self hi] at e
      refine ⟨w, List.getElem?_set_self hσ, ?_⟩
      cases r <;> cases e
      exact x
    · rw [List.getElem?_set_ne hj] at e ⊢
      exact s.fr j d e
  · by_cases hj : i = j
    · subst hj
      rw [List.getElem?_set_self hi] at e
      cases r <;> cases e
      obtain ⟨a, ea, o, z⟩ := x
      exact ⟨a, by rw [ea]; exact List.getElem?_set_self hσ, o, z⟩
    · rw [List.getElem?_set_ne hj] at e ⊢
      exact s.ow j d e
  · have old : ∀ {m : Nat} {d : D}, m ≠ i → (ρ.set i r.cell)[m]? = some (.ow d) → (σ.set i (some w))[m]? = some (some (.ref a)) → OwnA ρ σ a := fun {m d} hm q1 q2 => by
      rw [List.getElem?_set_ne (Ne.symm hm)] at q1 q2
      exact ⟨m, d, q1, q2⟩
    have new : ∀ {d : D}, (ρ.set i r.cell)[i]? = some (.ow d) → (σ.set i (some w))[i]? = some (some (.ref a)) → ¬ OwnA ρ σ a := fun {d} q1 q2 => by
      rw [List.getElem?_set_self hi] at q1
      rw [List.getElem?_set_self hσ] at q2
      cases r <;> cases q1
      cases q2
      exact hf _ a rfl rfl
    by_cases hj : j = i
    · by_cases hk : k = i
      · rw [hj, hk]
      · subst hj
        exact absurd (old hk e2 e4) (new e1 e3)
    · by_cases hk : k = i
      · subst hk
        exact absurd (old hj e1 e3) (new e2 e4)
      · rw [List.getElem?_set_ne (Ne.symm hj)] at e1 e3
        rw [List.getElem?_set_ne (Ne.symm hk)] at e2 e4
        exact s.ds j k d d' a e1 e2 e3 e4
theorem OwnA.put {ρ : En} {σ : L2.St} {i : Nat} {r : R} {w : V} {a : Addr} (h : OwnA (ρ.set i r.cell) (σ.set i (some w)) a) : OwnA ρ σ a ∨ ((∃ d, r = .ow d) ∧ w = .ref a) := by
  obtain ⟨j, d, e1, e2⟩ := h
  by_cases hj : i = j
  · subst hj
    rw [List.getElem?_set] at e1 e2
    rw [if_pos rfl] at e1 e2
    split at e1
    · split at e2
      · refine .inr ⟨?_, by simpa using e2⟩
        cases r with
        | ow d' => exact ⟨d', rfl⟩
        | fr d' => cases e1
        | bo d' => cases e1
      · cases e2
    · cases e1
  · rw [List.getElem?_set_ne hj] at e1 e2
    exact .inl ⟨j, d, e1, e2⟩
def sPar (i j : Nat) (ws : WA) : WS := fun ρ S => ws ρ fun rs ρ' => match rs with
  | [r1, r2] => (i < ρ'.length ∧ j < ρ'.length) ∧ (r1.ok ∧ r2.ok) ∧ S.nx ((ρ'.set i r1.cell).set j r2.cell)
  | _ => False
theorem s_par {i j : Nat} {x y : Str} {px py pt : Pos} {kt k2 pt2} (hc : X.calm = true) (hN : X.N.Nodup) (hi : X.N[i]? = some x) (hj : X.N[j]? = some y) (hij : i ≠ j)
    (hx : X.env.scope.names.lookup x = some .local) (hy : X.env.scope.names.lookup y = some .local) (ha : PAI X G0 H0 [a, b] ws)
    (hw : swappedStores [.Tuple [.Name x px, .Name y py] kt pt] (.Tuple [a, b] k2 pt2) X.env = pure (some [x, y]))
    (hs : swapsWithSole [.Tuple [.Name x px, .Name y py] kt pt] (.Tuple [a, b] k2 pt2) pos.line X.env = pure false := by rfl) :
    PSI X G0 H0 (.Assign [.Tuple [.Name x px, .Name y py] kt pt] (.Tuple [a, b] k2 pt2) pos) (sPar i j ws) := by
  refine ps_impL (ps_par hc hN hi hj hij hx hy ha hw hs) fun D σ H hlen h => ?_
  obtain ⟨ρ, G, S, s, h, k⟩ := h
  refine ⟨ρ, G, _, s, h, fun rs ρ' vs G' H' q s' P L x => ?_⟩
  split at q
  · rename_i r1 r2
    obtain ⟨⟨h1, h2⟩, ⟨o1, o2⟩, q⟩ := q
    cases x with
    | cons x1 xr n1 =>
      rename_i v1 vr
      cases xr with
      | cons x2 xr n2 =>
        rename_i v2 vr2
        cases xr
        refine ⟨v1, v2, rfl, k.nx _ G' H' _ q ?_ (P.fe s.wd)⟩
        have fresh : ∀ {r : R} {v : V}, RepR X.K G' H' H r v → ∀ d a, r = .ow d → v = .ref a → ¬ OwnA ρ' σ a := fun {r v} xr d a e1 e2 z => by
          subst e1 e2
          obtain ⟨a', ea, _, hn⟩ := xr
          cases ea
          exact s.hO L a z hn
        have s1 := s'.put' (lt_of_N hi hlen) (x1.back fun a z => s.none0 z) (fresh x1) o1
        refine s1.put' (by rw [List.length_set]; exact lt_of_N hj hlen) (x2.back fun a z => s.none0 z) (fun d a e1 e2 z => ?_) o2
        rcases z.put with z | ⟨⟨d', e3⟩, e4⟩
        · exact fresh x2 d a e1 e2 z
        · exact n1 d' e3 (r2, v2) List.mem_cons_self ⟨d, e1⟩ (by rw [e2, e4])
  · exact q.elim
end
end Tv
/-! Tv11: walks over texts, pairs. -/
namespace Tv
open PySem PySem.Spec PyProof.Rows L2
variable [LamT]

section
variable {X : Cx} {G0 : Gh} {H0 : Hp} {e e2 tg : Expr} {wa : WE} {ws : WA} {pos p tpos : Pos} {K : PySem.W.Frag} {G : Gh} {H : Hp} {elts : List Expr} {kk : Nat}
/-- the signs of a text -/
def sgD (x : Str) : List D := x.cps.toList.map fun c => .str ⟨#[c]⟩
def wStrI (wa : WE) : WI := fun ρ Φ => wa ρ fun r ρ' => match r.d with
  | .str x => Φ (sgD x) ρ'
  | _ => False
/-! ### enumerate -/
def enD (ds : List D) : List D := ds.mapIdx fun i d => .tup [.int (i : Nat), d]
def wEnum (ws : WA) : WI := fun ρ Φ => ws ρ fun rs ρ' => match rs with
  | [.fr (.lst ds)] => Φ (enD ds) ρ'
  | _ => False
/-! ### enumerate(text) -/
def wEnumS (ws : WA) : WI := fun ρ Φ => ws ρ fun rs ρ' => match rs.map R.d with
  | [.str x] => Φ (enD (sgD x)) ρ'
  | _ => False
/-! ### zip -/
def zpD (xs ys : List D) : List D := List.zipWith (fun x y => D.tup [x, y]) xs ys
def wZip (ws : WA) : WI := fun ρ Φ => ws ρ fun rs ρ' => match rs with
  | [.fr (.lst ds), .fr (.lst es)] => Φ (zpD ds es) ρ'
  | _ => False
end
end Tv
/-! Tv12: the bag of numbers: its making, looks at it, stores into it; stores into one's own list. -/
namespace Tv
open PySem PySem.Spec PyProof.Rows L2
variable [LamT]

section
variable {X : Cx}
theorem get_list : PGet X (rIxL X.K) := by
  intro pins s σ H x y v u Q I rx ry h
  obtain ⟨p, xs, i, z, rfl, rfl, hq, he, q⟩ := h
  cases rx
  obtain ⟨t, rfl⟩ := ry
  obtain ⟨its, r, pl, hz⟩ := I.list hq
  obtain ⟨j, h1, h2, h3, h4, h5⟩ := atI_get he
  obtain ⟨w, ew, rw'⟩ := r.get h2
  have hl := r.length
  have hn := line63
  by_cases h0 : 0 ≤ i
  · have hj : i.toNat = j := by
      have e := seqIndex_of h0 h5
      rw [e] at h1
      cases h1
      rfl
    exact wpAny_getItem_list pl.isList h0 (by omega) (by rw [hj]; simpa using ew) ⟨z, H, I, rw', q⟩
  · have hj : (i + (its.toArray.size : Int)).toNat = j := by
      have e := seqIndex_neg (show i < 0 by omega) h4
      rw [e] at h1
      cases h1
      rw [List.size_toArray, ← hl]
    exact wpAny_getItem_list_neg pl.isList (by omega) (by rw [List.size_toArray] <;> omega) (by omega) (by rw [hj]; simpa using ew) ⟨z, H, I, rw', q⟩
end

section
variable {X : Cx} {G0 : Gh} {H0 : Hp} {e : Expr} {wa : WE} {ws : WA} {pos pb pc pt : Pos} {K : PySem.W.Frag} {G : Gh} {H : Hp} {a : Addr}
theorem ints_repL : ∀ ns : List Int, RepL K G H (ns.map D.int) (ns.map V.int)
  | [] => .nil
  | n :: ns => .cons (.int n) (ints_repL ns)
/-! ### looks at the bag -/
def oBag : D → D → (R → Prop) → Prop
  | .bag, .int i, Φ => if i = 0 then ∀ n, 0 ≤ n → Φ (.fr (.int n)) else if i = 1 then ∀ n, 0 ≤ n → n < 2147483647 → Φ (.fr (.int n)) else if i = 2 then ∀ n, 0 ≤ n → Φ (.fr (.int n)) else if i = 3 then ∀ ns : List Int, BagL ns → Φ (.fr (.lst (ns.map D.int))) else False
  | _, _, _ => False
theorem op2_bag : Op2 K oBag (rIx K) := fun G H d e v u Φ Q w s1 s2 h k => by
  unfold oBag at h
  split at h
  · rename_i _ i
    cases s2.i
    rcases s1 with s1 | ⟨a, _, _, s1⟩
    · cases s1 with
      | @bag a hb ht =>
        obtain ⟨x, y, z, r, ns, ea, lr, h1, h2, h3, h4, h5⟩ := w.bag hb ht
        have l : SqL K H a [.int x, .int y, .int z, .ref r] := .inl (.inl ea)
        by_cases c0 : i = 0
        · subst c0
          exact .inl ⟨a, _, _, _, rfl, rfl, l, rfl, k _ _ G H (h x h1) w (Grow.refl _ _) (.int _)⟩
        · rw [if_neg c0] at h
          by_cases c1 : i = 1
          · subst c1
            exact .inl ⟨a, _, _, _, rfl, rfl, l, rfl, k _ _ G H (h y h2 h3) w (Grow.refl _ _) (.int _)⟩
          · rw [if_neg c1] at h
            by_cases c2 : i = 2
            · subst c2
              exact .inl ⟨a, _, _, _, rfl, rfl, l, rfl, k _ _ G H (h z h4) w (Grow.refl _ _) (.int _)⟩
            · rw [if_neg c2] at h
              by_cases c3 : i = 3
              · subst c3
                exact .inl ⟨a, _, _, _, rfl, rfl, l, rfl, k _ _ G H (h ns h5) w (Grow.refl _ _) (.lst lr (ints_repL ns))⟩
              · rw [if_neg c3] at h
                exact h.elim
    · exact s1.elim
  · exact h.elim

/-! ### stores into it -/
def bagOk (c : Int) (n : Int) : Prop := if c = 0 then 0 ≤ n else if c = 1 then 0 ≤ n ∧ n < 2147483647 else if c = 2 then 0 ≤ n else False
theorem Sta.wrBag {ρ : En} {σ : L2.St} {c n : Int} {j : Nat} {xs : List V} (s : Sta K G0 H0 ρ G H σ) (hb : G.B a) (ht : ¬ (isTab a ∨ G.M a)) (hx : H a = some (.lst xs)) (hc : bagOk c n) (hj : ixN xs.length c = some j) : Sta K G0 H0 ρ G (upd H a (.lst (xs.set j (.int n)))) σ ∧ FE G H G (upd H a (.lst (xs.set j (.int n)))) := by
  obtain ⟨ba, hf⟩ := s.wd.b a hb
  have f : FE G H G (upd H a (.lst (xs.set j (.int n)))) := FE.wr hx hf
  have tt : ∀ p ∈ LamT.tabs, G.B p.1 ∧ TabAt G (upd H a (.lst (xs.set j (.int n)))) p.1 p.2 := fun p hp =>
    ⟨(s.wd.t p hp).1, (s.wd.t p hp).2.on (fun ps e => (upd_ne (show p.1 ≠ a from fun z => ht (.inl ⟨p.2, by rw [← z]; exact hp⟩))).trans e) fun c o e ⟨φ, q⟩ n hco => ⟨(upd_ne (show c ≠ a from fun z => by rw [z, hx, q] at e; cases e)).trans e, n⟩⟩
  have nm : ∀ b, G.M b → ∀ o, H b = some o → upd H a (.lst (xs.set j (.int n))) b = some o := fun b hb o e => (upd_ne (show b ≠ a from fun z => ht (.inr (z ▸ hb)))).trans e
  refine ⟨⟨⟨fun b h => ?_, fun b h => ?_, tt, fun b h => ⟨(s.wd.m b h).1, let ⟨o, e, y⟩ := (s.wd.m b h).2; ⟨o, nm b h o e, y⟩⟩⟩, ⟨s.ex.f, s.ex.b, fun b o e nb => ?_, s.ex.nf, s.ex.nb, s.ex.nm⟩, s.w0, fun i d e => ?_, fun i d e => ?_, s.ds, s.ln, s.bo, s.st.fe f fun b h => ⟨h, nm b h⟩⟩, f⟩
  · obtain ⟨bb, nb⟩ := s.wd.b b h
    refine ⟨?_, nb⟩
    by_cases hba : b = a
    · subst hba
      refine .inr ?_
      obtain ⟨x, y, z, r, ns, ea, lr, h1, h2, h3, h4, h5⟩ := bb.resolve_left ht
      rw [hx] at ea
      cases ea
      have lr' := lr.fe f
      unfold bagOk at hc
      by_cases c0 : c = 0
      · subst c0
        obtain rfl : j = 0 := by have e : some 0 = some j := hj; cases e; rfl
        rw [if_pos rfl] at hc
        exact ⟨n, y, z, r, ns, upd_same, lr', hc, h2, h3, h4, h5⟩
      · rw [if_neg c0] at hc
        by_cases c1 : c = 1
        · subst c1
          obtain rfl : j = 1 := by have e : some 1 = some j := hj; cases e; rfl
          rw [if_pos rfl] at hc
          exact ⟨x, n, z, r, ns, upd_same, lr', h1, hc.1, hc.2, h4, h5⟩
        · rw [if_neg c1] at hc
          by_cases c2 : c = 2
          · subst c2
            obtain rfl : j = 2 := by have e : some 2 = some j := hj; cases e; rfl
            rw [if_pos rfl] at hc
            exact ⟨x, y, n, r, ns, upd_same, lr', h1, h2, h3, hc, h5⟩
          · rw [if_neg c2] at hc
            exact hc.elim
    · exact bb.imp id fun ⟨x, y, z, r, ns, ea, lr, q⟩ => ⟨x, y, z, r, ns, (upd_ne hba).trans ea, lr.fe f, q⟩
  · obtain ⟨o, e⟩ := s.wd.f b h
    exact ⟨o, (upd_ne (show b ≠ a from fun z => hf (z ▸ h))).trans e⟩
  · by_cases hba : b = a
    · subst hba
      rcases s.ex.nb b hb with z | z
      · exact absurd z nb
      · rw [z] at e; cases e
    · rw [upd_ne hba]
      exact s.ex.k b o e nb
  · obtain ⟨v, e1, r⟩ := s.fr i d e
    exact ⟨v, e1, r.fe f⟩
  · obtain ⟨b, e1, ⟨p1, p2, p3⟩, z1⟩ := s.ow i d e
    have hba : b ≠ a := fun z => p2 (z ▸ hb)
    exact ⟨b, e1, ⟨p1, p2, p3.fe f fun o' z => by rw [upd_ne hba]; exact z⟩, z1⟩
def sBagSet (i : Nat) (c : Int) (wa : WE) : WS := fun ρ S => wa ρ fun r ρ' => match ρ'[i]?, r with
  | some (.fr .bag), .fr (.int n) => bagOk c n ∧ S.nx ρ'
  | _, _ => False
theorem s_bagSet {i : Nat} {x : Str} {c : Int} {j : Nat} (he : PEI X G0 H0 e wa) (hN : X.N[i]? = some x := by rfl) (hv : Vis X.env.scope x := by first | exact Or.inl rfl | exact Or.inr (Or.inl rfl) | exact Or.inr (Or.inr rfl)) (hd : (x == ("__debug__" : Str)) = false := by decide)
    (hcd : (x == ("__classdict__" : Str)) = false := by decide)
    (ha : ∀ v, assign (.Subscript (.Name x pb) (.Constant (.int c) j pc) pt) X.env v = (do
      let ov ← holding [v] (eval (.Name x pb) X.env)
      let iv ← holding [v, ov] (eval (.Constant (.int c) j pc) X.env)
      standAt pt
      holding [v, ov, iv] (setItem ov iv v)
      release [v, ov, iv] []) := by intro _; rfl)
    (hs : swapsWithSole [.Subscript (.Name x pb) (.Constant (.int c) j pc) pt] e pos.line X.env = pure false := by rfl) (hw : swappedStores [.Subscript (.Name x pb) (.Constant (.int c) j pc) pt] e X.env = pure none := by rfl)
    (h1 : (assignEach [.Subscript (.Name x pb) (.Constant (.int c) j pc) pt] X.env).map (·.2) = [assign (.Subscript (.Name x pb) (.Constant (.int c) j pc) pt) X.env] := by rfl) :
    PSI X G0 H0 (.Assign [.Subscript (.Name x pb) (.Constant (.int c) j pc) pt] e pos) (sBagSet i c wa) := by
  refine ps_imp (ps_asg he (pg_sub (pe_var hN hv hd hcd) pe_int set_list ha) hs hw h1) fun D σ H h => ?_
  obtain ⟨ρ, G, S, s, h, k⟩ := h
  refine ⟨ρ, G, _, s, h, fun r ρ' v G' H' q s' P L x => ?_⟩
  split at q
  · rename_i n e1
    cases x
    obtain ⟨w, e2, rw'⟩ := s'.fr i _ e1
    cases rw' with
    | @bag a hb ht =>
      obtain ⟨xs, hx⟩ : ∃ xs, H' a = some (.lst xs) := let ⟨_, _, _, _, _, ea, _⟩ := s'.wd.bag hb ht; ⟨_, ea⟩
      obtain ⟨hc, q⟩ := q
      have hj : ∃ j, ixN xs.length c = some j := by
        obtain ⟨x, y, z, r, ns, ea, _⟩ := s'.wd.bag hb ht
        rw [hx] at ea
        cases ea
        unfold bagOk at hc
        by_cases c0 : c = 0
        · subst c0; exact ⟨0, rfl⟩
        · rw [if_neg c0] at hc
          by_cases c1 : c = 1
          · subst c1; exact ⟨1, rfl⟩
          · rw [if_neg c1] at hc
            by_cases c2 : c = 2
            · subst c2; exact ⟨2, rfl⟩
            · rw [if_neg c2] at hc; exact hc.elim
      obtain ⟨j, hj⟩ := hj
      obtain ⟨s2, f2⟩ := s'.wrBag hb ht hx hc hj
      exact ⟨_, e2, a, xs, c, j, rfl, rfl, hx, hj, k.nx _ G' _ _ q s2 ((P.fe s.wd).trans f2)⟩
  · exact q.elim
/-- bag[2] += m -/
def sBagAug (i : Nat) (c m : Int) : WS := fun ρ S => c = 2 ∧ 0 ≤ m ∧ ρ[i]?.isSome = true ∧ (∀ d, ρ[i]? = some d → d = .fr .bag) ∧ S.nx ρ
theorem s_bagAug {i : Nat} {x : Str} {c m : Int} {j j2 : Nat} {pm : Pos} (hN : X.N[i]? = some x := by rfl) (hv : Vis X.env.scope x := by first | exact Or.inl rfl | exact Or.inr (Or.inl rfl) | exact Or.inr (Or.inr rfl)) (hd : (x == ("__debug__" : Str)) = false := by decide)
    (hcd : (x == ("__classdict__" : Str)) = false := by decide)
    (ha : ∀ ov iv new, augStore (.Constant (.int c) j pc) ov iv new = (do holding [new, ov, iv] (setItem ov iv new); release [new, ov, iv] []; pure .next) := by intros; rfl) :
    PSI X G0 H0 (.AugAssign (.Subscript (.Name x pb) (.Constant (.int c) j pc) pt) .Add (.Constant (.int m) j2 pm) pos) (sBagAug i c m) := by
  refine ps_imp (ps_augS (pe_var hN hv hd hcd) pe_int get_list pe_int ip_add set_list ha) fun D σ H h => ?_
  obtain ⟨ρ, G, S, s, ⟨rfl, hm, h1, h2, h⟩, k⟩ := h
  obtain ⟨d, hd⟩ := Option.isSome_iff_exists.mp h1
  obtain rfl := h2 d hd
  obtain ⟨w, e2, rw'⟩ := s.fr i _ hd
  cases rw' with
  | @bag a hb ht =>
    obtain ⟨x, y, z, r, ns, ea, lr, q1, q2, q3, q4, q5⟩ := s.wd.bag hb ht
    have hj : ixN [V.int x, .int y, .int z, .ref r].length 2 = some 2 := rfl
    obtain ⟨s2, f2⟩ := s.wrBag (c := 2) (n := z + m) hb ht ea (show 0 ≤ z + m by omega) hj
    exact ⟨_, e2, a, _, 2, .int z, rfl, rfl, .inl (.inl ea), rfl, z, m, rfl, rfl, a, _, 2, 2, rfl, rfl, ea, hj, k.nx _ G _ _ h s2 f2⟩
/-- if bag[2] < len(bag[3]): x = bag[3][bag[2]] -/
def sBagPick (i j : Nat) : WS := fun ρ S => ρ[i]? = some (.fr .bag) ∧ j < ρ.length ∧ S.nx ρ ∧ ∀ n, 0 ≤ n → S.nx (ρ.set j (.fr (.int n)))
theorem s_bagPick {i j : Nat} {x y : Str} {p1 p2 p3 p4 p5 p6 p7 p8 p9 q1 q2 q3 q4 q5 q6 q7 q8 : Pos} {k1 k2 k3 k4 : Nat} (hNd : X.N.Nodup) (hN : X.N[i]? = some x) (hj : X.N[j]? = some y) (hy : X.env.scope.names.lookup y = some .local)
    (hg : Gl X "len") (hm : X.mg "len" = none) (hv : Vis X.env.scope x := by first | exact Or.inl rfl | exact Or.inr (Or.inl rfl) | exact Or.inr (Or.inr rfl)) (hd : (x == ("__debug__" : Str)) = false := by decide) (hcd : (x == ("__classdict__" : Str)) = false := by decide)
    (he : starEach [Expr.Subscript (.Name x p4) (.Constant (.int 3) k2 p5) p6] X.env = (false, eval (.Subscript (.Name x p4) (.Constant (.int 3) k2 p5) p6) X.env) :: starEach [] X.env := by rfl)
    (hpl : (backTo p8 (starEach [] X.env)).any (·.1) = false := by rfl)
    (hs : swapsWith (.Subscript (.Subscript (.Name x q2) (.Constant (.int 3) k3 q3) q4) (.Subscript (.Name x q5) (.Constant (.int 2) k4 q6) q7) q8) (some (.Name y q1)) p9.line X.env = pure false := by rfl)
    (hm2 : behindInMarks .Lt (.Call (.Name "len" p7) [.Subscript (.Name x p4) (.Constant (.int 3) k2 p5) p6] [] p8) = false := by rfl)
    (hsx1 : PlainIx (.Constant (.int 2) k1 p2) := by intro _ _; rfl) (hsx2 : PlainIx (.Constant (.int 3) k2 p5) := by intro _ _; rfl) (hsx3 : PlainIx (.Constant (.int 3) k3 q3) := by intro _ _; rfl) (hsx4 : PlainIx (.Constant (.int 2) k4 q6) := by intro _ _; rfl)
    (hsx5 : PlainIx (.Subscript (.Name x q5) (.Constant (.int 2) k4 q6) q7) := by intro _ _; rfl) :
    PSI X G0 H0 (.If (.Compare (.Subscript (.Name x p1) (.Constant (.int 2) k1 p2) p3) [.Lt] [.Call (.Name "len" p7) [.Subscript (.Name x p4) (.Constant (.int 3) k2 p5) p6] [] p8] pb)
      [.Assign [.Name y q1] (.Subscript (.Subscript (.Name x q2) (.Constant (.int 3) k3 q3) q4) (.Subscript (.Name x q5) (.Constant (.int 2) k4 q6) q7) q8) p9] [] pos) (sBagPick i j) := by
  have nv {p : Pos} : PE X (.Name x p) (tVar i) := pe_var hN hv hd hcd
  refine ps_impL (ps_if (pt_cmpR op_ltA (pe_ix ix_seq nv pe_int hsx1) (pe_callB call_len hg hm boot_len (pa_cons (pe_ix ix_seq nv pe_int hsx2) pa_nil he) (he := he) (hpl := hpl)) hm2) (pss_one (ps_set hNd hj (.inl hy) (hf := .inr hy) (pe_ix ix_seq (pe_ix ix_seq nv pe_int hsx3) (pe_ix ix_seq nv pe_int hsx4) hsx5) hs)) pss_nil) fun D σ H hlen h => ?_
  obtain ⟨ρ, G, S, s, ⟨hρ, hl, h1, h2⟩, k⟩ := h
  obtain ⟨w, e2, rw'⟩ := s.fr i _ hρ
  cases rw' with
  | @bag a hb ht =>
    obtain ⟨x, y, z, r, ns, ea, lr, g1, g2, g3, g4, g5⟩ := s.wd.bag hb ht
    have l : SqL X.K H a [.int x, .int y, .int z, .ref r] := .inl (.inl ea)
    have at2 : ∀ {Q : VK}, Q (.int z) H → rIx X.K (.ref a) (.int 2) H Q := fun {Q} q => .inl ⟨a, _, _, _, rfl, rfl, l, rfl, q⟩
    have at3 : ∀ {Q : VK}, Q (.ref r) H → rIx X.K (.ref a) (.int 3) H Q := fun {Q} q => .inl ⟨a, _, _, _, rfl, rfl, l, rfl, q⟩
    refine ⟨_, e2, at2 ⟨_, e2, at3 ⟨.ref r, (ns.length : Nat), rfl, .inl ⟨_, lr.sq, by rw [List.length_map]⟩, .inl ⟨z, (ns.length : Nat), rfl, rfl, _, rfl, ?_⟩⟩⟩⟩
    by_cases c : z < (ns.length : Nat)
    · show if decide (z < ((ns.length : Nat) : Int)) = true then _ else _
      rw [if_pos (by simpa using c)]
      obtain ⟨j', hj'⟩ : ∃ n : Nat, z = n := ⟨z.toNat, by omega⟩
      subst hj'
      have hlt : j' < ns.length := by omega
      refine ⟨_, e2, at3 ⟨_, e2, at2 (.inl ⟨r, _, _, V.int ns[j'], rfl, rfl, lr.sq, ?_, ?_⟩)⟩⟩
      · show (ixN (ns.map V.int).length (j' : Int)).bind (fun j => (ns.map V.int)[j]?) = some (V.int ns[j'])
        unfold ixN
        rw [if_pos (Int.natCast_nonneg _), List.length_map, if_pos c]
        simp [hlt]
      · exact k.nx _ G H _ (h2 _ (g5.1 _ (List.getElem_mem hlt))) (s.put (r := .fr (.int ns[j'])) s (LeE.refl _) (lt_of_N hj hlen) (.int _) trivial) (FE.refl _ _)
    · show if decide (z < ((ns.length : Nat) : Int)) = true then _ else _
      rw [if_neg (by simpa using c)]
      exact k.nx _ G H σ h1 s (FE.refl _ _)
/-! ### the bag is made -/
def wSlScr (wa : WE) (wl wh : WO) : WE := fun ρ Φ => wa ρ fun r ρ1 => wl ρ1 fun lo ρ2 => wh ρ2 fun hi ρ3 => match r with
  | .fr .scr => ∀ ns : List Int, ns.length ≤ 63 → Φ (.ow (.lst (ns.map D.int))) ρ3
  | _ => False
theorem cut_map (ns : List Int) (lo hi : Option Int) : ∃ ms : List Int, cutV (ns.map V.int) lo hi = ms.map V.int ∧ ms.length ≤ ns.length := by
  unfold cutV
  refine ⟨(ns.drop (HT.sIx (ns.map V.int).length 0 lo)).take (HT.sIx (ns.map V.int).length (ns.map V.int).length hi - HT.sIx (ns.map V.int).length 0 lo), ?_, ?_⟩
  · rw [List.map_take, List.map_drop]
  · rw [List.length_take, List.length_drop]
    omega
theorem i_sliceScr {lo hi : Option Expr} {wl wh : WO} {p2 : Pos} (ha : PEI X G0 H0 e wa) (hl : POI X G0 H0 lo wl) (hh : POI X G0 H0 hi wh) : PEI X G0 H0 (.Subscript e (.Slice lo hi none p2) pos) (wSlScr wa wl wh) := by
  refine pe_imp (pe_slice sl_list ha hl hh) fun σ H Q h => ?_
  obtain ⟨ρ, G, Φ, S, h, c⟩ := h
  refine ⟨ρ, G, _, S, h, fun r ρ1 v G1 H1 q S1 P1 L1 x => ⟨ρ1, G1, _, S1, q, fun il ρ2 G2 H2 q2 S2 P2 L2 => ⟨ρ2, G2, _, S2, q2, fun ih ρ3 G3 H3 q3 S3 P3 L3 => ?_⟩⟩⟩
  have P12 := P1.trans S1.wd P2 L1
  have PP := P12.trans S2.wd P3 (L2.trans L1)
  have LL := L3.trans (L2.trans L1)
  have kk : ∀ r' v' G' H', Φ r' ρ3 → Wd G' H' → Grow G3 H3 G' H' → RepR X.K G' H' H3 r' v' → Q v' H' := fun r' v' G' H' φ w g x' => c r' ρ3 v' G' H' φ (S3.grow w g) (PP.trans S3.wd g.stp LL) LL (x'.back fun a z => PP.nn S3.wd z)
  split at q3
  · have x3 : Rep X.K G3 H3 .scr v := (Rep.fe (P2.fe S1.wd) x).fe (P3.fe S2.wd)
    cases x3 with
    | scr hs h63 =>
      rename_i a ns
      obtain ⟨ms, e1, e2⟩ := cut_map ns il ih
      refine ⟨a, _, rfl, hs.sq, ?_⟩
      rw [e1]
      exact new_lst (Φ := fun r => Φ r ρ3) S3.wd kk (ints_repL ms) (q3 ms (by omega))
  · exact q3.elim
def oAbs : List D → (R → Prop) → Prop
  | [.int i], Φ => Φ (.fr (.int (if i < 0 then -i else i)))
  | _, _ => False
theorem opn_abs : OpN K oAbs (fun xs H Q => ∃ i, xs = [.int i] ∧ Q (.int (if i < 0 then -i else i)) H) := fun G H ds vs Φ Q w hl hs h k => by
  unfold oAbs at h
  split at h
  · obtain ⟨v, rfl, s⟩ := one_sh hl hs
    cases s.i
    exact ⟨_, rfl, k _ _ G H h w (Grow.refl _ _) (.int _)⟩
  · exact h.elim
def Gh.addB (G : Gh) (a : Addr) : Gh := ⟨G.F, fun b => G.B b ∨ b = a, G.A, G.M⟩
/-- return of a new list that is the bag from now on -/
def sRetBag (wa : WE) : WS := fun ρ S => wa ρ fun r ρ' => match r with
  | .ow (.lst [.int i, .int j, .int k, .lst ds]) => ∃ ns, intsD ds = some ns ∧ 0 ≤ i ∧ 0 ≤ j ∧ j < 2147483647 ∧ 0 ≤ k ∧ BagL ns ∧ S.rt (.fr .bag) ρ'
  | _ => False
theorem s_retBag (h : PEI X G0 H0 e wa) : PSI X G0 H0 (.Return (some e) pos) (sRetBag wa) := by
  refine ps_imp (ps_ret h) fun D σ H h => ?_
  obtain ⟨ρ, G, S, s, h, k⟩ := h
  refine ⟨ρ, G, _, s, h, fun r ρ' v G' H' q s' P L x => ?_⟩
  split at q
  · rename_i i j m ds
    obtain ⟨ns, en, h1, h2, h3, h4, h5, q⟩ := q
    obtain ⟨a, rfl, ⟨o1, o2, xs, hx, rx⟩, hn⟩ := x
    have h0 : H0 a = none := s.none0 hn
    have f : FE G' H' (G'.addB a) H' := ⟨fun _ z => z, fun _ z n => ⟨.inl z, n⟩, fun _ _ _ z => z, fun _ _ z => z, fun _ _ _ z _ => z⟩
    have nm : ¬ G'.M a := fun z => o2 (s'.wd.m a z).1
    have nt : ¬ isTab a := fun ⟨q, z⟩ => by
      obtain ⟨_, ps, e, _⟩ := s'.wd.t _ z
      rw [hx] at e; cases e
    have tt : ∀ p ∈ LamT.tabs, (G'.addB a).B p.1 ∧ TabAt (G'.addB a) H' p.1 p.2 := fun p hp =>
      ⟨.inl (s'.wd.t p hp).1, (s'.wd.t p hp).2.on (fun _ e => e) fun c o e ⟨φ, q⟩ n hco => ⟨e, fun z => z.elim n fun z => by rw [z, hx, q] at e; cases e⟩⟩
    refine k.rt _ (.ref a) ρ' (G'.addB a) H' q trivial ⟨fun b hb => ?_, s'.wd.f, tt, fun b z => ⟨.inl (s'.wd.m b z).1, (s'.wd.m b z).2⟩⟩ ⟨s'.ex.f, fun b z => .inl (s'.ex.b b z), s'.ex.k, s'.ex.nf, fun b z => ?_, s'.ex.nm⟩ (.bag (.inr rfl) fun z => z.elim nt nm) (s'.st.fe f fun b z => ⟨z, fun _ e => e⟩)
    · rcases hb with hb | rfl
      · obtain ⟨bb, nb⟩ := s'.wd.b b hb
        exact ⟨bb.imp id fun ⟨x, y, z, r, ms, ea, lr, q⟩ => ⟨x, y, z, r, ms, ea, lr.fe f, q⟩, nb⟩
      · refine ⟨.inr ?_, o1⟩
        cases rx with
        | cons r1 rx =>
          cases r1
          cases rx with
          | cons r2 rx =>
            cases r2
            cases rx with
            | cons r3 rx =>
              cases r3
              cases rx with
              | cons r4 rx =>
                cases rx
                cases r4 with
                | lst l r4 =>
                  have e4 := intsD_rep r4 en
                  subst e4
                  exact ⟨i, j, m, _, ns, hx, l.fe f, h1, h2, h3, h4, h5⟩
    · rcases z with z | rfl
      · exact s'.ex.nb b z
      · exact .inr h0
  · exact q.elim
end
end Tv
/-! Tv13: constants of the text; and, by truth. -/
namespace Tv
open PySem PySem.Spec PyProof.Rows L2
variable [LamT]

def wr0 : Value → Option D
  | .none => some .non
  | .bool b => some (.bl b)
  | .int i _ => some (.int i)
  | .str x _ => some (.str x)
  | _ => none
def allS : List (Option D) → Option (List D)
  | [] => some []
  | o :: os => match o, allS os with
    | some d, some ds => some (d :: ds)
    | _, _ => none
/-- what the text has written, as a tree -/
def wrD (K : PySem.W.Frag) : Nat → Value → Option D
  | 0, v => wr0 v
  | n + 1, v => match v with
    | .ref a => match K.lookup a with
      | some o => match o.cls, o.data with
        | .type T, .seq its _ => if T = "tuple" ∧ its.size ≤ 16777216 ∧ o.dict.isNone = true then (allS (its.toList.map (wrD K n))).map D.tup else none
        | _, _ => none
      | none => none
    | v => wr0 v
section
variable {X : Cx} {G0 : Gh} {H0 : Hp} {K : PySem.W.Frag} {a b : Expr} {rest : List Expr} {wa wb : WE} {pos : Pos}
theorem wr0_rep {v : Value} {d : D} (e : wr0 v = some d) : ∃ x, RelV x v ∧ ∀ G H, Rep K G H d x := by
  unfold wr0 at e
  split at e
  · cases e; exact ⟨.non, rfl, fun _ _ => .non⟩
  · cases e; exact ⟨.bl _, rfl, fun _ _ => .bl _⟩
  · cases e; exact ⟨.int _, ⟨_, rfl⟩, fun _ _ => .int _⟩
  · cases e; exact ⟨.str _, ⟨_, rfl⟩, fun _ _ => .str _⟩
  · cases e
theorem allS_rep {f : Value → Option D} (hf : ∀ v d, f v = some d → ∃ x, RelV x v ∧ ∀ G H, Rep K G H d x) : ∀ {vs : List Value} {ds : List D}, allS (vs.map f) = some ds → ∃ xs, Vals xs vs ∧ ∀ G H, RepL K G H ds xs
  | [], ds, e => by
    have : some [] = some ds := e
    cases this
    exact ⟨[], .nil, fun _ _ => .nil⟩
  | v :: vs, ds, e => by
    have e' : (match f v, allS (vs.map f) with | some d, some ds => some (d :: ds) | _, _ => none) = some ds := e
    split at e'
    · rename_i d ds' e1 e2
      cases e'
      obtain ⟨x, r, rp⟩ := hf v d e1
      obtain ⟨xs, rs, rps⟩ := allS_rep hf e2
      exact ⟨x :: xs, .cons r rs, fun G H => .cons (rp G H) (rps G H)⟩
    · cases e'
theorem wrD_rep : ∀ {n : Nat} {v : Value} {d : D}, wrD K n v = some d → ∃ x, RelV x v ∧ ∀ G H, Rep K G H d x
  | 0, v, d, e => wr0_rep e
  | n + 1, v, d, e => by
    unfold wrD at e
    split at e
    · split at e
      · rename_i a _ o ho
        split at e
        · rename_i T its m hc hd
          split at e
          · rename_i hT
            cases q : allS (its.toList.map (wrD K n)) with
            | none => rw [q] at e; cases e
            | some ds =>
              rw [q] at e
              cases e
              obtain ⟨xs, r, rp⟩ := allS_rep (fun v d e => wrD_rep e) q
              exact ⟨.ref a, rfl, fun G H => Rep.tup (n := fun _ => .inr ⟨o, ho, by simpa using hT.2.2⟩) (.inr ⟨o, its, m, ho, by rw [hc, hT.1], hd, by rw [sizeLine_eq]; exact hT.2.1, r⟩) (rp G H)⟩
          · cases e
        · cases e
      · cases e
    · exact wr0_rep e
theorem wrD_tup {a : Addr} {o : Obj} {its : Array Value} {m n : Nat} {ds : List D} (h : K.lookup a = some o) (hc : o.cls = .type "tuple") (hd : o.data = .seq its m) (hs : its.size ≤ 16777216) (hn : o.dict = none) (ht : allS (its.toList.map (wrD K n)) = some ds) : wrD K (n + 1) (.ref a) = some (.tup ds) := by
  show (match K.lookup a with
    | some o => match o.cls, o.data with
      | .type T, .seq its _ => if T = "tuple" ∧ its.size ≤ 16777216 ∧ o.dict.isNone = true then (allS (its.toList.map (wrD K n))).map D.tup else none
      | _, _ => none
    | none => none) = _
  rw [h]
  show (match o.cls, o.data with
      | .type T, .seq its _ => if T = "tuple" ∧ its.size ≤ 16777216 ∧ o.dict.isNone = true then (allS (its.toList.map (wrD K n))).map D.tup else none
      | _, _ => none) = _
  rw [hc, hd]
  show (if "tuple" = "tuple" ∧ its.size ≤ 16777216 ∧ o.dict.isNone = true then (allS (its.toList.map (wrD K n))).map D.tup else none) = _
  rw [if_pos ⟨rfl, hs, by rw [hn]; rfl⟩, ht]
  rfl
theorem i_glob {x : Str} {u : Value} {n : Nat} {d : D} (hg : Gl X x) (hm : X.mg x = some u) (hd : wrD X.K n u = some d) (hdb : (x == ("__debug__" : Str)) = false := by decide) : PEI X G0 H0 (.Name x pos) (wC d) := by
  obtain ⟨v, r, rp⟩ := wrD_rep hd
  exact pe_imp (pe_glob hg hm r hdb) fun σ H Q h => tx_c rp h
def wAndT (wa wb : WE) : WE := fun ρ Φ => wa ρ fun r ρ' => match truD r.d with
  | some false => Φ r ρ'
  | some true => wb ρ' Φ
  | none => False
theorem i_andT (ha : PEI X G0 H0 a wa) (hb : PEI X G0 H0 (.BoolOp .And (b :: rest) pos) wb) : PEI X G0 H0 (.BoolOp .And (a :: b :: rest) pos) (wAndT wa wb) := by
  refine pe_imp (pe_andT ha hb) fun σ H Q h => ?_
  obtain ⟨ρ, G, Φ, S, h, c⟩ := h
  refine ⟨ρ, G, _, S, h, fun r ρ' v G' H' q S' P L x => ?_⟩
  split at q
  · rename_i e
    exact ⟨false, truD_ok x.sh e, iteF (c r ρ' v G' H' q S' P L x)⟩
  · rename_i e
    exact ⟨true, truD_ok x.sh e, iteT ⟨ρ', G', Φ, S', q, fun r2 ρ2 v2 G2 H2 q2 S2 P2 L2 x2 => c r2 ρ2 v2 G2 H2 q2 S2 (P.trans S'.wd P2 L) (L2.trans L) (x2.back fun a z => P.nn S'.wd z)⟩⟩
  · exact q.elim
/-! ### short names -/
def oNeg : D → (R → Prop) → Prop
  | .int i, Φ => Φ (.fr (.int (-i)))
  | _, _ => False
theorem op1_neg : Op1 K oNeg (rU fun i => .int (-i)) := fun G H d v Φ Q w s h k => by
  unfold oNeg at h
  split at h
  · cases s.i
    exact ⟨_, rfl, k _ _ G H h w (Grow.refl _ _) (.int _)⟩
  · exact h.elim
theorem op2_sub : Op2 K oSub (rI0 fun i j => .int (i - j)) := op2_int0 fun _ _ _ _ => .int _
theorem op2_div : Op2 K oDiv (rI CDiv fun i j => .int (i / j)) := op2_int fun _ _ _ _ => .int _
theorem op2_mod : Op2 K oMod (rI (fun _ j => 0 < j) fun i j => .int (i % j)) := op2_int fun _ _ _ _ => .int _
theorem op2_pow : Op2 K oPow (rI CPow fun i j => .int (i ^ j.toNat)) := op2_int fun _ _ _ _ => .int _
end
end Tv
namespace L2
theorem Room.r64 {k : Nat} {A : PySem.Around} (h : Room k A) : A.units + 64 < PySem.cLine := by have := h.un; omega
theorem Room.room {k : Nat} {A : PySem.Around} (h : Room k A) : A.units + 65 < PySem.cLine := by have := h.un; omega
end L2
/-! Tv14: lemmas for the plain laws. -/
namespace Tv
open PySem PySem.Spec PyProof.Rows L2
variable [LamT]
theorem oBag_0 (Φ : R → Prop) : oBag .bag (.int 0) Φ = ∀ n, 0 ≤ n → Φ (.fr (.int n)) := rfl
theorem oBag_1 (Φ : R → Prop) : oBag .bag (.int 1) Φ = ∀ n, 0 ≤ n → n < 2147483647 → Φ (.fr (.int n)) := rfl
theorem oBag_2 (Φ : R → Prop) : oBag .bag (.int 2) Φ = ∀ n, 0 ≤ n → Φ (.fr (.int n)) := rfl
theorem oBag_3 (Φ : R → Prop) : oBag .bag (.int 3) Φ = ∀ ns : List Int, BagL ns → Φ (.fr (.lst (ns.map D.int))) := rfl
theorem bagOk_0 (n : Int) : bagOk 0 n = (0 ≤ n) := rfl
theorem bagOk_1 (n : Int) : bagOk 1 n = (0 ≤ n ∧ n < 2147483647) := rfl
theorem bagOk_2 (n : Int) : bagOk 2 n = (0 ≤ n) := rfl
/-- a draw: any of the numbers below n -/
def TakeF (F : WF) : Prop := ∀ (n : Int) (Φ : R → Prop), 1 ≤ n → n < 1073741824 → (∀ k, 0 ≤ k → k < n → Φ (.fr (.int k))) → F [.bag, .int n] Φ
/-- the bag is made of the script -/
def BagF (F : WF) : Prop := ∀ (Φ : R → Prop), Φ (.fr .bag) → F [.scr] Φ
theorem eq_ints (i j : Int) : eqD (.int i) (.int j) = decide (i = j) := by
  show (i == j) = _
  rfl
theorem eq_strs (i j : Str) : eqD (.str i) (.str j) = decide (i = j) := by
  show (i == j) = _
  by_cases h : i = j
  · subst h; simp
  · simp [h]
theorem okE_int (i : Int) : okE (.int i) = true := rfl
end Tv
namespace Tv
open PySem PySem.Spec PyProof.Rows L2
variable [LamT]
/-! ### loops -/
theorem forD_inv {W : WTg} {body : WS} {S : SK} (I : List D → En → Prop) (hs : ∀ d rest ρ, I (d :: rest) ρ → ∀ nxt : En → Prop, (∀ ρ', I rest ρ' → nxt ρ') → W d ρ fun ρ' => body ρ' ⟨nxt, S.rt, S.nx, nxt⟩) (hd : ∀ ρ, I [] ρ → S.nx ρ) : ∀ (ds : List D) (ρ : En), I ds ρ → forD W body S ds ρ
  | [], ρ, h => hd ρ h
  | d :: ds, ρ, h => hs d ds ρ h (forD W body S ds) fun ρ' q => forD_inv I hs hd ds ρ' q
def stepD (W : WTg) (wt : WT) (we : WE) (vs : List Nat) (ρ : En) (d : D) (Ψ : Option D → En → Prop) : Prop := W d ρ fun ρ1 => wt ρ1 fun b ρ2 => if b = true then we ρ2 fun r ρ3 => match r with
    | .fr y => Ψ (some y) (wipeE vs 0 ρ3)
    | _ => False
  else Ψ none (wipeE vs 0 ρ2)
/-- a comprehension whose parts are told one by one -/
theorem lcD_fm {W : WTg} {wt : WT} {we : WE} {vs : List Nat} {Φ : List D → En → Prop} {ρ : En} (g : D → Option D) : ∀ (ds acc : List D), (∀ d ∈ ds, ∀ Ψ : Option D → En → Prop, Ψ (g d) ρ → stepD W wt we vs ρ d Ψ) → acc.length + ds.length ≤ 16777216 → Φ (acc ++ ds.filterMap g) ρ → lcD W wt we vs Φ ds acc ρ
  | [], acc, _, _, h => by rw [List.filterMap_nil, List.append_nil] at h; exact h
  | d :: ds, acc, hs, hl, h => by
    have e := sizeLine_eq
    have q := hs d List.mem_cons_self (fun o ρ' => match o with
      | some y => acc.length < sizeLine ∧ lcD W wt we vs Φ ds (acc ++ [y]) ρ'
      | none => lcD W wt we vs Φ ds acc ρ') ?_
    · exact q
    · rw [List.length_cons] at hl
      rw [List.filterMap_cons] at h
      split
      · rename_i y ey
        rw [ey] at h
        refine ⟨by omega, lcD_fm g ds (acc ++ [y]) (fun d hd => hs d (List.mem_cons_of_mem _ hd)) (by rw [List.length_append, List.length_singleton]; omega) ?_⟩
        rw [List.append_assoc]
        exact h
      · rename_i ey
        rw [ey] at h
        exact lcD_fm g ds acc (fun d hd => hs d (List.mem_cons_of_mem _ hd)) (by omega) h
theorem intsD_map : ∀ ns : List Int, intsD (ns.map D.int) = some ns
  | [] => rfl
  | n :: ns => by show (intsD (ns.map D.int)).map (n :: ·) = _; rw [intsD_map ns]; rfl
theorem blsD_map : ∀ ns : List Bool, blsD (ns.map D.bl) = some ns
  | [] => rfl
  | n :: ns => by show (blsD (ns.map D.bl)).map (n :: ·) = _; rw [blsD_map ns]; rfl
theorem atI_nat {α : Type} {xs : List α} {i : Int} (h0 : 0 ≤ i) (h1 : i < xs.length) : ∃ x ∈ xs, atI xs i = some x := by
  obtain ⟨n, rfl⟩ : ∃ n : Nat, i = n := ⟨i.toNat, by omega⟩
  have hn : n < xs.length := by omega
  refine ⟨xs[n], List.getElem_mem hn, ?_⟩
  unfold atI ixN
  rw [if_pos h0, if_pos h1]
  simp [hn]
/-- .. over things of one form -/
theorem lcD_of {α : Type} {W : WTg} {wt : WT} {we : WE} {vs : List Nat} {Φ : List D → En → Prop} {ρ : En} (inj : α → D) (g : α → Option D) : ∀ (xs : List α) (acc : List D), (∀ x ∈ xs, ∀ Ψ : Option D → En → Prop, Ψ (g x) ρ → stepD W wt we vs ρ (inj x) Ψ) → acc.length + xs.length ≤ 16777216 → Φ (acc ++ xs.filterMap g) ρ → lcD W wt we vs Φ (xs.map inj) acc ρ
  | [], acc, _, _, h => by rw [List.filterMap_nil, List.append_nil] at h; exact h
  | x :: xs, acc, hs, hl, h => by
    have e := sizeLine_eq
    have q := hs x List.mem_cons_self (fun o ρ' => match o with
      | some y => acc.length < sizeLine ∧ lcD W wt we vs Φ (xs.map inj) (acc ++ [y]) ρ'
      | none => lcD W wt we vs Φ (xs.map inj) acc ρ') ?_
    · exact q
    · rw [List.length_cons] at hl
      rw [List.filterMap_cons] at h
      split
      · rename_i y ey
        rw [ey] at h
        refine ⟨by omega, lcD_of inj g xs (acc ++ [y]) (fun d hd => hs d (List.mem_cons_of_mem _ hd)) (by rw [List.length_append, List.length_singleton]; omega) ?_⟩
        rw [List.append_assoc]
        exact h
      · rename_i ey
        rw [ey] at h
        exact lcD_of inj g xs acc (fun d hd => hs d (List.mem_cons_of_mem _ hd)) (by omega) h
theorem filterMap_if {α β : Type} (p : α → Bool) (f : α → β) : ∀ xs : List α, (xs.filterMap fun x => if p x = true then some (f x) else none) = (xs.filter p).map f
  | [] => rfl
  | x :: xs => by
    rw [List.filterMap_cons, List.filter_cons]
    by_cases c : p x = true
    · simp only [if_pos c, List.map_cons, filterMap_if p f xs]
    · simp only [if_neg c, filterMap_if p f xs]
theorem filterMap_some {α β : Type} (f : α → β) : ∀ xs : List α, (xs.filterMap fun x => some (f x)) = xs.map f
  | [] => rfl
  | x :: xs => by
    rw [List.filterMap_cons, List.map_cons, filterMap_some f xs]
theorem oEq_self {d : D} {Φ : R → Prop} (hd : okE d = true) (h : Φ (.fr (.bl true))) : oEq d d Φ := by
  obtain ⟨_, g⟩ := okE_shaped hd
  have e := eqD_refl g
  unfold oEq
  split
  · rw [decide_eq_true rfl]; exact h
  · rw [hd, e]; exact ⟨rfl, h⟩
/-- .. of lists and tuples, of ints -/
theorem oEq_lst {ds es : List D} {Φ : R → Prop} : oEq (.lst ds) (.lst es) Φ = ((okE (.lst ds) && okE (.lst es)) = true ∧ Φ (.fr (.bl (eqD (.lst ds) (.lst es))))) := rfl
theorem oEq_tup {ds es : List D} {Φ : R → Prop} : oEq (.tup ds) (.tup es) Φ = ((okE (.tup ds) && okE (.tup es)) = true ∧ Φ (.fr (.bl (eqD (.tup ds) (.tup es))))) := rfl
theorem oEq_int {i j : Int} {Φ : R → Prop} : oEq (.int i) (.int j) Φ = Φ (.fr (.bl (decide (i = j)))) := by
  show ((okE (.int i) && okE (.int j)) = true ∧ Φ (.fr (.bl (eqD (.int i) (.int j))))) = _
  rw [eq_ints]
  simp [okE_int]
theorem oEq_str {i j : Str} {Φ : R → Prop} : oEq (.str i) (.str j) Φ = Φ (.fr (.bl (decide (i = j)))) := rfl
theorem oNe_int {i j : Int} {Φ : R → Prop} : oNe (.int i) (.int j) Φ = Φ (.fr (.bl (!decide (i = j)))) := by
  show ((okE (.int i) && okE (.int j)) = true ∧ Φ (.fr (.bl (!eqD (.int i) (.int j))))) = _
  rw [eq_ints]
  simp [okE_int]
theorem oNe_str {i j : Str} {Φ : R → Prop} : oNe (.str i) (.str j) Φ = Φ (.fr (.bl (!decide (i = j)))) := rfl
theorem oEq_bl {i j : Bool} {Φ : R → Prop} : oEq (.bl i) (.bl j) Φ = Φ (.fr (.bl (i == j))) := by
  show ((okE (.bl i) && okE (.bl j)) = true ∧ Φ (.fr (.bl (eqD (.bl i) (.bl j))))) = _
  simp [show okE (.bl i) = true from rfl, show okE (.bl j) = true from rfl, show eqD (.bl i) (.bl j) = (i == j) from rfl]
theorem oNe_bl {i j : Bool} {Φ : R → Prop} : oNe (.bl i) (.bl j) Φ = Φ (.fr (.bl (!(i == j)))) := by
  show ((okE (.bl i) && okE (.bl j)) = true ∧ Φ (.fr (.bl (!eqD (.bl i) (.bl j))))) = _
  simp [show okE (.bl i) = true from rfl, show okE (.bl j) = true from rfl, show eqD (.bl i) (.bl j) = (i == j) from rfl]
/-- found and due are the same tree -/
def AlikeF (F : WF) : Prop := ∀ (d : D) (Φ : R → Prop), okR d = true → Φ (.fr (.bl true)) → F [d, d] Φ
/-- one of some -/
structure OneF (F : WF) : Prop where
  l : ∀ (ds : List D) (Φ : R → Prop), ds ≠ [] → ds.length < 1073741824 → (∀ d ∈ ds, Φ (.fr d)) → F [.bag, .lst ds] Φ
  t : ∀ (ds : List D) (Φ : R → Prop), ds ≠ [] → ds.length < 1073741824 → (∀ d ∈ ds, Φ (.fr d)) → F [.bag, .tup ds] Φ
  s : ∀ (x : Str) (Φ : R → Prop), 0 < x.length → x.length ≤ 16777216 → (∀ c ∈ x.cps.toList, Φ (.fr (.str ⟨#[c]⟩))) → F [.bag, .str x] Φ
/-! ### what is behind a call or a loop is left alone by simp: the mark's type hangs on it -/
inductive Mk0 {α : Type} (a : α) : Type
  | mk : Mk0 a
/-- one step of a reading, found by the head of what is asked -/
class Step (p : Prop) (q : outParam Prop) : Prop where
  h : q → p
/-- what a rule with conditions is about -/
class IsC (p : Prop) : Prop where
  h : p → p
/-- what stands in a slot -/
class Get (ρ : En) (i : Nat) (c : outParam Cell) : Prop where
  e : ρ[i]? = some c
instance get_z {c : Cell} {ρ : En} : Get (c :: ρ) 0 c := ⟨rfl⟩
instance get_s {c c' : Cell} {ρ : En} {i : Nat} [g : Get ρ i c] : Get (c' :: ρ) (i + 1) c := ⟨g.e⟩
/-- the environment with a slot otherwise -/
class SetF (ρ : En) (i : Nat) (f : outParam (Cell → En)) : Prop where
  e : ∀ c, ρ.set i c = f c
  l : i < ρ.length
instance setF_z {c' : Cell} {ρ : En} : SetF (c' :: ρ) 0 (fun c => c :: ρ) := ⟨fun _ => rfl, Nat.succ_pos _⟩
instance setF_s {c' : Cell} {ρ : En} {i : Nat} {f : Cell → En} [g : SetF ρ i f] : SetF (c' :: ρ) (i + 1) (fun c => c' :: f c) := ⟨fun c => by rw [List.set_cons_succ, g.e c], Nat.succ_lt_succ g.l⟩
/-- results that are held -/
class Frs (rs : List R) (ds : outParam (List D)) : Prop where
  e : frs' rs = some ds
instance frs_z : Frs [] [] := ⟨rfl⟩
theorem frs_cons {d : D} {rs : List R} {ds : List D} (h : frs' rs = some ds) : frs' (.fr d :: rs) = some (d :: ds) := by
  show (match frs' rs with | some r => some (d :: r) | none => none) = _
  rw [h]
instance frs_s {d : D} {rs : List R} {ds : List D} [g : Frs rs ds] : Frs (.fr d :: rs) (d :: ds) := ⟨frs_cons g.e⟩
class Few (rs : List R) : Prop where
  l : rs.length ≤ 16777216
class LenN (ds : List D) (n : Nat) : Prop where
  e : ds.length = n
instance lenN_z : LenN [] 0 := ⟨rfl⟩
instance lenN_s {d : D} {ds : List D} {n : Nat} [g : LenN ds n] : LenN (d :: ds) (n + 1) := ⟨congrArg (· + 1) g.e⟩
class CellR (r : R) (c : outParam Cell) : Prop where
  e : r.cell = c
  o : r.ok
instance cellR_f {d : D} : CellR (.fr d) (.fr d) := ⟨rfl, trivial⟩
instance cellR_o {d : D} : CellR (.ow d) (.ow d) := ⟨rfl, trivial⟩
class Peek (c : Cell) (r : outParam R) : Prop where
  f : ∀ {ρ : En} {i : Nat} {Φ : R → En → Prop}, ρ[i]? = some c → Φ r ρ → wP i ρ Φ
instance few_0 : Few [] := ⟨by show 0 ≤ 16777216; decide⟩
instance few_1 {a0 : R} : Few [a0] := ⟨by show 1 ≤ 16777216; decide⟩
instance few_2 {a0 a1 : R} : Few [a0, a1] := ⟨by show 2 ≤ 16777216; decide⟩
instance few_3 {a0 a1 a2 : R} : Few [a0, a1, a2] := ⟨by show 3 ≤ 16777216; decide⟩
instance few_4 {a0 a1 a2 a3 : R} : Few [a0, a1, a2, a3] := ⟨by show 4 ≤ 16777216; decide⟩
instance few_5 {a0 a1 a2 a3 a4 : R} : Few [a0, a1, a2, a3, a4] := ⟨by show 5 ≤ 16777216; decide⟩
instance few_6 {a0 a1 a2 a3 a4 a5 : R} : Few [a0, a1, a2, a3, a4, a5] := ⟨by show 6 ≤ 16777216; decide⟩
instance few_7 {a0 a1 a2 a3 a4 a5 a6 : R} : Few [a0, a1, a2, a3, a4, a5, a6] := ⟨by show 7 ≤ 16777216; decide⟩
instance few_8 {a0 a1 a2 a3 a4 a5 a6 a7 : R} : Few [a0, a1, a2, a3, a4, a5, a6, a7] := ⟨by show 8 ≤ 16777216; decide⟩
instance few_9 {a0 a1 a2 a3 a4 a5 a6 a7 a8 : R} : Few [a0, a1, a2, a3, a4, a5, a6, a7, a8] := ⟨by show 9 ≤ 16777216; decide⟩
instance few_10 {a0 a1 a2 a3 a4 a5 a6 a7 a8 a9 : R} : Few [a0, a1, a2, a3, a4, a5, a6, a7, a8, a9] := ⟨by show 10 ≤ 16777216; decide⟩
instance few_11 {a0 a1 a2 a3 a4 a5 a6 a7 a8 a9 a10 : R} : Few [a0, a1, a2, a3, a4, a5, a6, a7, a8, a9, a10] := ⟨by show 11 ≤ 16777216; decide⟩
instance few_12 {a0 a1 a2 a3 a4 a5 a6 a7 a8 a9 a10 a11 : R} : Few [a0, a1, a2, a3, a4, a5, a6, a7, a8, a9, a10, a11] := ⟨by show 12 ≤ 16777216; decide⟩
instance few_13 {a0 a1 a2 a3 a4 a5 a6 a7 a8 a9 a10 a11 a12 : R} : Few [a0, a1, a2, a3, a4, a5, a6, a7, a8, a9, a10, a11, a12] := ⟨by show 13 ≤ 16777216; decide⟩
instance few_14 {a0 a1 a2 a3 a4 a5 a6 a7 a8 a9 a10 a11 a12 a13 : R} : Few [a0, a1, a2, a3, a4, a5, a6, a7, a8, a9, a10, a11, a12, a13] := ⟨by show 14 ≤ 16777216; decide⟩
instance few_15 {a0 a1 a2 a3 a4 a5 a6 a7 a8 a9 a10 a11 a12 a13 a14 : R} : Few [a0, a1, a2, a3, a4, a5, a6, a7, a8, a9, a10, a11, a12, a13, a14] := ⟨by show 15 ≤ 16777216; decide⟩
instance few_16 {a0 a1 a2 a3 a4 a5 a6 a7 a8 a9 a10 a11 a12 a13 a14 a15 : R} : Few [a0, a1, a2, a3, a4, a5, a6, a7, a8, a9, a10, a11, a12, a13, a14, a15] := ⟨by show 16 ≤ 16777216; decide⟩
instance few_17 {a0 a1 a2 a3 a4 a5 a6 a7 a8 a9 a10 a11 a12 a13 a14 a15 a16 : R} : Few [a0, a1, a2, a3, a4, a5, a6, a7, a8, a9, a10, a11, a12, a13, a14, a15, a16] := ⟨by show 17 ≤ 16777216; decide⟩
instance few_18 {a0 a1 a2 a3 a4 a5 a6 a7 a8 a9 a10 a11 a12 a13 a14 a15 a16 a17 : R} : Few [a0, a1, a2, a3, a4, a5, a6, a7, a8, a9, a10, a11, a12, a13, a14, a15, a16, a17] := ⟨by show 18 ≤ 16777216; decide⟩
instance few_19 {a0 a1 a2 a3 a4 a5 a6 a7 a8 a9 a10 a11 a12 a13 a14 a15 a16 a17 a18 : R} : Few [a0, a1, a2, a3, a4, a5, a6, a7, a8, a9, a10, a11, a12, a13, a14, a15, a16, a17, a18] := ⟨by show 19 ≤ 16777216; decide⟩
instance few_20 {a0 a1 a2 a3 a4 a5 a6 a7 a8 a9 a10 a11 a12 a13 a14 a15 a16 a17 a18 a19 : R} : Few [a0, a1, a2, a3, a4, a5, a6, a7, a8, a9, a10, a11, a12, a13, a14, a15, a16, a17, a18, a19] := ⟨by show 20 ≤ 16777216; decide⟩
instance few_21 {a0 a1 a2 a3 a4 a5 a6 a7 a8 a9 a10 a11 a12 a13 a14 a15 a16 a17 a18 a19 a20 : R} : Few [a0, a1, a2, a3, a4, a5, a6, a7, a8, a9, a10, a11, a12, a13, a14, a15, a16, a17, a18, a19, a20] := ⟨by show 21 ≤ 16777216; decide⟩
instance few_22 {a0 a1 a2 a3 a4 a5 a6 a7 a8 a9 a10 a11 a12 a13 a14 a15 a16 a17 a18 a19 a20 a21 : R} : Few [a0, a1, a2, a3, a4, a5, a6, a7, a8, a9, a10, a11, a12, a13, a14, a15, a16, a17, a18, a19, a20, a21] := ⟨by show 22 ≤ 16777216; decide⟩
instance few_23 {a0 a1 a2 a3 a4 a5 a6 a7 a8 a9 a10 a11 a12 a13 a14 a15 a16 a17 a18 a19 a20 a21 a22 : R} : Few [a0, a1, a2, a3, a4, a5, a6, a7, a8, a9, a10, a11, a12, a13, a14, a15, a16, a17, a18, a19, a20, a21, a22] := ⟨by show 23 ≤ 16777216; decide⟩
instance few_24 {a0 a1 a2 a3 a4 a5 a6 a7 a8 a9 a10 a11 a12 a13 a14 a15 a16 a17 a18 a19 a20 a21 a22 a23 : R} : Few [a0, a1, a2, a3, a4, a5, a6, a7, a8, a9, a10, a11, a12, a13, a14, a15, a16, a17, a18, a19, a20, a21, a22, a23] := ⟨by show 24 ≤ 16777216; decide⟩
instance few_25 {a0 a1 a2 a3 a4 a5 a6 a7 a8 a9 a10 a11 a12 a13 a14 a15 a16 a17 a18 a19 a20 a21 a22 a23 a24 : R} : Few [a0, a1, a2, a3, a4, a5, a6, a7, a8, a9, a10, a11, a12, a13, a14, a15, a16, a17, a18, a19, a20, a21, a22, a23, a24] := ⟨by show 25 ≤ 16777216; decide⟩
instance few_26 {a0 a1 a2 a3 a4 a5 a6 a7 a8 a9 a10 a11 a12 a13 a14 a15 a16 a17 a18 a19 a20 a21 a22 a23 a24 a25 : R} : Few [a0, a1, a2, a3, a4, a5, a6, a7, a8, a9, a10, a11, a12, a13, a14, a15, a16, a17, a18, a19, a20, a21, a22, a23, a24, a25] := ⟨by show 26 ≤ 16777216; decide⟩
instance few_27 {a0 a1 a2 a3 a4 a5 a6 a7 a8 a9 a10 a11 a12 a13 a14 a15 a16 a17 a18 a19 a20 a21 a22 a23 a24 a25 a26 : R} : Few [a0, a1, a2, a3, a4, a5, a6, a7, a8, a9, a10, a11, a12, a13, a14, a15, a16, a17, a18, a19, a20, a21, a22, a23, a24, a25, a26] := ⟨by show 27 ≤ 16777216; decide⟩
instance few_28 {a0 a1 a2 a3 a4 a5 a6 a7 a8 a9 a10 a11 a12 a13 a14 a15 a16 a17 a18 a19 a20 a21 a22 a23 a24 a25 a26 a27 : R} : Few [a0, a1, a2, a3, a4, a5, a6, a7, a8, a9, a10, a11, a12, a13, a14, a15, a16, a17, a18, a19, a20, a21, a22, a23, a24, a25, a26, a27] := ⟨by show 28 ≤ 16777216; decide⟩
instance few_29 {a0 a1 a2 a3 a4 a5 a6 a7 a8 a9 a10 a11 a12 a13 a14 a15 a16 a17 a18 a19 a20 a21 a22 a23 a24 a25 a26 a27 a28 : R} : Few [a0, a1, a2, a3, a4, a5, a6, a7, a8, a9, a10, a11, a12, a13, a14, a15, a16, a17, a18, a19, a20, a21, a22, a23, a24, a25, a26, a27, a28] := ⟨by show 29 ≤ 16777216; decide⟩
instance few_30 {a0 a1 a2 a3 a4 a5 a6 a7 a8 a9 a10 a11 a12 a13 a14 a15 a16 a17 a18 a19 a20 a21 a22 a23 a24 a25 a26 a27 a28 a29 : R} : Few [a0, a1, a2, a3, a4, a5, a6, a7, a8, a9, a10, a11, a12, a13, a14, a15, a16, a17, a18, a19, a20, a21, a22, a23, a24, a25, a26, a27, a28, a29] := ⟨by show 30 ≤ 16777216; decide⟩
end Tv
/-! Tv15: readings step by step, by the head of the goal. -/
namespace Tv
open PySem PySem.Spec PyProof.Rows L2
variable [LamT]
section
variable {ρ : En} {S : SK} {i j : Nat} {d e : D} {r : R} {rs : List R} {ds es : List D} {wa wb : WE} {ws : WA} {ta tb : WT} {u v : WS} {wf : WF} {k : Bool}
/-! what is done with a result -/
def fzW (r : R) (Φ : R → En → Prop) (ρ : En) : Prop := match r with
  | .fr d => Φ (.fr d) ρ
  | .ow d => Φ (.fr d) ρ
  | .bo _ => False
def onB (r : R) (Φ : Bool → En → Prop) (ρ : En) : Prop := match r.d with
  | .bl b => Φ b ρ
  | _ => False
def onTr (r : R) (Φ : Bool → En → Prop) (ρ : En) : Prop := match truD r.d with
  | some k => Φ k ρ
  | none => False
def tupW (rs : List R) (Φ : R → En → Prop) (ρ : En) : Prop := match frs' rs with
  | some ds => rs.length ≤ sizeLine ∧ Φ (.fr (.tup ds)) ρ
  | none => False
def lstW (rs : List R) (Φ : R → En → Prop) (ρ : En) : Prop := match frs' rs with
  | some ds => rs.length ≤ sizeLine ∧ Φ (.ow (.lst ds)) ρ
  | none => False
def callW (wf : WF) (rs : List R) (Φ : R → En → Prop) (ρ : En) : Prop := match frs' rs with
  | some ds => wf ds fun r => Φ r ρ
  | none => False
def mW (ty : D → Prop) (o : D → List D → (R → Prop) → Prop) (ws : WA) (r : R) (Φ : R → En → Prop) (ρ : En) : Prop := ty r.d ∧ ws ρ fun rs ρ2 => o r.d (rs.map R.d) fun r' => Φ r' ρ2
def setW (i : Nat) (r : R) (ρ : En) (S : SK) : Prop := i < ρ.length ∧ r.ok ∧ S.nx (ρ.set i r.cell)
def augW (i : Nat) (d : D) (ρ : En) (S : SK) : Prop := i < ρ.length ∧ S.nx (ρ.set i (.fr d))
def mutW (o : List D → List D → (List D → Prop) → Prop) (i : Nat) (rs : List R) (ρ : En) (S : SK) : Prop := match ρ[i]?, frs' rs with
  | some (.ow (.lst ds)), some es => o ds es fun ds' => S.nx (ρ.set i (.ow (.lst ds')))
  | _, _ => False
def parW (i j : Nat) (rs : List R) (ρ : En) (S : SK) : Prop := match rs with
  | [r1, r2] => (i < ρ.length ∧ j < ρ.length) ∧ (r1.ok ∧ r2.ok) ∧ S.nx ((ρ.set i r1.cell).set j r2.cell)
  | _ => False
def unpW (W : WTg) (r : R) (ρ : En) (S : SK) : Prop := match r with
  | .fr d => W d ρ S.nx
  | _ => False
def retW (r : R) (ρ : En) (S : SK) : Prop := match r with
  | .bo _ => False
  | r => S.rt r ρ
def seqW (r : R) (Φ : List D → En → Prop) (ρ : En) : Prop := match r with
  | .fr (.lst ds) => Φ ds ρ
  | .fr (.tup ds) => Φ ds ρ
  | _ => False
def orW (r : R) (wb : WE) (Φ : R → En → Prop) (ρ : En) : Prop := match truD r.d with
  | some true => Φ r ρ
  | some false => wb ρ Φ
  | none => False
def andW (r : R) (wb : WE) (Φ : R → En → Prop) (ρ : En) : Prop := match truD r.d with
  | some false => Φ r ρ
  | some true => wb ρ Φ
  | none => False
def somW (r : R) (Φ : Option Int → En → Prop) (ρ : En) : Prop := match r.d with
  | .int i => Φ (some i) ρ
  | _ => False
variable {Φ : R → En → Prop} {Φb : Bool → En → Prop} {Φa : List R → En → Prop} {Φi : List D → En → Prop} {Φr : R → Prop} {Φd : D → Prop} {Φl : List D → Prop} {Φo : Option Int → En → Prop} {Φe : En → Prop}
/-! values -/
theorem e_c (h : Φ (.fr d) ρ) : wC d ρ Φ := h
instance st_c : Step (wC d ρ Φ) (Φ (.fr d) ρ) := ⟨fun h => e_c h⟩
theorem e_v (q : ρ[i]? = some (.fr d)) (h : Φ (.fr d) ρ) : wV i ρ Φ := by unfold wV; rw [q]; exact h
instance ic_v : IsC (wV i ρ Φ) := ⟨fun h => h⟩
theorem e_vo (q : ρ[i]? = some (.ow d)) (h : Φ (.fr d) (ρ.set i (.fr d))) : wV i ρ Φ := by unfold wV; rw [q]; exact h
instance ic_vo : IsC (wV i ρ Φ) := ⟨fun h => h⟩
theorem e_p (q : ρ[i]? = some (.fr d)) (h : Φ (.fr d) ρ) : wP i ρ Φ := by unfold wP; rw [q]; exact h
instance ic_p : IsC (wP i ρ Φ) := ⟨fun h => h⟩
theorem e_po (q : ρ[i]? = some (.ow d)) (h : Φ (.bo d) ρ) : wP i ρ Φ := by unfold wP; rw [q]; exact h
instance ic_po : IsC (wP i ρ Φ) := ⟨fun h => h⟩
theorem e_f (h : wa ρ fun r ρ' => fzW r Φ ρ') : wF wa ρ Φ := h
instance st_f : Step (wF wa ρ Φ) (wa ρ fun r ρ' => fzW r Φ ρ') := ⟨fun h => e_f h⟩
theorem e_fzf (h : Φ (.fr d) ρ) : fzW (.fr d) Φ ρ := h
instance st_fzf : Step (fzW (.fr d) Φ ρ) (Φ (.fr d) ρ) := ⟨fun h => e_fzf h⟩
theorem e_fzo (h : Φ (.fr d) ρ) : fzW (.ow d) Φ ρ := h
instance st_fzo : Step (fzW (.ow d) Φ ρ) (Φ (.fr d) ρ) := ⟨fun h => e_fzo h⟩
theorem e_1 {o : D → (R → Prop) → Prop} (h : wa ρ fun r ρ' => o r.d fun r' => Φ r' ρ') : w1 o wa ρ Φ := h
instance st_1 {o : D → (R → Prop) → Prop} : Step (w1 o wa ρ Φ) (wa ρ fun r ρ' => o r.d fun r' => Φ r' ρ') := ⟨fun h => e_1 h⟩
theorem e_2 {o : D → D → (R → Prop) → Prop} (h : wa ρ fun r ρ' => wb ρ' fun r2 ρ2 => o r.d r2.d fun r' => Φ r' ρ2) : w2 o wa wb ρ Φ := h
instance st_2 {o : D → D → (R → Prop) → Prop} : Step (w2 o wa wb ρ Φ) (wa ρ fun r ρ' => wb ρ' fun r2 ρ2 => o r.d r2.d fun r' => Φ r' ρ2) := ⟨fun h => e_2 h⟩
theorem e_nil (h : Φa [] ρ) : wNil ρ Φa := h
instance st_nil : Step (wNil ρ Φa) (Φa [] ρ) := ⟨fun h => e_nil h⟩
theorem e_cons (h : wa ρ fun r ρ' => ws ρ' fun rs ρ2 => Φa (r :: rs) ρ2) : wCons wa ws ρ Φa := h
instance st_cons : Step (wCons wa ws ρ Φa) (wa ρ fun r ρ' => ws ρ' fun rs ρ2 => Φa (r :: rs) ρ2) := ⟨fun h => e_cons h⟩
theorem e_tup (h : ws ρ fun rs ρ' => tupW rs Φ ρ') : wTup ws ρ Φ := h
instance st_tup : Step (wTup ws ρ Φ) (ws ρ fun rs ρ' => tupW rs Φ ρ') := ⟨fun h => e_tup h⟩
theorem e_tupW (q : frs' rs = some ds) (l : Nat.ble rs.length 16777216 = true) (h : Φ (.fr (.tup ds)) ρ) : tupW rs Φ ρ := by unfold tupW; rw [q]; exact ⟨by rw [sizeLine_eq]; exact Nat.le_of_ble_eq_true l, h⟩
instance ic_tupW : IsC (tupW rs Φ ρ) := ⟨fun h => h⟩
theorem e_lst (h : ws ρ fun rs ρ' => lstW rs Φ ρ') : wLst ws ρ Φ := h
instance st_lst : Step (wLst ws ρ Φ) (ws ρ fun rs ρ' => lstW rs Φ ρ') := ⟨fun h => e_lst h⟩
theorem e_lstW (q : frs' rs = some ds) (l : Nat.ble rs.length 16777216 = true) (h : Φ (.ow (.lst ds)) ρ) : lstW rs Φ ρ := by unfold lstW; rw [q]; exact ⟨by rw [sizeLine_eq]; exact Nat.le_of_ble_eq_true l, h⟩
instance ic_lstW : IsC (lstW rs Φ ρ) := ⟨fun h => h⟩
def nW (o : List D → (R → Prop) → Prop) (rs : List R) (Φ : R → En → Prop) (ρ : En) : Prop := o (rs.map R.d) fun r' => Φ r' ρ
theorem e_n {o : List D → (R → Prop) → Prop} (h : ws ρ fun rs ρ' => nW o rs Φ ρ') : wN o ws ρ Φ := h
instance st_n {o : List D → (R → Prop) → Prop} : Step (wN o ws ρ Φ) (ws ρ fun rs ρ' => nW o rs Φ ρ') := ⟨fun h => e_n h⟩
theorem e_n1 {o : List D → (R → Prop) → Prop} (h : o [r.d] fun r' => Φ r' ρ) : nW o [r] Φ ρ := h
instance st_n1 {o : List D → (R → Prop) → Prop} : Step (nW o [r] Φ ρ) (o [r.d] fun r' => Φ r' ρ) := ⟨fun h => e_n1 h⟩
theorem e_n2 {o : List D → (R → Prop) → Prop} {r2 : R} (h : o [r.d, r2.d] fun r' => Φ r' ρ) : nW o [r, r2] Φ ρ := h
instance st_n2 {o : List D → (R → Prop) → Prop} {r2 : R} : Step (nW o [r, r2] Φ ρ) (o [r.d, r2.d] fun r' => Φ r' ρ) := ⟨fun h => e_n2 h⟩
def mmW (o : D → List D → (R → Prop) → Prop) (x : Str) (rs : List R) (Φ : R → En → Prop) (ρ : En) : Prop := o (.str x) (rs.map R.d) fun r' => Φ r' ρ
theorem e_mm1 {o : D → List D → (R → Prop) → Prop} {x : Str} (h : o (.str x) [r.d] fun r' => Φ r' ρ) : mmW o x [r] Φ ρ := h
instance st_mm1 {o : D → List D → (R → Prop) → Prop} {x : Str} : Step (mmW o x [r] Φ ρ) (o (.str x) [r.d] fun r' => Φ r' ρ) := ⟨fun h => e_mm1 h⟩
theorem e_call (h : ws ρ fun rs ρ' => callW wf rs Φ ρ') : wCall wf ws ρ Φ := h
instance st_call : Step (wCall wf ws ρ Φ) (ws ρ fun rs ρ' => callW wf rs Φ ρ') := ⟨fun h => e_call h⟩
theorem e_callW (q : frs' rs = some ds) (h : wf ds fun r => Φ r ρ) : callW wf rs Φ ρ := by unfold callW; rw [q]; exact h
instance ic_callW : IsC (callW wf rs Φ ρ) := ⟨fun h => h⟩
theorem e_m {ty : D → Prop} {o : D → List D → (R → Prop) → Prop} (h : wa ρ fun r ρ' => mW ty o ws r Φ ρ') : wM ty o wa ws ρ Φ := h
instance st_m {ty : D → Prop} {o : D → List D → (R → Prop) → Prop} : Step (wM ty o wa ws ρ Φ) (wa ρ fun r ρ' => mW ty o ws r Φ ρ') := ⟨fun h => e_m h⟩
theorem e_mW {o : D → List D → (R → Prop) → Prop} {x : Str} (q : r.d = .str x) (h : ws ρ fun rs ρ2 => mmW o x rs Φ ρ2) : mW isTxt o ws r Φ ρ := by unfold mW; rw [q]; exact ⟨trivial, h⟩
instance ic_mW {o : D → List D → (R → Prop) → Prop} : IsC (mW isTxt o ws r Φ ρ) := ⟨fun h => h⟩
theorem e_if (h : ta ρ fun k ρ' => if k = true then wa ρ' Φ else wb ρ' Φ) : wIf ta wa wb ρ Φ := h
instance st_if : Step (wIf ta wa wb ρ Φ) (ta ρ fun k ρ' => if k = true then wa ρ' Φ else wb ρ' Φ) := ⟨fun h => e_if h⟩
theorem e_orT (h : wa ρ fun r ρ' => orW r wb Φ ρ') : wOrT wa wb ρ Φ := h
instance st_orT : Step (wOrT wa wb ρ Φ) (wa ρ fun r ρ' => orW r wb Φ ρ') := ⟨fun h => e_orT h⟩
theorem e_orW1 (q : truD r.d = some true) (h : Φ r ρ) : orW r wb Φ ρ := by unfold orW; rw [q]; exact h
theorem e_orW0 (q : truD r.d = some false) (h : wb ρ Φ) : orW r wb Φ ρ := by unfold orW; rw [q]; exact h
theorem e_orW {k : Bool} (q : truD r.d = some k) (h : if k = true then Φ r ρ else wb ρ Φ) : orW r wb Φ ρ := by
  cases k
  · exact e_orW0 q h
  · exact e_orW1 q h
instance ic_orW : IsC (orW r wb Φ ρ) := ⟨fun h => h⟩
theorem e_andT (h : wa ρ fun r ρ' => andW r wb Φ ρ') : wAndT wa wb ρ Φ := h
instance st_andT : Step (wAndT wa wb ρ Φ) (wa ρ fun r ρ' => andW r wb Φ ρ') := ⟨fun h => e_andT h⟩
theorem e_andW {k : Bool} (q : truD r.d = some k) (h : if k = true then wb ρ Φ else Φ r ρ) : andW r wb Φ ρ := by
  unfold andW
  rw [q]
  cases k
  · exact h
  · exact h
instance ic_andW : IsC (andW r wb Φ ρ) := ⟨fun h => h⟩
theorem e_noP (h : Φo none ρ) : wNoP ρ Φo := h
instance st_noP : Step (wNoP ρ Φo) (Φo none ρ) := ⟨fun h => e_noP h⟩
theorem e_som (h : wa ρ fun r ρ' => somW r Φo ρ') : wSomeP wa ρ Φo := h
instance st_som : Step (wSomeP wa ρ Φo) (wa ρ fun r ρ' => somW r Φo ρ') := ⟨fun h => e_som h⟩
theorem e_somW {n : Int} (q : r.d = .int n) (h : Φo (some n) ρ) : somW r Φo ρ := by unfold somW; rw [q]; exact h
instance ic_somW : IsC (somW r Φo ρ) := ⟨fun h => h⟩
theorem e_sl {wl wh : WO} (h : wa ρ fun r ρ1 => wl ρ1 fun lo ρ2 => wh ρ2 fun hi ρ3 => oSl r.d lo hi fun r' => Φ r' ρ3) : wSl wa wl wh ρ Φ := h
instance st_sl {wl wh : WO} : Step (wSl wa wl wh ρ Φ) (wa ρ fun r ρ1 => wl ρ1 fun lo ρ2 => wh ρ2 fun hi ρ3 => oSl r.d lo hi fun r' => Φ r' ρ3) := ⟨fun h => e_sl h⟩
/-! tests -/
theorem e_b (h : wa ρ fun r ρ' => onB r Φb ρ') : wB wa ρ Φb := h
instance st_b : Step (wB wa ρ Φb) (wa ρ fun r ρ' => onB r Φb ρ') := ⟨fun h => e_b h⟩
theorem e_onB (q : r.d = .bl k) (h : Φb k ρ) : onB r Φb ρ := by unfold onB; rw [q]; exact h
instance ic_onB : IsC (onB r Φb ρ) := ⟨fun h => h⟩
theorem e_tr (h : wa ρ fun r ρ' => onTr r Φb ρ') : wTr wa ρ Φb := h
instance st_tr : Step (wTr wa ρ Φb) (wa ρ fun r ρ' => onTr r Φb ρ') := ⟨fun h => e_tr h⟩
theorem e_onTr (q : truD r.d = some k) (h : Φb k ρ) : onTr r Φb ρ := by unfold onTr; rw [q]; exact h
instance ic_onTr : IsC (onTr r Φb ρ) := ⟨fun h => h⟩
theorem e_and (h : ta ρ fun k ρ' => if k = true then tb ρ' Φb else Φb false ρ') : tAnd' ta tb ρ Φb := h
instance st_and : Step (tAnd' ta tb ρ Φb) (ta ρ fun k ρ' => if k = true then tb ρ' Φb else Φb false ρ') := ⟨fun h => e_and h⟩
theorem e_or (h : ta ρ fun k ρ' => if k = true then Φb true ρ' else tb ρ' Φb) : tOr' ta tb ρ Φb := h
instance st_or : Step (tOr' ta tb ρ Φb) (ta ρ fun k ρ' => if k = true then Φb true ρ' else tb ρ' Φb) := ⟨fun h => e_or h⟩
theorem e_not (h : ta ρ fun k ρ' => Φb (!k) ρ') : tNot' ta ρ Φb := h
instance st_not : Step (tNot' ta ρ Φb) (ta ρ fun k ρ' => Φb (!k) ρ') := ⟨fun h => e_not h⟩
theorem e_yes (h : Φb true ρ) : tYes' ρ Φb := h
instance st_yes : Step (tYes' ρ Φb) (Φb true ρ) := ⟨fun h => e_yes h⟩
theorem e_it {a b : Prop} (h : a) : if true = true then a else b := h
instance st_it {a b : Prop} : Step (if true = true then a else b) (a) := ⟨fun h => e_it h⟩
theorem e_if0 {a b : Prop} (h : b) : if false = true then a else b := h
instance st_if0 {a b : Prop} : Step (if false = true then a else b) (b) := ⟨fun h => e_if0 h⟩
theorem e_itn {a b : Prop} (h : b) : if (!true) = true then a else b := h
instance st_itn {a b : Prop} : Step (if (!true) = true then a else b) (b) := ⟨fun h => e_itn h⟩
theorem e_ifn {a b : Prop} (h : a) : if (!false) = true then a else b := h
instance st_ifn {a b : Prop} : Step (if (!false) = true then a else b) (a) := ⟨fun h => e_ifn h⟩
theorem e_dec {P a b : Prop} [Decidable P] (h1 : P → a) (h2 : ¬P → b) : if decide P = true then a else b := by
  by_cases c : P
  · rw [decide_eq_true c]; exact h1 c
  · rw [decide_eq_false c]; exact h2 c
theorem e_bool {a b : Prop} (h1 : k = true → a) (h2 : k = false → b) : if k = true then a else b := by
  cases k
  · exact h2 rfl
  · exact h1 rfl
/-! statements -/
theorem e_skip (h : S.nx ρ) : sSkip ρ S := h
instance st_skip : Step (sSkip ρ S) (S.nx ρ) := ⟨fun h => e_skip h⟩
theorem e_seq {f : En → Prop} {g : R → En → Prop} {b c : En → Prop} (h : u ρ ⟨fun ρ' => v ρ' ⟨f, g, b, c⟩, g, b, c⟩) : sSeq u v ρ ⟨f, g, b, c⟩ := h
instance st_seq {f : En → Prop} {g : R → En → Prop} {b c : En → Prop} : Step (sSeq u v ρ ⟨f, g, b, c⟩) (u ρ ⟨fun ρ' => v ρ' ⟨f, g, b, c⟩, g, b, c⟩) := ⟨fun h => e_seq h⟩
theorem e_brk (h : S.bk ρ) : sBreak ρ S := h
instance st_brk : Step (sBreak ρ S) (S.bk ρ) := ⟨fun h => e_brk h⟩
theorem e_cont (h : S.ct ρ) : sCont ρ S := h
instance st_cont : Step (sCont ρ S) (S.ct ρ) := ⟨fun h => e_cont h⟩
theorem e_drop (h : wa ρ fun _ ρ' => S.nx ρ') : sDrop wa ρ S := h
instance st_drop : Step (sDrop wa ρ S) (wa ρ fun _ ρ' => S.nx ρ') := ⟨fun h => e_drop h⟩
theorem e_set (h : wa ρ fun r ρ' => setW i r ρ' S) : sSet i wa ρ S := h
instance st_set : Step (sSet i wa ρ S) (wa ρ fun r ρ' => setW i r ρ' S) := ⟨fun h => e_set h⟩
theorem e_setF (l : Nat.blt i ρ.length = true) (h : S.nx (ρ.set i (.fr d))) : setW i (.fr d) ρ S := ⟨Nat.blt_eq.mp l, trivial, h⟩
instance ic_setF : IsC (setW i (.fr d) ρ S) := ⟨fun h => h⟩
theorem e_setO (l : Nat.blt i ρ.length = true) (h : S.nx (ρ.set i (.ow d))) : setW i (.ow d) ρ S := ⟨Nat.blt_eq.mp l, trivial, h⟩
instance ic_setO : IsC (setW i (.ow d) ρ S) := ⟨fun h => h⟩
theorem e_aug {o : D → D → (D → Prop) → Prop} (q : ρ[i]? = some (.fr d)) (h : wa ρ fun r ρ' => o d r.d fun d' => augW i d' ρ' S) : sAug o i wa ρ S := by unfold sAug; rw [q]; exact h
instance ic_aug {o : D → D → (D → Prop) → Prop} : IsC (sAug o i wa ρ S) := ⟨fun h => h⟩
theorem e_augW (l : Nat.blt i ρ.length = true) (h : S.nx (ρ.set i (.fr d))) : augW i d ρ S := ⟨Nat.blt_eq.mp l, h⟩
instance ic_augW : IsC (augW i d ρ S) := ⟨fun h => h⟩
theorem e_mut {o : List D → List D → (List D → Prop) → Prop} (q : ρ[i]? = some (.ow (.lst ds))) (h : ws ρ fun rs ρ' => mutW o i rs ρ' S) : sMutF o i ws ρ S := by unfold sMutF; rw [q]; exact h
instance ic_mut {o : List D → List D → (List D → Prop) → Prop} : IsC (sMutF o i ws ρ S) := ⟨fun h => h⟩
theorem e_mutW {o : List D → List D → (List D → Prop) → Prop} (q : ρ[i]? = some (.ow (.lst ds))) (q2 : frs' rs = some es) (h : o ds es fun ds' => S.nx (ρ.set i (.ow (.lst ds')))) : mutW o i rs ρ S := by unfold mutW; rw [q, q2]; exact h
instance ic_mutW {o : List D → List D → (List D → Prop) → Prop} : IsC (mutW o i rs ρ S) := ⟨fun h => h⟩
theorem e_mut0 {o : List D → (List D → Prop) → Prop} (q : ρ[i]? = some (.ow (.lst ds))) (h : o ds fun ds' => S.nx (ρ.set i (.ow (.lst ds')))) : sMut0 o i ρ S := by unfold sMut0; rw [q]; exact h
instance ic_mut0 {o : List D → (List D → Prop) → Prop} : IsC (sMut0 o i ρ S) := ⟨fun h => h⟩
theorem e_par (h : ws ρ fun rs ρ' => parW i j rs ρ' S) : sPar i j ws ρ S := h
instance st_par : Step (sPar i j ws ρ S) (ws ρ fun rs ρ' => parW i j rs ρ' S) := ⟨fun h => e_par h⟩
theorem e_parW {r1 r2 : R} (l1 : Nat.blt i ρ.length = true) (l2 : Nat.blt j ρ.length = true) (o1 : r1.ok) (o2 : r2.ok) (h : S.nx ((ρ.set i r1.cell).set j r2.cell)) : parW i j [r1, r2] ρ S := ⟨⟨Nat.blt_eq.mp l1, Nat.blt_eq.mp l2⟩, ⟨o1, o2⟩, h⟩
instance ic_parW {r1 r2 : R} : IsC (parW i j [r1, r2] ρ S) := ⟨fun h => h⟩
theorem e_unp {W : WTg} (h : wa ρ fun r ρ' => unpW W r ρ' S) : sUnp W wa ρ S := h
instance st_unp {W : WTg} : Step (sUnp W wa ρ S) (wa ρ fun r ρ' => unpW W r ρ' S) := ⟨fun h => e_unp h⟩
theorem e_unpW {W : WTg} (h : W d ρ S.nx) : unpW W (.fr d) ρ S := h
instance st_unpW {W : WTg} : Step (unpW W (.fr d) ρ S) (W d ρ S.nx) := ⟨fun h => e_unpW h⟩
theorem e_gN (l : Nat.blt i ρ.length = true) (h : Φe (ρ.set i (.fr d))) : gN i d ρ Φe := ⟨Nat.blt_eq.mp l, h⟩
instance ic_gN : IsC (gN i d ρ Φe) := ⟨fun h => h⟩
theorem e_gNl (h : Φe ρ) : gNl [] ρ Φe := ⟨rfl, h⟩
instance st_gNl : Step (gNl [] ρ Φe) (Φe ρ) := ⟨fun h => e_gNl h⟩
theorem e_gCs {w : WTg} {wr : WTgs} (h : w d ρ fun ρ' => wr ds ρ' Φe) : gCs w wr (d :: ds) ρ Φe := h
instance st_gCs {w : WTg} {wr : WTgs} : Step (gCs w wr (d :: ds) ρ Φe) (w d ρ fun ρ' => wr ds ρ' Φe) := ⟨fun h => e_gCs h⟩
theorem e_gTp {n : Nat} {wr : WTgs} (l : ds.length = n) (h : wr ds ρ Φe) : gTp n wr (.tup ds) ρ Φe := ⟨l, h⟩
instance ic_gTp {n : Nat} {wr : WTgs} : IsC (gTp n wr (.tup ds) ρ Φe) := ⟨fun h => h⟩
theorem e_sif (h : ta ρ fun k ρ' => if k = true then u ρ' S else v ρ' S) : sIf ta u v ρ S := h
instance st_sif : Step (sIf ta u v ρ S) (ta ρ fun k ρ' => if k = true then u ρ' S else v ρ' S) := ⟨fun h => e_sif h⟩
theorem e_ret (h : wa ρ fun r ρ' => retW r ρ' S) : sRet wa ρ S := h
instance st_ret : Step (sRet wa ρ S) (wa ρ fun r ρ' => retW r ρ' S) := ⟨fun h => e_ret h⟩
theorem e_retF (h : S.rt (.fr d) ρ) : retW (.fr d) ρ S := h
instance st_retF : Step (retW (.fr d) ρ S) (S.rt (.fr d) ρ) := ⟨fun h => e_retF h⟩
theorem e_retO (h : S.rt (.ow d) ρ) : retW (.ow d) ρ S := h
instance st_retO : Step (retW (.ow d) ρ S) (S.rt (.ow d) ρ) := ⟨fun h => e_retO h⟩
theorem e_retN (h : S.rt (.fr .non) ρ) : sRetN ρ S := h
instance st_retN : Step (sRetN ρ S) (S.rt (.fr .non) ρ) := ⟨fun h => e_retN h⟩
theorem e_retV (q : ρ[i]? = some (.fr d)) (h : S.rt (.fr d) ρ) : sRetV i ρ S := by unfold sRetV; rw [q]; exact h
instance ic_retV : IsC (sRetV i ρ S) := ⟨fun h => h⟩
theorem e_retVo (q : ρ[i]? = some (.ow d)) (h : S.rt (.ow d) ρ) : sRetV i ρ S := by unfold sRetV; rw [q]; exact h
instance ic_retVo : IsC (sRetV i ρ S) := ⟨fun h => h⟩
theorem e_for {wi : WI} {W : WTg} {b : WS} (h : wi ρ fun ds ρ' => forD W b S ds ρ') : sFor wi W b ρ S := h
instance st_for {wi : WI} {W : WTg} {b : WS} : Step (sFor wi W b ρ S) (wi ρ fun ds ρ' => forD W b S ds ρ') := ⟨fun h => e_for h⟩
theorem e_lc {wi : WI} {W : WTg} {wt : WT} {we : WE} {vs : List Nat} (h : wi ρ fun ds ρ1 => lcD W wt we vs (fun out ρe => Φ (.ow (.lst out)) (mixE vs 0 ρ1 ρe)) ds [] (wipeE vs 0 ρ1)) : wLc wi W wt we vs ρ Φ := h
instance st_lc {wi : WI} {W : WTg} {wt : WT} {we : WE} {vs : List Nat} : Step (wLc wi W wt we vs ρ Φ) (wi ρ fun ds ρ1 => lcD W wt we vs (fun out ρe => Φ (.ow (.lst out)) (mixE vs 0 ρ1 ρe)) ds [] (wipeE vs 0 ρ1)) := ⟨fun h => e_lc h⟩
/-! what is walked -/
theorem e_seqI (h : wa ρ fun r ρ' => seqW r Φi ρ') : wSeqI wa ρ Φi := h
instance st_seqI : Step (wSeqI wa ρ Φi) (wa ρ fun r ρ' => seqW r Φi ρ') := ⟨fun h => e_seqI h⟩
theorem e_seqL (h : Φi ds ρ) : seqW (.fr (.lst ds)) Φi ρ := h
instance st_seqL : Step (seqW (.fr (.lst ds)) Φi ρ) (Φi ds ρ) := ⟨fun h => e_seqL h⟩
theorem e_seqT (h : Φi ds ρ) : seqW (.fr (.tup ds)) Φi ρ := h
instance st_seqT : Step (seqW (.fr (.tup ds)) Φi ρ) (Φi ds ρ) := ⟨fun h => e_seqT h⟩
def rngW (rs : List D) (Φ : List D → En → Prop) (ρ : En) : Prop := match rs with
  | [.int j] => (-(2 ^ 62) ≤ j ∧ j < 2 ^ 62) ∧ Φ (rngD 0 j.toNat) ρ
  | _ => False
def rng2W (rs : List D) (Φ : List D → En → Prop) (ρ : En) : Prop := match rs with
  | [.int i, .int j] => (-(2 ^ 62) ≤ i ∧ i < 2 ^ 62 ∧ -(2 ^ 62) ≤ j ∧ j < 2 ^ 62) ∧ Φ (rngD i (j - i).toNat) ρ
  | _ => False
theorem e_rng (h : ws ρ fun rs ρ' => rngW (rs.map R.d) Φi ρ') : wRng1 ws ρ Φi := h
instance st_rng : Step (wRng1 ws ρ Φi) (ws ρ fun rs ρ' => rngW (rs.map R.d) Φi ρ') := ⟨fun h => e_rng h⟩
theorem e_rngW {n : Int} (q : es = [.int n]) (l : -4611686018427387904 ≤ n ∧ n < 4611686018427387904) (h : Φi (rngD 0 n.toNat) ρ) : rngW es Φi ρ := by subst q; exact ⟨⟨by omega, by omega⟩, h⟩
instance ic_rngW : IsC (rngW es Φi ρ) := ⟨fun h => h⟩
theorem e_rng2 (h : ws ρ fun rs ρ' => rng2W (rs.map R.d) Φi ρ') : wRng2 ws ρ Φi := h
instance st_rng2 : Step (wRng2 ws ρ Φi) (ws ρ fun rs ρ' => rng2W (rs.map R.d) Φi ρ') := ⟨fun h => e_rng2 h⟩
theorem e_rng2W {m n : Int} (q : es = [.int m, .int n]) (l : -4611686018427387904 ≤ m ∧ m < 4611686018427387904 ∧ -4611686018427387904 ≤ n ∧ n < 4611686018427387904) (h : Φi (rngD m (n - m).toNat) ρ) : rng2W es Φi ρ := by subst q; exact ⟨⟨by omega, by omega, by omega, by omega⟩, h⟩
instance ic_rng2W : IsC (rng2W es Φi ρ) := ⟨fun h => h⟩
def strIW (d : D) (Φ : List D → En → Prop) (ρ : En) : Prop := match d with
  | .str x => Φ (sgD x) ρ
  | _ => False
theorem e_strI (h : wa ρ fun r ρ' => strIW r.d Φi ρ') : wStrI wa ρ Φi := h
instance st_strI : Step (wStrI wa ρ Φi) (wa ρ fun r ρ' => strIW r.d Φi ρ') := ⟨fun h => e_strI h⟩
theorem e_strIW {x : Str} (q : d = .str x) (h : Φi (sgD x) ρ) : strIW d Φi ρ := by subst q; exact h
instance ic_strIW : IsC (strIW d Φi ρ) := ⟨fun h => h⟩
def enW (rs : List R) (Φ : List D → En → Prop) (ρ : En) : Prop := match rs with
  | [.fr (.lst ds)] => Φ (enD ds) ρ
  | _ => False
theorem e_en (h : ws ρ fun rs ρ' => enW rs Φi ρ') : wEnum ws ρ Φi := h
instance st_en : Step (wEnum ws ρ Φi) (ws ρ fun rs ρ' => enW rs Φi ρ') := ⟨fun h => e_en h⟩
theorem e_enW (h : Φi (enD ds) ρ) : enW [.fr (.lst ds)] Φi ρ := h
instance st_enW : Step (enW [.fr (.lst ds)] Φi ρ) (Φi (enD ds) ρ) := ⟨fun h => e_enW h⟩
def enSW (rs : List D) (Φ : List D → En → Prop) (ρ : En) : Prop := match rs with
  | [.str x] => Φ (enD (sgD x)) ρ
  | _ => False
theorem e_enS (h : ws ρ fun rs ρ' => enSW (rs.map R.d) Φi ρ') : wEnumS ws ρ Φi := h
instance st_enS : Step (wEnumS ws ρ Φi) (ws ρ fun rs ρ' => enSW (rs.map R.d) Φi ρ') := ⟨fun h => e_enS h⟩
theorem e_enSW {x : Str} (q : es = [.str x]) (h : Φi (enD (sgD x)) ρ) : enSW es Φi ρ := by subst q; exact h
instance ic_enSW : IsC (enSW es Φi ρ) := ⟨fun h => h⟩
def zipW (rs : List R) (Φ : List D → En → Prop) (ρ : En) : Prop := match rs with
  | [.fr (.lst ds), .fr (.lst es)] => Φ (zpD ds es) ρ
  | _ => False
theorem e_zip (h : ws ρ fun rs ρ' => zipW rs Φi ρ') : wZip ws ρ Φi := h
instance st_zip : Step (wZip ws ρ Φi) (ws ρ fun rs ρ' => zipW rs Φi ρ') := ⟨fun h => e_zip h⟩
theorem e_zipW (h : Φi (zpD ds es) ρ) : zipW [.fr (.lst ds), .fr (.lst es)] Φi ρ := h
instance st_zipW : Step (zipW [.fr (.lst ds), .fr (.lst es)] Φi ρ) (Φi (zpD ds es) ρ) := ⟨fun h => e_zipW h⟩
/-! operations -/
variable {m n : Int} {x y : Str} {p q : Bool} {d : D}
theorem e_addI (h : Φr (.fr (.int (m + n)))) : oAdd (.int m) (.int n) Φr := h
instance st_addI : Step (oAdd (.int m) (.int n) Φr) (Φr (.fr (.int (m + n)))) := ⟨fun h => e_addI h⟩
theorem e_addS (l : x.length + y.length ≤ 16777216) (h : Φr (.fr (.str (x ++ y)))) : oAdd (.str x) (.str y) Φr := ⟨by rw [sizeLine_eq]; exact l, h⟩
instance ic_addS : IsC (oAdd (.str x) (.str y) Φr) := ⟨fun h => h⟩
theorem e_addL (l : ds.length + es.length ≤ 16777216) (h : Φr (.ow (.lst (ds ++ es)))) : oAdd (.lst ds) (.lst es) Φr := ⟨by rw [sizeLine_eq]; exact l, h⟩
instance ic_addL : IsC (oAdd (.lst ds) (.lst es) Φr) := ⟨fun h => h⟩
theorem e_addT (l : ds.length + es.length ≤ 16777216) (h : Φr (.fr (.tup (ds ++ es)))) : oAdd (.tup ds) (.tup es) Φr := ⟨by rw [sizeLine_eq]; exact l, h⟩
instance ic_addT : IsC (oAdd (.tup ds) (.tup es) Φr) := ⟨fun h => h⟩
theorem e_int0 {g : Int → Int → D} (h : Φr (.fr (g m n))) : oInt0 g (.int m) (.int n) Φr := h
instance st_int0 {g : Int → Int → D} : Step (oInt0 g (.int m) (.int n) Φr) (Φr (.fr (g m n))) := ⟨fun h => e_int0 h⟩
theorem e_int {C : Int → Int → Prop} {g : Int → Int → D} (l : C m n) (h : Φr (.fr (g m n))) : oInt C g (.int m) (.int n) Φr := ⟨l, h⟩
instance ic_int {C : Int → Int → Prop} {g : Int → Int → D} : IsC (oInt C g (.int m) (.int n) Φr) := ⟨fun h => h⟩
theorem e_mulI (l : CMul m n) (h : Φr (.fr (.int (m * n)))) : oMulA (.int m) (.int n) Φr := ⟨l, h⟩
instance ic_mulI : IsC (oMulA (.int m) (.int n) Φr) := ⟨fun h => h⟩
theorem e_mulL (l : -(2 ^ 63) ≤ n ∧ n < 2 ^ 63 ∧ ds.length * n.toNat ≤ 16777216) (h : Φr (.ow (.lst (List.replicate n.toNat ds).flatten))) : oMulA (.lst ds) (.int n) Φr := ⟨⟨l.1, l.2.1, by rw [sizeLine_eq]; exact l.2.2⟩, h⟩
instance ic_mulL : IsC (oMulA (.lst ds) (.int n) Φr) := ⟨fun h => h⟩
theorem e_neg (h : Φr (.fr (.int (-n)))) : oNeg (.int n) Φr := h
instance st_neg : Step (oNeg (.int n) Φr) (Φr (.fr (.int (-n)))) := ⟨fun h => e_neg h⟩
theorem e_ltI (h : Φr (.fr (.bl (decide (m < n))))) : oLt (.int m) (.int n) Φr := h
instance st_ltI : Step (oLt (.int m) (.int n) Φr) (Φr (.fr (.bl (decide (m < n))))) := ⟨fun h => e_ltI h⟩
theorem e_ltS (h : Φr (.fr (.bl (strLt x y)))) : oLt (.str x) (.str y) Φr := h
instance st_ltS : Step (oLt (.str x) (.str y) Φr) (Φr (.fr (.bl (strLt x y)))) := ⟨fun h => e_ltS h⟩
theorem e_leI (h : Φr (.fr (.bl (decide (m ≤ n))))) : oLe (.int m) (.int n) Φr := h
instance st_leI : Step (oLe (.int m) (.int n) Φr) (Φr (.fr (.bl (decide (m ≤ n))))) := ⟨fun h => e_leI h⟩
theorem e_leS (h : Φr (.fr (.bl (!strLt y x)))) : oLe (.str x) (.str y) Φr := h
instance st_leS : Step (oLe (.str x) (.str y) Φr) (Φr (.fr (.bl (!strLt y x)))) := ⟨fun h => e_leS h⟩
theorem e_gtI (h : Φr (.fr (.bl (decide (n < m))))) : oGt (.int m) (.int n) Φr := h
instance st_gtI : Step (oGt (.int m) (.int n) Φr) (Φr (.fr (.bl (decide (n < m))))) := ⟨fun h => e_gtI h⟩
theorem e_gtS (h : Φr (.fr (.bl (strLt y x)))) : oGt (.str x) (.str y) Φr := h
instance st_gtS : Step (oGt (.str x) (.str y) Φr) (Φr (.fr (.bl (strLt y x)))) := ⟨fun h => e_gtS h⟩
theorem e_geI (h : Φr (.fr (.bl (decide (n ≤ m))))) : oGe (.int m) (.int n) Φr := h
instance st_geI : Step (oGe (.int m) (.int n) Φr) (Φr (.fr (.bl (decide (n ≤ m))))) := ⟨fun h => e_geI h⟩
theorem e_geS (h : Φr (.fr (.bl (!strLt x y)))) : oGe (.str x) (.str y) Φr := h
instance st_geS : Step (oGe (.str x) (.str y) Φr) (Φr (.fr (.bl (!strLt x y)))) := ⟨fun h => e_geS h⟩
theorem e_eqI (h : Φr (.fr (.bl (decide (m = n))))) : oEq (.int m) (.int n) Φr := by rw [oEq_int]; exact h
instance st_eqI : Step (oEq (.int m) (.int n) Φr) (Φr (.fr (.bl (decide (m = n))))) := ⟨fun h => e_eqI h⟩
theorem e_eqS (h : Φr (.fr (.bl (decide (x = y))))) : oEq (.str x) (.str y) Φr := h
instance st_eqS : Step (oEq (.str x) (.str y) Φr) (Φr (.fr (.bl (decide (x = y))))) := ⟨fun h => e_eqS h⟩
theorem e_eqB (h : Φr (.fr (.bl (p == q)))) : oEq (.bl p) (.bl q) Φr := by rw [oEq_bl]; exact h
instance st_eqB : Step (oEq (.bl p) (.bl q) Φr) (Φr (.fr (.bl (p == q)))) := ⟨fun h => e_eqB h⟩
theorem e_neI (h : Φr (.fr (.bl (!decide (m = n))))) : oNe (.int m) (.int n) Φr := by rw [oNe_int]; exact h
instance st_neI : Step (oNe (.int m) (.int n) Φr) (Φr (.fr (.bl (!decide (m = n))))) := ⟨fun h => e_neI h⟩
theorem e_neS (h : Φr (.fr (.bl (!decide (x = y))))) : oNe (.str x) (.str y) Φr := h
instance st_neS : Step (oNe (.str x) (.str y) Φr) (Φr (.fr (.bl (!decide (x = y))))) := ⟨fun h => e_neS h⟩
theorem e_neB (h : Φr (.fr (.bl (!(p == q))))) : oNe (.bl p) (.bl q) Φr := by rw [oNe_bl]; exact h
instance st_neB : Step (oNe (.bl p) (.bl q) Φr) (Φr (.fr (.bl (!(p == q))))) := ⟨fun h => e_neB h⟩
theorem e_inL {neg : Bool} (l : (okE d && okE (.lst ds)) = true) (h : Φr (.fr (.bl (if neg then !inD d ds else inD d ds)))) : oIn neg d (.lst ds) Φr := by cases d <;> exact ⟨l, h⟩
theorem e_inT {neg : Bool} (l : (okE d && okE (.lst ds)) = true) (h : Φr (.fr (.bl (if neg then !inD d ds else inD d ds)))) : oIn neg d (.tup ds) Φr := by cases d <;> exact ⟨l, h⟩
theorem e_inL0 (l : (okE d && okE (.lst ds)) = true) (h : Φr (.fr (.bl (inD d ds)))) : oIn false d (.lst ds) Φr := e_inL l h
instance ic_inL0 : IsC (oIn false d (.lst ds) Φr) := ⟨fun h => h⟩
theorem e_inL1 (l : (okE d && okE (.lst ds)) = true) (h : Φr (.fr (.bl (!inD d ds)))) : oIn true d (.lst ds) Φr := e_inL l h
instance ic_inL1 : IsC (oIn true d (.lst ds) Φr) := ⟨fun h => h⟩
theorem e_inT0 (l : (okE d && okE (.lst ds)) = true) (h : Φr (.fr (.bl (inD d ds)))) : oIn false d (.tup ds) Φr := e_inT l h
instance ic_inT0 : IsC (oIn false d (.tup ds) Φr) := ⟨fun h => h⟩
theorem e_inT1 (l : (okE d && okE (.lst ds)) = true) (h : Φr (.fr (.bl (!inD d ds)))) : oIn true d (.tup ds) Φr := e_inT l h
instance ic_inT1 : IsC (oIn true d (.tup ds) Φr) := ⟨fun h => h⟩
theorem e_ixL (l : atI ds n = some d) (h : Φr (.fr d)) : oIx (.lst ds) (.int n) Φr := ⟨d, l, h⟩
instance ic_ixL : IsC (oIx (.lst ds) (.int n) Φr) := ⟨fun h => h⟩
theorem e_ixT (l : atI ds n = some d) (h : Φr (.fr d)) : oIx (.tup ds) (.int n) Φr := ⟨d, l, h⟩
instance ic_ixT : IsC (oIx (.tup ds) (.int n) Φr) := ⟨fun h => h⟩
theorem e_slL {lo hi : Option Int} (h : Φr (.ow (.lst (cutD ds lo hi)))) : oSl (.lst ds) lo hi Φr := h
instance st_slL {lo hi : Option Int} : Step (oSl (.lst ds) lo hi Φr) (Φr (.ow (.lst (cutD ds lo hi)))) := ⟨fun h => e_slL h⟩
theorem e_slT {lo hi : Option Int} (h : Φr (.fr (.tup (cutD ds lo hi)))) : oSl (.tup ds) lo hi Φr := h
instance st_slT {lo hi : Option Int} : Step (oSl (.tup ds) lo hi Φr) (Φr (.fr (.tup (cutD ds lo hi)))) := ⟨fun h => e_slT h⟩
theorem e_slS {lo hi : Option Int} (z : x.length ≤ 16777216) (h : Φr (.fr (.str (cutS x lo hi)))) : oSl (.str x) lo hi Φr := ⟨by rw [sizeLine_eq]; exact z, h⟩
instance ic_slS {lo hi : Option Int} : IsC (oSl (.str x) lo hi Φr) := ⟨fun h => h⟩
theorem e_lenL (h : Φr (.fr (.int ds.length))) : oLen [.lst ds] Φr := h
instance st_lenL : Step (oLen [.lst ds] Φr) (Φr (.fr (.int ds.length))) := ⟨fun h => e_lenL h⟩
theorem e_lenT (h : Φr (.fr (.int ds.length))) : oLen [.tup ds] Φr := h
instance st_lenT : Step (oLen [.tup ds] Φr) (Φr (.fr (.int ds.length))) := ⟨fun h => e_lenT h⟩
theorem e_lenS (z : x.length ≤ 16777216) (h : Φr (.fr (.int x.length))) : oLen [.str x] Φr := ⟨by rw [sizeLine_eq]; exact z, h⟩
instance ic_lenS : IsC (oLen [.str x] Φr) := ⟨fun h => h⟩
theorem e_intI (h : Φr (.fr (.int n))) : oIntC [.int n] Φr := h
instance st_intI : Step (oIntC [.int n] Φr) (Φr (.fr (.int n))) := ⟨fun h => e_intI h⟩
theorem e_intB (h : Φr (.fr (.int (if p then 1 else 0)))) : oIntC [.bl p] Φr := h
instance st_intB : Step (oIntC [.bl p] Φr) (Φr (.fr (.int (if p then 1 else 0)))) := ⟨fun h => e_intB h⟩
theorem e_listL (h : Φr (.ow (.lst ds))) : oList [.lst ds] Φr := h
instance st_listL : Step (oList [.lst ds] Φr) (Φr (.ow (.lst ds))) := ⟨fun h => e_listL h⟩
theorem e_listT (h : Φr (.ow (.lst ds))) : oList [.tup ds] Φr := h
instance st_listT : Step (oList [.tup ds] Φr) (Φr (.ow (.lst ds))) := ⟨fun h => e_listT h⟩
theorem e_tupleL (h : Φr (.fr (.tup ds))) : oTuple [.lst ds] Φr := h
instance st_tupleL : Step (oTuple [.lst ds] Φr) (Φr (.fr (.tup ds))) := ⟨fun h => e_tupleL h⟩
theorem e_tupleT (h : Φr (.fr (.tup ds))) : oTuple [.tup ds] Φr := h
instance st_tupleT : Step (oTuple [.tup ds] Φr) (Φr (.fr (.tup ds))) := ⟨fun h => e_tupleT h⟩
theorem e_aAddI (h : Φd (.int (m + n))) : aAdd (.int m) (.int n) Φd := h
instance st_aAddI : Step (aAdd (.int m) (.int n) Φd) (Φd (.int (m + n))) := ⟨fun h => e_aAddI h⟩
theorem e_aAddS (l : x.length + y.length ≤ 16777216) (h : Φd (.str (x ++ y))) : aAdd (.str x) (.str y) Φd := ⟨by rw [sizeLine_eq]; exact l, h⟩
instance ic_aAddS : IsC (aAdd (.str x) (.str y) Φd) := ⟨fun h => h⟩
theorem e_aInt {C : Int → Int → Prop} {g : Int → Int → Int} (l : C m n) (h : Φd (.int (g m n))) : aInt C g (.int m) (.int n) Φd := ⟨l, h⟩
instance ic_aInt {C : Int → Int → Prop} {g : Int → Int → Int} : IsC (aInt C g (.int m) (.int n) Φd) := ⟨fun h => h⟩
theorem e_app (l : ds.length < 16777216) (h : Φl (ds ++ [d])) : owApp ds [d] Φl := ⟨by rw [sizeLine_eq]; exact l, h⟩
instance ic_app : IsC (owApp ds [d] Φl) := ⟨fun h => h⟩
theorem e_ext (l : ds.length + es.length ≤ 16777216) (h : Φl (ds ++ es)) : owExt ds [.lst es] Φl := ⟨by rw [sizeLine_eq]; exact l, h⟩
instance ic_ext : IsC (owExt ds [.lst es] Φl) := ⟨fun h => h⟩
theorem e_split (l : (y.length == 0) = false ∧ x.length + 2 ≤ 16777216) (h : Φr (.ow (.lst ((Txt.split x y).map D.str)))) : oSplit (.str x) [.str y] Φr := ⟨l.1, by rw [sizeLine_eq]; exact l.2, h⟩
/-! one turn of a comprehension -/
variable {Ψ : Option D → En → Prop} {W : WTg} {we : WE} {vs : List Nat}
def st2 (r : R) (vs : List Nat) (Ψ : Option D → En → Prop) (ρ : En) : Prop := match r with
  | .fr y => Ψ (some y) (wipeE vs 0 ρ)
  | _ => False
theorem e_step (h : W d ρ fun ρ1 => ta ρ1 fun b ρ2 => if b = true then we ρ2 fun r ρ3 => st2 r vs Ψ ρ3 else Ψ none (wipeE vs 0 ρ2)) : stepD W ta we vs ρ d Ψ := h
instance st_step : Step (stepD W ta we vs ρ d Ψ) (W d ρ fun ρ1 => ta ρ1 fun b ρ2 => if b = true then we ρ2 fun r ρ3 => st2 r vs Ψ ρ3 else Ψ none (wipeE vs 0 ρ2)) := ⟨fun h => e_step h⟩
theorem e_st2 (h : Ψ (some d) (wipeE vs 0 ρ)) : st2 (.fr d) vs Ψ ρ := h
instance st_st2 : Step (st2 (.fr d) vs Ψ ρ) (Ψ (some d) (wipeE vs 0 ρ)) := ⟨fun h => e_st2 h⟩
theorem e_nx {f : En → Prop} {g : R → En → Prop} {b c : En → Prop} (h : f ρ) : SK.nx ⟨f, g, b, c⟩ ρ := h
instance st_nx {f : En → Prop} {g : R → En → Prop} {b c : En → Prop} : Step (SK.nx ⟨f, g, b, c⟩ ρ) (f ρ) := ⟨fun h => e_nx h⟩
theorem e_rt {f : En → Prop} {g : R → En → Prop} {b c : En → Prop} (h : g r ρ) : SK.rt ⟨f, g, b, c⟩ r ρ := h
instance st_rt {f : En → Prop} {g : R → En → Prop} {b c : En → Prop} : Step (SK.rt ⟨f, g, b, c⟩ r ρ) (g r ρ) := ⟨fun h => e_rt h⟩
theorem e_rtc {f : En → Prop} {g : R → Prop} {b c : En → Prop} (h : g r) : SK.rt ⟨f, fun r _ => g r, b, c⟩ r ρ := h
instance (priority := 1200) st_rtc {f : En → Prop} {g : R → Prop} {b c : En → Prop} : Step (SK.rt ⟨f, fun r _ => g r, b, c⟩ r ρ) (g r) := ⟨fun h => e_rtc h⟩
theorem e_bk {f : En → Prop} {g : R → En → Prop} {b c : En → Prop} (h : b ρ) : SK.bk ⟨f, g, b, c⟩ ρ := h
instance st_bk {f : En → Prop} {g : R → En → Prop} {b c : En → Prop} : Step (SK.bk ⟨f, g, b, c⟩ ρ) (b ρ) := ⟨fun h => e_bk h⟩
theorem e_ct {f : En → Prop} {g : R → En → Prop} {b c : En → Prop} (h : c ρ) : SK.ct ⟨f, g, b, c⟩ ρ := h
instance st_ct {f : En → Prop} {g : R → En → Prop} {b c : En → Prop} : Step (SK.ct ⟨f, g, b, c⟩ ρ) (c ρ) := ⟨fun h => e_ct h⟩
end
theorem e_sum {ds : List D} {ns : List Int} {Φr : R → Prop} (q : intsD ds = some ns) (h : Φr (.fr (.int ns.sum))) : oSum [.lst ds] Φr := ⟨ns, q, h⟩
instance ic_sum {ds : List D} {Φr : R → Prop} : IsC (oSum [.lst ds] Φr) := ⟨fun h => h⟩
section
variable {ρ : En} {S : SK} {i j l : Nat} {d : D} {rs : List R} {ds es : List D} {wa wb : WE} {ws : WA} {wf : WF} {k : Bool} {c c1 c2 c3 : Cell} {r r1 r2 r3 : R} {f f1 f2 f3 : Cell → En}
variable {Φ : R → En → Prop} {Φb : Bool → En → Prop} {Φi : List D → En → Prop} {Φo : Option Int → En → Prop} {Φe : En → Prop}
instance peek_f : Peek (.fr d) (.fr d) := ⟨fun q h => by unfold wP; rw [q]; exact h⟩
instance peek_o : Peek (.ow d) (.bo d) := ⟨fun q h => by unfold wP; rw [q]; exact h⟩
instance peek_b : Peek (.bo d) (.bo d) := ⟨fun q h => by unfold wP; rw [q]; exact h⟩
instance sq_p [g : Get ρ i c] [p : Peek c r] : Step (wP i ρ Φ) (Φ r ρ) := ⟨fun h => p.f g.e h⟩
instance sq_v [g : Get ρ i (.fr d)] : Step (wV i ρ Φ) (Φ (.fr d) ρ) := ⟨fun h => by unfold wV; rw [g.e]; exact h⟩
instance sq_vo [g : Get ρ i (.ow d)] [s : SetF ρ i f] : Step (wV i ρ Φ) (Φ (.fr d) (f (.fr d))) := ⟨fun h => by unfold wV; rw [g.e]; show Φ (.fr d) (ρ.set i (.fr d)); rw [s.e]; exact h⟩
instance sq_tupW [g : Frs rs ds] [n : Few rs] : Step (tupW rs Φ ρ) (Φ (.fr (.tup ds)) ρ) := ⟨fun h => by unfold tupW; rw [g.e]; exact ⟨by rw [sizeLine_eq]; exact n.l, h⟩⟩
instance sq_lstW [g : Frs rs ds] [n : Few rs] : Step (lstW rs Φ ρ) (Φ (.ow (.lst ds)) ρ) := ⟨fun h => by unfold lstW; rw [g.e]; exact ⟨by rw [sizeLine_eq]; exact n.l, h⟩⟩
instance sq_callW [g : Frs rs ds] : Step (callW wf rs Φ ρ) (wf ds fun r => Φ r ρ) := ⟨fun h => by unfold callW; rw [g.e]; exact h⟩
instance sq_onB : Step (onB (.fr (.bl k)) Φb ρ) (Φb k ρ) := ⟨fun h => h⟩
instance sq_onTr : Step (onTr (.fr (.bl k)) Φb ρ) (Φb k ρ) := ⟨fun h => h⟩
instance sq_orW : Step (orW (.fr (.bl k)) wb Φ ρ) (if k = true then Φ (.fr (.bl k)) ρ else wb ρ Φ) := ⟨fun h => e_orW rfl h⟩
instance sq_andW : Step (andW (.fr (.bl k)) wb Φ ρ) (if k = true then wb ρ Φ else Φ (.fr (.bl k)) ρ) := ⟨fun h => e_andW rfl h⟩
instance sq_somW {n : Int} : Step (somW (.fr (.int n)) Φo ρ) (Φo (some n) ρ) := ⟨fun h => h⟩
instance sq_setF [s : SetF ρ i f] : Step (setW i (.fr d) ρ S) (S.nx (f (.fr d))) := ⟨fun h => ⟨s.l, trivial, by show S.nx (ρ.set i (.fr d)); rw [s.e]; exact h⟩⟩
instance sq_setO [s : SetF ρ i f] : Step (setW i (.ow d) ρ S) (S.nx (f (.ow d))) := ⟨fun h => ⟨s.l, trivial, by show S.nx (ρ.set i (.ow d)); rw [s.e]; exact h⟩⟩
instance sq_gN [s : SetF ρ i f] : Step (gN i d ρ Φe) (Φe (f (.fr d))) := ⟨fun h => ⟨s.l, by rw [s.e]; exact h⟩⟩
instance sq_parW [a : CellR r1 c1] [b : CellR r2 c2] [s : SetF ρ i f] [t : SetF (f c1) j f1] : Step (parW i j [r1, r2] ρ S) (S.nx (f1 c2)) := ⟨fun h => ⟨⟨s.l, by have z := t.l; rw [← s.e, List.length_set] at z; exact z⟩, ⟨a.o, b.o⟩, by rw [a.e, b.e, s.e, t.e]; exact h⟩⟩
instance sq_mut {o : List D → List D → (List D → Prop) → Prop} [g : Get ρ i (.ow (.lst ds))] : Step (sMutF o i ws ρ S) (ws ρ fun rs ρ' => mutW o i rs ρ' S) := ⟨fun h => e_mut g.e h⟩
instance sq_mut0 {o : List D → (List D → Prop) → Prop} [g : Get ρ i (.ow (.lst ds))] [s : SetF ρ i f] : Step (sMut0 o i ρ S) (o ds fun ds' => S.nx (f (.ow (.lst ds')))) := ⟨fun h => e_mut0 g.e (by simp only [s.e]; exact h)⟩
instance sq_mutW {o : List D → List D → (List D → Prop) → Prop} [g : Get ρ i (.ow (.lst ds))] [g2 : Frs rs es] [s : SetF ρ i f] : Step (mutW o i rs ρ S) (o ds es fun ds' => S.nx (f (.ow (.lst ds')))) := ⟨fun h => e_mutW g.e g2.e (by simp only [s.e]; exact h)⟩
instance sq_aug {o : D → D → (D → Prop) → Prop} [g : Get ρ i (.fr d)] : Step (sAug o i wa ρ S) (wa ρ fun r ρ' => o d r.d fun d' => augW i d' ρ' S) := ⟨fun h => e_aug g.e h⟩
instance sq_augW [s : SetF ρ i f] : Step (augW i d ρ S) (S.nx (f (.fr d))) := ⟨fun h => ⟨s.l, by rw [s.e]; exact h⟩⟩
instance sq_retV [g : Get ρ i (.fr d)] : Step (sRetV i ρ S) (S.rt (.fr d) ρ) := ⟨fun h => e_retV g.e h⟩
instance sq_retVo [g : Get ρ i (.ow d)] : Step (sRetV i ρ S) (S.rt (.ow d) ρ) := ⟨fun h => e_retVo g.e h⟩
instance sq_strIW {x : Str} : Step (strIW (.str x) Φi ρ) (Φi (sgD x) ρ) := ⟨fun h => h⟩
instance sq_gTp {n : Nat} {wr : WTgs} [g : LenN ds n] : Step (gTp n wr (.tup ds) ρ Φe) (wr ds ρ Φe) := ⟨fun h => e_gTp g.e h⟩
end
end Tv
/-! Tv16: is, chains, isinstance, range with a step, bits. -/
namespace Tv
open PySem PySem.Spec PyProof.Rows L2
variable [LamT]

section
variable {K : PySem.W.Frag} {X : Cx} {G0 : Gh} {H0 : Hp} {pos : Pos} {e tg a b c : Expr} {es : List Expr} {wa wb wc : WE} {ws : WA}
/-! ### is -/
/-! ### a < b < c -/
/-! ### range(i, j, c) -/
/-! ### bits -/
end
end Tv
/-! Tv17: sorted over data of one form. -/
namespace Tv
open PySem PySem.Spec PyProof.Rows L2
variable [LamT]

section
variable {K : PySem.W.Frag} {X : Cx}
abbrev pyZ (z : V × D) : PyData := z.2.py
def rSortedD (K : PySem.W.Frag) : List V → Hp → VK → Prop := fun vs H Q => ∃ (a : Addr) (zs : List (V × D)), vs = [V.ref a] ∧ (SqL K H a (zs.map (·.1))) ∧ (∀ z ∈ zs, Dp K H z.1 (pyZ z) ∧ (pyZ z).depth ≤ 64) ∧ PySem.W.AllAlike (zs.map pyZ) ∧ PySem.W.Sortable (zs.map pyZ) ∧
  ∀ p, H p = none → Q (.ref p) (upd H p (.lst ((zs.mergeSort (PySem.W.dataLe false pyZ)).map (·.1))))
theorem each_of_vals {R : Value → (V × D) → Prop} : ∀ {zs : List (V × D)} {us : List Value}, Vals (zs.map (·.1)) us → (∀ z ∈ zs, ∀ u, RelV z.1 u → R u z) → PySem.W.EachIs R us zs
  | [], _, r, _ => by cases r; exact .nil
  | z :: zs, _, r, h => by
    cases r with
    | cons r1 r2 => exact .cons (h z List.mem_cons_self _ r1) (each_of_vals r2 fun y hy => h y (List.mem_cons_of_mem _ hy))
theorem vals_of_each : ∀ {zs : List (V × D)} {us : List Value}, PySem.W.EachIs (fun u z => RelV z.1 u) us zs → Vals (zs.map (·.1)) us
  | [], _, r => by cases r; exact .nil
  | z :: zs, _, r => by
    cases r with
    | cons r1 r2 => exact .cons r1 (vals_of_each r2)
theorem cr_sortedD (hu : X.A.units + 70 < cLine) : CallR X (.builtin "sorted") (rSortedD X.K) := by
  intro pins s σ H vs us Q I r h
  obtain ⟨a, zs, rfl, hs, hd, hal, hso, q⟩ := h
  obtain ⟨its, rv, hl, hz⟩ := I.list hs
  rw [Vals.ref1 r]
  rw [List.length_map] at hz
  refine PySem.W.sorted_data (enc := pyZ) (R := fun u z => RelV z.1 u) hl.isList (each_of_vals rv fun z _ u ru => ru) (each_of_vals rv fun z hz u ru => Dp.reads I _ _ u (hd z hz).1 ru) hal hso hz (fun z hz => by have := (hd z hz).2; omega) fun out ho eo => ?_
  obtain ⟨ep, he'⟩ := PyProof.Rows.sortedAll_at s.heap its out.toArray
  have hlen : ((zs.mergeSort (PySem.W.dataLe false pyZ)).map (·.1)).length ≤ sizeLine := by rw [List.length_map, List.length_mergeSort]; exact hz
  have vo := vals_of_each eo
  refine ⟨.ref _, upd H (s.heap.objs.size + 1) (.lst ((zs.mergeSort (PySem.W.dataLe false pyZ)).map (·.1))), I.laid (t' := s.toks) (fun _ _ => PyProof.Rows.sortedAll_old) (Nat.le_succ _) ⟨hlen, out, ep, vo, ?_⟩, rfl, q _ (I.hok.fresh (Nat.le_succ _))⟩
  exact he'
/-- sorted: all alike -/
def oSorted : List D → (R → Prop) → Prop
  | [.lst ds], Φ => (D.goodL ds && decide (D.depL ds ≤ 64)) = true ∧ PySem.W.AllAlike (ds.map D.py) ∧ PySem.W.Sortable (ds.map D.py) ∧ Φ (.ow (.lst (ds.mergeSort (PySem.W.dataLe false D.py))))
  | _, _ => False
theorem RepL.zip {G : Gh} {H : Hp} : ∀ {ds : List D} {xs : List V}, RepL K G H ds xs → ∃ zs : List (V × D), zs.map (·.1) = xs ∧ zs.map (·.2) = ds ∧ ∀ z ∈ zs, Rep K G H z.2 z.1
  | _, _, .nil => ⟨[], rfl, rfl, fun _ h => nomatch h⟩
  | _, _, .cons (d := d) (v := v) r t => by
    obtain ⟨zs, e1, e2, h⟩ := RepL.zip t
    exact ⟨(v, d) :: zs, by simp [e1], by simp [e2], fun z hz => by
      rcases List.mem_cons.mp hz with rfl | hz
      · exact r
      · exact h z hz⟩
theorem RepL.unzip {G : Gh} {H : Hp} : ∀ {zs : List (V × D)}, (∀ z ∈ zs, Rep K G H z.2 z.1) → RepL K G H (zs.map (·.2)) (zs.map (·.1))
  | [], _ => .nil
  | z :: zs, h => .cons (h z List.mem_cons_self) (RepL.unzip fun y hy => h y (List.mem_cons_of_mem _ hy))
theorem goodL_mem : ∀ {ds : List D}, D.goodL ds = true → ∀ d ∈ ds, d.good = true ∧ d.dep ≤ D.depL ds
  | [], _, _, h => nomatch h
  | d :: ds, g, x, hx => by
    have g' : (d.good && D.goodL ds) = true := g
    rw [Bool.and_eq_true] at g'
    have e : D.depL (d :: ds) = max d.dep (D.depL ds) := rfl
    rcases List.mem_cons.mp hx with rfl | hx
    · exact ⟨g'.1, by rw [e]; exact Nat.le_max_left _ _⟩
    · obtain ⟨a, b⟩ := goodL_mem g'.2 x hx
      exact ⟨a, by rw [e]; exact Nat.le_trans b (Nat.le_max_right _ _)⟩
theorem opn_sorted : OpN K oSorted (rSortedD K) := fun G H ds vs Φ Q w hl hs h k => by
  unfold oSorted at h
  split at h
  · obtain ⟨v, rfl, s⟩ := one_sh hl hs
    obtain ⟨hg, hal, hso, h⟩ := h
    rw [Bool.and_eq_true, decide_eq_true_eq] at hg
    obtain ⟨a, xs, rfl, e, r⟩ := s.list
    obtain ⟨zs, e1, e2, hz⟩ := r.zip
    have e3 : zs.map pyZ = (zs.map (·.2)).map D.py := by rw [List.map_map]; rfl
    subst e1
    subst e2
    refine ⟨a, zs, rfl, e, fun z hz' => ?_, by rw [e3]; exact hal, by rw [e3]; exact hso, fun p hp => ?_⟩
    · obtain ⟨g1, g2⟩ := goodL_mem hg.1 z.2 (List.mem_map.mpr ⟨z, hz', rfl⟩)
      exact ⟨(hz z hz').dp g1, by show z.2.py.depth ≤ 64; rw [dep_py]; omega⟩
    · have e4 : (zs.mergeSort (PySem.W.dataLe false pyZ)).map (·.2) = (zs.map (·.2)).mergeSort (PySem.W.dataLe false D.py) := List.map_mergeSort fun _ _ _ _ => rfl
      have rp := RepL.unzip (K := K) (G := G) (H := H) (zs := zs.mergeSort (PySem.W.dataLe false pyZ)) fun z hz' => hz z ((List.mem_mergeSort).mp hz')
      rw [e4] at rp
      exact new_lst w k rp h p hp
  · exact h.elim
end
end Tv
namespace L2
theorem Room.r70 {k : Nat} {A : PySem.Around} (h : Room k A) : A.units + 70 < PySem.cLine := by have := h.un; omega
end L2
/-! Tv18: sets of keys of one kind, made of a list; sorted of such a set; its len. -/
namespace Tv
open PySem PySem.Spec PyProof.Rows L2

section
variable {P : Program} {w : World} {Ky : Type} [DecidableEq Ky] {knd : KeyKind P w Ky}
abbrev Ent := Int × Value
/-- the entries stand for these keys, one by one -/
abbrev EntsAre (knd : KeyKind P w Ky) (ks : List Ky) (es : List Ent) : Prop := Paired (fun k e => knd.is k e.2 = true) ks es
theorem ents_perm {es es' : List Ent} (p : es.Perm es') : ∀ {ks : List Ky}, EntsAre knd ks es → ∃ ks', ks.Perm ks' ∧ EntsAre knd ks' es' := by
  induction p with
  | nil => intro ks h; cases h; exact ⟨[], .refl _, .nil⟩
  | cons x _ ih =>
    intro ks h
    cases h with
    | cons r t =>
      obtain ⟨l, q, t'⟩ := ih t
      exact ⟨_ :: l, q.cons _, .cons r t'⟩
  | swap x y l =>
    intro ks h
    cases h with
    | cons r t =>
      cases t with
      | cons r' t => exact ⟨_, .swap _ _ _, .cons r' (.cons r t)⟩
  | trans _ _ ih1 ih2 =>
    intro ks h
    obtain ⟨l, q, t⟩ := ih1 h
    obtain ⟨l', q', t'⟩ := ih2 t
    exact ⟨l', q.trans q', t'⟩
theorem ents_snoc {k : Ky} {e : Ent} (r : knd.is k e.2 = true) : ∀ {ks : List Ky} {es : List Ent}, EntsAre knd ks es → EntsAre knd (ks ++ [k]) (es ++ [e])
  | [], _, .nil => .cons r .nil
  | _ :: _, _, .cons q t => .cons q (ents_snoc r t)
theorem ents_has {k : Ky} : ∀ {ks : List Ky} {es : List Ent}, EntsAre knd ks es → (k ∈ ks ↔ ∃ e ∈ es, knd.is k e.2 = true)
  | [], _, .nil => by simp
  | a :: ks, _, .cons (b := e) q t => by
    have ih := ents_has (k := k) t
    rw [List.mem_cons, ih]
    constructor
    · rintro (rfl | ⟨f, hf, z⟩)
      · exact ⟨e, List.mem_cons_self, q⟩
      · exact ⟨f, List.mem_cons_of_mem _ hf, z⟩
    · rintro ⟨f, hf, z⟩
      rcases List.mem_cons.mp hf with rfl | hf
      · exact .inl (knd.inj _ _ _ z q)
      · exact .inr ⟨f, hf, z⟩
theorem ents_len : ∀ {ks : List Ky} {es : List Ent}, EntsAre knd ks es → ks.length = es.length
  | [], _, .nil => rfl
  | _ :: _, _, .cons _ t => by simp [ents_len t]
/-- the set at a, its keys; the table in order -/
def SetG (knd : KeyKind P w Ky) (h : Heap) (a : Addr) (ks : List Ky) : Prop :=
  ∃ (o : Obj) (es : Array Ent) (ep : Nat) (t : SetTable) (l : List Ky), h.get? a = some o ∧ o.ExactSet ∧ o.data = .set es ep t ∧ ElemsOf knd es.toList ∧ EntsAre knd l es.toList ∧ l.Perm ks ∧ ks.Nodup ∧
    es.size < scanBound ∧ t.fits es.size = true ∧ Ris t.place.toList ∧ (w.params.followText "set-order" = true ∨ t.led = true)
variable {A : Around} {E : Value → Shared → Prop} {s : Shared} {a : Addr} {ks : List Ky} {k : Ky} {x : Value}
/-- k is put in -/
def addK (ks : List Ky) (k : Ky) : List Ky := if k ∈ ks then ks else ks ++ [k]
theorem setG_store {g : Bool → Sem Unit} (hg : ∀ (b : Bool) (z : Shared) (Z : Unit → Shared → Prop), Z () z → wpAny (model P w) A (g b) Z E z) {o : Obj} {es e1 : Array Ent} {ep : Nat} {t t1 : SetTable}
    (ho : s.heap.get? a = some o) (hx : o.ExactSet) (hd : o.data = .set es ep t) {l : List Ky} (el : ElemsOf knd e1.toList) (ea : EntsAre knd l e1.toList) (pl : l.Perm ks) (nd : ks.Nodup) (sb : e1.size < scanBound) (ft : t1.fits e1.size = true) (ri : Ris t1.place.toList)
    (ld : w.params.followText "set-order" = true ∨ t1.led = true) {dm : Bool} {Q : Option Bool → Shared → Prop} (hQ : ∀ h', Heap.SameBut a s.heap h' → SetG knd h' a ks → Q (some true) { s with heap := h' }) :
    wpAny (model P w) A (do
      storeSet a e1 t1
      if (!dm && t1.tooFull) = true then do
        g (relayAll t1 e1 (SetTable.grown e1.size)).2.2
        storeSet a (relayAll t1 e1 (SetTable.grown e1.size)).1 (relayAll t1 e1 (SetTable.grown e1.size)).2.1
        pure (some true)
      else pure (some true)) Q E s := by
  refine wpAny_bind (wpAny_storeSet_of ho hd ?_ (fits_of_scanBound sb))
  have o1 := store_at (es' := e1) (t' := t1) ho hd
  have s1 := Heap.SameBut.update s.heap a (Obj.putSet e1 t1)
  split
  · have p2 := relayAll_perm t1 e1 (SetTable.grown e1.size)
    have f2 := relayAll_fits t1 e1 (SetTable.grown e1.size)
    have r2 := relayAll_ris t1 e1 (SetTable.grown e1.size)
    have d2 := relayAll_led t1 e1 (SetTable.grown e1.size)
    generalize relayAll t1 e1 (SetTable.grown e1.size) = T at p2 f2 r2 d2 ⊢
    obtain ⟨e2, t2, gv⟩ := T
    dsimp only at p2 f2 r2 d2 ⊢
    have z2 : e2.size = e1.size := by simpa using p2.length_eq
    refine wpAny_bind (hg _ _ _ (wpAny_bind (wpAny_storeSet_of o1 rfl ?_ (fits_of_scanBound (by rw [z2]; exact sb)))))
    have o2 := store_at (es' := e2) (t' := t2) o1 rfl
    obtain ⟨l2, q2, ea2⟩ := ents_perm p2.symm ea
    exact wpAny_pure (hQ _ (s1.trans (Heap.SameBut.update _ a _)) ⟨_, e2, _, t2, l2, o2, hx, rfl, el.perm p2, ea2, q2.symm.trans pl, nd, by rw [z2]; exact sb, f2, r2, ld.imp id fun z => by rw [d2]; exact z⟩)
  · exact wpAny_pure (hQ _ s1 ⟨_, e1, _, t1, l, o1, hx, rfl, el, ea, pl, nd, sb, ft, ri, ld⟩)
theorem setG_add {Q : Bool → Shared → Prop} (hk : knd.is k x = true) (sc : x.scannable = true) (R : SetG knd s.heap a ks) (room : ks.length + 1 < scanBound) (hQ : ∀ h' b, Heap.SameBut a s.heap h' → SetG knd h' a (addK ks k) → Q b { s with heap := h' }) :
    wpAny (model P w) A (setAddHashed a x (knd.hash k)) Q E s := by
  obtain ⟨o, es, ep, t, l, ho, hx, hd, el, ea, pl, nd, sb, ft, ri, ld⟩ := R
  have le : es.size = ks.length := by rw [← pl.length_eq, ents_len ea, Array.length_toList]
  unfold setAddHashed setAddHashedIn
  refine wpAny_holding (wpAny_bind (wpAny_setState_of ho hd ft ?_))
  dsimp only
  rw [byScan_of sc sb el]
  simp only [↓reduceIte]
  unfold setAddByScan
  refine wpAny_bind (wpAny_bind (wpAny_rule (wpAny_bind (wpAny_setScan_of hk ho hd ft el ?_))))
  cases q : List.findIdx? (fun e => knd.is k e.2) es.toList with
  | some j =>
    dsimp only
    obtain ⟨hj, pj, _⟩ := List.findIdx?_eq_some_iff_getElem.mp q
    have km : k ∈ ks := pl.mem_iff.mp ((ents_has ea).mpr ⟨es.toList[j], List.getElem_mem hj, pj⟩)
    have e1 : addK ks k = ks := if_pos km
    refine wpAny_pure (wpAny_pure (hQ s.heap _ (Heap.SameBut.refl a s.heap) ?_))
    rw [e1]
    exact ⟨o, es, ep, t, l, ho, hx, hd, el, ea, pl, nd, sb, ft, ri, ld⟩
  | none =>
    dsimp only
    have kn : k ∉ ks := fun z => by
      obtain ⟨e, he, ke⟩ := (ents_has ea).mp (pl.mem_iff.mpr z)
      have := List.findIdx?_eq_none_iff.mp q e he
      rw [ke] at this
      cases this
    have e1 : addK ks k = ks ++ [k] := if_neg kn
    have gw : ∀ (b : Bool) {z : Shared} {Z : Unit → Shared → Prop}, Z () z → wpAny (model P w) A (match b with | true => rule "set.scan.the-table-gave-way" | false => pure ()) Z E z := fun b z Z h => by
      cases b
      · exact wpAny_pure h
      · exact wpAny_rule h
    have p1 := layNew_perm t es (knd.hash k) x
    have f1 := layNew_fits t es (knd.hash k) x
    have r1 := layNew_ris t es (knd.hash k) x ri
    have d1 := layNew_led t es (knd.hash k) x
    generalize layNew t es (knd.hash k) x = T at p1 f1 r1 d1 ⊢
    obtain ⟨n1, t1, dm, gv⟩ := T
    dsimp only at p1 f1 r1 d1 ⊢
    rw [Array.toList_push] at p1
    obtain ⟨l1, q1, ea1⟩ := ents_perm p1.symm (ents_snoc (e := (knd.hash k, x)) hk ea)
    have el1 : ElemsOf knd n1.toList := (el.push hk sc).perm p1
    have pl1 : l1.Perm (ks ++ [k]) := q1.symm.trans (pl.append_right [k])
    have nd1 : (ks ++ [k]).Nodup := by
      rw [List.nodup_append]
      exact ⟨nd, by simp, fun u hu v hv => by rw [List.mem_singleton.mp hv]; exact fun z => kn (z ▸ hu)⟩
    have sz1 : n1.size = ks.length + 1 := by
      have := p1.length_eq
      rw [List.length_append, List.length_singleton, Array.length_toList, Array.length_toList, le] at this
      exact this
    have sb1 : n1.size < scanBound := by rw [sz1]; exact room
    have ld1 : w.params.followText "set-order" = true ∨ t1.led = true := ld.imp id fun z => by rw [d1]; exact z
    have fin : ∀ h', Heap.SameBut a s.heap h' → SetG knd h' a (ks ++ [k]) → Q true { s with heap := h' } := fun h' z r => hQ h' true z (by rw [e1]; exact r)
    refine wpAny_bind (gw _ ?_)
    split
    · refine wpAny_bind ?_
      rw [hashByValue_scannable 8 sc]
      refine wpAny_pure (setG_store (fun b z Z h => gw b h) ho hx hd el1 ea1 pl1 nd1 sb1 ?_ ?_ ?_ fun h' z r => wpAny_pure (fin h' z r))
      · split
        · exact f1
        · exact SetTable.fits_plain_off f1
      · split <;> exact r1
      · split <;> exact ld1
    · refine wpAny_bind (wpAny_pure ?_)
      simp only [↓reduceIte]
      exact setG_store (fun b z Z h => gw b h) ho hx hd el1 ea1 pl1 nd1 sb1 f1 r1 ld1 fun h' z r => wpAny_pure (fin h' z r)
theorem paired_at {α β : Type} {F : α → β → Prop} : ∀ {l : List α} {m : List β} {i : Nat} {y : β}, Paired F l m → m[i]? = some y → ∃ x, l[i]? = some x ∧ F x y
  | _, _, _, _, .nil, h => by simp at h
  | _, _, 0, _, .cons r _, h => by simp at h; subst h; exact ⟨_, rfl, r⟩
  | _, _, i + 1, _, .cons _ t, h => by
    obtain ⟨x, e, r⟩ := paired_at t (by simpa using h)
    exact ⟨x, by simpa using e, r⟩
/-! ### set(list) -/
abbrev newO (w : World) : Obj := { cls := .type "set", dict := none, data := .set #[] 0 (.fresh 0 0 (!w.params.followText "set-order")) }
theorem SetG.at {h h' : Heap} (R : SetG knd h a ks) (g : ∀ o, h.get? a = some o → h'.get? a = some o) : SetG knd h' a ks := by
  obtain ⟨o, es, ep, t, l, ho, r⟩ := R
  exact ⟨o, es, ep, t, l, g o ho, r⟩
theorem setG_fresh {h : Heap} (ho : h.get? a = some (newO w)) : SetG knd h a [] := by
  refine ⟨_, #[], 0, _, [], ho, ⟨rfl, rfl, rfl⟩, rfl, fun e he => by simp at he, .nil, .refl _, .nil, by decide, by rfl, List.Pairwise.nil, ?_⟩
  show _ ∨ (!w.params.followText "set-order") = true
  cases w.params.followText "set-order"
  · exact .inr rfl
  · exact .inl rfl
def putAll (ks : List Ky) : List Ky := ks.foldl addK []
theorem addK_len (l : List Ky) (k : Ky) : (addK l k).length ≤ l.length + 1 := by
  unfold addK
  split
  · omega
  · simp
theorem foldK_len : ∀ (ks l : List Ky), (ks.foldl addK l).length ≤ l.length + ks.length
  | [], _ => Nat.le_refl _
  | k :: ks, l => by
    have a := foldK_len ks (addK l k)
    have b := addK_len l k
    rw [List.foldl_cons, List.length_cons]
    omega
theorem setG_loop {I : Addr} {fp wr : List Addr} {G : Array GenState → Array GenState → Prop} {n : Nat} {Pv : Nat → Value → Prop} {St : Nat → Shared → Prop} {R : Result → Shared → Prop} (W : WalksS P w A.in1 I fp wr G n Pv St) (S : Addr) (nf : S ∉ fp)
    (ks : List Ky) (hn : ks.length = n) (hb : ks.length + 1 < scanBound) (hv : ∀ i v, Pv i v → ∃ k, ks[i]? = some k ∧ knd.is k v = true ∧ v.scannable = true) :
    ∀ (m i : Nat) (s : Shared), n - i = m → i ≤ n → St i s → SetG knd s.heap S (putAll (ks.take i)) → (∀ s', Moved (S :: wr) G s s' → SetG knd s'.heap S (putAll ks) → R (.ok (.ret .none)) s') →
      codeAny (model P w) A (.builtin "set.update.loop" ⟨[.ref S, .ref I], []⟩) R s := by
  have nw : S ∉ wr := fun z => nf (W.sub _ z)
  have sub : ∀ b, b ∈ wr → b ∈ S :: wr := fun b z => .tail _ z
  intro m
  induction m with
  | zero =>
    intro i s e hi st hS hR
    obtain rfl : i = n := by omega
    refine codeAny_builtin F.entry_set_update_loop ?_
    rw [Around.under_plainId F.plain_set_update_loop _]
    show wpAny _ A.in1 (pyNext (.ref I) >>= _) _ _ s
    refine wpAny_bind (W.done s _ _ st fun s' mv => ?_)
    rw [List.take_of_length_le (by omega)] at hS
    exact wpAny_pure (hR s' (mv.mono sub) (hS.at fun o z => mv.heap S o nw z))
  | succ m ih =>
    intro i s e hi st hS hR
    have lt : i < n := by omega
    refine codeAny_builtin F.entry_set_update_loop ?_
    rw [Around.under_plainId F.plain_set_update_loop _]
    show wpAny _ A.in1 (pyNext (.ref I) >>= _) _ _ s
    refine wpAny_bind (W.item i s _ _ lt st fun v s' pv st' mv => ?_)
    obtain ⟨k, hk, kv, sc⟩ := hv i v pv
    have S1 := hS.at (h' := s'.heap) fun o z => mv.heap S o nw z
    show wpAny _ A.in1 (holding [v] (setAdd S v) >>= _) _ _ s'
    unfold setAdd
    refine wpAny_bind (wpAny_holding (wpAny_holding (wpAny_bind (knd.pyHash kv ?_))))
    have room : (putAll (ks.take i)).length + 1 < scanBound := by
      have z := foldK_len (ks.take i) []
      rw [List.length_take, List.length_nil] at z
      show (List.foldl addK [] (ks.take i)).length + 1 < scanBound
      omega
    refine setG_add (s := { s' with toks := s'.toks + 1 }) kv sc S1 room fun h' b sb S2 => ?_
    have S3 : SetG knd h' S (putAll (ks.take (i + 1))) := by
      have z : putAll (ks.take (i + 1)) = addK (putAll (ks.take i)) k := by
        unfold putAll
        rw [List.take_add_one, hk, Option.toList_some, List.foldl_append]
        rfl
      rw [z]
      exact S2
    have old : ∀ c o, c ≠ S → s'.heap.get? c = some o → h'.get? c = some o := fun c o hc z => (sb.2 c hc).trans z
    refine wpAny_pure ⟨plainId_quiet F.plain_set_update_loop _, ih (i + 1) _ (by omega) lt (W.frame _ s' _ _ st' (Nat.le_succ _) fun c hc o z => old c o (fun q => nf (q ▸ hc)) z) S3 fun s2 mv2 S4 => ?_⟩
    exact hR s2 (Moved.trans W.gtrans ((mv.mono sub).then_heap (Nat.le_succ _) fun c o hc z => old c o (fun q => hc (q ▸ .head _)) z) mv2) S4
set_option maxHeartbeats 3200000 in
theorem call_setG {l : Addr} {items : Array Value} (ks : List Ky) {Q : Value → Shared → Prop} (hh : A.handled = none) (hl : s.heap.IsList l items) (hi : Paired (fun k v => knd.is k v = true ∧ v.scannable = true) ks items.toList) (hb : ks.length + 1 < scanBound)
    (h : ∀ (h' : Heap) (tk : Nat), SetG knd h' s.heap.objs.size (putAll ks) → (∀ b o, s.heap.get? b = some o → h'.get? b = some o) → Q (.ref s.heap.objs.size) { s with heap := h', toks := tk }) :
    wpAny (model P w) A (call (.type "set") [.ref l]) Q E s := by
  have hz : ks.length = items.size := by rw [hi.length, Array.length_toList]
  obtain ⟨c, tl, hmro⟩ := F.called_set.mro
  have hmade := F.called_set.made
  have hsub := F.called_set.sub
  refine wpAny_call (codeAny_of_tree ?_)
  show wpAny _ _ (callAny (.type "set") _) _ _ _
  refine wpAny_pure ⟨Code.quiet_builtin _ (by decide +kernel), codeAny_builtin F.entry_type_call ?_⟩
  rw [Around.under_plain (weight_type_call_type "set" [.ref l] []) rfl]
  have h1 := F.called_set.notType
  have h2 := F.called_set.canCreate
  have hct := F.typeCall_set_1 (.ref l)
  repeat (any_goals (first | assumption | wp_step))
  refine codeAny_mono (code_set_led1 (.ref l) (E := E) (Q₁ := fun ob z => ob = .ref s.heap.objs.size ∧ z = { s with heap := s.heap.push (newO w) }) ⟨rfl, rfl⟩) fun r z hr => ?_
  match r, hr with
  | .error e, hr => exact hr
  | .ok .next, hr => exact hr.elim
  | .ok .brk, hr => exact hr.elim
  | .ok .cont, hr => exact hr.elim
  | .ok (.ret ob), hr =>
    obtain ⟨rfl, rfl⟩ := hr
    have hS : (s.heap.push (newO w)).get? s.heap.objs.size = some (newO w) := Heap.get?_push_size _ rfl
    have hT : Shared.TypeIs { s with heap := s.heap.push (newO w) } (.ref s.heap.objs.size) "set" := ⟨_, hS, rfl⟩
    have hli := F.called_set.init.lookup
    have hbi := F.called_set.init.bind (.ref s.heap.objs.size)
    repeat (any_goals (first | assumption | wp_step))
    refine codeAny_mono (codeAny_call_builtin (R := wants (fun r y => r = .none ∧ ∃ h' tk, y = { s with heap := h', toks := tk } ∧ SetG knd h' s.heap.objs.size (putAll ks) ∧ (∀ b o, s.heap.get? b = some o → h'.get? b = some o)) E) F.called_set.init.plain F.entry_set_init (check_set_init_1 hT ?_)) fun r y hy => ?_
    · obtain ⟨⟨oc, od, odt, osl⟩, hol, hcl, nl, hdl⟩ := hl
      simp only at hcl hdl
      subst hcl; subst hdl
      have hol' : (s.heap.push (newO w)).get? l = some { cls := .type "list", dict := od, data := .seq items nl, slots := osl } := Heap.get?_push_of_some _ hol
      have hsls := F.sub_list_set
      have hslf := F.sub_list_frozenset
      have hne : (Value.type "list" == Value.type "dict") = false := by decide
      have hl1 : (s.heap.push (newO w)).IsList l items := ⟨_, hol', rfl, nl, rfl⟩
      unfold Builtin.«set.__init__» noKeywords Builtin.Frozenset.updateFrom
      generalize hPI : pyIter = PI
      wp_walk
      subst hPI
      refine wpAny_pyIter_list hl1 (wpAny_bind (wpAny_runValue ?_))
      have hlS : l < s.heap.objs.size := Heap.lt_size hol
      have hh3 : A.in1.in1.in1.handled = none := by simp [hh]
      have hz1 : (s.heap.push (newO w)).objs.size = s.heap.objs.size + 1 := Heap.size_push ..
      have hneI : l ≠ (s.heap.push (newO w)).objs.size := by rw [hz1]; exact Nat.ne_of_lt (Nat.lt_succ_of_lt hlS)
      have hSf : s.heap.objs.size ∉ [(s.heap.push (newO w)).objs.size, l] := by
        rw [hz1]
        simp only [List.mem_cons, List.not_mem_nil, or_false, not_or]
        exact ⟨Nat.ne_of_lt (Nat.lt_succ_self _), Nat.ne_of_gt hlS⟩
      have hval : ∀ (i : Nat) (v : Value), items[i]? = some v → ∃ k, ks[i]? = some k ∧ knd.is k v = true ∧ v.scannable = true := fun i v hv => by
        have q : items.toList[i]? = some v := by rw [Array.getElem?_toList]; exact hv
        exact paired_at (F := fun k v => knd.is k v = true ∧ v.scannable = true) hi q
      refine setG_loop ((Walks.list hh3 _ l hneI items).toS) s.heap.objs.size hSf ks hz hb hval (items.size - 0) 0 _ (by omega) (Nat.zero_le _) ⟨⟨_, Heap.get?_push_size _ rfl, rfl, rfl⟩, (hl1.push _)⟩ ?hS0 ?hR
      case hS0 => exact setG_fresh (Heap.get?_push_of_some _ hS)
      case hR =>
        intro s' hm hS'
        obtain ⟨h', g2, d', tk', os'⟩ := s'
        have eg : g2 = s.gens := hm.gens
        have ed : d' = s.drawn := hm.drawn
        have eo : os' = s.os := hm.os
        subst eg; subst ed; subst eo
        show wpAny _ _ _ _ _ _
        refine wpAny_pure ?_
        show wpAny _ _ (ret Value.none) _ _ _
        refine wpAny_pure ⟨rfl, h', tk', rfl, hS', fun b o e => ?_⟩
        have hb0 : b < s.heap.objs.size := Heap.lt_size e
        refine hm.heap b o (fun z => ?_) (Heap.get?_push_of_some _ (Heap.get?_push_of_some _ e))
        rcases List.mem_cons.mp z with z | z
        · exact Nat.ne_of_lt hb0 z
        · have z := List.mem_singleton.mp z
          rw [hz1] at z
          exact Nat.ne_of_lt (Nat.lt_succ_of_lt hb0) z
    · match r, hy with
      | .error e, hy => exact hy
      | .ok .next, hy => exact hy.elim
      | .ok .brk, hy => exact hy.elim
      | .ok .cont, hy => exact hy.elim
      | .ok (.ret r), hy =>
        obtain ⟨rfl, h', tk, rfl, hS', hk'⟩ := hy
        repeat (any_goals (first | assumption | wp_step))
        exact h _ _ hS' hk'
/-! ### sorted of a set, its len -/
theorem sorted_uniq {α : Type} {r : α → α → Prop} (anti : ∀ a b, r a b → r b a → a = b) : ∀ {l m : List α}, l.Perm m → l.Pairwise r → m.Pairwise r → l = m
  | [], m, p, _, _ => (List.perm_nil.mp p.symm).symm
  | a :: l, [], p, _, _ => nomatch List.perm_nil.mp p
  | a :: l, b :: m, p, h, k => by
    obtain ⟨h1, h2⟩ := List.pairwise_cons.mp h
    obtain ⟨k1, k2⟩ := List.pairwise_cons.mp k
    have e : a = b := by
      have ha : a ∈ b :: m := p.mem_iff.mp List.mem_cons_self
      have hb : b ∈ a :: l := p.mem_iff.mpr List.mem_cons_self
      rcases List.mem_cons.mp ha with z | z
      · exact z
      · rcases List.mem_cons.mp hb with y | y
        · exact y.symm
        · exact anti _ _ (h1 _ y) (k1 _ z)
    subst e
    rw [sorted_uniq anti ((List.perm_cons a).mp p) h2 k2]
theorem mergeSort_of_perm {α : Type} {le : α → α → Bool} (tr : ∀ a b c, le a b = true → le b c = true → le a c = true) (tot : ∀ a b, (le a b || le b a) = true) (anti : ∀ a b, le a b = true → le b a = true → a = b) {l m : List α} (p : l.Perm m) :
    l.mergeSort le = m.mergeSort le :=
  sorted_uniq (r := fun a b => le a b = true) anti ((List.mergeSort_perm l le).trans (p.trans (List.mergeSort_perm m le).symm)) (List.pairwise_mergeSort tr tot l) (List.pairwise_mergeSort tr tot m)
/-- keys that are data: what they are as values of trees, and their order -/
structure KEnc (knd : KeyKind P w Ky) where
  v : Ky → V
  d : Ky → PyData
  le : Ky → Ky → Bool
  ofV : ∀ k u, RelV (v k) u → knd.is k u = true ∧ u.scannable = true
  toV : ∀ k u, knd.is k u = true → RelV (v k) u
  reads : ∀ h k u, knd.is k u = true → ∃ as, Reads h u (d k) as ∧ ∀ a, a ∉ as
  alike : ∀ k k', PySem.W.alike (d k) (d k') = true
  plain : ∀ k, d k ≠ .none ∧ ∀ xs, d k ≠ .tuple xs
  depth : ∀ k, (d k).depth = 0
  leq : PySem.W.dataLe false d = le
  tr : ∀ a b c, le a b = true → le b c = true → le a c = true
  tot : ∀ a b, (le a b || le b a) = true
  anti : ∀ a b, le a b = true → le b a = true → a = b
theorem paired_each {α : Type} {F : α → Value → Prop} : ∀ {ks : List α} {vs : List Value}, Paired F ks vs → PySem.W.EachIs (fun v k => F k v) vs ks
  | _, _, .nil => .nil
  | _, _, .cons r t => .cons r (paired_each t)
theorem each_paired {α : Type} {F : α → Value → Prop} : ∀ {ks : List α} {vs : List Value}, PySem.W.EachIs (fun v k => F k v) vs ks → Paired F ks vs
  | _, _, .nil => .nil
  | _, _, .cons r t => .cons r (each_paired t)
theorem ents_vals : ∀ {ks : List Ky} {es : List Ent}, EntsAre knd ks es → Paired (fun k v => knd.is k v = true) ks (es.map (·.2))
  | _, _, .nil => .nil
  | _, _, .cons r t => .cons r (ents_vals t)
theorem paired_permR {α : Type} {F : α → Value → Prop} {vs us : List Value} (p : vs.Perm us) : ∀ {ks : List α}, Paired F ks vs → ∃ ks', ks.Perm ks' ∧ Paired F ks' us := by
  induction p with
  | nil => intro ks h; cases h; exact ⟨[], .refl _, .nil⟩
  | cons x _ ih =>
    intro ks h
    cases h with
    | cons r t =>
      obtain ⟨l, q, t'⟩ := ih t
      exact ⟨_ :: l, q.cons _, .cons r t'⟩
  | swap x y l =>
    intro ks h
    cases h with
    | cons r t =>
      cases t with
      | cons r' t => exact ⟨_, .swap _ _ _, .cons r' (.cons r t)⟩
  | trans _ _ ih1 ih2 =>
    intro ks h
    obtain ⟨l, q, t⟩ := ih1 h
    obtain ⟨l', q', t'⟩ := ih2 t
    exact ⟨l', q.trans q', t'⟩
theorem sorted_setG (en : KEnc knd) (R : SetG knd s.heap a ks) (hh : A.handled = none) (hu : A.units + 2 < cLine) {Q : Value → Shared → Prop}
    (hQ : ∀ s' p (out : Array Value) (c : Nat), (∀ b o, s.heap.get? b = some o → s'.heap.get? b = some o) → s'.gens = s.gens → s'.os = s.os → s.heap.objs.size ≤ p →
      s'.heap.get? p = some (seqObj "list" out c) → Paired (fun k v => knd.is k v = true) (ks.mergeSort en.le) out.toList → Q (.ref p) s') :
    wpAny (model P w) A (call (.builtin "sorted") [.ref a]) Q E s := by
  obtain ⟨o, es, ep, t, l, ho, hex, hd, el, ea, pl, nd, sb, hf, hr, hl⟩ := R
  refine Calls.call_function_entry kind_sorted plain_sorted entry_sorted (args_sorted1 _) ?_
  unfold Builtin.«sorted»
  refine wpAny_bind (m := checkCount "sorted" 1 1 _) (wpAny_pure ?_)
  refine wpAny_bind (collect_set (A := A.in1) hh ⟨o, ho, hex.1, hd⟩ hf sb hr hl fun s1 vs k1 hz g1 o1 pm => ?_)
  obtain ⟨ns, q, pv⟩ := paired_permR pm.symm (ents_vals ea)
  have hvl : vs.length < scanBound := by rw [pm.length_eq, List.length_map, Array.length_toList]; exact sb
  have hsl : vs.length ≤ sizeLine := by
    have : vs.length < 4096 := hvl
    rw [sizeLine_eq]; omega
  refine wpAny_bind (wpAny_newList ?_ hsl)
  have hoL : (s1.heap.push (seqObj "list" vs.toArray 0)).get? s1.heap.objs.size = some (seqObj "list" vs.toArray 0) := Heap.get?_push_size _ rfl
  have ei := paired_each pv
  have hal : PySem.W.AllAlike (ns.map en.d) := PySem.W.AllAlike.of en.alike
  have hso : PySem.W.Sortable (ns.map en.d) := PySem.W.Sortable.others en.plain
  have hu' : ∀ b, b ∈ ns → A.in1.units + 1 + (en.d b).depth < cLine := fun b _ => by
    rw [en.depth]
    show A.units + 1 + 1 + 0 < cLine
    omega
  refine wpAny_bind (wpAny_holding (PySem.W.list_sort_data (s := { s1 with heap := s1.heap.push (seqObj "list" vs.toArray 0) }) hoL ei (ei.mono fun v k h => by
    obtain ⟨as, r, h⟩ := en.reads (s1.heap.push (seqObj "list" vs.toArray 0)) k v h
    exact ⟨as, r, h _⟩) hal hso (by rw [← pv.length] at hsl; exact hsl) hu' fun out lo eo => ?_))
  obtain ⟨c, hc⟩ := sortedHeap_at (vs := vs) (out := List.toArray out) hoL
  rw [en.leq, mergeSort_of_perm en.tr en.tot en.anti (q.symm.trans pl)] at eo
  refine wpAny_pure ⟨_, rfl, hQ _ s1.heap.objs.size out.toArray c (fun b u e => ?_) g1 o1 hz hc (each_paired eo)⟩
  have q := k1 b u e
  have hlt := Heap.lt_size q
  show (sortedHeap (s1.heap.push (seqObj "list" vs.toArray 0)) s1.heap.objs.size vs (List.toArray out)).get? b = some u
  rw [sortedHeap_old (Nat.ne_of_lt hlt) (by rw [size_push']; exact Nat.lt_succ_of_lt hlt)]
  exact Heap.get?_push_of_some _ q
end
end Tv
/-! Tv19: sorted(set(..)), len(set(..)) of lists and tuples of texts, of whole numbers. -/
namespace Tv
open PySem PySem.Spec PyProof.Rows L2

section
variable {P : Program} {w : World} {Ky : Type} [DecidableEq Ky] {knd : KeyKind P w Ky}
variable {A : Around} {E : Value → Shared → Prop} {s : Shared} {a : Addr} {ks : List Ky} {k : Ky} {x : Value}
set_option maxHeartbeats 3200000 in
theorem call_setT {l : Addr} {items : Array Value} (ks : List Ky) {Q : Value → Shared → Prop} (hh : A.handled = none) (hl : s.heap.IsTuple l items) (hi : Paired (fun k v => knd.is k v = true ∧ v.scannable = true) ks items.toList) (hb : ks.length + 1 < scanBound)
    (h : ∀ (h' : Heap) (tk : Nat), SetG knd h' s.heap.objs.size (putAll ks) → (∀ b o, s.heap.get? b = some o → h'.get? b = some o) → Q (.ref s.heap.objs.size) { s with heap := h', toks := tk }) :
    wpAny (model P w) A (call (.type "set") [.ref l]) Q E s := by
  have hz : ks.length = items.size := by rw [hi.length, Array.length_toList]
  obtain ⟨c, tl, hmro⟩ := F.called_set.mro
  have hmade := F.called_set.made
  have hsub := F.called_set.sub
  refine wpAny_call (codeAny_of_tree ?_)
  show wpAny _ _ (callAny (.type "set") _) _ _ _
  refine wpAny_pure ⟨Code.quiet_builtin _ (by decide +kernel), codeAny_builtin F.entry_type_call ?_⟩
  rw [Around.under_plain (weight_type_call_type "set" [.ref l] []) rfl]
  have h1 := F.called_set.notType
  have h2 := F.called_set.canCreate
  have hct := F.typeCall_set_1 (.ref l)
  repeat (any_goals (first | assumption | wp_step))
  refine codeAny_mono (code_set_led1 (.ref l) (E := E) (Q₁ := fun ob z => ob = .ref s.heap.objs.size ∧ z = { s with heap := s.heap.push (newO w) }) ⟨rfl, rfl⟩) fun r z hr => ?_
  match r, hr with
  | .error e, hr => exact hr
  | .ok .next, hr => exact hr.elim
  | .ok .brk, hr => exact hr.elim
  | .ok .cont, hr => exact hr.elim
  | .ok (.ret ob), hr =>
    obtain ⟨rfl, rfl⟩ := hr
    have hS : (s.heap.push (newO w)).get? s.heap.objs.size = some (newO w) := Heap.get?_push_size _ rfl
    have hT : Shared.TypeIs { s with heap := s.heap.push (newO w) } (.ref s.heap.objs.size) "set" := ⟨_, hS, rfl⟩
    have hli := F.called_set.init.lookup
    have hbi := F.called_set.init.bind (.ref s.heap.objs.size)
    repeat (any_goals (first | assumption | wp_step))
    refine codeAny_mono (codeAny_call_builtin (R := wants (fun r y => r = .none ∧ ∃ h' tk, y = { s with heap := h', toks := tk } ∧ SetG knd h' s.heap.objs.size (putAll ks) ∧ (∀ b o, s.heap.get? b = some o → h'.get? b = some o)) E) F.called_set.init.plain F.entry_set_init (check_set_init_1 hT ?_)) fun r y hy => ?_
    · obtain ⟨⟨oc, od, odt, osl⟩, hol, hcl, nl, hdl⟩ := hl
      simp only at hcl hdl
      subst hcl; subst hdl
      have hol' : (s.heap.push (newO w)).get? l = some { cls := .type "tuple", dict := od, data := .seq items nl, slots := osl } := Heap.get?_push_of_some _ hol
      have hsls := F.sub_tuple_set
      have hslf := F.sub_tuple_frozenset
      have hne : (Value.type "tuple" == Value.type "dict") = false := by decide
      have hl1 : (s.heap.push (newO w)).IsTuple l items := ⟨_, hol', rfl, nl, rfl⟩
      unfold Builtin.«set.__init__» noKeywords Builtin.Frozenset.updateFrom
      generalize hPI : pyIter = PI
      wp_walk
      subst hPI
      refine wpAny_pyIter_tuple hl1 (wpAny_bind (wpAny_runValue ?_))
      have hlS : l < s.heap.objs.size := Heap.lt_size hol
      have hh3 : A.in1.in1.in1.handled = none := by simp [hh]
      have hz1 : (s.heap.push (newO w)).objs.size = s.heap.objs.size + 1 := Heap.size_push ..
      have hneI : l ≠ (s.heap.push (newO w)).objs.size := by rw [hz1]; exact Nat.ne_of_lt (Nat.lt_succ_of_lt hlS)
      have hSf : s.heap.objs.size ∉ [(s.heap.push (newO w)).objs.size, l] := by
        rw [hz1]
        simp only [List.mem_cons, List.not_mem_nil, or_false, not_or]
        exact ⟨Nat.ne_of_lt (Nat.lt_succ_self _), Nat.ne_of_gt hlS⟩
      have hval : ∀ (i : Nat) (v : Value), items[i]? = some v → ∃ k, ks[i]? = some k ∧ knd.is k v = true ∧ v.scannable = true := fun i v hv => by
        have q : items.toList[i]? = some v := by rw [Array.getElem?_toList]; exact hv
        exact paired_at (F := fun k v => knd.is k v = true ∧ v.scannable = true) hi q
      refine setG_loop ((Walks.tuple hh3 _ l hneI items).toS) s.heap.objs.size hSf ks hz hb hval (items.size - 0) 0 _ (by omega) (Nat.zero_le _) ⟨⟨_, Heap.get?_push_size _ rfl, rfl, rfl⟩, (hl1.push _)⟩ ?hS0 ?hR
      case hS0 => exact setG_fresh (Heap.get?_push_of_some _ hS)
      case hR =>
        intro s' hm hS'
        obtain ⟨h', g2, d', tk', os'⟩ := s'
        have eg : g2 = s.gens := hm.gens
        have ed : d' = s.drawn := hm.drawn
        have eo : os' = s.os := hm.os
        subst eg; subst ed; subst eo
        show wpAny _ _ _ _ _ _
        refine wpAny_pure ?_
        show wpAny _ _ (ret Value.none) _ _ _
        refine wpAny_pure ⟨rfl, h', tk', rfl, hS', fun b o e => ?_⟩
        have hb0 : b < s.heap.objs.size := Heap.lt_size e
        refine hm.heap b o (fun z => ?_) (Heap.get?_push_of_some _ (Heap.get?_push_of_some _ e))
        rcases List.mem_cons.mp z with z | z
        · exact Nat.ne_of_lt hb0 z
        · have z := List.mem_singleton.mp z
          rw [hz1] at z
          exact Nat.ne_of_lt (Nat.lt_succ_of_lt hb0) z
    · match r, hy with
      | .error e, hy => exact hy
      | .ok .next, hy => exact hy.elim
      | .ok .brk, hy => exact hy.elim
      | .ok .cont, hy => exact hy.elim
      | .ok (.ret r), hy =>
        obtain ⟨rfl, h', tk, rfl, hS', hk'⟩ := hy
        repeat (any_goals (first | assumption | wp_step))
        exact h _ _ hS' hk'
/-! the two kinds -/
theorem lexLe_tot (a b : List Nat) : (decide (a ≤ b) || decide (b ≤ a)) = true := by
  rcases Std.Total.total (r := (· ≤ · : List Nat → List Nat → Prop)) a b with h | h <;> simp [h]
def strE (P : Program) (w : World) : KEnc (strKind P w) where
  v := .str
  d := .str
  le := fun a b => decide (a.cps.toList ≤ b.cps.toList)
  ofV := fun k u h => by obtain ⟨t, rfl⟩ := h; exact ⟨by show Value.isStrOf k (.str k t) = true; simp [Value.isStrOf], rfl⟩
  toV := fun k u h => by obtain ⟨t, rfl⟩ := Value.isStrOf_shape h; exact ⟨t, rfl⟩
  reads := fun h k u hu => by obtain ⟨t, rfl⟩ := Value.isStrOf_shape hu; exact ⟨[], .str _ _, nofun⟩
  alike := fun _ _ => rfl
  plain := fun _ => ⟨nofun, nofun⟩
  depth := fun _ => rfl
  leq := PySem.W.dataLe_str fun x => x
  tr := fun a b c h1 h2 => by
    simp only [decide_eq_true_eq] at h1 h2 ⊢
    exact List.le_trans h1 h2
  tot := fun a b => lexLe_tot _ _
  anti := fun a b h1 h2 => by
    simp only [decide_eq_true_eq] at h1 h2
    have := List.le_antisymm h1 h2
    cases a; cases b
    simp only [Str.mk.injEq]
    exact Array.toList_inj.mp this
end
section
variable {X : Cx} {Ky : Type} [DecidableEq Ky] {knd : KeyKind X.prog X.w Ky}
theorem vals_keys (en : KEnc knd) : ∀ {ks : List Ky} {us : List Value}, Vals (ks.map en.v) us → Paired (fun k v => knd.is k v = true ∧ v.scannable = true) ks us
  | [], _, .nil => .nil
  | k :: ks, _, .cons r t => .cons (en.ofV _ _ r) (vals_keys en t)
theorem keys_vals (en : KEnc knd) : ∀ {ks : List Ky} {us : List Value}, Paired (fun k v => knd.is k v = true) ks us → Vals (ks.map en.v) us
  | [], _, .nil => .nil
  | k :: ks, _, .cons r t => .cons (en.toV _ _ r) (keys_vals en t)
def tSetG (en : KEnc knd) (ta : TE) (F : List Ky → Hp → VK → Prop) : TE := fun σ H Q => ta σ H fun x H1 => ∃ (l : Addr) (xs : List Ky), x = .ref l ∧ (SqL X.K H1 l (xs.map en.v) ∨ SqT X.K H1 l (xs.map en.v)) ∧ xs.length + 1 < scanBound ∧ F (putAll xs) H1 Q
/-- f(set(xs)) -/
theorem pe_ofSet {a : Expr} {ta : TE} {F : List Ky → Hp → VK → Prop} {p p2 q pos : Pos} {f : String} {z : Str} (en : KEnc knd) (hc : X.calm = true)
    (hg : Gl X z) (hm : X.mg z = none) (hv : bootBuiltins z = some (.builtin f)) (hn : z ≠ "__name__") (hd : (z == ("__debug__" : Str)) = false)
    (hb : ∀ {pins : List (Addr × Obj)} {s : Shared} {σ : L2.St} {H : Hp} {Q : VK} {b : Addr} {ks : List Ky}, L2.Inv X pins σ H s → SetG knd s.heap b ks → F ks H Q → wpAny (model X.prog X.w) X.A (call (.builtin f) [.ref b]) (EP X pins σ Q) X.xe s)
    (hg2 : Gl X "set") (hm2 : X.mg "set" = none) (ha : PE X a ta)
    (na : starEach [a] X.env = (false, eval a X.env) :: starEach [] X.env := by rfl) : PE X (.Call (.Name z p) [.Call (.Name "set" p2) [a] [] q] [] pos) (tSetG en ta F) := by
  refine ⟨fun pins s σ H Q I h => ?_⟩
  refine Call_ (ld_blt I hg hm hv ?_ hn hd)
  refine PyProof.Rows.callWith_builtin1 (PyProof.Rows.args_cons ?_ rfl) rfl rfl
  refine Call_ (ld_blt I hg2 hm2 boot_set ?_)
  refine PyProof.Rows.callWith_type1 (PyProof.Rows.args_cons (thn (ha.run pins s σ H _ I h) fun v s1 ⟨x, H1, I1, r1, q1⟩ => PyProof.Rows.args_nil ?_) na) na rfl
  obtain ⟨l, xs, rfl, hq, h1, q1⟩ := q1
  cases r1
  have fin : ∀ (h' : Heap) (tk : Nat), SetG knd h' s1.heap.objs.size (putAll xs) → (∀ b o, s1.heap.get? b = some o → h'.get? b = some o) →
      wpAny (model X.prog X.w) X.A (spliced (backTo pos (starEach [] X.env))) (fun vs s₂ => wpAny (model X.prog X.w) X.A (call (.builtin f) (Value.ref s1.heap.objs.size :: vs)) (EP X pins σ Q) X.xe s₂) X.xe { s1 with heap := h', toks := tk } := fun h' tk hS hk => by
    refine PyProof.Rows.args_nil ?_
    have I2 : Inv X pins σ H1 { s1 with heap := h', toks := tk } := I1.kept fun b o e => hk b o e
    exact hb I2 hS q1
  rcases hq with hq | hq
  · obtain ⟨its, r, pl, hz⟩ := I1.list hq
    exact call_setG xs (I1.ok.hd hc) pl.isList (by simpa using vals_keys en r) h1 fin
  · obtain ⟨its, r, pl, hz⟩ := I1.tuple hq
    exact call_setT xs (I1.ok.hd hc) pl (by simpa using vals_keys en r) h1 fin
def fSort (en : KEnc knd) : List Ky → Hp → VK → Prop := fun ks H Q => ∀ p, H p = none → Q (.ref p) (upd H p (.lst ((ks.mergeSort en.le).map en.v)))
theorem pe_sortSetG {a : Expr} {ta : TE} {p p2 q pos : Pos} (en : KEnc knd) (hc : X.calm = true) (hu : X.A.units + 2 < cLine) (hg : Gl X "sorted") (hm : X.mg "sorted" = none) (hg2 : Gl X "set") (hm2 : X.mg "set" = none) (ha : PE X a ta)
    (na : starEach [a] X.env = (false, eval a X.env) :: starEach [] X.env := by rfl) : PE X (.Call (.Name "sorted" p) [.Call (.Name "set" p2) [a] [] q] [] pos) (tSetG en ta (fSort en)) :=
  pe_ofSet en hc hg hm Boot.«sorted» (by decide) (by decide) (fun {pins s σ H Q b ks} I R h => by
    have hks : ks.length < scanBound := by
      obtain ⟨o, es, ep, t, l, ho, hex, hd, el, ea, pl, nd, sb, hf, hr, hl⟩ := R
      rw [← pl.length_eq, ents_len ea, Array.length_toList]
      exact sb
    refine sorted_setG en R (I.ok.hd hc) hu fun s' p out c k g o hp hgp pv => ?_
    have hl : ((ks.mergeSort en.le).map en.v).length ≤ sizeLine := by
      rw [List.length_map, List.length_mergeSort, sizeLine_eq]
      have : ks.length < 4096 := hks
      omega
    have hn : H p = none := I.hok.fresh hp
    have J : Inv X pins σ (upd H p (.lst ((ks.mergeSort en.le).map en.v))) { s with heap := s'.heap, gens := s'.gens, drawn := s'.drawn, toks := s'.toks } :=
      I.call (ch := []) (Un.laid k hp hn) (I.hok.laid k hp ⟨hl, out.toList, c, keys_vals en pv, hgp⟩) (by rw [g]; exact I.bare) (fun _ z => nomatch z)
    have e : s' = { s with heap := s'.heap, gens := s'.gens, drawn := s'.drawn, toks := s'.toks } := by
      cases s'
      cases s
      cases o
      rfl
    rw [e]
    exact ⟨.ref p, _, J, rfl, h p hn⟩) hg2 hm2 ha na
end
end Tv
/-! Tv20: sets of texts and of whole numbers over trees, min and max of two, functions as values. -/
namespace Tv
open PySem PySem.Spec PyProof.Rows L2
variable [LamT]

section
variable {K : PySem.W.Frag} {X : Cx} {G0 : Gh} {H0 : Hp} {wa : WE} {ws : WA} {pos p p2 q : Pos} {a e : Expr} {es : List Expr} {x : Str} {k : Nat}
/-! ### len(set(..)), sorted(set(..)) -/
def leS (a b : Str) : Bool := decide (a.cps.toList ≤ b.cps.toList)
def seqOf : D → Option (List D)
  | .lst ds => some ds
  | .tup ds => some ds
  | _ => none
def wSortSetS (wa : WE) : WE := fun ρ Φ => wa ρ fun r ρ' => match (seqOf r.d).bind strsD with
  | some xs => xs.length + 1 < scanBound ∧ Φ (.ow (.lst (((putAll xs).mergeSort leS).map .str))) ρ'
  | none => False
theorem seqOf_sh {G : Gh} {H : Hp} {d : D} {v : V} {ds : List D} (x : Sh K G H d v) (e : seqOf d = some ds) : ∃ a xs, v = .ref a ∧ (SqL K H a xs ∨ SqT K H a xs) ∧ RepL K G H ds xs := by
  unfold seqOf at e
  split at e
  · cases e
    obtain ⟨a, xs, rfl, h, r⟩ := x.list
    exact ⟨a, xs, rfl, .inl h, r⟩
  · cases e
    obtain ⟨a, xs, rfl, h, r⟩ := x.tuple
    exact ⟨a, xs, rfl, .inr h, r⟩
  · cases e
theorem repS {G : Gh} {H : Hp} : ∀ ys : List Str, RepL K G H (ys.map D.str) (ys.map V.str)
  | [] => .nil
  | y :: ys => .cons (.str y) (repS ys)
theorem i_sortSetS (hc : X.calm = true) (hu : X.A.units + 2 < cLine) (hg : Gl X "sorted") (hm : X.mg "sorted" = none) (hg2 : Gl X "set") (hm2 : X.mg "set" = none) (ha : PEI X G0 H0 a wa)
    (na : starEach [a] X.env = (false, eval a X.env) :: starEach [] X.env := by rfl) : PEI X G0 H0 (.Call (.Name "sorted" p) [.Call (.Name "set" p2) [a] [] q] [] pos) (wSortSetS wa) := by
  refine pe_imp (pe_sortSetG (strE X.prog X.w) hc hu hg hm hg2 hm2 ha na) fun σ H Q h => ?_
  obtain ⟨ρ, G, Φ, S, h, c⟩ := h
  refine ⟨ρ, G, _, S, h, fun r ρ' v G' H' q S' P L x => ?_⟩
  split at q
  · rename_i xs e
    obtain ⟨ds, e1, e2⟩ := Option.bind_eq_some_iff.mp e
    obtain ⟨a, ys, rfl, h2, r2⟩ := seqOf_sh x.sh e1
    have := strsD_rep r2 e2
    subst this
    have kk : ∀ r' v' G2 H2, Φ r' ρ' → Wd G2 H2 → Grow G' H' G2 H2 → RepR X.K G2 H2 H' r' v' → Q v' H2 := fun r' v' G2 H2 φ w g x' => c r' ρ' v' G2 H2 φ (S'.grow w g) (P.trans S'.wd g.stp L) L (x'.back fun a z => P.nn S'.wd z)
    exact ⟨a, xs, rfl, h2, q.1, new_lst (Φ := fun r => Φ r ρ') S'.wd kk (repS _) q.2⟩
  · exact q.elim
/-! ### functions as values -/
def wCallL (tab : List (Str × WF)) (i : Nat) (ws : WA) : WE := fun ρ Φ => match ρ[i]? with
  | some (.fr (.fn x)) => match tab.lookup x with
    | some wf => wCall wf ws ρ Φ
    | none => False
  | _ => False
end
/-! ### min, max of two texts -/
section
variable {prog : Program} {w : World} {A : Around} {E : Value → Shared → Prop} {s : Shared}
end
section
variable {X : Cx} {K : PySem.W.Frag}
theorem CallR.or {f : Value} {r r' : List V → Hp → VK → Prop} (h : CallR X f r) (h' : CallR X f r') : CallR X f (fun xs H Q => r xs H Q ∨ r' xs H Q) :=
  fun pins s σ H xs us Q I rv q => q.elim (h pins s σ H xs us Q I rv) (h' pins s σ H xs us Q I rv)
def oMaxA : List D → (R → Prop) → Prop
  | [.int i, .int j], Φ => Φ (.fr (.int (if j > i then j else i)))
  | [.str i, .str j], Φ => Φ (.fr (.str (if strLt i j then j else i)))
  | _, _ => False
def oMinA : List D → (R → Prop) → Prop
  | [.int i, .int j], Φ => Φ (.fr (.int (if j < i then j else i)))
  | [.str i, .str j], Φ => Φ (.fr (.str (if strLt j i then j else i)))
  | _, _ => False
end
end Tv
namespace L2
theorem Room.r2 {k : Nat} {A : PySem.Around} (h : Room k A) : A.units + 2 < PySem.cLine := by have := h.un; omega
end L2
/-! Tv21: a, b, c = x, y, z; steps for Tv20. -/
namespace Tv
open PySem PySem.Spec PyProof.Rows L2
variable [LamT]
section
variable {K : PySem.W.Frag} {X : Cx} {G0 : Gh} {H0 : Hp} {wa : WE} {ws : WA} {pos : Pos} {a b c : Expr}
def sPar3 (i j l : Nat) (ws : WA) : WS := fun ρ S => ws ρ fun rs ρ' => match rs with
  | [r1, r2, r3] => (i < ρ'.length ∧ j < ρ'.length ∧ l < ρ'.length) ∧ (r1.ok ∧ r2.ok ∧ r3.ok) ∧ S.nx (((ρ'.set i r1.cell).set j r2.cell).set l r3.cell)
  | _ => False
end
section
variable {ρ : En} {S : SK} {i j l : Nat} {d e : D} {r : R} {rs : List R} {ds es : List D} {wa wb : WE} {ws : WA} {wf : WF} {Φ : R → En → Prop} {x : Str} {xs : List Str} {is : List Int}
def par3W (i j l : Nat) (rs : List R) (ρ : En) (S : SK) : Prop := match rs with
  | [r1, r2, r3] => (i < ρ.length ∧ j < ρ.length ∧ l < ρ.length) ∧ (r1.ok ∧ r2.ok ∧ r3.ok) ∧ S.nx (((ρ.set i r1.cell).set j r2.cell).set l r3.cell)
  | _ => False
theorem e_par3 (h : ws ρ fun rs ρ' => par3W i j l rs ρ' S) : sPar3 i j l ws ρ S := h
instance st_par3 : Step (sPar3 i j l ws ρ S) (ws ρ fun rs ρ' => par3W i j l rs ρ' S) := ⟨fun h => e_par3 h⟩
theorem e_par3W {r1 r2 r3 : R} (l1 : Nat.blt i ρ.length = true) (l2 : Nat.blt j ρ.length = true) (l3 : Nat.blt l ρ.length = true) (o1 : r1.ok) (o2 : r2.ok) (o3 : r3.ok) (h : S.nx (((ρ.set i r1.cell).set j r2.cell).set l r3.cell)) : par3W i j l [r1, r2, r3] ρ S :=
  ⟨⟨Nat.blt_eq.mp l1, Nat.blt_eq.mp l2, Nat.blt_eq.mp l3⟩, ⟨o1, o2, o3⟩, h⟩
instance ic_par3W {r1 r2 r3 : R} : IsC (par3W i j l [r1, r2, r3] ρ S) := ⟨fun h => h⟩
theorem e_callL {tab : List (Str × WF)} (q : ρ[i]? = some (.fr (.fn x))) (q2 : tab.lookup x = some wf) (h : wCall wf ws ρ Φ) : wCallL tab i ws ρ Φ := by
  unfold wCallL
  rw [q]
  show (match tab.lookup x with | some wf => wCall wf ws ρ Φ | none => False)
  rw [q2]
  exact h
instance ic_callL {tab : List (Str × WF)} : IsC (wCallL tab i ws ρ Φ) := ⟨fun h => h⟩
def sortSetW (r : R) (Φ : R → En → Prop) (ρ : En) : Prop := match (seqOf r.d).bind strsD with
  | some xs => xs.length + 1 < scanBound ∧ Φ (.ow (.lst (((putAll xs).mergeSort leS).map .str))) ρ
  | none => False
theorem e_sortSet (h : wa ρ fun r ρ' => sortSetW r Φ ρ') : wSortSetS wa ρ Φ := h
instance st_sortSet : Step (wSortSetS wa ρ Φ) (wa ρ fun r ρ' => sortSetW r Φ ρ') := ⟨fun h => e_sortSet h⟩
theorem e_sortSetW {r : R} (q : seqOf r.d = some (xs.map D.str)) (z : xs.length + 1 < scanBound) (h : Φ (.ow (.lst (((putAll xs).mergeSort leS).map .str))) ρ) : sortSetW r Φ ρ := by
  unfold sortSetW
  rw [q]
  show (match strsD (xs.map D.str) with | some xs => xs.length + 1 < scanBound ∧ Φ (.ow (.lst (((putAll xs).mergeSort leS).map .str))) ρ | none => False)
  rw [strsD_map]
  exact ⟨z, h⟩
theorem e_maxS {a b : Str} {Φ : R → Prop} (h : Φ (.fr (.str (if strLt a b then b else a)))) : oMaxA [.str a, .str b] Φ := h
instance st_maxS {a b : Str} {Φ : R → Prop} : Step (oMaxA [.str a, .str b] Φ) (Φ (.fr (.str (if strLt a b then b else a)))) := ⟨fun h => e_maxS h⟩
theorem e_minS {a b : Str} {Φ : R → Prop} (h : Φ (.fr (.str (if strLt b a then b else a)))) : oMinA [.str a, .str b] Φ := h
instance st_minS {a b : Str} {Φ : R → Prop} : Step (oMinA [.str a, .str b] Φ) (Φ (.fr (.str (if strLt b a then b else a)))) := ⟨fun h => e_minS h⟩
theorem e_maxI {a b : Int} {Φ : R → Prop} (h : Φ (.fr (.int (if b > a then b else a)))) : oMaxA [.int a, .int b] Φ := h
instance st_maxI {a b : Int} {Φ : R → Prop} : Step (oMaxA [.int a, .int b] Φ) (Φ (.fr (.int (if b > a then b else a)))) := ⟨fun h => e_maxI h⟩
theorem e_minI {a b : Int} {Φ : R → Prop} (h : Φ (.fr (.int (if b < a then b else a)))) : oMinA [.int a, .int b] Φ := h
instance st_minI {a b : Int} {Φ : R → Prop} : Step (oMinA [.int a, .int b] Φ) (Φ (.fr (.int (if b < a then b else a)))) := ⟨fun h => e_minI h⟩
end
/-! ### what a set holds -/
section
variable {κ : Type} [DecidableEq κ]
theorem addK_mem {l : List κ} {k x : κ} : x ∈ addK l k ↔ x ∈ l ∨ x = k := by
  unfold addK
  split
  · rename_i h
    exact ⟨.inl, fun z => z.elim id fun e => by subst e; simpa using h⟩
  · simp
theorem putAll_mem {l : List κ} {x : κ} : x ∈ putAll l ↔ x ∈ l := by
  have : ∀ (l acc : List κ), x ∈ l.foldl addK acc ↔ x ∈ acc ∨ x ∈ l := fun l => by
    induction l with
    | nil => intro acc; simp
    | cons a l ih =>
      intro acc
      rw [List.foldl_cons, ih, addK_mem, List.mem_cons]
      constructor
      · rintro ((h | h) | h)
        · exact .inl h
        · exact .inr (.inl h)
        · exact .inr (.inr h)
      · rintro (h | h | h)
        · exact .inl (.inl h)
        · exact .inl (.inr h)
        · exact .inr h
  rw [show putAll l = l.foldl addK [] from rfl, this]
  simp
end
end Tv
namespace Tv
open PySem PySem.Spec PyProof.Rows L2
variable [LamT]
section
variable {ρ : En} {S : SK} {wa wb wc : WE} {Φ : R → En → Prop}
def chW (o' : D → D → (R → Prop) → Prop) (wc : WE) (r2 z : R) (Φ : R → En → Prop) (ρ : En) : Prop := match z.d with
  | .bl true => wc ρ fun r3 ρ3 => o' r2.d r3.d fun r' => Φ r' ρ3
  | .bl false => Φ (.fr (.bl false)) ρ
  | _ => False
theorem e_chW {o' : D → D → (R → Prop) → Prop} {r2 z : R} {k : Bool} (q : z.d = .bl k) (h : if k = true then wc ρ fun r3 ρ3 => o' r2.d r3.d fun r' => Φ r' ρ3 else Φ (.fr (.bl false)) ρ) : chW o' wc r2 z Φ ρ := by
  unfold chW
  rw [q]
  cases k
  · exact h
  · exact h
instance ic_chW {o' : D → D → (R → Prop) → Prop} {r2 z : R} : IsC (chW o' wc r2 z Φ ρ) := ⟨fun h => h⟩
end
/-- things put in an order that is drawn -/
def MixF (F : WF) : Prop := ∀ (ds : List D) (Φ : R → Prop), ds.length ≤ 16000000 → (∀ es : List D, es.Perm ds → Φ (.ow (.lst es))) → F [.bag, .lst ds] Φ
theorem okL_strs : ∀ xs : List Str, (∀ x ∈ xs, PyData.strOk x = true) → D.goodL (xs.map D.str) = true ∧ D.depL (xs.map D.str) = 0 ∧ D.shoL (xs.map D.str) = true
  | [], _ => ⟨rfl, rfl, rfl⟩
  | x :: xs, h => by
    obtain ⟨a, b, c⟩ := okL_strs xs fun y hy => h y (List.mem_cons_of_mem _ hy)
    refine ⟨?_, ?_, ?_⟩
    · show (PyData.strOk x && D.goodL (xs.map D.str)) = true
      rw [h x List.mem_cons_self, a]
      rfl
    · show max 0 (D.depL (xs.map D.str)) = 0
      rw [b]
      rfl
    · show ((D.str x).sho && D.shoL (xs.map D.str)) = true
      rw [c]
      rfl
theorem costL_strs (n : Nat) : ∀ xs : List Str, (∀ x ∈ xs, x.length ≤ n) → D.costL (xs.map D.str) ≤ xs.length * (D.cost (.str ⟨Array.replicate n 0⟩) + 2)
  | [], _ => by show D.costL [] ≤ _; simp [D.costL]
  | x :: xs, h => by
    have a := costL_strs n xs fun y hy => h y (List.mem_cons_of_mem _ hy)
    have b := h x List.mem_cons_self
    have e : D.costL ((x :: xs).map D.str) = (D.str x).cost + 2 + D.costL (xs.map D.str) := rfl
    rw [e, List.length_cons, Nat.add_mul, Nat.one_mul]
    have c : (D.str x).cost ≤ D.cost (.str ⟨Array.replicate n 0⟩) := by
      simp only [D.cost, Str.length, Array.size_replicate] at b ⊢
      omega
    omega
end Tv
namespace Tv
open PySem PySem.Spec PyProof.Rows L2
variable [LamT]
section
variable {ρ : En} {S : SK} {i : Nat} {d : D} {r r2 r3 : R} {ws : WA} {wf : WF} {Φ : R → En → Prop}
theorem e_pb (q : ρ[i]? = some (.bo d)) (h : Φ (.bo d) ρ) : wP i ρ Φ := by unfold wP; rw [q]; exact h
instance ic_pb : IsC (wP i ρ Φ) := ⟨fun h => h⟩
def callBW (wf : WF) (rs : List R) (Φ : R → En → Prop) (ρ : En) : Prop := wf (rs.map R.d) fun r => Φ r ρ
theorem e_callB (h : ws ρ fun rs ρ' => callBW wf rs Φ ρ') : wCallB wf ws ρ Φ := h
instance st_callB : Step (wCallB wf ws ρ Φ) (ws ρ fun rs ρ' => callBW wf rs Φ ρ') := ⟨fun h => e_callB h⟩
theorem e_callBW1 (h : wf [r.d] fun r => Φ r ρ) : callBW wf [r] Φ ρ := h
instance st_callBW1 : Step (callBW wf [r] Φ ρ) (wf [r.d] fun r => Φ r ρ) := ⟨fun h => e_callBW1 h⟩
theorem e_callBW2 (h : wf [r.d, r2.d] fun r => Φ r ρ) : callBW wf [r, r2] Φ ρ := h
instance st_callBW2 : Step (callBW wf [r, r2] Φ ρ) (wf [r.d, r2.d] fun r => Φ r ρ) := ⟨fun h => e_callBW2 h⟩
theorem e_callBW3 (h : wf [r.d, r2.d, r3.d] fun r => Φ r ρ) : callBW wf [r, r2, r3] Φ ρ := h
instance st_callBW3 : Step (callBW wf [r, r2, r3] Φ ρ) (wf [r.d, r2.d, r3.d] fun r => Φ r ρ) := ⟨fun h => e_callBW3 h⟩
end
end Tv
/-! Tv22: comprehensions of two clauses. -/
namespace Tv
open PySem PySem.Spec PyProof.Rows L2
variable [LamT]
section
variable {K : PySem.W.Frag} {G0 : Gh} {H0 : Hp} {σ : L2.St} {H : Hp} {wi wi1 : WI} {W W1 : WTg} {wt wt1 : WT} {we : WE} {vs vs1 : List Nat} {ρ : En}
theorem wipe_sub (hv : ∀ i ∈ vs1, i ∈ vs) : wipe (wipe σ vs1) vs = wipe σ vs := by
  apply List.ext_getElem?
  intro i
  by_cases hi : i ∈ vs
  · by_cases hl : i < σ.length
    · rw [wipe_get hi (by rw [wipe_length]; exact hl), wipe_get hi hl]
    · rw [List.getElem?_eq_none (by rw [wipe_length, wipe_length]; omega), List.getElem?_eq_none (by rw [wipe_length]; omega)]
  · rw [wipe_out hi, wipe_out hi, wipe_out fun z => hi (hv i z)]
theorem wipeE_sub (hv : ∀ i ∈ vs1, i ∈ vs) : wipeE vs 0 (wipeE vs1 0 ρ) = wipeE vs 0 ρ := by
  apply List.ext_getElem?
  intro j
  rw [wipeE_get, wipeE_get, wipeE_get]
  cases ρ[j]? with
  | none => rfl
  | some c =>
    simp only [Option.map_some, Nat.zero_add, Option.some.injEq]
    by_cases hj : j ∈ vs
    · rw [if_pos (List.contains_iff_mem.mpr hj), if_pos (List.contains_iff_mem.mpr hj)]
    · rw [if_neg (fun z => hj (List.contains_iff_mem.mp z)), if_neg (fun z => hj (List.contains_iff_mem.mp z)), if_neg (fun z => hj (hv j (List.contains_iff_mem.mp z)))]
/-- the outer clause's turns -/
def lcO (W : WTg) (wt : WT) (wi1 : WI) (W1 : WTg) (wt1 : WT) (we : WE) (vs vs1 : List Nat) (Φ : List D → En → Prop) : List D → List D → En → Prop
  | [], acc, ρ => Φ acc ρ
  | d :: ds, acc, ρ => W d ρ fun ρ1 => wt ρ1 fun b ρ2 => if b = true then wi1 ρ2 fun ds1 ρ3 => lcD W1 wt1 we vs1 (fun acc' ρ4 => lcO W wt wi1 W1 wt1 we vs vs1 Φ ds acc' (wipeE vs 0 ρ4)) ds1 acc (wipeE vs1 0 ρ3)
    else lcO W wt wi1 W1 wt1 we vs vs1 Φ ds acc (wipeE vs 0 ρ2)
def wLc2 (wi : WI) (W : WTg) (wt : WT) (wi1 : WI) (W1 : WTg) (wt1 : WT) (we : WE) (vs vs1 : List Nat) : WE := fun ρ Φ => wi ρ fun ds ρ1 => lcO W wt wi1 W1 wt1 we vs vs1 (fun out ρe => Φ (.ow (.lst out)) (mixE vs 0 ρ1 ρe)) ds [] (wipeE vs 0 ρ1)
theorem tlc2_of {Q : VK} (hv : ∀ i ∈ vs1, i ∈ vs) (h : TX K G0 H0 (wLc2 wi W wt wi1 W1 wt1 we vs vs1) σ H Q) : tLc2 (TIX K G0 H0 wi) (TGX K G0 H0 vs W) (TTX K G0 H0 wt) (TIX K G0 H0 wi1) (TGX K G0 H0 vs1 W1) (TTX K G0 H0 wt1) (TX K G0 H0 we) vs vs1 σ H Q := by
  obtain ⟨ρ, G, Φ, S, h, c⟩ := h
  refine ⟨ρ, G, _, S, h, fun ds ρ1 J G1 H1 q s1 P L it p hp => ?_⟩
  have hown : ¬ OwnA ρ1 σ p := fun z => by
    obtain ⟨o, e⟩ := s1.tracked z
    rw [hp] at e; cases e
  have g0 : Grow G1 H1 G1 (upd H1 p (.lst [])) := Grow.laid hp
  have s2 := s1.grow (s1.wd.laid (o := .lst []) hp) g0
  have m0 : Mk K p [] G1 (upd H1 p (.lst [])) [] := by
    refine ⟨upd_same, .nil, fun z => ?_, fun z => ?_⟩
    · obtain ⟨o, e⟩ := s1.wd.f p z
      rw [hp] at e; cases e
    · obtain ⟨ys, e⟩ := s1.wd.btr z
      rw [hp] at e; cases e
  have h0 : H0 p = none := s1.none0 hp
  refine ⟨fun i m H' => m = ds.length - i ∧ i ≤ ds.length ∧ ∃ ρ' G' acc xs, Sta K G0 H0 ρ' G' H' (wipe σ vs) ∧ Stp (wipeE vs 0 ρ1) (wipe σ vs) G1 H1 G' H' ∧ LeE ρ' (wipeE vs 0 ρ1) ∧ Mk K p acc G' H' xs ∧
    lcO W wt wi1 W1 wt1 we vs vs1 (fun out ρe => Φ (.ow (.lst out)) (mixE vs 0 ρ1 ρe)) (ds.drop i) acc ρ', ⟨ds.length, by omega, Nat.zero_le _, wipeE vs 0 ρ1, G1, [], [], s2.wiped, g0.stp, LeE.refl _, m0, q⟩, ?_⟩
  rintro i m H' ⟨rfl, hi, ρ', G', acc, xs, s', P', L', mk, q'⟩
  obtain ⟨it1, it2⟩ := it i G' H' s'.wd (P'.fe s1.wd)
  have own' : ∀ a, OwnA ρ' (wipe σ vs) a → OwnA (wipeE vs 0 ρ1) (wipe σ vs) a := fun a z => L'.own z
  by_cases hlt : i < ds.length
  · obtain ⟨d, ed⟩ : ∃ d, ds[i]? = some d := ⟨ds[i], by simp [hlt]⟩
    obtain ⟨go, yl⟩ := it2 d ed
    have e2 : ds.drop i = d :: ds.drop (i + 1) := by
      rw [List.drop_eq_getElem_cons hlt]
      have : ds[i] = d := by simpa [hlt] using ed
      rw [this]
    rw [e2] at q'
    refine .inr ⟨go, fun H2 => i + 1 ≤ ds.length ∧ ∃ ρ2 G2 acc2 xs2, Sta K G0 H0 ρ2 G2 H2 (wipe σ vs) ∧ Stp (wipeE vs 0 ρ1) (wipe σ vs) G1 H1 G2 H2 ∧ LeE ρ2 (wipeE vs 0 ρ1) ∧ Mk K p acc2 G2 H2 xs2 ∧
      lcO W wt wi1 W1 wt1 we vs vs1 (fun out ρe => Φ (.ow (.lst out)) (mixE vs 0 ρ1 ρe)) (ds.drop (i + 1)) acc2 ρ2, fun H2 z => ⟨ds.length - (i + 1), by omega, rfl, z⟩, fun x H2 y => ?_⟩
    obtain ⟨G2, w2, g2, r2⟩ := yl x H2 y
    have P2 : Stp (wipeE vs 0 ρ1) (wipe σ vs) G1 H1 G2 H2 := P'.trans s'.wd g2.stp (LeE.refl _)
    have nop : ¬ OwnA ρ' (wipe σ vs) p := fun z => hown (own' p z).wiped
    have mk2 : Mk K p acc G2 H2 xs := mk.stp s'.wd (ρ := ρ') (σ := wipe σ vs) g2.stp nop
    refine ⟨ρ', G2, d, _, s'.grow w2 g2, r2, q', fun ρ3 σ3 q3 s3 tr => ⟨tr.w.trans wipe_idem, ρ3, G2, _, s3, q3, fun b ρ4 G4 H4 q4 s4 P4 L4 => ?_⟩⟩
    have own3 : ∀ a, OwnA ρ3 σ3 a → OwnA (wipeE vs 0 ρ1) (wipe σ vs) a := fun a z => own' a (tr.o a z)
    have nop3 : ¬ OwnA ρ3 σ3 p := fun z => hown (own3 p z).wiped
    have mk4 := mk2.stp s3.wd P4 nop3
    have P14 := P2.tr s3.wd P4 own3
    have le3 : LeE (wipeE vs 0 ρ3) (wipeE vs 0 ρ1) := by
      have z := L'.wipe (vs := vs)
      rw [wipeE_idem] at z
      rw [tr.e]; exact z
    have w3 : wipe σ3 vs = wipe σ vs := tr.w.trans wipe_idem
    cases b with
    | false =>
      refine iteF ⟨hlt, wipeE vs 0 ρ4, G4, acc, xs, ?_, P14, (L4.wipe).trans le3, mk4, by simpa using q4⟩
      have z := s4.wiped (vs := vs)
      rw [w3] at z
      exact z
    | true =>
      refine iteT ⟨ρ4, G4, _, s4, by simpa using q4, fun ds1 ρ5 J1 G5 H5 q5 s5 P5 L5 it5 => ?_⟩
      have nop4 : ¬ OwnA ρ4 σ3 p := fun z => nop3 (L4.own z)
      have mk5 := mk4.stp s4.wd P5 nop4
      have own5 : ∀ a, OwnA ρ5 σ3 a → OwnA (wipeE vs 0 ρ1) (wipe σ vs) a := fun a z => own3 a (L4.own (L5.own z))
      have P15 := P14.tr s4.wd P5 fun a z => own3 a (L4.own z)
      have le5 : LeE (wipeE vs 0 ρ5) (wipeE vs 0 ρ1) := (L5.wipe).trans ((L4.wipe).trans le3)
      refine ⟨fun j k H6 => k = ds1.length - j ∧ j ≤ ds1.length ∧ ∃ ρ6 G6 acc6 xs6, Sta K G0 H0 ρ6 G6 H6 (wipe σ3 vs1) ∧ Stp (wipeE vs 0 ρ1) (wipe σ vs) G1 H1 G6 H6 ∧ FE G5 H5 G6 H6 ∧ LeE ρ6 (wipeE vs1 0 ρ5) ∧ Mk K p acc6 G6 H6 xs6 ∧
        lcD W1 wt1 we vs1 (fun acc' ρ4 => lcO W wt wi1 W1 wt1 we vs vs1 (fun out ρe => Φ (.ow (.lst out)) (mixE vs 0 ρ1 ρe)) (ds.drop (i + 1)) acc' (wipeE vs 0 ρ4)) (ds1.drop j) acc6 ρ6,
        ⟨ds1.length, by omega, Nat.zero_le _, wipeE vs1 0 ρ5, G5, acc, xs, s5.wiped, P15, FE.refl _ _, LeE.refl _, mk5, q5⟩, ?_⟩
      rintro j k H6 ⟨rfl, hj, ρ6, G6, acc6, xs6, s6, P6, F6, L6, mk6, q6⟩
      obtain ⟨jt1, jt2⟩ := it5 j G6 H6 s6.wd F6
      have own6 : ∀ a, OwnA ρ6 (wipe σ3 vs1) a → OwnA (wipeE vs 0 ρ1) (wipe σ vs) a := fun a z => own5 a (L6.own z).wiped
      have nop6 : ¬ OwnA ρ6 (wipe σ3 vs1) p := fun z => hown (own6 p z).wiped
      by_cases hlj : j < ds1.length
      · obtain ⟨d1, ed1⟩ : ∃ d, ds1[j]? = some d := ⟨ds1[j], by simp [hlj]⟩
        obtain ⟨go1, yl1⟩ := jt2 d1 ed1
        have e3 : ds1.drop j = d1 :: ds1.drop (j + 1) := by
          rw [List.drop_eq_getElem_cons hlj]
          have : ds1[j] = d1 := by simpa [hlj] using ed1
          rw [this]
        rw [e3] at q6
        refine .inr ⟨go1, fun H7 => j + 1 ≤ ds1.length ∧ ∃ ρ7 G7 acc7 xs7, Sta K G0 H0 ρ7 G7 H7 (wipe σ3 vs1) ∧ Stp (wipeE vs 0 ρ1) (wipe σ vs) G1 H1 G7 H7 ∧ FE G5 H5 G7 H7 ∧ LeE ρ7 (wipeE vs1 0 ρ5) ∧ Mk K p acc7 G7 H7 xs7 ∧
          lcD W1 wt1 we vs1 (fun acc' ρ4 => lcO W wt wi1 W1 wt1 we vs vs1 (fun out ρe => Φ (.ow (.lst out)) (mixE vs 0 ρ1 ρe)) (ds.drop (i + 1)) acc' (wipeE vs 0 ρ4)) (ds1.drop (j + 1)) acc7 ρ7, fun H7 z => ⟨ds1.length - (j + 1), by omega, rfl, z⟩, fun x7 H7 y7 => ?_⟩
        obtain ⟨G7, w7, g7, r7⟩ := yl1 x7 H7 y7
        have P7 : Stp (wipeE vs 0 ρ1) (wipe σ vs) G1 H1 G7 H7 := P6.trans s6.wd g7.stp (LeE.refl _)
        have F7 := F6.trans (g7.fe s6.wd)
        have mk7 : Mk K p acc6 G7 H7 xs6 := mk6.stp s6.wd (ρ := ρ6) (σ := wipe σ3 vs1) g7.stp nop6
        refine ⟨ρ6, G7, d1, _, s6.grow w7 g7, r7, q6, fun ρ8 σ8 q8 s8 tr8 => ⟨tr8.w.trans wipe_idem, ρ8, G7, _, s8, q8, fun b1 ρ9 G9 H9 q9 s9 P9 L9 => ?_⟩⟩
        have own8 : ∀ a, OwnA ρ8 σ8 a → OwnA (wipeE vs 0 ρ1) (wipe σ vs) a := fun a z => own6 a (tr8.o a z)
        have nop8 : ¬ OwnA ρ8 σ8 p := fun z => hown (own8 p z).wiped
        have mk9 := mk7.stp s8.wd P9 nop8
        have P19 := P7.tr s8.wd P9 own8
        have F9 := F7.trans (P9.fe s8.wd)
        have le8 : LeE (wipeE vs1 0 ρ8) (wipeE vs1 0 ρ5) := by
          have z := L6.wipe (vs := vs1)
          rw [wipeE_idem] at z
          rw [tr8.e]; exact z
        have w8 : wipe σ8 vs1 = wipe σ3 vs1 := tr8.w.trans wipe_idem
        cases b1 with
        | false =>
          refine iteF ⟨hlj, wipeE vs1 0 ρ9, G9, acc6, xs6, ?_, P19, F9, (L9.wipe).trans le8, mk9, by simpa using q9⟩
          have z := s9.wiped (vs := vs1)
          rw [w8] at z
          exact z
        | true =>
          refine iteT ⟨ρ9, G9, _, s9, by simpa using q9, fun r ρa ya Ga Ha qa sa Pa La xa => ?_⟩
          have nop9 : ¬ OwnA ρ9 σ8 p := fun z => nop8 (L9.own z)
          have nopa : ¬ OwnA ρa σ8 p := fun z => nop9 (La.own z)
          have mka := mk9.stp s9.wd Pa nop9
          have P1a := P19.tr s9.wd Pa fun a z => own8 a (L9.own z)
          have Fa := F9.trans (Pa.fe s9.wd)
          cases r with
          | fr yd =>
            have xa' : Rep K Ga Ha yd ya := xa
            have hlen : xs6.length < sizeLine := by rw [← mka.r.length]; exact qa.1
            have fw : FE Ga Ha Ga (upd Ha p (.lst (xs6 ++ [ya]))) := FE.wr mka.at_ mka.f
            refine ⟨xs6, mka.at_, hlen, hlj, wipeE vs1 0 ρa, Ga, acc6 ++ [yd], xs6 ++ [ya], ?_, ?_, Fa.trans fw, (La.wipe).trans ((L9.wipe).trans le8), ?_, qa.2⟩
            · have z := (sa.wrP (o := .lst (xs6 ++ [ya])) mka.at_ mka.f mka.b h0 nopa).wiped (vs := vs1)
              rw [w8] at z
              exact z
            · exact ⟨P1a.f, P1a.b, fun a o e hb => by rw [upd_ne (fun z => by rw [z, hp] at e; cases e)]; exact P1a.k a o e hb, P1a.nf, P1a.nb, P1a.nm⟩
            · exact ⟨upd_same, (mka.r.append (.cons xa' .nil)).fe fw, mka.f, mka.b⟩
          | ow yd => exact qa.elim
          | bo yd => exact qa.elim
      · have e : j = ds1.length := by omega
        subst e
        rw [List.drop_length] at q6
        refine .inl ⟨jt1 (Nat.le_refl _), hlt, wipeE vs 0 ρ6, G6, acc6, xs6, ?_, P6, ?_, mk6, q6⟩
        · have z := s6.wiped (vs := vs)
          rw [wipe_sub hv, w3] at z
          exact z
        · have z := L6.wipe (vs := vs)
          rw [wipeE_sub hv] at z
          exact z.trans le5
  · have e : i = ds.length := by omega
    subst e
    rw [List.drop_length] at q'
    refine .inl ⟨it1 (Nat.le_refl _), ?_⟩
    have P1' : Stp ρ1 σ G1 H1 G' H' := ⟨P'.f, P'.b, P'.k, fun a z => (P'.nf a z).elim .inl fun z => .inr (z.elim .inl fun z => .inr z.wiped), P'.nb, P'.nm⟩
    exact c _ _ _ G' H' q' (s1.mix s' (P'.fe s1.wd)) (P.trans s1.wd P1' L) ((L'.mix).trans L) ⟨p, rfl, ⟨mk.f, mk.b, xs, mk.at_, mk.r⟩, P.nn s1.wd hp⟩
end
section
variable {X : Cx} {G0 : Gh} {H0 : Hp} {wi wi1 : WI} {W W1 : WTg} {wt wt1 : WT} {we : WE} {vs1 : List Nat} {elt tg iter tg1 iter1 : Expr} {ifs ifs1 : List Expr} {scope : Scope} {own : List (Str × Nat)} {pos : Pos}
theorem i_lc2 (hc : X.calm = true) (hN : X.N.Nodup) (hi : PII X G0 H0 tg iter wi) (ok : BlkOk X.N X.env.scope scope own) (hv : ∀ i ∈ vs1, i ∈ own.map (·.2))
    (hg : ∀ (s : Shared) (H : Hp) (C : Addr) (cl : List (Str × Addr)) (fp : List Addr), PGI (X.blk s H scope (compEnvC scope cl C X.env) fp) G0 H0 (own.map (·.2)) tg W) (ht : ∀ (s : Shared) (H : Hp) (C : Addr) (cl : List (Str × Addr)) (fp : List Addr), PTsI (X.blk s H scope (compEnvC scope cl C X.env) fp) G0 H0 ifs wt)
    (hi1 : ∀ (s : Shared) (H : Hp) (C : Addr) (cl : List (Str × Addr)) (fp : List Addr), PII (X.blk s H scope (compEnvC scope cl C X.env) fp) G0 H0 tg1 iter1 wi1)
    (hg1 : ∀ (s : Shared) (H : Hp) (C : Addr) (cl : List (Str × Addr)) (fp : List Addr), PGI (X.blk s H scope (compEnvC scope cl C X.env) fp) G0 H0 vs1 tg1 W1) (ht1 : ∀ (s : Shared) (H : Hp) (C : Addr) (cl : List (Str × Addr)) (fp : List Addr), PTsI (X.blk s H scope (compEnvC scope cl C X.env) fp) G0 H0 ifs1 wt1)
    (he : ∀ (s : Shared) (H : Hp) (C : Addr) (cl : List (Str × Addr)) (fp : List Addr), PEI (X.blk s H scope (compEnvC scope cl C X.env) fp) G0 H0 elt we) (hs : ∀ x, foldedSetIterable iter X.env x = pure x := by intro _; rfl) (hs1 : ∀ env x, foldedSetIterable iter1 env x = pure x := by intro _ _; rfl) :
    PEI X G0 H0 (.ListComp elt [⟨tg, iter, ifs, 0⟩, ⟨tg1, iter1, ifs1, 0⟩] scope pos) (wLc2 wi W wt wi1 W1 wt1 we (own.map (·.2)) vs1) :=
  pe_imp (pe_lc2 (wi1 := TIX X.K G0 H0 wi1) (g := TGX X.K G0 H0 (own.map fun p : Str × Nat => p.2) W) (tt := TTX X.K G0 H0 wt) (te := TX X.K G0 H0 we) (g1 := TGX X.K G0 H0 vs1 W1) (tt1 := TTX X.K G0 H0 wt1) hc hN hi ok hv hg ht hi1 hg1 ht1 he hs hs1) fun σ H Q h => tlc2_of hv h
end
end Tv
/-! Tv23: dicts of the text, list(range(..)), xs[::-1], a display with an index. -/
namespace Tv
open PySem PySem.Spec PyProof.Rows L2
variable [LamT]

/-- the rows of a dict of the text: keys that are texts -/
def wrE (K : PySem.W.Frag) (n : Nat) : List DictEntry → Option (List (Str × D))
  | [] => some []
  | e :: r => match e.key, wrD K n e.val, wrE K n r with
    | .str x _, some d, some ds => some ((x, d) :: ds)
    | _, _, _ => none
def wrK (K : PySem.W.Frag) (n : Nat) (a : Addr) : Option (List (Str × D)) := match K.lookup a with
  | some o => (match o.data with
    | .dict es _ => wrE K n es.toList
    | _ => none)
  | none => none
/-- a dict that the text has written -/
def KCon (K : PySem.W.Frag) (w : World) (a : Addr) (c : List (Str × D)) : Prop :=
  ∃ es n, K.lookup a = some ⟨.type "dict", none, .dict es n, #[]⟩ ∧ PySem.W.KeysLit w.params es.toList ∧ (a == sysModules) = false ∧ wrE K 9 es.toList = some c ∧ (c.map (·.1)).Nodup ∧ c.length ≤ 4096
theorem kcon_of {K : PySem.W.Frag} {w : World} {a : Addr} {c : List (Str × D)} {ks : List Str} (h : He.dicW K a = some (He.keysIn w.params ks)) (hr : wrK K 9 a = some c) (hn : (c.map (·.1)).Nodup) (hl : c.length ≤ 4096) : KCon K w a c := by
  obtain ⟨es, n, q⟩ := He.dicW_ok h
  unfold wrK at hr
  rw [q.at_] at hr
  exact ⟨es, n, q.at_, q.lit, q.low, hr, hn, hl⟩
theorem wrE_rep {K : PySem.W.Frag} {n : Nat} {w : World} : ∀ {l : List DictEntry} {c : List (Str × D)}, wrE K n l = some c → ∃ vs : List (Str × Value), Paired (fun (p : Str × D) (q : Str × Value) => p.1 = q.1 ∧ ∃ x, RelV x q.2 ∧ ∀ G H, Rep K G H p.2 x) c vs ∧
    ∀ {P : Program}, Pairs (strKind P w) l vs
  | [], c, e => by
    have : some [] = some c := e
    cases this
    exact ⟨[], .nil, .nil⟩
  | en :: l, c, e => by
    unfold wrE at e
    split at e
    · rename_i x t d ds k1 k2 k3
      cases e
      obtain ⟨vs, h1, h2⟩ := wrE_rep (w := w) k3
      obtain ⟨v, r, rp⟩ := wrD_rep k2
      exact ⟨(x, en.val) :: vs, .cons ⟨rfl, v, r, rp⟩ h1, .cons (by rw [k1]; exact strKind_is _ w x t) rfl h2⟩
    · cases e
theorem paired_keys {K : PySem.W.Frag} : ∀ {c : List (Str × D)} {vs : List (Str × Value)}, Paired (fun (p : Str × D) (q : Str × Value) => p.1 = q.1 ∧ ∃ x, RelV x q.2 ∧ ∀ G H, Rep K G H p.2 x) c vs → c.map (·.1) = vs.map (·.1)
  | _, _, .nil => rfl
  | _, _, .cons h t => by rw [List.map_cons, List.map_cons, paired_keys t, h.1]
theorem paired_val {K : PySem.W.Frag} (z : Str) : ∀ {c : List (Str × D)} {vs : List (Str × Value)}, Paired (fun (p : Str × D) (q : Str × Value) => p.1 = q.1 ∧ ∃ x, RelV x q.2 ∧ ∀ G H, Rep K G H p.2 x) c vs →
    (c.lookup z = none ∧ valueAt vs z = none) ∨ ∃ d u x, c.lookup z = some d ∧ valueAt vs z = some u ∧ RelV x u ∧ ∀ G H, Rep K G H d x
  | _, _, .nil => .inl ⟨rfl, rfl⟩
  | _, _, .cons (a := p) (b := q) (l₁ := c) (l₂ := vs) h t => by
    obtain ⟨h1, x, h2, h3⟩ := h
    obtain ⟨k, d⟩ := p
    obtain ⟨k', u⟩ := q
    cases h1
    by_cases e : k = z
    · subst e
      refine .inr ⟨d, u, x, ?_, ?_, h2, h3⟩
      · simp [List.lookup_cons]
      · unfold valueAt
        rw [List.find?_cons_of_pos (by simp)]
        rfl
    · have e1 : ((k, d) :: c).lookup z = c.lookup z := by
        rw [List.lookup_cons]
        rw [show (z == k) = false by simpa using fun q => e q.symm]
      have e2 : valueAt ((k, u) :: vs) z = valueAt vs z := by
        unfold valueAt
        rw [List.find?_cons_of_neg (by simpa using e)]
      rw [e1, e2]
      exact paired_val z t
section
variable {X : Cx} {pins : List (Addr × Obj)} {σ : L2.St} {H : Hp} {s : Shared} {a : Addr} {c : List (Str × D)}
theorem KCon.at (k : KCon X.K X.w a c) (I : L2.Inv X pins σ H s) : ∃ (o : Obj) (es : Array DictEntry) (n : Nat) (vs : List (Str × Value)), (a == sysModules) = false ∧ s.heap.get? a = some o ∧ o.ExactDict ∧ o.data = .dict es n ∧ es.size = c.length ∧
    Paired (fun (p : Str × D) (q : Str × Value) => p.1 = q.1 ∧ ∃ x, RelV x q.2 ∧ ∀ G H, Rep X.K G H p.2 x) c vs ∧ s.heap.DictAt (strKind X.prog X.w) a vs n := by
  obtain ⟨es, n, h1, h2, h3, h4, h5, _⟩ := k
  obtain ⟨vs, p1, p2⟩ := wrE_rep (w := X.w) h4
  have hg := I.kIn a _ h1
  have p3 : Pairs (strKind X.prog X.w) es.toList vs := p2
  refine ⟨_, es, n, vs, h3, hg, ⟨rfl, rfl, rfl⟩, rfl, ?_, p1, _, es, hg, ⟨rfl, rfl, rfl⟩, rfl, fun e he => ?_, p3, by rw [← paired_keys p1]; exact h5⟩
  · have l1 := p3.length
    have l2 : c.length = vs.length := Paired.length p1
    rw [Array.length_toList] at l1
    omega
  · obtain ⟨x, t, e1, e2⟩ := h2.all e (Array.mem_toList_iff.mpr he)
    exact ⟨x, by rw [e1]; exact strKind_is X.prog X.w x t, e2⟩
def rKIx (K : PySem.W.Frag) (a : Addr) (c : List (Str × D)) : R2 := fun x y H Q => x = .ref a ∧ ∃ z d, y = .str z ∧ c.lookup z = some d ∧ ∀ v, (∀ G H, Rep K G H d v) → Q v H
theorem ix_kcon (k : KCon X.K X.w a c) : IxR X (rKIx X.K a c) := by
  intro value slice pins s σ H x y v u Q I rx ry h hs
  obtain ⟨rfl, z, d, rfl, hl, q⟩ := h
  obtain rfl : v = Value.ref a := rx
  obtain ⟨t, rfl⟩ := ry
  obtain ⟨o, es, n, vs, lo, hg, ex, hd, hz, pr, at_⟩ := k.at I
  have hm := at_.dictOf.mapOf
  rcases paired_val z pr with ⟨e1, _⟩ | ⟨d', w', x', e1, e2, r, rp⟩
  · rw [e1] at hl; cases hl
  · rw [e1] at hl
    cases hl
    exact tail_any hm.typeIs slot_dict_getitem.lookup (wpAny_getItem_of (strKind_is X.prog X.w z t) hm e2 ⟨x', H, I.tok _, r, q x' rp⟩) hs
def rKIn (a : Addr) (c : List (Str × D)) (neg : Bool) : R2 := fun x y H Q => y = .ref a ∧ ∃ z, x = .str z ∧ Q (.bl (if neg then !(c.lookup z).isSome else (c.lookup z).isSome)) H
theorem some_eq (k : Paired (fun (p : Str × D) (q : Str × Value) => p.1 = q.1 ∧ ∃ x, RelV x q.2 ∧ ∀ G H, Rep X.K G H p.2 x) c vs) (z : Str) : (valueAt vs z).isSome = (c.lookup z).isSome := by
  rcases paired_val z k with ⟨e1, e2⟩ | ⟨d', w', x', e1, e2, r, rp⟩
  · rw [e1, e2]; rfl
  · rw [e1, e2]; rfl
theorem op_kin (k : KCon X.K X.w a c) : OpR X (compareOp .In) (rKIn a c false) := by
  intro pins s σ H x y v u Q I rx ry h
  obtain ⟨rfl, z, rfl, q⟩ := h
  obtain rfl : u = Value.ref a := ry
  obtain ⟨t, rfl⟩ := rx
  obtain ⟨o, es, n, vs, lo, hg, ex, hd, hz, pr, at_⟩ := k.at I
  refine wpAny_in_of (strKind_is X.prog X.w z t) lo at_.dictOf.mapOf ⟨.bl _, H, I.tok _, rfl, ?_⟩
  rw [some_eq pr]
  exact q
/-- its keys are walked -/
def ItK (c : List (Str × D)) : It := ⟨fun i _ => i < c.length, fun i H x H' => H' = H ∧ ∃ p, c[i]? = some p ∧ x = .str p.1, fun i _ => c.length ≤ i⟩
theorem pairk_at {K : PySem.W.Frag} : ∀ {c : List (Str × D)} {vs : List (Str × Value)} {i : Nat} {p : Str × D}, Paired (fun (p : Str × D) (q : Str × Value) => p.1 = q.1 ∧ ∃ x, RelV x q.2 ∧ ∀ G H, Rep K G H p.2 x) c vs → c[i]? = some p → ∃ u, vs[i]? = some (p.1, u)
  | _, _, _, _, .nil, e => by simp at e
  | _, _, 0, _, .cons (b := q) h _, e => by
    simp at e; subst e
    exact ⟨q.2, by simp [h.1]⟩
  | _, _, i + 1, _, .cons _ t, e => by
    obtain ⟨u, h⟩ := pairk_at (i := i) t (by simpa using e)
    exact ⟨u, by simpa using h⟩
theorem turn_kcon {P : Program} {w : World} {K : PySem.W.Frag} {tg : Expr} (k : KCon K w a c) (it : Addr) {es : Array DictEntry} {n : Nat} (he : ∃ o, K.lookup a = some o ∧ o.data = .dict es n) : Turn P w K tg (ItK c) [it] it (fun i h => h.IsKeyIter it a i c.length n) where
  mem := by simp
  obj := fun i h st b hb => by
    have e : b = it := by simpa using hb
    subst e
    obtain ⟨oi, e, c, dd⟩ := st
    exact ⟨oi, e, fun v z => by rw [dd] at z; cases z⟩
  keep := fun i h h' st k => st.at fun oi e => k it (by simp) oi e
  item := by
    intro X hP hw hK hc i pins s σ H E I hf st hi
    subst hP hw hK
    obtain ⟨f0, f1, f2, f3, f4, f5⟩ := hf it (by simp)
    obtain ⟨o, es', n', vs, lo, hgd, ex, hdt, hsz, pr, hm⟩ := k.at I
    obtain ⟨o', ho', hd'⟩ := he
    have := I.kIn a _ ho'
    rw [hgd] at this
    cases this
    obtain ⟨rfl, rfl⟩ := dict_ep hd' hdt
    have hi' : i < c.length := hi
    obtain ⟨p, hp⟩ : ∃ p, c[i]? = some p := ⟨c[i], List.getElem?_eq_getElem hi'⟩
    obtain ⟨u, hu⟩ := pairk_at pr hp
    have hl : c.length = vs.length := Paired.length pr
    rw [hl] at st
    refine wpAny_pyNext_dict_item st hm hu fun key h' hkey st' sb => ?_
    have I1 : L2.Inv X pins σ H { s with heap := h' } := I.turned (t' := s.toks) (fun b ob hb e => (sb.2 b hb).trans e) f0 f1 f3 f4 f5
    obtain ⟨oi, e, cc, dd⟩ := id st'
    refine ⟨key, rfl, go_of (s := { s with heap := h' }) e cc dd (by decide) ⟨.str p.1, H, I1, ?_, ⟨rfl, p, hp, rfl⟩, ?_, fun b hb => (hf b hb).1⟩⟩
    · exact Value.isStrOf_shape hkey
    · show h'.IsKeyIter it a (i + 1) c.length _
      rw [hl]
      exact st'
  done := by
    intro X hP hw hK hc i pins s σ H E I hf st hi
    subst hP hw hK
    obtain ⟨f0, f1, f2, f3, f4, f5⟩ := hf it (by simp)
    obtain ⟨o, es', n', vs, lo, hgd, ex, hdt, hsz, pr, hm⟩ := k.at I
    obtain ⟨o', ho', hd'⟩ := he
    have := I.kIn a _ ho'
    rw [hgd] at this
    cases this
    obtain ⟨rfl, rfl⟩ := dict_ep hd' hdt
    exact next_key_end (I.ok.hd hc) st hgd hdt hsz hi fun h' eb => ⟨rfl, I.turned (t' := s.toks) (fun b ob hb e => eb b ob hb e) f0 f1 f3 f4 f5⟩
  self := fun A i s Q E st h => wpAny_pyIter_keyiter st h
end
section
variable {X : Cx} {G0 : Gh} {H0 : Hp} {wa : WE} {ws : WA} {pos p p2 : Pos} {a : Addr} {c : List (Str × D)} {x : Str} {e tg : Expr}
def ksD (c : List (Str × D)) : List D := c.map fun p => .str p.1
theorem itr_kcon {K : PySem.W.Frag} {G : Gh} {H : Hp} : ItR K (ItK c) G H (ksD c) := fun i G' H' w f => by
  refine ⟨fun h => by unfold ksD at h; rw [List.length_map] at h; exact h, fun d e => ?_⟩
  unfold ksD at e
  rw [List.getElem?_map] at e
  cases q : c[i]? with
  | none => rw [q] at e; cases e
  | some r =>
    rw [q] at e
    cases e
    refine ⟨(List.getElem?_eq_some_iff.mp q).1, fun v H'' y => ⟨G', by rw [y.1]; exact w, by rw [y.1]; exact Grow.refl _ _, ?_⟩⟩
    obtain ⟨p', hp', rfl⟩ := y.2
    rw [q] at hp'
    cases hp'
    rw [y.1]
    exact .str _
def wKeys (c : List (Str × D)) : WI := fun ρ Φ => Φ (ksD c) ρ
theorem p_kcon (hg : Gl X x) (hm : X.mg x = some (.ref a)) (k : KCon X.K X.w a c) (hdb : (x == ("__debug__" : Str)) = false := by decide) : PII X G0 H0 tg (.Name x p) (wKeys c) := by
  refine ⟨fun pins s σ H R I h => ?_⟩
  refine thn ((pe_glob (pos := p) hg hm (v := .ref a) rfl hdb).run pins s σ H (fun v H1 => v = .ref a ∧ H1 = H) I ⟨rfl, rfl⟩) fun u s1 ⟨x, H1, I1, rx, ex, eH⟩ => ?_
  subst ex
  subst eH
  obtain rfl : u = Value.ref a := rx
  obtain ⟨ρ, G, Φ, S, h, kk⟩ := h
  obtain ⟨es, n, hl, _⟩ := id k
  obtain ⟨o, es', n', vs, lo, hgd, hx, hdt, hsz, pr, hmm⟩ := k.at I1
  have hg2 := I1.kIn a _ hl
  rw [hgd] at hg2
  cases hg2
  cases hdt
  refine iter_keys lo hgd hx rfl (pi_one (tk := s1.toks) I1 _ (turn_kcon k _ ⟨_, hl, rfl⟩) ⟨_, Heap.get?_push_size _ rfl, rfl, ?_⟩ (kk _ ρ _ G H1 h S Stp.refl (LeE.refl _) itr_kcon))
  rw [hsz] <;> rfl
/-- X[..], .. in X -/
def wKIx (c : List (Str × D)) (wa : WE) : WE := fun ρ Φ => wa ρ fun r ρ' => match r.d with
  | .str z => (match c.lookup z with
    | some d => Φ (.fr d) ρ'
    | none => False)
  | _ => False
theorem i_kix (hg : Gl X x) (hm : X.mg x = some (.ref a)) (k : KCon X.K X.w a c) (he : PEI X G0 H0 e wa) (hs : PlainIx e) (hdb : (x == ("__debug__" : Str)) = false := by decide) : PEI X G0 H0 (.Subscript (.Name x p) e pos) (wKIx c wa) := by
  refine pe_imp (pe_ix (ix_kcon k) (pe_glob (pos := p) hg hm (v := .ref a) rfl hdb) he hs) fun σ H Q h => ?_
  obtain ⟨ρ, G, Φ, S, h, kk⟩ := h
  refine ⟨ρ, G, _, S, h, fun r ρ' v G' H' q S' P L y => ?_⟩
  split at q
  · rename_i z ez
    split at q
    · rename_i d ed
      have y' := y.sh
      rw [ez] at y'
      exact ⟨rfl, z, d, y'.s, ed, fun v rp => kk _ ρ' _ G' H' q S' P L (rp _ _)⟩
    · exact q.elim
  · exact q.elim
def wKIn (c : List (Str × D)) (neg : Bool) (wa : WE) : WE := fun ρ Φ => wa ρ fun r ρ' => match r.d with
  | .str z => Φ (.fr (.bl (if neg then !(c.lookup z).isSome else (c.lookup z).isSome))) ρ'
  | _ => False
theorem tx_kin {σ : L2.St} {H : Hp} {Q : VK} {neg : Bool} (h : TX X.K G0 H0 (wKIn c neg wa) σ H Q) : tOp (rKIn a c neg) (TX X.K G0 H0 wa) (tC (.ref a)) σ H Q := by
  obtain ⟨ρ, G, Φ, S, h, kk⟩ := h
  refine ⟨ρ, G, _, S, h, fun r ρ' v G' H' q S' P L y => ?_⟩
  split at q
  · rename_i z ez
    have y' := y.sh
    rw [ez] at y'
    exact ⟨rfl, z, y'.s, kk _ ρ' _ G' H' q S' P L (.bl _)⟩
  · exact q.elim
theorem i_kin (hg : Gl X x) (hm : X.mg x = some (.ref a)) (k : KCon X.K X.w a c) (he : PEI X G0 H0 e wa) (hdb : (x == ("__debug__" : Str)) = false := by decide) (hi : behindInMarks .In (.Name x p) = false := by rfl) : PEI X G0 H0 (.Compare e [.In] [.Name x p] pos) (wKIn c false wa) :=
  pe_imp (pe_cmpR (op_kin k) he (pe_glob (pos := p) hg hm (v := .ref a) rfl hdb) hi) fun _ _ _ h => tx_kin h
theorem ttx_of {σ : L2.St} {H : Hp} {Q : Bool → Hp → Prop} {W : WE} (h : TTX X.K G0 H0 (wB W) σ H Q) : TX X.K G0 H0 W σ H fun x H' => ∃ k, x = .bl k ∧ Q k H' := by
  obtain ⟨ρ, G, Φ, S, h, c⟩ := h
  refine ⟨ρ, G, _, S, h, fun r ρ' v G' H' q S' P L x => ?_⟩
  have x' := x.sh
  split at q
  · rename_i bb e
    rw [e] at x'
    exact ⟨bb, x'.b, c bb ρ' G' H' q S' P L⟩
  · exact q.elim
theorem t_kin (hg : Gl X x) (hm : X.mg x = some (.ref a)) (k : KCon X.K X.w a c) (he : PEI X G0 H0 e wa) (hdb : (x == ("__debug__" : Str)) = false := by decide) (hi : behindInMarks .In (.Name x p) = false := by rfl) : PTI X G0 H0 (.Compare e [.In] [.Name x p] pos) (wB (wKIn c false wa)) :=
  pt_imp (pt_cmpR (op_kin k) he (pe_glob (pos := p) hg hm (v := .ref a) rfl hdb) hi) fun _ _ _ h => tx_kin (ttx_of h)
end
end Tv
namespace Tv
open PySem PySem.Spec PyProof.Rows L2
variable [LamT]
section
variable {X : Cx} {G0 : Gh} {H0 : Hp} {wa wb : WE} {ws : WA} {pos p p2 p3 q : Pos} {a : Addr} {c : List (Str × D)} {x : Str} {e b tg : Expr}
/-! ### list(X) -/
def wNewL (ds : List D) : WE := fun ρ Φ => Φ (.ow (.lst ds)) ρ
theorem ksD_rep {K : PySem.W.Frag} {G : Gh} {H : Hp} : ∀ c : List (Str × D), RepL K G H (ksD c) (c.map fun r => V.str r.1)
  | [] => .nil
  | r :: c => .cons (.str r.1) (ksD_rep c)
theorem i_klist (hc : X.calm = true) (hg : Gl X "list") (hm : X.mg "list" = none) (hg2 : Gl X x) (hm2 : X.mg x = some (.ref a)) (k : KCon X.K X.w a c) (hdb : (x == ("__debug__" : Str)) = false := by decide)
    (na : starEach [.Name x p2] X.env = (false, eval (.Name x p2) X.env) :: starEach [] X.env := by rfl) : PEI X G0 H0 (.Call (.Name "list" p) [.Name x p2] [] pos) (wNewL (ksD c)) := by
  refine ⟨fun pins s σ H Q I h => ?_⟩
  obtain ⟨ρ, G, Φ, S, h, kk⟩ := h
  refine Call_ (ld_blt I hg hm boot_list ?_)
  refine PyProof.Rows.callWith_type1 (PyProof.Rows.args_cons (thn ((pe_glob (pos := p2) hg2 hm2 (v := .ref a) rfl hdb).run pins s σ H (fun v H1 => v = .ref a ∧ H1 = H) I ⟨rfl, rfl⟩) fun u s1 ⟨x, H1, I1, rx, ex, eH⟩ => PyProof.Rows.args_nil ?_) na) na rfl
  subst ex
  subst eH
  obtain rfl : u = Value.ref a := rx
  obtain ⟨o, es, n, vs, lo, hgd, hx, hdt, hsz, pr, at_⟩ := k.at I1
  have hl : c.length = vs.length := Paired.length pr
  obtain ⟨_, _, _, _, _, _, _, h4096⟩ := id k
  have hz : c.length ≤ sizeLine := by rw [sizeLine_eq]; omega
  refine PySem.W.kdl_call (PySem.W.kdl_dict (knd := strKind X.prog X.w) (kvs := vs) (ep := n) lo) (I1.ok.hd hc) at_ (by rw [← hl]; exact hz) fun h' tk acc' c' hkeep hS hacc => ?_
  have hn : H1 s1.heap.objs.size = none := I1.hok.fresh (Nat.le_refl _)
  refine ⟨.ref s1.heap.objs.size, upd H1 s1.heap.objs.size (.lst (c.map fun r => V.str r.1)), I1.laid hkeep (Nat.le_refl _) (show ObjOk X.prog X.w _ _ _ (.lst (c.map fun r => V.str r.1)) from ⟨?_, acc'.toList, c', ?_, ?_⟩), rfl, ?_⟩
  · rw [List.length_map]; exact hz
  · have el : acc'.toList.length = acc'.size := by simp
    refine vals_of_at (by rw [List.length_map, el, hacc.1, hl]) fun j x w h1 h2 => ?_
    obtain ⟨ky, y, hky, hi⟩ := hacc.2 j w (by rw [← Array.getElem?_toList]; exact h2)
    rw [List.getElem?_map] at h1
    cases qc : c[j]? with
    | none => rw [qc] at h1; cases h1
    | some r =>
      rw [qc] at h1
      cases h1
      obtain ⟨u, hu⟩ := pairk_at pr qc
      rw [hu] at hky
      cases hky
      exact Value.isStrOf_shape hi
  · rw [Array.toArray_toList]; exact hS
  · exact new_lst (Φ := fun r => Φ r ρ) S.wd (fun r' v' G' H' φ w g x' => kk r' ρ v' G' H' φ (S.grow w g) g.stp (LeE.refl _) x') (ksD_rep c) h _ hn
/-! ### list(range(..)) -/
def rgD (a b : Int) : List D := (List.range (b - a).toNat).map fun i => .int (a + (i : Nat))
theorem rgD_rep {K : PySem.W.Frag} {G : Gh} {H : Hp} (a b : Int) : RepL K G H (rgD a b) (rgV a b) := by
  unfold rgD rgV
  induction List.range (b - a).toNat with
  | nil => exact .nil
  | cons i l ih => exact .cons (.int _) ih
def rgOk (a b : Int) : Prop := -4611686018427387904 ≤ a ∧ a < 4611686018427387904 ∧ -4611686018427387904 ≤ b ∧ b < 4611686018427387904 ∧ b - a ≤ 16777216
theorem rgOk_ok {a b : Int} (h : rgOk a b) : RgOk a b := by
  obtain ⟨h1, h2, h3, h4, h5⟩ := h
  exact ⟨by omega, by omega, by omega, by omega, by omega⟩
def wListRng1 (wa : WE) : WE := fun ρ Φ => wa ρ fun r ρ' => match r.d with
  | .int n => rgOk 0 n ∧ Φ (.ow (.lst (rgD 0 n))) ρ'
  | _ => False
theorem i_listRng1 (hc : X.calm = true) (hg : Gl X "list") (hm : X.mg "list" = none) (hg2 : Gl X "range") (hm2 : X.mg "range" = none) (he : PEI X G0 H0 e wa)
    (na : starEach [e] X.env = (false, eval e X.env) :: starEach [] X.env := by rfl) (nb : starEach [.Call (.Name "range" p2) [e] [] q] X.env = (false, eval (.Call (.Name "range" p2) [e] [] q) X.env) :: starEach [] X.env := by rfl) : PEI X G0 H0 (.Call (.Name "list" p) [.Call (.Name "range" p2) [e] [] q] [] pos) (wListRng1 wa) := by
  refine pe_imp (pe_listRg hc hg hm (prg_1 hg2 hm2 he na) nb) fun σ H Q h => ?_
  obtain ⟨ρ, G, Φ, S, h, kk⟩ := h
  refine ⟨ρ, G, _, S, h, fun r ρ' v G' H' q S' P L y => ?_⟩
  split at q
  · rename_i n en
    have y' := y.sh
    rw [en] at y'
    exact ⟨n, y'.i, rgOk_ok q.1, new_lst (Φ := fun r => Φ r ρ') S'.wd (fun r' v' G2 H2 φ w g x' => kk r' ρ' v' G2 H2 φ (S'.grow w g) (P.trans S'.wd g.stp L) L (x'.back fun a z => P.nn S'.wd z)) (rgD_rep _ _) q.2⟩
  · exact q.elim
/-! ### xs[::-1] -/
/-! ### {..}[e]: texts by texts -/
end
end Tv
namespace Tv
open PySem
variable [LamT]
theorem wrK_of {K : PySem.W.Frag} {n m : Nat} {a : Addr} {o : Obj} {es : Array DictEntry} {c : List (Str × D)} (h : K.lookup a = some o) (hd : o.data = .dict es m) (hw : wrE K n es.toList = some c) : wrK K n a = some c := by
  unfold wrK
  rw [h]
  show (match o.data with | .dict es _ => wrE K n es.toList | _ => none) = some c
  rw [hd]
  exact hw
theorem wrE_cons {K : PySem.W.Frag} {n : Nat} {e : DictEntry} {r : List DictEntry} {x : Str} {t : Tok} {d : D} {ds : List (Str × D)} (hk : e.key = .str x t) (hv : wrD K n e.val = some d) (ht : wrE K n r = some ds) : wrE K n (e :: r) = some ((x, d) :: ds) := by
  unfold wrE
  rw [hk, hv, ht]
end Tv
namespace L2
theorem Room.r1 {k : Nat} {A : PySem.Around} (h : Room k A) : A.units + 1 < PySem.cLine := by have := h.un; omega
end L2
/-! Tv24: more for the plain laws. -/
namespace Tv
open PySem PySem.Spec PyProof.Rows L2
variable [LamT]
/-- comprehensions of two clauses, told row by row -/
def stepO (W : WTg) (wt : WT) (wi1 : WI) (W1 : WTg) (wt1 : WT) (we : WE) (vs vs1 : List Nat) (ρ : En) (d : D) (acc : List D) (Ψ : List D → En → Prop) : Prop := W d ρ fun ρ1 => wt ρ1 fun b ρ2 => if b = true then wi1 ρ2 fun ds1 ρ3 => lcD W1 wt1 we vs1 (fun acc' ρ4 => Ψ acc' (wipeE vs 0 ρ4)) ds1 acc (wipeE vs1 0 ρ3)
    else Ψ acc (wipeE vs 0 ρ2)
theorem lcO_of {α : Type} {W W1 : WTg} {wt wt1 : WT} {wi1 : WI} {we : WE} {vs vs1 : List Nat} {Φ : List D → En → Prop} {ρ : En} (inj : α → D) (f : α → List D) : ∀ (xs : List α) (acc : List D),
    (∀ x ∈ xs, ∀ (acc : List D) (Ψ : List D → En → Prop), acc.length + (f x).length ≤ 16000000 → Ψ (acc ++ f x) ρ → stepO W wt wi1 W1 wt1 we vs vs1 ρ (inj x) acc Ψ) → acc.length + (xs.map fun x => (f x).length).sum ≤ 16000000 → Φ (acc ++ (xs.map f).flatten) ρ →
    lcO W wt wi1 W1 wt1 we vs vs1 Φ (xs.map inj) acc ρ
  | [], acc, _, _, h => by rw [List.map_nil, List.flatten_nil, List.append_nil] at h; exact h
  | x :: xs, acc, hs, hl, h => by
    rw [List.map_cons, List.sum_cons] at hl
    have q := hs x List.mem_cons_self acc (fun acc' ρ' => lcO W wt wi1 W1 wt1 we vs vs1 Φ (xs.map inj) acc' ρ') (by omega) ?_
    · exact q
    · refine lcO_of inj f xs (acc ++ f x) (fun y hy => hs y (List.mem_cons_of_mem _ hy)) (by rw [List.length_append]; omega) ?_
      rw [List.append_assoc]
      rw [List.map_cons, List.flatten_cons] at h
      exact h
theorem e_lc2 {wi wi1 : WI} {W W1 : WTg} {wt wt1 : WT} {we : WE} {vs vs1 : List Nat} {ρ : En} {Φ : R → En → Prop} (h : wi ρ fun ds ρ1 => lcO W wt wi1 W1 wt1 we vs vs1 (fun out ρe => Φ (.ow (.lst out)) (mixE vs 0 ρ1 ρe)) ds [] (wipeE vs 0 ρ1)) : wLc2 wi W wt wi1 W1 wt1 we vs vs1 ρ Φ := h
instance st_lc2 {wi wi1 : WI} {W W1 : WTg} {wt wt1 : WT} {we : WE} {vs vs1 : List Nat} {ρ : En} {Φ : R → En → Prop} : Step (wLc2 wi W wt wi1 W1 wt1 we vs vs1 ρ Φ) (wi ρ fun ds ρ1 => lcO W wt wi1 W1 wt1 we vs vs1 (fun out ρe => Φ (.ow (.lst out)) (mixE vs 0 ρ1 ρe)) ds [] (wipeE vs 0 ρ1)) := ⟨fun h => e_lc2 h⟩
theorem e_keys {c : List (Str × D)} {ρ : En} {Φ : List D → En → Prop} (h : Φ (ksD c) ρ) : wKeys c ρ Φ := h
instance st_keys {c : List (Str × D)} {ρ : En} {Φ : List D → En → Prop} : Step (wKeys c ρ Φ) (Φ (ksD c) ρ) := ⟨fun h => e_keys h⟩
theorem e_newL {ds : List D} {ρ : En} {Φ : R → En → Prop} (h : Φ (.ow (.lst ds)) ρ) : wNewL ds ρ Φ := h
instance st_newL {ds : List D} {ρ : En} {Φ : R → En → Prop} : Step (wNewL ds ρ Φ) (Φ (.ow (.lst ds)) ρ) := ⟨fun h => e_newL h⟩
section
variable {ρ : En} {Φ : R → En → Prop} {r r2 : R} {wa wb : WE} {c : List (Str × D)} {z : Str} {d : D} {neg : Bool}
def kixW (c : List (Str × D)) (r : R) (Φ : R → En → Prop) (ρ : En) : Prop := match r.d with
  | .str z => (match c.lookup z with
    | some d => Φ (.fr d) ρ
    | none => False)
  | _ => False
theorem e_kix (h : wa ρ fun r ρ' => kixW c r Φ ρ') : wKIx c wa ρ Φ := h
instance st_kix : Step (wKIx c wa ρ Φ) (wa ρ fun r ρ' => kixW c r Φ ρ') := ⟨fun h => e_kix h⟩
theorem e_kixW (q : r.d = .str z) (q2 : c.lookup z = some d) (h : Φ (.fr d) ρ) : kixW c r Φ ρ := by unfold kixW; rw [q]; dsimp only; rw [q2]; exact h
instance ic_kixW : IsC (kixW c r Φ ρ) := ⟨fun h => h⟩
def kinW (c : List (Str × D)) (neg : Bool) (r : R) (Φ : R → En → Prop) (ρ : En) : Prop := match r.d with
  | .str z => Φ (.fr (.bl (if neg then !(c.lookup z).isSome else (c.lookup z).isSome))) ρ
  | _ => False
theorem e_kin (h : wa ρ fun r ρ' => kinW c neg r Φ ρ') : wKIn c neg wa ρ Φ := h
instance st_kin : Step (wKIn c neg wa ρ Φ) (wa ρ fun r ρ' => kinW c neg r Φ ρ') := ⟨fun h => e_kin h⟩
theorem e_kinW0 (q : r.d = .str z) (h : Φ (.fr (.bl (c.lookup z).isSome)) ρ) : kinW c false r Φ ρ := by unfold kinW; rw [q]; exact h
instance ic_kinW0 : IsC (kinW c false r Φ ρ) := ⟨fun h => h⟩
theorem e_kinW1 (q : r.d = .str z) (h : Φ (.fr (.bl (!(c.lookup z).isSome))) ρ) : kinW c true r Φ ρ := by unfold kinW; rw [q]; exact h
instance ic_kinW1 : IsC (kinW c true r Φ ρ) := ⟨fun h => h⟩
def lrgW (r : R) (Φ : R → En → Prop) (ρ : En) : Prop := match r.d with
  | .int n => rgOk 0 n ∧ Φ (.ow (.lst (rgD 0 n))) ρ
  | _ => False
theorem e_lrg (h : wa ρ fun r ρ' => lrgW r Φ ρ') : wListRng1 wa ρ Φ := h
instance st_lrg : Step (wListRng1 wa ρ Φ) (wa ρ fun r ρ' => lrgW r Φ ρ') := ⟨fun h => e_lrg h⟩
theorem e_lrgW {n : Int} (q : r.d = .int n) (b : n ≤ 16777216) (b0 : -4611686018427387904 ≤ n) (h : Φ (.ow (.lst (rgD 0 n))) ρ) : lrgW r Φ ρ := by unfold lrgW; rw [q]; exact ⟨⟨by omega, by omega, by omega, by omega, by omega⟩, h⟩
instance ic_lrgW : IsC (lrgW r Φ ρ) := ⟨fun h => h⟩
def revW (r : R) (Φ : R → En → Prop) (ρ : En) : Prop := match r.d with
  | .lst ds => Φ (.ow (.lst ds.reverse)) ρ
  | _ => False
theorem e_revW {ds : List D} (q : r.d = .lst ds) (h : Φ (.ow (.lst ds.reverse)) ρ) : revW r Φ ρ := by unfold revW; rw [q]; exact h
instance ic_revW : IsC (revW r Φ ρ) := ⟨fun h => h⟩
def dixW (c : List (Str × Str)) (r : R) (Φ : R → En → Prop) (ρ : En) : Prop := match r.d with
  | .str z => (match c.lookup z with
    | some d => Φ (.fr (.str d)) ρ
    | none => False)
  | _ => False
theorem e_dixW {c : List (Str × Str)} {x : Str} (q : r.d = .str z) (q2 : c.lookup z = some x) (h : Φ (.fr (.str x)) ρ) : dixW c r Φ ρ := by unfold dixW; rw [q]; dsimp only; rw [q2]; exact h
instance ic_dixW {c : List (Str × Str)} : IsC (dixW c r Φ ρ) := ⟨fun h => h⟩
end
/-! texts in lists of texts -/
theorem inD_strs (x : Str) : ∀ ws : List Str, inD (.str x) (ws.map D.str) = decide (x ∈ ws)
  | [] => by show false = _; simp
  | w :: ws => by
    have ih := inD_strs x ws
    show (eqD (.str w) (.str x) || inD (.str x) (ws.map D.str)) = _
    rw [ih, eq_strs, Bool.eq_iff_iff, Bool.or_eq_true, decide_eq_true_iff, decide_eq_true_iff, decide_eq_true_iff, List.mem_cons]
    exact ⟨fun h => h.imp Eq.symm fun z => z, fun h => h.imp Eq.symm fun z => z⟩
theorem okE_strs {ws : List Str} (h : ∀ x ∈ ws, PyData.strOk x = true) : okE (.lst (ws.map D.str)) = true := by
  obtain ⟨a, b, _⟩ := okL_strs ws h
  have g : D.good (.lst (ws.map .str)) = true := a
  have dp : D.dep (.lst (ws.map .str)) ≤ 64 := by
    show D.depL (ws.map .str) + 1 ≤ 64
    omega
  unfold okE
  rw [g, decide_eq_true dp]
  rfl
theorem okE_str {x : Str} (h : PyData.strOk x = true) : okE (.str x) = true := by
  unfold okE
  rw [show D.good (.str x) = PyData.strOk x from rfl, h]
  rfl
theorem oIn_T {x : Str} {ws : List Str} {Φ : R → Prop} (hx : PyData.strOk x = true) (hw : ∀ y ∈ ws, PyData.strOk y = true) (h : Φ (.fr (.bl (decide (x ∈ ws))))) : oIn false (.str x) (.tup (ws.map D.str)) Φ := by
  show (okE (.str x) && okE (.lst (ws.map D.str))) = true ∧ Φ (.fr (.bl (inD (.str x) (ws.map D.str))))
  rw [okE_str hx, okE_strs hw, inD_strs]
  exact ⟨rfl, h⟩
theorem oNin_T {x : Str} {ws : List Str} {Φ : R → Prop} (hx : PyData.strOk x = true) (hw : ∀ y ∈ ws, PyData.strOk y = true) (h : Φ (.fr (.bl (!decide (x ∈ ws))))) : oIn true (.str x) (.tup (ws.map D.str)) Φ := by
  show (okE (.str x) && okE (.lst (ws.map D.str))) = true ∧ Φ (.fr (.bl (!inD (.str x) (ws.map D.str))))
  rw [okE_str hx, okE_strs hw, inD_strs]
  exact ⟨rfl, h⟩
theorem oIn_L {x : Str} {ws : List Str} {Φ : R → Prop} (hx : PyData.strOk x = true) (hw : ∀ y ∈ ws, PyData.strOk y = true) (h : Φ (.fr (.bl (decide (x ∈ ws))))) : oIn false (.str x) (.lst (ws.map D.str)) Φ := by
  show (okE (.str x) && okE (.lst (ws.map D.str))) = true ∧ Φ (.fr (.bl (inD (.str x) (ws.map D.str))))
  rw [okE_str hx, okE_strs hw, inD_strs]
  exact ⟨rfl, h⟩
theorem oNin_L {x : Str} {ws : List Str} {Φ : R → Prop} (hx : PyData.strOk x = true) (hw : ∀ y ∈ ws, PyData.strOk y = true) (h : Φ (.fr (.bl (!decide (x ∈ ws))))) : oIn true (.str x) (.lst (ws.map D.str)) Φ := by
  show (okE (.str x) && okE (.lst (ws.map D.str))) = true ∧ Φ (.fr (.bl (!inD (.str x) (ws.map D.str))))
  rw [okE_str hx, okE_strs hw, inD_strs]
  exact ⟨rfl, h⟩
end Tv
namespace Tv
open PySem PySem.Spec PyProof.Rows L2
variable [LamT]
/-! ### sorted over texts, over pairs -/
theorem goodL_of {α : Type} (f : α → D) {n : Nat} : ∀ xs : List α, (∀ x ∈ xs, (f x).good = true ∧ (f x).dep ≤ n) → D.goodL (xs.map f) = true ∧ D.depL (xs.map f) ≤ n
  | [], _ => ⟨rfl, Nat.zero_le _⟩
  | x :: xs, h => by
    obtain ⟨a, b⟩ := goodL_of f xs fun y hy => h y (List.mem_cons_of_mem _ hy)
    obtain ⟨c, d⟩ := h x List.mem_cons_self
    refine ⟨?_, ?_⟩
    · show ((f x).good && D.goodL (xs.map f)) = true
      rw [a, c]; rfl
    · show max (f x).dep (D.depL (xs.map f)) ≤ n
      exact Nat.max_le.mpr ⟨d, b⟩
theorem leS_tr (a b c : Str) (h1 : leS a b = true) (h2 : leS b c = true) : leS a c = true := by
  unfold leS at *
  simp only [decide_eq_true_eq] at *
  exact List.le_trans h1 h2
theorem leS_tot (a b : Str) : (leS a b || leS b a) = true := lexLe_tot _ _
theorem leS_anti {a b : Str} (h1 : leS a b = true) (h2 : leS b a = true) : a = b := by
  unfold leS at *
  simp only [decide_eq_true_eq] at *
  have := List.le_antisymm h1 h2
  cases a; cases b
  simp only [Str.mk.injEq]
  exact Array.toList_inj.mp this
theorem sort_is {L M : List Str} (h1 : M.Pairwise fun a b => leS a b = true) (h2 : M.Perm L) : L.mergeSort leS = M :=
  List.Perm.eq_of_pairwise (fun a b _ _ p q => leS_anti p q) (List.pairwise_mergeSort leS_tr leS_tot L) h1 ((List.mergeSort_perm L leS).trans h2.symm)
/-- a text and a number -/
def pr (r : Str × Int) : D := .tup [.str r.1, .int r.2]
theorem pr_good {r : Str × Int} (h : PyData.strOk r.1 = true) : (pr r).good = true ∧ (pr r).dep ≤ 1 := by
  refine ⟨?_, Nat.le_refl _⟩
  show (PyData.strOk r.1 && (true && true)) = true
  rw [h]; rfl
end Tv
namespace Tv
open PySem
variable [LamT]
theorem dicW_of {K : PySem.W.Frag} {P : Params} {a : Addr} {es : Array DictEntry} {n : Nat} {ks : List Str} (h : K.lookup a = some ⟨.type "dict", none, .dict es n, #[]⟩) (hs : (a == sysModules) = false) (hk : es.toList.map He.keyOf = He.keysIn P ks) : He.dicW K a = some (He.keysIn P ks) := by
  unfold He.dicW
  rw [h]
  have e : (decide (("dict" : String) = "dict") && ((#[] : Array (Option Value)).isEmpty && !(a == sysModules))) = true := by rw [hs]; rfl
  show (match decide (("dict" : String) = "dict") && ((#[] : Array (Option Value)).isEmpty && !(a == sysModules)) with
    | true => some (es.toList.map He.keyOf)
    | false => none) = _
  rw [e, hk]
end Tv
/-! Tv25: isinstance; what is never raised. -/
namespace Tv
open PySem PySem.Spec PyProof.Rows L2
variable [LamT]
def D.ty : D → Option String
  | .non => some "NoneType"
  | .bl _ => some "bool"
  | .int _ => some "int"
  | .str _ => some "str"
  | .tup _ => some "tuple"
  | .lst _ => some "list"
  | .dct _ _ => some "dict"
  | _ => none
def isTy (n t : String) : Bool := n == t || (n == "bool" && t == "int")
def tyNames : List String := ["NoneType", "bool", "int", "str", "tuple", "list", "dict"]
def tyAsk : List String := ["bool", "int", "str", "tuple", "list", "dict"]
theorem ty_in {d : D} {n : String} (h : d.ty = some n) : n ∈ tyNames := by
  cases d <;> cases h <;> decide
theorem kit_ty {K : PySem.W.Frag} {n t : String} (hn : n ∈ tyNames) (ht : t ∈ tyAsk) : PySem.W.kitOne K (.type n) (.type t) = some (isTy n t) := by
  simp only [tyNames, tyAsk, List.mem_cons, List.not_mem_nil, or_false] at hn ht
  rcases hn with rfl | rfl | rfl | rfl | rfl | rfl | rfl <;> rcases ht with rfl | rfl | rfl | rfl | rfl | rfl <;> rfl
section
variable {K : PySem.W.Frag} {G : Gh} {H : Hp} {d : D} {v : V} {n : String}
theorem SqT.ty {a : Addr} {xs : List V} (h : SqT K H a xs) : TyX K H (.ref a) (.type "tuple") := by
  rcases h with (h | ⟨o, h⟩) | ⟨o, its, m, h, c, _⟩
  · exact .base (.tup h)
  · exact .fTuple h
  · exact .kTuple h c
theorem sh_ty (h : Sh K G H d v) (e : d.ty = some n) : TyX K H v (.type n) := by
  rcases h with h | ⟨a, rfl, _, h⟩
  · cases h <;> cases e
    · exact .base .non
    · exact .base (.bl _)
    · exact .base (.int _)
    · exact .base (.str _)
    · rename_i h _ _; exact SqT.ty h
    · rename_i h _; exact .base (.lst h.2)
    · rename_i h _ _; exact .fDict h
  · cases d with
    | lst ds => obtain ⟨xs, h, _⟩ := h; cases e; exact .base (.lst h)
    | dct ks ds => obtain ⟨o, xs, h, _⟩ := h; cases e; exact .fDict h
    | dcu ks ds => cases e
    | _ => exact h.elim
end
section
variable {X : Cx} {G0 : Gh} {H0 : Hp} {wa : WE} {pos p p2 p3 : Pos} {e : Expr} {T : Str} {t : String}
theorem pe_tyName (hg : Gl X T) (hm : X.mg T = none) (hv : bootBuiltins T = some (.type t)) (hn : T ≠ "__name__" := by decide) (hd : (T == ("__debug__" : Str)) = false := by decide) : PE X (.Name T p) (tC (.ty t)) :=
  ⟨fun pins s σ H Q I h => ld_blt I hg hm hv ⟨.ty t, H, I, rfl, h⟩ hn hd⟩
def wIsi (t : String) (wa : WE) : WE := fun ρ Φ => wa ρ fun r ρ' => match r.d.ty with
  | some n => Φ (.fr (.bl (isTy n t))) ρ'
  | none => False
theorem i_isi (hg : Gl X "isinstance") (hm : X.mg "isinstance" = none) (hg2 : Gl X T) (hm2 : X.mg T = none) (hv : bootBuiltins T = some (.type t)) (ht : t ∈ tyAsk) (he : PEI X G0 H0 e wa)
    (hn : T ≠ "__name__" := by decide) (hd : (T == ("__debug__" : Str)) = false := by decide)
    (hs : starEach (e :: [.Name T p2]) X.env = (false, eval e X.env) :: starEach [.Name T p2] X.env := by rfl) (hs2 : starEach (.Name T p2 :: []) X.env = (false, eval (.Name T p2) X.env) :: starEach [] X.env := by rfl)
    (hpl : (backTo pos (starEach [.Name T p2] X.env)).any (·.1) = false := by rfl) : PEI X G0 H0 (.Call (.Name "isinstance" p) [e, .Name T p2] [] pos) (wIsi t wa) := by
  refine pe_imp (pe_callB call_isi hg hm (by decide +kernel) (pa_cons he (pa_cons (pe_tyName hg2 hm2 hv hn hd) pa_nil hs2) hs) (by decide) (by decide) hs hpl) fun σ H Q h => ?_
  obtain ⟨ρ, G, Φ, S, h, c⟩ := h
  refine ⟨ρ, G, _, S, h, fun r ρ' v G' H' q S' P L x => ?_⟩
  split at q
  · rename_i n en
    exact ⟨v, .ty t, .type n, .type t, isTy n t, rfl, .ty t, sh_ty x.sh en, kit_ty (ty_in en) ht, c _ ρ' _ G' H' q S' P L (.bl _)⟩
  · exact q.elim
end
end Tv
namespace Tv
open PySem PySem.Spec PyProof.Rows L2
variable [LamT]
/-! ### dicts -/
def keyD : D → Option Key
  | .int i => some (.inl i)
  | .str x => some (.inr x)
  | _ => none
def lookD : List Key → List D → Key → Option D
  | k :: ks, d :: ds, z => if k = z then some d else lookD ks ds z
  | _, _, _ => none
section
variable {K : PySem.W.Frag} {G : Gh} {H : Hp} {d e : D} {v : V} {ks : List Key} {ds : List D}
theorem Sh.dict (h : Sh K G H (.dct ks ds) v) : ∃ (a : Addr) (o : Obj) (kvs : List (Key × V)), v = .ref a ∧ H a = some (.frz o (.dK kvs)) ∧ kvs.map (·.1) = ks ∧ RepL K G H ds (kvs.map (·.2)) := by
  rcases h with h | ⟨a, rfl, _, o, kvs, h, k, r⟩
  · cases h with
    | dct f h k r => exact ⟨_, _, _, rfl, h, k, r⟩
  · exact ⟨a, o, kvs, rfl, h, k, r⟩
theorem look_val (z : Key) : ∀ {kvs : List (Key × V)} {ds : List D}, RepL K G H ds (kvs.map (·.2)) → (lookD (kvs.map (·.1)) ds z = none ∧ valV kvs z = none) ∨ ∃ d v, lookD (kvs.map (·.1)) ds z = some d ∧ valV kvs z = some v ∧ Rep K G H d v
  | [], _, .nil => .inl ⟨rfl, rfl⟩
  | (k, v) :: kvs, _, .cons (d := d) r t => by
    by_cases e : k = z
    · subst e
      refine .inr ⟨d, v, ?_, valV_pos rfl, r⟩
      show (if k = k then some d else _) = some d
      rw [if_pos rfl]
    · have e1 : valV ((k, v) :: kvs) z = valV kvs z := valV_neg e
      have e2 : ∀ ds, lookD (((k, v) :: kvs).map (·.1)) (d :: ds) z = lookD (kvs.map (·.1)) ds z := fun ds => by
        show (if k = z then some d else _) = _
        rw [if_neg e]
      rw [e1, e2]
      exact look_val z t
theorem key_sh {k : Key} (h : Sh K G H d v) (e : keyD d = some k) : v = kV k := by
  unfold keyD at e
  split at e
  · cases e; rw [h.i]; rfl
  · cases e; rw [h.s]; rfl
  · cases e
theorem DGet.f {H : Hp} {a : Addr} {o : Obj} {kvs : List (Key × V)} {k : Key} (e : H a = some (.frz o (.dK kvs))) : DGet H a (kV k) (valV kvs k) := .inl ⟨kvs, k, .inr ⟨o, e⟩, rfl, rfl⟩
/-- d[k] -/
def oDIx : D → D → (R → Prop) → Prop
  | .dct ks ds, e, Φ => (match (keyD e).bind (lookD ks ds) with
    | some x => Φ (.fr x)
    | none => False)
  | _, _, _ => False
def rDIx : R2 := fun x y H Q => ∃ a v, x = .ref a ∧ DGet H a y (some v) ∧ Q v H
theorem op2_dix : Op2 K oDIx rDIx := fun G H d e v u Φ Q w s1 s2 h k => by
  unfold oDIx at h
  split at h
  · rename_i ks ds e Φ
    split at h
    · rename_i x ex
      obtain ⟨ky, e1, e2⟩ := Option.bind_eq_some_iff.mp ex
      obtain ⟨a, o, kvs, rfl, ha, rfl, r⟩ := s1.dict
      have := key_sh s2 e1
      subst this
      rcases look_val ky r with ⟨z, _⟩ | ⟨d', v', q1, q2, q3⟩
      · rw [z] at e2; cases e2
      · rw [q1] at e2
        cases e2
        refine ⟨a, v', rfl, ?_, k _ _ G H h w (Grow.refl _ _) q3⟩
        rw [← q2]
        exact DGet.f ha
    · exact h.elim
  · exact h.elim
/-- k in d -/
def oDIn (neg : Bool) : D → D → (R → Prop) → Prop
  | e, .dct ks ds, Φ => (match keyD e with
    | some ky => Φ (.fr (.bl (if neg then !(lookD ks ds ky).isSome else (lookD ks ds ky).isSome)))
    | none => False)
  | _, _, _ => False
def rDIn (neg : Bool) : R2 := fun y x H Q => ∃ a o, x = .ref a ∧ DGet H a y o ∧ Q (.bl (if neg then !o.isSome else o.isSome)) H
theorem op2_din {neg : Bool} : Op2 K (oDIn neg) (rDIn neg) := fun G H d e v u Φ Q w s1 s2 h k => by
  unfold oDIn at h
  split at h
  · rename_i e ks ds Φ
    split at h
    · rename_i ky e1
      obtain ⟨a, o, kvs, rfl, ha, rfl, r⟩ := s2.dict
      have := key_sh s1 e1
      subst this
      refine ⟨a, valV kvs ky, rfl, DGet.f ha, ?_⟩
      rcases look_val ky r with ⟨z, y⟩ | ⟨d', v', q1, q2, q3⟩
      · rw [z] at h
        rw [y]
        exact k _ _ G H h w (Grow.refl _ _) (.bl _)
      · rw [q1] at h
        rw [q2]
        exact k _ _ G H h w (Grow.refl _ _) (.bl _)
    · exact h.elim
  · exact h.elim
end
section
variable {X : Cx} {G0 : Gh} {H0 : Hp} {wa wb : WE} {pos : Pos} {o i : Expr}
theorem i_dix2 (hu : X.A.units + 1 < cLine) (ho : PEI X G0 H0 o wa) (hi : PEI X G0 H0 i wb) (hs : NoSl i) : PEI X G0 H0 (.Subscript o i pos) (w2 oDIx wa wb) :=
  pe_imp (pe_dget hu ho hi hs) fun _ _ _ h => tx2 op2_dix h
theorem op_din (hu : X.A.units + 1 < cLine) : OpR X (compareOp .In) (rDIn false) := by
  intro pins s σ H x y v u Q I rx ry h
  obtain ⟨a, o, rfl, g, q⟩ := h
  cases ry
  exact d_in hu I g rx fun s' I' => ⟨.bl _, H, I', rfl, q⟩
end
end Tv
/-! Tv26: dicts: displays, stores, walks, get. -/
namespace Tv
open PySem PySem.Spec PyProof.Rows L2
variable [LamT]
section
variable {K : PySem.W.Frag} {G0 G : Gh} {H0 H : Hp} {ρ : En} {σ : L2.St} {p : Addr} {o u : HO}
/-- an object that is no tuple, that is not frozen, is written -/
theorem FE.wrU (h : H p = some u) (h1 : ∀ xs, u ≠ .tup xs) (h2 : ∀ od w, u = .frz od w → ¬ NDct w) (hf : ¬ G.F p) : FE G H G (upd H p o) :=
  ⟨fun _ z => z, fun _ z n => ⟨z, n⟩, fun b o' z e => (upd_ne (show b ≠ p from fun q => hf (q ▸ z))).trans e, fun b ys e => by rw [upd_ne (fun q => by rw [q, h] at e; cases e; exact h1 _ rfl)]; exact e, fun b o' u' e n => by rw [upd_ne (fun q => by rw [q, h] at e; cases e; exact h2 _ _ rfl n)]; exact e⟩
theorem ndK {kvs : List (Key × V)} : ¬ NDct (.dK kvs) := fun z => z.1 kvs rfl
theorem Obw.nx {a : Addr} {d : D} (h : Obw K G H a d) (φ : Heap → Prop) : H a ≠ some (.ext φ) := by
  cases d with
  | lst ds => obtain ⟨xs, e1, r⟩ := h; rw [e1]; nofun
  | dct ks ds => obtain ⟨o, xs, e1, k, r⟩ := h; rw [e1]; nofun
  | dcu ks ds => obtain ⟨o, xs, e1, y, t, k, r⟩ := h; rw [e1]; nofun
  | _ => exact h.elim
theorem Wd.wrU (w : Wd G H) (hf : ¬ G.F p) (hb : ¬ G.B p) (hx : ∀ φ, H p ≠ some (.ext φ)) : Wd G (upd H p o) := by
  refine ⟨fun b h => ?_, fun b h => ?_, fun z hp => ⟨(w.t z hp).1, (w.t z hp).2.on (fun ps e => (upd_ne (show z.1 ≠ p from fun y => hb (y ▸ (w.t z hp).1))).trans e) fun c o e ⟨φ, q⟩ n hco => ⟨(upd_ne (show c ≠ p from fun y => hx φ (by rw [← y, e, q]))).trans e, n⟩⟩, fun b h => ⟨(w.m b h).1, let ⟨o', e, y⟩ := (w.m b h).2; ⟨o', (upd_ne (show b ≠ p from fun z => hb (z ▸ (w.m b h).1))).trans e, y⟩⟩⟩
  · obtain ⟨u, n⟩ := w.b b h
    exact ⟨u.imp id fun ⟨i, j, k, r, ns, e, l, q⟩ => ⟨i, j, k, r, ns, (upd_ne (show b ≠ p from fun z => hb (z ▸ h))).trans e, ⟨l.1, (upd_ne (show r ≠ p from fun z => hf (z ▸ l.1))).trans l.2⟩, q⟩, n⟩
  · obtain ⟨o', e⟩ := w.f b h
    exact ⟨o', (upd_ne (show b ≠ p from fun z => hf (z ▸ h))).trans e⟩
theorem Sta.wrU (S : Sta K G0 H0 ρ G H σ) (f : FE G H G (upd H p o)) (hf : ¬ G.F p) (hb : ¬ G.B p) (h0 : H0 p = none) (hn : ¬ OwnA ρ σ p) (hx : ∀ φ, H p ≠ some (.ext φ)) : Sta K G0 H0 ρ G (upd H p o) σ := by
  refine ⟨S.wd.wrU hf hb hx, ⟨S.ex.f, S.ex.b, fun b o' z zb => ?_, S.ex.nf, S.ex.nb, S.ex.nm⟩, S.w0, fun j c q => ?_, fun j c q => ?_, S.ds, S.ln, S.bo, S.st.fe f fun b z => ⟨z, fun o' e => (upd_ne (show b ≠ p from fun q => hb (q ▸ (S.wd.m b z).1))).trans e⟩⟩
  · rw [upd_ne (fun q => by rw [q, h0] at z; cases z)]
    exact S.ex.k b o' z zb
  · obtain ⟨v, e1, r⟩ := S.fr j c q
    exact ⟨v, e1, r.fe f⟩
  · obtain ⟨b, e1, ⟨p1, p2, p3⟩, z1⟩ := S.ow j c q
    have hbp : b ≠ p := fun z => hn ⟨j, c, q, z ▸ e1⟩
    exact ⟨b, e1, ⟨p1, p2, p3.fe f fun o' z => by rw [upd_ne hbp]; exact z⟩, z1⟩
/-- one's own object is written anew -/
theorem Sta.writeU {i : Nat} {a : Addr} {d d' : D} (s : Sta K G0 H0 ρ G H σ) (h : ρ[i]? = some (.ow d)) (e : σ[i]? = some (some (.ref a))) (f : FE G H G (upd H a o)) (n : Obw K G (upd H a o) a d') :
    Sta K G0 H0 (ρ.set i (.ow d')) G (upd H a o) σ := by
  obtain ⟨a', e', ⟨o1, o2, o3⟩, h0⟩ := s.ow i d h
  rw [e] at e'; cases e'
  have hi : i < ρ.length := (List.getElem?_eq_some_iff.mp h).1
  refine ⟨s.wd.wrU o1 o2 o3.nx, ⟨s.ex.f, s.ex.b, fun b o' z zb => ?_, s.ex.nf, s.ex.nb, s.ex.nm⟩, s.w0, fun j c q => ?_, fun j c q => ?_, fun j k c c' b q1 q2 q3 q4 => ?_, s.ln.set, fun j c q => ?_, (s.st.fe f fun b z => ⟨z, fun o' e => (upd_ne (show b ≠ a from fun q => o2 (q ▸ (s.wd.m b z).1))).trans e⟩).set⟩
  · rw [upd_ne (fun q => by rw [q, h0] at z; cases z)]
    exact s.ex.k b o' z zb
  · by_cases hj : i = j
    · subst hj
      rw [List.getElem?_set_self hi] at q; cases q
    · rw [List.getElem?_set_ne hj] at q
      obtain ⟨v, e1, r⟩ := s.fr j c q
      exact ⟨v, e1, r.fe f⟩
  · by_cases hj : i = j
    · subst hj
      rw [List.getElem?_set_self hi] at q; cases q
      exact ⟨a, e, ⟨o1, o2, n⟩, h0⟩
    · rw [List.getElem?_set_ne hj] at q
      obtain ⟨b, e1, ⟨p1, p2, p3⟩, z1⟩ := s.ow j c q
      have hba : b ≠ a := fun z => hj (s.ds i j d c a h q e (z ▸ e1))
      exact ⟨b, e1, ⟨p1, p2, p3.fe f fun o' z => by rw [upd_ne hba]; exact z⟩, z1⟩
  · have old : ∀ {m : Nat} {c : D}, (ρ.set i (.ow d'))[m]? = some (.ow c) → ∃ c', ρ[m]? = some (.ow c') := fun {m c} q => by
      by_cases hm : i = m
      · subst hm; exact ⟨d, h⟩
      · rw [List.getElem?_set_ne hm] at q; exact ⟨c, q⟩
    obtain ⟨_, r1⟩ := old q1
    obtain ⟨_, r2⟩ := old q2
    exact s.ds j k _ _ b r1 r2 q3 q4
  · by_cases hj : i = j
    · subst hj
      rw [List.getElem?_set_self hi] at q; cases q
    · rw [List.getElem?_set_ne hj] at q
      exact s.bo j c q
theorem merge_nd : ∀ (kvs acc : List (Key × V)), (acc.map (·.1) ++ kvs.map (·.1)).Nodup → mergeK acc kvs = acc ++ kvs
  | [], acc, _ => by rw [List.append_nil]; rfl
  | (k, v) :: kvs, acc, h => by
    have hk : k ∉ acc.map (·.1) := fun z => by
      rw [List.nodup_append] at h
      exact h.2.2 k z k List.mem_cons_self rfl
    have e : valV acc k = none := by
      cases q : valV acc k with
      | none => rfl
      | some x => exact absurd (valV_in q) hk
    have e2 : mergeK acc ((k, v) :: kvs) = mergeK (putK acc k v) kvs := rfl
    rw [e2, putK_new v e, merge_nd kvs (acc ++ [(k, v)]) (by rw [List.map_append, List.append_assoc]; exact h), List.append_assoc]
    rfl
end
/-! ### {k: .., ..} -/
section
variable {X : Cx} {G0 : Gh} {H0 : Hp} {wa wb : WE} {ws : WA} {pos p q : Pos} {e : Expr}
/-- the pairs of a display: keys that are written, values -/
def PPI (X : Cx) (G0 : Gh) (H0 : Hp) (pos : Pos) (keys : List (Option Expr)) (values : List Expr) (ks : List Key) (ws : WA) : Prop :=
  ∃ trs, PPs X pos keys values trs ∧ ∀ σ H Q, TAX X.K G0 H0 ws σ H (fun vs H' => Q ((ks.zip vs).map fun r => (kV r.1, r.2)) H') → tPairs trs σ H Q
theorem ppi_nil : PPI X G0 H0 pos [] [] [] wNil := ⟨[], pps_nil, fun σ H Q ⟨ρ, G, Φ, S, h, c⟩ => c [] ρ [] G H h S Stp.refl (LeE.refl _) .nil⟩
theorem tax_cons {K : PySem.W.Frag} {σ : L2.St} {H : Hp} {Q : List V → Hp → Prop} (h : TAX K G0 H0 (wCons wa ws) σ H Q) : TX K G0 H0 wa σ H fun x H1 => TAX K G0 H0 ws σ H1 fun xs H2 => Q (x :: xs) H2 := by
  obtain ⟨ρ, G, Φ, S, h, c⟩ := h
  refine ⟨ρ, G, _, S, h, fun r ρ' v G' H' q S' P L x => ⟨ρ', G', _, S', q, fun rs ρ2 vs G2 H2 q2 S2 P2 L2 x2 => ?_⟩⟩
  exact c (r :: rs) ρ2 (v :: vs) G2 H2 q2 S2 (P.trans S'.wd P2 L) (L2.trans L) (.cons (x.stp S'.wd P2 (S.hO L)) (x2.back fun a z => P.nn S'.wd z) fun d e p hp hd z => by
    subst e
    obtain ⟨a, ea, o, _⟩ := x
    obtain ⟨a', ea', hn⟩ := x2.fresh p hp hd
    rw [ea, ea'] at z
    cases z
    obtain ⟨ob, ho⟩ := o.2.2.tracked
    rw [hn] at ho; cases ho)
theorem ppi_cons {k : Key} {kx : Expr} {ks : List Key} {keys : List (Option Expr)} {values : List Expr} (hk : PE X kx (tC (kV k))) (hv : PEI X G0 H0 e wa) (h : PPI X G0 H0 pos keys values ks ws) : PPI X G0 H0 pos (some kx :: keys) (e :: values) (k :: ks) (wCons wa ws) := by
  obtain ⟨trs, h1, h2⟩ := h
  refine ⟨(tC (kV k), TX X.K G0 H0 wa) :: trs, pps_cons hk hv h1, fun σ H Q h => ?_⟩
  have t := tax_cons h
  show TX X.K G0 H0 wa σ H fun y H2 => tPairs trs σ H2 fun ps H3 => Q ((kV k, y) :: ps) H3
  obtain ⟨ρ, G, Φ, S, w, c⟩ := t
  exact ⟨ρ, G, Φ, S, w, fun r ρ' v G' H' q S' P L x => h2 σ H' _ (c r ρ' v G' H' q S' P L x)⟩
def wDct (ks : List Key) (ws : WA) : WE := fun ρ Φ => ws ρ fun rs ρ' => rs.length = ks.length ∧ match frs' rs with
  | some ds => Φ (.ow (.dct ks ds)) ρ'
  | none => False
set_option maxHeartbeats 400000 in
theorem i_dct {keys : List (Option Expr)} {values : List Expr} {ks : List Key} (h : PPI X G0 H0 pos keys values ks ws) (hn : ks.Nodup) (hall : keys.all (·.isSome) = true := by rfl) (hl : keys.length = values.length := by rfl) (h0 : keys ≠ [] := by exact List.cons_ne_nil _ _)
    (h15 : keys.length ≤ 15 := by decide) (hk15 : ks.length ≤ 15 := by decide) : PEI X G0 H0 (.Dict keys values pos) (wDct ks ws) := by
  obtain ⟨trs, h1, h2⟩ := h
  refine ⟨fun pins s σ H Q I h => ?_⟩
  obtain ⟨ρ, G, Φ, S, h, c⟩ := h
  refine thn ((pe_disp h1 hall hl h0 h15).run pins s σ H (fun v H1 => ∃ (l : Addr) (kvs : List (Key × V)), v = .ref l ∧ H1 l = some (.dK kvs) ∧ ∀ od, Q (.ref l) (upd H1 l (.frz od (.dK kvs)))) I ?_) fun u s1 ⟨v, H1, I1, r, l, kvs, ev, hl', q⟩ => ?_
  · intro l hp
    have nb : ¬ G.B l := fun z => by
      obtain ⟨xs, e⟩ := S.wd.btr z
      rw [hp] at e; cases e
    have nf : ¬ G.F l := fun z => by
      obtain ⟨xs, e⟩ := S.wd.f l z
      rw [hp] at e; cases e
    have no : ¬ OwnA ρ σ l := fun z => by
      obtain ⟨o, e⟩ := S.tracked z
      rw [hp] at e; cases e
    have h0' : H0 l = none := S.none0 hp
    have g : Grow G H G (upd H l (.dK [])) := Grow.laid hp
    have S1 := S.grow (S.wd.laid hp) g
    refine h2 σ _ _ ⟨ρ, G, _, S1, h, fun rs ρ' vs G2 H2 q S2 P2 L2 x => ?_⟩
    obtain ⟨lr, q⟩ := q
    split at q
    · rename_i ds eds
      have rr := frs_rep x eds
      have e1 := P2.k _ _ upd_same nb
      have lv : ks.length = vs.length := by rw [← lr]; exact x.length
      have nf2 : ¬ G2.F l := fun z => by
        rcases P2.nf l z with z | z | z
        · exact nf z
        · rw [upd_same] at z; cases z
        · exact no z
      have nb2 : ¬ G2.B l := fun z => by
        rcases P2.nb l z with z | z
        · exact nb z
        · rw [upd_same] at z; cases z
      have no2 : ¬ OwnA ρ' σ l := fun z => no (L2.own z)
      have em : mergeK [] (ks.zip vs) = ks.zip vs := by
        rw [merge_nd (ks.zip vs) [] (by
          rw [List.map_nil, List.nil_append, List.map_fst_zip (by omega)]
          exact hn)]
        rfl
      refine ⟨e1, ks.zip vs, rfl, by rw [List.length_zip]; omega, l, ks.zip vs, rfl, by rw [upd_same, em], fun od => ?_⟩
      rw [upd_upd]
      have f : FE G2 H2 G2 (upd H2 l (.frz od (.dK (ks.zip vs)))) := FE.wrU e1 (fun _ z => by cases z) (fun _ _ z => by cases z) nf2
      have S3 := S2.wrU f nf2 nb2 h0' no2 (by rw [e1]; nofun)
      refine c _ ρ' _ G2 _ q S3 ⟨P2.f, P2.b, fun a o' e nB => ?_, fun a z => ?_, fun a z => ?_, fun a z => ?_⟩ L2 ⟨l, rfl, ⟨nf2, nb2, od, ks.zip vs, upd_same, List.map_fst_zip (by omega), ?_⟩, hp⟩
      · have hne : a ≠ l := fun z => by rw [z, hp] at e; cases e
        rw [upd_ne hne]
        exact P2.k a o' (by rw [upd_ne hne]; exact e) nB
      · rcases P2.nf a z with z | z | z
        · exact .inl z
        · refine .inr (.inl ?_)
          by_cases hne : a = l
          · rw [hne]; exact hp
          · rwa [upd_ne hne] at z
        · exact .inr (.inr z)
      · rcases P2.nb a z with z | z
        · exact .inl z
        · refine .inr ?_
          by_cases hne : a = l
          · rw [hne]; exact hp
          · rwa [upd_ne hne] at z
      · rcases P2.nm a z with z | z
        · exact .inl z
        · refine .inr ?_
          by_cases hne : a = l
          · rw [hne]; exact hp
          · rwa [upd_ne hne] at z
      · rw [List.map_snd_zip (by omega)]
        exact rr.fe f
    · exact q.elim
  · subst ev
    obtain ⟨od, I2⟩ := I1.lock hl' trivial
    exact ⟨.ref l, _, I2, r, q od⟩
end
end Tv
/-! Tv27: d[k] = v, walks over dicts, get. -/
namespace Tv
open PySem PySem.Spec PyProof.Rows L2
variable [LamT]
def repD : List Key → List D → Key → D → List D
  | k :: ks, x :: ds, z, d => (if k = z then d else x) :: repD ks ds z d
  | _, ds, _, _ => ds
def inK (ks : List Key) (k : Key) : Bool := ks.any fun z => decide (z = k)
def putKs (ks : List Key) (k : Key) : List Key := if inK ks k = true then ks else ks ++ [k]
def putDs (ks : List Key) (ds : List D) (k : Key) (d : D) : List D := if inK ks k = true then repD ks ds k d else ds ++ [d]
section
variable {K : PySem.W.Frag} {G : Gh} {H : Hp}
theorem rep_map {d : D} {v : V} (k : Key) (r : Rep K G H d v) : ∀ {kvs : List (Key × V)} {ds : List D}, RepL K G H ds (kvs.map (·.2)) → RepL K G H (repD (kvs.map (·.1)) ds k d) ((kvs.map fun kv => if kv.1 = k then (kv.1, v) else kv).map (·.2))
  | [], _, .nil => .nil
  | (k', v') :: kvs, _, .cons (d := d') (ds := ds') q t => by
    have ih := rep_map k r t
    by_cases e : k' = k
    · have e1 : repD (((k', v') :: kvs).map (·.1)) (d' :: ds') k d = d :: repD (kvs.map (·.1)) ds' k d := by
        show (if k' = k then d else d') :: _ = _
        rw [if_pos e]
      rw [e1]
      have e2 : (((k', v') :: kvs).map fun kv => if kv.1 = k then (kv.1, v) else kv).map (·.2) = v :: (kvs.map fun kv => if kv.1 = k then (kv.1, v) else kv).map (·.2) := by
        simp [e]
      rw [e2]
      exact .cons r ih
    · have e1 : repD (((k', v') :: kvs).map (·.1)) (d' :: ds') k d = d' :: repD (kvs.map (·.1)) ds' k d := by
        show (if k' = k then d else d') :: _ = _
        rw [if_neg e]
      rw [e1]
      have e2 : (((k', v') :: kvs).map fun kv => if kv.1 = k then (kv.1, v) else kv).map (·.2) = v' :: (kvs.map fun kv => if kv.1 = k then (kv.1, v) else kv).map (·.2) := by
        simp [e]
      rw [e2]
      exact .cons q ih
theorem put_rep {d : D} {v : V} {kvs : List (Key × V)} {ds : List D} (k : Key) (r : Rep K G H d v) (t : RepL K G H ds (kvs.map (·.2))) : (putK kvs k v).map (·.1) = putKs (kvs.map (·.1)) k ∧ RepL K G H (putDs (kvs.map (·.1)) ds k d) ((putK kvs k v).map (·.2)) := by
  have ea : inK (kvs.map (·.1)) k = kvs.any fun kv => decide (kv.1 = k) := by
    unfold inK
    rw [List.any_map]
    rfl
  unfold putK putKs putDs
  rw [ea]
  by_cases a : (kvs.any fun kv => decide (kv.1 = k)) = true
  · rw [if_pos a, if_pos a, if_pos a]
    refine ⟨?_, rep_map k r t⟩
    rw [List.map_map]
    refine List.map_congr_left fun p _ => ?_
    show (if p.1 = k then (p.1, v) else p).1 = p.1
    split <;> rfl
  · rw [if_neg a, if_neg a, if_neg a]
    rw [List.map_append, List.map_append]
    exact ⟨rfl, t.append (.cons r .nil)⟩
end
section
variable {X : Cx} {G0 : Gh} {H0 : Hp} {wv wk : WE} {pos p pos' : Pos} {e i : Expr} {x : Str} {j : Nat}
def dsetW (j : Nat) (rv rk : R) (ρ : En) (S : SK) : Prop := match rv, ρ[j]?, keyD rk.d with
  | .fr d, some (.ow (.dct ks ds)), some k => ks.length < 16000000 ∧ S.nx (ρ.set j (.ow (.dct (putKs ks k) (putDs ks ds k d))))
  | _, _, _ => False
theorem dsetW_inv {rv rk : R} {ρ : En} {S : SK} (h : dsetW j rv rk ρ S) : ∃ d ks ds k, rv = .fr d ∧ ρ[j]? = some (.ow (.dct ks ds)) ∧ keyD rk.d = some k ∧ ks.length < 16000000 ∧ S.nx (ρ.set j (.ow (.dct (putKs ks k) (putDs ks ds k d)))) := by
  unfold dsetW at h
  split at h
  · next e1 e2 => exact ⟨_, _, _, _, rfl, e1, e2, h.1, h.2⟩
  · exact h.elim
def sDSet (j : Nat) (wv wk : WE) : WS := fun ρ S => wv ρ fun rv ρ1 => (∃ d0, ρ1[j]? = some (.ow d0)) ∧ wk ρ1 fun rk ρ2 => dsetW j rv rk ρ2 S
set_option maxHeartbeats 400000 in
theorem s_dset (hu : X.A.units + 1 < cLine) (hX : X.H_0 = H0) (hv : PEI X G0 H0 e wv) (hi : PEI X G0 H0 i wk) (hN : X.N[j]? = some x := by rfl) (hvis : Vis X.env.scope x := by first | exact Or.inl rfl | exact Or.inr (Or.inl rfl) | exact Or.inr (Or.inr rfl))
    (hd : (x == ("__debug__" : Str)) = false := by decide) (hcd : (x == ("__classdict__" : Str)) = false := by decide) (hs : swapsWith e (some (.Subscript (.Name x p) i pos')) pos.line X.env = pure false := by rfl) :
    PSI X G0 H0 (.Assign [.Subscript (.Name x p) i pos'] e pos) (sDSet j wv wk) := by
  refine ⟨fun pins s σ H D I h => ?_⟩
  obtain ⟨ρ, G, S, s0, h, k⟩ := h
  have h1 : TX X.K G0 H0 wv σ H fun v H1 => ∃ rv ρ1 G1, Sta X.K G0 H0 ρ1 G1 H1 σ ∧ RepR X.K G1 H1 H rv v ∧ FE G H G1 H1 ∧ (∃ d0, ρ1[j]? = some (.ow d0)) ∧ wk ρ1 fun rk ρ2 => dsetW j rv rk ρ2 S :=
    ⟨ρ, G, _, s0, h, fun r ρ' v G' H' q S' P L y => ⟨r, ρ', G', S', y, P.fe s0.wd, q⟩⟩
  refine wpAny_Assign_Subscript (thn (hv.run pins s σ H _ I h1) fun r s1 ⟨v, H1, I1, rv, q1⟩ => ?_) hs
  obtain ⟨rv', ρ1, G1, S1, y1, F1, ⟨d0, e0⟩, q1⟩ := q1
  obtain ⟨a, ea, o1, z1⟩ := S1.ow j d0 e0
  have h2 : TX X.K G0 H0 wk σ H1 fun y H3 => ∃ rk ρ2 G3, Sta X.K G0 H0 ρ2 G3 H3 σ ∧ RepR X.K G3 H3 H1 rk y ∧ FE G1 H1 G3 H3 ∧ dsetW j rv' rk ρ2 S :=
    ⟨ρ1, G1, _, S1, q1, fun r ρ' v G' H' q S' P L y => ⟨r, ρ', G', S', y, P.fe S1.wd, q⟩⟩
  refine thn ((pe_var (pos := p) hN hvis hd hcd).run pins s1 σ H1 (fun x H2 => x = .ref a ∧ H2 = H1) I1 ⟨.ref a, ea, rfl, rfl⟩) fun u s2 ⟨x, H2, I2, rx, ex, eH⟩ => ?_
  subst ex
  subst eH
  obtain rfl : u = Value.ref a := rx
  refine thn (hi.run pins s2 σ H2 _ I2 h2) fun iv s3 ⟨y, H3, I3, ry, rk, ρ2, G3, S3, y3, F3, q3⟩ => ?_
  obtain ⟨d, ks, ds, ky, ev, e1, e2, hl, q3⟩ := dsetW_inv q3
  subst ev
  have rd : Rep X.K G3 H3 d v := Rep.fe F3 y1
  obtain ⟨a', ea', ⟨n1, n2, od0, kvs, ha, hk, rl⟩, z3⟩ := S3.ow j _ e1
  rw [ea] at ea'
  cases ea'
  subst hk
  have := key_sh y3.sh e2
  subst this
  have I4 := I3.unlock ha (fun o' u' z => by rw [hX, z3] at z; cases z)
  refine d_setItem hu I4 (DPut.k upd_same (by rw [sizeLine_eq]; rw [List.length_map] at hl; omega)) ry rv fun s4 I5 => ?_
  rw [upd_upd] at I5
  obtain ⟨od, I6⟩ := I5.lock upd_same trivial
  rw [upd_upd] at I6
  refine ⟨σ, _, I6, ?_⟩
  have f : FE G3 H3 G3 (upd H3 a (.frz od (.dK (putK kvs ky v)))) := FE.wrU ha (fun _ z => by cases z) (fun od w z n => by cases z; exact ndK n) n1
  obtain ⟨p1, p2⟩ := put_rep ky (rd.fe f) (rl.fe f)
  exact k.nx _ G3 _ σ q3 (S3.writeU e1 ea f ⟨od, putK kvs ky v, upd_same, p1, p2⟩) ((F1.trans F3).trans f)
end
end Tv
/-! Tv28: zip of a text and a tuple; pop of one's own list; walks over dicts. -/
namespace Tv
open PySem PySem.Spec PyProof.Rows L2
variable [LamT]
section
variable {X : Cx} {G0 : Gh} {H0 : Hp} {e e2 tg : Expr} {wa : WE} {ws : WA} {pos p tpos : Pos} {K : PySem.W.Frag} {G : Gh} {H : Hp} {elts : List Expr} {kk : Nat}
end
/-! ### pop -/
section
variable {X : Cx} {G0 : Gh} {H0 : Hp} {wa wb : WE} {a b : Expr} {x y z : Str} {i j l : Nat} {K : PySem.W.Frag}
def popF (ds : List D) (Φ : D → List D → Prop) : Prop := ∃ d, ds = ds.dropLast ++ [d] ∧ Φ d ds.dropLast
/-- z.append((a, b, x.pop())) -/
def sAppPop (l i : Nat) (wa wb : WE) : WS := fun ρ S => (∃ es0, ρ[l]? = some (.ow (.lst es0))) ∧ wa ρ fun r1 ρ1 => wb ρ1 fun r2 ρ2 => match r1, r2, ρ2[l]?, ρ2[i]? with
  | .fr d1, .fr d2, some (.ow (.lst es)), some (.ow (.lst ds)) => popF ds fun d ds' => l ≠ i ∧ es.length < sizeLine ∧ S.nx ((ρ2.set i (.ow (.lst ds'))).set l (.ow (.lst (es ++ [.tup [d1, d2, d]]))))
  | _, _, _, _ => False
end
end Tv
/-! Tv29: steps for displays, items, pops, zips of texts. -/
namespace Tv
open PySem PySem.Spec PyProof.Rows L2
variable [LamT]
section
variable {ρ : En} {S : SK} {ws : WA} {wa wb : WE} {Φ : R → En → Prop} {Φi : List D → En → Prop} {rs : List R} {ds es : List D} {ks : List Key} {i j l : Nat} {d e x : D} {k : Key} {Φr : R → Prop}
def dctW (ks : List Key) (rs : List R) (Φ : R → En → Prop) (ρ : En) : Prop := rs.length = ks.length ∧ match frs' rs with
  | some ds => Φ (.ow (.dct ks ds)) ρ
  | none => False
theorem e_dct (h : ws ρ fun rs ρ' => dctW ks rs Φ ρ') : wDct ks ws ρ Φ := h
instance st_dct : Step (wDct ks ws ρ Φ) (ws ρ fun rs ρ' => dctW ks rs Φ ρ') := ⟨fun h => e_dct h⟩
theorem e_dctW (l : rs.length = ks.length) (q : frs' rs = some ds) (h : Φ (.ow (.dct ks ds)) ρ) : dctW ks rs Φ ρ := by unfold dctW; rw [q]; exact ⟨l, h⟩
instance ic_dctW : IsC (dctW ks rs Φ ρ) := ⟨fun h => h⟩
theorem e_dix2 (q : keyD e = some k) (q2 : lookD ks ds k = some x) (h : Φr (.fr x)) : oDIx (.dct ks ds) e Φr := by
  show (match (keyD e).bind (lookD ks ds) with | some x => Φr (.fr x) | none => False)
  rw [q]
  show (match lookD ks ds k with | some x => Φr (.fr x) | none => False)
  rw [q2]
  exact h
instance ic_dix2 : IsC (oDIx (.dct ks ds) e Φr) := ⟨fun h => h⟩
def appPopW (l i : Nat) (r1 r2 : R) (ρ : En) (S : SK) : Prop := match r1, r2, ρ[l]?, ρ[i]? with
  | .fr d1, .fr d2, some (.ow (.lst es)), some (.ow (.lst ds)) => popF ds fun d ds' => l ≠ i ∧ es.length < sizeLine ∧ S.nx ((ρ.set i (.ow (.lst ds'))).set l (.ow (.lst (es ++ [.tup [d1, d2, d]]))))
  | _, _, _, _ => False
theorem e_appPop (q : ρ[l]? = some (.ow (.lst es))) (h : wa ρ fun r1 ρ1 => wb ρ1 fun r2 ρ2 => appPopW l i r1 r2 ρ2 S) : sAppPop l i wa wb ρ S := ⟨⟨_, q⟩, h⟩
instance ic_appPop : IsC (sAppPop l i wa wb ρ S) := ⟨fun h => h⟩
def isiW (t : String) (r : R) (Φ : R → En → Prop) (ρ : En) : Prop := match r.d.ty with
  | some n => Φ (.fr (.bl (isTy n t))) ρ
  | none => False
theorem e_isi {t : String} (h : wa ρ fun r ρ' => isiW t r Φ ρ') : wIsi t wa ρ Φ := h
instance st_isi {t : String} : Step (wIsi t wa ρ Φ) (wa ρ fun r ρ' => isiW t r Φ ρ') := ⟨fun h => e_isi h⟩
theorem e_isiW {t n : String} {r : R} (q : r.d.ty = some n) (h : Φ (.fr (.bl (isTy n t))) ρ) : isiW t r Φ ρ := by unfold isiW; rw [q]; exact h
theorem e_dset {wv wk : WE} (h : wv ρ fun rv ρ1 => (∃ d0, ρ1[j]? = some (.ow d0)) ∧ wk ρ1 fun rk ρ2 => dsetW j rv rk ρ2 S) : sDSet j wv wk ρ S := h
instance st_dset {wv wk : WE} : Step (sDSet j wv wk ρ S) (wv ρ fun rv ρ1 => (∃ d0, ρ1[j]? = some (.ow d0)) ∧ wk ρ1 fun rk ρ2 => dsetW j rv rk ρ2 S) := ⟨fun h => e_dset h⟩
theorem e_dsetW {rk : R} (q : ρ[j]? = some (.ow (.dct ks ds))) (q2 : keyD rk.d = some k) (l : ks.length < 16000000) (h : S.nx (ρ.set j (.ow (.dct (putKs ks k) (putDs ks ds k d))))) : dsetW j (.fr d) rk ρ S := by
  unfold dsetW
  rw [q, q2]
  exact ⟨l, h⟩
end
end Tv
/-! Tv30: for over one's own list, which is held while it is walked; loops over ranges. -/
namespace Tv
open PySem PySem.Spec PyProof.Rows L2
variable [LamT]
section
variable {X : Cx} {G0 : Gh} {H0 : Hp} {e tg : Expr} {es : List Expr} {pos : Pos} {K : PySem.W.Frag} {σ : L2.St} {G : Gh} {H : Hp} {ρ : En}
/-- what has come back from a walk over one's own list -/
def backB (i : Nat) (ds : List D) : Nat → En → En → En
  | k, c0 :: ρ0, c :: ρ => (match c with
    | .bo _ => if k = i then .ow (.lst ds) else (match c0 with | .bo d => .bo d | _ => .no)
    | .no => .no
    | .fr d => .fr d
    | .ow d => .ow d
    | .st a d => .st a d) :: backB i ds (k + 1) ρ0 ρ
  | _, _, [] => []
  | k, [], c :: ρ => (match c with | .st a d => .st a d | _ => .no) :: backB i ds k [] ρ
def sForB (i : Nat) (W : WTg) (body : WS) : WS := fun ρ S => match ρ[i]? with
  | some (.ow (.lst ds)) => forD W body ⟨fun ρ' => S.nx (backB i ds 0 ρ ρ'), S.rt, S.bk, S.ct⟩ ds (ρ.set i (.bo (.lst ds)))
  | some (.fr (.lst ds)) => forD W body S ds ρ
  | _ => False
variable {body : List Stmt} {wb : WS} {vs : List Nat} {W : WTg}
theorem e_forB {i : Nat} {ds : List D} {S : SK} (q : ρ[i]? = some (.ow (.lst ds))) (h : forD W wb ⟨fun ρ' => S.nx (backB i ds 0 ρ ρ'), S.rt, S.bk, S.ct⟩ ds (ρ.set i (.bo (.lst ds)))) : sForB i W wb ρ S := by unfold sForB; rw [q]; exact h
instance ic_forB {i : Nat} {S : SK} : IsC (sForB i W wb ρ S) := ⟨fun h => h⟩
theorem e_forBf {i : Nat} {ds : List D} {S : SK} (q : ρ[i]? = some (.fr (.lst ds))) (h : forD W wb S ds ρ) : sForB i W wb ρ S := by unfold sForB; rw [q]; exact h
instance ic_forBf {i : Nat} {S : SK} : IsC (sForB i W wb ρ S) := ⟨fun h => h⟩
/-! ### loops, told by what is left -/
end
end Tv
/-! Tv31: more for draws. -/
namespace Tv
open PySem PySem.Spec PyProof.Rows L2
theorem emod_nn (a : Int) {b : Int} (h : 0 < b) : 0 ≤ a % b := Int.emod_nonneg _ (by omega)
theorem emod_lt (a : Int) {b : Int} (h : 0 < b) : a % b < b := Int.emod_lt_of_pos _ h
theorem cutD_from (ds : List D) (a : Nat) : cutD ds (some (a : Int)) none = ds.drop a := by
  unfold cutD
  rw [HT.sIx_none, HT.sIx_nat]
  by_cases h : a ≤ ds.length
  · rw [Nat.min_eq_left h, List.take_of_length_le (by rw [List.length_drop]; omega)]
  · rw [Nat.min_eq_right (by omega), List.drop_length, List.drop_of_length_le (by omega)]
    simp
def unS : D → Str
  | .str x => x
  | _ => ""
theorem perm_strs {es : List D} {xs : List Str} (h : es.Perm (xs.map .str)) : ∃ ys : List Str, ys.Perm xs ∧ es = ys.map .str := by
  refine ⟨es.map unS, ?_, ?_⟩
  · have q := h.map unS
    rw [List.map_map] at q
    have e : xs.map (unS ∘ D.str) = xs := by rw [show (unS ∘ D.str) = id from rfl, List.map_id]
    rwa [e] at q
  · rw [List.map_map]
    refine (List.map_id es).symm.trans (List.map_congr_left fun d hd => ?_)
    obtain ⟨x, _, rfl⟩ := List.mem_map.mp (h.mem_iff.mp hd)
    rfl
/-! ### steps at the bag -/
section
variable {ρ : En} {Φr : R → Prop} {S : SK} {wa : WE} {i j : Nat} {c n : Int}
theorem e_bag0 (h : ∀ n, 0 ≤ n → Φr (.fr (.int n))) : oBag .bag (.int 0) Φr := h
instance ic_bag0 : IsC (oBag .bag (.int 0) Φr) := ⟨fun h => h⟩
theorem e_bag1 (h : ∀ n, 0 ≤ n → n < 2147483647 → Φr (.fr (.int n))) : oBag .bag (.int 1) Φr := h
instance ic_bag1 : IsC (oBag .bag (.int 1) Φr) := ⟨fun h => h⟩
theorem e_bag2 (h : ∀ n, 0 ≤ n → Φr (.fr (.int n))) : oBag .bag (.int 2) Φr := h
instance ic_bag2 : IsC (oBag .bag (.int 2) Φr) := ⟨fun h => h⟩
def bagSetW (i : Nat) (c : Int) (r : R) (ρ : En) (S : SK) : Prop := match ρ[i]?, r with
  | some (.fr .bag), .fr (.int n) => bagOk c n ∧ S.nx ρ
  | _, _ => False
theorem e_bagSet (h : wa ρ fun r ρ' => bagSetW i c r ρ' S) : sBagSet i c wa ρ S := h
instance st_bagSet : Step (sBagSet i c wa ρ S) (wa ρ fun r ρ' => bagSetW i c r ρ' S) := ⟨fun h => e_bagSet h⟩
theorem e_bagSet0 (q : ρ[i]? = some (.fr .bag)) (l : 0 ≤ n) (h : S.nx ρ) : bagSetW i 0 (.fr (.int n)) ρ S := by unfold bagSetW; rw [q]; exact ⟨l, h⟩
instance ic_bagSet0 : IsC (bagSetW i 0 (.fr (.int n)) ρ S) := ⟨fun h => h⟩
theorem e_bagSet1 (q : ρ[i]? = some (.fr .bag)) (l : 0 ≤ n ∧ n < 2147483647) (h : S.nx ρ) : bagSetW i 1 (.fr (.int n)) ρ S := by unfold bagSetW; rw [q]; exact ⟨l, h⟩
instance ic_bagSet1 : IsC (bagSetW i 1 (.fr (.int n)) ρ S) := ⟨fun h => h⟩
theorem e_bagAug (q : ρ[i]? = some (.fr .bag)) (h : S.nx ρ) : sBagAug i 2 1 ρ S := ⟨rfl, by decide, by rw [q]; rfl, fun d e => by rw [q] at e; exact (Option.some.inj e).symm, h⟩
instance ic_bagAug : IsC (sBagAug i 2 1 ρ S) := ⟨fun h => h⟩
theorem e_modP {m : Int} (l : 0 < n) (h : Φr (.fr (.int (m % n)))) : oMod (.int m) (.int n) Φr := ⟨l, h⟩
instance ic_modP {m : Int} : IsC (oMod (.int m) (.int n) Φr) := ⟨fun h => h⟩
end
end Tv
/-! Tv32: classes with one slot: their making, attributes, methods. -/
namespace Tv
open PySem PySem.Spec PyProof.Rows L2
variable [LamT]
/-- what the text tells of a class c with the slot f -/
structure Cl1 (K : PySem.W.Frag) (c : Str) (C : Addr) (f : Str) (p : Addr) : Prop where
  nm : PySem.W.nsIn K mainGlobals c = some (some (.ref C))
  sc : SlX.SCls K C
  s1 : SlX.Slot1 K C f p 0
section
variable {X : Cx} {G0 : Gh} {H0 : Hp} {e : Expr} {es : List Expr} {wa : WE} {ws : WA} {pos apos p q : Pos} {c f m : Str} {C pa g : Addr} {wf : WF} {k : Nat} {K : PySem.W.Frag} {σ : L2.St} {H : Hp}
/-! ### e.f -/
def attW (c f : Str) (d : D) (Φ : R → En → Prop) (ρ : En) : Prop := match d with
  | .ins c' [f'] [d'] => c' = c ∧ f' = f ∧ Φ (.fr d') ρ
  | _ => False
theorem attW_inv {d : D} {Φ : R → En → Prop} {ρ : En} (h : attW c f d Φ ρ) : ∃ d', d = .ins c [f] [d'] ∧ Φ (.fr d') ρ := by
  unfold attW at h
  split at h
  · obtain ⟨rfl, rfl, h⟩ := h; exact ⟨_, rfl, h⟩
  · exact h.elim
def wAt (c f : Str) (wa : WE) : WE := fun ρ Φ => wa ρ fun r ρ' => attW c f r.d Φ ρ'
theorem Sh.slot {G : Gh} {d : D} {v : V} (h : Sh K G H (.ins c [f] [d]) v) (nm : PySem.W.nsIn K mainGlobals c = some (some (.ref C))) : ∃ a dx v', v = .ref a ∧ SlX.Slt H a C dx [some v'] ∧ Rep K G H d v' := by
  rcases h with h | ⟨_, _, _, h⟩
  · cases h with
    | ins h1 h2 h3 h4 h5 h6 h7 =>
      rw [nm] at h5
      cases h5
      cases h7 with
      | cons r t => cases t; exact ⟨_, _, _, rfl, .inr ⟨h3, h4⟩, r⟩
  · exact h.elim
theorem i_at (cl : Cl1 X.K c C f pa) (h : PEI X G0 H0 e wa) (hb : attributeBase e f X.env (eval e X.env) = eval e X.env := by rfl) : PEI X G0 H0 (.Attribute e f pos) (wAt c f wa) := by
  refine pe_imp (SlX.pe_sl h hb) fun σ H Q h => ?_
  obtain ⟨ρ, G, Φ, S, h, k⟩ := h
  refine ⟨ρ, G, _, S, h, fun r ρ' v G' H' q S' P L x => ?_⟩
  obtain ⟨d, ed, q⟩ := attW_inv q
  have x' := x.sh
  rw [ed] at x'
  obtain ⟨a, dx, v', rfl, sl, rd⟩ := x'.slot cl.nm
  exact ⟨a, C, dx, pa, _, 0, v', rfl, sl, cl.sc, cl.s1, rfl, k _ ρ' v' G' H' q S' P L rd⟩
/-! ### o.m(..) -/
def methW (c : Str) (wf : WF) (ws : WA) (r : R) (Φ : R → En → Prop) (ρ : En) : Prop := match r with
  | .fr (.ins c' ns ds) => c' = c ∧ ws ρ fun rs ρ2 => match frs' rs with
    | some es => wf (.ins c' ns ds :: es) fun r' => Φ r' ρ2
    | none => False
  | _ => False
def wMeth (c : Str) (wf : WF) (wa : WE) (ws : WA) : WE := fun ρ Φ => wa ρ fun r ρ1 => methW c wf ws r Φ ρ1
theorem Rep.inst {G : Gh} {ns : List Str} {ds : List D} {v : V} (h : Rep K G H (.ins c ns ds) v) (nm : PySem.W.nsIn K mainGlobals c = some (some (.ref C))) : ∃ a dx vs, v = .ref a ∧ SlX.Slt H a C dx vs := by
  cases h with
  | ins h1 h2 h3 h4 h5 h6 h7 =>
    rw [nm] at h5
    cases h5
    exact ⟨_, _, _, rfl, .inr ⟨h3, h4⟩⟩
theorem i_methI {pl : Sem Bool} {a : Expr} {as : List Expr} (cl : Cl1 X.K c C f pa) (hm : Meth X.K C m g) (F : FnG X.prog X.w X.K X.mg X.base k g wf) (hr : Room k X.A) (hg : X.A.guards = some []) (he : PEI X G0 H0 e wa) (ha : PAI X G0 H0 (a :: as) ws)
    (hst : starEach (a :: as) X.env = (false, eval a X.env) :: starEach as X.env := by rfl) (hpl : (backTo pos (starEach as X.env)).any (·.1) = false := by rfl)
    (ht : eval (.Call (.Attribute e m apos) (a :: as) [] pos) X.env = (do
      let ov ← eval e X.env
      standAt apos.atName
      let (f, first) ← holding [ov] (getMethod ov m pl)
      callWith pos f first (backTo pos (starEach (a :: as) X.env)) (backToKw pos (keywordEach [] X.env))) := by rfl) :
    PEI X G0 H0 (.Call (.Attribute e m apos) (a :: as) [] pos) (wMeth c wf wa ws) := by
  refine ⟨fun pins s σ H Q I h => ?_⟩
  obtain ⟨ρ, G, Φ, S, h, kk⟩ := h
  have h1 : TX X.K G0 H0 wa σ H fun x H1 => ∃ y dx vs, x = .ref y ∧ SlX.Slt H1 y C dx vs ∧ TAX X.K G0 H0 ws σ H1 fun vs H2 => spG X.K wf (x :: vs) H2 Q := by
    refine ⟨ρ, G, _, S, h, fun r ρ' v G' H' q S' P L x => ?_⟩
    unfold methW at q
    split at q
    · rename_i c' ns ds
      obtain ⟨rfl, q⟩ := q
      obtain ⟨y, dx, vs, rfl, sl⟩ := Rep.inst x cl.nm
      refine ⟨y, dx, vs, rfl, sl, ρ', G', _, S', q, fun rs ρ2 us G2 H2 q2 S2 P2 L2 x2 => ?_⟩
      split at q2
      · rename_i es ee
        have PP := P.trans S'.wd P2 L
        refine ⟨G2, _, _, S2.wd, .cons (Rep.fe (P2.fe S'.wd) x) (frs_rep x2 ee), q2, fun r' v' G3 H3 φ w3 g3 x3 => ?_⟩
        exact kk r' ρ2 v' G3 H3 φ (S2.grow w3 g3) (PP.trans S2.wd g3.stp (L2.trans L)) (L2.trans L) (x3.back fun a z => PP.nn S2.wd z)
      · exact q2.elim
    · exact q.elim
  refine PySem.W.methodCall_KW (pl := pl) (thn (he.run pins s σ H _ I h1) fun u s1 ⟨x, H1, I1, rx, y, dx, vs, ex, hsl, q⟩ => ?_) ht
  subst ex
  obtain rfl : u = Value.ref y := rx
  refine SlX.getmethsl_ok I1 hsl cl.sc hm ?_
  refine PySem.W.callWith_K (first := [.ref y]) (h₀ := X.base) I.ok.mod.kin hm.kp (thn (ha.run pos pins s1 σ H1 _ I1 q) fun us s2 ⟨ws, H2, I2, r, q2⟩ => ⟨I2.kIn, ?_⟩) hst hpl
  exact run_fnG (us := .ref y :: us) (vs := .ref y :: ws) F hr hg I2 (.cons rfl r) q2
end
/-! ### the making -/
abbrev WFI := List D → (D → Prop) → Prop
abbrev WIB := En → (D → Prop) → Prop
def spI (K : PySem.W.Frag) (C : Addr) (w : WFI) (vs : List V) (H : Hp) (Q : VK) : Prop :=
  ∃ (a dx : Addr) (H' : Hp) (ts : List V) (G : Gh) (ds : List D) (Φ : D → Prop), vs = .ref a :: ts ∧ H' a = none ∧ H' dx = none ∧ dx ≠ a ∧ H = upd (upd H' dx (.own a)) a (.ins C dx []) ∧ Wd G H' ∧ RepL K G H' ds ts ∧ w ds Φ ∧
    ∀ d v G' H2, Φ d → Wd G' H2 → Grow G H G' H2 → Rep K G' H2 d v → Q .non (SlX.slH H2 a C dx [some v])
def FnI (P : Program) (w : World) (K : PySem.W.Frag) (mg : Str → Option Value) (base : Heap) (k : Nat) (C f : Addr) (wf : WFI) : Prop :=
  ∀ (A : Around) (outer : List Env) (s : Shared) (H : Hp) (us : List Value) (vs : List V) (Q : VK), Room k A → A.guards = some [] → Env0 P w K mg base A outer s H → Vals vs us → spI K C wf vs H Q →
    codeAny (model P w) A (.call (.ref f) ⟨us, []⟩) (CR CX0 outer P w H s Q E0) s
def TSI (K : PySem.W.Frag) (G0 : Gh) (H0 : Hp) (C a dx : Addr) (W : WIB) : TS := fun D σ H => ∃ ρ G Φ, Sta K G0 H0 ρ G H σ ∧ W ρ Φ ∧ H0 a = some (.ins C dx []) ∧ ¬ G0.B a ∧ (∀ v, G0.A 0 v → v = .ref a) ∧
  ∀ d v G' H' σ', Φ d → Wd G' H' → GrW G0 H0 G' H' → Rep K G' H' d v → D.nx σ' (SlX.slH H' a C dx [some v])
def wDefI (n m : Nat) (b : WIB) : WFI := fun ds Φ => ds.length = n ∧ b (.bo .unk :: (ds.map Cell.fr ++ List.replicate m .no)) Φ
section
variable {X : Cx} {G0 : Gh} {H0 : Hp} {e : Expr} {st : Stmt} {ss : List Stmt} {wa : WE} {u : WS} {W : WIB} {pos p pos' : Pos} {c f x : Str} {C a dx pa : Addr}
def sSelf (wa : WE) : WIB := fun ρ Φ => wa ρ fun r ρ' => ρ'[0]? = some (.bo .unk) ∧ match r with
  | .fr d => Φ d
  | _ => False
theorem b_self (cl : Cl1 X.K c C f pa) (he : PEI X G0 H0 e wa) (hN : X.N[0]? = some x := by rfl) (hv : Vis X.env.scope x := by first | exact Or.inl rfl | exact Or.inr (Or.inl rfl) | exact Or.inr (Or.inr rfl)) (hd : (x == ("__debug__" : Str)) = false := by decide)
    (hcd : (x == ("__classdict__" : Str)) = false := by decide) (hs : swapsWith e (some (.Attribute (.Name x p) f pos')) pos.line X.env = pure false := by rfl) :
    PSs X [.Assign [.Attribute (.Name x p) f pos'] e pos] (TSI X.K G0 H0 C a dx (sSelf wa)) := by
  refine pss_imp (pss_one (SlX.ps_sl (pe_var hN hv hd hcd) he hs)) fun D σ H h => ?_
  obtain ⟨ρ, G, Φ, S, h, ha, nb, an, fin⟩ := h
  refine ⟨ρ, G, _, S, h, fun r ρ' v G' H' q S' P L y => ?_⟩
  obtain ⟨q0, q⟩ := q
  obtain ⟨v0, e0, _, a0⟩ := S'.bo 0 _ q0
  cases an v0 a0
  cases r with
  | fr d =>
    have hH : H' a = some (.ins C dx []) := S'.ex.k a _ ha nb
    exact ⟨.ref a, e0, a, C, dx, pa, [], 0, rfl, .inl ⟨hH, rfl⟩, cl.sc, cl.s1, fin d v G' H' σ q S'.wd S'.ex y⟩
  | ow d => exact q.elim
  | bo d => exact q.elim
def sSeqI (u : WS) (W : WIB) : WIB := fun ρ Φ => u ρ ⟨fun ρ' => W ρ' Φ, fun _ _ => False, fun _ => False, fun _ => False⟩
theorem b_consI (h1 : PSI X G0 H0 st u) (h2 : PSs X ss (TSI X.K G0 H0 C a dx W)) : PSs X (st :: ss) (TSI X.K G0 H0 C a dx (sSeqI u W)) := by
  refine pss_imp (pss_cons h1 h2) fun D σ H h => ?_
  obtain ⟨ρ, G, Φ, S, h, ha, nb, an, fin⟩ := h
  refine ⟨ρ, G, _, S, h, ⟨fun ρ' G' H' σ' h' s' f => ⟨ρ', G', Φ, s', h', ha, nb, an, fin⟩, fun _ _ _ _ _ q => q.elim, fun _ _ _ _ q => q.elim, fun _ _ _ _ q => q.elim⟩⟩
end
section
variable {P : Program} {w : World} {K : PySem.W.Frag} {mg : Str → Option Value} {base : Heap} {j k : Nat} {f C : Addr} {wf : WFI}
theorem FnI.mono (F : FnI P w K mg base j C f wf) (h : j ≤ k) : FnI P w K mg base k C f wf := fun A outer s H us vs Q hr => F A outer s H us vs Q (hr.mono h)
theorem staI_start {G : Gh} {H : Hp} {ds : List D} {ts : List V} {a : Addr} {N : List Str} {n m : Nat} (wd : Wd G H) (r : RepL K G H ds ts) (hl : ds.length = n) (hN : N.length = n + 1 + m) :
    Sta K (G.anc fun j v => j = 0 → v = .ref a) H (.bo .unk :: (ds.map Cell.fr ++ List.replicate m .no)) (G.anc fun j v => j = 0 → v = .ref a) H (L2.start N (.ref a :: ts)) := by
  have hlv := r.length
  have get : ∀ {i : Nat} {c : Cell}, (ds.map Cell.fr ++ List.replicate m .no)[i]? = some c → (∃ d, ds[i]? = some d ∧ c = .fr d) ∨ c = .no := fun {i c} e => by
    by_cases hi : i < ds.length
    · rw [List.getElem?_append_left (by simpa using hi), List.getElem?_map] at e
      cases q : ds[i]? with
      | none => rw [q] at e; cases e
      | some d => rw [q] at e; cases e; exact .inl ⟨d, rfl, rfl⟩
    · rw [List.getElem?_append_right (by simpa using hi), List.getElem?_replicate] at e
      split at e
      · cases e; exact .inr rfl
      · cases e
  have st : ∀ {i : Nat} {v : V}, (V.ref a :: ts)[i]? = some v → (L2.start N (.ref a :: ts))[i]? = some (some v) := fun {i v} e => by
    unfold L2.start
    have hi : i < (V.ref a :: ts).length := (List.getElem?_eq_some_iff.mp e).1
    rw [List.getElem?_append_left (by simpa using hi), List.getElem?_map, e]
    rfl
  have nst : ∀ (i : Nat) b d, (Cell.bo .unk :: (ds.map Cell.fr ++ List.replicate m .no))[i]? ≠ some (.st b d) := fun i b d e => by
    cases i with
    | zero => cases e
    | succ i =>
      rcases get (show (ds.map Cell.fr ++ List.replicate m .no)[i]? = _ from e) with ⟨d', e1, e2⟩ | e1
      · cases e2
      · cases e1
  refine ⟨wd.anc, GrW.refl _ _, wd.anc, fun i d e => ?_, fun i d e => ?_, fun i _ d _ _ e => ?_, ⟨?_, fun i b d e => (nst i b d e).elim⟩, fun i d e => ?_, .none_ nst⟩
  · cases i with
    | zero => cases e
    | succ i =>
      rcases get (show (ds.map Cell.fr ++ List.replicate m .no)[i]? = _ from e) with ⟨d', e1, e2⟩ | e1
      · cases e2
        obtain ⟨v, e3, rv⟩ := r.get e1
        exact ⟨v, st (show (V.ref a :: ts)[i + 1]? = some v from e3), rv.fe FE.anc⟩
      · cases e1
  · cases i with
    | zero => cases e
    | succ i =>
      rcases get (show (ds.map Cell.fr ++ List.replicate m .no)[i]? = _ from e) with ⟨d', e1, e2⟩ | e1
      · cases e2
      · cases e1
  · cases i with
    | zero => cases e
    | succ i =>
      rcases get (show (ds.map Cell.fr ++ List.replicate m .no)[i]? = _ from e) with ⟨d', e1, e2⟩ | e1
      · cases e2
      · cases e1
  · unfold L2.start
    simp only [List.length_append, List.length_map, List.length_replicate, List.length_cons]
    omega
  · cases i with
    | zero =>
      cases e
      exact ⟨.ref a, st rfl, .inl (.unk _), fun _ => rfl⟩
    | succ i =>
      rcases get (show (ds.map Cell.fr ++ List.replicate m .no)[i]? = _ from e) with ⟨d', e1, e2⟩ | e1
      · cases e2
      · cases e1
theorem fnI_of {x qual : Str} {st : Stmt} {fd : FuncData} {N ps : List Str} {n m : Nat} {b : WIB} (F : Fun K x qual st f fd) (S : FnScope N ps (defScope st)) (hb : Binds K fd ps []) (hn : ps.length = n + 1) (hN : N.length = n + 1 + m)
    (hbody : ∀ (cdv : Value) (A : Around) (outer : List Env) (s : Shared) (H : Hp) (G : Gh) (a dx : Addr), Room k (A.deeper (envOfC qual (defScope st) s.heap.objs.size f cdv)) → A.guards = some [] →
      PSs (cxOf CX0 P w K mg base N qual (defScope st) f cdv A outer s H E0).nox (defBody st) (TSI K G H C a dx b)) : FnI P w K mg base (k + 1) C f (wDefI n m b) := by
  intro A outer s H us vs Q hr hg e0 r hsp
  obtain ⟨a, dx, H', ts, G, ds, Φ, ev, ha, hdx, hne, eH, wd, rp, ⟨hl, hw⟩, kk⟩ := hsp
  obtain ⟨oc, od, kV, doc, pm, an, cdv, ct, osl, e, lk, hcd⟩ := F.ex
  have hvl : vs.length = n + 1 := by rw [ev, List.length_cons, ← rp.length, hl]
  have hus : us.length = ps.length := by rw [← r.length, hvl, hn]
  have kin := e0.mod.kin.keeps fun b o z => (e0.bs b o z).1
  have bt := hb s us kin (by rw [List.append_nil]; exact hus)
  rw [List.append_nil] at bt
  subst e
  refine StX.run_bnd (G := fun vs' H' => vs' = vs ∧ H' = H ∧ True) lk hcd S hr e0 (fun A' Ex Q' h => bt _ _ _ _ (h s H vs us e0 Un.refl rfl (fun _ _ z => z) r (by rw [r.length, hus]) ⟨rfl, rfl, trivial⟩)) fun s2 H2 vs2 g hr2 => ?_
  obtain ⟨rfl, rfl, _⟩ := g
  subst ev
  have ma : ∀ b o, H' b = some o → H2 b = some o := fun b o z => by
    rw [eH, upd_ne (fun q => by rw [q, ha] at z; cases z), upd_ne (fun q => by rw [q, hdx] at z; cases z)]
    exact z
  have wd2 : Wd G H2 := wd.grow ma
  have g1 : FE G H' G H2 := ⟨fun _ z => z, fun _ z n => ⟨z, n⟩, fun b o _ z => ma b o z, fun b xs z => ma b _ z, fun b o u z _ => ma b _ z⟩
  have aH : H2 a = some (.ins C dx []) := by rw [eH, upd_same]
  have nb : ¬ G.B a := fun z => by
    obtain ⟨xs, q⟩ := wd.btr z
    rw [ha] at q; cases q
  refine ⟨_, (hbody cdv A outer s2 H2 (G.noM.anc fun j v => j = 0 → v = .ref a) a dx hr2 hg).nox, _, _, _, staI_start wd2.noM (rp.fe (g1.trans FE.noM)) hl (hN := hN), hw, aH, fun z => nb z.1, fun v q => q rfl, fun d v G' H3 σ' φ w3 g3 x3 => ?_⟩
  exact kk d v _ H3 φ (g3.anc.reW wd2 w3) (g3.anc.reG wd2) (Rep.fe (g3.anc.reF wd2) x3)
end
section
variable {X : Cx} {G0 : Gh} {H0 : Hp} {e : Expr} {es : List Expr} {ws : WA} {pos p : Pos} {k : Nat} {c fl x : Str} {C f pa : Addr} {wf : WFI} {K : PySem.W.Frag} {σ : L2.St} {H : Hp}
def wfI (c fl : Str) (wf : WFI) : WF := fun ds Φ => wf ds fun d => Φ (.fr (.ins c [fl] [d]))
theorem run_fnI {pins : List (Addr × Obj)} {s : Shared} {Q : VK} {us : List Value} {vs : List V} (cl : Cl1 X.K c C fl pa) (M : L2.Mk X.K C f) (F : FnI X.prog X.w X.K X.mg X.base k C f wf) (hr : Room (k + 1) X.A) (hg : X.A.guards = some []) (I : Inv X pins σ H s) (r : Vals vs us) (h : spG X.K (wfI c fl wf) vs H Q) :
    wpAny (model X.prog X.w) X.A (call (.ref C) us) (EP X pins σ Q) X.xe s := by
  obtain ⟨G, ds, Φ, wd, rp, hw, kk⟩ := h
  have nx : H (s.heap.objs.size + 1) = none := I.hok.fresh (Nat.le_succ _)
  have nd : H s.heap.objs.size = none := I.hok.fresh (Nat.le_refl _)
  have hne : s.heap.objs.size ≠ s.heap.objs.size + 1 := Nat.ne_of_lt (Nat.lt_succ_self _)
  have I2 := Inv.made (C := C) I
  have r2 : Vals (V.ref (s.heap.objs.size + 1) :: vs) (Value.ref (s.heap.objs.size + 1) :: us) := .cons rfl r
  have sp : spI X.K C wf (V.ref (s.heap.objs.size + 1) :: vs) (upd (upd H s.heap.objs.size (.own (s.heap.objs.size + 1))) (s.heap.objs.size + 1) (.ins C s.heap.objs.size [])) (fun v H2 => v = .non ∧ Q (.ref (s.heap.objs.size + 1)) H2) := by
    refine ⟨_, _, H, vs, G, ds, _, rfl, nx, nd, hne, rfl, wd, rp, hw, fun d v G' H2 φ w2 g2 x2 => ⟨rfl, ?_⟩⟩
    generalize s.heap.objs.size + 1 = a at *
    generalize s.heap.objs.size = dx at *
    have oa : ∀ b o, H b = some o → b ≠ a ∧ b ≠ dx := fun b o z => ⟨fun q => (by rw [q, nx] at z; cases z), fun q => (by rw [q, nd] at z; cases z)⟩
    have ha2 : H2 a = some (.ins C dx []) ∧ ¬ G'.B a ∧ ¬ G'.F a := by
      have hb : ¬ G.B a := fun z => by obtain ⟨xs, q⟩ := wd.btr z; rw [nx] at q; cases q
      have hf : ¬ G.F a := fun z => by obtain ⟨o, q⟩ := wd.f a z; rw [nx] at q; cases q
      refine ⟨g2.k a _ upd_same hb, fun z => ?_, fun z => ?_⟩
      · rcases g2.nb a z with q | q
        · exact hb q
        · rw [upd_same] at q; cases q
      · rcases g2.nf a z with q | q
        · exact hf q
        · rw [upd_same] at q; cases q
    have hd2 : H2 dx = some (.own a) ∧ ¬ G'.B dx ∧ ¬ G'.F dx := by
      have hb : ¬ G.B dx := fun z => by obtain ⟨xs, q⟩ := wd.btr z; rw [nd] at q; cases q
      have hf : ¬ G.F dx := fun z => by obtain ⟨o, q⟩ := wd.f dx z; rw [nd] at q; cases q
      have hat : (upd (upd H dx (.own a)) a (.ins C dx [])) dx = some (.own a) := by rw [upd_ne hne, upd_same]
      refine ⟨g2.k dx _ hat hb, fun z => ?_, fun z => ?_⟩
      · rcases g2.nb dx z with q | q
        · exact hb q
        · rw [hat] at q; cases q
      · rcases g2.nf dx z with q | q
        · exact hf q
        · rw [hat] at q; cases q
    obtain ⟨ea, nba, nfa⟩ := ha2
    obtain ⟨ed, nbd, nfd⟩ := hd2
    have sne : ∀ b, b ≠ a → b ≠ dx → SlX.slH H2 a C dx [some v] b = H2 b := fun b h1 h2 => SlX.slH_ne h1 h2
    have sa : SlX.slH H2 a C dx [some v] a = some (SlX.SlO a C dx [some v]) := upd_same
    have sd : SlX.slH H2 a C dx [some v] dx = some (.xd []) := by unfold SlX.slH; rw [upd_ne hne, upd_same]
    have sF : ∀ b, G'.F b → SlX.slH H2 a C dx [some v] b = H2 b := fun b hb => sne b (fun q => nfa (q ▸ hb)) (fun q => nfd (q ▸ hb))
    have sB : ∀ b, G'.B b → SlX.slH H2 a C dx [some v] b = H2 b := fun b hb => sne b (fun q => nba (q ▸ hb)) (fun q => nbd (q ▸ hb))
    have fe : FE G' H2 ⟨fun b => G'.F b ∨ b = a ∨ b = dx, G'.B, G'.A, G'.M⟩ (SlX.slH H2 a C dx [some v]) := by
      refine ⟨fun _ z => .inl z, fun _ z n => ⟨z, n⟩, fun b o z q => (sF b z).trans q, fun b xs q => (sne b (fun z => ?_) fun z => ?_).trans q, fun b o u q n => (sne b (fun z => ?_) fun z => ?_).trans q⟩
      · rw [z, ea] at q; cases q
      · rw [z, ed] at q; cases q
      · rw [z, ea] at q; cases q
      · rw [z, ed] at q; cases q
    refine kk _ (.ref a) ⟨fun b => G'.F b ∨ b = a ∨ b = dx, G'.B, G'.A, G'.M⟩ _ φ ⟨fun b hb => ?_, fun b hb => ?_, fun p hp => ⟨(w2.t p hp).1, (w2.t p hp).2.on (fun ps e => (sB _ (w2.t p hp).1).trans e) fun c o e ⟨φ, q⟩ n hco => ⟨(sne c (fun z => by rw [z, ea, q] at e; cases e) (fun z => by rw [z, ed, q] at e; cases e)).trans e, n⟩⟩, fun b hb => ⟨(w2.m b hb).1, let ⟨o, e, y⟩ := (w2.m b hb).2; ⟨o, (sB b (w2.m b hb).1).trans e, y⟩⟩⟩ ⟨fun b z => .inl (g2.f b z), g2.b, fun b o z nb => ?_, fun b z => ?_, fun b z => ?_, fun b hb => ⟨(g2.m b hb).1, fun o z => ?_⟩, fun b z => ?_⟩ ?_
    · obtain ⟨u, n⟩ := w2.b b hb
      refine ⟨u.imp id fun ⟨x, y, z, r, ns, e1, l, q⟩ => ⟨x, y, z, r, ns, (sB b hb).trans e1, ⟨.inl l.1, (sF r l.1).trans l.2⟩, q⟩, fun z => ?_⟩
      rcases z with z | z | z
      · exact n z
      · exact nba (z ▸ hb)
      · exact nbd (z ▸ hb)
    · rcases hb with z | z | z
      · obtain ⟨o, q⟩ := w2.f b z
        exact ⟨o, (sF b z).trans q⟩
      · subst z; exact ⟨_, sa⟩
      · subst z; exact ⟨_, sd⟩
    · obtain ⟨n1, n2⟩ := oa b o z
      rw [sne b n1 n2]
      exact g2.k b o (by rw [upd_ne n1, upd_ne n2]; exact z) nb
    · rcases z with z | z | z
      · rcases g2.nf b z with q | q
        · exact .inl q
        · refine .inr ?_
          by_cases n1 : b = a
          · rw [n1]; exact nx
          · by_cases n2 : b = dx
            · rw [n2]; exact nd
            · rwa [upd_ne n1, upd_ne n2] at q
      · rw [z]; exact .inr nx
      · rw [z]; exact .inr nd
    · rcases g2.nb b z with q | q
      · exact .inl q
      · refine .inr ?_
        by_cases n1 : b = a
        · rw [n1]; exact nx
        · by_cases n2 : b = dx
          · rw [n2]; exact nd
          · rwa [upd_ne n1, upd_ne n2] at q
    · obtain ⟨n1, n2⟩ := oa b o z
      rw [sne b n1 n2]
      exact (g2.m b hb).2 o (by rw [upd_ne n1, upd_ne n2]; exact z)
    · rcases g2.nm b z with q | q
      · exact .inl q
      · refine .inr ?_
        by_cases n1 : b = a
        · rw [n1]; exact nx
        · by_cases n2 : b = dx
          · rw [n2]; exact nd
          · rwa [upd_ne n1, upd_ne n2] at q
    · exact .ins (.inr (.inl rfl)) (.inr (.inr rfl)) (vs := [v]) sa sd cl.nm rfl (.cons (x2.fe fe) .nil)
  refine wpAny_call (make_map (f := f) I.kIn M.makes M.init (beq_iff_eq.mp M.fn) (codeAny_mono (F _ X.stack _ _ (Value.ref (s.heap.objs.size + 1) :: us) _ _ (hr.make C us []) hg (I2.env0.make C us []) r2 sp) fun r s' hq' => ?_))
  cases r with
  | error e => exact hq'.elim
  | ok fl =>
    cases fl with
    | ret u =>
      obtain ⟨v, H', I3, rv, ev, q3⟩ := I2.after hq'
      subst ev
      exact ⟨rv, ⟨V.ref (s.heap.objs.size + 1), H', I3, rfl, q3⟩⟩
    | next => exact False.elim hq'
    | brk => exact False.elim hq'
    | cont => exact False.elim hq'
theorem i_make (cl : Cl1 X.K c C fl pa) (M : L2.Mk X.K C f) (F : FnI X.prog X.w X.K X.mg X.base k C f wf) (hr : Room (k + 1) X.A) (hg : X.A.guards = some []) (hgl : Gl X x) (hm : X.mg x = some (.ref C)) (ha : PAI X G0 H0 (e :: es) ws)
    (hdb : (x == ("__debug__" : Str)) = false := by decide) (he : starEach (e :: es) X.env = (false, eval e X.env) :: starEach es X.env := by rfl) (hpl : (backTo pos (starEach es X.env)).any (·.1) = false := by rfl) :
    PEI X G0 H0 (.Call (.Name x p) (e :: es) [] pos) (wCall (wfI c fl wf) ws) := by
  refine ⟨fun pins s σ H Q I h => wpAny_Call_Name_kw (ld_glob I hgl hm ?_ hdb)⟩
  exact PySem.W.callWith_K (h₀ := X.base) I.ok.mod.kin M.kp (thn (ha.run pos pins s σ H _ I (tx_call h)) fun us s1 ⟨vs, H1, I1, r, q⟩ => ⟨I1.kIn, run_fnI cl M F hr hg I1 r q⟩) he hpl
end
end Tv
/-! Tv33: more of dicts: {}, dict(pairs), dict(d), walks over keys and items, get, comprehensions; isinstance of some types; sorted(d). -/
namespace Tv
open PySem PySem.Spec PyProof.Rows L2
variable [LamT]
section
variable {X : Cx} {G0 : Gh} {H0 : Hp} {e a b tg : Expr} {es : List Expr} {wa wb wk wx : WE} {ws : WA} {pos apos p p2 p3 q : Pos} {K : PySem.W.Frag} {σ : L2.St} {G : Gh} {H : Hp} {ρ : En} {t : TE}
/-- a dict that has been made is locked at once -/
theorem pe_lock (h : PE X e t) : PE X e (fun σ H Q => t σ H fun v H1 => ∃ l kvs, v = .ref l ∧ H1 l = some (.dK kvs) ∧ ∀ od, Q (.ref l) (upd H1 l (.frz od (.dK kvs)))) :=
  ⟨fun pins s σ H Q I q => thn (h.run pins s σ H _ I q) fun u s1 ⟨v, H1, I1, r, l, kvs, ev, hl, q⟩ => by
    subst ev
    obtain ⟨od, I2⟩ := I1.lock hl trivial
    exact ⟨.ref l, _, I2, r, q od⟩⟩
theorem Sta.newD {l : Addr} {kvs : List (Key × V)} {ks : List Key} {ds : List D} (S : Sta K G0 H0 ρ G H σ) (hp : H l = none) (hk : kvs.map (·.1) = ks) (r : RepL K G H ds (kvs.map (·.2))) (od : Obj) :
    Sta K G0 H0 ρ G (upd H l (.frz od (.dK kvs))) σ ∧ Stp ρ σ G H G (upd H l (.frz od (.dK kvs))) ∧ RepR K G (upd H l (.frz od (.dK kvs))) H (.ow (.dct ks ds)) (.ref l) := by
  have g : Grow G H G (upd H l (.frz od (.dK kvs))) := Grow.laid hp
  refine ⟨S.grow (S.wd.laid hp) g, g.stp, l, rfl, ⟨fun z => ?_, fun z => ?_, od, kvs, upd_same, hk, r.fe (g.fe S.wd)⟩, hp⟩
  · obtain ⟨o, q⟩ := S.wd.f l z
    rw [hp] at q; cases q
  · obtain ⟨xs, q⟩ := S.wd.btr z
    rw [hp] at q; cases q
/-! ### {} -/
def wDnew : WE := fun ρ Φ => Φ (.ow (.dct [] [])) ρ
theorem i_dnew : PEI X G0 H0 (.Dict [] [] pos) wDnew := by
  refine pe_imp (pe_lock pe_dnewK) fun σ H Q h => ?_
  obtain ⟨ρ, G, Φ, S, h, c⟩ := h
  intro l hl
  refine ⟨l, [], rfl, upd_same, fun od => ?_⟩
  rw [upd_upd]
  obtain ⟨S1, P1, r1⟩ := S.newD (kvs := []) (ks := []) (ds := []) hl rfl .nil od
  exact c _ ρ _ G _ h S1 P1 (LeE.refl _) r1
/-! ### dict(pairs) -/
def pairsD : List D → Option (List (Key × D))
  | [] => some []
  | .tup [k, x] :: es => match keyD k, pairsD es with
    | some k, some r => some ((k, x) :: r)
    | _, _ => none
  | _ => none
def dpairs : D → Option (List (Key × D))
  | .lst es => pairsD es
  | _ => none
def mrgK : List Key → List Key → List Key
  | ks, [] => ks
  | ks, k :: r => mrgK (putKs ks k) r
def mrgD : List Key → List D → List (Key × D) → List D
  | _, ds, [] => ds
  | ks, ds, (k, d) :: r => mrgD (putKs ks k) (putDs ks ds k d) r
theorem pairs_rep : ∀ {es : List D} {xs : List V} {kds : List (Key × D)}, RepL K G H es xs → pairsD es = some kds → ∃ (ps : List Addr) (kvs : List (Key × V)), xs = ps.map V.ref ∧ Paired (fun p kv => SqT K H p [kV kv.1, kv.2]) ps kvs ∧ kvs.map (·.1) = kds.map (·.1) ∧ RepL K G H (kds.map (·.2)) (kvs.map (·.2))
  | [], _, _, .nil, e => by cases e; exact ⟨[], [], rfl, .nil, rfl, .nil⟩
  | d :: es, _, kds, .cons (v := v) r t, e => by
    unfold pairsD at e
    split at e
    · rename_i h; cases h
    · rename_i k x es' hd
      cases hd
      split at e
      · rename_i ky kr e1 e2
        cases e
        obtain ⟨ps, kvs, rfl, pr, hk, rl⟩ := pairs_rep t e2
        cases r with
        | tup l rr =>
          rename_i adr xs _
          cases rr with
          | cons rk rr =>
            cases rr with
            | cons rx rr =>
              cases rr
              rename_i vk vx
              have ek : vk = kV ky := key_sh (.inl rk) e1
              subst ek
              exact ⟨adr :: ps, (ky, vx) :: kvs, rfl, .cons l pr, by rw [List.map_cons, List.map_cons, hk], .cons rx rl⟩
      · cases e
    · cases e
theorem mrg_rep : ∀ {kds : List (Key × D)} {kvs0 kvs : List (Key × V)} {ds : List D}, RepL K G H ds (kvs0.map (·.2)) → kvs.map (·.1) = kds.map (·.1) → RepL K G H (kds.map (·.2)) (kvs.map (·.2)) →
    (mergeK kvs0 kvs).map (·.1) = mrgK (kvs0.map (·.1)) (kds.map (·.1)) ∧ RepL K G H (mrgD (kvs0.map (·.1)) ds kds) ((mergeK kvs0 kvs).map (·.2))
  | [], kvs0, [], ds, r, _, _ => ⟨rfl, r⟩
  | [], _, _ :: _, _, _, e, _ => by cases e
  | _ :: _, _, [], _, _, e, _ => by cases e
  | (k, d) :: kds, kvs0, (k', v) :: kvs, ds, r, e, t => by
    rw [List.map_cons, List.map_cons] at e
    obtain ⟨ek, et⟩ := List.cons.inj e
    have ek : k' = k := ek
    subst ek
    cases t with
    | cons rd t =>
      obtain ⟨p1, p2⟩ := put_rep k' rd r
      obtain ⟨q1, q2⟩ := mrg_rep (kvs0 := putK kvs0 k' v) p2 et t
      rw [p1] at q1 q2
      exact ⟨q1, q2⟩
def wDictP (wa : WE) : WE := fun ρ Φ => wa ρ fun r ρ' => match dpairs r.d with
  | some kds => Φ (.ow (.dct (mrgK [] (kds.map (·.1))) (mrgD [] [] kds))) ρ'
  | none => False
theorem i_dictP (hc : X.calm = true) (hg : Gl X "dict") (hm : X.mg "dict" = none) (h : PEI X G0 H0 a wa) (hs : starEach (a :: []) X.env = (false, eval a X.env) :: starEach [] X.env := by rfl) : PEI X G0 H0 (.Call (.Name "dict" p) [a] [] pos) (wDictP wa) := by
  refine pe_imp (pe_lock (pe_callTy (call_dictP hc) hg hm (by decide +kernel) (pa_cons h pa_nil hs) (by decide) (by decide) hs rfl)) fun σ H Q h => ?_
  obtain ⟨ρ, G, Φ, S, h, c⟩ := h
  refine ⟨ρ, G, _, S, h, fun r ρ' v G' H' q S' P L x => ?_⟩
  split at q
  · rename_i kds ek
    cases hd : r.d with
    | lst ls =>
      rw [hd] at ek
      have x' := x.sh
      rw [hd] at x'
      obtain ⟨ad, xs, rfl, sq, rl⟩ := x'.list
      obtain ⟨ps, kvs, rfl, pr, hk, rk⟩ := pairs_rep rl ek
      obtain ⟨m1, m2⟩ := mrg_rep (kvs0 := []) (ds := []) .nil hk rk
      refine ⟨ad, ps, kvs, rfl, sq, pr, fun l hl => ⟨l, _, rfl, upd_same, fun od => ?_⟩⟩
      rw [upd_upd]
      obtain ⟨S1, P1, r1⟩ := S'.newD hl m1 m2 od
      exact c _ ρ' _ G' _ q S1 (P.trans S'.wd P1 L) L (r1.back fun a z => P.nn S'.wd z)
    | _ => rw [hd] at ek; cases ek
  · exact q.elim
/-! ### dict(d) -/
def wDictD (wa : WE) : WE := fun ρ Φ => wa ρ fun r ρ' => match r.d with
  | .dct ks ds => Φ (.ow (.dct ks ds)) ρ'
  | _ => False
theorem i_dictD (hg : Gl X "dict") (hm : X.mg "dict" = none) (h : PEI X G0 H0 a wa) (hs : starEach (a :: []) X.env = (false, eval a X.env) :: starEach [] X.env := by rfl) : PEI X G0 H0 (.Call (.Name "dict" p) [a] [] pos) (wDictD wa) := by
  refine pe_imp (pe_lock (pe_callTy call_dictD hg hm (by decide +kernel) (pa_cons h pa_nil hs) (by decide) (by decide) hs rfl)) fun σ H Q h => ?_
  obtain ⟨ρ, G, Φ, S, h, c⟩ := h
  refine ⟨ρ, G, _, S, h, fun r ρ' v G' H' q S' P L x => ?_⟩
  split at q
  · rename_i ks ds ed
    have x' := x.sh
    rw [ed] at x'
    obtain ⟨ad, o, kvs, rfl, hd, hk, rl⟩ := x'.dict
    refine ⟨ad, kvs, rfl, .inr ⟨o, hd⟩, fun l hl => ⟨l, _, rfl, upd_same, fun od => ?_⟩⟩
    rw [upd_upd]
    obtain ⟨S1, P1, r1⟩ := S'.newD hl hk rl od
    exact c _ ρ' _ G' _ q S1 (P.trans S'.wd P1 L) L (r1.back fun a z => P.nn S'.wd z)
  · exact q.elim
/-! ### walks -/
def kD : Key → D
  | .inl i => .int i
  | .inr x => .str x
theorem kD_rep (k : Key) : Rep K G H (kD k) (kV k) := by
  cases k with
  | inl i => exact .int i
  | inr x => exact .str x
def itD : List Key → List D → List D
  | k :: ks, d :: ds => .tup [kD k, d] :: itD ks ds
  | _, _ => []
theorem itD_get : ∀ {kvs : List (Key × V)} {ds : List D} {i : Nat} {d : D}, RepL K G H ds (kvs.map (·.2)) → (itD (kvs.map (·.1)) ds)[i]? = some d → ∃ k v x, kvs[i]? = some (k, v) ∧ d = .tup [kD k, x] ∧ Rep K G H x v
  | [], _, _, _, .nil, e => by cases e
  | (k, v) :: kvs, _, 0, d, .cons (d := x) r t, e => by
    have e' : some (D.tup [kD k, x]) = some d := e
    exact ⟨k, v, x, rfl, (Option.some.inj e').symm, r⟩
  | (k, v) :: kvs, _, i + 1, d, .cons (ds := ds) r t, e => by
    obtain ⟨k', v', x, h1, h2, h3⟩ := itD_get (kvs := kvs) (i := i) t (show (itD (kvs.map (·.1)) ds)[i]? = some d from e)
    exact ⟨k', v', x, h1, h2, h3⟩
theorem itD_len : ∀ {kvs : List (Key × V)} {ds : List D}, RepL K G H ds (kvs.map (·.2)) → (itD (kvs.map (·.1)) ds).length = kvs.length
  | [], _, .nil => rfl
  | _ :: kvs, _, .cons r t => by
    show (itD (kvs.map (·.1)) _).length + 1 = _
    rw [itD_len t]; rfl
/-- the rows of a dict, each a new tuple whose very object is known -/
def ItiN (d : Addr) (o : Obj) (kvs : List (Key × V)) : It :=
  ⟨fun i H => H d = some (.frz o (.dK kvs)) ∧ i < kvs.length, fun i H x H' => ∃ T k v oT, kvs[i]? = some (k, v) ∧ x = .ref T ∧ H T = none ∧ H' = upd H T (.frz oT (.tup [kV k, v])) ∧ oT.dict = none, fun i H => H d = some (.frz o (.dK kvs)) ∧ kvs.length ≤ i⟩
theorem turn_itemsN {P : Program} {w : World} {K : PySem.W.Frag} {d : Addr} {o : Obj} {es : Array DictEntry} {ep : Nat} {kvs : List (Key × V)} {elts : List Expr} {kk : Nat} {tpos : Pos} (it : Addr) (hod : o.data = .dict es ep) :
    Turn P w K (.Tuple elts kk tpos) (ItiN d o kvs) [it] it (fun i h => ∃ ok ov, IsItemIter h it d i kvs.length ep ok ov) where
  mem := by simp
  obj := (turn_items (P := P) (w := w) (K := K) (d := d) (o := o) (kvs := kvs) (elts := elts) (kk := kk) (tpos := tpos) it hod).obj
  keep := (turn_items (P := P) (w := w) (K := K) (d := d) (o := o) (kvs := kvs) (elts := elts) (kk := kk) (tpos := tpos) it hod).keep
  item := by
    intro X hP hw hK hc i pins s σ H E I hf st hg
    subst hP hw hK
    obtain ⟨hd, hi⟩ := hg
    obtain ⟨hs, hgd, hx, es', ep', vs, hdt, hsz, kv, hm⟩ := I.frzK hd
    obtain ⟨rfl, rfl⟩ := dict_ep hod hdt
    obtain ⟨⟨k, v⟩, hkv⟩ : ∃ p, kvs[i]? = some p := ⟨kvs[i], List.getElem?_eq_getElem hi⟩
    obtain ⟨u, hu, ru⟩ := kv_get kv hkv
    have hl : kvs.length = vs.length := Paired.length kv
    obtain ⟨ok, ov, he⟩ := st
    rw [hl] at he
    have hlt : it < s.heap.objs.size := Heap.lt_size he
    refine wpAny_pyNext_items_item he hm hu fun key h' hkey ho hT hz hk => ?_
    refine ⟨_, rfl, wpAny_letOwnedTupleGo_items (s := { s with heap := h' }) ho fun h'' he' sb => ?_⟩
    have hT2 : h''.get? s.heap.objs.size = some { cls := .type "tuple", data := .seq #[key, u] } := (sb.2 _ (Nat.ne_of_gt hlt)).trans hT
    have new : ObjOk X.prog X.w (upd H s.heap.objs.size (.frz { cls := .type "tuple", data := .seq #[key, u] } (.tup [kV k, v]))) h'' s.heap.objs.size (.frz { cls := .type "tuple", data := .seq #[key, u] } (.tup [kV k, v])) :=
      ⟨hT2, by show 2 ≤ sizeLine; decide, [key, u], .cons (relV_key (show keyIs k key = true from hkey)) (.cons ru .nil), ⟨_, hT2, rfl, _, rfl⟩⟩
    have I1 : Inv X pins σ (upd H s.heap.objs.size (.frz { cls := .type "tuple", data := .seq #[key, u] } (.tup [kV k, v]))) { s with heap := h'' } :=
      I.turnedNew (t' := s.toks) (ch := [it]) (fun b ob hb e => (sb.2 b (by simpa using hb)).trans (hk b ob (by simpa using hb) e)) hf (Nat.le_refl _) new
    refine ⟨.ref s.heap.objs.size, _, I1, rfl, ⟨_, k, v, _, hkv, rfl, I.hok.fresh (Nat.le_refl _), rfl, rfl⟩, ⟨key, u, ?_⟩, fun b hb => ?_⟩
    · rw [hl]; exact he'
    · have e : b = it := by simpa using hb
      rw [e, upd_ne (Nat.ne_of_lt hlt)]
      exact (hf it (by simp)).1
  done := (turn_items (P := P) (w := w) (K := K) (d := d) (o := o) (kvs := kvs) (elts := elts) (kk := kk) (tpos := tpos) it hod).done
  self := (turn_items (P := P) (w := w) (K := K) (d := d) (o := o) (kvs := kvs) (elts := elts) (kk := kk) (tpos := tpos) it hod).self
def iItemsN (td : TE) : TI := fun σ H R => td σ H fun x H1 => ∃ d o kvs, x = .ref d ∧ H1 d = some (.frz o (.dK kvs)) ∧ R (ItiN d o kvs) H1
theorem pi_itemsN {td : TE} {apos cpos : Pos} {elts : List Expr} {kk : Nat} {tpos : Pos} (he : PE X e td) (hbase : attributeBase e "items" X.env (eval e X.env) = eval e X.env := by rfl) (hline : (apos.endLine == cpos.line) = true := by rfl) :
    PI X (.Tuple elts kk tpos) (.Call (.Attribute e "items" apos) [] [] cpos) (iItemsN td) := by
  refine ⟨fun pins s σ H R I h => ?_⟩
  refine wpAny_Call_method (T := "dict") (id := "dict.items") hbase rfl hline F.plainAttrs_dict F.slot_dict_items F.type_dict_items (thn (he.run pins s σ H _ I h) fun u s1 ⟨x, H1, I1, rx, d, o, kvs, ex, hd, q⟩ => ?_)
  subst ex
  obtain rfl : u = Value.ref d := rx
  obtain ⟨hs, hgd, hx, es, ep, vs, hdt, hsz, kv, hm⟩ := I1.frzK hd
  have hl : kvs.length = vs.length := Paired.length kv
  refine ⟨hm.dictOf.typeIs, hm.dictOf.mapOf.noDict, ?_⟩
  have I2 : Inv X pins σ H1 { s1 with heap := s1.heap.push { cls := .type "dict_items", data := .fields #[.ref d] } } := I1.kept (t' := s1.toks) fun b ob q => Heap.get?_push_of_some _ q
  have fin : wpAny (model X.prog X.w) X.A (pyIter (.ref s1.heap.objs.size)) (PIE X pins σ (.Tuple elts kk tpos) R) X.xe { s1 with heap := s1.heap.push { cls := .type "dict_items", data := .fields #[.ref d] } } := by
    refine wpAny_pyIter_items (d := d) (knd := mixKind X.prog X.w) ⟨_, Heap.get?_push_size _ rfl, rfl, rfl⟩ (hm.push _) (pi_one (tk := s1.toks) I2 _ (turn_itemsN _ hdt) ⟨.none, .none, ?_⟩ q)
    rw [hl]
    exact Heap.get?_push_size _ rfl
  show wpAny _ _ (callWith cpos (.builtin "dict.items") [.ref d] [] []) _ X.xe s1
  exact method_meetsIn F.slot_dict_items F.entry_dict_items rfl (PySem.evalArgs_none ⟨rfl, hm.dictOf.typeIs, F.args_dict_items_1 _, _, meets_dict_items (mixKind X.prog X.w) d hs, ⟨vs, hm.dictOf⟩, fin⟩)
def wItems (wa : WE) : WI := fun ρ Φ => wa ρ fun r ρ' => match r with
  | .fr (.dct ks ds) => Φ (itD ks ds) ρ'
  | _ => False
theorem p_items {elts : List Expr} {kk : Nat} {tpos : Pos} (h : PEI X G0 H0 e wa) (hbase : attributeBase e "items" X.env (eval e X.env) = eval e X.env := by rfl) (hline : (apos.endLine == pos.line) = true := by rfl) : PII X G0 H0 (.Tuple elts kk tpos) (.Call (.Attribute e "items" apos) [] [] pos) (wItems wa) := by
  refine pi_imp (pi_itemsN h hbase hline) fun σ H R' h => ?_
  obtain ⟨ρ, G, Φ, S, h, c⟩ := h
  refine ⟨ρ, G, _, S, h, fun r ρ' v G' H' q S' P L x => ?_⟩
  split at q
  · rename_i ks ds
    cases x with
    | dct hf hd hk rl =>
      rename_i ad o kvs
      subst hk
      refine ⟨ad, o, kvs, rfl, hd, c _ ρ' _ G' H' q S' P L fun i G2 H2 w2 f2 => ?_⟩
      have hd2 := f2.l ad _ hf hd
      have rl2 := rl.fe f2
      refine ⟨fun hi => ⟨hd2, by rw [itD_len rl] at hi; exact hi⟩, fun d ed => ?_⟩
      obtain ⟨k, v, x, e1, rfl, rx⟩ := itD_get rl2 ed
      refine ⟨⟨hd2, (List.getElem?_eq_some_iff.mp e1).1⟩, fun y H3 ⟨T, k', v', oT, e2, ey, hT, eH, hoT⟩ => ?_⟩
      rw [e1] at e2
      cases e2
      subst ey eH
      have g : Grow G2 H2 G2 (upd H2 T (.frz oT (.tup [kV k, v]))) := Grow.laid hT
      exact ⟨G2, w2.laid hT, g, .tup (n := fun _ => .inl ⟨oT, _, upd_same, hoT⟩) (.inl (.inr ⟨oT, upd_same⟩)) (.cons (kD_rep k) (.cons (rx.fe (g.fe w2)) .nil))⟩
  · exact q.elim
def wKeysD (wa : WE) : WI := fun ρ Φ => wa ρ fun r ρ' => match r with
  | .fr (.dct ks _) => Φ (ks.map kD) ρ'
  | _ => False
theorem p_keysD (h : PEI X G0 H0 e wa) : PII X G0 H0 tg e (wKeysD wa) := by
  refine pi_imp (pi_keys h) fun σ H R' h => ?_
  obtain ⟨ρ, G, Φ, S, h, c⟩ := h
  refine ⟨ρ, G, _, S, h, fun r ρ' v G' H' q S' P L x => ?_⟩
  split at q
  · rename_i ks ds
    cases x with
    | dct hf hd hk rl =>
      rename_i ad o kvs
      subst hk
      refine ⟨ad, o, rfl, .inl ⟨kvs, hd, c _ ρ' _ G' H' q S' P L fun i G2 H2 w2 f2 => ?_⟩⟩
      have hd2 := f2.l ad _ hf hd
      refine ⟨fun hi => ⟨hd2, by rw [List.length_map, List.length_map] at hi; exact hi⟩, fun d ed => ?_⟩
      rw [List.getElem?_map, List.getElem?_map] at ed
      cases e1 : kvs[i]? with
      | none => rw [e1] at ed; cases ed
      | some kv =>
        rw [e1] at ed
        have ed' : some (kD kv.1) = some d := ed
        cases ed'
        refine ⟨⟨hd2, (List.getElem?_eq_some_iff.mp e1).1⟩, fun y H3 ⟨eH, k', v', e2, ey⟩ => ?_⟩
        rw [e1] at e2
        cases e2
        subst ey eH
        exact ⟨G2, w2, Grow.refl _ _, kD_rep _⟩
  · exact q.elim
/-! ### d.get(k, x) -/
def getW (d : D) (k : D) (r : R) (Φ : R → Prop) : Prop := match d, keyD k, r with
  | .dct ks ds, some k, .fr x => Φ (.fr ((lookD ks ds k).getD x))
  | _, _, _ => False
def wGet2 (wa wk wx : WE) : WE := fun ρ Φ => wa ρ fun r ρ1 => (∃ ks ds, r.d = .dct ks ds) ∧ wk ρ1 fun r1 ρ2 => wx ρ2 fun r2 ρ3 => getW r.d r1.d r2 fun r' => Φ r' ρ3
theorem i_get2 (hu : X.A.units + 1 < cLine) (ho : PEI X G0 H0 e wa) (hk : PEI X G0 H0 a wk) (hx : PEI X G0 H0 b wx) (m : M2 X e "get" apos a b pos := by exact ⟨rfl, rfl, rfl, rfl⟩) : PEI X G0 H0 (.Call (.Attribute e "get" apos) [a, b] [] pos) (wGet2 wa wk wx) := by
  refine pe_imp (pe_dget2 hu ho hk hx m) fun σ H Q h => ?_
  obtain ⟨ρ, G, Φ, S, h, c⟩ := h
  refine ⟨ρ, G, _, S, h, fun r ρ1 v G1 H1 q1 S1 P1 L1 x1 => ?_⟩
  obtain ⟨⟨ks, ds, ed⟩, q1⟩ := q1
  have x1' := x1.sh
  rw [ed] at x1'
  obtain ⟨ad, o, kvs, rfl, hd, hk', rl⟩ := x1'.dict
  refine ⟨ad, rfl, .inl ⟨kvs, .inr ⟨o, hd⟩⟩, ρ1, G1, _, S1, q1, fun r1 ρ2 v1 G2 H2 q2 S2 P2 L2 x2 => ⟨ρ2, G2, _, S2, q2, fun r2 ρ3 v2 G3 H3 q3 S3 P3 L3 x3 => ?_⟩⟩
  have x4 := (x1.sh.stp S1.wd P2).stp S2.wd P3
  rw [ed] at x4
  obtain ⟨ad', o', kvs', ea, hd', hk2, rl'⟩ := x4.dict
  cases ea
  unfold getW at q3
  rw [ed] at q3
  dsimp only at q3
  split at q3
  · rename_i ks1 ds1 k x e0 ek
    cases e0
    have ev : v1 = kV k := key_sh (x2.sh.stp S2.wd P3) ek
    subst ev
    have PP := (P1.trans S1.wd P2 L1).trans S2.wd P3 (L2.trans L1)
    have LL := L3.trans (L2.trans L1)
    refine ⟨valV kvs' k, DGet.f hd', ?_⟩
    have lv := look_val k rl'
    rw [hk2] at lv
    rcases lv with ⟨l1, l2⟩ | ⟨d, v, l1, l2, rd⟩
    · rw [l1] at q3
      rw [l2]
      exact c _ ρ3 _ G3 H3 q3 S3 PP LL x3
    · rw [l1] at q3
      rw [l2]
      exact c _ ρ3 _ G3 H3 q3 S3 PP LL rd
  · exact q3.elim
end
end Tv
/-! Tv34: d.update(pairs), dict comprehensions, isinstance of some types, sorted(d). -/
namespace Tv
open PySem PySem.Spec PyProof.Rows L2
variable [LamT]
section
variable {X : Cx}
variable {G0 : Gh} {H0 : Hp} {e : Expr} {wa : WE} {pos p apos pos' : Pos} {x : Str} {j : Nat}
def dupdW (j : Nat) (d : D) (ρ : En) (S : SK) : Prop := match ρ[j]?, dpairs d with
  | some (.ow (.dct ks ds)), some kds => ks.length + kds.length ≤ 16000000 ∧ S.nx (ρ.set j (.ow (.dct (mrgK ks (kds.map (·.1))) (mrgD ks ds kds))))
  | _, _ => False
def sDUpd (j : Nat) (wa : WE) : WS := fun ρ S => (∃ ks ds, ρ[j]? = some (.ow (.dct ks ds))) ∧ wa ρ fun r ρ1 => dupdW j r.d ρ1 S
end
/-! ### isinstance(x, (T, U)) -/
section
variable {X : Cx} {G0 : Gh} {H0 : Hp} {wa : WE} {pos p p2 p3 p4 : Pos} {e : Expr} {T U : Str} {t u : String} {kk : Nat}
def isT2W (t u : String) (r : R) (Φ : R → En → Prop) (ρ : En) : Prop := match r.d.ty with
  | some n => Φ (.fr (.bl (isTy n t || isTy n u))) ρ
  | none => False
end
/-! ### sorted(d), the keys texts -/
section
variable {X : Cx} {G0 : Gh} {H0 : Hp} {wa : WE} {pos p : Pos} {e : Expr}
def strKs : List Key → Option (List Str)
  | [] => some []
  | .inr x :: ks => (strKs ks).map (x :: ·)
  | _ => none
theorem strKs_map : ∀ {ks : List Key} {xs : List Str}, strKs ks = some xs → ks = xs.map Sum.inr
  | [], _, e => by cases e; rfl
  | .inr x :: ks, _, e => by
    have e' : (strKs ks).map (x :: ·) = some _ := e
    cases q : strKs ks with
    | none => rw [q] at e'; cases e'
    | some ys => rw [q] at e'; cases e'; rw [strKs_map q]; rfl
  | .inl _ :: _, _, e => by cases e
def sortDW (d : D) (Φ : R → En → Prop) (ρ : En) : Prop := match d with
  | .dct ks _ => (match strKs ks with
    | some xs => xs.length < 64 ∧ Φ (.ow (.lst ((xs.mergeSort leS).map .str))) ρ
    | none => False)
  | _ => False
def wSortD (wa : WE) : WE := fun ρ Φ => wa ρ fun r ρ' => sortDW r.d Φ ρ'
theorem le_of_not {p x : Str} (h : (!ltCps x.cps.toList p.cps.toList) = true) : leS p x = true := by
  unfold leS
  rw [decide_eq_true_iff]
  have e : ltCps x.cps.toList p.cps.toList = false := by simpa using h
  rw [ltCps_eq] at e
  exact List.not_lt.mp (by simpa using e)
theorem rising_pw : ∀ (p : Str) (xs : List Str), risingS p xs = true → (p :: xs).Pairwise fun a b => leS a b = true
  | p, [], _ => List.pairwise_singleton _ _
  | p, x :: xs, h => by
    have h' : ((!ltCps x.cps.toList p.cps.toList) && risingS x xs) = true := h
    rw [Bool.and_eq_true] at h'
    have ih := rising_pw x xs h'.2
    refine List.pairwise_cons.mpr ⟨fun y hy => ?_, ih⟩
    rcases List.mem_cons.mp hy with rfl | hy
    · exact le_of_not h'.1
    · exact leS_tr p x y (le_of_not h'.1) ((List.pairwise_cons.mp ih).1 y hy)
theorem sortS_of {L M : List Str} (h1 : sortedS M = true) (h2 : M.Perm L) : M = L.mergeSort leS := by
  refine (sort_is ?_ h2).symm
  cases M with
  | nil => exact List.Pairwise.nil
  | cons x M => exact rising_pw x M h1
theorem strs_rep {K : PySem.W.Frag} {G : Gh} {H : Hp} : ∀ xs : List Str, RepL K G H (xs.map D.str) (xs.map V.str)
  | [] => .nil
  | x :: xs => .cons (.str x) (strs_rep xs)
theorem i_sortD (hc : X.calm = true) (hg : Gl X "sorted") (hm : X.mg "sorted" = none) (h : PEI X G0 H0 e wa) (hs : starEach (e :: []) X.env = (false, eval e X.env) :: starEach [] X.env := by rfl) : PEI X G0 H0 (.Call (.Name "sorted" p) [e] [] pos) (wSortD wa) := by
  refine pe_imp (pe_callB (call_sortedD hc) hg hm (by decide +kernel) (pa_cons h pa_nil hs) (by decide) (by decide) hs rfl) fun σ H Q h => ?_
  obtain ⟨ρ, G, Φ, S, h, c⟩ := h
  refine ⟨ρ, G, _, S, h, fun r ρ' v G' H' q S' P L x => ?_⟩
  unfold sortDW at q
  split at q
  · rename_i ks ds ed
    split at q
    · rename_i xs ek
      have x' := x.sh
      rw [ed] at x'
      obtain ⟨ad, o, kvs, rfl, hd, hk, rl⟩ := x'.dict
      refine ⟨ad, kvs, xs, rfl, .inr ⟨o, hd⟩, by rw [hk]; exact strKs_map ek, q.1, fun ys l hp hso hl => ?_⟩
      obtain rfl := sortS_of hso hp
      have g : Grow G' H' G' (upd H' l (.lst ((xs.mergeSort leS).map V.str))) := Grow.laid hl
      exact c _ ρ' _ G' _ q.2 (S'.grow (S'.wd.laid hl) g) (P.trans S'.wd g.stp L) L ⟨l, rfl, Own.laid S'.wd hl (strs_rep _), P.nn S'.wd hl⟩
    · exact q.elim
  · exact q.elim
end
end Tv
/-! Tv35: dict comprehensions; a bag's cell in an unpacking. -/
namespace Tv
open PySem PySem.Spec PyProof.Rows L2
variable [LamT]
def dcD (W : WTg) (wt : WT) (wk wv : WE) (vs : List Nat) (Φ : List Key → List D → En → Prop) : List D → List Key → List D → En → Prop
  | [], ks, xs, ρ => Φ ks xs ρ
  | d :: ds, ks, xs, ρ => W d ρ fun ρ1 => wt ρ1 fun b ρ2 => if b = true then wk ρ2 fun rk ρ3 => wv ρ3 fun rv ρ4 => match keyD rk.d, rv with
      | some k, .fr y => ks.length < sizeLine ∧ dcD W wt wk wv vs Φ ds (putKs ks k) (putDs ks xs k y) (wipeE vs 0 ρ4)
      | _, _ => False
    else dcD W wt wk wv vs Φ ds ks xs (wipeE vs 0 ρ2)
def wDc (wi : WI) (W : WTg) (wt : WT) (wk wv : WE) (vs : List Nat) : WE := fun ρ Φ => wi ρ fun ds ρ1 => dcD W wt wk wv vs (fun ks xs ρe => Φ (.ow (.dct ks xs)) (mixE vs 0 ρ1 ρe)) ds [] [] (wipeE vs 0 ρ1)
section
variable {X : Cx} {G0 : Gh} {H0 : Hp} {K : PySem.W.Frag} {σ : L2.St} {H : Hp} {wi : WI} {W : WTg} {wt : WT} {wk wv : WE} {vs : List Nat}
structure MkD (K : PySem.W.Frag) (p : Addr) (ks : List Key) (acc : List D) (G : Gh) (H : Hp) (kvs : List (Key × V)) : Prop where
  at_ : H p = some (.dK kvs)
  k : kvs.map (·.1) = ks
  r : RepL K G H acc (kvs.map (·.2))
  f : ¬ G.F p
  b : ¬ G.B p
theorem MkD.stp {p : Addr} {ks : List Key} {acc : List D} {kvs : List (Key × V)} {G G' : Gh} {H' : Hp} {ρ : En} (m : MkD K p ks acc G H kvs) (w : Wd G H) (P : Stp ρ σ G H G' H') (hn : ¬ OwnA ρ σ p) : MkD K p ks acc G' H' kvs := by
  refine ⟨P.k _ _ m.at_ m.b, m.k, m.r.fe (P.fe w), fun z => ?_, fun z => ?_⟩
  · rcases P.nf p z with z | z | z
    · exact m.f z
    · rw [m.at_] at z; cases z
    · exact hn z
  · rcases P.nb p z with z | z
    · exact m.b z
    · rw [m.at_] at z; cases z
set_option maxHeartbeats 800000 in
theorem tdc_of {Q : VK} (h : TX K G0 H0 (wDc wi W wt wk wv vs) σ H Q) : tDc (TIX K G0 H0 wi) (TGX K G0 H0 vs W) (TTX K G0 H0 wt) (TX K G0 H0 wk) (TX K G0 H0 wv) vs σ H (fun v H1 => ∃ l kvs, v = .ref l ∧ H1 l = some (.dK kvs) ∧ ∀ od, Q (.ref l) (upd H1 l (.frz od (.dK kvs)))) := by
  obtain ⟨ρ, G, Φ, S, h, c⟩ := h
  refine ⟨ρ, G, _, S, h, fun ds ρ1 J G1 H1 q s1 P L it p hp => ?_⟩
  have hown : ¬ OwnA ρ1 σ p := fun z => by
    obtain ⟨o, e⟩ := s1.tracked z
    rw [hp] at e; cases e
  have g0 : Grow G1 H1 G1 (upd H1 p (.dK [])) := Grow.laid hp
  have s2 := s1.grow (s1.wd.laid (o := .dK []) hp) g0
  have m0 : MkD K p [] [] G1 (upd H1 p (.dK [])) [] := by
    refine ⟨upd_same, rfl, .nil, fun z => ?_, fun z => ?_⟩
    · obtain ⟨o, e⟩ := s1.wd.f p z
      rw [hp] at e; cases e
    · obtain ⟨ys, e⟩ := s1.wd.btr z
      rw [hp] at e; cases e
  have h0 : H0 p = none := s1.none0 hp
  refine ⟨fun i m H' => m = ds.length - i ∧ i ≤ ds.length ∧ ∃ ρ' G' ks acc kvs, Sta K G0 H0 ρ' G' H' (wipe σ vs) ∧ Stp (wipeE vs 0 ρ1) (wipe σ vs) G1 H1 G' H' ∧ LeE ρ' (wipeE vs 0 ρ1) ∧ MkD K p ks acc G' H' kvs ∧
    dcD W wt wk wv vs (fun ks xs ρe => Φ (.ow (.dct ks xs)) (mixE vs 0 ρ1 ρe)) (ds.drop i) ks acc ρ', ⟨ds.length, by omega, Nat.zero_le _, wipeE vs 0 ρ1, G1, [], [], [], s2.wiped, g0.stp, LeE.refl _, m0, q⟩, ?_⟩
  rintro i m H' ⟨rfl, hi, ρ', G', ks, acc, kvs, s', P', L', mk, q'⟩
  obtain ⟨it1, it2⟩ := it i G' H' s'.wd (P'.fe s1.wd)
  have own' : ∀ a, OwnA ρ' (wipe σ vs) a → OwnA (wipeE vs 0 ρ1) (wipe σ vs) a := fun a z => L'.own z
  by_cases hlt : i < ds.length
  · obtain ⟨d, ed⟩ : ∃ d, ds[i]? = some d := ⟨ds[i], by simp [hlt]⟩
    obtain ⟨go, yl⟩ := it2 d ed
    have e2 : ds.drop i = d :: ds.drop (i + 1) := by
      rw [List.drop_eq_getElem_cons hlt]
      have : ds[i] = d := by simpa [hlt] using ed
      rw [this]
    rw [e2] at q'
    refine .inr ⟨go, fun H2 => i + 1 ≤ ds.length ∧ ∃ ρ2 G2 ks2 acc2 kvs2, Sta K G0 H0 ρ2 G2 H2 (wipe σ vs) ∧ Stp (wipeE vs 0 ρ1) (wipe σ vs) G1 H1 G2 H2 ∧ LeE ρ2 (wipeE vs 0 ρ1) ∧ MkD K p ks2 acc2 G2 H2 kvs2 ∧
      dcD W wt wk wv vs (fun ks xs ρe => Φ (.ow (.dct ks xs)) (mixE vs 0 ρ1 ρe)) (ds.drop (i + 1)) ks2 acc2 ρ2, fun H2 z => ⟨ds.length - (i + 1), by omega, rfl, z⟩, fun x H2 y => ?_⟩
    obtain ⟨G2, w2, g2, r2⟩ := yl x H2 y
    have P2 : Stp (wipeE vs 0 ρ1) (wipe σ vs) G1 H1 G2 H2 := P'.trans s'.wd g2.stp (LeE.refl _)
    have nop : ¬ OwnA ρ' (wipe σ vs) p := fun z => hown (own' p z).wiped
    have mk2 : MkD K p ks acc G2 H2 kvs := mk.stp s'.wd (ρ := ρ') (σ := wipe σ vs) g2.stp nop
    refine ⟨ρ', G2, d, _, s'.grow w2 g2, r2, q', fun ρ3 σ3 q3 s3 tr => ⟨tr.w.trans wipe_idem, ρ3, G2, _, s3, q3, fun b ρ4 G4 H4 q4 s4 P4 L4 => ?_⟩⟩
    have own3 : ∀ a, OwnA ρ3 σ3 a → OwnA (wipeE vs 0 ρ1) (wipe σ vs) a := fun a z => own' a (tr.o a z)
    have nop3 : ¬ OwnA ρ3 σ3 p := fun z => hown (own3 p z).wiped
    have mk4 := mk2.stp s3.wd P4 nop3
    have P14 := P2.tr s3.wd P4 own3
    have le3 : LeE (wipeE vs 0 ρ3) (wipeE vs 0 ρ1) := by
      have z := L'.wipe (vs := vs)
      rw [wipeE_idem] at z
      rw [tr.e]; exact z
    have w3 : wipe σ3 vs = wipe σ vs := tr.w.trans wipe_idem
    cases b with
    | false =>
      refine iteF ⟨hlt, wipeE vs 0 ρ4, G4, ks, acc, kvs, ?_, P14, (L4.wipe).trans le3, mk4, by simpa using q4⟩
      have z := s4.wiped (vs := vs)
      rw [w3] at z
      exact z
    | true =>
      refine iteT ⟨ρ4, G4, _, s4, by simpa using q4, fun rk ρ5 y5 G5 H5 q5 s5 P5 L5 x5 => ⟨ρ5, G5, _, s5, q5, fun rv ρ6 y6 G6 H6 q6 s6 P6 L6 x6 => ?_⟩⟩
      have nop4 : ¬ OwnA ρ4 σ3 p := fun z => nop3 (L4.own z)
      have nop5 : ¬ OwnA ρ5 σ3 p := fun z => nop4 (L5.own z)
      have nop6 : ¬ OwnA ρ6 σ3 p := fun z => nop5 (L6.own z)
      have mk5 := mk4.stp s4.wd P5 nop4
      have mk6 := mk5.stp s5.wd P6 nop5
      have P15 := P14.tr s4.wd P5 fun a z => own3 a (L4.own z)
      have P16 := P15.tr s5.wd P6 fun a z => own3 a (L4.own (L5.own z))
      split at q6
      · rename_i k yd ek
        have x6' : Rep K G6 H6 yd y6 := x6
        have ey : y5 = kV k := key_sh (x5.sh.stp s5.wd P6) ek
        subst ey
        have lk : kvs.length = ks.length := by rw [← mk6.k, List.length_map]
        have f : FE G6 H6 G6 (upd H6 p (.dK (putK kvs k y6))) := FE.wrU mk6.at_ (fun _ z => by cases z) (fun _ _ z => by cases z) mk6.f
        obtain ⟨p1, p2⟩ := put_rep k (x6'.fe f) (mk6.r.fe f)
        rw [mk6.k] at p1 p2
        refine ⟨kvs, k, rfl, mk6.at_, by rw [lk]; exact q6.1, hlt, wipeE vs 0 ρ6, G6, putKs ks k, putDs ks acc k yd, putK kvs k y6, ?_, ?_, (L6.wipe).trans ((L5.wipe).trans ((L4.wipe).trans le3)), ⟨upd_same, p1, p2, mk6.f, mk6.b⟩, q6.2⟩
        · have z := (s6.wrU f mk6.f mk6.b h0 nop6 (by rw [mk6.at_]; nofun)).wiped (vs := vs)
          rw [w3] at z
          exact z
        · exact ⟨P16.f, P16.b, fun a o e hb => by rw [upd_ne (fun z => by rw [z, hp] at e; cases e)]; exact P16.k a o e hb, P16.nf, P16.nb, P16.nm⟩
      · exact q6.elim
  · have e : i = ds.length := by omega
    subst e
    rw [List.drop_length] at q'
    refine .inl ⟨it1 (Nat.le_refl _), p, kvs, rfl, mk.at_, fun od => ?_⟩
    have f : FE G' H' G' (upd H' p (.frz od (.dK kvs))) := FE.wrU mk.at_ (fun _ z => by cases z) (fun _ _ z => by cases z) mk.f
    have nopE : ¬ OwnA (mixE vs 0 ρ1 ρ') σ p := fun z => hown ((L'.mix).own z)
    have S3 := (s1.mix s' (P'.fe s1.wd)).wrU f mk.f mk.b h0 nopE (by rw [mk.at_]; nofun)
    have P1' : Stp ρ1 σ G1 H1 G' (upd H' p (.frz od (.dK kvs))) := ⟨P'.f, P'.b, fun a o e hb => by rw [upd_ne (fun z => by rw [z, hp] at e; cases e)]; exact P'.k a o e hb, fun a z => (P'.nf a z).elim .inl fun z => .inr (z.elim .inl fun z => .inr z.wiped), P'.nb, P'.nm⟩
    exact c _ _ _ G' _ q' S3 (P.trans s1.wd P1' L) ((L'.mix).trans L) ⟨p, rfl, ⟨mk.f, mk.b, od, kvs, upd_same, mk.k, mk.r.fe f⟩, P.nn s1.wd hp⟩
variable {kx vx tg iter : Expr} {ifs : List Expr} {scope : Scope} {own : List (Str × Nat)} {pos : Pos}
theorem i_dc (hc : X.calm = true) (hN : X.N.Nodup) (hi : PII X G0 H0 tg iter wi) (ok : BlkOk X.N X.env.scope scope own)
    (hg : ∀ (s : Shared) (H : Hp) (C : Addr) (cl : List (Str × Addr)) (fp : List Addr), PGI (X.blk s H scope (compEnvC scope cl C X.env) fp) G0 H0 (own.map (·.2)) tg W) (ht : ∀ (s : Shared) (H : Hp) (C : Addr) (cl : List (Str × Addr)) (fp : List Addr), PTsI (X.blk s H scope (compEnvC scope cl C X.env) fp) G0 H0 ifs wt)
    (hk : ∀ (s : Shared) (H : Hp) (C : Addr) (cl : List (Str × Addr)) (fp : List Addr), PEI (X.blk s H scope (compEnvC scope cl C X.env) fp) G0 H0 kx wk)
    (he : ∀ (s : Shared) (H : Hp) (C : Addr) (cl : List (Str × Addr)) (fp : List Addr), PEI (X.blk s H scope (compEnvC scope cl C X.env) fp) G0 H0 vx wv) (hs : ∀ x, foldedSetIterable iter X.env x = pure x := by intro _; rfl) :
    PEI X G0 H0 (.DictComp kx vx [⟨tg, iter, ifs, 0⟩] scope pos) (wDc wi W wt wk wv (own.map (·.2))) :=
  pe_imp (pe_lock (pe_dc (g := TGX X.K G0 H0 (own.map fun p : Str × Nat => p.2) W) (tt := TTX X.K G0 H0 wt) (tk := TX X.K G0 H0 wk) (tv := TX X.K G0 H0 wv) hc hN hi ok hg ht hk he hs)) fun σ H Q h => tdc_of h
end
end Tv
/-! Tv36: a cell of the bag stored in an unpacking; steps for what Tv32 .. Tv35 brought. -/
namespace Tv
open PySem PySem.Spec PyProof.Rows L2
variable [LamT]
section
variable {X : Cx} {G0 : Gh} {H0 : Hp} {ea eb : Expr} {ws : WA} {pos pn pb pc pt pq pq2 : Pos}
def bagParW (i b : Nat) (c : Int) (d : D) (ρ : En) (S : SK) : Prop := match d with
  | .tup [d, .int n] => i < ρ.length ∧ i ≠ b ∧ ρ[b]? = some (.fr .bag) ∧ bagOk c n ∧ S.nx (ρ.set i (.fr d))
  | _ => False
end
/-! ### steps -/
section
variable {ρ : En} {Φ : R → En → Prop} {Φi : List D → En → Prop} {S : SK} {wa wb wk wx : WE} {ws : WA} {r : R} {d : D} {ks : List Key} {ds : List D} {c f : Str} {wf : WF} {i j b : Nat} {n : Int} {kds : List (Key × D)} {k : Key}
theorem e_at (h : wa ρ fun r ρ' => attW c f r.d Φ ρ') : wAt c f wa ρ Φ := h
instance st_at : Step (wAt c f wa ρ Φ) (wa ρ fun r ρ' => attW c f r.d Φ ρ') := ⟨fun h => e_at h⟩
theorem e_attW (q : r.d = .ins c [f] [d]) (h : Φ (.fr d) ρ) : attW c f r.d Φ ρ := by rw [q]; exact ⟨rfl, rfl, h⟩
instance ic_attW : IsC (attW c f r.d Φ ρ) := ⟨fun h => h⟩
theorem e_meth (h : wa ρ fun r ρ1 => methW c wf ws r Φ ρ1) : wMeth c wf wa ws ρ Φ := h
instance st_meth : Step (wMeth c wf wa ws ρ Φ) (wa ρ fun r ρ1 => methW c wf ws r Φ ρ1) := ⟨fun h => e_meth h⟩
def meth2 (wf : WF) (d : D) (rs : List R) (Φ : R → En → Prop) (ρ : En) : Prop := match frs' rs with
  | some es => wf (d :: es) fun r' => Φ r' ρ
  | none => False
theorem e_methW {ns : List Str} (h : ws ρ fun rs ρ2 => meth2 wf (.ins c ns ds) rs Φ ρ2) : methW c wf ws (.fr (.ins c ns ds)) Φ ρ := ⟨rfl, h⟩
instance st_methW {ns : List Str} : Step (methW c wf ws (.fr (.ins c ns ds)) Φ ρ) (ws ρ fun rs ρ2 => meth2 wf (.ins c ns ds) rs Φ ρ2) := ⟨fun h => e_methW h⟩
theorem e_meth2 {rs : List R} {es : List D} (q : frs' rs = some es) (h : wf (d :: es) fun r => Φ r ρ) : meth2 wf d rs Φ ρ := by unfold meth2; rw [q]; exact h
instance ic_meth2 {rs : List R} : IsC (meth2 wf d rs Φ ρ) := ⟨fun h => h⟩
theorem e_dnew (h : Φ (.ow (.dct [] [])) ρ) : wDnew ρ Φ := h
instance st_dnew : Step (wDnew ρ Φ) (Φ (.ow (.dct [] [])) ρ) := ⟨fun h => e_dnew h⟩
def dictPW (d : D) (Φ : R → En → Prop) (ρ : En) : Prop := match dpairs d with
  | some kds => Φ (.ow (.dct (mrgK [] (kds.map (·.1))) (mrgD [] [] kds))) ρ
  | none => False
theorem e_dictP (h : wa ρ fun r ρ' => dictPW r.d Φ ρ') : wDictP wa ρ Φ := h
instance st_dictP : Step (wDictP wa ρ Φ) (wa ρ fun r ρ' => dictPW r.d Φ ρ') := ⟨fun h => e_dictP h⟩
theorem e_dictPW (q : dpairs d = some kds) (h : Φ (.ow (.dct (mrgK [] (kds.map (·.1))) (mrgD [] [] kds))) ρ) : dictPW d Φ ρ := by unfold dictPW; rw [q]; exact h
def dictDW (d : D) (Φ : R → En → Prop) (ρ : En) : Prop := match d with
  | .dct ks ds => Φ (.ow (.dct ks ds)) ρ
  | _ => False
theorem e_dictD (h : wa ρ fun r ρ' => dictDW r.d Φ ρ') : wDictD wa ρ Φ := h
instance st_dictD : Step (wDictD wa ρ Φ) (wa ρ fun r ρ' => dictDW r.d Φ ρ') := ⟨fun h => e_dictD h⟩
theorem e_dictDW (q : d = .dct ks ds) (h : Φ (.ow (.dct ks ds)) ρ) : dictDW d Φ ρ := by subst q; exact h
instance ic_dictDW : IsC (dictDW d Φ ρ) := ⟨fun h => h⟩
def itemsW (r : R) (Φ : List D → En → Prop) (ρ : En) : Prop := match r with
  | .fr (.dct ks ds) => Φ (itD ks ds) ρ
  | _ => False
theorem e_items (h : wa ρ fun r ρ' => itemsW r Φi ρ') : wItems wa ρ Φi := h
instance st_items : Step (wItems wa ρ Φi) (wa ρ fun r ρ' => itemsW r Φi ρ') := ⟨fun h => e_items h⟩
theorem e_itemsW (h : Φi (itD ks ds) ρ) : itemsW (.fr (.dct ks ds)) Φi ρ := h
instance st_itemsW : Step (itemsW (.fr (.dct ks ds)) Φi ρ) (Φi (itD ks ds) ρ) := ⟨fun h => e_itemsW h⟩
def keysW (r : R) (Φ : List D → En → Prop) (ρ : En) : Prop := match r with
  | .fr (.dct ks _) => Φ (ks.map kD) ρ
  | _ => False
theorem e_keysD (h : wa ρ fun r ρ' => keysW r Φi ρ') : wKeysD wa ρ Φi := h
instance st_keysD : Step (wKeysD wa ρ Φi) (wa ρ fun r ρ' => keysW r Φi ρ') := ⟨fun h => e_keysD h⟩
theorem e_keysW (h : Φi (ks.map kD) ρ) : keysW (.fr (.dct ks ds)) Φi ρ := h
instance st_keysW : Step (keysW (.fr (.dct ks ds)) Φi ρ) (Φi (ks.map kD) ρ) := ⟨fun h => e_keysW h⟩
theorem e_get2 (h : wa ρ fun r ρ1 => (∃ ks ds, r.d = .dct ks ds) ∧ wk ρ1 fun r1 ρ2 => wx ρ2 fun r2 ρ3 => getW r.d r1.d r2 fun r' => Φ r' ρ3) : wGet2 wa wk wx ρ Φ := h
instance st_get2 : Step (wGet2 wa wk wx ρ Φ) (wa ρ fun r ρ1 => (∃ ks ds, r.d = .dct ks ds) ∧ wk ρ1 fun r1 ρ2 => wx ρ2 fun r2 ρ3 => getW r.d r1.d r2 fun r' => Φ r' ρ3) := ⟨fun h => e_get2 h⟩
theorem e_getW {e x : D} {Ψ : R → Prop} (q : d = .dct ks ds) (q2 : keyD e = some k) (h : Ψ (.fr ((lookD ks ds k).getD x))) : getW d e (.fr x) Ψ := by subst q; unfold getW; rw [q2]; exact h
theorem e_isi2W {t u m : String} (q : r.d.ty = some m) (h : Φ (.fr (.bl (isTy m t || isTy m u))) ρ) : isT2W t u r Φ ρ := by unfold isT2W; rw [q]; exact h
theorem e_sortD (h : wa ρ fun r ρ' => sortDW r.d Φ ρ') : wSortD wa ρ Φ := h
instance st_sortD : Step (wSortD wa ρ Φ) (wa ρ fun r ρ' => sortDW r.d Φ ρ') := ⟨fun h => e_sortD h⟩
theorem e_sortDW {xs : List Str} (q : d = .dct ks ds) (q2 : strKs ks = some xs) (l : xs.length < 64) (h : Φ (.ow (.lst ((xs.mergeSort leS).map .str))) ρ) : sortDW d Φ ρ := by subst q; unfold sortDW; dsimp only; rw [q2]; exact ⟨l, h⟩
theorem e_dupd (q : ρ[j]? = some (.ow (.dct ks ds))) (h : wa ρ fun r ρ1 => dupdW j r.d ρ1 S) : sDUpd j wa ρ S := ⟨⟨_, _, q⟩, h⟩
instance ic_dupd : IsC (sDUpd j wa ρ S) := ⟨fun h => h⟩
theorem e_dc {wi : WI} {W : WTg} {wt : WT} {wv : WE} {vs : List Nat} (h : wi ρ fun ds ρ1 => dcD W wt wk wv vs (fun ks xs ρe => Φ (.ow (.dct ks xs)) (mixE vs 0 ρ1 ρe)) ds [] [] (wipeE vs 0 ρ1)) : wDc wi W wt wk wv vs ρ Φ := h
instance st_dc {wi : WI} {W : WTg} {wt : WT} {wv : WE} {vs : List Nat} : Step (wDc wi W wt wk wv vs ρ Φ) (wi ρ fun ds ρ1 => dcD W wt wk wv vs (fun ks xs ρe => Φ (.ow (.dct ks xs)) (mixE vs 0 ρ1 ρe)) ds [] [] (wipeE vs 0 ρ1)) := ⟨fun h => e_dc h⟩
theorem e_bagPar0 {m : Int} (q : d = .tup [.int m, .int n]) (l : Nat.blt i ρ.length = true) (hne : i ≠ b) (q2 : ρ[b]? = some (.fr .bag)) (l2 : 0 ≤ n) (h : S.nx (ρ.set i (.fr (.int m)))) : bagParW i b 0 d ρ S := by subst q; exact ⟨Nat.blt_eq.mp l, hne, q2, l2, h⟩
instance ic_bagPar0 : IsC (bagParW i b 0 d ρ S) := ⟨fun h => h⟩
/-- a comprehension of a dict, told row by row -/
def stepDc (W : WTg) (wt : WT) (wk wv : WE) (vs : List Nat) (ρ : En) (d : D) (Ψ : Option (Key × D) → En → Prop) : Prop := W d ρ fun ρ1 => wt ρ1 fun b ρ2 => if b = true then wk ρ2 fun rk ρ3 => wv ρ3 fun rv ρ4 => match keyD rk.d, rv with
      | some k, .fr y => Ψ (some (k, y)) (wipeE vs 0 ρ4)
      | _, _ => False
    else Ψ none (wipeE vs 0 ρ2)
theorem dcD_of {α : Type} {W : WTg} {wt : WT} {wv : WE} {vs : List Nat} {Φ : List Key → List D → En → Prop} (inj : α → D) (g : α → Key × D) : ∀ (xs : List α) (ks : List Key) (acc : List D), (∀ x ∈ xs, ∀ Ψ : Option (Key × D) → En → Prop, Ψ (some (g x)) ρ → stepDc W wt wk wv vs ρ (inj x) Ψ) → ks.length + xs.length ≤ 16000000 →
    Φ (mrgK ks (xs.map fun x => (g x).1)) (mrgD ks acc (xs.map g)) ρ → dcD W wt wk wv vs Φ (xs.map inj) ks acc ρ
  | [], ks, acc, _, _, h => h
  | x :: xs, ks, acc, hs, hl, h => by
    have e := sizeLine_eq
    rw [List.length_cons] at hl
    have lp : (putKs ks (g x).1).length ≤ ks.length + 1 := by unfold putKs; split <;> simp
    have q := hs x List.mem_cons_self (fun o ρ' => match o with
      | some y => ks.length < sizeLine ∧ dcD W wt wk wv vs Φ (xs.map inj) (putKs ks y.1) (putDs ks acc y.1 y.2) ρ'
      | none => dcD W wt wk wv vs Φ (xs.map inj) ks acc ρ') ⟨by omega, dcD_of inj g xs _ _ (fun y hy => hs y (List.mem_cons_of_mem _ hy)) (by omega) h⟩
    exact q
end
end Tv
/-! Tv37: for plain laws: data that may be compared and shown; equality; dicts of pairs; comprehensions told with what they are of. -/
namespace Tv
open PySem PySem.Spec PyProof.Rows L2
variable [LamT]
/-! ### data that may be looked at, compared, shown -/
structure Fine (m : Nat) (c : Nat) (d : D) : Prop where
  gd : d.good = true
  sh : d.sho = true
  dp : d.dep ≤ m
  ct : d.cost ≤ c
structure FineL (m : Nat) (c : Nat) (ds : List D) : Prop where
  gd : D.goodL ds = true
  sh : D.shoL ds = true
  dp : D.depL ds ≤ m
  ct : D.costL ds ≤ c
theorem FineL.nil {m : Nat} : FineL m 0 [] := ⟨rfl, rfl, Nat.zero_le _, Nat.zero_le _⟩
theorem Fine.cons {m c c' : Nat} {d : D} {ds : List D} (h : Fine m c d) (t : FineL m c' ds) : FineL m (c + 2 + c') (d :: ds) := by
  refine ⟨?_, ?_, ?_, ?_⟩
  · show (d.good && D.goodL ds) = true
    rw [h.gd, t.gd]; rfl
  · show (d.sho && D.shoL ds) = true
    rw [h.sh, t.sh]; rfl
  · exact Nat.max_le.mpr ⟨h.dp, t.dp⟩
  · show d.cost + 2 + D.costL ds ≤ _
    have := h.ct
    have := t.ct
    omega
theorem FineL.tup {m c : Nat} {ds : List D} (h : FineL m c ds) : Fine (m + 1) (c + 3) (.tup ds) := ⟨h.gd, h.sh, Nat.succ_le_succ h.dp, Nat.add_le_add_right h.ct 3⟩
theorem FineL.lst {m c : Nat} {ds : List D} (h : FineL m c ds) : Fine (m + 1) (c + 3) (.lst ds) := ⟨h.gd, h.sh, Nat.succ_le_succ h.dp, Nat.add_le_add_right h.ct 3⟩
theorem Fine.le {m m' c c' : Nat} {d : D} (h : Fine m c d) (hm : m ≤ m') (hc : c ≤ c') : Fine m' c' d := ⟨h.gd, h.sh, Nat.le_trans h.dp hm, Nat.le_trans h.ct hc⟩
theorem FineL.le {m m' c c' : Nat} {d : List D} (h : FineL m c d) (hm : m ≤ m') (hc : c ≤ c') : FineL m' c' d := ⟨h.gd, h.sh, Nat.le_trans h.dp hm, Nat.le_trans h.ct hc⟩
theorem Fine.okE {m c : Nat} {d : D} (h : Fine m c d) (hm : m ≤ 64) : okE d = true := by
  unfold Tv.okE
  rw [h.gd, decide_eq_true (show d.dep ≤ 64 by have := h.dp; omega)]
  rfl
theorem Fine.okR {m c : Nat} {d : D} (h : Fine m c d) (hm : m ≤ 64) (hc : c ≤ 16777216) : okR d = true := by
  unfold Tv.okR
  rw [h.okE hm, h.sh, decide_eq_true (show d.cost ≤ 16777216 by have := h.ct; omega)]
  rfl
/-! ### equality -/
theorem e_eqD {d e : D} {Φ : R → Prop} (h1 : okE d = true) (h2 : okE e = true) (h : Φ (.fr (.bl (eqD d e)))) : oEq d e Φ := by
  unfold oEq
  split
  · rename_i a b
    rw [eq_strs] at h; exact h
  · exact ⟨by rw [h1, h2]; rfl, h⟩
theorem e_pow {m n : Int} {Φ : R → Prop} (l : CPow m n) (h : Φ (.fr (.int (m ^ n.toNat)))) : oPow (.int m) (.int n) Φ := ⟨l, h⟩
instance ic_pow {m n : Int} {Φ : R → Prop} : IsC (oPow (.int m) (.int n) Φ) := ⟨fun h => h⟩
section
variable {t u n : String} {r : R} {ρ : En} {Φ : R → En → Prop}
theorem e_isiY (q : r.d.ty = some n) (q2 : isTy n t = true) (h : Φ (.fr (.bl true)) ρ) : isiW t r Φ ρ := e_isiW q (by rw [q2]; exact h)
instance ic_isiY : IsC (isiW t r Φ ρ) := ⟨fun h => h⟩
theorem e_isiN (q : r.d.ty = some n) (q2 : isTy n t = false) (h : Φ (.fr (.bl false)) ρ) : isiW t r Φ ρ := e_isiW q (by rw [q2]; exact h)
instance ic_isiN : IsC (isiW t r Φ ρ) := ⟨fun h => h⟩
theorem e_isi2Y (q : r.d.ty = some n) (q2 : (isTy n t || isTy n u) = true) (h : Φ (.fr (.bl true)) ρ) : isT2W t u r Φ ρ := e_isi2W q (by rw [q2]; exact h)
instance ic_isi2Y : IsC (isT2W t u r Φ ρ) := ⟨fun h => h⟩
theorem e_isi2N (q : r.d.ty = some n) (q2 : (isTy n t || isTy n u) = false) (h : Φ (.fr (.bl false)) ρ) : isT2W t u r Φ ρ := e_isi2W q (by rw [q2]; exact h)
instance ic_isi2N : IsC (isT2W t u r Φ ρ) := ⟨fun h => h⟩
end
/-! ### at places -/
theorem at1 {α : Type} (x y : α) (xs : List α) : atI (x :: y :: xs) 1 = some y := by
  unfold atI ixN
  rw [if_pos (by decide), if_pos (by simp; omega)]
  rfl
/-! ### dicts of pairs -/
theorem inK_iff {ks : List Key} {k : Key} : inK ks k = true ↔ k ∈ ks := by
  unfold inK
  rw [List.any_eq_true]
  constructor
  · rintro ⟨z, hz, e⟩
    rw [← of_decide_eq_true e]; exact hz
  · intro h
    exact ⟨k, h, decide_eq_true rfl⟩
theorem mrgK_new : ∀ (new ks : List Key), (ks ++ new).Nodup → mrgK ks new = ks ++ new
  | [], ks, _ => by rw [List.append_nil]; rfl
  | k :: new, ks, h => by
    have hk : ¬ k ∈ ks := fun hk => (List.nodup_append.mp h).2.2 k hk k List.mem_cons_self rfl
    show mrgK (putKs ks k) new = _
    have e : putKs ks k = ks ++ [k] := by unfold putKs; rw [if_neg (fun z => hk (inK_iff.mp z))]
    rw [e, mrgK_new new (ks ++ [k]) (by rw [List.append_assoc]; exact h), List.append_assoc]
    rfl
theorem mrgD_new : ∀ (new : List (Key × D)) (ks : List Key) (ds : List D), (ks ++ new.map (·.1)).Nodup → mrgD ks ds new = ds ++ new.map (·.2)
  | [], ks, ds, _ => by rw [List.map_nil, List.append_nil]; rfl
  | (k, d) :: new, ks, ds, h => by
    have hk : ¬ k ∈ ks := fun hk => (List.nodup_append.mp h).2.2 k hk k List.mem_cons_self rfl
    show mrgD (putKs ks k) (putDs ks ds k d) new = _
    have e : putKs ks k = ks ++ [k] := by unfold putKs; rw [if_neg (fun z => hk (inK_iff.mp z))]
    have e2 : putDs ks ds k d = ds ++ [d] := by unfold putDs; rw [if_neg (fun z => hk (inK_iff.mp z))]
    rw [e, e2, mrgD_new new (ks ++ [k]) (ds ++ [d]) (by rw [List.append_assoc]; exact h), List.append_assoc]
    rfl
theorem nd_inr {xs : List Str} (h : xs.Nodup) : (xs.map (Sum.inr : Str → Key)).Nodup := by
  rw [List.nodup_iff_pairwise_ne, List.pairwise_map]
  exact (List.nodup_iff_pairwise_ne.mp h).imp fun hne z => hne (Sum.inr.inj z)
theorem keys_kv (ps : List (Str × D)) : (ps.map fun p => ((.inr p.1, p.2) : Key × D)).map (·.1) = (ps.map (·.1)).map Sum.inr := by
  rw [List.map_map, List.map_map]; rfl
/-- a dict made of rows whose keys are unlike -/
theorem mrg_kv {ps : List (Str × D)} (h : (ps.map (·.1)).Nodup) : mrgK [] ((ps.map fun p => ((.inr p.1, p.2) : Key × D)).map (·.1)) = ps.map (fun p => Sum.inr p.1) ∧ mrgD [] [] (ps.map fun p => (.inr p.1, p.2)) = ps.map (·.2) := by
  have n : (([] : List Key) ++ (ps.map fun p : Str × D => ((.inr p.1, p.2) : Key × D)).map (·.1)).Nodup := by
    rw [List.nil_append, keys_kv]; exact nd_inr h
  refine ⟨?_, ?_⟩
  · rw [mrgK_new _ _ n, List.nil_append, List.map_map]; rfl
  · rw [mrgD_new _ _ _ n, List.nil_append, List.map_map]; rfl
/-! ### comprehensions whose parts are told with what they are of -/
end Tv
/-! Tv38: zip of any two that are lists or tuples. -/
namespace Tv
open PySem PySem.Spec PyProof.Rows L2
variable [LamT]
section
variable {X : Cx} {G0 : Gh} {H0 : Hp} {e e2 tg : Expr} {wa : WE} {ws : WA} {pos p tpos : Pos} {K : PySem.W.Frag} {G : Gh} {H : Hp} {elts : List Expr} {kk : Nat}
def SqB (K : PySem.W.Frag) : Bool → Hp → Addr → List V → Prop
  | true, H, a, xs => SqL K H a xs
  | false, H, a, xs => SqT K H a xs
/-- data that stand as a list or a tuple -/
def AtB2 (K : PySem.W.Frag) (G : Gh) (k : Bool) (H : Hp) (a : Addr) (xs : List V) : Prop := match k with
  | true => LsF G H a xs
  | false => SqT K H a xs
theorem AtB2.sq {k : Bool} {a : Addr} {xs : List V} (h : AtB2 K G k H a xs) : SqB K k H a xs := by
  cases k with
  | true => exact LsF.sq h
  | false => exact h
def zipBW (rs : List R) (Φ : List D → En → Prop) (ρ : En) : Prop := match rs with
  | [.fr d, .fr e] => (match seqOf d, seqOf e with
    | some ds, some es => Φ (zpD ds es) ρ
    | _, _ => False)
  | _ => False
theorem e_zipBW {ρ : En} {Φ : List D → En → Prop} {d e : D} {ds es : List D} (q : seqOf d = some ds) (q2 : seqOf e = some es) (h : Φ (zpD ds es) ρ) : zipBW [.fr d, .fr e] Φ ρ := by unfold zipBW; dsimp only; rw [q, q2]; exact h
instance ic_zipBW {Φ : List D → En → Prop} {d e : D} : IsC (zipBW [.fr d, .fr e] Φ ρ) := ⟨fun h => h⟩
end
end Tv
/-! Tv39: xs[::-1] of lists and tuples. -/
namespace Tv
open PySem PySem.Spec PyProof.Rows L2 HT
variable [LamT]
section
variable {prog : Program} {w : World} {A : Around} {E : Value → Shared → Prop} {s : Shared}
end
section
variable {X : Cx} {G0 : Gh} {H0 : Hp} {e : Expr} {wa : WE} {pos : Pos} {K : PySem.W.Frag}
def revAW (d : D) (Φ : R → En → Prop) (ρ : En) : Prop := match d with
  | .lst ds => Φ (.ow (.lst ds.reverse)) ρ
  | .tup ds => Φ (.fr (.tup ds.reverse)) ρ
  | _ => False
theorem e_revAL {ρ : En} {Φ : R → En → Prop} {r : R} {ds : List D} (q : r.d = .lst ds) (h : Φ (.ow (.lst ds.reverse)) ρ) : revAW r.d Φ ρ := by rw [q]; exact h
instance ic_revAL {Φ : R → En → Prop} {r : R} : IsC (revAW r.d Φ ρ) := ⟨fun h => h⟩
theorem e_revAT {ρ : En} {Φ : R → En → Prop} {r : R} {ds : List D} (q : r.d = .tup ds) (h : Φ (.fr (.tup ds.reverse)) ρ) : revAW r.d Φ ρ := by rw [q]; exact h
instance ic_revAT {Φ : R → En → Prop} {r : R} : IsC (revAW r.d Φ ρ) := ⟨fun h => h⟩
end
end Tv
/-! Tv40: a list of what calls tell, looked at and then spoilt: found = [..]; if ..: return False; for told in found[k:]: told.append(None). -/
namespace Tv
open PySem PySem.Spec PyProof.Rows L2
variable [LamT]
/-! ### the bags out of sight -/
def Gh.hid (G : Gh) (U : Addr → Prop) : Gh := ⟨fun b => G.F b ∨ U b, fun b => isTab b, fun _ _ => False, fun _ => False⟩
theorem Wd.nTab {G : Gh} {H : Hp} {b : Addr} {o : HO} (w : Wd G H) (e : H b = some o) (n : ∀ ps, o ≠ .tbl ps) : ¬ isTab b := fun ⟨q, z⟩ => by
  obtain ⟨_, ps, e2, _⟩ := w.t _ z
  rw [e] at e2; cases e2; exact n _ rfl
theorem Wd.nTabB {G : Gh} {H : Hp} {b : Addr} (w : Wd G H) (n : ¬ G.B b) : ¬ isTab b := fun ⟨q, z⟩ => n (w.t _ z).1
/-- all that is not to be written is hidden -/
theorem Wd.hid {G : Gh} {H : Hp} {U : Addr → Prop} (w : Wd G H) (h : ∀ b, U b → (∃ o, H b = some o) ∧ ¬ G.B b) : Wd (G.hid U) H :=
  ⟨fun b hb => ⟨.inl (.inl hb), fun z => z.elim (fun z => w.nTabB (fun q => (w.b b q).2 z) hb) fun z => w.nTabB (h b z).2 hb⟩, fun b hb => hb.elim (fun z => w.f b z) fun z => (h b z).1, fun p hp => ⟨⟨p.2, hp⟩, (w.t p hp).2.on (fun _ e => e) fun c o e _ n hco => ⟨e, w.nTabB n⟩⟩, fun _ h => h.elim⟩
section
variable {K : PySem.W.Frag} {G G0 G1 : Gh} {H H0 H1 H2 : Hp} {U : Addr → Prop} {ρ ρ1 : En} {σ : L2.St}
mutual
/-- no bag within -/
def D.nb : D → Bool
  | .bag => false
  | .tup ds => D.nbL ds
  | .lst ds => D.nbL ds
  | .dct _ ds => D.nbL ds
  | .dcu _ ds => D.nbL ds
  | .ins _ _ ds => D.nbL ds
  | _ => true
def D.nbL : List D → Bool
  | [] => true
  | d :: ds => d.nb && D.nbL ds
end
mutual
theorem Rep.hid : ∀ {d : D} {v : V}, d.nb = true → Rep K G H d v → Rep K (G.hid U) H d v
  | _, _, _, .non => .non
  | _, _, _, .bl b => .bl b
  | _, _, _, .int i => .int i
  | _, _, _, .str x => .str x
  | _, _, g, @Rep.tup _ _ _ _ _ _ _ h r n => Rep.tup (n := n) h (RepL.hid g r)
  | _, _, g, .lst h r => .lst ⟨.inl h.1, h.2⟩ (RepL.hid g r)
  | _, _, g, .bag h _ => by cases g
  | _, _, g, .scr h z => .scr h z
  | _, _, g, .fn h => .fn h
  | _, _, g, .dct h e k r => .dct (.inl h) e k (RepL.hid g r)
  | _, _, g, .dcu h e y t k r => .dcu (.inl h) e y t k (RepL.hid g r)
  | _, _, g, .ins h h2 e e2 c k r => .ins (.inl h) (.inl h2) e e2 c k (RepL.hid g r)
  | _, _, g, .unk v => .unk v
  | .ptr a, _, g, .ptr _ => .ptr a
theorem RepL.hid : ∀ {ds : List D} {vs : List V}, D.nbL ds = true → RepL K G H ds vs → RepL K (G.hid U) H ds vs
  | _, _, _, .nil => .nil
  | d :: ds, _, g, .cons r t => by
    have g' : (d.nb && D.nbL ds) = true := g
    rw [Bool.and_eq_true] at g'
    exact .cons (Rep.hid g'.1 r) (RepL.hid g'.2 t)
end
/-- the cells that are looked at meanwhile -/
def frzC : Cell → Cell
  | .fr d => .fr d
  | .ow d => .fr d
  | _ => .no
def hideE (keep : List Nat) (i : Nat) (d : D) : Nat → En → En
  | _, [] => []
  | k, c :: ρ => (if k = i then .fr d else if keep.contains k = true then frzC c else .no) :: hideE keep i d (k + 1) ρ
theorem RepRs.at {Hs : Hp} : ∀ {rs : List R} {vs : List V} {j : Nat} {r : R}, RepRs K G H Hs rs vs → rs[j]? = some r → ∃ v, vs[j]? = some v ∧ RepR K G H Hs r v
  | _, _, _, _, .nil, e => by cases e
  | _, _, 0, _, .cons r t _, e => by cases e; exact ⟨_, rfl, r⟩
  | _, _, j + 1, _, .cons r t _, e => by
    obtain ⟨v, h1, h2⟩ := RepRs.at t (j := j) e
    exact ⟨v, h1, h2⟩
end
/-! ### the reading -/
section
variable {X : Cx} {G0 : Gh} {H0 : Hp} {es : List Expr} {c : Expr} {ws : WA} {wt : WT} {K : PySem.W.Frag}
end
end Tv
/-! Tv41: spoiling: for told in found[k:]: told.append(None). -/
namespace Tv
open PySem PySem.Spec PyProof.Rows L2
variable [LamT]
section
variable {X : Cx}
def notW (r : R) (Φ : R → En → Prop) (ρ : En) : Prop := match r.d with
  | .bl k => Φ (.fr (.bl (!k))) ρ
  | _ => False
theorem e_wNot {wa : WE} {Φ : R → En → Prop} {ρ : En} (h : wa ρ fun r ρ' => notW r Φ ρ') : wNot wa ρ Φ := h
instance st_wNot {wa : WE} {Φ : R → En → Prop} {ρ : En} : Step (wNot wa ρ Φ) (wa ρ fun r ρ' => notW r Φ ρ') := ⟨fun h => e_wNot h⟩
theorem e_notW {r : R} {b : Bool} {Φ : R → En → Prop} {ρ : En} (q : r.d = .bl b) (h : Φ (.fr (.bl (!b))) ρ) : notW r Φ ρ := by unfold notW; rw [q]; exact h
instance ic_notW {r : R} {Φ : R → En → Prop} {ρ : En} : IsC (notW r Φ ρ) := ⟨fun h => h⟩
theorem atI_getN {α : Type} {xs : List α} {n : Nat} (h : n < xs.length) : atI xs (n : Int) = some xs[n] := by
  unfold atI ixN
  rw [if_pos (by omega), if_pos (by omega)]
  simp [h]
def starW (ws : WA) (d : D) (Φ : List R → En → Prop) (ρ : En) : Prop := match itemsD d with
  | some ds => ws ρ fun rs ρ2 => Φ (ds.map R.fr ++ rs) ρ2
  | none => False
theorem e_star {wa : WE} {ws : WA} {Φ : List R → En → Prop} {ρ : En} (h : wa ρ fun r ρ' => starW ws r.d Φ ρ') : wStar wa ws ρ Φ := h
instance st_star {wa : WE} {ws : WA} {Φ : List R → En → Prop} {ρ : En} : Step (wStar wa ws ρ Φ) (wa ρ fun r ρ' => starW ws r.d Φ ρ') := ⟨fun h => e_star h⟩
theorem e_starW {ws : WA} {Φ : List R → En → Prop} {ρ : En} {d : D} {ds : List D} (q : itemsD d = some ds) (h : ws ρ fun rs ρ2 => Φ (ds.map R.fr ++ rs) ρ2) : starW ws d Φ ρ := by unfold starW; rw [q]; exact h
instance ic_starW {ws : WA} {Φ : List R → En → Prop} {d : D} : IsC (starW ws d Φ ρ) := ⟨fun h => h⟩
end
end Tv
/-! Tv42: displays of dicts with **. -/
namespace Tv
open PySem PySem.Spec PyProof.Rows L2
section
variable {prog : Program} {w : World} {K : Type} [DecidableEq K] {knd : KeyKind prog w K} {A : Around} {E : Value → Shared → Prop} {s : Shared}
theorem wpAny_dictPut_pairs {d : Addr} {kvs : List (K × Value)} {k : K} {key v : Value} {Q : Unit → Shared → Prop} (hkey : knd.is k key = true) (hm : s.heap.DictOf knd d kvs)
    (hQ : ∀ h', h'.DictOf knd d (stored kvs k v) → Heap.SameBut d s.heap h' → Q () { s with heap := h' })
    (hsz : kvs.length ≤ sizeLine) :
    wpAny (model prog w) A (dictPut d (knd.hash k) key v) Q E s := by
  obtain ⟨o, es, ep, ho, hc, hd, hk, hp, hn⟩ := hm
  have hes : es.size ≤ sizeLine := by
    have e1 := hp.length
    have e2 : es.toList.length = es.size := by simp
    omega
  unfold dictPut
  refine wpAny_bind (wpAny_dictFind_of hkey ho hd hk ?_)
  have hidx : (es.findIdx? fun e => knd.is k e.key) = kvs.findIdx? fun kv => decide (kv.1 = k) := by
    rw [← hp.findIdx k]; obtain ⟨l⟩ := es; simp
  cases hi : es.findIdx? fun e => knd.is k e.key with
  | some i =>
    refine wpAny_updateDict ho hd (hQ _ ⟨_, _, ep, Heap.get?_update_self _ ho (Obj.isFreed_of_dict (Obj.data_mapDict hd _)),
      hc.mapDict _, Obj.data_mapDict hd _, hk.modify _ _, ?_, ?_⟩ (Heap.SameBut.update ..))
    · rw [stored, if_pos (any_of_findIdx_some (hidx ▸ hi))]
      have hl : (es.toList.findIdx? fun e => knd.is k e.key) = some i := by rw [← hi]; obtain ⟨l⟩ := es; simp
      have := hp.modify hn hl v
      obtain ⟨l⟩ := es
      simpa using this
    · rw [stored, if_pos (any_of_findIdx_some (hidx ▸ hi)), keys_map_store]; exact hn
  | none =>
    have hnot : k ∉ kvs.map (·.1) := not_mem_of_findIdx_none (hidx ▸ hi)
    have hany : ¬ (kvs.any fun kv => decide (kv.1 = k)) = true := by
      rw [List.any_eq_true]; rintro ⟨kv, hkv, he⟩
      exact hnot (List.mem_map.mpr ⟨kv, hkv, of_decide_eq_true he⟩)
    refine wpAny_updateDictKeys (hz := hes) ho hd (hQ _ ⟨_, _, ep + 1, Heap.get?_update_self _ ho (Obj.isFreed_of_dict (Obj.data_mapDictKeys hd _)),
      hc.mapDictKeys _, Obj.data_mapDictKeys hd _, hk.push hkey _, ?_, ?_⟩ (Heap.SameBut.update ..))
    · rw [stored, if_neg hany]
      have := hp.append hkey (knd.hash k) v
      obtain ⟨l⟩ := es
      simpa using this
    · rw [stored, if_neg hany, List.map_append, List.nodup_append]
      refine ⟨hn, by simp, ?_⟩
      intro a ha b hb
      simp only [List.map_cons, List.map_nil, List.mem_singleton] at hb
      subst hb
      exact fun e => hnot (e ▸ ha)
theorem wpAny_mergeMapping {d o : Addr} {kvs more : List (K × Value)} {Q : Unit → Shared → Prop} (hT : s.TypeIs (.ref o) "dict") (hdo : d ≠ o) (hoS : (o == sysModules) = false)
    (hd : s.heap.DictOf knd d kvs) (ho : s.heap.DictOf knd o more)
    (hQ : ∀ h', h'.DictOf knd d (merged kvs more) → h'.DictOf knd o more → Heap.SameBut d s.heap h' → Q () { s with heap := h' })
    (hsz : kvs.length + more.length ≤ sizeLine) :
    wpAny (model prog w) A (mergeMapping d (.ref o) false) Q E s := by
  obtain ⟨od, esd, epd, hod, hcd, hdd, hkd, hpd, hnd⟩ := id hd
  obtain ⟨oo, eso, epo, hoo, hco, hdo', hko, hpo, hno⟩ := id ho
  have hlen : more.length = eso.size := by rw [← hpo.length]; simp
  have quiet : ∀ e ∈ eso, ∀ b, e.key ≠ .ref b := fun e he b q => by
    obtain ⟨k, hk, _⟩ := hko e he
    have := knd.byValue k _ hk
    rw [q] at this
    exact absurd this Bool.false_ne_true
  unfold mergeMapping
  refine wpAny_bind (wpAny_isInstance hT isSubtype_dict_dict ?_)
  rw [if_pos rfl]
  refine wpAny_bind (wpAny_specialOf hT PySem.F.slot_dict_iter.lookup ?_)
  refine wpAny_bind (wpAny_pure ?_)
  rw [show (some (Value.builtin "dict.__iter__") == some (Value.builtin "dict.__iter__")) = true by decide]
  dsimp only
  rw [if_neg (by rw [hoS]; exact Bool.false_ne_true)]
  refine wpAny_bind (wpAny_dictEntries hod hdd ?_)
  have loop : wpAny (model prog w) A (do
      let l ← dictEntries o
      let epoch ← dictEpoch o
      forIn (List.range l.size) PUnit.unit fun i (_ : PUnit) => (do
          let l' ← dictEntries o
          match l'[i]? with
            | some e => do
              holding [e.key, e.val] (dictPut d e.hash e.key e.val)
              let ep' ← dictEpoch o
              if (ep' != epoch) = true then do
                  (unsupported "dict.changed-during-merge" : Sem PUnit)
                  pure (ForInStep.yield PUnit.unit)
                else pure (ForInStep.yield PUnit.unit)
            | _ => do
              (unsupported "dict.changed-during-merge" : Sem PUnit)
              pure (ForInStep.yield PUnit.unit) : Sem (ForInStep PUnit))
      pure ()) Q E s := by
    refine wpAny_bind (wpAny_dictEntries hoo hdo' ?_)
    refine wpAny_bind (wpAny_dictEpoch hoo hdo' ?_)
    refine wpAny_bind ?_
    rw [List.range_eq_range']
    refine wpAny_forIn_list _
      (fun rest _ s' => ∃ h' i, s' = { s with heap := h' } ∧ rest = List.range' i (eso.size - i) ∧ i ≤ eso.size ∧ h'.DictOf knd d (merged kvs (more.take i)) ∧ h'.get? o = some oo ∧ Heap.SameBut d s.heap h')
      _ ?_ ?_ _ _ ⟨s.heap, 0, rfl, by simp, Nat.zero_le _, by simpa [merged] using hd, hoo, Heap.SameBut.refl _ _⟩
    · rintro x rest b s' ⟨h', i, rfl, hr, hi, hd', hoo', hs'⟩
      have hlt : i < eso.size := by
        rcases Nat.lt_or_ge i eso.size with h | h
        · exact h
        · rw [Nat.sub_eq_zero_of_le h] at hr; simp at hr
      obtain ⟨rfl, hrest⟩ : x = i ∧ rest = List.range' (i + 1) (eso.size - (i + 1)) := by
        have e : eso.size - i = (eso.size - (i + 1)) + 1 := by omega
        rw [e, List.range'_succ] at hr
        injection hr with h1 h2
        exact ⟨h1, h2⟩
      refine wpAny_bind (wpAny_dictEntries hoo' hdo' ?_)
      rw [Array.getElem?_eq_getElem hlt]
      obtain ⟨kv, hkv⟩ : ∃ kv, more[x]? = some kv := ⟨more[x]'(by rw [hlen]; exact hlt), List.getElem?_eq_getElem _⟩
      obtain ⟨k, v⟩ := kv
      obtain ⟨hkey, hval⟩ := hpo.get? (e := eso[x]) (by simp [hlt]) hkv
      obtain ⟨k', hkey', hhash⟩ := hko eso[x] (Array.getElem_mem hlt)
      obtain rfl : k' = k := knd.inj _ _ _ hkey' hkey
      show wpAny _ _ (holding [eso[x].key, eso[x].val] (dictPut d eso[x].hash eso[x].key eso[x].val) >>= _) _ _ _
      rw [hhash, hval]
      have hmx : (merged kvs (more.take x)).length ≤ sizeLine := by
        have e1 := merged_length_le kvs (more.take x)
        have e2 : (more.take x).length ≤ more.length := by rw [List.length_take]; omega
        omega
      refine wpAny_bind (wpAny_holding (wpAny_dictPut_pairs (hsz := hmx) hkey hd' fun h'' hd'' hs'' => ?_))
      have hoo'' : h''.get? o = some oo := (hs''.2 o (Ne.symm hdo)).trans hoo'
      refine wpAny_bind (wpAny_dictEpoch hoo'' hdo' ?_)
      rw [if_neg (by simp)]
      exact wpAny_pure ⟨h'', x + 1, rfl, hrest, hlt, by rw [merged_take_succ kvs more x (k', v) hkv]; exact hd'', hoo'', hs'.trans hs''⟩
    · rintro b s' ⟨h', i, rfl, hr, hi, hd', hoo', hs'⟩
      have hin : i = eso.size := by
        rcases Nat.lt_or_ge i eso.size with h | h
        · have e : eso.size - i = (eso.size - (i + 1)) + 1 := by omega
          rw [e, List.range'_succ] at hr; simp at hr
        · omega
      subst hin
      rw [← hlen, List.take_length] at hd'
      exact wpAny_pure (hQ h' hd' ⟨oo, eso, epo, hoo', hco, hdo', hko, hpo, hno⟩ hs')
  split
  · refine wpAny_bind (wpAny_dictEntries hoo hdo' ?_)
    refine wpAny_bind ?_
    have hl2 : (forIn eso PUnit.unit fun (e : DictEntry) (_ : PUnit) => (match e.key with
        | Value.ref a => do
          let __do_lift ← specialOf e.key (Str.ofString "__eq__")
          if (__do_lift != some (Value.builtin "object.__eq__")) = true then
              if (Array.filter (fun x => x.hash == e.hash) eso).size > 1 then do
                (unsupported "dict.merge-into-an-empty-dict:keys-of-equal-hash" : Sem PUnit)
                pure (ForInStep.yield PUnit.unit)
              else pure (ForInStep.yield PUnit.unit)
            else pure (ForInStep.yield PUnit.unit)
        | x => pure (ForInStep.yield PUnit.unit) : Sem (ForInStep PUnit))) = pure PUnit.unit := by
      rw [← Array.forIn_toList]
      refine forIn_yield_id _ fun e he c => ?_
      have q := quiet e (Array.mem_toList_iff.mp he)
      cases hk : e.key with
      | ref b => exact absurd hk (q b)
      | _ => rfl
    exact wpAny_of_eq hl2 loop
  · exact loop
end
end Tv
/-! Tv43: {**d, k: v}. -/
namespace Tv
open PySem PySem.Spec PyProof.Rows L2
variable [LamT]
def tDispS (tx tk tv : TE) : TE := fun σ H Q => ∀ p, H p = none → tx σ (upd H p (.dK [])) fun x H1 => ∃ (a : Addr) (kvs : List (Key × V)), x = .ref a ∧ Rd H1 a (.dK kvs) ∧ a ≠ p ∧ H1 p = some (.dK []) ∧ kvs.length + 2 ≤ sizeLine ∧
  ∀ q, mergeK [] kvs = kvs → upd H1 p (.dK kvs) q = none → tk σ (upd (upd H1 p (.dK kvs)) q (.dK [])) fun y H2 => tv σ H2 fun z H3 => ∃ k z', [(y, z)] = [(kV k, z')] ∧ H3 q = some (.dK []) ∧ H3 p = some (.dK kvs) ∧
    Q (.ref p) (upd (upd H3 q (.dK [(k, z')])) p (.dK (putK kvs k z')))
section
variable {X : Cx} {pos : Pos}
theorem pe_dispS {ex ek ev : Expr} {tx tk tv : TE} (hx : PE X ex tx) (hk : PE X ek tk) (hv : PE X ev tv) : PE X (.Dict [none, some ek] [ex, ev] pos) (tDispS tx tk tv) := by
  refine ⟨fun pins s σ H Q I q => ?_⟩
  rw [arm_eval_Dict]
  show wpAny _ _ (standAt pos >>= fun _ => dictDisplay [(none, do let x ← eval ex X.env; standAt pos; pure x), (some (eval ek X.env), do let x ← eval ev X.env; standAt pos; pure x)]) _ _ s
  refine wpAny_bind (wpAny_standAt ?_)
  unfold dictDisplay
  simp only [List.forIn_cons, List.forIn_nil, List.isEmpty_nil, List.isEmpty_cons, if_true, bind_assoc, pure_bind, List.nil_append, List.length_singleton, Bool.false_eq_true, if_false, show ((1 : Nat) == 17) = false from rfl]
  have hn := I.hok.fresh (Nat.le_refl s.heap.objs.size)
  have I1 := I.laid (a := s.heap.objs.size) (o := .dK []) (h' := s.heap.push { cls := .type "dict", data := .dict #[] }) (t' := s.toks) (fun _ _ q => Heap.get?_push_of_some _ q) (Nat.le_refl _) (dk_empty s.heap I.big)
  refine wpAny_bind (wpAny_alloc ?_)
  refine wpAny_bind (wpAny_holding (wpAny_bind (thn (hx.run pins _ σ _ _ I1 (q _ hn)) fun m s2 ⟨x, H2, I2, rx, a, kvs, ex', rd, hne, hp, hz, q2⟩ => wpAny_bind (wpAny_standAt (wpAny_pure ?_)))))
  subst ex'
  obtain rfl : m = Value.ref a := rx
  obtain ⟨hT, _, hS⟩ := isD_at I2 (.inl ⟨kvs, rd⟩)
  obtain ⟨_, _, vs, rel, dd⟩ := dk_rd I2.hok rd
  obtain ⟨_, hdn, vs0, r0, dd0⟩ := dk_of I2.hok hp
  cases r0
  have lk : vs.length = kvs.length := rel.length.symm
  refine wpAny_bind (wpAny_onRaise (wpAny_tryCatch (wpAny_onRaise (wpAny_holding (wpAny_mergeMapping (knd := mixKind X.prog X.w) hT (Ne.symm hne) hS dd0 dd (fun h3 dd3 _ hs3 => ?_) (by rw [List.length_nil]; omega))))))
  have he3 : ∃ q, h3.get? s.heap.objs.size = some q := let ⟨q, _, _, hq, _⟩ := dd3; ⟨q, hq⟩
  have lm : (mergeK [] kvs).length ≤ kvs.length := by have := length_mergeK kvs []; rw [List.length_nil] at this; omega
  have em : mergeK [] kvs = kvs := by
    obtain ⟨_, _, _, _, _, _, _, _, nd⟩ := id dd
    rw [← rel.keys] at nd
    rw [merge_nd kvs [] (by rw [List.map_nil, List.nil_append]; exact nd)]
    rfl
  have I3 : Inv X pins σ (upd H2 s.heap.objs.size (.dK (mergeK [] kvs))) { s2 with heap := h3 } := d_write (t' := s2.toks) I2 (by rw [hp]; exact True.intro) hs3 he3 (dk_new (by omega) hdn (rel.merge .nil) dd3)
  rw [em] at I3
  have hn2 := I3.hok.fresh (Nat.le_refl h3.objs.size)
  have I4 := I3.laid (a := h3.objs.size) (o := .dK []) (h' := h3.push { cls := .type "dict", data := .dict #[] }) (t' := s2.toks) (fun _ _ q => Heap.get?_push_of_some _ q) (Nat.le_refl _) (dk_empty h3 I3.big)
  have hne2 : s.heap.objs.size ≠ h3.objs.size := fun z => by rw [← z, upd_same] at hn2; cases hn2
  refine wpAny_bind (wpAny_holding (wpAny_subDict (knd := mixKind X.prog X.w) (by show 1 ≤ 15; decide) ?_))
  show wpAny _ _ (evalPairs (pairTrees [some ek] [ev] X.env pos)) _ _ _
  refine thn ((pps_cons hk hv pps_nil).run pins _ σ _ (fun ps H5 => ∃ k z, ps = [(kV k, z)] ∧ H5 h3.objs.size = some (.dK []) ∧ H5 s.heap.objs.size = some (.dK kvs) ∧
    Q (.ref s.heap.objs.size) (upd (upd H5 h3.objs.size (.dK [(k, z)])) s.heap.objs.size (.dK (putK kvs k z)))) I4 ?_) fun ws s5 ⟨ps, H5, I5, rel5, k, z, eps, hq5, hp5, q5⟩ => ?_
  · exact q2 h3.objs.size em hn2
  · subst eps
    obtain ⟨rs, c, rk⟩ := carries_of (P := X.prog) (w := X.w) (kvs := [(k, z)]) rel5
    obtain ⟨_, hdq, vs1, r1, ddq⟩ := dk_of I5.hok hq5
    cases r1
    refine ⟨rs, c, ddq, fun h6 dd6 hs6 => ?_⟩
    have he6 : ∃ q, h6.get? h3.objs.size = some q := let ⟨q, _, _, hq, _⟩ := dd6; ⟨q, hq⟩
    have I6 : Inv X pins σ (upd H5 h3.objs.size (.dK [(k, z)])) { s5 with heap := h6, toks := s5.toks + ws.length } := d_write (t' := s5.toks + ws.length) I5 (by rw [hq5]; exact True.intro) hs6 he6 (dk_new (kvs := mergeK [] [(k, z)]) (by rw [sizeLine_eq]; show 1 ≤ 16777216; decide) hdq (rk.merge .nil) dd6)
    have hp6 : (upd H5 h3.objs.size (.dK [(k, z)])) s.heap.objs.size = some (.dK kvs) := by rw [upd_ne hne2]; exact hp5
    obtain ⟨hT6, _, hS6⟩ := isD_at I6 (a := h3.objs.size) (.inl ⟨_, .inl upd_same⟩)
    obtain ⟨_, hdp, vsp, rp, ddp⟩ := dk_of I6.hok hp6
    obtain ⟨_, _, vsq, rq, ddq6⟩ := dk_of I6.hok (upd_same (H := H5) (a := h3.objs.size))
    have lp : vsp.length = kvs.length := rp.length.symm
    have lq : vsq.length = 1 := rq.length.symm
    refine wpAny_bind (wpAny_onRaise (wpAny_holding (wpAny_mergeMapping (knd := mixKind X.prog X.w) hT6 hne2 hS6 ddp ddq6 (fun h7 dd7 _ hs7 => ?_) (by omega))))
    have he7 : ∃ q, h7.get? s.heap.objs.size = some q := let ⟨q, _, _, hq, _⟩ := dd7; ⟨q, hq⟩
    have l7 : (mergeK kvs [(k, z)]).length ≤ sizeLine := by have := length_mergeK [(k, z)] kvs; rw [List.length_singleton] at this; omega
    have I7 := d_write (t' := s5.toks + ws.length) (ob := .dK (mergeK kvs [(k, z)])) I6 (by rw [hp6]; exact True.intro) hs7 he7 (dk_new l7 hdp (rq.merge rp) dd7)
    exact wpAny_pure ⟨.ref s.heap.objs.size, _, I7, rfl, q5⟩
end
section
variable {X : Cx} {G0 : Gh} {H0 : Hp} {ex ek ev : Expr} {wx wk wv : WE} {pos : Pos}
def dstarW (ks : List Key) (ds : List D) (rk rv : R) (Φ : R → En → Prop) (ρ : En) : Prop := match keyD rk.d, rv with
  | some k, .fr y => Φ (.ow (.dct (putKs ks k) (putDs ks ds k y))) ρ
  | _, _ => False
theorem dstarW_inv {ks : List Key} {ds : List D} {rk rv : R} {Φ : R → En → Prop} {ρ : En} (h : dstarW ks ds rk rv Φ ρ) : ∃ k y, keyD rk.d = some k ∧ rv = .fr y ∧ Φ (.ow (.dct (putKs ks k) (putDs ks ds k y))) ρ := by
  unfold dstarW at h
  split at h
  · rename_i e; exact ⟨_, _, e, rfl, h⟩
  · exact h.elim
/-- {**d, k: v} -/
def wDStar (wx wk wv : WE) : WE := fun ρ Φ => wx ρ fun r ρ1 => ∃ ks ds, r = .fr (.dct ks ds) ∧ ks.length ≤ 16000000 ∧ wk ρ1 fun rk ρ2 => wv ρ2 fun rv ρ3 => dstarW ks ds rk rv Φ ρ3
set_option maxHeartbeats 800000 in
theorem i_dstar (hx : PEI X G0 H0 ex wx) (hk : PEI X G0 H0 ek wk) (hv : PEI X G0 H0 ev wv) : PEI X G0 H0 (.Dict [none, some ek] [ex, ev] pos) (wDStar wx wk wv) := by
  refine pe_imp (pe_lock (pe_dispS hx hk hv)) fun σ H Q h => ?_
  obtain ⟨ρ, G, Φ, S, h, c⟩ := h
  intro p hp
  have nb : ¬ G.B p := fun z => by
    obtain ⟨xs, e⟩ := S.wd.btr z
    rw [hp] at e; cases e
  have nf : ¬ G.F p := fun z => by
    obtain ⟨xs, e⟩ := S.wd.f p z
    rw [hp] at e; cases e
  have no : ¬ OwnA ρ σ p := fun z => by
    obtain ⟨o, e⟩ := S.tracked z
    rw [hp] at e; cases e
  have hp0 : H0 p = none := S.none0 hp
  have g : Grow G H G (upd H p (.dK [])) := Grow.laid hp
  refine ⟨ρ, G, _, S.grow (S.wd.laid hp) g, h, fun r ρ1 v G1 H1 q1 S1 P1 L1 x1 => ?_⟩
  obtain ⟨ks, ds, er, hl, qk⟩ := q1
  subst er
  cases x1 with
  | dct hF hH hkk rr =>
  rename_i a o kvs
  have e1 : H1 p = some (.dK []) := P1.k p _ upd_same nb
  have lkv : kvs.length = ks.length := by have := congrArg List.length hkk; rw [List.length_map] at this; exact this
  refine ⟨a, kvs, rfl, .inr ⟨o, hH⟩, fun z => (by rw [z, e1] at hH; cases hH), e1, by rw [sizeLine_eq]; omega, fun q em hq => ?_⟩
  have pq : p ≠ q := fun z => by rw [← z, upd_same] at hq; cases hq
  have hq1 : H1 q = none := by rw [upd_ne (Ne.symm pq)] at hq; exact hq
  have hqH : H q = none := by
    have z := P1.nn S1.wd hq1
    rw [upd_ne (Ne.symm pq)] at z; exact z
  have hq0 : H0 q = none := S.none0 hqH
  have nf1 : ¬ G1.F p := fun z => by
    rcases P1.nf p z with z | z | z
    · exact nf z
    · rw [upd_same] at z; cases z
    · exact no z
  have nb1 : ¬ G1.B p := fun z => by
    rcases P1.nb p z with z | z
    · exact nb z
    · rw [upd_same] at z; cases z
  have no1 : ¬ OwnA ρ1 σ p := fun z => no (L1.own z)
  have f1 : FE G1 H1 G1 (upd H1 p (.dK kvs)) := FE.wrU e1 (fun _ z => by cases z) (fun _ _ z => by cases z) nf1
  have S1a := S1.wrU f1 nf1 nb1 hp0 no1 (by rw [e1]; nofun)
  have g3 : Grow G1 (upd H1 p (.dK kvs)) G1 (upd (upd H1 p (.dK kvs)) q (.dK [])) := Grow.laid hq
  have S1b := S1a.grow (S1a.wd.laid hq) g3
  have nbq : ¬ G1.B q := fun z => by
    obtain ⟨xs, e⟩ := S1a.wd.btr z
    rw [hq] at e; cases e
  have nfq : ¬ G1.F q := fun z => by
    obtain ⟨xs, e⟩ := S1a.wd.f q z
    rw [hq] at e; cases e
  have noq : ¬ OwnA ρ1 σ q := fun z => by
    obtain ⟨o, e⟩ := S1a.tracked z
    rw [hq] at e; cases e
  have ep1 : (upd (upd H1 p (.dK kvs)) q (.dK [])) p = some (.dK kvs) := by rw [upd_ne pq, upd_same]
  refine ⟨ρ1, G1, _, S1b, qk, fun rk ρ2 y G2 H2 q2 S2 P2 L2 x2 => ⟨ρ2, G2, _, S2, q2, fun rv ρ3 z G3 H3 q3 S3 P3 L3 x3 => ?_⟩⟩
  obtain ⟨k, yd, ek', ev', q4⟩ := dstarW_inv q3
  subst ev'
  have ey := key_sh x2.sh ek'
  subst ey
  have nf2 : ∀ b, ¬ G1.F b → (upd (upd H1 p (.dK kvs)) q (.dK [])) b ≠ none → ¬ OwnA ρ1 σ b → ¬ G2.F b := fun b h1 h2 h3 z => by
    rcases P2.nf b z with z | z | z
    · exact h1 z
    · exact h2 z
    · exact h3 z
  have nb2 : ∀ b, ¬ G1.B b → (upd (upd H1 p (.dK kvs)) q (.dK [])) b ≠ none → ¬ G2.B b := fun b h1 h2 z => by
    rcases P2.nb b z with z | z
    · exact h1 z
    · exact h2 z
  have tp : (upd (upd H1 p (.dK kvs)) q (.dK [])) p ≠ none := by rw [ep1]; exact nofun
  have tq : (upd (upd H1 p (.dK kvs)) q (.dK [])) q ≠ none := by rw [upd_same]; exact nofun
  have ep2 := P2.k p _ ep1 nb1
  have eq2 := P2.k q _ upd_same nbq
  have nf3 : ∀ b o', ¬ G2.F b → H2 b = some o' → ¬ OwnA ρ1 σ b → ¬ G3.F b := fun b o' h1 h2 h3 z => by
    rcases P3.nf b z with z | z | z
    · exact h1 z
    · rw [h2] at z; cases z
    · exact h3 (L2.own z)
  have nb3 : ∀ b o', ¬ G2.B b → H2 b = some o' → ¬ G3.B b := fun b o' h1 h2 z => by
    rcases P3.nb b z with z | z
    · exact h1 z
    · rw [h2] at z; cases z
  have nfp3 := nf3 p _ (nf2 p nf1 tp no1) ep2 no1
  have nfq3 := nf3 q _ (nf2 q nfq tq noq) eq2 noq
  have nbp3 := nb3 p _ (nb2 p nb1 tp) ep2
  have nbq3 := nb3 q _ (nb2 q nbq tq) eq2
  have ep3 := P3.k p _ ep2 (nb2 p nb1 tp)
  have eq3 := P3.k q _ eq2 (nb2 q nbq tq)
  have nop3 : ¬ OwnA ρ3 σ p := fun z => no1 (L2.own (L3.own z))
  have noq3 : ¬ OwnA ρ3 σ q := fun z => noq (L2.own (L3.own z))
  refine ⟨k, z, rfl, eq3, ep3, p, putK kvs k z, rfl, upd_same, fun od => ?_⟩
  rw [upd_upd]
  have fq : FE G3 H3 G3 (upd H3 q (.dK [(k, z)])) := FE.wrU eq3 (fun _ z => by cases z) (fun _ _ z => by cases z) nfq3
  have Sq := S3.wrU fq nfq3 nbq3 hq0 noq3 (by rw [eq3]; nofun)
  have epq : (upd H3 q (.dK [(k, z)])) p = some (.dK kvs) := by rw [upd_ne pq]; exact ep3
  have fp : FE G3 (upd H3 q (.dK [(k, z)])) G3 (upd (upd H3 q (.dK [(k, z)])) p (.frz od (.dK (putK kvs k z)))) := FE.wrU epq (fun _ z => by cases z) (fun _ _ z => by cases z) nfp3
  have Sp := Sq.wrU fp nfp3 nbp3 hp0 nop3 (by rw [epq]; nofun)
  have fe23 : FE G1 H1 G3 (upd (upd H3 q (.dK [(k, z)])) p (.frz od (.dK (putK kvs k z)))) := (f1.trans ((g3.fe S1a.wd).trans ((P2.fe S1b.wd).trans ((P3.fe S2.wd).trans fq)))).trans fp
  have rr' := rr.fe fe23
  have xz : Rep X.K G3 (upd (upd H3 q (.dK [(k, z)])) p (.frz od (.dK (putK kvs k z)))) yd z := Rep.fe (fq.trans fp) x3
  have pr := put_rep k xz rr'
  rw [hkk] at pr
  have back : ∀ b, b ≠ p → b ≠ q → H2 b = none → H b = none := fun b h1 h2 h3 => by
    have z := P2.nn S2.wd h3
    rw [upd_ne h2, upd_ne h1] at z
    have z2 := P1.nn S1.wd z
    rw [upd_ne h1] at z2; exact z2
  refine c _ ρ3 _ G3 _ q4 Sp ⟨fun b z => P3.f b (P2.f b (P1.f b z)), fun b z => P3.b b (P2.b b (P1.b b z)), fun b o' e nB => ?_, fun b z => ?_, fun b z => ?_, fun b z => ?_⟩ (L3.trans (L2.trans L1)) ⟨p, rfl, ⟨nfp3, nbp3, od, putK kvs k z, upd_same, pr.1, pr.2⟩, hp⟩
  · have h1 : b ≠ p := fun z => by rw [z, hp] at e; cases e
    have h2 : b ≠ q := fun z => by rw [z, hqH] at e; cases e
    rw [upd_ne h1, upd_ne h2]
    have k1 := P1.k b o' (by rw [upd_ne h1]; exact e) nB
    have n1 : ¬ G1.B b := fun z => by
      rcases P1.nb b z with z | z
      · exact nB z
      · rw [upd_ne h1, e] at z; cases z
    have k1' : (upd (upd H1 p (.dK kvs)) q (.dK [])) b = some o' := by rw [upd_ne h2, upd_ne h1]; exact k1
    have k2 := P2.k b o' k1' n1
    exact P3.k b o' k2 (nb2 b n1 (by rw [k1']; exact nofun))
  · by_cases h1 : b = p
    · subst h1; exact absurd z nfp3
    · by_cases h2 : b = q
      · subst h2; exact absurd z nfq3
      · rcases P3.nf b z with z | z | z
        · rcases P2.nf b z with z | z | z
          · rcases P1.nf b z with z | z | z
            · exact .inl z
            · rw [upd_ne h1] at z; exact .inr (.inl z)
            · exact .inr (.inr z)
          · rw [upd_ne h2, upd_ne h1] at z
            have z2 := P1.nn S1.wd z
            rw [upd_ne h1] at z2; exact .inr (.inl z2)
          · exact .inr (.inr (L1.own z))
        · exact .inr (.inl (back b h1 h2 z))
        · exact .inr (.inr (L1.own (L2.own z)))
  · by_cases h1 : b = p
    · subst h1; exact absurd z nbp3
    · by_cases h2 : b = q
      · subst h2; exact absurd z nbq3
      · rcases P3.nb b z with z | z
        · rcases P2.nb b z with z | z
          · rcases P1.nb b z with z | z
            · exact .inl z
            · rw [upd_ne h1] at z; exact .inr z
          · rw [upd_ne h2, upd_ne h1] at z
            have z2 := P1.nn S1.wd z
            rw [upd_ne h1] at z2; exact .inr z2
        · exact .inr (back b h1 h2 z)
  · by_cases h1 : b = p
    · subst h1; exact absurd (S3.wd.m _ z).1 nbp3
    · by_cases h2 : b = q
      · subst h2; exact absurd (S3.wd.m _ z).1 nbq3
      · rcases P3.nm b z with z | z
        · rcases P2.nm b z with z | z
          · rcases P1.nm b z with z | z
            · exact .inl z
            · rw [upd_ne h1] at z; exact .inr z
          · rw [upd_ne h2, upd_ne h1] at z
            have z2 := P1.nn S1.wd z
            rw [upd_ne h1] at z2; exact .inr z2
        · exact .inr (back b h1 h2 z)
theorem e_dstar {Φ : R → En → Prop} {ρ : En} (h : wx ρ fun r ρ1 => ∃ ks ds, r = .fr (.dct ks ds) ∧ ks.length ≤ 16000000 ∧ wk ρ1 fun rk ρ2 => wv ρ2 fun rv ρ3 => dstarW ks ds rk rv Φ ρ3) : wDStar wx wk wv ρ Φ := h
instance st_dstar {Φ : R → En → Prop} {ρ : En} : Step (wDStar wx wk wv ρ Φ) (wx ρ fun r ρ1 => ∃ ks ds, r = .fr (.dct ks ds) ∧ ks.length ≤ 16000000 ∧ wk ρ1 fun rk ρ2 => wv ρ2 fun rv ρ3 => dstarW ks ds rk rv Φ ρ3) := ⟨fun h => e_dstar h⟩
theorem e_dstarW {ks : List Key} {ds : List D} {rk : R} {k : Key} {y : D} {Φ : R → En → Prop} {ρ : En} (q : keyD rk.d = some k) (h : Φ (.ow (.dct (putKs ks k) (putDs ks ds k y))) ρ) : dstarW ks ds rk (.fr y) Φ ρ := by unfold dstarW; rw [q]; exact h
end
end Tv
/-! Tv44: xs.count(truth). -/
namespace Tv
open PySem PySem.Spec PyProof.Rows L2
theorem bools_of_vals : ∀ {bs : List Bool} {us : List Value}, Vals (bs.map V.bl) us → us = bs.map Value.bool
  | [], _, h => by cases h; rfl
  | b :: bs, _, h => by
    rw [List.map_cons] at h
    cases h with
    | cons r t =>
      rw [List.map_cons, ← bools_of_vals t]
      congr 1
theorem count_bools (k : Bool) : ∀ bs : List Bool, (bs.map Value.bool).countP (isBoolOf k) = bs.count k
  | [] => rfl
  | b :: bs => by
    rw [List.map_cons, List.countP_cons, List.count_cons, count_bools k bs]
    rfl
def rCntB (K : PySem.W.Frag) : V → List V → Hp → VK → Prop := fun x xs H Q => ∃ (p : Addr) (bs : List Bool) (k : Bool), x = .ref p ∧ xs = [.bl k] ∧ SqL K H p (bs.map V.bl) ∧ Q (.int (bs.count k : Nat)) H
section
variable {X : Cx}
theorem mt_bcount : MtR X "list.count" (rCntB X.K) := by
  intro pins s σ H x xs v us Q I rx rxs h
  obtain ⟨p, bs, k, rfl, rfl, hs, q⟩ := h
  cases rx
  obtain ⟨u, rfl, ru⟩ := vals1 rxs
  obtain rfl : u = Value.bool k := ru
  obtain ⟨its, rv, ⟨⟨cls, dd, data, sl⟩, n, ho, hc, hdn, hd⟩, hlen⟩ := I.list hs
  simp only at hc hd
  subst hc hd
  have hi := bools_of_vals rv
  subst hi
  refine call_meets PySem.F.slot_list_count ⟨_, ho, rfl⟩ PySem.F.entry_list_count (PySem.F.args_list_count_2 _ _)
    (SeqAt.list_countAt p (bs.map Value.bool).toArray n dd sl (.bool k) (isBoolOf k)) ⟨ho, fun y hy => ?_, ?_⟩
  · obtain ⟨b, _, rfl⟩ := List.mem_map.mp (show y ∈ bs.map Value.bool by simpa using hy)
    exact SeqAt.EqAt.bool_bool b k
  · refine ⟨.int (bs.count k : Nat), H, I.tok _, ⟨s.toks, ?_⟩, q⟩
    show Value.int (((bs.map Value.bool).toArray.toList.countP (isBoolOf k) : Nat) : Int) s.toks = Value.int ((bs.count k : Nat) : Int) s.toks
    rw [show (bs.map Value.bool).toArray.toList = bs.map Value.bool from rfl, count_bools]
end
end Tv
/-! Tv45: dicts of texts: ==, !=, repr. -/
namespace Tv
open PySem PySem.Spec PyProof.Rows L2
variable [LamT]
/-! ### repr -/
def kvS (ps : List (Str × Str)) : List (Key × V) := ps.map fun p => (.inr p.1, .str p.2)
section
variable {X : Cx} {pins : List (Addr × Obj)} {σ : L2.St} {H : Hp} {s : Shared}
/-! ### == -/
end
/-! ### over trees -/
section
variable {K : PySem.W.Frag} {G : Gh} {H : Hp}
def dctS (ps : List (Str × Str)) : D := .dct (ps.map fun p => .inr p.1) (ps.map fun p => .str p.2)
theorem kvS_of : ∀ {ps : List (Str × Str)} {kvs : List (Key × V)}, kvs.map (·.1) = (ps.map fun p => Sum.inr p.1) → RepL K G H (ps.map fun p => D.str p.2) (kvs.map (·.2)) → kvs = kvS ps
  | [], [], _, _ => rfl
  | [], _ :: _, e, _ => by cases e
  | _ :: _, [], e, _ => by cases e
  | p :: ps, (k, v) :: kvs, e, r => by
    rw [List.map_cons, List.map_cons] at e
    obtain ⟨e1, e2⟩ := List.cons.inj e
    have e1' : k = Sum.inr p.1 := e1
    subst e1'
    have r' : RepL K G H (D.str p.2 :: ps.map fun p => D.str p.2) (v :: kvs.map (·.2)) := r
    cases r' with
    | cons a t =>
      cases a
      rw [kvS_of e2 t]
      rfl
theorem Sh.dctS {ps : List (Str × Str)} {v : V} (h : Sh K G H (dctS ps) v) : ∃ a, v = .ref a ∧ Rd H a (.dK (kvS ps)) := by
  obtain ⟨a, o, kvs, rfl, e, hk, r⟩ := Sh.dict (ks := ps.map fun p => .inr p.1) (ds := ps.map fun p => .str p.2) h
  rw [kvS_of hk r] at e
  exact ⟨a, rfl, .inr ⟨o, e⟩⟩
end
end Tv
/-! Tv46: own __eq__ of slotted instances: x == y, isinstance(x, C), lists of instances compared. -/
namespace Tv
open PySem PySem.Spec PyProof.Rows L2
variable [LamT]
section
variable {X : Cx} {C g : Addr} {k : Nat} {wf : WF}
/-- what == asks of the class -/
structure EqC (K : PySem.W.Frag) (C g : Addr) : Prop where
  fe : PySem.W.findIn K (.ref C) "__eq__" = some (some (.ref g))
  fn : PySem.W.isFn K (.ref g) = true
  nf : PySem.W.notFirst K C (.ref C) = true
end
section
variable {X : Cx} {G0 : Gh} {H0 : Hp} {a b e : Expr} {wa wb : WE} {pos p p2 : Pos} {C g pa : Addr} {k : Nat} {wf : WF} {c fl : Str}
end
/-! ### != of lists whose items are equal, turn by turn -/
section
open AutoSeq1 (wpAny_loadPart')
open MeetsSeq MeetsSeq2 MeetsSeq3 SeqRoads2
variable {prog : Program} {w : World} {A : Around} {R : Result → Shared → Prop}
end
section
open AutoSeq1 (wpAny_loadPart')
variable {prog : Program} {w : World} {A : Around} {E : Value → Shared → Prop} {s : Shared}
end
section
variable {X : Cx} {C g pa : Addr} {k : Nat} {wf : WF} {c fl : Str}
end
section
variable {X : Cx} {G0 : Gh} {H0 : Hp} {a b : Expr} {wa wb : WE} {pos : Pos} {C g pa : Addr} {k : Nat} {wf : WF} {c fl : Str}
end
end Tv
/-! Tv47: xs[i] = v and xs.clear() of one's own list. -/
namespace Tv
open PySem PySem.Spec PyProof.Rows L2
variable [LamT]
section
variable {X : Cx} {G0 : Gh} {H0 : Hp} {wv wi : WE} {pos p pos' pb pt : Pos} {e ie : Expr} {x : Str} {j : Nat}
/-- xs.clear() -/
def sClr (j : Nat) : WS := fun ρ S => ∃ ds, ρ[j]? = some (.ow (.lst ds)) ∧ S.nx (ρ.set j (.ow (.lst [])))
theorem e_clr {ρ : En} {S : SK} {ds : List D} (q : ρ[j]? = some (.ow (.lst ds))) (h : S.nx (ρ.set j (.ow (.lst [])))) : sClr j ρ S := ⟨ds, q, h⟩
instance ic_clr {ρ : En} {S : SK} : IsC (sClr j ρ S) := ⟨fun h => h⟩
end
end Tv
/-! Tv48: repr of trees with dicts within. -/
namespace Tv
open PySem PySem.Spec PyProof.Rows L2
/-! ### data in a heap, no dict of it at the modules' place -/
mutual
inductive Tld (h : Heap) : Value → PyData → Prop
  | non : Tld h .none .none
  | bl (b : Bool) : Tld h (.bool b) (.bool b)
  | num (i : Int) (t : Tok) : Tld h (.int i t) (.int i)
  | txt (x : Str) (t : Tok) : Tld h (.str x t) (.str x)
  | lst {a : Addr} {o : Obj} {us : Array Value} {n : Nat} {ds : List PyData} (e1 : h.get? a = some o) (e2 : o.cls = .type "list") (e3 : o.data = .seq us n) (t : TldL h us.toList ds) : Tld h (.ref a) (.list ds)
  | tup {a : Addr} {o : Obj} {us : Array Value} {n : Nat} {ds : List PyData} (e1 : h.get? a = some o) (e2 : o.cls = .type "tuple") (e3 : o.data = .seq us n) (t : TldL h us.toList ds) : Tld h (.ref a) (.tuple ds)
  | dct {a : Addr} {o : Obj} {es : Array DictEntry} {n : Nat} {kvs : List (PyData × PyData)} (e1 : h.get? a = some o) (e2 : o.cls = .type "dict") (e3 : o.data = .dict es n) (e4 : (a == sysModules) = false)
      (t1 : TldL h (es.toList.map (·.key)) (kvs.map (·.1))) (t2 : TldL h (es.toList.map (·.val)) (kvs.map (·.2))) : Tld h (.ref a) (.dict kvs)
inductive TldL (h : Heap) : List Value → List PyData → Prop
  | nil : TldL h [] []
  | cons {u : Value} {us : List Value} {d : PyData} {ds : List PyData} (x : Tld h u d) (t : TldL h us ds) : TldL h (u :: us) (d :: ds)
end
mutual
theorem Tld.rd {h : Heap} : ∀ {u : Value} {d : PyData}, Tld h u d → ∃ as, Reads h u d as
  | _, _, .non => ⟨_, .none⟩
  | _, _, .bl b => ⟨_, .bool b⟩
  | _, _, .num i t => ⟨_, .int i t⟩
  | _, _, .txt x t => ⟨_, .str x t⟩
  | _, _, .lst e1 e2 e3 t => let ⟨_, r⟩ := TldL.rd t; ⟨_, .list e1 e2 e3 r⟩
  | _, _, .tup e1 e2 e3 t => let ⟨_, r⟩ := TldL.rd t; ⟨_, .tuple e1 e2 e3 r⟩
  | _, _, .dct e1 e2 e3 _ t1 t2 => let ⟨_, r1⟩ := TldL.rd t1; let ⟨_, r2⟩ := TldL.rd t2; ⟨_, .dict e1 e2 e3 r1 r2⟩
theorem TldL.rd {h : Heap} : ∀ {us : List Value} {ds : List PyData}, TldL h us ds → ∃ as, ReadsAll h us ds as
  | _, _, .nil => ⟨_, .nil⟩
  | _, _, .cons x t => let ⟨_, r⟩ := Tld.rd x; let ⟨_, rs⟩ := TldL.rd t; ⟨_, .cons r rs⟩
end
section
variable {P : Program} {w : World} {h : Heap}
/-- what is shown of the parts -/
structure ShPs (P : Program) (w : World) (h : Heap) (m : Nat) (us : List Value) (ts : List Str) : Prop where
  ex : ∃ bs, ReadAtMost h m bs ∧ ReprAllK P w bs h m us ts
theorem lt_line {ts : List Str} (f : List Str → Str) (hm : ∀ t ∈ ts, t.length ≤ (f ts).length) (l : (f ts).length ≤ sizeLine) : ∀ t ∈ ts, t.length ≤ sizeLine := fun t q => Nat.le_trans (hm t q) l
mutual
theorem Tld.sh : ∀ {u : Value} {d : PyData}, Tld h u d → d.showable = true → d.shown.length ≤ sizeLine → ∃ bs, ReadAtMost h d.depth bs ∧ ReprK P w bs h d.depth u d.shown
  | _, _, .non, _, _ => by
    refine ⟨[], (fun _ z => nomatch z), ?_⟩
    rw [PyData.shown_none]; exact .of_is ReprIs.none _ _ _
  | _, _, .bl b, _, _ => by
    refine ⟨[], (fun _ z => nomatch z), ?_⟩
    rw [PyData.shown_bool]; exact .of_is (ReprIs.bool b) _ _ _
  | _, _, .num i t, s, _ => by
    refine ⟨[], (fun _ z => nomatch z), ?_⟩
    rw [PyData.shown_int]; exact .of_is (ReprIs.int t (by simpa [PyData.showable] using s)) _ _ _
  | _, _, .txt x t, _, l => by
    refine ⟨[], (fun _ z => nomatch z), ?_⟩
    rw [PyData.shown_str] at l ⊢; exact .of_is (ReprIs.str x t l) _ _ _
  | _, _, .lst (a := a) (us := us) (ds := ds) e1 e2 e3 t, s, l => by
    have l' : (listText (PyData.shownAll ds)).length ≤ sizeLine := by simpa only [PyData.shown] using l
    obtain ⟨bs, m, k⟩ := TldL.sh t (by simpa [PyData.showable] using s) (lt_line listText (fun _ => listText_mem_le) l')
    obtain ⟨as, r⟩ := Tld.rd (.lst e1 e2 e3 t)
    have dp : PyData.depthAll ds < (PyData.list ds).depth := by simp only [PyData.depth]; omega
    refine ⟨a :: bs, .cons r (Nat.le_of_lt dp) m, ?_⟩
    have na := not_mem_of_deeper r dp m
    simp only [PyData.shown, PyData.depth]
    rcases us with ⟨_ | ⟨y, ys⟩⟩
    · cases (show TldL h [] ds from t)
      simp only [listText_nil, PyData.shownAll]
      exact .listEmpty e1 e2 e3
    · exact .list e1 e2 e3 na (by simpa using k.length_eq) fun i z q => k.item i z (by simpa using q)
  | _, _, .tup (a := a) (ds := ds) e1 e2 e3 t, s, l => by
    have l' : (tupleText (PyData.shownAll ds)).length ≤ sizeLine := by simpa only [PyData.shown] using l
    obtain ⟨bs, m, k⟩ := TldL.sh t (by simpa [PyData.showable] using s) (lt_line tupleText (fun _ => tupleText_mem_le) l')
    obtain ⟨as, r⟩ := Tld.rd (.tup e1 e2 e3 t)
    have dp : PyData.depthAll ds < (PyData.tuple ds).depth := by simp only [PyData.depth]; omega
    refine ⟨a :: bs, .cons r (Nat.le_of_lt dp) m, ?_⟩
    have na := not_mem_of_deeper r dp m
    simp only [PyData.shown, PyData.depth]
    exact .tuple e1 e2 e3 na k
  | _, _, .dct (a := a) (es := es) (kvs := kvs) e1 e2 e3 e4 t1 t2, s, l => by
    have l' : (dictText (PyData.shownKv kvs)).length ≤ sizeLine := by simpa only [PyData.shown] using l
    obtain ⟨s1, s2⟩ := PyData.showableKv_split kvs (by simpa [PyData.showable] using s)
    obtain ⟨b1, m1, k1⟩ := TldL.sh t1 s1 fun z q => by obtain ⟨p, hp, hl⟩ := PyData.shownKv_key_le kvs z q; exact Nat.le_trans hl (Nat.le_trans (dictText_mem_le hp) l')
    obtain ⟨b2, m2, k2⟩ := TldL.sh t2 s2 fun z q => by obtain ⟨p, hp, hl⟩ := PyData.shownKv_val_le kvs z q; exact Nat.le_trans hl (Nat.le_trans (dictText_mem_le hp) l')
    obtain ⟨as, r⟩ := Tld.rd (.dct e1 e2 e3 e4 t1 t2)
    have dp : PyData.depthKv kvs < (PyData.dict kvs).depth := by simp only [PyData.depth]; omega
    have m := (m1.mono (PyData.depthAll_keys_le kvs)).append (m2.mono (PyData.depthAll_vals_le kvs))
    refine ⟨a :: (b1 ++ b2), .cons r (Nat.le_of_lt dp) m, ?_⟩
    have na := not_mem_of_deeper r dp m
    have k1' := k1.more_le (as' := b1 ++ b2) (fun b hb => List.mem_append_left b2 hb) (PyData.depthAll_keys_le kvs)
    have k2' := k2.more_le (as' := b1 ++ b2) (fun b hb => List.mem_append_right b1 hb) (PyData.depthAll_vals_le kvs)
    simp only [PyData.shownKv_eq, PyData.shown, PyData.depth]
    exact .dict e1 e2 e3 e4 na (.of_two _ _ _ k1' k2')
theorem TldL.sh : ∀ {us : List Value} {ds : List PyData}, TldL h us ds → PyData.showableAll ds = true → (∀ t ∈ PyData.shownAll ds, t.length ≤ sizeLine) → ∃ bs, ReadAtMost h (PyData.depthAll ds) bs ∧ ReprAllK P w bs h (PyData.depthAll ds) us (PyData.shownAll ds)
  | _, _, .nil, _, _ => by
    refine ⟨[], (fun _ z => nomatch z), ?_⟩
    simp only [PyData.shownAll]; exact .nil
  | _, _, .cons (d := d) (ds := ds) x t, s, l => by
    obtain ⟨s1, s2⟩ : d.showable = true ∧ PyData.showableAll ds = true := by simpa [PyData.showableAll] using s
    simp only [PyData.shownAll] at l
    obtain ⟨b1, m1, k1⟩ := Tld.sh x s1 (l _ List.mem_cons_self)
    obtain ⟨b2, m2, k2⟩ := TldL.sh t s2 fun z q => l z (List.mem_cons_of_mem _ q)
    have g1 : d.depth ≤ PyData.depthAll (d :: ds) := by simp only [PyData.depthAll]; exact Nat.le_max_left _ _
    have g2 : PyData.depthAll ds ≤ PyData.depthAll (d :: ds) := by simp only [PyData.depthAll]; exact Nat.le_max_right _ _
    refine ⟨b1 ++ b2, (m1.mono g1).append (m2.mono g2), ?_⟩
    have k1' := (k1.more (as' := b1 ++ b2) fun b hb => List.mem_append_left b2 hb).level_le g1
    have k2' := k2.more_le (as' := b1 ++ b2) (fun b hb => List.mem_append_right b1 hb) g2
    simp only [PyData.shownAll]
    exact .cons k1' k2'
end
/-- repr(v) of an object -/
theorem Tld.call {A : Around} {E : Value → Shared → Prop} {s : Shared} {Q : Value → Shared → Prop} {a : Addr} {d : PyData} (x : Tld s.heap (.ref a) d) (hs : d.showable = true) (l : d.shown.length ≤ sizeLine) (hg : A.guards = some []) (hu : A.units + (d.depth + 1) < cLine)
    (fin : ∀ h' u tk, (∀ b o, s.heap.get? b = some o → h'.get? b = some o) → Q (.str d.shown u) { s with heap := h', toks := tk }) : wpAny (model P w) A (call (.builtin "repr") [.ref a]) Q E s := by
  cases x with
  | lst e1 e2 e3 t =>
    rename_i o us n ds
    have l' : (listText (PyData.shownAll ds)).length ≤ sizeLine := by simpa only [PyData.shown] using l
    obtain ⟨bs, m, k⟩ := TldL.sh (P := P) (w := w) t (by simpa [PyData.showable] using hs) (lt_line listText (fun _ => listText_mem_le) l')
    obtain ⟨as, r⟩ := Tld.rd (.lst e1 e2 e3 t)
    have na := not_mem_of_deeper r (by simp only [PyData.depth]; omega) m
    simp only [PyData.depth] at hu
    simp only [PyData.shown] at fin
    refine call_repr_slot (by omega) ⟨o, e1, e2⟩ F.slot_list_repr.toG ?_
    have hu' : A.in1.units + (PyData.depthAll ds + 1) < cLine := by show A.units + 1 + (PyData.depthAll ds + 1) < cLine; omega
    rcases us with ⟨_ | ⟨y, ys⟩⟩
    · cases (show TldL s.heap [] ds from t)
      simp only [listText_nil, PyData.shownAll] at fin
      exact call_list_repr_empty ⟨o, e1, e2⟩ e1 e3 ⟨_, _, rfl, fin s.heap _ _ fun _ _ e => e⟩
    · exact call_list_reprK e1 e2 e3 na (by simpa using k.length_eq) (fun i z q => k.item i z (by simpa using q)) hg (fun b _ => Clear.nil b) hu' (fun _ _ e => e) (fun h' u tk hk => ⟨_, _, rfl, fin h' u tk hk⟩) l'
  | tup e1 e2 e3 t =>
    rename_i o us n ds
    have l' : (tupleText (PyData.shownAll ds)).length ≤ sizeLine := by simpa only [PyData.shown] using l
    obtain ⟨bs, m, k⟩ := TldL.sh (P := P) (w := w) t (by simpa [PyData.showable] using hs) (lt_line tupleText (fun _ => tupleText_mem_le) l')
    obtain ⟨as, r⟩ := Tld.rd (.tup e1 e2 e3 t)
    have na := not_mem_of_deeper r (by simp only [PyData.depth]; omega) m
    simp only [PyData.depth] at hu
    simp only [PyData.shown] at fin
    refine call_repr_slot (by omega) ⟨o, e1, e2⟩ F.slot_tuple_repr ?_
    have hu' : A.in1.units + (PyData.depthAll ds + 1) < cLine := by show A.units + 1 + (PyData.depthAll ds + 1) < cLine; omega
    exact call_tuple_reprK e1 e2 e3 na k hg (fun b _ => Clear.nil b) hu' (fun _ _ e => e) (fun h' u tk hk => ⟨_, _, rfl, fin h' u tk hk⟩) l'
  | dct e1 e2 e3 e4 t1 t2 =>
    rename_i o es n kvs
    have l' : (dictText (PyData.shownKv kvs)).length ≤ sizeLine := by simpa only [PyData.shown] using l
    obtain ⟨s1, s2⟩ := PyData.showableKv_split kvs (by simpa [PyData.showable] using hs)
    obtain ⟨b1, m1, k1⟩ := TldL.sh (P := P) (w := w) t1 s1 fun z q => by obtain ⟨p, hp, hl⟩ := PyData.shownKv_key_le kvs z q; exact Nat.le_trans hl (Nat.le_trans (dictText_mem_le hp) l')
    obtain ⟨b2, m2, k2⟩ := TldL.sh (P := P) (w := w) t2 s2 fun z q => by obtain ⟨p, hp, hl⟩ := PyData.shownKv_val_le kvs z q; exact Nat.le_trans hl (Nat.le_trans (dictText_mem_le hp) l')
    obtain ⟨as, r⟩ := Tld.rd (.dct e1 e2 e3 e4 t1 t2)
    have m := (m1.mono (PyData.depthAll_keys_le kvs)).append (m2.mono (PyData.depthAll_vals_le kvs))
    have na := not_mem_of_deeper r (by simp only [PyData.depth]; omega) m
    have k1' := k1.more_le (as' := b1 ++ b2) (fun b hb => List.mem_append_left b2 hb) (PyData.depthAll_keys_le kvs)
    have k2' := k2.more_le (as' := b1 ++ b2) (fun b hb => List.mem_append_right b1 hb) (PyData.depthAll_vals_le kvs)
    simp only [PyData.depth] at hu
    simp only [PyData.shownKv_eq, PyData.shown] at fin
    refine call_repr_slot (by omega) ⟨o, e1, e2⟩ F.slot_dict_repr ?_
    have hu' : A.in1.units + (PyData.depthKv kvs + 1) < cLine := by show A.units + 1 + (PyData.depthKv kvs + 1) < cLine; omega
    exact call_dict_reprK e1 e2 e3 e4 na (.of_two _ _ _ k1' k2') hg (fun b _ => Clear.nil b) hu' (fun _ _ e => e) (fun h' u tk hk => ⟨_, _, rfl, fin h' u tk hk⟩) (by rw [← PyData.shownKv_eq]; exact l')
end
end Tv
/-! Tv49: repr of trees with dicts; x == (); upper; xs.pop(i); text times int; isinstance of what may be an instance. -/
namespace Tv
open PySem PySem.Spec PyProof.Rows L2
variable [LamT]
def kP : Key → PyData
  | .inl i => .int i
  | .inr x => .str x
mutual
def D.pt : D → PyData
  | .bl b => .bool b
  | .int i => .int i
  | .str x => .str x
  | .tup ds => .tuple (D.ptL ds)
  | .lst ds => .list (D.ptL ds)
  | .dct ks ds => .dict ((ks.map kP).zip (D.ptL ds))
  | _ => .none
def D.ptL : List D → List PyData
  | [] => []
  | d :: ds => d.pt :: D.ptL ds
end
section
variable {X : Cx} {pins : List (Addr × Obj)} {σ : L2.St} {H : Hp} {s : Shared} {G : Gh}
end
end Tv
/-! Tv50: the rules: repr of trees with dicts; x == (); upper; xs.pop(i); text times int; isinstance of what may be an instance. -/
namespace Tv
open PySem PySem.Spec PyProof.Rows L2
variable [LamT]
/-! ### how much is shown -/
section
variable {X : Cx}
end
section
variable {X : Cx} {G0 : Gh} {H0 : Hp} {wa wb : WE} {pos p p2 : Pos} {e a b : Expr}
end
/-! ### x == () -/
section
variable {X : Cx}
variable {K : PySem.W.Frag}
/-! ### text times int -/
/-! ### xs.pop(i) -/
/-! ### x.upper() -/
end
section
variable {X : Cx} {G0 : Gh} {H0 : Hp} {wa : WE} {pos p p2 apos : Pos} {e : Expr} {T c fl : Str} {t : String} {C pa : Addr}
/-! ### isinstance(x, T), x an instance or not -/
def isiOW (c : Str) (t : String) (r : R) (Φ : R → En → Prop) (ρ : En) : Prop := (∃ ns ds, r.d = .ins c ns ds ∧ Φ (.fr (.bl false)) ρ) ∨ ∃ n, r.d.ty = some n ∧ Φ (.fr (.bl (isTy n t))) ρ
theorem e_isiOy {ρ : En} {r : R} {n : String} {Φ : R → En → Prop} (q : r.d.ty = some n) (i : isTy n t = true) (h : Φ (.fr (.bl true)) ρ) : isiOW c t r Φ ρ := .inr ⟨n, q, by rw [i]; exact h⟩
instance ic_isiOy {r : R} {Φ : R → En → Prop} : IsC (isiOW c t r Φ ρ) := ⟨fun h => h⟩
theorem e_isiOn {ρ : En} {r : R} {n : String} {Φ : R → En → Prop} (q : r.d.ty = some n) (i : isTy n t = false) (h : Φ (.fr (.bl false)) ρ) : isiOW c t r Φ ρ := .inr ⟨n, q, by rw [i]; exact h⟩
instance ic_isiOn {r : R} {Φ : R → En → Prop} : IsC (isiOW c t r Φ ρ) := ⟨fun h => h⟩
theorem e_isiOi {ρ : En} {r : R} {ns : List Str} {ds : List D} {Φ : R → En → Prop} (q : r.d = .ins c ns ds) (h : Φ (.fr (.bl false)) ρ) : isiOW c t r Φ ρ := .inl ⟨ns, ds, q, h⟩
instance ic_isiOi {r : R} {Φ : R → En → Prop} : IsC (isiOW c t r Φ ρ) := ⟨fun h => h⟩
end
end Tv
/-! Tv51: truths as numbers: b + 1, -b. -/
namespace Tv
open PySem PySem.Spec PyProof.Rows L2
variable [LamT]
section
variable {X : Cx} {K : PySem.W.Frag}
end
end Tv
/-! Tv52: x, y = a, b where x or y is captured. -/
namespace Tv
open PySem PySem.Spec PyProof.Rows L2
variable [LamT]
section
variable {X : Cx} {G0 : Gh} {H0 : Hp} {ws : WA} {pos : Pos} {a b : Expr}
end
end Tv
/-! Tv53: an own class is no built-in type, by its row of bases. -/
namespace Tv
open PySem PySem.Spec PyProof.Rows L2
end Tv
/-! Tv54: found != [] of a list with any items. -/
namespace Tv
open PySem PySem.Spec PyProof.Rows L2
variable [LamT]
def rNe0 (K : PySem.W.Frag) : R2 := fun x y H Q => ∃ (a b : Addr) (xs : List V), x = .ref a ∧ y = .ref b ∧ SqL K H a xs ∧ SqL K H b [] ∧ Q (.bl (!xs.isEmpty)) H
section
variable {X : Cx}
theorem op_ne0 (hu : X.A.units < cLine) : OpR X (compareOp .NotEq) (rNe0 X.K) := by
  intro pins s σ H x y v u Q I rx ry h
  obtain ⟨a, b, xs, rfl, rfl, ha, hb, q⟩ := h
  cases rx
  cases ry
  obtain ⟨its, rv, t1, _⟩ := I.list ha
  obtain ⟨its2, rv2, t2, _⟩ := I.list hb
  cases rv2
  have l := rv.length
  cases xs with
  | nil => cases its with
    | nil => exact SeqAt.RcNeAt.lists (e := fun _ => true) t1.isList t2.isList rfl hu (fun j h1 h2 => by simp at h2) _ _ _ _ ⟨.bl _, H, I, rfl, q⟩
    | cons _ _ => simp at l
  | cons _ _ => cases its with
    | nil => simp at l
    | cons _ _ => exact SeqAt.RcNeAt.lists_lengths t1.isList t2.isList (by simp) hu _ _ _ _ ⟨.bl _, H, I, rfl, q⟩
variable {K : PySem.W.Frag}
def oNe0 : D → D → (R → Prop) → Prop
  | .lst ds, .lst [], Φ => Φ (.fr (.bl (!ds.isEmpty)))
  | _, _, _ => False
theorem Sh.lst_sq {G : Gh} {H : Hp} {ds : List D} {v : V} (h : Sh K G H (.lst ds) v) : ∃ a xs, v = .ref a ∧ SqL K H a xs ∧ RepL K G H ds xs := by
  rcases h with h | ⟨a, e, _, xs, h, r⟩
  · cases h with
    | lst h r => exact ⟨_, _, rfl, SqL.of h.2, r⟩
  · exact ⟨a, xs, e, SqL.of h, r⟩
theorem op2_ne0 : Op2 K oNe0 (rNe0 K) := fun G H d e v u Φ Q w s1 s2 h k => by
  unfold oNe0 at h
  split at h
  · obtain ⟨a, xs, rfl, h1, r1⟩ := s1.lst_sq
    obtain ⟨b, ys, rfl, h2, r2⟩ := s2.lst_sq
    cases r2
    refine ⟨a, b, xs, rfl, rfl, h1, h2, ?_⟩
    refine k _ _ G H h w (Grow.refl _ _) ?_
    cases r1 with
    | nil => exact .bl _
    | cons _ _ => exact .bl _
  · exact h.elim
theorem e_ne0 {ds : List D} {Φ : R → Prop} (h : Φ (.fr (.bl (!ds.isEmpty)))) : oNe0 (.lst ds) (.lst []) Φ := h
instance st_ne0 {ds : List D} {Φ : R → Prop} : Step (oNe0 (.lst ds) (.lst []) Φ) (Φ (.fr (.bl (!ds.isEmpty)))) := ⟨fun h => e_ne0 h⟩
end
end Tv
/-! Tv55: what is borrowed and no list or dict is as good as held (the bag, in a def that only looks at the rest). -/
namespace Tv
open PySem PySem.Spec PyProof.Rows L2
variable [LamT]
section
variable {X : Cx} {G0 : Gh} {H0 : Hp} {e : Expr} {wa : WE}
end
end Tv
/-! Tv56: a comprehension over one's own list, which is one's own behind it too (nothing that is there is changed within). -/
namespace Tv
open PySem PySem.Spec PyProof.Rows L2
variable [LamT]
section
variable {X : Cx} {G0 : Gh} {H0 : Hp} {W : WTg} {wt : WT} {we : WE} {elt tg : Expr} {ifs : List Expr} {scope : Scope} {own : List (Str × Nat)} {pos p0 : Pos} {j : Nat} {x : Str}
end
end Tv
/-! Tv57: str(x) of an integer or a text; int(text). -/
namespace Tv
open PySem PySem.Spec PyProof.Rows L2
variable [LamT]
section
variable {K : PySem.W.Frag} {X : Cx}
end
end Tv
/-! Tv58: enumerate(tuple); xs.extend(tuple). -/
namespace Tv
open PySem PySem.Spec PyProof.Rows L2
open AutoSeq1 (wpAny_loadPart')
open PySem.AutoSeq1
variable [LamT]
section
variable {X : Cx} {G0 : Gh} {H0 : Hp} {e : Expr} {ws : WA} {pos p tpos : Pos} {K : PySem.W.Frag} {G : Gh} {H : Hp} {elts : List Expr} {kk : Nat}
/-! ### xs.extend(tuple) -/
def owExtT : List D → List D → (List D → Prop) → Prop
  | ds, [.tup es], Φ => ds.length + es.length ≤ sizeLine ∧ Φ (ds ++ es)
  | _, _, _ => False
theorem e_extT {ds es : List D} {Φl : List D → Prop} (l : ds.length + es.length ≤ 16777216) (h : Φl (ds ++ es)) : owExtT ds [.tup es] Φl := ⟨by rw [sizeLine_eq]; exact l, h⟩
instance ic_extT {ds es : List D} {Φl : List D → Prop} : IsC (owExtT ds [.tup es] Φl) := ⟨fun h => h⟩
/-! ### enumerate(tuple) -/
end
section
variable {prog : Program} {w : World} {A : Around} {E : Value → Shared → Prop} {s : Shared}
end
section
variable {X : Cx} {G0 : Gh} {H0 : Hp} {e : Expr} {ws : WA} {pos p tpos : Pos} {K : PySem.W.Frag} {G : Gh} {H : Hp} {elts : List Expr} {kk : Nat}
end
end Tv
/-! Tv59: max, min of a list of ints. -/
namespace Tv
open PySem PySem.Spec PyProof.Rows L2
variable [LamT]
section
variable {K : PySem.W.Frag} {X : Cx}
end
end Tv
/-! Tv60: own exceptions whose __init__ says super().__init__(..): their making. -/
namespace Tv
open PySem PySem.Spec PyProof.Rows L2
/-! ### ValueError.__init__ bound to an exception that is being made -/
section
variable {prog : Program} {w : World} {A : Around} {E : Value → Shared → Prop} {h : Heap} {g : Array GenState} {d : Drawn} {t : Nat} {os : OsState}
variable {nm q : Str} {C N : Addr} {bs bm : List Value} {hdct : Bool} {sn : List Str} {sub : List Value} {ab : Bool} {col : Option Bool} {dd : Option Addr} {k0 k1 k2 k3 k5 : Option Value}
end
/-- what the written part says of an own exception class whose __init__ says super().__init__ -/
structure ExC (prog : Program) (K : PySem.W.Frag) (mg : Str → Option Value) (C cc cda fI : Addr) (fd : FuncData) : Prop where
  o : OexC K C
  x : XfC K C
  iC : PySem.W.findIn K (.ref C) "__init__" = some (some (.ref fI))
  tI : PySem.W.typeIn K (.ref fI) = some (.type "function")
  su : mg "super" = none
  cell : ∃ cl cld csl, K.lookup cc = some ⟨cl, cld, .cell (some (.ref C)), csl⟩
  code : ∃ ccl cdd ccs vs file tf, K.lookup cda = some ⟨ccl, cdd, .fields vs, ccs⟩ ∧ vs[2]? = some (.str file tf) ∧ ((prog.main.file : Str) == file) = true
  fn : ∃ oc od osl, K.lookup fI = some ⟨oc, od, .func fd, osl⟩
  op : PySem.W.nsIn K cStatics "thirdparty.any" = some none
  mm : PySem.W.mroIn K C (.ref C) = some true
  si : PySem.W.ks_superIn K C C "__init__" = some (some (.builtin "ValueError.__init__"))
  sv : PySem.W.subIn K (.ref C) (.type "ValueError") = some true
  top : (prog.main.scope.names.lookup ("super" : Str)).isSome = false
section
variable {X : Cx} {pins : List (Addr × Obj)} {σ : L2.St} {H : Hp} {s : Shared} {C cc cda fI a : Addr} {fd : FuncData}
end
/-! ### the whole __init__ -/
section
variable {CX : CXT} {P : Program} {w : World} {K : PySem.W.Frag} {mg : Str → Option Value} {base : Heap} {N ps : List Str} {k : Nat} {C cc cda fI : Addr} {qual : Str} {params : Arguments} {body : List Stmt} {scope : Scope} {doc pm ct : Value} {an : Option Addr}
end
end Tv
/-! Tv61: defs that raise own exceptions: their promise, their calls, raise. -/
namespace Tv
open PySem PySem.Spec PyProof.Rows L2
variable [LamT]
/-- a wish about exceptions: the class, the fields with their names, the environment where it is raised -/
abbrev XW := Str → List (Str × D) → En → Prop
/-- an exception, its dict in the heap -/
def ExIs (K : PySem.W.Frag) (G : Gh) (H : Hp) (c : Str) (fds : List (Str × D)) (cls : Value) (d : Option Addr) : Prop :=
  ∃ (C dx : Addr) (fs : List (Str × V)), cls = .ref C ∧ d = some dx ∧ PySem.W.nsIn K mainGlobals c = some (some (.ref C)) ∧ H dx = some (.xd fs) ∧ ¬ G.B dx ∧ ∀ n e, fds.lookup n = some e → ∃ v, fs.lookup n = some v ∧ Rep K G H e v
abbrev WFX := List D → (R → Prop) → (Str → List (Str × D) → Prop) → Prop
def spX (K : PySem.W.Frag) (w : WFX) (vs : List V) (H : Hp) (Q : VK) (E : XK) : Prop :=
  ∃ G ds Φ Ψ, Wd G H ∧ RepL K G H ds vs ∧ w ds Φ Ψ ∧ (∀ r v G' H', Φ r → Wd G' H' → Grow G H G' H' → RepR K G' H' H r v → Q v H') ∧
    ∀ c fds cls d G' H', Ψ c fds → Wd G' H' → Grow G H G' H' → ExIs K G' H' c fds cls d → E cls d H'
/-- the def at f does what w says, or raises what w says -/
def FnX (P : Program) (w : World) (K : PySem.W.Frag) (mg : Str → Option Value) (base : Heap) (k : Nat) (f : Addr) (wf : WFX) : Prop :=
  ∀ (A : Around) (outer : List Env) (s : Shared) (H : Hp) (us : List Value) (vs : List V) (Q : VK) (E : XK), Room k A → A.guards = some [] → Env0 P w K mg base A outer s H → Vals vs us → spX K wf vs H Q E →
    codeAny (model P w) A (.call (.ref f) ⟨us, []⟩) (CR (L2.CX P w) outer P w H s Q E) s
section
variable {P : Program} {w : World} {K : PySem.W.Frag} {mg : Str → Option Value} {base : Heap} {j k : Nat} {f : Addr} {wf wf' : WFX}
theorem FnX.mono (F : FnX P w K mg base j f wf) (h : j ≤ k) : FnX P w K mg base k f wf := fun A outer s H us vs Q E hr => F A outer s H us vs Q E (hr.mono h)
end
/-! ### calls -/
section
variable {X : Cx} {G0 : Gh} {H0 : Hp} {e : Expr} {es : List Expr} {ws : WA} {pos p : Pos} {k : Nat} {f : Addr} {wf : WFX} {x : Str} {K : PySem.W.Frag} {σ : L2.St} {H : Hp} {Ex : XW}
end
/-! ### raise -/
section
variable {X : Cx} {G0 : Gh} {H0 : Hp} {e : Expr} {es : List Expr} {ws : WA} {pos p p2 : Pos} {k : Nat} {c f g : Str} {K : PySem.W.Frag} {σ : L2.St} {H : Hp} {Ex : XW}
end
end Tv
/-! Tv62: try: .. except C as e: .. that returns. -/
namespace Tv
open PySem PySem.Spec PyProof.Rows L2
variable [LamT]
section
variable {X : Cx} {G0 : Gh} {H0 : Hp} {body suite : List Stmt} {b₀ : Stmt} {x n : Str} {i : Nat} {CB : Addr} {np pos pos' : Pos} {bE : XW → WS} {su : Str → List (Str × D) → WS} {cs : List Str} {Eo : XW}
end
/-! ### in the suite -/
section
variable {X : Cx} {G0 : Gh} {H0 : Hp} {a C : Addr} {oe : Obj} {cls : Value} {d : Option Addr} {pn : List (Addr × Obj)} {c : Str} {fds : List (Str × D)} {cs : List Str} {n f : Str} {i : Nat} {pos p p2 : Pos}
def wXat (i : Nat) (fds : List (Str × D)) (f : Str) : WE := fun ρ Φ => ρ[i]? = some (.bo .unk) ∧ match fds.lookup f with
  | some e => Φ (.fr e) ρ
  | none => False
/-- isinstance(e, D) -/
def wXis (i : Nat) (b : Bool) : WE := fun ρ Φ => ρ[i]? = some (.bo .unk) ∧ Φ (.fr (.bl b)) ρ
/-- what a class must say so that isinstance asks its instances rightly -/
structure ExA (K : PySem.W.Frag) (D : Addr) : Prop where
  x : XfC K D
  ha : PySem.W.findIn K (.ref D) "__class__" = some (some (.builtin "object.__class__"))
  hn : PySem.W.specialIn K (.builtin "object.__class__") "__get__" = some (some (.builtin "getset_descriptor.__get__"))
  ht : PySem.W.takesIn K (.builtin "object.__class__") = some true
  hm : PySem.W.mroIn K D (.type "object") = some true
end
end Tv
/-! Tv63: facts of own exception classes, as the head can show them. -/
namespace Tv
open PySem PySem.Spec PyProof.Rows L2
variable [LamT]
/-! ### the readings step -/
section
variable {F : WFX} {Ex : XW} {ws : WA} {ρ : En} {Φ : R → En → Prop} {rs : List R} {ds : List D} {c : Str} {ns : List Str} {S : SK}
def callXW (F : WFX) (Ex : XW) (Φ : R → En → Prop) (rs : List R) (ρ' : En) : Prop := match frs' rs with
  | some ds => F ds (fun r => Φ r ρ') (fun c fds => Ex c fds ρ')
  | none => False
def raiseW (Ex : XW) (c : Str) (ns : List Str) (rs : List R) (ρ' : En) : Prop := match frs' rs with
  | some ds => ds.length = ns.length ∧ Ex c (ns.zip ds) ρ'
  | none => False
theorem e_callXW (e : frs' rs = some ds) (h : F ds (fun r => Φ r ρ) (fun c fds => Ex c fds ρ)) : callXW F Ex Φ rs ρ := by unfold callXW; rw [e]; exact h
instance ic_callXW : IsC (callXW F Ex Φ rs ρ) := ⟨fun h => h⟩
theorem e_raiseW (e : frs' rs = some ds) (hl : ds.length = ns.length) (h : Ex c (ns.zip ds) ρ) : raiseW Ex c ns rs ρ := by unfold raiseW; rw [e]; exact ⟨hl, h⟩
instance ic_raiseW : IsC (raiseW Ex c ns rs ρ) := ⟨fun h => h⟩
theorem e_xat {i : Nat} {fds : List (Str × D)} {f : Str} {d : D} (q : ρ[i]? = some (.bo .unk)) (q2 : fds.lookup f = some d) (h : Φ (.fr d) ρ) : wXat i fds f ρ Φ := by unfold wXat; rw [q2]; exact ⟨q, h⟩
instance ic_xat {i : Nat} {fds : List (Str × D)} {f : Str} : IsC (wXat i fds f ρ Φ) := ⟨fun h => h⟩
theorem e_xis {i : Nat} {b : Bool} (q : ρ[i]? = some (.bo .unk)) (h : Φ (.fr (.bl b)) ρ) : wXis i b ρ Φ := ⟨q, h⟩
instance ic_xis {i : Nat} {b : Bool} : IsC (wXis i b ρ Φ) := ⟨fun h => h⟩
end
end Tv
/-! Tv64: == and != of lists and tuples that hold own instances, all of them equal. -/
namespace Tv
open PySem PySem.Spec PyProof.Rows L2
variable [LamT]
def ScE (d e : D) : Prop := d = e ∧ (match d with
  | .non => True
  | .bl _ => True
  | .int _ => True
  | .str _ => True
  | _ => False)
section
variable {X : Cx} {C g pa : Addr} {k : Nat} {wf : WF} {c fl : Str}
end
section
variable {X : Cx} {G0 : Gh} {H0 : Hp} {a b : Expr} {wa wb : WE} {pos : Pos} {C g pa : Addr} {k n : Nat} {wf : WF} {c fl : Str} {t : Bool}
end
end Tv
/-! Tv65: a test with one's own things held for a while; == of equal trees with dicts within. -/
namespace Tv
open PySem PySem.Spec PyProof.Rows L2
variable [LamT]
/-- behind a step that wrote new things and tables alone -/
theorem Wd.back {G G' : Gh} {H H' : Hp} (w : Wd G H) (w' : Wd G' H') (hB : ∀ b, isTab b → G'.B b) (kept : ∀ b o, ¬ isTab b → H b = some o → H' b = some o) : Wd G H' := by
  refine ⟨fun c hc => ?_, fun c hc => ?_, fun p hp => ⟨(w.t p hp).1, (w'.t p hp).2.on (fun ps e => e) fun c o e ⟨φ, q⟩ n hco => ⟨e, fun z => ?_⟩⟩, fun c hc => ⟨(w.m c hc).1, let ⟨o, e, y⟩ := (w.m c hc).2; ⟨o, kept c o (w.nTab e fun ps z => by rw [z] at y; cases y.1) e, y⟩⟩⟩
  · obtain ⟨u, n⟩ := w.b c hc
    exact ⟨u.imp id fun ⟨x1, x2, x3, r, ns, e, l, z⟩ => ⟨x1, x2, x3, r, ns, kept c _ (w.nTab e nofun) e, ⟨l.1, kept r _ (w.nTab l.2 nofun) l.2⟩, z⟩, n⟩
  · obtain ⟨o, e⟩ := w.f c hc
    exact ⟨o, kept c o (w.nTabB fun q => (w.b c q).2 hc) e⟩
  · rcases w.bobj z with ⟨xs, e5, y5⟩ | ⟨xs, e5⟩
    · have e6 := kept c _ (w.nTab e5 fun ps z => by rw [z] at y5; cases y5.1) e5
      rw [e] at e6; cases e6
      obtain ⟨q', hq⟩ := hco
      exact y5.2 c q' hq
    · by_cases ht : isTab c
      · exact n (hB c ht)
      · have e6 := kept c _ ht e5
        rw [e, q] at e6; cases e6
/-! ### a test while one's own lists are held -/
section
variable {X : Cx} {G0 : Gh} {H0 : Hp} {c : Expr} {wt : WT}
end
/-! ### equal trees, dicts within -/
/-- a tree of data, n deep at most -/
def EqSn : Nat → D → Prop
  | 0, d => ScE d d
  | n + 1, d => ScE d d ∨ (∃ ds, d = .tup ds ∧ ∀ e ∈ ds, EqSn n e) ∨ (∃ ds, d = .lst ds ∧ ∀ e ∈ ds, EqSn n e) ∨ ∃ ks ds, d = .dct ks ds ∧ ks.Nodup ∧ ks.length = ds.length ∧ ∀ e ∈ ds, EqSn n e
theorem EqSn.up : ∀ {n : Nat} {d : D}, EqSn n d → EqSn (n + 1) d
  | 0, d, h => .inl h
  | n + 1, d, h => by
    rcases h with h | ⟨ds, e, h⟩ | ⟨ds, e, h⟩ | ⟨ks, ds, e, nd, l, h⟩
    · exact .inl h
    · exact .inr (.inl ⟨ds, e, fun x hx => (h x hx).up⟩)
    · exact .inr (.inr (.inl ⟨ds, e, fun x hx => (h x hx).up⟩))
    · exact .inr (.inr (.inr ⟨ks, ds, e, nd, l, fun x hx => (h x hx).up⟩))
theorem EqSn.le {m n : Nat} {d : D} (h : EqSn m d) (l : m ≤ n) : EqSn n d := by
  obtain ⟨k, rfl⟩ := Nat.le.dest l
  clear l
  induction k with
  | zero => exact h
  | succ k ih => exact ih.up
section
variable {X : Cx} {pins : List (Addr × Obj)} {σ : L2.St} {H : Hp} {s : Shared} {G : Gh}
end
section
variable {K : PySem.W.Frag}
end
end Tv
/-! Tv66: x = x if c else e, x one's own. -/
namespace Tv
open PySem PySem.Spec PyProof.Rows L2
variable [LamT]
section
variable {X : Cx} {G0 : Gh} {H0 : Hp} {c b : Expr} {tc : WT} {wb : WE} {pos pos2 p p2 : Pos}
end
end Tv
/-! Tv67: == of a tuple of ints and anything. -/
namespace Tv
variable [LamT]
section
open PySem PySem.SeqAt PySem.W Lean Elab Tactic Meta PySem.Calls PyProof.Rows PyProof.V PySem.Spec MeetsSeq
open AutoSeq1 (wpAny_loadPart')
variable {prog : Program} {w : World} {A : Around} {E : Value → Shared → Prop} {s : Shared}
end
section
open PySem PySem.Spec PyProof.Rows L2
def hdD : D → Bool
  | .non => true
  | .bl _ => true
  | .int _ => true
  | .str _ => true
  | .tup _ => true
  | .lst _ => true
  | .dct _ _ => true
  | _ => false
variable {X : Cx} {pins : List (Addr × Obj)} {σ : L2.St} {H : Hp} {s : Shared} {G : Gh}
end
end Tv
/-! Tv68: sorted over tuples of ints, the first of them empty, all in order. -/
namespace Tv
variable [LamT]
section
open PySem PySem.W PySem.Calls PyProof.Rows Builtin PySem.SeqAt SrtO
variable {prog : Program} {w : World} {A : Around} {E : Value → Shared → Prop} {s : Shared}
/-- v is a tuple of these numbers -/
def IsPl (h : Heap) (v : Value) (ns : List Int) : Prop :=
  ∃ (a : Addr) (dd : Option Addr) (items : Array Value) (n : Nat) (sl : Array (Option Value)), v = .ref a ∧ h.get? a = some { cls := .type "tuple", dict := dd, data := .seq items n, slots := sl } ∧ IntsAre items.toList ns
theorem IsPl.keeps {h h' : Heap} {v : Value} {ns : List Int} (x : IsPl h v ns) (k : ∀ b o, v = .ref b → h.get? b = some o → h'.get? b = some o) : IsPl h' v ns := by
  obtain ⟨a, dd, items, n, sl, e, g, i⟩ := x
  exact ⟨a, dd, items, n, sl, e, k _ _ e g, i⟩
theorem IsPl.type {v : Value} {ns : List Int} (x : IsPl s.heap v ns) : s.TypeIs v "tuple" := by
  obtain ⟨a, dd, items, n, sl, rfl, g, i⟩ := x
  exact ⟨_, g, rfl⟩
end
section
open PySem PySem.Spec PyProof.Rows L2
variable {K : PySem.W.Frag} {X : Cx}
end
end Tv
/-! Tv69: xs[i], xs[k] = a, b of one's own list; list(d.items()). -/
namespace Tv
open PySem PySem.Spec PyProof.Rows L2
variable [LamT]
section
variable {X : Cx} {G0 : Gh} {H0 : Hp} {we wi wi2 : WE} {pos p pos' pb pt pb2 pt2 pq : Pos} {e ie ie2 : Expr} {x : Str} {j : Nat} {k1 : Nat}
end
end Tv
/-! Tv70: list(d.items()) of any dict. -/
namespace Tv
open PySem PySem.Spec PyProof.Rows L2 LiI
variable [LamT]
section
variable {X : Cx} {G0 : Gh} {H0 : Hp} {wa : WE} {te : TE} {p apos cpos pos : Pos} {e : Expr}
end
end Tv
/-! Tv71: b - 1 of a truth; str(b) of a truth. -/
namespace Tv
open PySem PySem.Spec PyProof.Rows L2
variable [LamT]
section
variable {X : Cx} {K : PySem.W.Frag}
/-- found == [] of any list -/
def rEqL0 (K : PySem.W.Frag) : R2 := fun x y H Q => ∃ (a b : Addr) (xs : List V), x = .ref a ∧ y = .ref b ∧ SqL K H a xs ∧ SqL K H b [] ∧ Q (.bl xs.isEmpty) H
theorem op_eqL0 (hu : X.A.units < cLine) : OpR X (compareOp .Eq) (rEqL0 X.K) := by
  intro pins s σ H x y v u Q I rx ry h
  obtain ⟨a, b, xs, rfl, rfl, ha, hb, q⟩ := h
  cases rx
  cases ry
  obtain ⟨its, rv, t1, _⟩ := I.list ha
  obtain ⟨its2, rv2, t2, _⟩ := I.list hb
  cases rv2
  have l := rv.length
  cases xs with
  | nil => cases its with
    | nil => exact SeqAt.RcAt.lists (e := fun _ => true) t1.isList t2.isList rfl hu (fun j h1 h2 => by simp at h2) _ _ _ _ ⟨.bl _, H, I, rfl, q⟩
    | cons _ _ => simp at l
  | cons _ _ => cases its with
    | nil => simp at l
    | cons _ _ => exact SeqAt.RcAt.lists_lengths t1.isList t2.isList (by simp) hu _ _ _ _ ⟨.bl _, H, I, rfl, q⟩
def oEqL0 : D → D → (R → Prop) → Prop
  | .lst ds, .lst [], Φ => Φ (.fr (.bl ds.isEmpty))
  | _, _, _ => False
theorem op2_eqL0 : Op2 K oEqL0 (rEqL0 K) := fun G H d e v u Φ Q w s1 s2 h k => by
  unfold oEqL0 at h
  split at h
  · obtain ⟨a, xs, rfl, h1, r1⟩ := s1.lst_sq
    obtain ⟨b, ys, rfl, h2, r2⟩ := s2.lst_sq
    cases r2
    refine ⟨a, b, xs, rfl, rfl, h1, h2, ?_⟩
    refine k _ _ G H h w (Grow.refl _ _) ?_
    cases r1 with
    | nil => exact .bl _
    | cons _ _ => exact .bl _
  · exact h.elim
theorem e_eqL0 {ds : List D} {Φ : R → Prop} (h : Φ (.fr (.bl ds.isEmpty))) : oEqL0 (.lst ds) (.lst []) Φ := h
instance st_eqL0 {ds : List D} {Φ : R → Prop} : Step (oEqL0 (.lst ds) (.lst []) Φ) (Φ (.fr (.bl ds.isEmpty))) := ⟨fun h => e_eqL0 h⟩
end
end Tv
/-! Tv72: what an expression, a test, a suite comes to, put together from its parts: no store is changed. -/
namespace Tv
open PySem PySem.Spec PyProof.Rows L2
variable [LamT]
def Ev (w : WE) (ρ : En) (r : R) : Prop := ∀ Φ : R → En → Prop, Φ r ρ → w ρ Φ
def EvT (t : WT) (ρ : En) (b : Bool) : Prop := ∀ Φ : Bool → En → Prop, Φ b ρ → t ρ Φ
def EvA (ws : WA) (ρ : En) (rs : List R) : Prop := ∀ Φ : List R → En → Prop, Φ rs ρ → ws ρ Φ
/-- the suite returns r -/
def Rt (s : WS) (ρ : En) (r : R) : Prop := ∀ S : SK, (∀ ρr, S.rt r ρr) → s ρ S
def Fn (F : WF) (ds : List D) (r : R) : Prop := ∀ Φ : R → Prop, Φ r → F ds Φ
abbrev fb (b : Bool) : R := .fr (.bl b)
section
variable {ρ : En} {w wa wb : WE} {ws : WA} {t u : WT} {d : D} {r ra rb : R} {p q a b : Bool} {i : Nat} {s s2 : WS} {F : WF} {o o2 : Option Bool}
theorem Ev.to {r' : R} (h : Ev w ρ r) (e : r = r') : Ev w ρ r' := e ▸ h
theorem Ev.bq (h : Ev w ρ (fb p)) (e : p = q) : Ev w ρ (fb q) := e ▸ h
theorem Rt.bq (h : Rt s ρ (fb p)) (e : p = q) : Rt s ρ (fb q) := e ▸ h
theorem EvT.bq (h : EvT t ρ p) (e : p = q) : EvT t ρ q := e ▸ h
theorem ev_c : Ev (wC d) ρ (.fr d) := fun _ h => h
theorem ev_p (e : ρ[i]? = some (.fr d)) : Ev (wP i) ρ (.fr d) := fun Φ h => by unfold wP; rw [e]; exact h
theorem ev_po (e : ρ[i]? = some (.ow d)) : Ev (wP i) ρ (.bo d) := fun Φ h => by unfold wP; rw [e]; exact h
theorem ev_v (e : ρ[i]? = some (.fr d)) : Ev (wV i) ρ (.fr d) := fun Φ h => by unfold wV; rw [e]; exact h
theorem ev_f (h : Ev w ρ (.fr d)) : Ev (wF w) ρ (.fr d) := fun Φ k => h _ k
theorem ev_fo (h : Ev w ρ (.ow d)) : Ev (wF w) ρ (.fr d) := fun Φ k => h _ k
theorem ev_2 {o : D → D → (R → Prop) → Prop} (ha : Ev wa ρ ra) (hb : Ev wb ρ rb) (ho : ∀ Φ : R → Prop, Φ r → o ra.d rb.d Φ) : Ev (w2 o wa wb) ρ r := fun Φ k => ha _ (hb _ (ho _ k))
theorem ev_and (ha : Ev wa ρ (fb p)) (hb : p = true → Ev wb ρ (fb q)) : Ev (wAndT wa wb) ρ (fb (p && q)) := fun Φ k => ha _ (by
  cases p with
  | false => exact k
  | true => exact hb rfl _ k)
theorem ev_or (ha : Ev wa ρ (fb p)) (hb : p = false → Ev wb ρ (fb q)) : Ev (wOrT wa wb) ρ (fb (p || q)) := fun Φ k => ha _ (by
  cases p with
  | true => exact k
  | false => exact hb rfl _ k)
theorem ea_nil : EvA wNil ρ [] := fun Φ k => k
theorem ea_cons {rs : List R} (h : Ev wa ρ r) (hs : EvA ws ρ rs) : EvA (wCons wa ws) ρ (r :: rs) := fun Φ k => h _ (hs _ k)
theorem ev_call {rs : List R} {ds : List D} (h : EvA ws ρ rs) (e : frs' rs = some ds) (hf : Fn F ds r) : Ev (wCall F ws) ρ r := fun Φ k => h _ (by
  show (match frs' rs with | some ds => _ | none => False)
  rw [e]; exact hf _ k)
theorem ev_call1 (h : Ev wa ρ (.fr d)) (hf : Fn F [d] r) : Ev (wCall F (wCons wa wNil)) ρ r := ev_call (ea_cons h ea_nil) rfl hf
theorem ev_call2 {d2 : D} (h : Ev wa ρ (.fr d)) (h2 : Ev wb ρ (.fr d2)) (hf : Fn F [d, d2] r) : Ev (wCall F (wCons wa (wCons wb wNil))) ρ r := ev_call (ea_cons h (ea_cons h2 ea_nil)) rfl hf
theorem ev_n {o : List D → (R → Prop) → Prop} {rs : List R} (h : EvA ws ρ rs) (ho : ∀ Φ : R → Prop, Φ r → o (rs.map R.d) Φ) : Ev (wN o ws) ρ r := fun Φ k => h _ (ho _ k)
theorem ev_tup {rs : List R} {ds : List D} (h : EvA ws ρ rs) (e : frs' rs = some ds) (l : rs.length ≤ 16777216) : Ev (wTup ws) ρ (.fr (.tup ds)) := fun Φ k => h _ (by
  show (match frs' rs with | some ds => _ | none => False)
  rw [e]; exact ⟨by rw [sizeLine_eq]; exact l, k⟩)
theorem ev_lst {rs : List R} {ds : List D} (h : EvA ws ρ rs) (e : frs' rs = some ds) (l : rs.length ≤ 16777216) : Ev (wLst ws) ρ (.ow (.lst ds)) := fun Φ k => h _ (by
  show (match frs' rs with | some ds => _ | none => False)
  rw [e]; exact ⟨by rw [sizeLine_eq]; exact l, k⟩)
theorem et_tr (h : Ev w ρ (fb p)) : EvT (wTr w) ρ p := fun Φ k => h _ k
theorem et_b (h : Ev w ρ (fb p)) : EvT (wB w) ρ p := fun Φ k => h _ k
theorem et_yes : EvT tYes' ρ true := fun Φ k => k
theorem et_not (h : EvT t ρ p) : EvT (tNot' t) ρ (!p) := fun Φ k => h _ k
theorem rt_ret (h : Ev w ρ (.fr d)) : Rt (sRet w) ρ (.fr d) := fun S k => h _ (k _)
/-- a def -/
theorem fnd_of {n m : Nat} {b : WS} {ds : List D} (l : ds.length = n) (h : Rt b (ds.map Cell.fr ++ List.replicate m .no) r) : Fn (wDef n m b) ds r := fun Φ k => ⟨l, h _ fun _ => k⟩
theorem ev_seq {x y : Str} (ha : Ev wa ρ (.fr (.str x))) (hb : Ev wb ρ (.fr (.str y))) : Ev (w2 oEq wa wb) ρ (fb (decide (x = y))) := ev_2 ha hb fun Φ k => k
/-- .. in a tuple of texts -/
theorem ev_inS {x : Str} {ys : List Str} {rb : R} (ha : Ev wa ρ (.fr (.str x))) (hb : Ev wb ρ rb) (e : rb.d = .tup (ys.map .str)) (hx : PyData.strOk x = true) (hy : ∀ y ∈ ys, PyData.strOk y = true) : Ev (w2 (oIn false) wa wb) ρ (fb (decide (x ∈ ys))) :=
  ev_2 ha hb fun Φ k => by rw [e]; exact e_inT0 (by show (okE (.str x) && okE (.lst (ys.map .str))) = true; rw [okE_str hx, okE_strs hy]; rfl) (by rw [inD_strs]; exact k)
end
end Tv
/-! Tv73: x.bit_length(). -/
namespace Tv
open PySem PySem.Spec PyProof.Rows L2
variable [LamT]
section
variable {X : Cx} {G0 : Gh} {H0 : Hp} {wa : WE} {apos pos : Pos} {e : Expr} {K : PySem.W.Frag}
end
end Tv
/-! Tv74: d.update(dict); xs.index(text) of a list of texts. -/
namespace Tv
open PySem PySem.Spec PyProof.Rows L2
variable [LamT]
section
variable {X : Cx}
variable {G0 : Gh} {H0 : Hp} {e : Expr} {wa : WE} {pos p apos pos' : Pos} {x : Str} {j : Nat}
end
section
variable {K : PySem.W.Frag}
def isLs : D → Prop
  | .lst _ => True
  | _ => False
theorem ls_ty : ∀ G H d v, isLs d → Sh K G H d v → tyV K "list" v H := fun G H d v t s => by
  unfold isLs at t
  split at t
  · obtain ⟨a, xs, rfl, h, r⟩ := s.lst_sq
    exact .inl ⟨rfl, xs, h⟩
  · exact t.elim
theorem repL_strs {G : Gh} {H : Hp} : ∀ {ws : List Str} {xs : List V}, RepL K G H (ws.map .str) xs → xs = ws.map .str
  | [], _, .nil => rfl
  | w :: ws, _, .cons r t => by
    cases r
    rw [repL_strs t]; rfl
/-! ### bits -/
end
end Tv
/-! Tv75: x != y of slotted instances with an own __eq__. -/
namespace Tv
open PySem PySem.Spec PyProof.Rows L2
variable [LamT]
section
variable {prog : Program} {w : World} {A : Around} {E : Value → Shared → Prop} {s : Shared} {K : PySem.W.Frag} {x C L f : Addr} {h₀ : Heap} {m : Str → Option Value} {ox : Obj} {od : Option Obj} {b tb : Value}
open PySem.W in
open PySem.W in
open PySem.W in
end
section
variable {X : Cx} {C g : Addr} {k : Nat} {wf : WF}
/-- what != asks of the class -/
structure NeC (K : PySem.W.Frag) (C g : Addr) : Prop extends EqC K C g where
  ne : PySem.W.findIn K (.ref C) "__ne__" = some (some (.builtin "object.__ne__"))
  ob : PySem.W.subIn K (.ref C) (.type "object") = some true
end
section
variable {X : Cx} {G0 : Gh} {H0 : Hp} {a b e : Expr} {wa wb : WE} {pos p p2 : Pos} {C g pa : Addr} {k : Nat} {wf : WF} {c fl : Str}
end
end Tv
/-! Tv76: sorted(xs, key=lambda x: (len(x), x)), the items tuples. -/
namespace Tv
open PySem PySem.Spec PyProof.Rows L2
/-! ### what is read of data without lists stands in nothing that changes -/
/-- a lambda of one parameter, no other variables, that names a built-in -/
structure LamOne (x g : Str) (sc : Scope) : Prop where
  kind : sc.kind = .function
  co : sc.isCoroutine = false
  gen : sc.isGenerator = false
  cell : ∀ y ∈ sc.names, y.2 ≠ .cell
  free : ∀ y ∈ sc.names, y.2 ≠ .free
  loc : sc.names.lookup x = some .local
  glo : sc.names.lookup g = some .globalImplicit
section
variable {P : Program} {w : World} {A : Around} {s : Shared} {f c' T L : Addr} {q x : Str} {scope : Scope} {params : Arguments} {pm ctv : Value} {mg mb m : Str → Option Value} {items : Array Value} {d : PyData} {p1 p2 p3 p4 p5 : Pos} {k : Nat}
end
end Tv
/-! Tv77: a lambda is made; sorted by it. -/
namespace Tv
open PySem PySem.Spec PyProof.Rows L2
variable [LamT]
section
variable {X : Cx} {pins : List (Addr × Obj)} {σ : L2.St} {H H1 : Hp} {s : Shared} {G : Gh} {c P : Addr} {params : Arguments} {body : Expr} {scope : Scope} {pos : Pos} {q : Str}
end
end Tv
/-! Tv78: sorted(xs, key=lambda x: (len(x), x)), as an expression. -/
namespace Tv
open PySem PySem.Spec PyProof.Rows L2
variable [LamT]
section
variable {X : Cx} {G0 : Gh} {H0 : Hp} {e : Expr} {wa : WE} {p pos kpos lpos p1 p2 p3 p4 p5 : Pos} {c P : Addr} {params : Arguments} {scope : Scope} {q x : Str} {k kr : Nat}
end
end Tv
/-! Tv79: a law's end where defs make lambdas. -/
namespace Tv
open PySem PySem.Spec PyProof.Rows L2
/-- a maker of lambdas: its name, its code object, its table, the lambda's name -/
abbrev Mkr := Str × Addr × Addr × Str
section
variable {P : Program} {w : World} {K : PySem.W.Frag} {mg mb : Str → Option Value} {k : Nat} {fa a : Addr} {wf : WF} {s₁ : Shared} {vs : List Value} {ns : List Int} {T : List Mkr}
end
end Tv
/-! Tv80: makers of lambdas in the joint. -/
namespace Tv
open PySem PySem.Spec PyProof.Rows L2
variable [LT : LamT]
section
variable {P : Program} {w : World} {K : PySem.W.Frag} {mg : Str → Option Value} {base : Heap} {j k : Nat} {f c : Addr}
end
end Tv
/-! Tv81: tables of sets, any power of two for their size, dummies too. First: the round of i -> 5 i + 1 goes through all. -/
namespace Tv
open PySem PySem.Spec PyProof.Rows L2
/-- the round, not cut -/
def rnd : Nat → Nat
  | 0 => 0
  | n + 1 => 5 * rnd n + 1
theorem rnd_add (a : Nat) : ∀ b, rnd (a + b) = 5 ^ b * rnd a + rnd b
  | 0 => by simp [rnd]
  | b + 1 => by
    show 5 * rnd (a + b) + 1 = 5 ^ (b + 1) * rnd a + (5 * rnd b + 1)
    rw [rnd_add a b, Nat.pow_succ, Nat.mul_add, Nat.mul_comm (5 ^ b) 5, Nat.mul_assoc, Nat.add_assoc]
theorem five_pow : ∀ n, ∃ q, 5 ^ n = 4 * q + 1
  | 0 => ⟨0, rfl⟩
  | n + 1 => by
    obtain ⟨q, e⟩ := five_pow n
    exact ⟨5 * q + 1, by rw [Nat.pow_succ, e]; omega⟩
/-- behind 2^k steps it stands at an odd number of times 2^k -/
theorem rnd_pow : ∀ k, ∃ c, rnd (2 ^ k) = (2 * c + 1) * 2 ^ k
  | 0 => ⟨0, rfl⟩
  | k + 1 => by
    obtain ⟨c, e⟩ := rnd_pow k
    obtain ⟨q, e5⟩ := five_pow (2 ^ k)
    have h2 : 2 ^ (k + 1) = 2 ^ k + 2 ^ k := by rw [Nat.pow_succ]; omega
    refine ⟨(2 * q + 1) * c + q, ?_⟩
    have h : rnd (2 ^ k + 2 ^ k) = (5 ^ (2 ^ k) + 1) * rnd (2 ^ k) := by rw [rnd_add, Nat.add_mul, Nat.one_mul]
    rw [h2, h, e5, e, ← Nat.mul_assoc, ← h2, Nat.pow_succ, Nat.mul_comm (2 ^ k) 2, ← Nat.mul_assoc]
    congr 1
    have : (4 * q + 1 + 1) * (2 * c + 1) = 2 * ((2 * q + 1) * (2 * c + 1)) := by rw [← Nat.mul_assoc]; congr 1; omega
    rw [this, Nat.mul_comm]
    congr 1
    rw [Nat.mul_add, Nat.mul_one, Nat.mul_add, ← Nat.mul_assoc, Nat.mul_comm (2 * q + 1) 2, Nat.mul_assoc]
    omega
/-- one more round of the half shifts by the half -/
theorem rnd_half (k n : Nat) : ∃ e, rnd (2 ^ k + n) = (2 * e + 1) * 2 ^ k + rnd n := by
  obtain ⟨c, e⟩ := rnd_pow k
  obtain ⟨q, e5⟩ := five_pow n
  refine ⟨(4 * q + 1) * c + 2 * q, ?_⟩
  rw [rnd_add, e, e5, ← Nat.mul_assoc]
  congr 2
  rw [Nat.mul_add, Nat.mul_one, ← Nat.mul_assoc, Nat.mul_comm (4 * q + 1) 2, Nat.mul_assoc]
  omega
theorem rnd_all : ∀ k j, j < 2 ^ k → ∃ n, n < 2 ^ k ∧ rnd n % 2 ^ k = j
  | 0, j, h => ⟨0, by decide, by have : j < 1 := h; simp [rnd]; omega⟩
  | k + 1, j, h => by
    have hM : 0 < 2 ^ k := Nat.two_pow_pos k
    have h2 : 2 ^ (k + 1) = 2 * 2 ^ k := by rw [Nat.pow_succ]; omega
    obtain ⟨n, hn, e⟩ := rnd_all k (j % 2 ^ k) (Nat.mod_lt _ hM)
    obtain ⟨c, e2⟩ := rnd_half k n
    rw [h2] at h ⊢
    have m1 : rnd n % (2 * 2 ^ k) = j ∨ (rnd n + 2 ^ k) % (2 * 2 ^ k) = j := by
      have d1 := Nat.div_add_mod (rnd n) (2 ^ k)
      have d2 := Nat.div_add_mod j (2 ^ k)
      rw [e] at d1
      have hb : j / 2 ^ k < 2 := by rw [Nat.div_lt_iff_lt_mul hM]; exact h
      have ht := Nat.mod_lt j hM
      generalize hM' : 2 ^ k = M at *
      generalize j % M = t at *
      generalize ja : j / M = b at *
      generalize hq : rnd n / M = a at *
      have r1 : rnd n = M * a + t := d1.symm
      have r2 : j = M * b + t := d2.symm
      obtain ⟨a', p, ha, hp⟩ : ∃ a' p, a = 2 * a' + p ∧ p < 2 := ⟨a / 2, a % 2, by omega, by omega⟩
      have e3 : M * a = 2 * M * a' + M * p := by rw [ha, Nat.mul_add, ← Nat.mul_assoc, Nat.mul_comm M 2]
      rcases (show p = 0 ∨ p = 1 by omega) with rfl | rfl <;> rcases (show b = 0 ∨ b = 1 by omega) with rfl | rfl
      · left; rw [r1, r2, e3, Nat.mul_zero, Nat.add_zero, Nat.mul_add_mod]; rw [Nat.mod_eq_of_lt (by omega)]; omega
      · right; rw [r1, r2, e3, Nat.mul_zero, Nat.add_zero, Nat.add_assoc, Nat.mul_add_mod, Nat.mod_eq_of_lt (by omega)]; omega
      · right; rw [r1, r2, e3, Nat.mul_one, Nat.mul_zero, show 2 * M * a' + M + t + M = 2 * M * a' + (2 * M + t) by omega, Nat.mul_add_mod, Nat.add_mod_left, Nat.mod_eq_of_lt (by omega)]; omega
      · left; rw [r1, r2, e3, Nat.mul_one, Nat.add_assoc, Nat.mul_add_mod, Nat.mod_eq_of_lt (by omega)]
    rcases m1 with m1 | m1
    · exact ⟨n, by omega, m1⟩
    · refine ⟨2 ^ k + n, by omega, ?_⟩
      rw [e2, show (2 * c + 1) * 2 ^ k + rnd n = 2 * 2 ^ k * c + (rnd n + 2 ^ k) by rw [Nat.add_mul, Nat.mul_right_comm]; omega, Nat.mul_add_mod]
      exact m1
/-- the masks that come -/
def MkOk (m : Nat) : Prop := ∃ k, 3 ≤ k ∧ k ≤ 13 ∧ m + 1 = 2 ^ k
theorem lcgN_rnd (m : Nat) : ∀ n, lcgN m n = rnd n % (m + 1)
  | 0 => rfl
  | n + 1 => by
    show (lcgN m n * 5 + 1) % (m + 1) = (5 * rnd n + 1) % (m + 1)
    rw [lcgN_rnd m n, Nat.mul_comm, Nat.add_mod, Nat.mul_mod, Nat.mod_mod, ← Nat.mul_mod, ← Nat.add_mod]
variable {m : Nat}
theorem MkOk.odd (h : MkOk m) : m % 2 = 1 := by
  obtain ⟨k, h1, h2, e⟩ := h
  obtain ⟨j, rfl⟩ : ∃ j, k = j + 1 := ⟨k - 1, by omega⟩
  rw [Nat.pow_succ] at e
  omega
theorem MkOk.le (h : MkOk m) : m ≤ 8191 := by
  obtain ⟨k, h1, h2, e⟩ := h
  have : 2 ^ k ≤ 2 ^ 13 := Nat.pow_le_pow_right (by decide) h2
  omega
theorem lcgI_any (h : MkOk m) {i j : Nat} (hi : i ≤ m) (hj : j ≤ m) : ∃ k, k ≤ m ∧ lcgI m i k = j := by
  obtain ⟨k, h1, h2, e⟩ := h
  obtain ⟨a, ha, ea⟩ := rnd_all k i (by omega)
  obtain ⟨b, hb, eb⟩ := rnd_all k j (by omega)
  rw [← e] at ea eb
  rw [← lcgN_rnd] at ea eb
  rw [← ea]
  rcases Nat.lt_or_ge b a with c | c
  · refine ⟨b + (m + 1) - a, by omega, ?_⟩
    rw [lcgN_add, show a + (b + (m + 1) - a) = 2 ^ k + b by omega, lcgN_rnd]
    obtain ⟨f, ef⟩ := rnd_half k b
    rw [ef, ← e, Nat.mul_comm, Nat.mul_add_mod, ← lcgN_rnd]
    exact eb
  · refine ⟨b - a, by omega, ?_⟩
    rw [lcgN_add, show a + (b - a) = b by omega]
    exact eb
theorem runs_meet (hm : MkOk m) (h : Int) {j : Nat} (hj : j ≤ m) : ∃ n, n ≤ m + 12 ∧ runI m (SetTable.bits h) n = j := by
  obtain ⟨k, hk, e⟩ := lcgI_any hm (runI_le m (SetTable.bits h) 12) hj
  exact ⟨12 + k, by omega, by rw [runI_tail (bits_lt h)]; exact e⟩
theorem way_meets (hm : MkOk m) (h : Int) {j : Nat} (hj : j ≤ m) : ∃ k, k < 10 * SetTable.turns m ∧ way m h k = j := by
  obtain ⟨n, hn, e⟩ := runs_meet hm h hj
  obtain ⟨k, hk, e2⟩ := run_nth m (SetTable.bits h) n
  exact ⟨k, by unfold SetTable.turns; omega, (congrArg SetTable.Probe.j e2).trans e⟩
theorem way_in {h : Int} {k : Nat} : way m h k ≤ m := by
  have hi : SetTable.bits h % (m + 1) ≤ m := Nat.le_of_lt_succ (Nat.mod_lt _ (Nat.succ_pos _))
  have r := runEnd_bd hi
  have q := nth_in (m := m) k (runAt m (SetTable.bits h % (m + 1)) (SetTable.bits h)) (by
    show SetTable.bits h % (m + 1) + (SetTable.runEnd m (SetTable.bits h % (m + 1)) - SetTable.bits h % (m + 1)) ≤ m
    omega)
  exact Nat.le_trans (Nat.le_add_right _ _) q
end Tv
/-! Tv82: tables of sets with dummies: what a search meets, putting in, dropping. -/
namespace Tv
open PySem PySem.Spec PyProof.Rows L2
/-- the slots that are not empty -/
def occ (t : SetTable) : List Nat := t.place.toList ++ t.dummies.toList
theorem below_at {xs : Array Nat} (r : Ris xs.toList) {i j : Nat} (h : xs.toList[i]? = some j) : SetTable.below xs j = i := by
  obtain ⟨_, c2, c3⟩ := below_cut r j
  rcases Nat.lt_trichotomy (SetTable.below xs j) i with c | c | c
  · have hl : SetTable.below xs j < xs.toList.length := Nat.lt_trans c (List.getElem?_eq_some_iff.mp h).1
    have e := List.getElem?_eq_getElem hl
    exact absurd (Nat.lt_of_lt_of_le (ris_lt r e h c) (c3 _ _ e (Nat.le_refl _))) (Nat.lt_irrefl _)
  · exact c
  · exact absurd (c2 i j h c) (Nat.lt_irrefl _)
theorem has_iff {xs : Array Nat} (r : Ris xs.toList) {j : Nat} : SetTable.has xs j = true ↔ j ∈ xs.toList := by
  unfold SetTable.has
  rw [beq_iff_eq]
  constructor
  · intro e
    exact List.mem_of_getElem? (by rw [Array.getElem?_toList]; exact e)
  · intro e
    obtain ⟨i, hi⟩ := List.mem_iff_getElem?.mp e
    rw [below_at r hi, ← Array.getElem?_toList]
    exact hi
theorem toList_eraseAt {α : Type} (xs : Array α) (p : Nat) : (SetTable.eraseAt xs p).toList = xs.toList.eraseIdx p := by
  rw [List.eraseIdx_eq_take_drop_succ]
  simp [SetTable.eraseAt, List.extract_eq_take_drop, List.take_of_length_le]
theorem ris_erase {l : List Nat} (r : Ris l) (p : Nat) : Ris (l.eraseIdx p) := List.Pairwise.sublist (List.eraseIdx_sublist l p) r
theorem mem_erase {l : List Nat} (r : Ris l) {p j : Nat} (h : l[p]? = some j) {x : Nat} : x ∈ l.eraseIdx p ↔ x ∈ l ∧ x ≠ j := by
  rw [List.mem_eraseIdx_iff_getElem?]
  constructor
  · rintro ⟨i, hi, e⟩
    refine ⟨List.mem_of_getElem? e, fun z => ?_⟩
    subst z
    rcases Nat.lt_or_gt_of_ne hi with c | c
    · exact absurd (ris_lt r e h c) (Nat.lt_irrefl _)
    · exact absurd (ris_lt r h e c) (Nat.lt_irrefl _)
  · rintro ⟨hx, hne⟩
    obtain ⟨i, hi⟩ := List.mem_iff_getElem?.mp hx
    refine ⟨i, fun z => ?_, hi⟩
    subst z
    rw [h] at hi
    exact hne (Option.some.inj hi).symm
/-- a table whose live slots all are found again from their hashes -/
structure TabD (t : SetTable) (hs : List Int) : Prop where
  ris : Ris t.place.toList
  rid : Ris t.dummies.toList
  dj : ∀ x ∈ t.dummies.toList, x ∉ t.place.toList
  sz : t.place.size = hs.length
  mok : MkOk t.mask
  bd : ∀ x ∈ occ t, x ≤ t.mask
  fl : t.fill ≤ t.mask
  reach : ∀ (i : Nat) (h : Int) (j : Nat), hs[i]? = some h → t.place.toList[i]? = some j → ∃ k, way t.mask h k = j ∧ ∀ k', k' < k → way t.mask h k' ∈ occ t
section
variable {t : SetTable} {hs : List Int} {h : Int}
theorem TabD.fits (T : TabD t hs) {n : Nat} (e : n = hs.length) : t.fits n = true := by
  unfold SetTable.fits
  rw [Bool.and_eq_true, beq_iff_eq, decide_eq_true_eq]
  exact ⟨T.sz.trans e.symm, T.fl⟩
theorem occ_len (t : SetTable) : (occ t).length = t.fill := by
  unfold occ SetTable.fill
  rw [List.length_append, Array.length_toList, Array.length_toList]
theorem TabD.slot_live (T : TabD t hs) {i j : Nat} (h : t.place.toList[i]? = some j) : t.slot j = .live i := by
  unfold SetTable.slot
  rw [below_at T.ris h]
  dsimp only
  rw [if_pos (by rw [← Array.getElem?_toList, h]; exact beq_self_eq_true _)]
theorem not_place {j : Nat} (hn : j ∉ t.place.toList) : ¬ (t.place[SetTable.below t.place j]? == some j) = true := fun e => hn (List.mem_of_getElem? (by rw [Array.getElem?_toList]; exact beq_iff_eq.mp e))
theorem TabD.slot_dummy (T : TabD t hs) {j : Nat} (h : j ∈ t.dummies.toList) : t.slot j = .dummy := by
  unfold SetTable.slot
  dsimp only
  rw [if_neg (not_place (T.dj j h)), if_pos ((has_iff T.rid).mpr h)]
theorem TabD.slot_empty (T : TabD t hs) {j : Nat} (h : j ∉ occ t) : t.slot j = .empty := by
  unfold occ at h
  rw [List.mem_append, not_or] at h
  unfold SetTable.slot
  dsimp only
  rw [if_neg (not_place h.1), if_neg (fun z => h.2 ((has_iff T.rid).mp z))]
/-! ### the search -/
def stP (m : Nat) (h : Int) (c : Nat) (d : Option Nat) : SetTable.Probe := { nth m (runAt m (SetTable.bits h % (m + 1)) (SetTable.bits h)) c with dummy := d }
theorem adv_dummy (m : Nat) (p : SetTable.Probe) (d : Option Nat) : adv m { p with dummy := d } = { adv m p with dummy := d } := by
  unfold adv
  dsimp only
  split <;> rfl
theorem stP_next (m : Nat) (h : Int) (c : Nat) (d : Option Nat) : adv m (stP m h c d) = stP m h (c + 1) d := by
  unfold stP
  rw [adv_dummy, ← nth_succ]
/-- the dummy that a search bears -/
def DmOk (t : SetTable) (h : Int) (c : Nat) (d : Option Nat) : Prop := ∀ x, d = some x → x ∈ t.dummies.toList ∧ ∃ k, k < c ∧ way t.mask h k = x
theorem DmOk.none (t : SetTable) (h : Int) (c : Nat) : DmOk t h c none := fun _ e => nomatch e
theorem DmOk.mono {c c' : Nat} {d : Option Nat} (x : DmOk t h c d) (hc : c ≤ c') : DmOk t h c' d := fun y e => let ⟨a, k, b, z⟩ := x y e; ⟨a, k, Nat.lt_of_lt_of_le b hc, z⟩
theorem TabD.go (T : TabD t hs) (hashAt : Nat → Int) {K : Nat} (hin : ∀ k, k < K → way t.mask h k ∈ occ t) (hout : way t.mask h K ∉ occ t) : ∀ (f c : Nat) (d : Option Nat), c ≤ K → K - c < f → DmOk t h c d →
    (∃ k i d', c ≤ k ∧ k < K ∧ t.place.toList[i]? = some (way t.mask h k) ∧ hashAt i = h ∧ (∀ k' i', c ≤ k' → k' < k → t.place.toList[i']? = some (way t.mask h k') → hashAt i' ≠ h) ∧ DmOk t h (k + 1) d' ∧
      SetTable.probe.go t hashAt h f (stP t.mask h c d) = some (.candidate (way t.mask h k) i (stP t.mask h (k + 1) d'))) ∨
    ((∀ k' i', c ≤ k' → k' < K → t.place.toList[i']? = some (way t.mask h k') → hashAt i' ≠ h) ∧ ∃ d', DmOk t h K d' ∧ SetTable.probe.go t hashAt h f (stP t.mask h c d) = some (.empty (way t.mask h K) d'))
  | 0, c, d, _, hf, _ => absurd hf (Nat.not_lt_zero _)
  | f + 1, c, d, hc, hf, hd => by
    have st : (stP t.mask h c d).j = way t.mask h c := rfl
    rcases Nat.lt_or_ge c K with c1 | c1
    · have ho := hin c c1
      unfold occ at ho
      rcases List.mem_append.mp ho with hp | hp
      · obtain ⟨i, hi⟩ := List.mem_iff_getElem?.mp hp
        have hs := T.slot_live hi
        have one : ∀ i', t.place.toList[i']? = some (way t.mask h c) → i' = i := fun i' z => by
          have := T.slot_live z
          rw [hs] at this
          injection this with this
          exact this.symm
        by_cases hh : hashAt i = h
        · refine .inl ⟨c, i, d, Nat.le_refl _, c1, hi, hh, fun k' i' a b => absurd b (by omega), hd.mono (Nat.le_succ _), ?_⟩
          unfold SetTable.probe.go
          rw [st, hs]
          dsimp only
          rw [if_pos (beq_iff_eq.mpr hh)]
          exact congrArg some (congrArg _ (stP_next t.mask h c d))
        · have e : SetTable.probe.go t hashAt h (f + 1) (stP t.mask h c d) = SetTable.probe.go t hashAt h f (stP t.mask h (c + 1) d) := by
            conv => lhs; unfold SetTable.probe.go
            rw [st, hs]
            dsimp only
            rw [if_neg (by rw [beq_iff_eq]; exact hh)]
            exact congrArg _ (stP_next t.mask h c d)
          have no : ∀ k' i', c ≤ k' → ¬ c + 1 ≤ k' → t.place.toList[i']? = some (way t.mask h k') → hashAt i' ≠ h := fun k' i' a b z => by
            obtain rfl : k' = c := by omega
            rw [one i' z]
            exact hh
          rcases T.go hashAt hin hout f (c + 1) d c1 (by omega) (hd.mono (Nat.le_succ _)) with ⟨k, i2, d', a1, a2, a3, a4, a5, a6, a7⟩ | ⟨a1, d', a2, a3⟩
          · refine .inl ⟨k, i2, d', by omega, a2, a3, a4, fun k' i' x y z => ?_, a6, by rw [e]; exact a7⟩
            by_cases w : c + 1 ≤ k'
            · exact a5 k' i' w y z
            · exact no k' i' x w z
          · refine .inr ⟨fun k' i' x y z => ?_, d', a2, by rw [e]; exact a3⟩
            by_cases w : c + 1 ≤ k'
            · exact a1 k' i' w y z
            · exact no k' i' x w z
      · have hs := T.slot_dummy hp
        have e : SetTable.probe.go t hashAt h (f + 1) (stP t.mask h c d) = SetTable.probe.go t hashAt h f (stP t.mask h (c + 1) (some (way t.mask h c))) := by
          conv => lhs; unfold SetTable.probe.go
          rw [st, hs]
          dsimp only
          exact congrArg _ (stP_next t.mask h c (some (way t.mask h c)))
        have no : ∀ k' i', c ≤ k' → ¬ c + 1 ≤ k' → t.place.toList[i']? = some (way t.mask h k') → hashAt i' ≠ h := fun k' i' a b z => by
          obtain rfl : k' = c := by omega
          exact absurd (List.mem_of_getElem? z) (T.dj _ hp)
        have hd' : DmOk t h (c + 1) (some (way t.mask h c)) := fun x e => by
          injection e with e
          subst e
          exact ⟨hp, c, Nat.lt_succ_self c, rfl⟩
        rcases T.go hashAt hin hout f (c + 1) _ c1 (by omega) hd' with ⟨k, i2, d', a1, a2, a3, a4, a5, a6, a7⟩ | ⟨a1, d', a2, a3⟩
        · refine .inl ⟨k, i2, d', by omega, a2, a3, a4, fun k' i' x y z => ?_, a6, by rw [e]; exact a7⟩
          by_cases w : c + 1 ≤ k'
          · exact a5 k' i' w y z
          · exact no k' i' x w z
        · refine .inr ⟨fun k' i' x y z => ?_, d', a2, by rw [e]; exact a3⟩
          by_cases w : c + 1 ≤ k'
          · exact a1 k' i' w y z
          · exact no k' i' x w z
    · obtain rfl : c = K := by omega
      refine .inr ⟨fun k' i' a b => absurd b (by omega), d, hd, ?_⟩
      unfold SetTable.probe.go
      rw [st, T.slot_empty hout]
      rfl
theorem TabD.first (T : TabD t hs) (h : Int) : ∃ K, K < 10 * SetTable.turns t.mask ∧ way t.mask h K ∉ occ t ∧ ∀ k, k < K → way t.mask h k ∈ occ t := by
  obtain ⟨j, hj, hn⟩ := st_missing (occ t) (t.mask + 1) (by rw [occ_len]; exact Nat.lt_succ_of_le T.fl)
  obtain ⟨k, hk, e⟩ := way_meets T.mok h (Nat.le_of_lt_succ hj)
  obtain ⟨K, h1, h2, h3⟩ := st_least (p := fun k => way t.mask h k ∉ occ t) k (by show way t.mask h k ∉ occ t; rw [e]; exact hn)
  exact ⟨K, Nat.lt_of_le_of_lt h1 hk, h2, fun k' hk' => Classical.not_not.mp (h3 k' hk')⟩
/-! ### putting in -/
theorem TabD.put (T : TabD t hs) {j K : Nat} (hj : way t.mask h K = j) (hb : ∀ k, k < K → way t.mask h k ∈ occ t) (hn : j ∉ t.place.toList) (hf : j ∈ t.dummies.toList ∨ t.fill + 1 ≤ t.mask) :
    (t.put j).2 = SetTable.below t.place j ∧ SetTable.below t.place j ≤ hs.length ∧ TabD (t.put j).1 (hs.take (SetTable.below t.place j) ++ h :: hs.drop (SetTable.below t.place j)) ∧
    (t.put j).1.mask = t.mask ∧ (t.put j).1.led = t.led ∧ (t.put j).1.plain = t.plain ∧ (t.put j).1.fill ≤ t.fill + 1 ∧ (j ∈ t.dummies.toList → (t.put j).1.fill = t.fill) ∧ (t.put j).1.dummies.size ≤ t.dummies.size := by
  have hjm : j ≤ t.mask := by rw [← hj]; exact way_in
  have hpl : SetTable.below t.place j ≤ t.place.toList.length := by rw [Array.length_toList]; exact (below_cut T.ris j).1
  have hph : SetTable.below t.place j ≤ hs.length := by rw [← T.sz]; exact (below_cut T.ris j).1
  have hpp := put_place t j
  have hdd : (t.put j).1.dummies = if SetTable.has t.dummies j = true then SetTable.eraseAt t.dummies (SetTable.below t.dummies j) else t.dummies := rfl
  have hsize : (t.put j).1.place.size = hs.length + 1 := by rw [← Array.length_toList, hpp, len_ins _ hpl, Array.length_toList, T.sz]
  -- the dummies that stay
  have dms : Ris (t.put j).1.dummies.toList ∧ (∀ x, x ∈ (t.put j).1.dummies.toList ↔ x ∈ t.dummies.toList ∧ x ≠ j) ∧ ((j ∈ t.dummies.toList → (t.put j).1.dummies.size + 1 = t.dummies.size) ∧ (j ∉ t.dummies.toList → (t.put j).1.dummies.size = t.dummies.size)) := by
    by_cases c : j ∈ t.dummies.toList
    · obtain ⟨i, hi⟩ := List.mem_iff_getElem?.mp c
      rw [hdd, if_pos ((has_iff T.rid).mpr c), below_at T.rid hi, toList_eraseAt]
      refine ⟨ris_erase T.rid i, fun x => mem_erase T.rid hi, fun _ => ?_, fun z => absurd c z⟩
      have hl := (List.getElem?_eq_some_iff.mp hi).1
      rw [← Array.length_toList, toList_eraseAt, List.length_eraseIdx, if_pos hl, Array.length_toList] at *
      omega
    · rw [hdd, if_neg (fun z => c ((has_iff T.rid).mp z))]
      exact ⟨T.rid, fun x => ⟨fun z => ⟨z, fun e => c (e ▸ z)⟩, fun z => z.1⟩, fun z => absurd z c, fun _ => rfl⟩
  obtain ⟨d1, d2, d3, d4⟩ := dms
  have up : ∀ {x : Nat}, x ∈ occ t → x ∈ occ (t.put j).1 := fun {x} hx => by
    unfold occ at hx ⊢
    rw [List.mem_append] at hx ⊢
    rcases hx with hx | hx
    · exact .inl (by rw [hpp]; exact mem_ins.2 (.inr hx))
    · by_cases e : x = j
      · exact .inl (by rw [hpp]; exact mem_ins.2 (.inl e))
      · exact .inr ((d2 x).mpr ⟨hx, e⟩)
  have fil : (t.put j).1.fill = (t.put j).1.place.size + (t.put j).1.dummies.size := rfl
  have fil0 : t.fill = t.place.size + t.dummies.size := rfl
  have hsz := T.sz
  have hfl := T.fl
  have f1 : j ∈ t.dummies.toList → (t.put j).1.fill = t.fill := fun z => by
    have := d3 z
    omega
  have f2 : j ∉ t.dummies.toList → (t.put j).1.fill = t.fill + 1 := fun z => by
    have := d4 z
    omega
  have f3 : (t.put j).1.fill ≤ t.mask := by
    by_cases c : j ∈ t.dummies.toList
    · rw [f1 c]; exact hfl
    · rw [f2 c]; exact hf.resolve_left c
  refine ⟨rfl, hph, ⟨ris_insert T.ris (fun e => hn (List.mem_of_getElem? (by rw [Array.getElem?_toList]; exact e))), d1, fun x hx hp => ?_, ?_, T.mok, fun x hx => ?_, f3, fun i h' j' h1 h2 => ?_⟩, rfl, rfl, rfl, ?_, f1, ?_⟩
  · obtain ⟨a, b⟩ := (d2 x).mp hx
    rw [hpp] at hp
    rcases mem_ins.1 hp with z | z
    · exact b z
    · exact T.dj x a z
  · rw [len_ins _ hph]
    exact hsize
  · unfold occ at hx
    rcases List.mem_append.mp hx with hx | hx
    · rw [hpp] at hx
      rcases mem_ins.1 hx with z | z
      · rw [z]; exact hjm
      · exact T.bd x (List.mem_append_left _ z)
    · exact T.bd x (List.mem_append_right _ ((d2 x).mp hx).1)
  · rw [tins_get hs hph] at h1
    rw [hpp, tins_get _ hpl] at h2
    show ∃ k, way t.mask h' k = j' ∧ ∀ k', k' < k → way t.mask h' k' ∈ occ (t.put j).1
    have old : ∀ i, hs[i]? = some h' → t.place.toList[i]? = some j' → ∃ k, way t.mask h' k = j' ∧ ∀ k', k' < k → way t.mask h' k' ∈ occ (t.put j).1 := fun i a b => by
      obtain ⟨k, e, z⟩ := T.reach i h' j' a b
      exact ⟨k, e, fun k' hk' => up (z k' hk')⟩
    by_cases c : i < SetTable.below t.place j
    · rw [if_pos c] at h1 h2
      exact old i h1 h2
    · rw [if_neg c] at h1 h2
      by_cases d : i = SetTable.below t.place j
      · rw [if_pos d] at h1 h2
        cases h1
        cases h2
        exact ⟨K, hj, fun k' hk' => up (hb k' hk')⟩
      · rw [if_neg d] at h1 h2
        exact old (i - 1) h1 h2
  · by_cases c : j ∈ t.dummies.toList
    · rw [f1 c]; omega
    · rw [f2 c]; omega
  · by_cases c : j ∈ t.dummies.toList
    · have := d3 c; omega
    · have := d4 c; omega
/-! ### dropping -/
theorem TabD.drop (T : TabD t hs) {i : Nat} (hi : i < hs.length) : TabD (t.drop i) (hs.eraseIdx i) ∧ (t.drop i).mask = t.mask ∧ (t.drop i).led = t.led ∧ (t.drop i).plain = t.plain ∧ (t.drop i).fill = t.fill := by
  have hip : i < t.place.size := by rw [T.sz]; exact hi
  have ej : t.place[i]? = some t.place[i] := Array.getElem?_eq_getElem hip
  obtain ⟨j, hj⟩ : ∃ j, t.place[i]? = some j := ⟨_, ej⟩
  have hjl : t.place.toList[i]? = some j := by rw [Array.getElem?_toList]; exact hj
  have e : t.drop i = { t with place := SetTable.eraseAt t.place i, dummies := SetTable.insertAt t.dummies (SetTable.below t.dummies j) j } := by
    unfold SetTable.drop
    rw [hj]
  have hnd : j ∉ t.dummies.toList := fun z => T.dj j z (List.mem_of_getElem? hjl)
  have hpl : SetTable.below t.dummies j ≤ t.dummies.toList.length := by rw [Array.length_toList]; exact (below_cut T.rid j).1
  have s1 : (SetTable.eraseAt t.place i).size = t.place.size - 1 := by
    rw [← Array.length_toList, toList_eraseAt, List.length_eraseIdx, if_pos (by rw [Array.length_toList]; exact hip), Array.length_toList]
  have s2 : (SetTable.insertAt t.dummies (SetTable.below t.dummies j) j).size = t.dummies.size + 1 := by
    rw [← Array.length_toList, SetTable.toList_insertAt, len_ins _ hpl, Array.length_toList]
  have oc : ∀ x, x ∈ occ (t.drop i) ↔ x ∈ occ t := fun x => by
    rw [e]
    unfold occ
    dsimp only
    rw [List.mem_append, List.mem_append, toList_eraseAt, SetTable.toList_insertAt, mem_erase T.ris hjl, mem_ins]
    constructor
    · rintro (⟨a, _⟩ | a | a)
      · exact .inl a
      · rw [a]; exact .inl (List.mem_of_getElem? hjl)
      · exact .inr a
    · rintro (a | a)
      · by_cases c : x = j
        · exact .inr (.inl c)
        · exact .inl ⟨a, c⟩
      · exact .inr (.inr a)
  have hfill : (t.drop i).fill = t.fill := by
    rw [e]
    unfold SetTable.fill
    dsimp only
    rw [s1, s2]
    omega
  have hmask : (t.drop i).mask = t.mask := by rw [e]
  refine ⟨⟨?_, ?_, ?_, ?_, ?_, ?_, ?_, ?_⟩, hmask, by rw [e], by rw [e], hfill⟩
  · rw [e]; dsimp only; rw [toList_eraseAt]; exact ris_erase T.ris i
  · rw [e]; dsimp only
    exact ris_insert T.rid (fun z => hnd (List.mem_of_getElem? (by rw [Array.getElem?_toList]; exact z)))
  · rw [e]; dsimp only
    intro x hx
    rw [SetTable.toList_insertAt] at hx
    rw [toList_eraseAt, mem_erase T.ris hjl]
    rintro ⟨a, b⟩
    rcases mem_ins.1 hx with z | z
    · exact b z
    · exact T.dj x z a
  · rw [e]; dsimp only
    rw [s1, List.length_eraseIdx, if_pos hi, T.sz]
  · rw [hmask]; exact T.mok
  · intro x hx
    rw [hmask]
    exact T.bd x ((oc x).mp hx)
  · rw [hfill, hmask]; exact T.fl
  · intro i' h' j' h1 h2
    have e2 : (t.drop i).place.toList = t.place.toList.eraseIdx i := by rw [e]; exact toList_eraseAt _ _
    rw [e2, List.getElem?_eraseIdx] at h2
    rw [List.getElem?_eraseIdx] at h1
    rw [hmask]
    have old : ∀ i', hs[i']? = some h' → t.place.toList[i']? = some j' → ∃ k, way t.mask h' k = j' ∧ ∀ k', k' < k → way t.mask h' k' ∈ occ (t.drop i) := fun i' a b => by
      obtain ⟨k, e, z⟩ := T.reach i' h' j' a b
      exact ⟨k, e, fun k' hk' => (oc _).mpr (z k' hk')⟩
    split at h1
    · rename_i c
      rw [if_pos c] at h2
      exact old i' h1 h2
    · rename_i c
      rw [if_neg c] at h2
      exact old (i' + 1) h1 h2
end
end Tv
/-! Tv83: tables laid anew. -/
namespace Tv
open PySem PySem.Spec PyProof.Rows L2
section
variable {m : Nat}
/-! ### sizes -/
end
end Tv
/-! Tv84: sets of tuples of keys: the search, adding, dropping. -/
namespace Tv
open PySem PySem.Spec PyProof.Rows L2
section
variable {P : Program} {w : World} {Ky : Type} [DecidableEq Ky] {knd : KeyKind P w Ky} {A : Around} {E : Value → Shared → Prop} {s : Shared}
/-! ### what is asked of tuples -/
/-! ### the set -/
abbrev KL (Ky : Type) := List (Addr × List Ky)
def rowsZ (knd : KeyKind P w Ky) (L : KL Ky) : List (Int × Value) := L.map fun p => (tupleKeyHash knd p.2, Value.ref p.1)
def hsK (knd : KeyKind P w Ky) (L : KL Ky) : List Int := L.map fun (p : Addr × List Ky) => tupleKeyHash knd p.2
structure SetD (knd : KeyKind P w Ky) (h : Heap) (a : Addr) (L : KL Ky) (es : Array (Int × Value)) (ep : Nat) (t : SetTable) : Prop where
  ob : ∃ o, h.get? a = some o ∧ o.ExactSet ∧ o.data = .set es ep t
  rows : es.toList = rowsZ knd L
  tab : TabD t (hsK knd L)
  nd : (L.map Prod.snd).Nodup
  tup : ∀ p ∈ L, IsTupleKey knd h p.2 p.1
  led : w.params.followText "set-order" = true ∨ t.led = true
  room : t.fill * 5 < t.mask * 3
  few : L.length < 2000
variable {a : Addr} {L : KL Ky} {es : Array (Int × Value)} {ep : Nat} {t : SetTable}
theorem hsK_len {L : KL Ky} : (hsK knd L).length = L.length := List.length_map ..
theorem rows_size (h : es.toList = rowsZ knd L) : es.size = L.length := by
  have := congrArg List.length h
  unfold rowsZ at this
  rw [Array.length_toList, List.length_map] at this
  exact this
theorem SetD.fits (R : SetD knd s.heap a L es ep t) : t.fits es.size = true := R.tab.fits (by rw [rows_size R.rows, hsK_len])
theorem SetD.gw (R : SetD knd s.heap a L es ep t) : ¬ t.gaveWay = true := by
  unfold SetTable.gaveWay
  rw [R.tab.mok.odd]
  decide
end
end Tv
/-! Tv85: sets of tuples: laying anew, adding, dropping. -/
namespace Tv
open PySem PySem.Spec PyProof.Rows L2
theorem TabD.plain {t : SetTable} {hs : List Int} (T : TabD t hs) (b : Bool) : TabD { t with plain := b } hs := ⟨T.ris, T.rid, T.dj, T.sz, T.mok, T.bd, T.fl, T.reach⟩
section
variable {P : Program} {w : World} {Ky : Type} [DecidableEq Ky] {knd : KeyKind P w Ky} {A : Around} {E : Value → Shared → Prop} {s : Shared}
variable {a : Addr} {L : KL Ky} {es : Array (Int × Value)} {ep : Nat} {t : SetTable}
theorem tup_same {h h' : Heap} {k : List Ky} {b : Addr} {o : Obj} (hb : IsTupleKey knd h k b) (ho : h.get? a = some o) (hd : o.data = .set es ep t) (hs : Heap.SameBut a h h') : IsTupleKey knd h' k b := by
  obtain ⟨o', items, n, ho', hc, hd', hi⟩ := hb
  have hne : b ≠ a := fun e => by
    subst e
    rw [ho] at ho'
    cases ho'
    rw [hd] at hd'
    cases hd'
  exact ⟨o', items, n, (hs.2 b hne).trans ho', hc, hd', hi⟩
/-- a set as it stands in the midst of adding -/
structure SetM (knd : KeyKind P w Ky) (h : Heap) (a : Addr) (L : KL Ky) (es : Array (Int × Value)) (ep : Nat) (t : SetTable) : Prop where
  ob : ∃ o, h.get? a = some o ∧ o.ExactSet ∧ o.data = .set es ep t
  rows : es.toList = rowsZ knd L
  tab : TabD t (hsK knd L)
  nd : (L.map Prod.snd).Nodup
  tup : ∀ p ∈ L, IsTupleKey knd h p.2 p.1
  led : w.params.followText "set-order" = true ∨ t.led = true
  few : L.length < 2000
theorem SetD.m (R : SetD knd s.heap a L es ep t) : SetM knd s.heap a L es ep t := ⟨R.ob, R.rows, R.tab, R.nd, R.tup, R.led, R.few⟩
end
end Tv
/-! Tv86: set(xs) of lists and tuples of tuples of keys; sorted of such a set. -/
namespace Tv
open PySem PySem.Spec PyProof.Rows L2
section
variable {P : Program} {w : World} {Ky : Type} [DecidableEq Ky] {knd : KeyKind P w Ky} {A : Around} {E : Value → Shared → Prop} {s : Shared} {a : Addr}
theorem SetD.keep {h h' : Heap} {L : KL Ky} {es : Array (Int × Value)} {ep : Nat} {t : SetTable} (R : SetD knd h a L es ep t) (ha : ∀ o, h.get? a = some o → h'.get? a = some o) (ht : ∀ p ∈ L, IsTupleKey knd h' p.2 p.1) : SetD knd h' a L es ep t := by
  obtain ⟨o, ho, r⟩ := R.ob
  exact ⟨⟨o, ha o ho, r⟩, R.rows, R.tab, R.nd, ht, R.led, R.room, R.few⟩
/-! ### sorted -/
end
end Tv
/-! Tv87: sorted(set(..)) of tuples of whole numbers and texts, over trees. -/
namespace Tv
open PySem PySem.Spec PyProof.Rows L2
variable [LamT]
/-! ### keys as data -/
theorem items_mix {P : Program} {w : World} : ∀ {k : List Key} {us : List Value}, Vals (k.map kV) us → ItemsAre (mixKind P w) k us
  | [], _, .nil => .nil
  | .inl i :: k, _, .cons r t => by
    obtain ⟨u, rfl⟩ := r
    exact .cons (mixKind_int P w i u) (items_mix t)
  | .inr x :: k, _, .cons r t => by
    obtain ⟨u, rfl⟩ := r
    exact .cons (mixKind_str P w x u) (items_mix t)
section
variable {X : Cx}
theorem inv_tup {pins : List (Addr × Obj)} {σ : L2.St} {H : Hp} {s : Shared} {b : Addr} {k : List Key} (I : Inv X pins σ H s) (h : SqT X.K H b (k.map kV)) : IsTupleKey (mixKind X.prog X.w) s.heap k b := by
  obtain ⟨its, r, ⟨o, ho, hc, n, hd⟩, _⟩ := I.tuple h
  exact ⟨o, its.toArray, n, ho, hc, hd, by simpa using items_mix r⟩
end
section
variable {X : Cx} {G0 : Gh} {H0 : Hp} {wa : WE} {pos p p2 q : Pos} {a : Expr}
end
end Tv
/-! Tv88: a list taken apart by `a, b = e`; what is borrowed and a tuple. -/
namespace Tv
open PySem PySem.Spec PyProof.Rows L2
variable [LamT]
section
variable {X : Cx} {G0 : Gh} {H0 : Hp} {vs : List Nat} {es : List Expr} {Ws : WTgs} {pos : Pos} {ρ : En} {Φe : En → Prop} {ds : List D} {Φ : R → En → Prop}
end
/-! ### list(d) -/
section
variable {X : Cx} {G0 : Gh} {H0 : Hp} {wa : WE} {pos p : Pos} {e : Expr} {ρ : En} {Φ : R → En → Prop}
end
end Tv
/-! Tv89: sets of tuples: dropping by value. -/
namespace Tv
open PySem PySem.Spec PyProof.Rows L2
section
variable {P : Program} {w : World} {Ky : Type} [DecidableEq Ky] {knd : KeyKind P w Ky} {A : Around} {E : Value → Shared → Prop} {s : Shared}
variable {a : Addr} {L : KL Ky} {es : Array (Int × Value)} {ep : Nat} {t : SetTable}
end
end Tv
/-! Tv90: a walk over a set of tuples; a set made of another. -/
namespace Tv
open PySem PySem.Spec PyProof.Rows L2
section
variable {P : Program} {w : World} {Ky : Type} [DecidableEq Ky] {knd : KeyKind P w Ky} {A : Around} {E : Value → Shared → Prop} {s : Shared}
variable {a : Addr} {L : KL Ky} {es : Array (Int × Value)} {ep : Nat} {t : SetTable}
theorem SetD.but {h h' : Heap} {S : Addr} {o : Obj} {esS : Array (Int × Value)} {epS : Nat} {tS : SetTable} (R : SetD knd h a L es ep t) (hne : S ≠ a) (ho : h.get? S = some o) (hd : o.data = .set esS epS tS) (hs : Heap.SameBut S h h') : SetD knd h' a L es ep t :=
  R.keep (fun u e => (hs.2 a (Ne.symm hne)).trans e) fun p hp => tup_same (R.tup p hp) ho hd hs
theorem TabD.turn {t : SetTable} {hs : List Int} (T : TabD t hs) (f m : Nat) (l p : Bool) : TabD { t with finger := f, led := l, moves := m, plain := p } hs := ⟨T.ris, T.rid, T.dj, T.sz, T.mok, T.bd, T.fl, T.reach⟩
end
end Tv
/-! Tv91: what stands in just one of two sets of tuples. -/
namespace Tv
open PySem PySem.Spec PyProof.Rows L2
section
variable {P : Program} {w : World} {Ky : Type} [DecidableEq Ky] {knd : KeyKind P w Ky} {A : Around} {E : Value → Shared → Prop} {s : Shared}
variable {a o : Addr} {L : KL Ky} {es : Array (Int × Value)} {ep : Nat} {t : SetTable}
end
end Tv
/-! Tv92: what stands in just one of two sets of tuples. -/
namespace Tv
open PySem PySem.Spec PyProof.Rows L2
section
variable {P : Program} {w : World} {Ky : Type} [DecidableEq Ky] {knd : KeyKind P w Ky} {A : Around} {E : Value → Shared → Prop} {s : Shared}
variable {a o : Addr} {La Lo : KL Ky} {es eo : Array (Int × Value)} {ep epo : Nat} {t to : SetTable}
end
end Tv
/-! Tv93: `^` of two sets of tuples. -/
namespace Tv
open PySem PySem.Spec PyProof.Rows L2
section
variable {P : Program} {w : World} {Ky : Type} [DecidableEq Ky] {knd : KeyKind P w Ky} {A : Around} {E : Value → Shared → Prop} {s : Shared}
variable {x y : Addr} {Lx Ly : KL Ky} {ex ey : Array (Int × Value)} {epx epy : Nat} {tx ty : SetTable}
end
end Tv
/-! Tv94: sorted of any set of tuples. -/
namespace Tv
open PySem PySem.Spec PyProof.Rows L2
section
variable {P : Program} {w : World} {Ky : Type} [DecidableEq Ky] {knd : KeyKind P w Ky} {A : Around} {E : Value → Shared → Prop} {s : Shared} {a : Addr}
end
end Tv
/-! Tv95: sorted(set(x) ^ set(y)) of tuples of whole numbers and texts, over trees. -/
namespace Tv
open PySem PySem.Spec PyProof.Rows L2
variable [LamT]
section
variable {X : Cx}
end
section
variable {X : Cx} {G0 : Gh} {H0 : Hp} {wa wb : WE} {pos p p2 p3 q q2 bp : Pos} {a b : Expr}
end
end Tv
/-! Tv96: dicts with tuples of whole numbers and texts for keys. -/
namespace Tv
open PySem PySem.Spec PyProof.Rows L2
variable [LamT]
/-- how tuples are hashed here -/
abbrev HshOk (P : Program) (w : World) : Prop := LamT.hsh = tupleKeyHash (mixKind P w)
abbrev KU : List (List Key × Addr × V) → List (List Key × Addr × Value) → Prop := Paired fun p q => p.1 = q.1 ∧ p.2.1 = q.2.1 ∧ RelV p.2.2 q.2.2
def valU (kvs : List (List Key × Addr × V)) (k : List Key) : Option V := (kvs.find? fun p => decide (p.1 = k)).map (·.2.2)
def putU (kvs : List (List Key × Addr × V)) (k : List Key) (b : Addr) (v : V) : List (List Key × Addr × V) :=
  if (valU kvs k).isSome then kvs.map (fun p => if p.1 = k then (p.1, p.2.1, v) else p) else kvs ++ [(k, b, v)]
theorem KU.val {kvs : List (List Key × Addr × V)} {xs : List (List Key × Addr × Value)} (r : KU kvs xs) (k : List Key) : RelO (valU kvs k) ((atKey xs k).map (·.2)) := by
  unfold KU at r
  induction r with
  | nil => exact True.intro
  | @cons p q ps qs h t ih =>
    obtain ⟨h1, _, h2⟩ := h
    unfold valU atKey
    rw [List.find?_cons, List.find?_cons]
    by_cases e : p.1 = k
    · have e' : q.1 = k := h1.symm.trans e
      rw [decide_eq_true e, decide_eq_true e']
      exact h2
    · have e' : ¬ q.1 = k := fun z => e (h1.trans z)
      rw [decide_eq_false e, decide_eq_false e']
      exact ih
theorem KU.put {kvs : List (List Key × Addr × V)} {xs : List (List Key × Addr × Value)} (r : KU kvs xs) (k : List Key) (b : Addr) {v : V} {u : Value} (rv : RelV v u) : KU (putU kvs k b v) (storedH xs k b u) := by
  have e : (valU kvs k).isSome = (atKey xs k).isSome := by rw [(r.val k).isSome_eq, Option.isSome_map]
  unfold putU storedH
  rw [e]
  by_cases c : (atKey xs k).isSome = true
  · rw [if_pos c, if_pos c]
    clear e c
    unfold KU at r ⊢
    induction r with
    | nil => exact .nil
    | @cons p q ps qs h t ih =>
      rw [List.map_cons, List.map_cons]
      refine .cons ?_ ih
      unfold putAt
      by_cases e : p.1 = k
      · rw [if_pos e, if_pos (h.1.symm.trans e)]
        exact ⟨h.1, h.2.1, rv⟩
      · rw [if_neg e, if_neg fun z => e (h.1.trans z)]
        exact h
  · rw [if_neg c, if_neg c]
    exact Paired.snoc r ⟨rfl, rfl, rv⟩
theorem KU.keys {kvs : List (List Key × Addr × V)} {xs : List (List Key × Addr × Value)} (r : KU kvs xs) : kvs.map (·.1) = xs.map (·.1) := by
  unfold KU at r
  induction r with
  | nil => rfl
  | cons h t ih => rw [List.map_cons, List.map_cons, h.1, ih]
theorem putU_len (kvs : List (List Key × Addr × V)) (k : List Key) (b : Addr) (v : V) : (putU kvs k b v).length ≤ kvs.length + 1 := by
  unfold putU
  split
  · rw [List.length_map]; omega
  · rw [List.length_append]; exact Nat.le_refl _
section
variable {X : Cx} {pins : List (Addr × Obj)} {σ : L2.St} {H : Hp} {s : Shared} {a : Addr} {o : Obj} {kvs : List (List Key × Addr × V)} {A : Around} {E : Value → Shared → Prop}
/-- the tuples of the keys stand -/
def KtU (K : PySem.W.Frag) (H : Hp) (kvs : List (List Key × Addr × V)) : Prop := ∀ p ∈ kvs, SqT K H p.2.1 (p.1.map kV)
/-- the dict's object at hand -/
theorem dto_of {h : Heap} {xs : List (List Key × Addr × Value)} (hh : HshOk X.prog X.w) (ho : h.get? a = some o) (hd : (a == sysModules) = false) (hl : kvs.length ≤ sizeLine) (r : KU kvs xs) (D : h.DictOfH (tupleKind (mixKind X.prog X.w)) a xs) : DtO a o kvs := by
  obtain ⟨o', es, ep, h1, h2, h3, h4, h5, h6⟩ := D
  rw [ho] at h1
  cases h1
  refine ⟨hd, hl, h2, ⟨xs, es, ep, h3, r, ?_⟩, by rw [r.keys]; exact h6⟩
  rw [h4, hh]
  rfl
theorem dto_at (hh : HshOk X.prog X.w) (I : Inv X pins σ H s) (ho : s.heap.get? a = some o) (d : DtO a o kvs) (t : KtU X.K H kvs) : ∃ xs, KU kvs xs ∧ s.heap.DictOfH (tupleKind (mixKind X.prog X.w)) a xs := by
  obtain ⟨xs, es, ep, h1, r, h2⟩ := d.da
  refine ⟨xs, r, o, es, ep, ho, d.ex, h1, by rw [h2, hh]; rfl, fun x hx => ?_, by rw [← KU.keys r]; exact d.nd⟩
  have : ∃ p ∈ kvs, p.1 = x.1 ∧ p.2.1 = x.2.1 := by
    clear h2 h1 d t
    induction r with
    | nil => cases hx
    | @cons p q ps qs h _ ih =>
      rcases List.mem_cons.mp hx with rfl | hx
      · exact ⟨p, List.mem_cons_self, h.1, h.2.1⟩
      · obtain ⟨p', h1, h2⟩ := ih hx
        exact ⟨p', List.mem_cons_of_mem _ h1, h2⟩
  obtain ⟨p, hp, e1, e2⟩ := this
  rw [← e1, ← e2]
  exact inv_tup I (t p hp)
end
/-! ### readings by values -/
section
variable {X : Cx}
end
/-! ### over trees -/
instance memK (k : List Key) (ks : List (List Key)) : Decidable (k ∈ ks) := decidable_of_iff (ks.any (fun x => decide (x = k)) = true) (by
  rw [List.any_eq_true]
  exact ⟨fun ⟨x, h, e⟩ => of_decide_eq_true e ▸ h, fun h => ⟨k, h, decide_eq_true rfl⟩⟩)
section
variable {K : PySem.W.Frag} {G : Gh} {H : Hp} {d : D} {v : V}
end
/-! ### {} , d[k] = v -/
section
variable {X : Cx} {G0 : Gh} {H0 : Hp} {wv wk : WE} {pos p pos' : Pos} {e i : Expr} {x : Str} {j : Nat} {K : PySem.W.Frag} {ρ : En} {G : Gh} {H : Hp} {σ : L2.St}
end
end Tv
/-! Tv97: walks over dicts with tuples for keys; comprehensions that make them. -/
namespace Tv
open PySem PySem.Spec PyProof.Rows L2
variable [LamT]
section
variable {P : Program} {w : World} {K : PySem.W.Frag} {tg : Expr} {d : Addr} {o : Obj} {es : Array DictEntry} {ep : Nat} {kvs : List (List Key × Addr × V)}
end
section
variable {X : Cx} {tg e : Expr} {td : TE} {apos cpos : Pos}
end
/-! ### over trees -/
section
variable {X : Cx} {G0 : Gh} {H0 : Hp} {K : PySem.W.Frag} {G : Gh} {H : Hp} {wa : WE} {tg e : Expr} {pos apos : Pos}
end
end Tv
/-! Tv98: comprehensions that make dicts with tuples for keys. -/
namespace Tv
open PySem PySem.Spec PyProof.Rows L2
variable [LamT]
section
variable {X : Cx} {pins : List (Addr × Obj)} {σ : L2.St} {H : Hp} {s : Shared}
end
/-! ### over trees -/
section
variable {X : Cx} {G0 : Gh} {H0 : Hp} {K : PySem.W.Frag} {σ : L2.St} {H : Hp} {wi : WI} {W : WTg} {wt : WT} {wk wv : WE} {vs : List Nat}
structure MkU (K : PySem.W.Frag) (ks : List (List Key)) (acc : List D) (G : Gh) (H : Hp) (kvs : List (List Key × Addr × V)) : Prop where
  t : KtU K H kvs
  k : kvs.map (·.1) = ks
  r : RepL K G H acc (kvs.map (·.2.2))
theorem MkU.fe {ks : List (List Key)} {acc : List D} {kvs : List (List Key × Addr × V)} {G G' : Gh} {H' : Hp} (m : MkU K ks acc G H kvs) (f : FE G H G' H') : MkU K ks acc G' H' kvs :=
  ⟨fun p hp => SqT.fe f (m.t p hp), m.k, m.r.fe f⟩
variable {kx vx tg iter : Expr} {ifs : List Expr} {scope : Scope} {own : List (Str × Nat)} {pos : Pos}
end
end Tv
/-! Tv99: steps for dicts with tuples for keys. -/
namespace Tv
open PySem PySem.Spec PyProof.Rows L2
variable [LamT]
section
variable {ρ : En} {Φ : R → En → Prop} {Φi : List D → En → Prop} {S : SK} {wa wb wk wv : WE} {r : R} {d : D} {ks : List (List Key)} {ds : List D} {j : Nat} {k : List Key}
end
section
variable {X : Cx} {G0 : Gh} {H0 : Hp} {wi : WI} {W : WTg} {wt : WT} {wk wv : WE}
variable {kx vx tg iter : Expr} {ifs : List Expr} {scope : Scope} {own : List (Str × Nat)} {pos : Pos}
end
end Tv
/-! Tv100: a law's end where dicts have tuples for keys. -/
namespace Tv
open PySem PySem.Spec PyProof.Rows L2
end Tv
/-! Tv101: sum(a list of lists, a list). -/
namespace Tv
open PySem PySem.Spec PyProof.Rows L2
open Sem (wp)
variable [LamT]
section
variable {prog : Program} {w : World} {A : Around} {R : Result → Shared → Prop} {I : Addr} {fp wr : List Addr} {n : Nat} {P : Nat → Value → Prop} {St : Nat → Heap → Prop}
end
section
variable {prog : Program} {w : World} {A : Around} {E : Value → Shared → Prop} {s : Shared}
end
section
variable {K : PySem.W.Frag}
end
end Tv
/-! Tv102: a walk over a list that is borrowed. -/
namespace Tv
open PySem PySem.Spec PyProof.Rows L2
variable [LamT]
section
variable {X : Cx} {G0 : Gh} {H0 : Hp} {e tg : Expr} {pos : Pos} {K : PySem.W.Frag} {W : WTg} {wi : WI} {vs : List Nat}
end
end Tv
/-! Tv103: sorted({k: v for ..}, key=lambda x: (len(x), x)), keys being tuples. -/
namespace Tv
open PySem PySem.Spec PyProof.Rows L2
section
variable {P : Program} {w : World} {A : Around} {E : Value → Shared → Prop} {s : Shared} {d : Addr} {es : Array DictEntry} {ep : Nat}
end
end Tv
/-! Tv104: sorted({k: v for ..}, key=lambda x: (len(x), x)) over trees. -/
namespace Tv
open PySem PySem.Spec PyProof.Rows L2
variable [LamT]
section
variable {X : Cx} {G0 : Gh} {H0 : Hp} {e : Expr} {wa : WE} {p pos kpos lpos p1 p2 p3 p4 p5 : Pos} {c P : Addr} {params : Arguments} {scope : Scope} {q x : Str} {k kr : Nat}
end
end Tv
/-! Tv105: (was: nested own lists; the store of Tv109 takes its place.) -/
/-! Tv106: sorted of a tuple. -/
namespace Tv
open PySem PySem.Spec PyProof.Rows L2
section
variable {prog : Program} {w : World} {A : Around} {E : Value → Shared → Prop} {s : Shared}
open PySem.W PySem.Calls in
open PySem.W PySem.Calls in
open PySem.W PySem.Calls in
end
section
variable [LamT] {K : PySem.W.Frag} {X : Cx}
end
end Tv
/-! Tv107: list comprehensions of any number of clauses. -/
namespace Tv
open PySem PySem.Spec PyProof.Rows L2
section
variable {prog : Program} {w : World} {A : Around} {R : Result → Shared → Prop} {s : Shared} {elt t i t1 i1 : Expr} {ifs ifs1 : List Expr} {gens : List Comprehension} {scope : Scope} {pos : Pos} {it acc : Value} {env : Env} {j : Nat}
end
section
abbrev TBl := L2.St → Hp → (Hp → Prop) → Prop
variable {Y : Cx} {elt t i t1 i1 : Expr} {ifs ifs1 : List Expr} {gens : List Comprehension} {scope : Scope} {pos : Pos} {j : Nat} {D : Addr} {g : TG} {tt : TT} {te : TE} {vs vsB : List Nat} {B : TBl} {Bd : (Shared → Prop) → Shared → Prop}
end
section
variable [LamT] {X : Cx}
end
/-! ### over trees -/
section
variable [LamT] {K : PySem.W.Frag} {G0 : Gh} {H0 : Hp}
abbrev WBl := En → List D → (List D → En → Prop) → Prop
variable {wi : WI} {W : WTg} {wt : WT} {we : WE} {vs vsB : List Nat} {tB : Addr → TBl} {wB : WBl}
end
section
variable [LamT] {X : Cx} {G0 : Gh} {H0 : Hp} {wi wi1 wi2 : WI} {W W1 W2 : WTg} {wt wt1 wt2 : WT} {we : WE} {vs1 vs2 : List Nat} {elt tg iter tg1 iter1 tg2 iter2 : Expr} {ifs ifs1 ifs2 : List Expr} {scope : Scope} {own : List (Str × Nat)} {pos : Pos}
end
/-! ### steps -/
section
variable {ρ : En} {Φ : R → En → Prop} {Φa : List D → En → Prop} {wi : WI} {W : WTg} {wt : WT} {we : WE} {vs : List Nat} {B : WBl} {acc : List D} {y : D}
end
end Tv
/-! Tv108: x, y, z = a, b, c where one of the names is captured. -/
namespace Tv
open PySem PySem.Spec PyProof.Rows L2
variable [LamT]
section
variable {X : Cx} {G0 : Gh} {H0 : Hp} {ws : WA} {pos : Pos} {a b c : Expr}
end
end Tv
/-! Tv109: the store: things that are changed from everywhere, by their addresses; defs that are handed the store. -/
namespace Tv
open PySem PySem.Spec PyProof.Rows L2
variable [LamT]
abbrev Sto := List (Addr × D)
def stores : En → Sto
  | [] => []
  | .no :: ρ => stores ρ
  | .fr _ :: ρ => stores ρ
  | .ow _ :: ρ => stores ρ
  | .bo _ :: ρ => stores ρ
  | .st a d :: ρ => (a, d) :: stores ρ
def vars : En → En
  | [] => []
  | .no :: ρ => .no :: vars ρ
  | .fr d :: ρ => .fr d :: vars ρ
  | .ow d :: ρ => .ow d :: vars ρ
  | .bo d :: ρ => .bo d :: vars ρ
  | .st _ _ :: ρ => vars ρ
def stE (μ : Sto) : En := μ.map fun p => .st p.1 p.2
def sGet (a : Addr) : Sto → Option D
  | [] => none
  | (b, d) :: μ => if b = a then some d else sGet a μ
theorem stores_stE : ∀ μ : Sto, stores (stE μ) = μ
  | [] => rfl
  | p :: μ => by show (p.1, p.2) :: stores (stE μ) = _; rw [stores_stE μ]
theorem vars_stE : ∀ μ : Sto, vars (stE μ) = []
  | [] => rfl
  | p :: μ => vars_stE μ
theorem sGet_mem {a : Addr} {d : D} : ∀ {μ : Sto}, sGet a μ = some d → (a, d) ∈ μ
  | [], h => by cases h
  | (b, e) :: μ, h => by
    unfold sGet at h
    by_cases hb : b = a
    · rw [if_pos hb] at h; cases h; rw [hb]; exact List.mem_cons_self
    · rw [if_neg hb] at h; exact List.mem_cons_of_mem _ (sGet_mem h)
section
variable {K : PySem.W.Frag} {G0 G G' : Gh} {H0 H H' : Hp} {ρ : En} {σ : L2.St} {μ : Sto} {a : Addr} {d : D}
/-- what the store holds -/
def StoH (K : PySem.W.Frag) (G : Gh) (H : Hp) (μ : Sto) : Prop := (∀ p ∈ μ, G.M p.1 ∧ Obm K G H p.1 p.2) ∧ (μ.map (·.1)).Nodup
theorem StoH.fe (h : StoH K G H μ) (f : FE G H G' H') (k : ∀ a, G.M a → G'.M a ∧ ∀ o, H a = some o → H' a = some o) : StoH K G' H' μ :=
  ⟨fun p hp => ⟨(k _ (h.1 p hp).1).1, (h.1 p hp).2.fe f (k _ (h.1 p hp).1).2⟩, h.2⟩
theorem stE_get {i : Nat} {c : Cell} (h : (stE μ)[i]? = some c) : ∃ p, μ[i]? = some p ∧ c = .st p.1 p.2 := by
  unfold stE at h
  rw [List.getElem?_map] at h
  cases e : μ[i]? with
  | none => rw [e] at h; cases h
  | some p => rw [e] at h; cases h; exact ⟨p, rfl, rfl⟩
/-- the variables stand where they stood -/
theorem vars_get {n : Nat} : ∀ {ρ : En}, n ≤ ρ.length → (∀ (i : Nat) a d, ρ[i]? = some (.st a d) → n ≤ i) → n ≤ (vars ρ).length ∧ ∀ i, i < n → (vars ρ)[i]? = ρ[i]? := by
  induction n with
  | zero => exact fun _ _ => ⟨Nat.zero_le _, fun i h => absurd h (Nat.not_lt_zero _)⟩
  | succ n ih =>
    intro ρ hl hs
    cases ρ with
    | nil => simp at hl
    | cons c ρ =>
      obtain ⟨h1, h2⟩ := ih (ρ := ρ) (by simpa using hl) fun i a d e => Nat.le_of_succ_le_succ (hs (i + 1) a d e)
      have hc : vars (c :: ρ) = c :: vars ρ := by
        cases c with
        | st a d => have := hs 0 a d rfl; omega
        | _ => rfl
      rw [hc]
      refine ⟨by simpa using h1, fun i hi => ?_⟩
      cases i with
      | zero => rfl
      | succ i => exact h2 i (Nat.lt_of_succ_lt_succ hi)
theorem vars_from : ∀ {ρ : En} {j : Nat} {c : Cell}, (vars ρ)[j]? = some c → (∃ j' : Nat, ρ[j']? = some c) ∧ ∀ a d, c ≠ .st a d
  | [], _, _, h => by cases h
  | c0 :: ρ, j, c, h => by
    have tl : ∀ {j : Nat}, (vars ρ)[j]? = some c → (∃ j' : Nat, (c0 :: ρ)[j']? = some c) ∧ ∀ a d, c ≠ .st a d := fun h => by
      obtain ⟨⟨j', e⟩, n⟩ := vars_from h
      exact ⟨⟨j' + 1, e⟩, n⟩
    have both : (∀ a d, c0 ≠ .st a d) → (c0 :: vars ρ)[j]? = some c → (∃ j' : Nat, (c0 :: ρ)[j']? = some c) ∧ ∀ a d, c ≠ .st a d := fun hn h => by
      cases j with
      | zero => cases h; exact ⟨⟨0, rfl⟩, hn⟩
      | succ j => exact tl h
    cases c0 with
    | st a d => exact tl h
    | no => exact both nofun h
    | fr d => exact both nofun h
    | ow d => exact both nofun h
    | bo d => exact both nofun h
theorem Sta.varAt (S : Sta K G0 H0 ρ G H σ) {j : Nat} {c : Cell} (h : (vars ρ ++ stE μ)[j]? = some c) (hs : ∀ a d, c ≠ .st a d) (hn : c ≠ .no) : ρ[j]? = some c := by
  obtain ⟨l1, l2⟩ := vars_get S.ln.1 S.ln.2
  by_cases hj : j < (vars ρ).length
  · rw [List.getElem?_append_left hj] at h
    obtain ⟨⟨j', e⟩, _⟩ := vars_from h
    by_cases hσ : j < σ.length
    · rw [l2 j hσ] at h; exact h
    · -- a cell of a variable, behind the variables: none
      exfalso
      -- the first σ.length cells of vars are ρ's; what is behind comes from behind
      have key : ∀ {ρ : En} {n j : Nat} {c : Cell}, n ≤ ρ.length → (∀ (i : Nat) a d, ρ[i]? = some (.st a d) → n ≤ i) → n ≤ j → (vars ρ)[j]? = some c → ∃ j', n ≤ j' ∧ ρ[j']? = some c := by
        intro ρ n
        induction n generalizing ρ with
        | zero => exact fun _ _ _ h => let ⟨⟨j', e⟩, _⟩ := vars_from h; ⟨j', Nat.zero_le _, e⟩
        | succ n ih =>
          intro j c hl hs hj h
          cases ρ with
          | nil => simp at hl
          | cons c0 ρ =>
            have hc : vars (c0 :: ρ) = c0 :: vars ρ := by
              cases c0 with
              | st a d => have := hs 0 a d rfl; omega
              | _ => rfl
            rw [hc] at h
            cases j with
            | zero => omega
            | succ j =>
              obtain ⟨j', h1, h2⟩ := ih (ρ := ρ) (j := j) (c := c) (by simpa using hl) (fun i a d e => Nat.le_of_succ_le_succ (hs (i + 1) a d e)) (by omega) h
              exact ⟨j' + 1, by omega, h2⟩
      obtain ⟨j2, h1, h2⟩ := key S.ln.1 S.ln.2 (Nat.le_of_not_lt hσ) h
      have none : σ[j2]? = none := List.getElem?_eq_none h1
      cases c with
      | st a d => exact hs a d rfl
      | no => exact hn rfl
      | fr d => obtain ⟨v, e1, _⟩ := S.fr j2 d h2; rw [none] at e1; cases e1
      | ow d => obtain ⟨v, e1, _⟩ := S.ow j2 d h2; rw [none] at e1; cases e1
      | bo d => obtain ⟨v, e1, _⟩ := S.bo j2 d h2; rw [none] at e1; cases e1
  · rw [List.getElem?_append_right (Nat.le_of_not_lt hj)] at h
    obtain ⟨p, _, e⟩ := stE_get h
    exact (hs _ _ e).elim
theorem Sta.storeAt {i : Nat} (h : (vars ρ ++ stE μ)[i]? = some (.st a d)) : (vars ρ).length ≤ i ∧ μ[i - (vars ρ).length]? = some (a, d) := by
  by_cases hj : i < (vars ρ).length
  · rw [List.getElem?_append_left hj] at h
    exact ((vars_from h).2 a d rfl).elim
  · rw [List.getElem?_append_right (Nat.le_of_not_lt hj)] at h
    obtain ⟨p, e, e2⟩ := stE_get h
    cases e2
    exact ⟨Nat.le_of_not_lt hj, e⟩
theorem StoH.st (h : StoH K G H μ) : StH K G H (vars ρ ++ stE μ) := by
  refine ⟨fun i a d e => ?_, fun i j a d e q1 q2 => ?_⟩
  · obtain ⟨_, e1⟩ := Sta.storeAt e
    exact h.1 _ (List.mem_of_getElem? e1)
  · obtain ⟨l1, e1⟩ := Sta.storeAt q1
    obtain ⟨l2, e2⟩ := Sta.storeAt q2
    have f1 : (μ.map (·.1))[i - (vars ρ).length]? = some a := by rw [List.getElem?_map, e1]; rfl
    have f2 : (μ.map (·.1))[j - (vars ρ).length]? = some a := by rw [List.getElem?_map, e2]; rfl
    have hi := (List.getElem?_eq_some_iff.mp f1).1
    have := (List.getElem?_inj hi h.2).mp (f1.trans f2.symm)
    omega
theorem Own.growW (w : Wd G H) (g : GrW G H G' H') (h : Own K G H a d) : Own K G' H' a d := by
  obtain ⟨h1, h2, h3⟩ := h
  obtain ⟨o, ho⟩ := h3.tracked
  refine ⟨fun q => ?_, fun q => ?_, h3.fe (g.fe w) fun o e => g.k a o e h2⟩
  · rcases g.nf a q with q | q
    · exact h1 q
    · rw [q] at ho; cases ho
  · rcases g.nb a q with q | q
    · exact h2 q
    · rw [q] at ho; cases ho
theorem Sta.leS (S : Sta K G0 H0 ρ G H σ) : LeE (vars ρ ++ stE μ) ρ := by
  refine ⟨trivial, fun i c e => ?_⟩
  by_cases hn : c = .no
  · exact .inl hn
  · by_cases hs : ∃ a d, c = .st a d
    · exact .inr (.inr (.inr hs))
    · exact .inr (.inl (S.varAt e (fun a d z => hs ⟨a, d, z⟩) hn))
/-! ### a thing of the store is written -/
/-! ### a new thing of the store -/
/-! ### defs that are handed the store -/
abbrev WFM := List D → Sto → (R → Sto → Prop) → Prop
end
def spM (K : PySem.W.Frag) (w : WFM) (vs : List V) (H : Hp) (Q : VK) : Prop :=
  ∃ G ds μ Φ, Wd G H ∧ RepL K G H ds vs ∧ StoH K G H μ ∧ w ds μ Φ ∧ ∀ r μ' v G' H', Φ r μ' → r.ok → Wd G' H' → GrW G H G' H' → RepR K G' H' H r v → StoH K G' H' μ' → Q v H'
def FnM (P : Program) (w : World) (K : PySem.W.Frag) (mg : Str → Option Value) (base : Heap) (k : Nat) (f : Addr) (wf : WFM) : Prop :=
  ∀ (A : Around) (outer : List Env) (s : Shared) (H : Hp) (us : List Value) (vs : List V) (Q : VK), Room k A → A.guards = some [] → Env0 P w K mg base A outer s H → Vals vs us → spM K wf vs H Q →
    codeAny (model P w) A (.call (.ref f) ⟨us, []⟩) (CR CX0 outer P w H s Q E0) s
section
variable {P : Program} {w : World} {K : PySem.W.Frag} {mg : Str → Option Value} {base : Heap} {j k : Nat} {f : Addr} {wf wf' : WFM}
theorem FnM.mono (F : FnM P w K mg base j f wf) (h : j ≤ k) : FnM P w K mg base k f wf := fun A outer s H us vs Q hr => F A outer s H us vs Q (hr.mono h)
end
section
variable {X : Cx} {G0 : Gh} {H0 : Hp} {e : Expr} {es : List Expr} {wa : WE} {ws : WA} {pos p : Pos} {k : Nat} {f : Addr} {wf : WFM} {x : Str} {K : PySem.W.Frag} {σ : L2.St} {H : Hp}
/-! ### lists of the store -/
end
end Tv
/-! Tv110: lists of the store, looked at; tests with the store held; steps. -/
namespace Tv
open PySem PySem.Spec PyProof.Rows L2
variable [LamT]
section
variable {K : PySem.W.Frag} {G0 G G' : Gh} {H0 H H' Hs : Hp} {ρ : En} {σ : L2.St} {μ : Sto} {a : Addr} {d : D} {v : V} {r : R}
end
section
variable {X : Cx} {G0 : Gh} {H0 : Hp} {e a b : Expr} {es : List Expr} {wa wb : WE} {ws : WA} {pos : Pos}
end
/-! ### a test with the store held -/
mutual
def res (μ : Sto) : D → D
  | .ptr a => match sGet a μ with
    | some (.lst ds) => .lst ds
    | _ => .ptr a
  | .tup ds => .tup (resL μ ds)
  | .lst ds => .lst (resL μ ds)
  | d => d
def resL (μ : Sto) : List D → List D
  | [] => []
  | d :: ds => res μ d :: resL μ ds
end
theorem Wd.hidT {G : Gh} {H : Hp} {U : Addr → Prop} (w : Wd G H) (h : ∀ b, U b → (∃ o, H b = some o) ∧ ¬ isTab b) : Wd (G.hid U) H :=
  ⟨fun b hb => ⟨.inl (.inl hb), fun z => z.elim (fun z => w.nTabB (fun q => (w.b b q).2 z) hb) fun z => (h b z).2 hb⟩, fun b hb => hb.elim (fun z => w.f b z) fun z => (h b z).1, fun p hp => ⟨⟨p.2, hp⟩, (w.t p hp).2.on (fun _ e => e) fun c o e _ n _ => ⟨e, w.nTabB n⟩⟩, fun _ h => h.elim⟩
section
variable {K : PySem.W.Frag} {G : Gh} {H : Hp} {U : Addr → Prop} {μ : Sto}
theorem isKD_res (μ : Sto) (d : D) : isKD (Tv.res μ d) = isKD d := by
  cases d with
  | ptr a =>
    show isKD (match sGet a μ with | some (.lst ds) => .lst ds | _ => .ptr a) = false
    split <;> rfl
  | tup ds => rfl
  | lst ds => rfl
  | _ => rfl
theorem all_res (μ : Sto) : ∀ ds : List D, (resL μ ds).all isKD = ds.all isKD
  | [] => rfl
  | d :: ds => by show (isKD (Tv.res μ d) && (resL μ ds).all isKD) = (isKD d && ds.all isKD); rw [isKD_res, all_res μ ds]
theorem str_res (μ : Sto) {d : D} {x : Str} (h : Tv.res μ d = .str x) : d = .str x := by
  cases d with
  | ptr a =>
    have h : (match sGet a μ with | some (.lst ds) => D.lst ds | _ => .ptr a) = .str x := h
    split at h <;> cases h
  | tup ds => cases h
  | lst ds => cases h
  | str y => exact h
  | _ => cases h
theorem needD_res (μ : Sto) : ∀ ds : List D, needD (resL μ ds) = true → needD ds = true
  | [], h => h
  | [d], h => by
    have e := all_res μ [d]
    have h : ((resL μ [d]).isEmpty || !((resL μ [d]).all isKD)) = true := by
      have h : needD [Tv.res μ d] = true := h
      unfold needD at h
      split at h
      · rename_i q; injection q with _ q; cases q
      · rename_i q; injection q with _ q; cases q
      · rename_i q; injection q with _ q; cases q
      · exact h
    rw [e] at h
    unfold needD
    split
    · rename_i q; injection q with _ q; cases q
    · rename_i q; injection q with _ q; cases q
    · rename_i q; injection q with _ q; cases q
    · exact h
  | [d, d'], h => by
    cases d with
    | int i => cases h
    | str x =>
      have h : needD [.str x, Tv.res μ d'] = true := h
      by_cases q : ∃ y, Tv.res μ d' = .str y
      · obtain ⟨y, q⟩ := q
        rw [str_res μ q]; rfl
      · exfalso
        have n : nst (Tv.res μ d') = true := by
          cases z : Tv.res μ d' with
          | str y => exact absurd ⟨y, z⟩ q
          | _ => rfl
        rw [needD_s n] at h
        cases h
    | ptr a =>
      have h2 : (([.ptr a, d'] : List D).isEmpty || !(([.ptr a, d'] : List D).all isKD)) = true := rfl
      exact h2
    | _ => rfl
  | d :: d' :: d2 :: ds, h => by
    have e := all_res μ (d :: d' :: d2 :: ds)
    have h : ((resL μ (d :: d' :: d2 :: ds)).isEmpty || !((resL μ (d :: d' :: d2 :: ds)).all isKD)) = true := by
      have h : needD (Tv.res μ d :: Tv.res μ d' :: Tv.res μ d2 :: resL μ ds) = true := h
      unfold needD at h
      split at h
      · rename_i q; injection q with _ q; injection q with _ q; cases q
      · rename_i q; injection q with _ q; injection q with _ q; cases q
      · rename_i q; injection q with _ q; injection q with _ q; cases q
      · exact h
    rw [e] at h
    unfold needD
    split
    · rename_i q; injection q with _ q; injection q with _ q; cases q
    · rename_i q; injection q with _ q; injection q with _ q; cases q
    · rename_i q; injection q with _ q; injection q with _ q; cases q
    · exact h
mutual
theorem Rep.res (m : StoH K G H μ) (hU : ∀ p ∈ μ, U p.1) : ∀ {d : D} {v : V}, (res μ d).nb = true → Rep K G H d v → Rep K (G.hid U) H (res μ d) v
  | _, _, _, .non => .non
  | _, _, _, .bl b => .bl b
  | _, _, _, .int i => .int i
  | _, _, _, .str x => .str x
  | _, _, g, @Rep.tup _ _ _ _ _ _ _ h r n => Rep.tup (n := fun z => n (needD_res μ _ z)) h (RepL.res m hU g r)
  | _, _, g, .lst h r => .lst ⟨.inl h.1, h.2⟩ (RepL.res m hU g r)
  | _, _, g, .bag h _ => by cases g
  | _, _, g, .scr h z => .scr h z
  | _, _, g, .fn h => .fn h
  | _, _, g, .dct h e k r => Rep.hid g (.dct h e k r)
  | _, _, g, .dcu h e y t k r => Rep.hid g (.dcu h e y t k r)
  | _, _, g, .ins h h2 e e2 c k r => Rep.hid g (.ins h h2 e e2 c k r)
  | _, _, g, .unk v => .unk v
  | .ptr a, _, g, .ptr _ => by
    unfold Tv.res at g ⊢
    split at g
    · rename_i ds e
      obtain ⟨hM, xs, hx, rx⟩ := m.1 _ (sGet_mem e)
      exact .lst ⟨.inr (hU _ (sGet_mem e)), hx⟩ (RepL.hid g rx)
    · exact .ptr a
theorem RepL.res (m : StoH K G H μ) (hU : ∀ p ∈ μ, U p.1) : ∀ {ds : List D} {vs : List V}, D.nbL (resL μ ds) = true → RepL K G H ds vs → RepL K (G.hid U) H (resL μ ds) vs
  | _, _, _, .nil => .nil
  | d :: ds, _, g, .cons r t => by
    have g' : ((Tv.res μ d).nb && D.nbL (resL μ ds)) = true := g
    rw [Bool.and_eq_true] at g'
    exact .cons (Rep.res m hU g'.1 r) (RepL.res m hU g'.2 t)
end
end
section
variable {X : Cx} {G0 : Gh} {H0 : Hp} {c : Expr} {wt : WT}
end
/-! ### steps -/
/-- the store of an environment -/
class SOf (ρ : En) (μ : outParam Sto) : Prop where
  e : stores ρ = μ
/-- its variables, with another store -/
class VF (ρ : En) (f : outParam (Sto → En)) : Prop where
  e : ∀ μ, vars ρ ++ stE μ = f μ
section
variable {ρ : En} {μ ν : Sto} {f : Sto → En} {a : Addr} {d : D} {ds es : List D} {rs : List R} {r r2 : R} {Φ : R → En → Prop} {Φm : R → Sto → Prop} {S : SK} {wa wb : WE} {ws : WA} {wf : WFM} {i : Nat} {c : Cell}
instance sof_nil : SOf [] [] := ⟨rfl⟩
instance sof_stE : SOf (stE μ) μ := ⟨stores_stE μ⟩
instance sof_no [s : SOf ρ μ] : SOf (.no :: ρ) μ := ⟨s.e⟩
instance sof_fr [s : SOf ρ μ] : SOf (.fr d :: ρ) μ := ⟨s.e⟩
instance sof_ow [s : SOf ρ μ] : SOf (.ow d :: ρ) μ := ⟨s.e⟩
instance sof_bo [s : SOf ρ μ] : SOf (.bo d :: ρ) μ := ⟨s.e⟩
instance sof_st [s : SOf ρ μ] : SOf (.st a d :: ρ) ((a, d) :: μ) := ⟨by show (a, d) :: stores ρ = _; rw [s.e]⟩
instance vf_nil : VF [] stE := ⟨fun _ => rfl⟩
instance vf_stE : VF (stE ν) stE := ⟨fun μ => by rw [vars_stE]; rfl⟩
instance vf_no [s : VF ρ f] : VF (.no :: ρ) (fun μ => .no :: f μ) := ⟨fun μ => by show .no :: (vars ρ ++ stE μ) = _; rw [s.e]⟩
instance vf_fr [s : VF ρ f] : VF (.fr d :: ρ) (fun μ => .fr d :: f μ) := ⟨fun μ => by show .fr d :: (vars ρ ++ stE μ) = _; rw [s.e]⟩
instance vf_ow [s : VF ρ f] : VF (.ow d :: ρ) (fun μ => .ow d :: f μ) := ⟨fun μ => by show .ow d :: (vars ρ ++ stE μ) = _; rw [s.e]⟩
instance vf_bo [s : VF ρ f] : VF (.bo d :: ρ) (fun μ => .bo d :: f μ) := ⟨fun μ => by show .bo d :: (vars ρ ++ stE μ) = _; rw [s.e]⟩
instance vf_st [s : VF ρ f] : VF (.st a d :: ρ) f := ⟨fun μ => s.e μ⟩
end
end Tv
/-! Tv111: defs that hand back new things of the store. -/
namespace Tv
open PySem PySem.Spec PyProof.Rows L2
variable [LamT]
abbrev WFN := List D → (R → Sto → Prop) → Prop
def spN (K : PySem.W.Frag) (w : WFN) (vs : List V) (H : Hp) (Q : VK) : Prop :=
  ∃ G ds Φ, Wd G H ∧ RepL K G H ds vs ∧ w ds Φ ∧ ∀ r μ v G' H', Φ r μ → r.ok → Wd G' H' → Grow G H G' H' → RepR K G' H' H r v → StoH K G' H' μ → (∀ p ∈ μ, H p.1 = none) → Q v H'
/-- the def at f does what w says, and hands back new things -/
def FnN (P : Program) (w : World) (K : PySem.W.Frag) (mg : Str → Option Value) (base : Heap) (k : Nat) (f : Addr) (wf : WFN) : Prop :=
  ∀ (A : Around) (outer : List Env) (s : Shared) (H : Hp) (us : List Value) (vs : List V) (Q : VK), Room k A → A.guards = some [] → Env0 P w K mg base A outer s H → Vals vs us → spN K wf vs H Q →
    codeAny (model P w) A (.call (.ref f) ⟨us, []⟩) (CR CX0 outer P w H s Q E0) s
section
variable {P : Program} {w : World} {K : PySem.W.Frag} {mg : Str → Option Value} {base : Heap} {j k : Nat} {f : Addr} {wf wf' : WFN}
theorem FnN.mono (F : FnN P w K mg base j f wf) (h : j ≤ k) : FnN P w K mg base k f wf := fun A outer s H us vs Q hr => F A outer s H us vs Q (hr.mono h)
theorem StoH.re {G G' : Gh} {H H' : Hp} {μ : Sto} (wd : Wd G H) (g : GrW G.noM H G' H') (m : StoH K G' H' μ) : StoH K (G'.reM G) H' μ ∧ ∀ p ∈ μ, H p.1 = none :=
  ⟨⟨fun p hp => ⟨.inl (m.1 p hp).1, (m.1 p hp).2.fe (g.reF wd) fun _ e => e⟩, m.2⟩, fun p hp => (g.nm _ (m.1 p hp).1).resolve_left id⟩
end
section
variable {X : Cx} {G0 : Gh} {H0 : Hp} {e : Expr} {es : List Expr} {wa : WE} {ws : WA} {pos p : Pos} {k : Nat} {f : Addr} {wf : WFN} {x : Str} {K : PySem.W.Frag} {σ : L2.St} {H : Hp}
end
section
variable {ρ : En} {μ : Sto} {f : Sto → En} {ds : List D} {rs : List R} {Φ : R → En → Prop} {ws : WA} {wf : WFN}
end
/-! ### the store behind a comprehension -/
end Tv
/-! Tv112: == and != of lists of own instances, told item by item. -/
namespace Tv
open PySem PySem.Spec PyProof.Rows L2
variable [LamT]
section
open AutoSeq1 (wpAny_loadPart')
open MeetsSeq MeetsSeq2 MeetsSeq3 SeqRoads2
variable {prog : Program} {w : World} {A : Around} {R : Result → Shared → Prop}
end
section
open AutoSeq1 (wpAny_loadPart')
variable {prog : Program} {w : World} {A : Around} {E : Value → Shared → Prop} {s : Shared}
end
section
variable {X : Cx} {C g pa : Addr} {k : Nat} {wf : WF} {c fl : Str}
end
section
variable {X : Cx} {G0 : Gh} {H0 : Hp} {a b : Expr} {wa wb : WE} {pos : Pos} {C g pa : Addr} {k n : Nat} {wf : WF} {c fl : Str} {t : Bool}
end
end Tv
/-! Tv113: calls of defs that only look at what they are handed, lists of the store looked at. -/
namespace Tv
open PySem PySem.Spec PyProof.Rows L2
variable [LamT]
section
variable {X : Cx} {G0 : Gh} {H0 : Hp} {e : Expr} {es : List Expr} {ws : WA} {pos p : Pos} {k : Nat} {f : Addr} {wf : WF} {x : Str} {K : PySem.W.Frag} {σ : L2.St} {H : Hp}
end
section
variable {ρ : En} {r r2 : R} {Φ : R → En → Prop} {ws : WA} {wf : WF} {d1 d2 : D}
end
end Tv
/-! Tv114: dicts of the store: setdefault, and looking at them. -/
namespace Tv
open PySem PySem.Spec PyProof.Rows L2
variable [LamT]
section
variable {X : Cx} {pins : List (Addr × Obj)} {σ : L2.St} {H : Hp} {s : Shared} {a : Addr} {kvs : List (List Key × Addr × V)}
theorem dtx_at (I : Inv X pins σ H s) (e : H a = some (DtX a kvs)) : ∃ o, s.heap.get? a = some o ∧ DtO a o kvs := (I.hok a _ e).1
theorem dtx_ok {P : Program} {w : World} {H : Hp} {h : Heap} {o : Obj} (ho : h.get? a = some o) (d : DtO a o kvs) : ObjOk P w H h a (DtX a kvs) := ⟨⟨o, ho, d⟩, ⟨o, ho⟩, fun h1 h2 ⟨o, e, d⟩ k => ⟨o, k o e, d⟩⟩
/-- such a dict is no code object -/
theorem dtx_ne {h : Heap} {o : Obj} (ho : h.get? a = some o) (d : DtO a o kvs) : ∀ c q, DtX a kvs ≠ LamX.CodeO c q := fun c q e => by
  have e' : (fun h : Heap => ∃ o, h.get? a = some o ∧ DtO a o kvs) = fun h => ∃ (oc : Obj) (vs : Array Value) (t : Tok), h.get? c = some oc ∧ oc.data = .fields vs ∧ vs[1]? = some (.str q t) := by
    have := e
    unfold DtX LamX.CodeO at this
    injection this
  obtain ⟨xs, es, ep, hd, _⟩ := d.da
  have at1 : ∀ h1 : Heap, h1.get? a = some o → ∃ (oc : Obj) (vs : Array Value) (t : Tok), h1.get? c = some oc ∧ oc.data = .fields vs ∧ vs[1]? = some (.str q t) := fun h1 z => by
    have := congrFun e' h1
    exact this ▸ ⟨o, z, d⟩
  obtain ⟨oc, vs, t, hc, hv, _⟩ := at1 h ho
  by_cases hca : c = a
  · subst hca
    rw [ho] at hc
    cases hc
    rw [hd] at hv
    cases hv
  · have hs := Heap.get?_update_self (h := h) (fun _ => o) hc (Obj.isFreed_of_dict hd)
    obtain ⟨oc2, vs2, t2, hc2, hv2, _⟩ := at1 (h.update c fun _ => o) ((Heap.get?_update_other h _ hca).trans ho)
    rw [hs] at hc2
    cases hc2
    rw [hd] at hv2
    cases hv2
variable {o e : Expr} {es : List Expr} {to : TE} {t : TA} {name : Str} {apos cpos : Pos} {id : String} {r : V → List V → Hp → VK → Prop}
end
/-! ### new dicts of the store -/
section
variable {X : Cx} {G0 : Gh} {H0 : Hp} {pos p : Pos} {e : Expr} {es : List Expr} {K : PySem.W.Frag} {ρ : En} {G : Gh} {H : Hp} {σ : L2.St}
end
/-! ### setdefault of a dict of the store -/
section
variable {X : Cx} {G0 : Gh} {H0 : Hp} {pos cpos apos : Pos} {o e : Expr} {es : List Expr} {wa : WE} {ws : WA}
end
/-! ### looking at dicts of the store -/
section
variable {X : Cx} {G0 : Gh} {H0 : Hp} {pos p : Pos} {a b e : Expr} {es : List Expr} {wa wb : WE} {ws : WA} {x : Str}
/-! len -/
end
end Tv
namespace PySem
section
variable {prog : Program} {w : World} {K : Type} [DecidableEq K] {knd : HeapKind prog w K} {A : Around} {E : Value → Shared → Prop} {s : Shared} {d : Addr}
end
end PySem
namespace Tv
open PySem PySem.Spec PyProof.Rows L2
variable [LamT]
section
variable {X : Cx} {G0 : Gh} {H0 : Hp} {pos p : Pos} {a b e : Expr} {es : List Expr} {wa wb : WE} {ws : WA} {x : Str}
/-! k in e -/
end
end Tv
/-! ### steps -/
namespace Tv
open PySem PySem.Spec PyProof.Rows L2
variable [LamT]
section
variable {ρ : En} {μ : Sto} {f : Sto → En} {a : Addr} {c d : D} {r rk : R} {Φ : R → En → Prop} {wa wk : WE} {ws : WA} {neg t : Bool} {n : Nat} {ks : List Key} {kts : List (List Key)} {ds : List D} {k : Key} {kt : List Key}
end
end Tv
/-! Tv115: a tuple that begins with a text, looked for among tuples of one text. -/
namespace Tv
open PySem PySem.Spec PyProof.Rows L2
variable [LamT]
section
variable {X : Cx} {pins : List (Addr × Obj)} {σ : L2.St} {H : Hp} {s : Shared}
end
/-! ### over trees -/
section
variable {K : PySem.W.Frag} {G : Gh} {H : Hp}
end
end Tv
/-! Tv116: more of Tv72's calculus: suites that change the store, walks, things looked at. -/
namespace Tv
open PySem PySem.Spec PyProof.Rows L2
variable [LamT]
/-- an expression that leaves another store -/
def Ex (w : WE) (ρ : En) (r : R) (ρ' : En) : Prop := ∀ Φ : R → En → Prop, Φ r ρ' → w ρ Φ
def XAs (ws : WA) (ρ : En) (rs : List R) (ρ' : En) : Prop := ∀ Φ : List R → En → Prop, Φ rs ρ' → ws ρ Φ
def XIs (wi : WI) (ρ : En) (ds : List D) (ρ' : En) : Prop := ∀ Φ : List D → En → Prop, Φ ds ρ' → wi ρ Φ
/-- a suite that goes on -/
def To (s : WS) (ρ ρ' : En) : Prop := ∀ S : SK, S.nx ρ' → s ρ S
def Tg (W : WTg) (d : D) (ρ ρ' : En) : Prop := ∀ Φ : En → Prop, Φ ρ' → W d ρ Φ
def Tgs (W : WTgs) (ds : List D) (ρ ρ' : En) : Prop := ∀ Φ : En → Prop, Φ ρ' → W ds ρ Φ
section
variable {ρ ρ' ρ1 ρ2 ρ3 : En} {w wa wb : WE} {ws : WA} {t u : WT} {d e : D} {r ra rb r1 r2 : R} {p q a b : Bool} {i j k : Nat} {s s2 : WS} {F : WF} {ds : List D} {x y : D} {wi : WI} {W : WTg} {Ws : WTgs}
theorem Ev.ex (h : Ev w ρ r) : Ex w ρ r ρ := h
theorem EvA.ex {rs : List R} (h : EvA ws ρ rs) : XAs ws ρ rs ρ := h
/-- one's own list is handed over -/
theorem ex_vo (e : ρ[i]? = some (.ow d)) : Ex (wV i) ρ (.fr d) (ρ.set i (.fr d)) := fun Φ h => by unfold wV; rw [e]; exact h
theorem ex_fo (h : Ex w ρ (.ow d) ρ') : Ex (wF w) ρ (.fr d) ρ' := fun Φ k => h _ k
theorem xa_nil : XAs wNil ρ [] ρ := fun Φ k => k
theorem xa_cons {rs : List R} (h : Ex wa ρ r ρ1) (hs : XAs ws ρ1 rs ρ2) : XAs (wCons wa ws) ρ (r :: rs) ρ2 := fun Φ k => h _ (hs _ k)
theorem ex_n {o : List D → (R → Prop) → Prop} {rs : List R} (h : XAs ws ρ rs ρ') (ho : ∀ Φ : R → Prop, Φ r → o (rs.map R.d) Φ) : Ex (wN o ws) ρ r ρ' := fun Φ k => h _ (ho _ k)
/-- suites -/
theorem rt_x (h : Ex w ρ r ρ') (ok : r.ok) : Rt (sRet w) ρ r := fun S k => by
  refine h _ ?_
  cases r with
  | bo d => exact ok.elim
  | fr d => exact k _
  | ow d => exact k _
theorem rt_v (e : ρ[i]? = some (.ow d)) : Rt (sRetV i) ρ (.ow d) := fun S k => by unfold sRetV; rw [e]; exact k _
theorem rt_seq (h : To s ρ ρ') (hs : Rt s2 ρ' r) : Rt (sSeq s s2) ρ r := fun S k => h _ (hs _ k)
/-- if t: return ..; .. (what comes of it is told for each case) -/
theorem rt_g' (h : EvT t ρ p) (ha : p = true → Rt s ρ r) (hb : p = false → Rt s2 ρ r) : Rt (sSeq (sIf t s sSkip) s2) ρ r := fun S k => h _ (by
  cases p with
  | true => exact ha rfl _ k
  | false => exact hb rfl _ k)
theorem to_skip : To sSkip ρ ρ := fun S k => k
theorem to_seq (h : To s ρ ρ1) (hs : To s2 ρ1 ρ2) : To (sSeq s s2) ρ ρ2 := fun S k => h _ (hs _ k)
theorem to_if (h : EvT t ρ p) (ha : p = true → To s ρ ρ') (hb : p = false → To s2 ρ ρ') : To (sIf t s s2) ρ ρ' := fun S k => h _ (by
  cases p with
  | true => exact ha rfl _ k
  | false => exact hb rfl _ k)
theorem to_set (h : Ex w ρ ra ρ') (hi : i < ρ'.length) (ok : ra.ok) : To (sSet i w) ρ (ρ'.set i ra.cell) := fun S k => h _ ⟨hi, ok, k⟩
theorem to_par (h : XAs ws ρ [r1, r2] ρ') (hi : i < ρ'.length) (hj : j < ρ'.length) (ok : r1.ok) (ok2 : r2.ok) : To (sPar i j ws) ρ ((ρ'.set i r1.cell).set j r2.cell) := fun S k => h _ ⟨⟨hi, hj⟩, ⟨ok, ok2⟩, k⟩
theorem tg_n (hi : i < ρ.length) : Tg (gN i) d ρ (ρ.set i (.fr d)) := fun Φ k => ⟨hi, k⟩
theorem tgs_nil : Tgs gNl [] ρ ρ := fun Φ k => ⟨rfl, k⟩
theorem tgs_cons (h : Tg W d ρ ρ1) (hs : Tgs Ws ds ρ1 ρ2) : Tgs (gCs W Ws) (d :: ds) ρ ρ2 := fun Φ k => h _ (hs _ k)
theorem tg_tup {n : Nat} (h : Tgs Ws ds ρ ρ') (l : ds.length = n) : Tg (gTp n Ws) (.tup ds) ρ ρ' := fun Φ k => ⟨l, h _ k⟩
theorem tg_2 {l : i < ρ.length} {l2 : j < ρ.length} : Tg (gTp 2 (gCs (gN i) (gCs (gN j) gNl))) (.tup [x, y]) ρ ((ρ.set i (.fr x)).set j (.fr y)) := tg_tup (tgs_cons (tg_n l) (tgs_cons (tg_n (by rw [List.length_set]; exact l2)) tgs_nil)) rfl
theorem to_unp (h : Ex w ρ (.fr d) ρ1) (hg : Tg W d ρ1 ρ2) : To (sUnp W w) ρ ρ2 := fun S k => h _ (hg _ k)
/-- walks -/
theorem xi_t (h : Ex wa ρ (.fr (.tup ds)) ρ') : XIs (wSeqI wa) ρ ds ρ' := fun Φ k => h _ k
theorem xi_l (h : Ex wa ρ (.fr (.lst ds)) ρ') : XIs (wSeqI wa) ρ ds ρ' := fun Φ k => h _ k
theorem forD_to {S : SK} (I : List D → En → Prop) (hs : ∀ d rest ρ, I (d :: rest) ρ → ∃ ρ1 ρ2, Tg W d ρ ρ1 ∧ To s ρ1 ρ2 ∧ I rest ρ2) (hn : ∀ ρ, I [] ρ → S.nx ρ) : ∀ (ds : List D) (ρ : En), I ds ρ → forD W s S ds ρ :=
  forD_inv I (fun d rest ρ h nxt hx => by
    obtain ⟨ρ1, ρ2, g, t, i⟩ := hs d rest ρ h
    exact g _ (t _ (hx ρ2 i))) hn
/-- a walk told by what it makes of the store -/
theorem to_for (f : List D → En) (hi : XIs wi ρ ds ρ1) (h0 : f [] = ρ1) (hs : ∀ pre d rest, pre ++ d :: rest = ds → ∃ ρ2, Tg W d (f pre) ρ2 ∧ To s ρ2 (f (pre ++ [d]))) : To (sFor wi W s) ρ (f ds) := fun S k => hi _ (by
  refine forD_to (fun rest ρ => ∃ pre, pre ++ rest = ds ∧ ρ = f pre) ?_ ?_ ds ρ1 ⟨[], rfl, h0.symm⟩
  · rintro d rest ρ ⟨pre, e, rfl⟩
    obtain ⟨ρ2, g, t⟩ := hs pre d rest e
    exact ⟨ρ2, _, g, t, pre ++ [d], by rw [← e]; simp, rfl⟩
  · rintro ρ ⟨pre, e, rfl⟩
    rw [List.append_nil] at e
    rw [e]; exact k)
/-- a comprehension over any walk -/
theorem ex_lc {we : WE} {vs : List Nat} {xs : List D} {ρw : En} (g : D → Option D) (hs : XIs wi ρ xs ρ1) (hw : wipeE vs 0 ρ1 = ρw) (hm : mixE vs 0 ρ1 ρw = ρ2) (l : xs.length ≤ 16777216)
    (h : ∀ x ∈ xs, ∀ Ψ : Option D → En → Prop, Ψ (g x) ρw → stepD W t we vs ρw x Ψ) : Ex (wLc wi W t we vs) ρ (.ow (.lst (xs.filterMap g))) ρ2 := fun Φ k => hs _ (by
  show lcD W t we vs _ xs [] (wipeE vs 0 ρ1)
  rw [hw]
  refine lcD_fm g xs [] h (by rw [List.length_nil]; omega) ?_
  rw [hm, List.nil_append]
  exact k)
theorem stepD_of {we : WE} {vs : List Nat} {ρw : En} {o : D} {Ψ : Option D → En → Prop} (hg : Tg W x ρw ρ1) (ht : EvT t ρ1 true) (he : Ev we ρ1 (.fr o)) (hz : wipeE vs 0 ρ1 = ρw) (h : Ψ (some o) ρw) : stepD W t we vs ρw x Ψ := hg _ (ht _ (he _ (by
  show Ψ (some o) (wipeE vs 0 ρ1)
  rw [hz]; exact h)))
/-- .. of all -/
theorem ex_lca {we : WE} {vs : List Nat} {xs : List D} {ρw : En} (g : D → D) (hs : XIs wi ρ xs ρ1) (hw : wipeE vs 0 ρ1 = ρw) (hm : mixE vs 0 ρ1 ρw = ρ2) (l : xs.length ≤ 16777216)
    (h : ∀ x ∈ xs, ∃ ρ3, Tg W x ρw ρ3 ∧ Ev we ρ3 (.fr (g x)) ∧ wipeE vs 0 ρ3 = ρw) : Ex (wLc wi W tYes' we vs) ρ (.ow (.lst (xs.map g))) ρ2 := by
  have z := ex_lc (W := W) (t := tYes') (we := we) (fun x => some (g x)) hs hw hm l fun x hx Ψ hΨ => by
    obtain ⟨ρ3, g1, g2, g3⟩ := h x hx
    exact stepD_of g1 et_yes g2 g3 hΨ
  rw [filterMap_some] at z
  exact z
/-- .. of those that pass, themselves or a part -/
theorem ex_lcg {we : WE} {vs : List Nat} {xs : List D} {ρw : En} (f : D → Bool) (g : D → D) (hs : XIs wi ρ xs ρ1) (hw : wipeE vs 0 ρ1 = ρw) (hm : mixE vs 0 ρ1 ρw = ρ2) (l : xs.length ≤ 16777216)
    (h : ∀ x ∈ xs, ∃ ρ3, Tg W x ρw ρ3 ∧ EvT t ρ3 (f x) ∧ (f x = true → Ev we ρ3 (.fr (g x))) ∧ wipeE vs 0 ρ3 = ρw) : Ex (wLc wi W t we vs) ρ (.ow (.lst ((xs.filter f).map g))) ρ2 := by
  have z := ex_lc (W := W) (t := t) (we := we) (fun x => if f x = true then some (g x) else none) hs hw hm l fun x hx Ψ hΨ => by
    obtain ⟨ρ3, g1, g2, g3, g4⟩ := h x hx
    refine g1 _ (g2 _ ?_)
    cases q : f x with
    | true =>
      rw [q] at hΨ
      refine g3 q _ ?_
      show Ψ (some (g x)) (wipeE vs 0 ρ3)
      rw [g4]; exact hΨ
    | false =>
      rw [q] at hΨ
      show Ψ none (wipeE vs 0 ρ3)
      rw [g4]; exact hΨ
  have e : (xs.filterMap fun x => if f x = true then some (g x) else none) = (xs.filter f).map g := by
    clear h hs l z
    induction xs with
    | nil => rfl
    | cons y ys ih =>
      rw [List.filterMap_cons, List.filter_cons]
      cases f y with
      | true => simpa using ih
      | false => simpa using ih
  rw [e] at z
  exact z
end
end Tv
/-! Tv117: the calculus of Tv72 and Tv116 for defs that change the store's things. -/
namespace Tv
open PySem PySem.Spec PyProof.Rows L2
variable [LamT]
section
variable {ρ ρ' ρ1 ρ2 ρ3 : En} {w wa wb wk : WE} {ws : WA} {t u : WT} {d e : D} {r ra rb r1 r2 : R} {p q : Bool} {i j k : Nat} {s s2 : WS} {ds : List D} {x y : D} {wi : WI} {W : WTg} {μ ν : Sto}
end
end Tv
/-! Tv118: tuple * int over trees. -/
namespace Tv
open PySem PySem.Spec PyProof.Rows L2
variable [LamT]
section
variable {X : Cx}
end
section
variable {X : Cx} {K : PySem.W.Frag}
end
section
variable {ds : List D} {k : Int} {Φ : R → Prop}
end
end Tv
/-! Tv119: sorted of rows: tuples of a text and anything, no text twice. -/
namespace Tv
open PySem PySem.Spec PyProof.Rows L2
variable [LamT]
section
variable {prog : Program} {w : World} {A : Around} {E : Value → Shared → Prop} {s : Shared}
/-- a row: a text, and anything -/
def IsRw (h : Heap) (v : Value) (x : Str) : Prop := ∃ a o t u n, v = .ref a ∧ h.get? a = some o ∧ o.cls = .type "tuple" ∧ o.data = .seq #[.str x t, u] n
theorem IsRw.keeps {h h' : Heap} {v : Value} {x : Str} (p : IsRw h v x) (k : ∀ b o, h.get? b = some o → o.cls = .type "tuple" → h'.get? b = some o) : IsRw h' v x := by
  obtain ⟨a, o, t, u, n, e, ho, hc, hd⟩ := p
  exact ⟨a, o, t, u, n, e, k _ _ ho hc, hc, hd⟩
end
theorem IsRw.inj {h : Heap} {v : Value} {x y : Str} (p : IsRw h v x) (q : IsRw h v y) : x = y := by
  obtain ⟨a, o, t, u, n, e, ho, hc, hd⟩ := p
  obtain ⟨a', o', t', u', n', e', ho', hc', hd'⟩ := q
  rw [e] at e'
  injection e' with e'
  subst e'
  rw [ho] at ho'
  cases ho'
  rw [hd] at hd'
  injection hd' with z _
  have z2 := congrArg Array.toList z
  simp only at z2
  injection z2 with z3 _
  injection z3
open Classical in
section
variable {K : PySem.W.Frag} {X : Cx}
end
end Tv
/-! Tv120: sorted(d.items()) of a dict with texts for keys. -/
namespace Tv
open PySem PySem.Spec PyProof.Rows L2
variable [LamT]
section
variable {X : Cx} {G0 : Gh} {H0 : Hp} {wa : WE} {te : TE} {p apos cpos pos : Pos} {e : Expr}
end
end Tv
/-! Tv121: dicts of the store: e[k] = v, e.get(k, x) (keys with None too), sorted(e). -/
namespace Tv
open PySem PySem.Spec PyProof.Rows L2
variable [LamT]
/-! ### keys with None -/
/-! ### e.get(k, x) -/
section
variable {K : PySem.W.Frag} {G : Gh} {H : Hp} {d : D} {v : V}
end
section
variable {X : Cx} {G0 : Gh} {H0 : Hp} {pos p cpos apos pos' : Pos} {o e i : Expr} {es : List Expr} {wa wv wk : WE} {ws : WA}
/-! ### e[k] = v -/
theorem d_setItem {A : Around} {E : Value → Shared → Prop} {pins : List (Addr × Obj)} {σ : L2.St} {H : Hp} {s : Shared} {a b : Addr} {kvs : List (List Key × Addr × V)} {k : List Key} {v : V} {u : Value} {Q : Unit → Shared → Prop} (hh : HshOk X.prog X.w) (hu : A.units + 1 < cLine) (I : Inv X pins σ H s) (e : H a = some (DtX a kvs)) (t : KtU X.K H kvs) (tb : SqT X.K H b (k.map kV))
    (hl : kvs.length < sizeLine) (rv : RelV v u) (h : ∀ s', Inv X pins σ (upd H a (DtX a (putU kvs k b v))) s' → (∀ c q, DtX a (putU kvs k b v) ≠ LamX.CodeO c q) → Q () s') : wpAny (model X.prog X.w) A (setItem (.ref a) (.ref b) u) Q E s := by
  obtain ⟨o, ho, d⟩ := dtx_at I e
  obtain ⟨xs, r, D⟩ := dto_at hh I ho d t
  have hz : xs.length ≤ sizeLine := by rw [← Paired.length r]; exact d.len
  refine wpAny_setItem_heap (hsz := hz) (tupleKind_room_in1 hu) (inv_tup I tb) D fun h' D' hs => ?_
  obtain ⟨o', es, ep, ho', _⟩ := id D'
  have d' : DtO a o' (putU kvs k b v) := dto_of hh ho' d.hd (by have := putU_len kvs k b v; omega) (r.put k b rv) D'
  exact h _ (d_write I (by rw [e]; exact True.intro) hs ⟨o', ho'⟩ (dtx_ok ho' d')) (dtx_ne ho' d')
/-! ### sorted(e), the keys numbers -/
end
/-! ### steps -/
section
variable {ρ : En} {μ : Sto} {f : Sto → En} {a : Addr} {c d x : D} {r rk : R} {Φ : R → En → Prop} {S : SK} {wa wk wv : WE} {ws : WA} {kts : List (List Key)} {ks : List Key} {ds : List D} {kt : List Key} {kl : List Leaf} {xs : List Int}
end
end Tv
/-! Tv122: dict(t) of a tuple of pairs that is known to have no dict. -/
namespace Tv
open PySem PySem.Spec PyProof.Rows L2
variable [LamT]
section
variable {X : Cx} {pins : List (Addr × Obj)} {σ : L2.St} {H : Hp} {s : Shared} {a : Addr}
theorem inv_nd (I : Inv X pins σ H s) (h : NdT X.K H a) : ∃ o, s.heap.get? a = some o ∧ o.dict = none := by
  rcases h with ⟨o, ys, e, d⟩ | ⟨o, e, d⟩
  · exact ⟨o, (I.hok a _ e).1, d⟩
  · exact ⟨o, I.kIn a o e, d⟩
end
section
variable {X : Cx} {G0 : Gh} {H0 : Hp} {a : Expr} {wa : WE} {pos p : Pos}
end
section
variable {ρ : En} {Φ : R → En → Prop} {wa : WE} {ra : R} {es : List D} {kds : List (Key × D)}
end
end Tv
/-! Tv123: t.index(x) of a tuple of texts that is known to have no dict; xs.count(truth). -/
namespace Tv
open PySem PySem.Spec PyProof.Rows L2
variable [LamT]
section
variable {X : Cx} {pins : List (Addr × Obj)} {σ : L2.St} {H : Hp} {s : Shared}
def tupNV (K : PySem.W.Frag) (x : V) (H : Hp) : Prop := ∃ a ys, x = .ref a ∧ SqT K H a ys ∧ NdT K H a
theorem tupNV_is {x : V} {v : Value} (I : Inv X pins σ H s) (r : RelV x v) (h : tupNV X.K x H) : s.TypeIs v "tuple" ∧ ∀ b, v = .ref b → ∃ ob, s.heap.get? b = some ob ∧ ob.dict = none := by
  obtain ⟨a, ys, rfl, sq, nd⟩ := h
  obtain rfl : v = Value.ref a := r
  obtain ⟨its, rv, ⟨o, ho, hc, n, hd⟩, hz⟩ := I.tuple sq
  refine ⟨⟨o, ho, hc⟩, fun b e => ?_⟩
  cases e
  exact inv_nd I nd
def tTM (K : PySem.W.Frag) (r : V → List V → Hp → VK → Prop) (to : TE) (t : TA) : TE := fun σ H Q => to σ H fun x H1 => tupNV K x H1 ∧ t σ H1 fun xs H2 => r x xs H2 Q
variable {o e : Expr} {es : List Expr} {to : TE} {t : TA} {name : Str} {apos cpos : Pos} {id : String} {r : V → List V → Hp → VK → Prop}
theorem pe_tm (slot : Slot "tuple" name id) (hty : typeOf (.builtin id) = pure (.type "method_descriptor")) (hm : MtR X id r) (ho : PE X o to) (ha : PA X (e :: es) t)
    (hbase : attributeBase o name X.env (eval o X.env) = eval o X.env := by rfl)
    (hfew : ((backTo cpos (starEach (e :: es) X.env)).all (fun x => !x.1) && (backToKw cpos (keywordEach [] X.env)).all (fun x => x.1.isSome)
      && decide ((e :: es).length + ([] : List Keyword).length + (if ([] : List Keyword).isEmpty then 0 else 1) < 30)) = true := by rfl)
    (hline : (apos.endLine == cpos.line) = true := by rfl) (hs : starEach (e :: es) X.env = (false, eval e X.env) :: starEach es X.env := by rfl) (hplain : (backTo cpos (starEach es X.env)).any (·.1) = false := by rfl) :
    PE X (.Call (.Attribute o name apos) (e :: es) [] cpos) (tTM X.K r to t) := by
  refine ⟨fun pins s σ H Q I h => ?_⟩
  refine wpAny_Call_method_late hbase hfew hline rfl (thn (ho.run pins s σ H _ I h) fun v s1 ⟨x, H1, I1, r1, ty, q1⟩ => ?_)
  obtain ⟨h1, h2⟩ := tupNV_is I1 r1 ty
  refine ⟨"tuple", id, F.plainAttrs_tuple, slot, hty, h1, h2, ?_⟩
  have hA := ha.run cpos pins s1 σ H1 _ I1 q1
  rw [hs] at hA ⊢
  refine Calls.callWith_builtin (by show (false || (backTo cpos (starEach es X.env)).any (·.1)) = false; rw [hplain] <;> rfl) (Calls.evalArgs_plain ?_)
  exact thn hA fun us s2 ⟨vs, H2, I2, r2, q2⟩ => hm pins s2 σ H2 x vs v us Q I2 r1 r2 q2
end
/-! ### t.index(x) -/
def rTIndex (K : PySem.W.Frag) : V → List V → Hp → VK → Prop := fun x xs H Q => ∃ p, ∃ ys : List Str, ∃ z j, x = .ref p ∧ xs = [.str z] ∧ SqT K H p (ys.map V.str) ∧ ys[j]? = some z ∧ (∀ m, m < j → ys[m]? ≠ some z) ∧ Q (.int (j : Nat)) H
def oTIndex : D → List D → (R → Prop) → Prop := fun d ks Φ => ∃ (ws : List Str) (x : Str) (j : Nat), d = .tup (ws.map .str) ∧ ks = [.str x] ∧ ws[j]? = some x ∧ (∀ m, m < j → ws[m]? ≠ some x) ∧ Φ (.fr (.int (j : Nat)))
theorem opm_tindex {K : PySem.W.Frag} : OpM K "tuple" oTIndex (rTIndex K) := fun G H d v ds vs Φ Q w s hl hs h k => by
  obtain ⟨ws, x, j, rfl, rfl, e, hn, h⟩ := h
  obtain ⟨u, rfl, su⟩ := one_sh hl hs
  obtain ⟨a, ys, rfl, sq, rl⟩ := s.tuple
  obtain rfl := repL_strs rl
  cases su.s
  exact ⟨a, ws, x, j, rfl, rfl, sq, e, hn, k _ _ G H h w (Grow.refl _ _) (.int _)⟩
def wTM (o : D → List D → (R → Prop) → Prop) (wa : WE) (ws : WA) : WE := fun ρ Φ => wa ρ fun r ρ' => (∃ es, r.d = .tup es ∧ needD es = true) ∧ ws ρ' fun rs ρ2 => o r.d (rs.map R.d) fun r' => Φ r' ρ2
section
variable {X : Cx} {G0 : Gh} {H0 : Hp} {pos apos : Pos} {ob e : Expr} {es : List Expr} {wa : WE} {ws : WA}
theorem i_tindex (ho : PEI X G0 H0 ob wa) (ha : PAI X G0 H0 (e :: es) ws)
    (hbase : attributeBase ob "index" X.env (eval ob X.env) = eval ob X.env := by rfl)
    (hfew : ((backTo pos (starEach (e :: es) X.env)).all (fun x => !x.1) && (backToKw pos (keywordEach [] X.env)).all (fun x => x.1.isSome)
      && decide ((e :: es).length + ([] : List Keyword).length + (if ([] : List Keyword).isEmpty then 0 else 1) < 30)) = true := by rfl)
    (hline : (apos.endLine == pos.line) = true := by rfl) (hs : starEach (e :: es) X.env = (false, eval e X.env) :: starEach es X.env := by rfl) (hplain : (backTo pos (starEach es X.env)).any (·.1) = false := by rfl) :
    PEI X G0 H0 (.Call (.Attribute ob "index" apos) (e :: es) [] pos) (wTM oTIndex wa ws) := by
  refine pe_imp (pe_tm F.slot_tuple_index F.type_tuple_index mt_tup_index ho ha hbase hfew hline hs hplain) fun σ H Q h => ?_
  obtain ⟨ρ, G, Φ, S, h, c⟩ := h
  refine ⟨ρ, G, _, S, h, fun r ρ' v G' H' q S' P L x => ?_⟩
  obtain ⟨⟨es', ed, nd⟩, q⟩ := q
  have x' := x.sh
  have x0 := x'
  rw [ed] at x'
  obtain ⟨ad, xs, rfl, sq, rl, n⟩ := x'.tupleN
  refine ⟨⟨ad, xs, rfl, sq, n nd⟩, ρ', G', _, S', q, fun rs ρ2 vs G2 H2 q2 S2 P2 L2 x2 => ?_⟩
  have PP := P.trans S'.wd P2 L
  exact opm_tindex G2 H2 r.d _ _ vs _ Q S2.wd (x0.stp S'.wd P2) (by rw [List.length_map]; exact x2.length) x2.sh q2 fun r' v' G3 H3 φ w g x' => c r' ρ2 v' G3 H3 φ (S2.grow w g) (PP.trans S2.wd g.stp (L2.trans L)) (L2.trans L) (x'.back fun a z => PP.nn S2.wd z)
end
section
variable {ρ : En} {Φ : R → En → Prop} {o : D → List D → (R → Prop) → Prop} {wa wk : WE} {ws : WA} {ra rk : R}
instance st_tm : Step (wTM o wa ws ρ Φ) (wa ρ fun r ρ' => (∃ es, r.d = .tup es ∧ needD es = true) ∧ ws ρ' fun rs ρ2 => o r.d (rs.map R.d) fun r' => Φ r' ρ2) := ⟨fun h => h⟩
theorem ev_tindex {ys : List Str} {x : Str} {j : Nat} (ha : Ev wa ρ ra) (hk : Ev wk ρ rk) (ed : ra.d = .tup (ys.map .str)) (n : needD (ys.map D.str) = true) (ek : rk.d = .str x) (e : ys[j]? = some x) (hn : ∀ m, m < j → ys[m]? ≠ some x) :
    Ev (wTM oTIndex wa (wCons wk wNil)) ρ (.fr (.int (j : Nat))) := fun Φ k => ha _ ⟨⟨_, ed, n⟩, ea_cons hk ea_nil _ (by show oTIndex ra.d [rk.d] _; exact ⟨ys, x, j, ed, by rw [ek], e, hn, k⟩)⟩
end
/-! ### xs.count(truth) -/
def oCntB : D → List D → (R → Prop) → Prop := fun d ks Φ => ∃ (bs : List Bool) (b : Bool), d = .lst (bs.map .bl) ∧ ks = [.bl b] ∧ Φ (.fr (.int (bs.count b : Nat)))
theorem repL_bools {K : PySem.W.Frag} {G : Gh} {H : Hp} : ∀ {bs : List Bool} {xs : List V}, RepL K G H (bs.map .bl) xs → xs = bs.map V.bl
  | [], _, .nil => rfl
  | b :: bs, _, .cons r t => by
    cases r
    rw [repL_bools t]
    rfl
theorem opm_cntb {K : PySem.W.Frag} : OpM K "list" oCntB (rCntB K) := fun G H d v ds vs Φ Q w s hl hs h k => by
  obtain ⟨bs, b, rfl, rfl, h⟩ := h
  obtain ⟨u, rfl, su⟩ := one_sh hl hs
  obtain ⟨a, ys, rfl, sq, rl⟩ := s.list
  obtain rfl := repL_bools rl
  cases su.b
  exact ⟨a, bs, b, rfl, rfl, sq, k _ _ G H h w (Grow.refl _ _) (.int _)⟩
section
variable {ρ : En} {wa wk : WE} {ra rk : R}
theorem ev_cntb {bs : List Bool} {b : Bool} (ha : Ev wa ρ ra) (hk : Ev wk ρ rk) (ed : ra.d = .lst (bs.map .bl)) (ek : rk.d = .bl b) :
    Ev (wM isLs oCntB wa (wCons wk wNil)) ρ (.fr (.int (bs.count b : Nat))) := fun Φ k => ha _ ⟨by rw [ed]; exact trivial, ea_cons hk ea_nil _ (by show oCntB ra.d [rk.d] _; exact ⟨bs, b, ed, by rw [ek], k⟩)⟩
end
end Tv
set_option maxHeartbeats 0
namespace Lw
open PySem PySem.Spec PyProof.Rows L2 Tv
variable [LT : LamT]
def top (i : Nat) : Stmt := PySem.Challenge.pw_rowsborne_k78_slots_asked.main.body.getD i (.Pass ⟨0, 0, 0, 0⟩)
abbrev c_BUT_LAST : D := (.tup [(.str "linkmany"), (.str "linkseq")])
abbrev c_TOGETHER : D := (.int (-1))
abbrev d_EVEN : List (Str × D) := [("addin", (.tup [(.str "addin"), (.str "look")])), ("addout", (.tup [(.str "addout"), (.str "look")])), ("base", (.tup [(.str "deedbase"), (.str "handbase")])), ("dropin", (.tup [(.str "dropin"), (.str "look")])), ("dropout", (.tup [(.str "dropout"), (.str "look")])), ("fields", (.tup [(.str "fields"), (.str "from"), (.str "look")])), ("hand", (.tup [(.str "hand")])), ("keep", (.tup [(.str "keep")])), ("known", (.tup [(.str "known")])), ("linkmany", (.tup [(.str "defmany")])), ("linkseq", (.tup [(.str "defseq")])), ("make", (.tup [(.str "look"), (.str "make")])), ("many", (.tup [(.str "defmany"), (.str "usemany")])), ("on", (.tup [(.str "on")])), ("putin", (.tup [(.str "look"), (.str "putin")])), ("putout", (.tup [(.str "look"), (.str "putout")])), ("rec", (.tup [(.str "rec")])), ("seq", (.tup [(.str "defseq"), (.str "useseq")])), ("tag", (.tup [(.str "case"), (.str "tag")])), ("tags", (.tup [(.str "case"), (.str "tags")])), ("widen", (.tup [(.str "case"), (.str "widen")]))]
abbrev d_LINKS : List (Str × D) := [("linkbase", (.str "handbase")), ("linkcase", (.str "case")), ("linkfields", (.str "fields")), ("linklook", (.str "look"))]
abbrev d_VALUES : List (Str × D) := [("addin", (.tup [(.str "up"), (.str "down")])), ("addout", (.tup [(.str "up"), (.str "down")])), ("case", (.tup [(.str "up"), (.str "down")])), ("deedbase", (.tup [(.str "zero"), (.str "one")])), ("defmany", (.tup [(.str "once"), (.str "each")])), ("defseq", (.tup [(.str "kind"), (.str "body")])), ("dropin", (.tup [(.str "up"), (.str "down")])), ("dropout", (.tup [(.str "up"), (.str "down")])), ("fields", (.tup [(.str "less"), (.str "more")])), ("from", (.tup [(.str "begin"), (.str "end")])), ("hand", (.tup [(.str "use"), (.str "call")])), ("handbase", (.tup [(.str "zero"), (.str "one")])), ("keep", (.tup [(.str "kept"), (.str "frame")])), ("known", (.tup [(.str "yes"), (.str "no")])), ("look", (.tup [(.str "up"), (.str "down")])), ("make", (.tup [(.str "up"), (.str "down")])), ("on", (.tup [(.str "yes"), (.str "no")])), ("putin", (.tup [(.str "up"), (.str "down")])), ("putout", (.tup [(.str "up"), (.str "down")])), ("rec", (.tup [(.str "applied"), (.str "bare")])), ("tag", (.tup [(.str "up"), (.str "down")])), ("tags", (.tup [(.str "less"), (.str "more")])), ("usemany", (.tup [(.str "once"), (.str "each")])), ("useseq", (.tup [(.str "kind"), (.str "body")])), ("widen", (.tup [(.str "up"), (.str "down")]))]
abbrev d_WANTED : List (Str × D) := [("addin", (.tup [(.str "fields"), (.str "add")])), ("addout", (.tup [(.str "fields"), (.str "add")])), ("base", (.tup [(.str "open")])), ("dropin", (.tup [(.str "fields"), (.str "drop")])), ("dropout", (.tup [(.str "fields"), (.str "drop")])), ("fields", (.tup [(.str "open"), (.str "fields")])), ("hand", (.tup [(.str "open")])), ("keep", (.tup [(.str "open")])), ("known", (.tup [(.str "open")])), ("linkbase", (.tup [(.str "open")])), ("linkcase", (.tup [(.str "tags")])), ("linkfields", (.tup [(.str "open"), (.str "fields")])), ("linklook", (.tup [(.str "fields")])), ("linkmany", (.tup [(.str "open")])), ("linkseq", (.tup [(.str "open")])), ("make", (.tup [(.str "fields"), (.str "make")])), ("many", (.tup [(.str "open")])), ("on", (.tup [(.str "open")])), ("putin", (.tup [(.str "fields"), (.str "put")])), ("putout", (.tup [(.str "fields"), (.str "put")])), ("rec", (.tup [(.str "open"), (.str "rec")])), ("seq", (.tup [(.str "open")])), ("tag", (.tup [(.str "tags")])), ("tags", (.tup [(.str "open"), (.str "tags")])), ("widen", (.tup [(.str "tags"), (.str "widen")]))]
/-- what the top has written, and what it has not -/
structure Txt (K : PySem.W.Frag) (w : World) (mg : Str → Option Value) : Prop where
  n_abs : mg "abs" = none
  n_all : mg "all" = none
  n_dict : mg "dict" = none
  n_int : mg "int" = none
  n_isinstance : mg "isinstance" = none
  n_len : mg "len" = none
  n_list : mg "list" = none
  n_range : mg "range" = none
  n_repr : mg "repr" = none
  n_set : mg "set" = none
  n_sorted : mg "sorted" = none
  n_str : mg "str" = none
  n_tuple : mg "tuple" = none
  e_BUT_LAST : ∃ u, mg "BUT_LAST" = some u ∧ wrD K 9 u = some c_BUT_LAST
  e_TOGETHER : ∃ u, mg "TOGETHER" = some u ∧ wrD K 9 u = some c_TOGETHER
  k_EVEN : ∃ a, mg "EVEN" = some (.ref a) ∧ KCon K w a d_EVEN
  k_LINKS : ∃ a, mg "LINKS" = some (.ref a) ∧ KCon K w a d_LINKS
  k_VALUES : ∃ a, mg "VALUES" = some (.ref a) ∧ KCon K w a d_VALUES
  k_WANTED : ∃ a, mg "WANTED" = some (.ref a) ∧ KCon K w a d_WANTED
  kc_Plan : ∃ C p, Cl1 K "Plan" C "its_values" p
section
variable {P : Program} {w : World} {K : PySem.W.Frag} {mg : Str → Option Value} {base : Heap}
/-- a def at hand -/
abbrev At (P : Program) (w : World) (K : PySem.W.Frag) (mg : Str → Option Value) (base : Heap) (k : Nat) (x : Str) (f : Addr) (wf : WF) : Prop := FnG P w K mg base k f wf ∧ mg x = some (.ref f) ∧ PySem.W.keepIn K (.ref f) = true
abbrev AtB (P : Program) (w : World) (K : PySem.W.Frag) (mg : Str → Option Value) (base : Heap) (k : Nat) (x : Str) (f : Addr) (wf : WF) : Prop := FnB P w K mg base k f wf ∧ mg x = some (.ref f) ∧ PySem.W.keepIn K (.ref f) = true
abbrev AtM (P : Program) (w : World) (K : PySem.W.Frag) (mg : Str → Option Value) (base : Heap) (k : Nat) (c fl x : Str) (f : Addr) (wf : WF) : Prop := FnG P w K mg base k f wf ∧ ∃ C p, Cl1 K c C fl p ∧ Meth K C x f
abbrev AtI (P : Program) (w : World) (K : PySem.W.Frag) (mg : Str → Option Value) (base : Heap) (k : Nat) (c fl : Str) (wf : WFI) : Prop := ∃ (C f p : Addr) (j : Nat), Cl1 K c C fl p ∧ L2.Mk K C f ∧ FnI P w K mg base j C f wf ∧ mg c = some (.ref C) ∧ j + 1 ≤ k
/-! ### _law_take -/
abbrev st__law_take : Stmt := top 36
theorem sc__law_take : FnScope ["_law_bag_here", "_law_many", "_law_cell", "_law_mixed_here", "_law_drawn", "_law_begin", "_law_second"] ["_law_bag_here", "_law_many"] (defScope st__law_take) := ⟨rfl, rfl, rfl, by decide +kernel, rfl, by decide +kernel, by decide +kernel⟩
def W__law_take : WS :=
  (sSeq (sIf (wB (w2 oEq (w2 oBag (wP 0) (wC (.int 0))) (wC (.int 0)))) (sSeq (sSet 2 (wC (.int 0)))
    (sSeq (sBagPick 0 2)
    (sSeq (sBagAug 0 2 1)
    (sSeq (sIf (wB (w2 oGe (wP 2) (w2 oPow (wC (.int 10)) (wC (.int 18))))) (sBagSet 0 0 (wV 2)) sSkip)
    (sSeq (sSet 3 (w2 oAdd (w2 oAdd (w2 oMulA (w2 oBag (wP 0) (wC (.int 1))) (wC (.int 48271))) (w2 oMod (wN oIntC (wCons (wP 2) wNil)) (wC (.int 2147483647)))) (w2 oMulA (wC (.int 7919)) (w2 oBag (wP 0) (wC (.int 2))))))
    (sBagSet 0 1 (w2 oMod (wN oIntC (wCons (wP 3) wNil)) (wC (.int 2147483647))))))))) sSkip)
    (sSeq (sIf (wB (w2 oGt (w2 oBag (wP 0) (wC (.int 0))) (wC (.int 0)))) (sSeq (sSet 4 (w2 oMod (wN oIntC (wCons (w2 oBag (wP 0) (wC (.int 0))) wNil)) (wP 1)))
    (sSeq (sBagSet 0 0 (w2 oDiv (w2 oBag (wP 0) (wC (.int 0))) (wP 1)))
    (sRetV 4))) sSkip)
    (sSeq (sSet 5 (w2 oMod (wN oIntC (wCons (w2 oMulA (w2 oAdd (w2 oBag (wP 0) (wC (.int 1))) (wC (.int 1))) (wC (.int 39373))) wNil)) (wC (.int 1000000007))))
    (sSeq (sSet 6 (w2 oMod (wN oIntC (wCons (w2 oMulA (w2 oMod (wN oIntC (wCons (w2 oMulA (wP 5) (wP 5)) wNil)) (wC (.int 998244353))) (wC (.int 30011))) wNil)) (wC (.int 998244353))))
    (sRet (w2 oMod (wN oIntC (wCons (w2 oDiv (wP 6) (wC (.int 7))) wNil)) (wP 1)))))))
abbrev R__law_take : WF := wDef 2 5 (W__law_take)
theorem fn__law_take {k : Nat} {f : Addr} {fd : FuncData} (Fu : Fun K "_law_take" "_law_take" st__law_take f fd) (T : Txt K w mg) : FnG P w K mg base (k + 1) f (R__law_take) := by
  refine fnG_of (N := ["_law_bag_here", "_law_many", "_law_cell", "_law_mixed_here", "_law_drawn", "_law_begin", "_law_second"]) Fu sc__law_take (Fu.binds (ps := ["_law_bag_here", "_law_many"]) fun _ _ _ _ _ _ us hl => match us, hl with | [_, _], _ => rfl) rfl rfl fun cdv A outer s H G hr hg => ?_
  have sc := sc__law_take
  have hu := hr
  show PBI _ G H (defBody st__law_take) (W__law_take)
  unfold W__law_take
  exact (b_cons (s_if (t_cmp (op_eqA hu.r64) op2_eq (i_ix ix_seq op2_bag (i_peek 0) i_int (by intro _ _; rfl)) i_int (by rfl)) (b_cons (s_set sc.nd (by rfl) (by first | exact .inl rfl | exact .inr rfl) i_int)
    (b_cons (s_bagPick sc.nd (by rfl) (by rfl) (by rfl) (by rfl) T.n_len)
    (b_cons (s_bagAug (i := 0))
    (b_cons (s_if (t_cmp op_geA op2_ge (i_peek 2) (i_op op_pow op2_pow i_int i_int) (by rfl)) (b_one (s_bagSet (i_var 2))) b_nil)
    (b_cons (s_set sc.nd (by rfl) (by first | exact .inl rfl | exact .inr rfl) (i_op op_addA op2_add (i_op op_addA op2_add (i_op op_mulA op2_mulA (i_ix ix_seq op2_bag (i_peek 0) i_int (by intro _ _; rfl)) i_int) (i_op op_mod op2_mod (i_callT call_int1 opn_int (by rfl) T.n_int Boot.«int» (a_cons (i_peek 2) a_nil)) i_int)) (i_op op_mulA op2_mulA i_int (i_ix ix_seq op2_bag (i_peek 0) i_int (by intro _ _; rfl)))))
    (b_one (s_bagSet (i_op op_mod op2_mod (i_callT call_int1 opn_int (by rfl) T.n_int Boot.«int» (a_cons (i_peek 3) a_nil)) i_int)))))))) b_nil)
    (b_cons (s_if (t_cmp op_gtA op2_gt (i_ix ix_seq op2_bag (i_peek 0) i_int (by intro _ _; rfl)) i_int (by rfl)) (b_cons (s_set sc.nd (by rfl) (by first | exact .inl rfl | exact .inr rfl) (i_op op_mod op2_mod (i_callT call_int1 opn_int (by rfl) T.n_int Boot.«int» (a_cons (i_ix ix_seq op2_bag (i_peek 0) i_int (by intro _ _; rfl)) a_nil)) (i_peek 1)))
    (b_cons (s_bagSet (i_op op_fdiv op2_div (i_ix ix_seq op2_bag (i_peek 0) i_int (by intro _ _; rfl)) (i_peek 1)))
    (b_one (s_retv 4)))) b_nil)
    (b_cons (s_set sc.nd (by rfl) (by first | exact .inl rfl | exact .inr rfl) (i_op op_mod op2_mod (i_callT call_int1 opn_int (by rfl) T.n_int Boot.«int» (a_cons (i_op op_mulA op2_mulA (i_op op_addA op2_add (i_ix ix_seq op2_bag (i_peek 0) i_int (by intro _ _; rfl)) i_int) i_int) a_nil)) i_int))
    (b_cons (s_set sc.nd (by rfl) (by first | exact .inl rfl | exact .inr rfl) (i_op op_mod op2_mod (i_callT call_int1 opn_int (by rfl) T.n_int Boot.«int» (a_cons (i_op op_mulA op2_mulA (i_op op_mod op2_mod (i_callT call_int1 opn_int (by rfl) T.n_int Boot.«int» (a_cons (i_op op_mulA op2_mulA (i_peek 5) (i_peek 5)) a_nil)) i_int) i_int) a_nil)) i_int))
    (b_one (s_ret (i_op op_mod op2_mod (i_callT call_int1 opn_int (by rfl) T.n_int Boot.«int» (a_cons (i_op op_fdiv op2_div (i_peek 6) i_int) a_nil)) (i_peek 1))))))))
/-! ### indexes_of -/
abbrev st_indexes_of : Stmt := top 24
theorem sc_indexes_of : FnScope ["rule", "many"] ["rule", "many"] (defScope st_indexes_of) := ⟨rfl, rfl, rfl, by decide +kernel, rfl, by decide +kernel, by decide +kernel⟩
def W_indexes_of_t0 : WS :=
  (sRet (wListRng1 (wIf (wB (w2 (oIn false) (wP 0) (wC c_BUT_LAST))) (w2 oSub (wP 1) (wC (.int 1))) (wP 1))))
def W_indexes_of : WS :=
  (sSeq (sIf (wB (wKIn d_LINKS false (wP 0))) (sRet (wIf (wB (w2 oGt (wP 1) (wC (.int 1)))) (wLst (wCons (wC c_TOGETHER) wNil)) (wLst wNil))) sSkip)
    (W_indexes_of_t0))
abbrev R_indexes_of : WF := wDef 2 0 (W_indexes_of)
theorem fn_indexes_of {k : Nat} {f : Addr} {fd : FuncData} (Fu : Fun K "indexes_of" "indexes_of" st_indexes_of f fd) (T : Txt K w mg) : FnG P w K mg base (k + 1) f (R_indexes_of) := by
  obtain ⟨u_BUT_LAST, g_BUT_LAST⟩ := T.e_BUT_LAST
  obtain ⟨u_TOGETHER, g_TOGETHER⟩ := T.e_TOGETHER
  obtain ⟨a_LINKS, kd_LINKS⟩ := T.k_LINKS
  refine fnG_of (N := ["rule", "many"]) Fu sc_indexes_of (Fu.binds (ps := ["rule", "many"]) fun _ _ _ _ _ _ us hl => match us, hl with | [_, _], _ => rfl) rfl rfl fun cdv A outer s H G hr hg => ?_
  have sc := sc_indexes_of
  have hu := hr
  show PBI _ G H (defBody st_indexes_of) (W_indexes_of)
  unfold W_indexes_of
  exact (b_cons (s_if (t_kin (by rfl) kd_LINKS.1 kd_LINKS.2 (i_peek 0)) (b_one (s_ret (i_if (t_cmp op_gtA op2_gt (i_peek 1) i_int (by rfl)) (i_lst (a_cons (i_glob (by rfl) g_TOGETHER.1 g_TOGETHER.2) a_nil)) (i_lst a_nil)))) b_nil)
    (b_one (s_ret (i_listRng1 rfl (by rfl) T.n_list (by rfl) T.n_range (i_if (t_cmp (op_inB hu.room) op2_in (i_peek 0) (i_glob (by rfl) g_BUT_LAST.1 g_BUT_LAST.2) (by rfl)) (i_op op_sub op2_sub (i_peek 1) i_int) (i_peek 1))))))
/-! ### all_asked -/
abbrev st_all_asked : Stmt := top 25
theorem sc_all_asked : FnScope ["many", "rule", "index"] ["many"] (defScope st_all_asked) := ⟨rfl, rfl, rfl, by decide +kernel, rfl, by decide +kernel, by decide +kernel⟩
def W_all_asked (F_indexes_of : WF) : WS :=
  (sRet (wLc2 (wKeys d_WANTED) (gN 1) tYes' (wSeqI (wF (wCall F_indexes_of (wCons (wV 1) (wCons (wV 0) wNil))))) (gN 2) tYes' (wTup (wCons (wV 1) (wCons (wV 2) wNil))) [1, 2] [2]))
abbrev R_all_asked (F_indexes_of : WF) : WF := wDef 1 2 (W_all_asked F_indexes_of)
theorem fn_all_asked {k : Nat} {f : Addr} {fd : FuncData} (Fu : Fun K "all_asked" "all_asked" st_all_asked f fd) (T : Txt K w mg) {F_indexes_of : WF} {f_indexes_of : Addr} (H_indexes_of : At P w K mg base k "indexes_of" f_indexes_of F_indexes_of) : FnG P w K mg base (k + 1) f (R_all_asked F_indexes_of) := by
  obtain ⟨a_WANTED, kd_WANTED⟩ := T.k_WANTED
  refine fnG_of (N := ["many", "rule", "index"]) Fu sc_all_asked (Fu.binds (ps := ["many"]) fun _ _ _ _ _ _ us hl => match us, hl with | [_], _ => rfl) rfl rfl fun cdv A outer s H G hr hg => ?_
  have sc := sc_all_asked
  have hu := hr
  show PBI _ G H (defBody st_all_asked) (W_all_asked F_indexes_of)
  unfold W_all_asked
  exact (b_one (s_ret (i_lc2 rfl sc.nd (own := [("rule", 1), ("index", 2)]) (vs1 := [2]) (p_kcon (by rfl) kd_WANTED.1 kd_WANTED.2) (blkOk_by (by kernel_rfl)) (by decide) (fun _ _ _ _ _ => (g_name sc.nd (by rfl) (by first | exact .inl rfl | exact .inr rfl) (by decide))) (fun _ _ _ _ _ => ts_nil) (fun _ _ _ _ _ => (p_seq (i_fz (i_call H_indexes_of.1 hr hg (by rfl) H_indexes_of.2.1 H_indexes_of.2.2 (a_cons (i_var 1) (a_cons (i_var 0) a_nil)))))) (fun _ _ _ _ _ => (g_name sc.nd (by rfl) (by first | exact .inl rfl | exact .inr rfl) (by decide))) (fun _ _ _ _ _ => ts_nil) (fun _ _ _ _ _ => (i_tup (a_cons (i_var 1) (a_cons (i_var 2) a_nil)))))))
/-! ### has_tags -/
abbrev st_has_tags : Stmt := top 14
theorem sc_has_tags : FnScope ["some"] ["some"] (defScope st_has_tags) := ⟨rfl, rfl, rfl, by decide +kernel, rfl, by decide +kernel, by decide +kernel⟩
def W_has_tags : WS :=
  (sRet (wAndT (w2 (oIn false) (wC (.str "case")) (wP 0)) (w2 (oIn false) (wC (.str "tag")) (wP 0))))
abbrev R_has_tags : WF := wDef 1 0 (W_has_tags)
theorem fn_has_tags {k : Nat} {f : Addr} {fd : FuncData} (Fu : Fun K "has_tags" "has_tags" st_has_tags f fd) (T : Txt K w mg) : FnG P w K mg base (k + 1) f (R_has_tags) := by
  refine fnG_of (N := ["some"]) Fu sc_has_tags (Fu.binds (ps := ["some"]) fun _ _ _ _ _ _ us hl => match us, hl with | [_], _ => rfl) rfl rfl fun cdv A outer s H G hr hg => ?_
  have sc := sc_has_tags
  have hu := hr
  show PBI _ G H (defBody st_has_tags) (W_has_tags)
  unfold W_has_tags
  exact (b_one (s_ret (i_andT (i_cmp (op_inB hu.room) op2_in i_str (i_peek 0) (by rfl)) (i_one (i_cmp (op_inB hu.room) op2_in i_str (i_peek 0) (by rfl))))))
/-! ### has_fields -/
abbrev st_has_fields : Stmt := top 13
theorem sc_has_fields : FnScope ["some"] ["some"] (defScope st_has_fields) := ⟨rfl, rfl, rfl, by decide +kernel, rfl, by decide +kernel, by decide +kernel⟩
def W_has_fields : WS :=
  (sRet (wAndT (w2 (oIn false) (wC (.str "look")) (wP 0)) (wOrT (w2 (oIn false) (wC (.str "make")) (wP 0)) (w2 (oIn false) (wC (.str "add")) (wP 0)))))
abbrev R_has_fields : WF := wDef 1 0 (W_has_fields)
theorem fn_has_fields {k : Nat} {f : Addr} {fd : FuncData} (Fu : Fun K "has_fields" "has_fields" st_has_fields f fd) (T : Txt K w mg) : FnG P w K mg base (k + 1) f (R_has_fields) := by
  refine fnG_of (N := ["some"]) Fu sc_has_fields (Fu.binds (ps := ["some"]) fun _ _ _ _ _ _ us hl => match us, hl with | [_], _ => rfl) rfl rfl fun cdv A outer s H G hr hg => ?_
  have sc := sc_has_fields
  have hu := hr
  show PBI _ G H (defBody st_has_fields) (W_has_fields)
  unfold W_has_fields
  exact (b_one (s_ret (i_andT (i_cmp (op_inB hu.room) op2_in i_str (i_peek 0) (by rfl)) (i_one (i_orT (i_cmp (op_inB hu.room) op2_in i_str (i_peek 0) (by rfl)) (i_one (i_cmp (op_inB hu.room) op2_in i_str (i_peek 0) (by rfl))))))))
/-! ### is_open -/
abbrev st_is_open : Stmt := top 15
theorem sc_is_open : FnScope ["some"] ["some"] (defScope st_is_open) := ⟨rfl, rfl, rfl, by decide +kernel, rfl, by decide +kernel, by decide +kernel⟩
def W_is_open (F_has_tags : WF) (F_has_fields : WF) : WS :=
  (sRet (wAndT (w2 (oIn false) (wC (.str "let")) (wP 0)) (wF (wOrT (wF (wCall F_has_fields (wCons (wV 0) wNil))) (wF (wCall F_has_tags (wCons (wV 0) wNil)))))))
abbrev R_is_open (F_has_tags : WF) (F_has_fields : WF) : WF := wDef 1 0 (W_is_open F_has_tags F_has_fields)
theorem fn_is_open {k : Nat} {f : Addr} {fd : FuncData} (Fu : Fun K "is_open" "is_open" st_is_open f fd) (T : Txt K w mg) {F_has_tags : WF} {f_has_tags : Addr} (H_has_tags : At P w K mg base k "has_tags" f_has_tags F_has_tags) {F_has_fields : WF} {f_has_fields : Addr} (H_has_fields : At P w K mg base k "has_fields" f_has_fields F_has_fields) : FnG P w K mg base (k + 1) f (R_is_open F_has_tags F_has_fields) := by
  refine fnG_of (N := ["some"]) Fu sc_is_open (Fu.binds (ps := ["some"]) fun _ _ _ _ _ _ us hl => match us, hl with | [_], _ => rfl) rfl rfl fun cdv A outer s H G hr hg => ?_
  have sc := sc_is_open
  have hu := hr
  show PBI _ G H (defBody st_is_open) (W_is_open F_has_tags F_has_fields)
  unfold W_is_open
  exact (b_one (s_ret (i_andT (i_cmp (op_inB hu.room) op2_in i_str (i_peek 0) (by rfl)) (i_one (i_fz (i_orT (i_fz (i_call H_has_fields.1 hr hg (by rfl) H_has_fields.2.1 H_has_fields.2.2 (a_cons (i_var 0) a_nil))) (i_one (i_fz (i_call H_has_tags.1 hr hg (by rfl) H_has_tags.2.1 H_has_tags.2.2 (a_cons (i_var 0) a_nil))))))))))
/-! ### is_so -/
abbrev st_is_so : Stmt := top 22
theorem sc_is_so : FnScope ["some", "word"] ["some", "word"] (defScope st_is_so) := ⟨rfl, rfl, rfl, by decide +kernel, rfl, by decide +kernel, by decide +kernel⟩
def W_is_so_t0 (F_is_open : WF) (F_has_tags : WF) (F_has_fields : WF) : WS :=
  (sRet (wIf (wB (w2 oEq (wP 1) (wC (.str "open")))) (wCall F_is_open (wCons (wV 0) wNil)) (w2 (oIn false) (wP 1) (wP 0))))
def W_is_so_t1 (F_is_open : WF) (F_has_tags : WF) (F_has_fields : WF) : WS :=
  (sSeq (sIf (wB (w2 oEq (wP 1) (wC (.str "tags")))) (sRet (wCall F_has_tags (wCons (wV 0) wNil))) sSkip)
    (W_is_so_t0 F_is_open F_has_tags F_has_fields))
def W_is_so (F_is_open : WF) (F_has_tags : WF) (F_has_fields : WF) : WS :=
  (sSeq (sIf (wB (w2 oEq (wP 1) (wC (.str "fields")))) (sRet (wCall F_has_fields (wCons (wV 0) wNil))) sSkip)
    (W_is_so_t1 F_is_open F_has_tags F_has_fields))
abbrev R_is_so (F_is_open : WF) (F_has_tags : WF) (F_has_fields : WF) : WF := wDef 2 0 (W_is_so F_is_open F_has_tags F_has_fields)
theorem fn_is_so {k : Nat} {f : Addr} {fd : FuncData} (Fu : Fun K "is_so" "is_so" st_is_so f fd) (T : Txt K w mg) {F_is_open : WF} {f_is_open : Addr} (H_is_open : At P w K mg base k "is_open" f_is_open F_is_open) {F_has_tags : WF} {f_has_tags : Addr} (H_has_tags : At P w K mg base k "has_tags" f_has_tags F_has_tags) {F_has_fields : WF} {f_has_fields : Addr} (H_has_fields : At P w K mg base k "has_fields" f_has_fields F_has_fields) : FnG P w K mg base (k + 1) f (R_is_so F_is_open F_has_tags F_has_fields) := by
  refine fnG_of (N := ["some", "word"]) Fu sc_is_so (Fu.binds (ps := ["some", "word"]) fun _ _ _ _ _ _ us hl => match us, hl with | [_, _], _ => rfl) rfl rfl fun cdv A outer s H G hr hg => ?_
  have sc := sc_is_so
  have hu := hr
  show PBI _ G H (defBody st_is_so) (W_is_so F_is_open F_has_tags F_has_fields)
  unfold W_is_so
  exact (b_cons (s_if (t_cmp (op_eqA hu.r64) op2_eq (i_peek 1) i_str (by rfl)) (b_one (s_ret (i_call H_has_fields.1 hr hg (by rfl) H_has_fields.2.1 H_has_fields.2.2 (a_cons (i_var 0) a_nil)))) b_nil)
    (b_cons (s_if (t_cmp (op_eqA hu.r64) op2_eq (i_peek 1) i_str (by rfl)) (b_one (s_ret (i_call H_has_tags.1 hr hg (by rfl) H_has_tags.2.1 H_has_tags.2.2 (a_cons (i_var 0) a_nil)))) b_nil)
    (b_one (s_ret (i_if (t_cmp (op_eqA hu.r64) op2_eq (i_peek 1) i_str (by rfl)) (i_call H_is_open.1 hr hg (by rfl) H_is_open.2.1 H_is_open.2.2 (a_cons (i_var 0) a_nil)) (i_cmp (op_inB hu.room) op2_in (i_peek 1) (i_peek 0) (by rfl)))))))
/-! ### is_asked_in -/
abbrev st_is_asked_in : Stmt := top 23
theorem sc_is_asked_in : FnScope ["rule", "some", "word"] ["rule", "some"] (defScope st_is_asked_in) := ⟨rfl, rfl, rfl, by decide +kernel, rfl, by decide +kernel, by decide +kernel⟩
def W_is_asked_in (F_is_so : WF) : WS :=
  (sRet (wN oAll (wCons (wLc (wSeqI (wKIx d_WANTED (wP 0))) (gN 2) tYes' (wF (wCall F_is_so (wCons (wV 1) (wCons (wV 2) wNil)))) [2]) wNil)))
abbrev R_is_asked_in (F_is_so : WF) : WF := wDef 2 1 (W_is_asked_in F_is_so)
theorem fn_is_asked_in {k : Nat} {f : Addr} {fd : FuncData} (Fu : Fun K "is_asked_in" "is_asked_in" st_is_asked_in f fd) (T : Txt K w mg) {F_is_so : WF} {f_is_so : Addr} (H_is_so : At P w K mg base k "is_so" f_is_so F_is_so) : FnG P w K mg base (k + 1) f (R_is_asked_in F_is_so) := by
  obtain ⟨a_WANTED, kd_WANTED⟩ := T.k_WANTED
  refine fnG_of (N := ["rule", "some", "word"]) Fu sc_is_asked_in (Fu.binds (ps := ["rule", "some"]) fun _ _ _ _ _ _ us hl => match us, hl with | [_, _], _ => rfl) rfl rfl fun cdv A outer s H G hr hg => ?_
  have sc := sc_is_asked_in
  have hu := hr
  show PBI _ G H (defBody st_is_asked_in) (W_is_asked_in F_is_so)
  unfold W_is_asked_in
  exact (b_one (s_ret (i_callB (cr_all rfl) opn_all (by rfl) T.n_all Boot.«all» (a_cons (i_lc rfl sc.nd (own := [("word", 2)]) (p_seq (i_kix (by rfl) kd_WANTED.1 kd_WANTED.2 (i_peek 0) (by intro _ _; rfl))) (blkOk_by (by kernel_rfl)) (fun _ _ _ _ _ => (g_name sc.nd (by rfl) (by first | exact .inl rfl | exact .inr rfl) (by decide))) (fun _ _ _ _ _ => ts_nil) (fun _ _ _ _ _ => (i_fz (i_call H_is_so.1 hr hg (by rfl) H_is_so.2.1 H_is_so.2.2 (a_cons (i_var 1) (a_cons (i_var 2) a_nil)))))) a_nil))))
/-! ### asked -/
abbrev st_asked : Stmt := top 26
theorem sc_asked : FnScope ["some", "many", "rule", "index"] ["some", "many"] (defScope st_asked) := ⟨rfl, rfl, rfl, by decide +kernel, rfl, by decide +kernel, by decide +kernel⟩
def W_asked (F_all_asked : WF) (F_is_asked_in : WF) : WS :=
  (sRet (wLc (wSeqI (wF (wCall F_all_asked (wCons (wV 1) wNil)))) (gTp 2 (gCs (gN 2) (gCs (gN 3) gNl))) (wTr (wCall F_is_asked_in (wCons (wV 2) (wCons (wV 0) wNil)))) (wTup (wCons (wV 2) (wCons (wV 3) wNil))) [2, 3]))
abbrev R_asked (F_all_asked : WF) (F_is_asked_in : WF) : WF := wDef 2 2 (W_asked F_all_asked F_is_asked_in)
theorem fn_asked {k : Nat} {f : Addr} {fd : FuncData} (Fu : Fun K "asked" "asked" st_asked f fd) (T : Txt K w mg) {F_all_asked : WF} {f_all_asked : Addr} (H_all_asked : At P w K mg base k "all_asked" f_all_asked F_all_asked) {F_is_asked_in : WF} {f_is_asked_in : Addr} (H_is_asked_in : At P w K mg base k "is_asked_in" f_is_asked_in F_is_asked_in) : FnG P w K mg base (k + 1) f (R_asked F_all_asked F_is_asked_in) := by
  refine fnG_of (N := ["some", "many", "rule", "index"]) Fu sc_asked (Fu.binds (ps := ["some", "many"]) fun _ _ _ _ _ _ us hl => match us, hl with | [_, _], _ => rfl) rfl rfl fun cdv A outer s H G hr hg => ?_
  have sc := sc_asked
  have hu := hr
  show PBI _ G H (defBody st_asked) (W_asked F_all_asked F_is_asked_in)
  unfold W_asked
  exact (b_one (s_ret (i_lc rfl sc.nd (own := [("rule", 2), ("index", 3)]) (p_seq (i_fz (i_call H_all_asked.1 hr hg (by rfl) H_all_asked.2.1 H_all_asked.2.2 (a_cons (i_var 1) a_nil)))) (blkOk_by (by kernel_rfl)) (fun _ _ _ _ _ => (g_tup rfl (g_cons (g_name sc.nd (by rfl) (by first | exact .inl rfl | exact .inr rfl) (by decide)) (g_cons (g_name sc.nd (by rfl) (by first | exact .inl rfl | exact .inr rfl) (by decide)) g_nil)))) (fun _ _ _ _ _ => (ts_one (t_tru (i_call H_is_asked_in.1 hr hg (by rfl) H_is_asked_in.2.1 H_is_asked_in.2.2 (a_cons (i_var 2) (a_cons (i_var 0) a_nil)))))) (fun _ _ _ _ _ => (i_tup (a_cons (i_var 2) (a_cons (i_var 3) a_nil)))))))
/-! ### sums_of -/
abbrev st_sums_of : Stmt := top 27
theorem sc_sums_of : FnScope ["rule", "index", "many", "k", "slot"] ["rule", "index", "many"] (defScope st_sums_of) := ⟨rfl, rfl, rfl, by decide +kernel, rfl, by decide +kernel, by decide +kernel⟩
def W_sums_of_t0 : WS :=
  (sRet (wLst (wCons (wN oTuple (wCons (wLc (wSeqI (wKIx d_EVEN (wP 0))) (gN 4) tYes' (wTup (wCons (wV 1) (wCons (wV 4) wNil))) [4]) wNil)) wNil)))
def W_sums_of : WS :=
  (sSeq (sIf (wB (wKIn d_LINKS false (wP 0))) (sRet (wLc (wRng2 (wCons (wC (.int 1)) (wCons (wP 2) wNil))) (gN 3) tYes' (wTup (wCons (wTup (wCons (wC (.int 0)) (wCons (wKIx d_LINKS (wP 0)) wNil))) (wCons (wTup (wCons (wV 3) (wCons (wKIx d_LINKS (wP 0)) wNil))) wNil))) [3])) sSkip)
    (W_sums_of_t0))
abbrev R_sums_of : WF := wDef 3 2 (W_sums_of)
theorem fn_sums_of {k : Nat} {f : Addr} {fd : FuncData} (Fu : Fun K "sums_of" "sums_of" st_sums_of f fd) (T : Txt K w mg) : FnG P w K mg base (k + 1) f (R_sums_of) := by
  obtain ⟨a_EVEN, kd_EVEN⟩ := T.k_EVEN
  obtain ⟨a_LINKS, kd_LINKS⟩ := T.k_LINKS
  refine fnG_of (N := ["rule", "index", "many", "k", "slot"]) Fu sc_sums_of (Fu.binds (ps := ["rule", "index", "many"]) fun _ _ _ _ _ _ us hl => match us, hl with | [_, _, _], _ => rfl) rfl rfl fun cdv A outer s H G hr hg => ?_
  have sc := sc_sums_of
  have hu := hr
  show PBI _ G H (defBody st_sums_of) (W_sums_of)
  unfold W_sums_of
  exact (b_cons (s_if (t_kin (by rfl) kd_LINKS.1 kd_LINKS.2 (i_peek 0)) (b_one (s_ret (i_lc rfl sc.nd (own := [("k", 3)]) (p_rng2 (by rfl) T.n_range (a_cons i_int (a_cons (i_peek 2) a_nil))) (blkOk_by (by kernel_rfl)) (fun _ _ _ _ _ => (g_name sc.nd (by rfl) (by first | exact .inl rfl | exact .inr rfl) (by decide))) (fun _ _ _ _ _ => ts_nil) (fun _ _ _ _ _ => (i_tup (a_cons (i_tup (a_cons i_int (a_cons (i_kix (by rfl) kd_LINKS.1 kd_LINKS.2 (i_peek 0) (by intro _ _; rfl)) a_nil))) (a_cons (i_tup (a_cons (i_var 3) (a_cons (i_kix (by rfl) kd_LINKS.1 kd_LINKS.2 (i_peek 0) (by intro _ _; rfl)) a_nil))) a_nil))))))) b_nil)
    (b_one (s_ret (i_lst (a_cons (i_callT call_tupleN opn_tuple (by rfl) T.n_tuple Boot.«tuple» (a_cons (i_lc rfl sc.nd (own := [("slot", 4)]) (p_seq (i_kix (by rfl) kd_EVEN.1 kd_EVEN.2 (i_peek 0) (by intro _ _; rfl))) (blkOk_by (by kernel_rfl)) (fun _ _ _ _ _ => (g_name sc.nd (by rfl) (by first | exact .inl rfl | exact .inr rfl) (by decide))) (fun _ _ _ _ _ => ts_nil) (fun _ _ _ _ _ => (i_tup (a_cons (i_var 1) (a_cons (i_var 4) a_nil))))) a_nil)) a_nil)))))
/-! ### is_slot -/
abbrev st_is_slot : Stmt := top 7
theorem sc_is_slot : FnScope ["thing"] ["thing"] (defScope st_is_slot) := ⟨rfl, rfl, rfl, by decide +kernel, rfl, by decide +kernel, by decide +kernel⟩
def W_is_slot : WS :=
  (sRet (wAndT (wIsi "str" (wP 0)) (wKIn d_VALUES false (wP 0))))
abbrev R_is_slot : WF := wDef 1 0 (W_is_slot)
theorem fn_is_slot {k : Nat} {f : Addr} {fd : FuncData} (Fu : Fun K "is_slot" "is_slot" st_is_slot f fd) (T : Txt K w mg) : FnG P w K mg base (k + 1) f (R_is_slot) := by
  obtain ⟨a_VALUES, kd_VALUES⟩ := T.k_VALUES
  refine fnG_of (N := ["thing"]) Fu sc_is_slot (Fu.binds (ps := ["thing"]) fun _ _ _ _ _ _ us hl => match us, hl with | [_], _ => rfl) rfl rfl fun cdv A outer s H G hr hg => ?_
  have sc := sc_is_slot
  have hu := hr
  show PBI _ G H (defBody st_is_slot) (W_is_slot)
  unfold W_is_slot
  exact (b_one (s_ret (i_andT (i_isi (by rfl) T.n_isinstance (by rfl) T.n_str Boot.«str» (by decide) (i_peek 0)) (i_one (i_kin (by rfl) kd_VALUES.1 kd_VALUES.2 (i_peek 0))))))
/-! ### need_slot -/
abbrev st_need_slot : Stmt := top 8
theorem sc_need_slot : FnScope ["thing"] ["thing"] (defScope st_need_slot) := ⟨rfl, rfl, rfl, by decide +kernel, rfl, by decide +kernel, by decide +kernel⟩
def W_need_slot (F_is_slot : WF) : WS :=
  (sIf (tNot' (wTr (wCall F_is_slot (wCons (wV 0) wNil)))) sNever sSkip)
abbrev R_need_slot (F_is_slot : WF) : WF := wDef 1 0 (W_need_slot F_is_slot)
theorem fn_need_slot {k : Nat} {f : Addr} {fd : FuncData} (Fu : Fun K "need_slot" "need_slot" st_need_slot f fd) (T : Txt K w mg) {F_is_slot : WF} {f_is_slot : Addr} (H_is_slot : At P w K mg base k "is_slot" f_is_slot F_is_slot) : FnG P w K mg base (k + 1) f (R_need_slot F_is_slot) := by
  refine fnG_of (N := ["thing"]) Fu sc_need_slot (Fu.binds (ps := ["thing"]) fun _ _ _ _ _ _ us hl => match us, hl with | [_], _ => rfl) rfl rfl fun cdv A outer s H G hr hg => ?_
  have sc := sc_need_slot
  have hu := hr
  show PBI _ G H (defBody st_need_slot) (W_need_slot F_is_slot)
  unfold W_need_slot
  exact (b_one (s_if (t_not (t_tru (i_call H_is_slot.1 hr hg (by rfl) H_is_slot.2.1 H_is_slot.2.2 (a_cons (i_var 0) a_nil)))) (b_one s_never) b_nil))
/-! ### Plan_value -/
abbrev st_Plan_value : Stmt := inClass (top 10) 3
theorem sc_Plan_value : FnScope ["self", "slot"] ["self", "slot"] (defScope st_Plan_value) := ⟨rfl, rfl, rfl, by decide +kernel, rfl, by decide +kernel, by decide +kernel⟩
def W_Plan_value (F_need_slot : WF) : WS :=
  (sSeq (sDrop (wCall F_need_slot (wCons (wV 1) wNil)))
    (sRet (w2 oDIx (wAt "Plan" "its_values" (wP 0)) (wP 1))))
abbrev R_Plan_value (F_need_slot : WF) : WF := wDef 2 0 (W_Plan_value F_need_slot)
theorem fn_Plan_value {k : Nat} {f : Addr} {fd : FuncData} (Fu : Fun K "value" "Plan.value" st_Plan_value f fd) (T : Txt K w mg) {F_need_slot : WF} {f_need_slot : Addr} (H_need_slot : At P w K mg base k "need_slot" f_need_slot F_need_slot) : FnG P w K mg base (k + 1) f (R_Plan_value F_need_slot) := by
  obtain ⟨C_Plan, p_Plan, cl_Plan⟩ := T.kc_Plan
  refine fnG_of (N := ["self", "slot"]) Fu sc_Plan_value (Fu.binds (ps := ["self", "slot"]) fun _ _ _ _ _ _ us hl => match us, hl with | [_, _], _ => rfl) rfl rfl fun cdv A outer s H G hr hg => ?_
  have sc := sc_Plan_value
  have hu := hr
  show PBI _ G H (defBody st_Plan_value) (W_Plan_value F_need_slot)
  unfold W_Plan_value
  exact (b_cons (s_expr (i_call H_need_slot.1 hr hg (by rfl) H_need_slot.2.1 H_need_slot.2.2 (a_cons (i_var 1) a_nil)))
    (b_one (s_ret (i_dix2 hu.r1 (i_at cl_Plan (i_peek 0)) (i_peek 1) (by intro _ _; rfl)))))
/-! ### is_turned -/
abbrev st_is_turned : Stmt := top 11
theorem sc_is_turned : FnScope ["plan", "slot"] ["plan", "slot"] (defScope st_is_turned) := ⟨rfl, rfl, rfl, by decide +kernel, rfl, by decide +kernel, by decide +kernel⟩
def W_is_turned (F_Plan_value : WF) : WS :=
  (sRet (w2 oNe (wMeth "Plan" F_Plan_value (wP 0) (wCons (wV 1) wNil)) (w2 oIx (wKIx d_VALUES (wP 1)) (wC (.int 0)))))
abbrev R_is_turned (F_Plan_value : WF) : WF := wDef 2 0 (W_is_turned F_Plan_value)
theorem fn_is_turned {k : Nat} {f : Addr} {fd : FuncData} (Fu : Fun K "is_turned" "is_turned" st_is_turned f fd) (T : Txt K w mg) {F_Plan_value : WF} {f_Plan_value : Addr} (H_Plan_value : AtM P w K mg base k "Plan" "its_values" "value" f_Plan_value F_Plan_value) : FnG P w K mg base (k + 1) f (R_is_turned F_Plan_value) := by
  obtain ⟨a_VALUES, kd_VALUES⟩ := T.k_VALUES
  obtain ⟨C_Plan_value, q_Plan_value, me_Plan_value⟩ := H_Plan_value.2
  refine fnG_of (N := ["plan", "slot"]) Fu sc_is_turned (Fu.binds (ps := ["plan", "slot"]) fun _ _ _ _ _ _ us hl => match us, hl with | [_, _], _ => rfl) rfl rfl fun cdv A outer s H G hr hg => ?_
  have sc := sc_is_turned
  have hu := hr
  show PBI _ G H (defBody st_is_turned) (W_is_turned F_Plan_value)
  unfold W_is_turned
  exact (b_one (s_ret (i_cmp (op_neA hu.r64) op2_ne (i_methI me_Plan_value.1 me_Plan_value.2 H_Plan_value.1 hr hg (i_peek 0) (a_cons (i_var 1) a_nil)) (i_ix ix_seq op2_ix (i_kix (by rfl) kd_VALUES.1 kd_VALUES.2 (i_peek 1) (by intro _ _; rfl)) i_int (by intro _ _; rfl)) (by rfl))))
/-! ### is_even -/
abbrev st_is_even : Stmt := top 28
theorem sc_is_even : FnScope ["plans", "spots", "index", "slot"] ["plans", "spots"] (defScope st_is_even) := ⟨rfl, rfl, rfl, by decide +kernel, rfl, by decide +kernel, by decide +kernel⟩
def W_is_even (F_is_turned : WF) : WS :=
  (sRet (w2 oEq (w2 oMod (wN oLen (wCons (wLc (wSeqI (wV 1)) (gTp 2 (gCs (gN 2) (gCs (gN 3) gNl))) (wTr (wCall F_is_turned (wCons (w2 oIx (wP 0) (wP 2)) (wCons (wV 3) wNil)))) (wV 3) [2, 3]) wNil)) (wC (.int 2))) (wC (.int 0))))
abbrev R_is_even (F_is_turned : WF) : WF := wDef 2 2 (W_is_even F_is_turned)
theorem fn_is_even {k : Nat} {f : Addr} {fd : FuncData} (Fu : Fun K "is_even" "is_even" st_is_even f fd) (T : Txt K w mg) {F_is_turned : WF} {f_is_turned : Addr} (H_is_turned : At P w K mg base k "is_turned" f_is_turned F_is_turned) : FnG P w K mg base (k + 1) f (R_is_even F_is_turned) := by
  refine fnG_of (N := ["plans", "spots", "index", "slot"]) Fu sc_is_even (Fu.binds (ps := ["plans", "spots"]) fun _ _ _ _ _ _ us hl => match us, hl with | [_, _], _ => rfl) rfl rfl fun cdv A outer s H G hr hg => ?_
  have sc := sc_is_even
  have hu := hr
  show PBI _ G H (defBody st_is_even) (W_is_even F_is_turned)
  unfold W_is_even
  exact (b_one (s_ret (i_cmp (op_eqA hu.r64) op2_eq (i_op op_mod op2_mod (i_callB call_len opn_len (by rfl) T.n_len Boot.«len» (a_cons (i_lc rfl sc.nd (own := [("index", 2), ("slot", 3)]) (p_seq (i_var 1)) (blkOk_by (by kernel_rfl)) (fun _ _ _ _ _ => (g_tup rfl (g_cons (g_name sc.nd (by rfl) (by first | exact .inl rfl | exact .inr rfl) (by decide)) (g_cons (g_name sc.nd (by rfl) (by first | exact .inl rfl | exact .inr rfl) (by decide)) g_nil)))) (fun _ _ _ _ _ => (ts_one (t_tru (i_call H_is_turned.1 hr hg (by rfl) H_is_turned.2.1 H_is_turned.2.2 (a_cons (i_ix ix_seq op2_ix (i_peek 0) (i_peek 2) (by intro _ _; rfl)) (a_cons (i_var 3) a_nil)))))) (fun _ _ _ _ _ => (i_var 3))) a_nil)) i_int) i_int (by rfl))))
/-! ### holds -/
abbrev st_holds : Stmt := top 29
theorem sc_holds : FnScope ["plans", "rule", "index", "spots"] ["plans", "rule", "index"] (defScope st_holds) := ⟨rfl, rfl, rfl, by decide +kernel, rfl, by decide +kernel, by decide +kernel⟩
def W_holds (F_sums_of : WF) (F_is_even : WF) : WS :=
  (sRet (wN oAll (wCons (wLc (wSeqI (wF (wCall F_sums_of (wCons (wV 1) (wCons (wV 2) (wCons (wN oLen (wCons (wP 0) wNil)) wNil)))))) (gN 3) tYes' (wF (wCall F_is_even (wCons (wV 0) (wCons (wV 3) wNil)))) [3]) wNil)))
abbrev R_holds (F_sums_of : WF) (F_is_even : WF) : WF := wDef 3 1 (W_holds F_sums_of F_is_even)
theorem fn_holds {k : Nat} {f : Addr} {fd : FuncData} (Fu : Fun K "holds" "holds" st_holds f fd) (T : Txt K w mg) {F_sums_of : WF} {f_sums_of : Addr} (H_sums_of : At P w K mg base k "sums_of" f_sums_of F_sums_of) {F_is_even : WF} {f_is_even : Addr} (H_is_even : At P w K mg base k "is_even" f_is_even F_is_even) : FnG P w K mg base (k + 1) f (R_holds F_sums_of F_is_even) := by
  refine fnG_of (N := ["plans", "rule", "index", "spots"]) Fu sc_holds (Fu.binds (ps := ["plans", "rule", "index"]) fun _ _ _ _ _ _ us hl => match us, hl with | [_, _, _], _ => rfl) rfl rfl fun cdv A outer s H G hr hg => ?_
  have sc := sc_holds
  have hu := hr
  show PBI _ G H (defBody st_holds) (W_holds F_sums_of F_is_even)
  unfold W_holds
  exact (b_one (s_ret (i_callB (cr_all rfl) opn_all (by rfl) T.n_all Boot.«all» (a_cons (i_lc rfl sc.nd (own := [("spots", 3)]) (p_seq (i_fz (i_call H_sums_of.1 hr hg (by rfl) H_sums_of.2.1 H_sums_of.2.2 (a_cons (i_var 1) (a_cons (i_var 2) (a_cons (i_callB call_len opn_len (by rfl) T.n_len Boot.«len» (a_cons (i_peek 0) a_nil)) a_nil)))))) (blkOk_by (by kernel_rfl)) (fun _ _ _ _ _ => (g_name sc.nd (by rfl) (by first | exact .inl rfl | exact .inr rfl) (by decide))) (fun _ _ _ _ _ => ts_nil) (fun _ _ _ _ _ => (i_fz (i_call H_is_even.1 hr hg (by rfl) H_is_even.2.1 H_is_even.2.2 (a_cons (i_var 0) (a_cons (i_var 3) a_nil)))))) a_nil))))
/-! ### broken -/
abbrev st_broken : Stmt := top 30
theorem sc_broken : FnScope ["plans", "some", "rule", "index"] ["plans", "some"] (defScope st_broken) := ⟨rfl, rfl, rfl, by decide +kernel, rfl, by decide +kernel, by decide +kernel⟩
def W_broken (F_asked : WF) (F_holds : WF) : WS :=
  (sRet (wLc (wSeqI (wF (wCall F_asked (wCons (wV 1) (wCons (wN oLen (wCons (wP 0) wNil)) wNil))))) (gTp 2 (gCs (gN 2) (gCs (gN 3) gNl))) (tNot' (wTr (wCall F_holds (wCons (wV 0) (wCons (wV 2) (wCons (wV 3) wNil)))))) (wTup (wCons (wV 2) (wCons (wV 3) wNil))) [2, 3]))
abbrev R_broken (F_asked : WF) (F_holds : WF) : WF := wDef 2 2 (W_broken F_asked F_holds)
theorem fn_broken {k : Nat} {f : Addr} {fd : FuncData} (Fu : Fun K "broken" "broken" st_broken f fd) (T : Txt K w mg) {F_asked : WF} {f_asked : Addr} (H_asked : At P w K mg base k "asked" f_asked F_asked) {F_holds : WF} {f_holds : Addr} (H_holds : At P w K mg base k "holds" f_holds F_holds) : FnG P w K mg base (k + 1) f (R_broken F_asked F_holds) := by
  refine fnG_of (N := ["plans", "some", "rule", "index"]) Fu sc_broken (Fu.binds (ps := ["plans", "some"]) fun _ _ _ _ _ _ us hl => match us, hl with | [_, _], _ => rfl) rfl rfl fun cdv A outer s H G hr hg => ?_
  have sc := sc_broken
  have hu := hr
  show PBI _ G H (defBody st_broken) (W_broken F_asked F_holds)
  unfold W_broken
  exact (b_one (s_ret (i_lc rfl sc.nd (own := [("rule", 2), ("index", 3)]) (p_seq (i_fz (i_call H_asked.1 hr hg (by rfl) H_asked.2.1 H_asked.2.2 (a_cons (i_var 1) (a_cons (i_callB call_len opn_len (by rfl) T.n_len Boot.«len» (a_cons (i_peek 0) a_nil)) a_nil))))) (blkOk_by (by kernel_rfl)) (fun _ _ _ _ _ => (g_tup rfl (g_cons (g_name sc.nd (by rfl) (by first | exact .inl rfl | exact .inr rfl) (by decide)) (g_cons (g_name sc.nd (by rfl) (by first | exact .inl rfl | exact .inr rfl) (by decide)) g_nil)))) (fun _ _ _ _ _ => (ts_one (t_not (t_tru (i_call H_holds.1 hr hg (by rfl) H_holds.2.1 H_holds.2.2 (a_cons (i_var 0) (a_cons (i_var 2) (a_cons (i_var 3) a_nil)))))))) (fun _ _ _ _ _ => (i_tup (a_cons (i_var 2) (a_cons (i_var 3) a_nil)))))))
/-! ### _law_alike -/
abbrev st__law_alike : Stmt := top 39
theorem sc__law_alike : FnScope ["_law_found", "_law_due"] ["_law_found", "_law_due"] (defScope st__law_alike) := ⟨rfl, rfl, rfl, by decide +kernel, rfl, by decide +kernel, by decide +kernel⟩
def W__law_alike : WS :=
  (sRet (wAndT (w2 oEq (wP 0) (wP 1)) (w2 oEq (wN oRepr (wCons (wP 0) wNil)) (wN oRepr (wCons (wP 1) wNil)))))
abbrev R__law_alike : WF := wDefB 2 0 (W__law_alike)
theorem fn__law_alike {k : Nat} {f : Addr} {fd : FuncData} (Fu : Fun K "_law_alike" "_law_alike" st__law_alike f fd) (T : Txt K w mg) : FnB P w K mg base (k + 1) f (R__law_alike) := by
  refine fnB_of (N := ["_law_found", "_law_due"]) Fu sc__law_alike (Fu.binds (ps := ["_law_found", "_law_due"]) fun _ _ _ _ _ _ us hl => match us, hl with | [_, _], _ => rfl) rfl rfl fun cdv A outer s H G hr hg => ?_
  have sc := sc__law_alike
  have hu := hr
  show PBI _ G H (defBody st__law_alike) (W__law_alike)
  unfold W__law_alike
  exact (b_one (s_ret (i_andT (i_cmp (op_eqA hu.r64) op2_eq (i_peek 0) (i_peek 1) (by rfl)) (i_one (i_cmp (op_eqA hu.r64) op2_eq (i_callB (call_reprA hg hu.room) opn_repr (by rfl) T.n_repr Boot.«repr» (a_cons (i_peek 0) a_nil)) (i_callB (call_reprA hg hu.room) opn_repr (by rfl) T.n_repr Boot.«repr» (a_cons (i_peek 1) a_nil)) (by rfl))))))
/-! ### are_right -/
abbrev st_are_right : Stmt := top 31
theorem sc_are_right : FnScope ["plans", "some"] ["plans", "some"] (defScope st_are_right) := ⟨rfl, rfl, rfl, by decide +kernel, rfl, by decide +kernel, by decide +kernel⟩
def W_are_right (F_broken : WF) : WS :=
  (sRet (w2 oEqL0 (wCall F_broken (wCons (wV 0) (wCons (wV 1) wNil))) (wLst wNil)))
abbrev R_are_right (F_broken : WF) : WF := wDef 2 0 (W_are_right F_broken)
theorem fn_are_right {k : Nat} {f : Addr} {fd : FuncData} (Fu : Fun K "are_right" "are_right" st_are_right f fd) (T : Txt K w mg) {F_broken : WF} {f_broken : Addr} (H_broken : At P w K mg base k "broken" f_broken F_broken) : FnG P w K mg base (k + 1) f (R_are_right F_broken) := by
  refine fnG_of (N := ["plans", "some"]) Fu sc_are_right (Fu.binds (ps := ["plans", "some"]) fun _ _ _ _ _ _ us hl => match us, hl with | [_, _], _ => rfl) rfl rfl fun cdv A outer s H G hr hg => ?_
  have sc := sc_are_right
  have hu := hr
  show PBI _ G H (defBody st_are_right) (W_are_right F_broken)
  unfold W_are_right
  exact (b_one (s_ret (i_cmp (op_eqL0 hu.units0) op2_eqL0 (i_call H_broken.1 hr hg (by rfl) H_broken.2.1 H_broken.2.2 (a_cons (i_var 0) (a_cons (i_var 1) a_nil))) (i_lst a_nil) (by rfl))))
/-! ### are_rows -/
abbrev st_are_rows : Stmt := top 9
theorem sc_are_rows : FnScope ["thing", "slot", "value"] ["thing"] (defScope st_are_rows) := ⟨rfl, rfl, rfl, by decide +kernel, rfl, by decide +kernel, by decide +kernel⟩
def W_are_rows_t0 (F_is_slot : WF) : WS :=
  (sRet (wN oAll (wCons (wLc (wItems (wV 0)) (gTp 2 (gCs (gN 1) (gCs (gN 2) gNl))) tYes' (wAndT (wIsi "str" (wP 2)) (w2 (oIn false) (wP 2) (wKIx d_VALUES (wP 1)))) [1, 2]) wNil)))
def W_are_rows (F_is_slot : WF) : WS :=
  (sSeq (sIf (tOr' (tNot' (wTr (wIsi "dict" (wP 0)))) (tNot' (wTr (wN oAll (wCons (wLc (wKeysD (wV 0)) (gN 1) tYes' (wF (wCall F_is_slot (wCons (wV 1) wNil))) [1]) wNil))))) (sRet (wC (.bl false))) sSkip)
    (W_are_rows_t0 F_is_slot))
abbrev R_are_rows (F_is_slot : WF) : WF := wDef 1 2 (W_are_rows F_is_slot)
theorem fn_are_rows {k : Nat} {f : Addr} {fd : FuncData} (Fu : Fun K "are_rows" "are_rows" st_are_rows f fd) (T : Txt K w mg) {F_is_slot : WF} {f_is_slot : Addr} (H_is_slot : At P w K mg base k "is_slot" f_is_slot F_is_slot) : FnG P w K mg base (k + 1) f (R_are_rows F_is_slot) := by
  obtain ⟨a_VALUES, kd_VALUES⟩ := T.k_VALUES
  refine fnG_of (N := ["thing", "slot", "value"]) Fu sc_are_rows (Fu.binds (ps := ["thing"]) fun _ _ _ _ _ _ us hl => match us, hl with | [_], _ => rfl) rfl rfl fun cdv A outer s H G hr hg => ?_
  have sc := sc_are_rows
  have hu := hr
  show PBI _ G H (defBody st_are_rows) (W_are_rows F_is_slot)
  unfold W_are_rows
  exact (b_cons (s_if (t_bool (w_or (t_not (t_tru (i_isi (by rfl) T.n_isinstance (by rfl) T.n_dict Boot.«dict» (by decide) (i_peek 0)))) (w_or1 (t_not (t_tru (i_callB (cr_all rfl) opn_all (by rfl) T.n_all Boot.«all» (a_cons (i_lc rfl sc.nd (own := [("slot", 1)]) (p_keysD (i_var 0)) (blkOk_by (by kernel_rfl)) (fun _ _ _ _ _ => (g_name sc.nd (by rfl) (by first | exact .inl rfl | exact .inr rfl) (by decide))) (fun _ _ _ _ _ => ts_nil) (fun _ _ _ _ _ => (i_fz (i_call H_is_slot.1 hr hg (by rfl) H_is_slot.2.1 H_is_slot.2.2 (a_cons (i_var 1) a_nil))))) a_nil))))))) (b_one (s_ret i_bl)) b_nil)
    (b_one (s_ret (i_callB (cr_all rfl) opn_all (by rfl) T.n_all Boot.«all» (a_cons (i_lc rfl sc.nd (own := [("slot", 1), ("value", 2)]) (p_items (i_var 0)) (blkOk_by (by kernel_rfl)) (fun _ _ _ _ _ => (g_tup rfl (g_cons (g_name sc.nd (by rfl) (by first | exact .inl rfl | exact .inr rfl) (by decide)) (g_cons (g_name sc.nd (by rfl) (by first | exact .inl rfl | exact .inr rfl) (by decide)) g_nil)))) (fun _ _ _ _ _ => ts_nil) (fun _ _ _ _ _ => (i_andT (i_isi (by rfl) T.n_isinstance (by rfl) T.n_str Boot.«str» (by decide) (i_peek 2)) (i_one (i_cmp (op_inB hu.room) op2_in (i_peek 2) (i_kix (by rfl) kd_VALUES.1 kd_VALUES.2 (i_peek 1) (by intro _ _; rfl)) (by rfl)))))) a_nil)))))
/-! ### Plan_init -/
abbrev st_Plan_init : Stmt := inClass (top 10) 1
theorem sc_Plan_init : FnScope ["self", "rows", "slot"] ["self", "rows"] (defScope st_Plan_init) := ⟨rfl, rfl, rfl, by decide +kernel, rfl, by decide +kernel, by decide +kernel⟩
def W_Plan_init (F_are_rows : WF) : WIB :=
  (sSeqI (sIf (tNot' (wTr (wCall F_are_rows (wCons (wV 1) wNil)))) sNever sSkip)
    (sSelf (wF (wDc (wKeys d_VALUES) (gN 2) tYes' (wP 2) (wGet2 (wP 1) (wP 2) (w2 oIx (wKIx d_VALUES (wP 2)) (wC (.int 0)))) [2]))))
abbrev R_Plan_init (F_are_rows : WF) : WFI := wDefI 1 1 (W_Plan_init F_are_rows)
theorem fn_Plan_init {k : Nat} {f : Addr} {fd : FuncData} {C_Plan p_Plan : Addr} (cl_Plan : Cl1 K "Plan" C_Plan "its_values" p_Plan) (Fu : Fun K "__init__" "Plan.__init__" st_Plan_init f fd) (T : Txt K w mg) {F_are_rows : WF} {f_are_rows : Addr} (H_are_rows : At P w K mg base k "are_rows" f_are_rows F_are_rows) : FnI P w K mg base (k + 1) C_Plan f (R_Plan_init F_are_rows) := by
  obtain ⟨a_VALUES, kd_VALUES⟩ := T.k_VALUES
  refine fnI_of (N := ["self", "rows", "slot"]) Fu sc_Plan_init (Fu.binds (ps := ["self", "rows"]) fun _ _ _ _ _ _ us hl => match us, hl with | [_, _], _ => rfl) rfl rfl fun cdv A outer s H G a dx hr hg => ?_
  have sc := sc_Plan_init
  have hu := hr
  show PSs _ (defBody st_Plan_init) (TSI _ G H _ a dx (W_Plan_init F_are_rows))
  unfold W_Plan_init
  exact (b_consI (s_if (t_not (t_tru (i_call H_are_rows.1 hr hg (by rfl) H_are_rows.2.1 H_are_rows.2.2 (a_cons (i_var 1) a_nil)))) (b_one s_never) b_nil)
    (b_self cl_Plan (i_fz (i_dc (own := [("slot", 2)]) rfl sc.nd (p_kcon (by rfl) kd_VALUES.1 kd_VALUES.2) (blkOk_by (by kernel_rfl)) (fun _ _ _ _ _ => (g_name sc.nd (by rfl) (by first | exact .inl rfl | exact .inr rfl) (by decide))) (fun _ _ _ _ _ => ts_nil) (fun _ _ _ _ _ => (i_peek 2)) (fun _ _ _ _ _ => (i_get2 hu.r1 (i_peek 1) (i_peek 2) (i_ix ix_seq op2_ix (i_kix (by rfl) kd_VALUES.1 kd_VALUES.2 (i_peek 2) (by intro _ _; rfl)) i_int (by intro _ _; rfl))))))))
/-! ### _law_mixed -/
abbrev st__law_mixed : Stmt := top 38
theorem sc__law_mixed : FnScope ["_law_bag_here", "_law_things", "_law_found", "_law_thing"] ["_law_bag_here", "_law_things"] (defScope st__law_mixed) := ⟨rfl, rfl, rfl, by decide +kernel, rfl, by decide +kernel, by decide +kernel⟩
def W__law_mixed (F__law_take : WF) : WS :=
  (sSeq (sSet 2 (wLst wNil))
    (sSeq (sFor (wSeqI (wV 1)) (gN 3)
    (sMutF owIns 2 (wCons (wF (wCall F__law_take (wCons (wV 0) (wCons (wF (w2 oAdd (wN oLen (wCons (wP 2) wNil)) (wC (.int 1)))) wNil)))) (wCons (wV 3) wNil))))
    (sRetV 2)))
abbrev R__law_mixed (F__law_take : WF) : WF := wDef 2 2 (W__law_mixed F__law_take)
theorem fn__law_mixed {k : Nat} {f : Addr} {fd : FuncData} (Fu : Fun K "_law_mixed" "_law_mixed" st__law_mixed f fd) (T : Txt K w mg) {F__law_take : WF} {f__law_take : Addr} (H__law_take : At P w K mg base k "_law_take" f__law_take F__law_take) : FnG P w K mg base (k + 1) f (R__law_mixed F__law_take) := by
  refine fnG_of (N := ["_law_bag_here", "_law_things", "_law_found", "_law_thing"]) Fu sc__law_mixed (Fu.binds (ps := ["_law_bag_here", "_law_things"]) fun _ _ _ _ _ _ us hl => match us, hl with | [_, _], _ => rfl) rfl rfl fun cdv A outer s H G hr hg => ?_
  have sc := sc__law_mixed
  have hu := hr
  show PBI _ G H (defBody st__law_mixed) (W__law_mixed F__law_take)
  unfold W__law_mixed
  exact (b_cons (s_set sc.nd (by rfl) (by first | exact .inl rfl | exact .inr rfl) (i_lst a_nil))
    (b_cons (s_for (vs := [3]) PassesOwn.never rfl (p_seq (i_var 1)) (g_name sc.nd (by rfl) (by first | exact .inl rfl | exact .inr rfl) (by decide))
    (b_one (s_mutF (i := 2) (pe := fun ho ha => pe_bm F.plainAttrs_list F.slot_list_insert F.type_list_insert mt_insert ho ha) opf_ins (a_cons (i_fz (i_call H__law_take.1 hr hg (by rfl) H__law_take.2.1 H__law_take.2.2 (a_cons (i_var 0) (a_cons (i_fz (i_op op_addA op2_add (i_callB call_len opn_len (by rfl) T.n_len Boot.«len» (a_cons (i_peek 2) a_nil)) i_int)) a_nil)))) (a_cons (i_var 3) a_nil)))))
    (b_one (s_retv 2))))
/-! ### _law_slots -/
abbrev st__law_slots : Stmt := top 40
theorem sc__law_slots : FnScope ["_law_table", "_law_slot", "_law_rows", "_law_row", "_law_words"] [] (defScope st__law_slots) := ⟨rfl, rfl, rfl, by decide +kernel, rfl, by decide +kernel, by decide +kernel⟩
def W__law_slots_t0 : WS :=
  (sSeq (sSet 2 (wLst (wCons (wC (.str "fields less more")) (wCons (wC (.str "tags less more")) (wCons (wC (.str "from begin end")) (wCons (wC (.str "handbase zero one")) (wCons (wC (.str "deedbase zero one")) (wCons (wC (.str "known yes no")) wNil))))))))
    (sSeq (sSet 2 (w2 oAdd (wP 2) (wLst (wCons (wC (.str "on yes no")) (wCons (wC (.str "defseq kind body")) (wCons (wC (.str "useseq kind body")) (wCons (wC (.str "defmany once each")) (wCons (wC (.str "usemany once each")) wNil))))))))
    (sSeq (sFor (wSeqI (wF (w2 oAdd (wP 2) (wLst (wCons (wC (.str "hand use call")) (wCons (wC (.str "keep kept frame")) (wCons (wC (.str "rec applied bare")) wNil))))))) (gN 3)
    (sSeq (sSet 4 (wM isTxt oSplit (wP 3) (wCons (wC (.str " ")) wNil)))
    (sDSet 0 (wTup (wCons (w2 oIx (wP 4) (wC (.int 1))) (wCons (w2 oIx (wP 4) (wC (.int 2))) wNil))) (w2 oIx (wP 4) (wC (.int 0))))))
    (sRetV 0))))
def W__law_slots : WS :=
  (sSeq (sSet 0 wDnew)
    (sSeq (sFor (wSeqI (wF (wM isTxt oSplit (wC (.str "addin addout case dropin dropout look make putin putout tag widen")) (wCons (wC (.str " ")) wNil)))) (gN 1)
    (sDSet 0 (wTup (wCons (wC (.str "up")) (wCons (wC (.str "down")) wNil))) (wP 1)))
    (W__law_slots_t0)))
abbrev R__law_slots : WF := wDef 0 5 (W__law_slots)
theorem fn__law_slots {k : Nat} {f : Addr} {fd : FuncData} (Fu : Fun K "_law_slots" "_law_slots" st__law_slots f fd) (T : Txt K w mg) : FnG P w K mg base (k + 1) f (R__law_slots) := by
  refine fnG_of (N := ["_law_table", "_law_slot", "_law_rows", "_law_row", "_law_words"]) Fu sc__law_slots (Fu.binds (ps := []) fun _ _ _ _ _ _ us hl => match us, hl with | [], _ => rfl) rfl rfl fun cdv A outer s H G hr hg => ?_
  have sc := sc__law_slots
  have hu := hr
  show PBI _ G H (defBody st__law_slots) (W__law_slots)
  unfold W__law_slots
  exact (b_cons (s_set sc.nd (by rfl) (by first | exact .inl rfl | exact .inr rfl) i_dnew)
    (b_cons (s_for (vs := [1]) PassesOwn.never rfl (p_seq (i_fz (i_meth (T := "split") (id := "str.split") (pe := fun ho ha => pe_bm F.plainAttrs_str F.slot_str_split F.type_str_split mt_split ho ha) txt_ty opm_split i_str (a_cons i_str a_nil)))) (g_name sc.nd (by rfl) (by first | exact .inl rfl | exact .inr rfl) (by decide))
    (b_one (s_dset (j := 0) hu.r1 rfl (i_tup (a_cons i_str (a_cons i_str a_nil))) (i_peek 1))))
    (b_cons (s_set sc.nd (by rfl) (by first | exact .inl rfl | exact .inr rfl) (i_lst (a_cons i_str (a_cons i_str (a_cons i_str (a_cons i_str (a_cons i_str (a_cons i_str a_nil))))))))
    (b_cons (s_set sc.nd (by rfl) (by first | exact .inl rfl | exact .inr rfl) (i_op op_addA op2_add (i_peek 2) (i_lst (a_cons i_str (a_cons i_str (a_cons i_str (a_cons i_str (a_cons i_str a_nil))))))))
    (b_cons (s_for (vs := [3]) PassesOwn.never rfl (p_seq (i_fz (i_op op_addA op2_add (i_peek 2) (i_lst (a_cons i_str (a_cons i_str (a_cons i_str a_nil))))))) (g_name sc.nd (by rfl) (by first | exact .inl rfl | exact .inr rfl) (by decide))
    (b_cons (s_set sc.nd (by rfl) (by first | exact .inl rfl | exact .inr rfl) (i_meth (T := "split") (id := "str.split") (pe := fun ho ha => pe_bm F.plainAttrs_str F.slot_str_split F.type_str_split mt_split ho ha) txt_ty opm_split (i_peek 3) (a_cons i_str a_nil)))
    (b_one (s_dset (j := 0) hu.r1 rfl (i_tup (a_cons (i_ix ix_seq op2_ix (i_peek 4) i_int (by intro _ _; rfl)) (a_cons (i_ix ix_seq op2_ix (i_peek 4) i_int (by intro _ _; rfl)) a_nil))) (i_ix ix_seq op2_ix (i_peek 4) i_int (by intro _ _; rfl))))))
    (b_one (s_retv 0)))))))
/-! ### _law_standard -/
abbrev st__law_standard : Stmt := top 41
theorem sc__law_standard : FnScope ["_law_slot", "_law_values"] [] (defScope st__law_standard) := ⟨rfl, rfl, rfl, by decide +kernel, rfl, by decide +kernel, by decide +kernel⟩
def W__law_standard (F__law_slots : WF) : WS :=
  (sRet (wDictP (wLc (wItems (wF (wCall F__law_slots wNil))) (gTp 2 (gCs (gN 0) (gCs (gN 1) gNl))) tYes' (wTup (wCons (wV 0) (wCons (w2 oIx (wP 1) (wC (.int 0))) wNil))) [0, 1])))
abbrev R__law_standard (F__law_slots : WF) : WF := wDef 0 2 (W__law_standard F__law_slots)
theorem fn__law_standard {k : Nat} {f : Addr} {fd : FuncData} (Fu : Fun K "_law_standard" "_law_standard" st__law_standard f fd) (T : Txt K w mg) {F__law_slots : WF} {f__law_slots : Addr} (H__law_slots : At P w K mg base k "_law_slots" f__law_slots F__law_slots) : FnG P w K mg base (k + 1) f (R__law_standard F__law_slots) := by
  refine fnG_of (N := ["_law_slot", "_law_values"]) Fu sc__law_standard (Fu.binds (ps := []) fun _ _ _ _ _ _ us hl => match us, hl with | [], _ => rfl) rfl rfl fun cdv A outer s H G hr hg => ?_
  have sc := sc__law_standard
  have hu := hr
  show PBI _ G H (defBody st__law_standard) (W__law_standard F__law_slots)
  unfold W__law_standard
  exact (b_one (s_ret (i_dictP rfl (by rfl) T.n_dict (i_lc rfl sc.nd (own := [("_law_slot", 0), ("_law_values", 1)]) (p_items (i_fz (i_call0 H__law_slots.1 hr hg (by rfl) H__law_slots.2.1 H__law_slots.2.2))) (blkOk_by (by kernel_rfl)) (fun _ _ _ _ _ => (g_tup rfl (g_cons (g_name sc.nd (by rfl) (by first | exact .inl rfl | exact .inr rfl) (by decide)) (g_cons (g_name sc.nd (by rfl) (by first | exact .inl rfl | exact .inr rfl) (by decide)) g_nil)))) (fun _ _ _ _ _ => ts_nil) (fun _ _ _ _ _ => (i_tup (a_cons (i_var 0) (a_cons (i_ix ix_seq op2_ix (i_peek 1) i_int (by intro _ _; rfl)) a_nil))))))))
/-! ### _law_plan -/
abbrev st__law_plan : Stmt := top 43
theorem sc__law_plan : FnScope ["_law_bag_here", "_law_plan_here", "_law_standard_here", "_law_slot"] ["_law_bag_here", "_law_plan_here"] (defScope st__law_plan) := ⟨rfl, rfl, rfl, by decide +kernel, rfl, by decide +kernel, by decide +kernel⟩
def W__law_plan_t0 (F_Plan_init : WFI) (F__law_take : WF) (F__law_mixed : WF) (F__law_standard : WF) : WS :=
  (sRet (wCall (wfI "Plan" "its_values" F_Plan_init) (wCons (wF (wDictP (wLc (wSeqI (wF (wSortD (wP 1)))) (gN 3) (wB (w2 oNe (w2 oDIx (wP 1) (wP 3)) (w2 oDIx (wP 2) (wP 3)))) (wTup (wCons (wV 3) (wCons (w2 oDIx (wP 1) (wP 3)) wNil))) [3]))) wNil)))
def W__law_plan (F_Plan_init : WFI) (F__law_take : WF) (F__law_mixed : WF) (F__law_standard : WF) : WS :=
  (sSeq (sSet 2 (wCall F__law_standard wNil))
    (sSeq (sIf (wB (w2 oEq (wCall F__law_take (wCons (wV 0) (wCons (wC (.int 2)) wNil))) (wC (.int 0)))) (sRet (wCall (wfI "Plan" "its_values" F_Plan_init) (wCons (wF (wDictP (wLc (wSeqI (wF (wCall F__law_mixed (wCons (wV 0) (wCons (wF (wSortD (wP 1))) wNil))))) (gN 3) tYes' (wTup (wCons (wV 3) (wCons (w2 oDIx (wP 1) (wP 3)) wNil))) [3]))) wNil))) sSkip)
    (W__law_plan_t0 F_Plan_init F__law_take F__law_mixed F__law_standard)))
abbrev R__law_plan (F_Plan_init : WFI) (F__law_take : WF) (F__law_mixed : WF) (F__law_standard : WF) : WF := wDef 2 2 (W__law_plan F_Plan_init F__law_take F__law_mixed F__law_standard)
theorem fn__law_plan {k : Nat} {f : Addr} {fd : FuncData} (Fu : Fun K "_law_plan" "_law_plan" st__law_plan f fd) (T : Txt K w mg) {F_Plan_init : WFI} (H_Plan_init : AtI P w K mg base k "Plan" "its_values" F_Plan_init) {F__law_take : WF} {f__law_take : Addr} (H__law_take : At P w K mg base k "_law_take" f__law_take F__law_take) {F__law_mixed : WF} {f__law_mixed : Addr} (H__law_mixed : At P w K mg base k "_law_mixed" f__law_mixed F__law_mixed) {F__law_standard : WF} {f__law_standard : Addr} (H__law_standard : At P w K mg base k "_law_standard" f__law_standard F__law_standard) : FnG P w K mg base (k + 1) f (R__law_plan F_Plan_init F__law_take F__law_mixed F__law_standard) := by
  obtain ⟨Ci_Plan, fi_Plan, pi_Plan, j_Plan, mk_Plan⟩ := H_Plan_init
  refine fnG_of (N := ["_law_bag_here", "_law_plan_here", "_law_standard_here", "_law_slot"]) Fu sc__law_plan (Fu.binds (ps := ["_law_bag_here", "_law_plan_here"]) fun _ _ _ _ _ _ us hl => match us, hl with | [_, _], _ => rfl) rfl rfl fun cdv A outer s H G hr hg => ?_
  have sc := sc__law_plan
  have hu := hr
  show PBI _ G H (defBody st__law_plan) (W__law_plan F_Plan_init F__law_take F__law_mixed F__law_standard)
  unfold W__law_plan
  exact (b_cons (s_set sc.nd (by rfl) (by first | exact .inl rfl | exact .inr rfl) (i_call0 H__law_standard.1 hr hg (by rfl) H__law_standard.2.1 H__law_standard.2.2))
    (b_cons (s_if (t_cmp (op_eqA hu.r64) op2_eq (i_call H__law_take.1 hr hg (by rfl) H__law_take.2.1 H__law_take.2.2 (a_cons (i_var 0) (a_cons i_int a_nil))) i_int (by rfl)) (b_one (s_ret (i_make mk_Plan.1 mk_Plan.2.1 mk_Plan.2.2.1 (hr.mono mk_Plan.2.2.2.2) hg (by rfl) mk_Plan.2.2.2.1 (a_cons (i_fz (i_dictP rfl (by rfl) T.n_dict (i_lc rfl sc.nd (own := [("_law_slot", 3)]) (p_seq (i_fz (i_call H__law_mixed.1 hr hg (by rfl) H__law_mixed.2.1 H__law_mixed.2.2 (a_cons (i_var 0) (a_cons (i_fz (i_sortD rfl (by rfl) T.n_sorted (i_peek 1))) a_nil))))) (blkOk_by (by kernel_rfl)) (fun _ _ _ _ _ => (g_name sc.nd (by rfl) (by first | exact .inl rfl | exact .inr rfl) (by decide))) (fun _ _ _ _ _ => ts_nil) (fun _ _ _ _ _ => (i_tup (a_cons (i_var 3) (a_cons (i_dix2 hu.r1 (i_peek 1) (i_peek 3) (by intro _ _; rfl)) a_nil))))))) a_nil)))) b_nil)
    (b_one (s_ret (i_make mk_Plan.1 mk_Plan.2.1 mk_Plan.2.2.1 (hr.mono mk_Plan.2.2.2.2) hg (by rfl) mk_Plan.2.2.2.1 (a_cons (i_fz (i_dictP rfl (by rfl) T.n_dict (i_lc rfl sc.nd (own := [("_law_slot", 3)]) (p_seq (i_fz (i_sortD rfl (by rfl) T.n_sorted (i_peek 1)))) (blkOk_by (by kernel_rfl)) (fun _ _ _ _ _ => (g_name sc.nd (by rfl) (by first | exact .inl rfl | exact .inr rfl) (by decide))) (fun _ _ _ _ _ => (ts_one (t_cmp (op_neA hu.r64) op2_ne (i_dix2 hu.r1 (i_peek 1) (i_peek 3) (by intro _ _; rfl)) (i_dix2 hu.r1 (i_peek 2) (i_peek 3) (by intro _ _; rfl)) (by rfl)))) (fun _ _ _ _ _ => (i_tup (a_cons (i_var 3) (a_cons (i_dix2 hu.r1 (i_peek 1) (i_peek 3) (by intro _ _; rfl)) a_nil))))))) a_nil))))))
/-! ### _law_plans -/
abbrev st__law_plans : Stmt := top 44
theorem sc__law_plans : FnScope ["_law_bag_here", "_law_plans_here", "_law_plan_here"] ["_law_bag_here", "_law_plans_here"] (defScope st__law_plans) := ⟨rfl, rfl, rfl, by decide +kernel, rfl, by decide +kernel, by decide +kernel⟩
def W__law_plans (F__law_plan : WF) : WS :=
  (sRet (wLc (wSeqI (wV 1)) (gN 2) tYes' (wF (wCall F__law_plan (wCons (wV 0) (wCons (wV 2) wNil)))) [2]))
abbrev R__law_plans (F__law_plan : WF) : WF := wDef 2 1 (W__law_plans F__law_plan)
theorem fn__law_plans {k : Nat} {f : Addr} {fd : FuncData} (Fu : Fun K "_law_plans" "_law_plans" st__law_plans f fd) (T : Txt K w mg) {F__law_plan : WF} {f__law_plan : Addr} (H__law_plan : At P w K mg base k "_law_plan" f__law_plan F__law_plan) : FnG P w K mg base (k + 1) f (R__law_plans F__law_plan) := by
  refine fnG_of (N := ["_law_bag_here", "_law_plans_here", "_law_plan_here"]) Fu sc__law_plans (Fu.binds (ps := ["_law_bag_here", "_law_plans_here"]) fun _ _ _ _ _ _ us hl => match us, hl with | [_, _], _ => rfl) rfl rfl fun cdv A outer s H G hr hg => ?_
  have sc := sc__law_plans
  have hu := hr
  show PBI _ G H (defBody st__law_plans) (W__law_plans F__law_plan)
  unfold W__law_plans
  exact (b_one (s_ret (i_lc rfl sc.nd (own := [("_law_plan_here", 2)]) (p_seq (i_var 1)) (blkOk_by (by kernel_rfl)) (fun _ _ _ _ _ => (g_name sc.nd (by rfl) (by first | exact .inl rfl | exact .inr rfl) (by decide))) (fun _ _ _ _ _ => ts_nil) (fun _ _ _ _ _ => (i_fz (i_call H__law_plan.1 hr hg (by rfl) H__law_plan.2.1 H__law_plan.2.2 (a_cons (i_var 0) (a_cons (i_var 2) a_nil))))))))
/-! ### _law_turned -/
abbrev st__law_turned : Stmt := top 42
theorem sc__law_turned : FnScope ["_law_plan_here", "_law_slots_here", "_law_found", "_law_table", "_law_slot", "_law_values"] ["_law_plan_here", "_law_slots_here"] (defScope st__law_turned) := ⟨rfl, rfl, rfl, by decide +kernel, rfl, by decide +kernel, by decide +kernel⟩
def W__law_turned (F__law_slots : WF) : WS :=
  (sSeq (sPar 2 3 (wCons (wDictD (wP 0)) (wCons (wCall F__law_slots wNil) wNil)))
    (sSeq (sFor (wSeqI (wV 1)) (gN 4)
    (sSeq (sSet 5 (w2 oDIx (wP 3) (wP 4)))
    (sDSet 2 (w2 oIx (wP 5) (w2 oSub (wC (.int 1)) (wTM oTIndex (wP 5) (wCons (w2 oDIx (wP 2) (wP 4)) wNil)))) (wP 4))))
    (sRetV 2)))
abbrev R__law_turned (F__law_slots : WF) : WF := wDef 2 4 (W__law_turned F__law_slots)
theorem fn__law_turned {k : Nat} {f : Addr} {fd : FuncData} (Fu : Fun K "_law_turned" "_law_turned" st__law_turned f fd) (T : Txt K w mg) {F__law_slots : WF} {f__law_slots : Addr} (H__law_slots : At P w K mg base k "_law_slots" f__law_slots F__law_slots) : FnG P w K mg base (k + 1) f (R__law_turned F__law_slots) := by
  refine fnG_of (N := ["_law_plan_here", "_law_slots_here", "_law_found", "_law_table", "_law_slot", "_law_values"]) Fu sc__law_turned (Fu.binds (ps := ["_law_plan_here", "_law_slots_here"]) fun _ _ _ _ _ _ us hl => match us, hl with | [_, _], _ => rfl) rfl rfl fun cdv A outer s H G hr hg => ?_
  have sc := sc__law_turned
  have hu := hr
  show PBI _ G H (defBody st__law_turned) (W__law_turned F__law_slots)
  unfold W__law_turned
  exact (b_cons (s_par rfl sc.nd (by rfl) (by rfl) (by decide) (by rfl) (by rfl) (a_cons (i_dictD (by rfl) T.n_dict (i_peek 0)) (a_cons (i_call0 H__law_slots.1 hr hg (by rfl) H__law_slots.2.1 H__law_slots.2.2) a_nil)) (by rfl))
    (b_cons (s_for (vs := [4]) PassesOwn.never rfl (p_seq (i_var 1)) (g_name sc.nd (by rfl) (by first | exact .inl rfl | exact .inr rfl) (by decide))
    (b_cons (s_set sc.nd (by rfl) (by first | exact .inl rfl | exact .inr rfl) (i_dix2 hu.r1 (i_peek 3) (i_peek 4) (by intro _ _; rfl)))
    (b_one (s_dset (j := 2) hu.r1 rfl (i_ix ix_seq op2_ix (i_peek 5) (i_op op_sub op2_sub i_int (i_tindex (i_peek 5) (a_cons (i_dix2 hu.r1 (i_peek 2) (i_peek 4) (by intro _ _; rfl)) a_nil))) (by intro _ _; rfl)) (i_peek 4)))))
    (b_one (s_retv 2))))
/-! ### _law_one -/
abbrev st__law_one : Stmt := top 37
theorem sc__law_one : FnScope ["_law_bag_here", "_law_things"] ["_law_bag_here", "_law_things"] (defScope st__law_one) := ⟨rfl, rfl, rfl, by decide +kernel, rfl, by decide +kernel, by decide +kernel⟩
def W__law_one (F__law_take : WF) : WS :=
  (sRet (w2 oIx (wP 1) (wCall F__law_take (wCons (wV 0) (wCons (wN oLen (wCons (wP 1) wNil)) wNil)))))
abbrev R__law_one (F__law_take : WF) : WF := wDef 2 0 (W__law_one F__law_take)
theorem fn__law_one {k : Nat} {f : Addr} {fd : FuncData} (Fu : Fun K "_law_one" "_law_one" st__law_one f fd) (T : Txt K w mg) {F__law_take : WF} {f__law_take : Addr} (H__law_take : At P w K mg base k "_law_take" f__law_take F__law_take) : FnG P w K mg base (k + 1) f (R__law_one F__law_take) := by
  refine fnG_of (N := ["_law_bag_here", "_law_things"]) Fu sc__law_one (Fu.binds (ps := ["_law_bag_here", "_law_things"]) fun _ _ _ _ _ _ us hl => match us, hl with | [_, _], _ => rfl) rfl rfl fun cdv A outer s H G hr hg => ?_
  have sc := sc__law_one
  have hu := hr
  show PBI _ G H (defBody st__law_one) (W__law_one F__law_take)
  unfold W__law_one
  exact (b_one (s_ret (i_ix ix_seq op2_ix (i_peek 1) (i_call H__law_take.1 hr hg (by rfl) H__law_take.2.1 H__law_take.2.2 (a_cons (i_var 0) (a_cons (i_callB call_len opn_len (by rfl) T.n_len Boot.«len» (a_cons (i_peek 1) a_nil)) a_nil))) (by intro _ _; rfl))))
/-! ### slots -/
abbrev st_slots : Stmt := top 6
theorem sc_slots : FnScope [] [] (defScope st_slots) := ⟨rfl, rfl, rfl, by decide +kernel, rfl, by decide +kernel, by decide +kernel⟩
def W_slots : WS :=
  (sRet (wNewL (ksD d_VALUES)))
abbrev R_slots : WF := wDef 0 0 (W_slots)
theorem fn_slots {k : Nat} {f : Addr} {fd : FuncData} (Fu : Fun K "slots" "slots" st_slots f fd) (T : Txt K w mg) : FnG P w K mg base (k + 1) f (R_slots) := by
  obtain ⟨a_VALUES, kd_VALUES⟩ := T.k_VALUES
  refine fnG_of (N := []) Fu sc_slots (Fu.binds (ps := []) fun _ _ _ _ _ _ us hl => match us, hl with | [], _ => rfl) rfl rfl fun cdv A outer s H G hr hg => ?_
  have sc := sc_slots
  have hu := hr
  show PBI _ G H (defBody st_slots) (W_slots)
  unfold W_slots
  exact (b_one (s_ret (i_klist rfl (by rfl) T.n_list (by rfl) kd_VALUES.1 kd_VALUES.2)))
/-! ### Plan_turned -/
abbrev st_Plan_turned : Stmt := inClass (top 10) 5
theorem sc_Plan_turned : FnScope ["self", "slot", "one", "other"] ["self", "slot"] (defScope st_Plan_turned) := ⟨rfl, rfl, rfl, by decide +kernel, rfl, by decide +kernel, by decide +kernel⟩
def W_Plan_turned (F_Plan_init : WFI) (F_need_slot : WF) : WS :=
  (sSeq (sDrop (wCall F_need_slot (wCons (wV 1) wNil)))
    (sSeq (sUnp (gTp 2 (gCs (gN 2) (gCs (gN 3) gNl))) (wKIx d_VALUES (wP 1)))
    (sRet (wCall (wfI "Plan" "its_values" F_Plan_init) (wCons (wF (wDStar (wAt "Plan" "its_values" (wP 0)) (wP 1) (wIf (wB (w2 oEq (w2 oDIx (wAt "Plan" "its_values" (wP 0)) (wP 1)) (wP 2))) (wV 3) (wV 2)))) wNil)))))
abbrev R_Plan_turned (F_Plan_init : WFI) (F_need_slot : WF) : WF := wDef 2 2 (W_Plan_turned F_Plan_init F_need_slot)
theorem fn_Plan_turned {k : Nat} {f : Addr} {fd : FuncData} (Fu : Fun K "turned" "Plan.turned" st_Plan_turned f fd) (T : Txt K w mg) {F_Plan_init : WFI} (H_Plan_init : AtI P w K mg base k "Plan" "its_values" F_Plan_init) {F_need_slot : WF} {f_need_slot : Addr} (H_need_slot : At P w K mg base k "need_slot" f_need_slot F_need_slot) : FnG P w K mg base (k + 1) f (R_Plan_turned F_Plan_init F_need_slot) := by
  obtain ⟨a_VALUES, kd_VALUES⟩ := T.k_VALUES
  obtain ⟨C_Plan, p_Plan, cl_Plan⟩ := T.kc_Plan
  obtain ⟨Ci_Plan, fi_Plan, pi_Plan, j_Plan, mk_Plan⟩ := H_Plan_init
  refine fnG_of (N := ["self", "slot", "one", "other"]) Fu sc_Plan_turned (Fu.binds (ps := ["self", "slot"]) fun _ _ _ _ _ _ us hl => match us, hl with | [_, _], _ => rfl) rfl rfl fun cdv A outer s H G hr hg => ?_
  have sc := sc_Plan_turned
  have hu := hr
  show PBI _ G H (defBody st_Plan_turned) (W_Plan_turned F_Plan_init F_need_slot)
  unfold W_Plan_turned
  exact (b_cons (s_expr (i_call H_need_slot.1 hr hg (by rfl) H_need_slot.2.1 H_need_slot.2.2 (a_cons (i_var 1) a_nil)))
    (b_cons (s_unp (vs := [2, 3]) (i_kix (by rfl) kd_VALUES.1 kd_VALUES.2 (i_peek 1) (by intro _ _; rfl)) (g_tup rfl (g_cons (g_name sc.nd (by rfl) (by first | exact .inl rfl | exact .inr rfl) (by decide)) (g_cons (g_name sc.nd (by rfl) (by first | exact .inl rfl | exact .inr rfl) (by decide)) g_nil))))
    (b_one (s_ret (i_make mk_Plan.1 mk_Plan.2.1 mk_Plan.2.2.1 (hr.mono mk_Plan.2.2.2.2) hg (by rfl) mk_Plan.2.2.2.1 (a_cons (i_fz (i_dstar (i_at cl_Plan (i_peek 0)) (i_peek 1) (i_if (t_cmp (op_eqA hu.r64) op2_eq (i_dix2 hu.r1 (i_at cl_Plan (i_peek 0)) (i_peek 1) (by intro _ _; rfl)) (i_peek 2) (by rfl)) (i_var 3) (i_var 2)))) a_nil))))))
/-! ### asked_slots -/
abbrev st_asked_slots : Stmt := top 33
theorem sc_asked_slots : FnScope ["some", "slot"] ["some"] (defScope st_asked_slots) := ⟨rfl, rfl, rfl, by decide +kernel, rfl, by decide +kernel, by decide +kernel⟩
def W_asked_slots (F_slots : WF) (F_broken : WF) (F_Plan_turned : WF) (F_Plan_init : WFI) : WS :=
  (sRet (wLc (wSeqI (wF (wCall F_slots wNil))) (gN 1) (wB (w2 oNe0 (wCall F_broken (wCons (wF (wLst (wCons (wMeth "Plan" F_Plan_turned (wF (wCall (wfI "Plan" "its_values" F_Plan_init) (wCons (wF wDnew) wNil))) (wCons (wV 1) wNil)) wNil))) (wCons (wV 0) wNil))) (wLst wNil))) (wV 1) [1]))
abbrev R_asked_slots (F_slots : WF) (F_broken : WF) (F_Plan_turned : WF) (F_Plan_init : WFI) : WF := wDef 1 1 (W_asked_slots F_slots F_broken F_Plan_turned F_Plan_init)
theorem fn_asked_slots {k : Nat} {f : Addr} {fd : FuncData} (Fu : Fun K "asked_slots" "asked_slots" st_asked_slots f fd) (T : Txt K w mg) {F_slots : WF} {f_slots : Addr} (H_slots : At P w K mg base k "slots" f_slots F_slots) {F_broken : WF} {f_broken : Addr} (H_broken : At P w K mg base k "broken" f_broken F_broken) {F_Plan_turned : WF} {f_Plan_turned : Addr} (H_Plan_turned : AtM P w K mg base k "Plan" "its_values" "turned" f_Plan_turned F_Plan_turned) {F_Plan_init : WFI} (H_Plan_init : AtI P w K mg base k "Plan" "its_values" F_Plan_init) : FnG P w K mg base (k + 1) f (R_asked_slots F_slots F_broken F_Plan_turned F_Plan_init) := by
  obtain ⟨C_Plan_turned, q_Plan_turned, me_Plan_turned⟩ := H_Plan_turned.2
  obtain ⟨Ci_Plan, fi_Plan, pi_Plan, j_Plan, mk_Plan⟩ := H_Plan_init
  refine fnG_of (N := ["some", "slot"]) Fu sc_asked_slots (Fu.binds (ps := ["some"]) fun _ _ _ _ _ _ us hl => match us, hl with | [_], _ => rfl) rfl rfl fun cdv A outer s H G hr hg => ?_
  have sc := sc_asked_slots
  have hu := hr
  show PBI _ G H (defBody st_asked_slots) (W_asked_slots F_slots F_broken F_Plan_turned F_Plan_init)
  unfold W_asked_slots
  exact (b_one (s_ret (i_lc rfl sc.nd (own := [("slot", 1)]) (p_seq (i_fz (i_call0 H_slots.1 hr hg (by rfl) H_slots.2.1 H_slots.2.2))) (blkOk_by (by kernel_rfl)) (fun _ _ _ _ _ => (g_name sc.nd (by rfl) (by first | exact .inl rfl | exact .inr rfl) (by decide))) (fun _ _ _ _ _ => (ts_one (t_cmp (op_ne0 hu.units0) op2_ne0 (i_call H_broken.1 hr hg (by rfl) H_broken.2.1 H_broken.2.2 (a_cons (i_fz (i_lst (a_cons (i_methI me_Plan_turned.1 me_Plan_turned.2 H_Plan_turned.1 hr hg (i_fz (i_make mk_Plan.1 mk_Plan.2.1 mk_Plan.2.2.1 (hr.mono mk_Plan.2.2.2.2) hg (by rfl) mk_Plan.2.2.2.1 (a_cons (i_fz i_dnew) a_nil))) (a_cons (i_var 1) a_nil)) a_nil))) (a_cons (i_var 0) a_nil))) (i_lst a_nil) (by rfl)))) (fun _ _ _ _ _ => (i_var 1)))))
/-! ### _law_has_tags -/
abbrev st__law_has_tags : Stmt := top 46
theorem sc__law_has_tags : FnScope ["_law_some"] ["_law_some"] (defScope st__law_has_tags) := ⟨rfl, rfl, rfl, by decide +kernel, rfl, by decide +kernel, by decide +kernel⟩
def W__law_has_tags : WS :=
  (sRet (wAndT (w2 (oIn false) (wC (.str "case")) (wP 0)) (w2 (oIn false) (wC (.str "tag")) (wP 0))))
abbrev R__law_has_tags : WF := wDef 1 0 (W__law_has_tags)
theorem fn__law_has_tags {k : Nat} {f : Addr} {fd : FuncData} (Fu : Fun K "_law_has_tags" "_law_has_tags" st__law_has_tags f fd) (T : Txt K w mg) : FnG P w K mg base (k + 1) f (R__law_has_tags) := by
  refine fnG_of (N := ["_law_some"]) Fu sc__law_has_tags (Fu.binds (ps := ["_law_some"]) fun _ _ _ _ _ _ us hl => match us, hl with | [_], _ => rfl) rfl rfl fun cdv A outer s H G hr hg => ?_
  have sc := sc__law_has_tags
  have hu := hr
  show PBI _ G H (defBody st__law_has_tags) (W__law_has_tags)
  unfold W__law_has_tags
  exact (b_one (s_ret (i_andT (i_cmp (op_inB hu.room) op2_in i_str (i_peek 0) (by rfl)) (i_one (i_cmp (op_inB hu.room) op2_in i_str (i_peek 0) (by rfl))))))
/-! ### _law_has_fields -/
abbrev st__law_has_fields : Stmt := top 45
theorem sc__law_has_fields : FnScope ["_law_some"] ["_law_some"] (defScope st__law_has_fields) := ⟨rfl, rfl, rfl, by decide +kernel, rfl, by decide +kernel, by decide +kernel⟩
def W__law_has_fields : WS :=
  (sRet (wAndT (w2 (oIn false) (wC (.str "look")) (wP 0)) (wOrT (w2 (oIn false) (wC (.str "make")) (wP 0)) (w2 (oIn false) (wC (.str "add")) (wP 0)))))
abbrev R__law_has_fields : WF := wDef 1 0 (W__law_has_fields)
theorem fn__law_has_fields {k : Nat} {f : Addr} {fd : FuncData} (Fu : Fun K "_law_has_fields" "_law_has_fields" st__law_has_fields f fd) (T : Txt K w mg) : FnG P w K mg base (k + 1) f (R__law_has_fields) := by
  refine fnG_of (N := ["_law_some"]) Fu sc__law_has_fields (Fu.binds (ps := ["_law_some"]) fun _ _ _ _ _ _ us hl => match us, hl with | [_], _ => rfl) rfl rfl fun cdv A outer s H G hr hg => ?_
  have sc := sc__law_has_fields
  have hu := hr
  show PBI _ G H (defBody st__law_has_fields) (W__law_has_fields)
  unfold W__law_has_fields
  exact (b_one (s_ret (i_andT (i_cmp (op_inB hu.room) op2_in i_str (i_peek 0) (by rfl)) (i_one (i_orT (i_cmp (op_inB hu.room) op2_in i_str (i_peek 0) (by rfl)) (i_one (i_cmp (op_inB hu.room) op2_in i_str (i_peek 0) (by rfl))))))))
/-! ### _law_is_open -/
abbrev st__law_is_open : Stmt := top 47
theorem sc__law_is_open : FnScope ["_law_some"] ["_law_some"] (defScope st__law_is_open) := ⟨rfl, rfl, rfl, by decide +kernel, rfl, by decide +kernel, by decide +kernel⟩
def W__law_is_open (F__law_has_tags : WF) (F__law_has_fields : WF) : WS :=
  (sRet (wAndT (w2 (oIn false) (wC (.str "let")) (wP 0)) (wF (wOrT (wF (wCall F__law_has_fields (wCons (wV 0) wNil))) (wF (wCall F__law_has_tags (wCons (wV 0) wNil)))))))
abbrev R__law_is_open (F__law_has_tags : WF) (F__law_has_fields : WF) : WF := wDef 1 0 (W__law_is_open F__law_has_tags F__law_has_fields)
theorem fn__law_is_open {k : Nat} {f : Addr} {fd : FuncData} (Fu : Fun K "_law_is_open" "_law_is_open" st__law_is_open f fd) (T : Txt K w mg) {F__law_has_tags : WF} {f__law_has_tags : Addr} (H__law_has_tags : At P w K mg base k "_law_has_tags" f__law_has_tags F__law_has_tags) {F__law_has_fields : WF} {f__law_has_fields : Addr} (H__law_has_fields : At P w K mg base k "_law_has_fields" f__law_has_fields F__law_has_fields) : FnG P w K mg base (k + 1) f (R__law_is_open F__law_has_tags F__law_has_fields) := by
  refine fnG_of (N := ["_law_some"]) Fu sc__law_is_open (Fu.binds (ps := ["_law_some"]) fun _ _ _ _ _ _ us hl => match us, hl with | [_], _ => rfl) rfl rfl fun cdv A outer s H G hr hg => ?_
  have sc := sc__law_is_open
  have hu := hr
  show PBI _ G H (defBody st__law_is_open) (W__law_is_open F__law_has_tags F__law_has_fields)
  unfold W__law_is_open
  exact (b_one (s_ret (i_andT (i_cmp (op_inB hu.room) op2_in i_str (i_peek 0) (by rfl)) (i_one (i_fz (i_orT (i_fz (i_call H__law_has_fields.1 hr hg (by rfl) H__law_has_fields.2.1 H__law_has_fields.2.2 (a_cons (i_var 0) a_nil))) (i_one (i_fz (i_call H__law_has_tags.1 hr hg (by rfl) H__law_has_tags.2.1 H__law_has_tags.2.2 (a_cons (i_var 0) a_nil))))))))))
/-! ### _law_asked -/
abbrev st__law_asked : Stmt := top 48
theorem sc__law_asked : FnScope ["_law_some", "_law_many", "_law_fields", "_law_tags", "_law_wide", "_law_table", "_law_deed", "_law_rule", "_law_found", "_law_is_asked", "_law_index", "_law_rows"] ["_law_some", "_law_many"] (defScope st__law_asked) := ⟨rfl, rfl, rfl, by decide +kernel, rfl, by decide +kernel, by decide +kernel⟩
def W__law_asked_t0 (F__law_is_open : WF) (F__law_has_tags : WF) (F__law_has_fields : WF) : WS :=
  (sSeq (sIf (wB (w2 oGt (wP 1) (wC (.int 1)))) (sSeq (sSet 11 (wLst (wCons (wTup (wCons (wC (.str "linklook")) (wCons (wV 2) wNil))) (wCons (wTup (wCons (wC (.str "linkcase")) (wCons (wV 3) wNil))) (wCons (wTup (wCons (wC (.str "linkfields")) (wCons (wAndT (wV 4) (wV 2)) wNil))) (wCons (wTup (wCons (wC (.str "linkbase")) (wCons (wV 4) wNil))) wNil))))))
    (sSet 8 (w2 oAdd (wP 8) (wLc (wSeqI (wV 11)) (gTp 2 (gCs (gN 7) (gCs (gN 9) gNl))) (wTr (wP 9)) (wTup (wCons (wV 7) (wCons (w1 oNeg (wC (.int 1))) wNil))) [7, 9])))) sSkip)
    (sRet (wN oSorted (wCons (wP 8) wNil))))
def W__law_asked_t1 (F__law_is_open : WF) (F__law_has_tags : WF) (F__law_has_fields : WF) : WS :=
  (sSeq (sFor (wSeqI (wTup (wCons (wC (.str "linkmany")) (wCons (wC (.str "linkseq")) wNil)))) (gN 7)
    (sSet 8 (w2 oAdd (wP 8) (wLc (wRng1 (wCons (w2 oMulA (w2 oSub (wP 1) (wC (.int 1))) (wN oIntC (wCons (wP 4) wNil))) wNil)) (gN 10) tYes' (wTup (wCons (wV 7) (wCons (wV 10) wNil))) [10]))))
    (W__law_asked_t0 F__law_is_open F__law_has_tags F__law_has_fields))
def W__law_asked_t2 (F__law_is_open : WF) (F__law_has_tags : WF) (F__law_has_fields : WF) : WS :=
  (sSeq (sSet 5 (w2 oAdd (wP 5) (wLst (wCons (wTup (wCons (wC (.str "fields")) (wCons (wAndT (wV 4) (wV 2)) wNil))) (wCons (wTup (wCons (wC (.str "tags")) (wCons (wAndT (wV 4) (wV 3)) wNil))) (wCons (wTup (wCons (wC (.str "rec")) (wCons (wAndT (wV 4) (w2 (oIn false) (wC (.str "rec")) (wP 0))) wNil))) wNil))))))
    (sSeq (sSet 5 (w2 oAdd (wP 5) (wLc (wSeqI (wTup (wCons (wC (.str "base")) (wCons (wC (.str "hand")) (wCons (wC (.str "keep")) (wCons (wC (.str "known")) (wCons (wC (.str "many")) (wCons (wC (.str "on")) (wCons (wC (.str "seq")) wNil))))))))) (gN 7) tYes' (wTup (wCons (wV 7) (wCons (wV 4) wNil))) [7])))
    (sSeq (sSet 8 (wLst wNil))
    (sSeq (sFor (wSeqI (wV 5)) (gTp 2 (gCs (gN 7) (gCs (gN 9) gNl)))
    (sSet 8 (w2 oAdd (wP 8) (wLc (wRng1 (wCons (w2 oMulA (wP 1) (wN oIntC (wCons (wP 9) wNil))) wNil)) (gN 10) tYes' (wTup (wCons (wV 7) (wCons (wV 10) wNil))) [10]))))
    (W__law_asked_t1 F__law_is_open F__law_has_tags F__law_has_fields)))))
def W__law_asked (F__law_is_open : WF) (F__law_has_tags : WF) (F__law_has_fields : WF) : WS :=
  (sSeq (sUnp (gTp 3 (gCs (gN 2) (gCs (gN 3) (gCs (gN 4) gNl)))) (wTup (wCons (wF (wCall F__law_has_fields (wCons (wV 0) wNil))) (wCons (wF (wCall F__law_has_tags (wCons (wV 0) wNil))) (wCons (wF (wCall F__law_is_open (wCons (wV 0) wNil))) wNil)))))
    (sSeq (sSet 5 (wLst (wCons (wTup (wCons (wC (.str "make")) (wCons (wAndT (wV 2) (w2 (oIn false) (wC (.str "make")) (wP 0))) wNil))) (wCons (wTup (wCons (wC (.str "tag")) (wCons (wV 3) wNil))) (wCons (wTup (wCons (wC (.str "widen")) (wCons (wAndT (wV 3) (w2 (oIn false) (wC (.str "widen")) (wP 0))) wNil))) wNil)))))
    (sSeq (sFor (wSeqI (wTup (wCons (wC (.str "add")) (wCons (wC (.str "drop")) (wCons (wC (.str "put")) wNil))))) (gN 6)
    (sSet 5 (w2 oAdd (wP 5) (wLst (wCons (wTup (wCons (wF (w2 oAdd (wP 6) (wC (.str "in")))) (wCons (wAndT (wV 2) (w2 (oIn false) (wP 6) (wP 0))) wNil))) (wCons (wTup (wCons (wF (w2 oAdd (wP 6) (wC (.str "out")))) (wCons (wAndT (wV 2) (w2 (oIn false) (wP 6) (wP 0))) wNil))) wNil))))))
    (W__law_asked_t2 F__law_is_open F__law_has_tags F__law_has_fields))))
abbrev R__law_asked (F__law_is_open : WF) (F__law_has_tags : WF) (F__law_has_fields : WF) : WF := wDef 2 10 (W__law_asked F__law_is_open F__law_has_tags F__law_has_fields)
theorem fn__law_asked {k : Nat} {f : Addr} {fd : FuncData} (Fu : Fun K "_law_asked" "_law_asked" st__law_asked f fd) (T : Txt K w mg) {F__law_is_open : WF} {f__law_is_open : Addr} (H__law_is_open : At P w K mg base k "_law_is_open" f__law_is_open F__law_is_open) {F__law_has_tags : WF} {f__law_has_tags : Addr} (H__law_has_tags : At P w K mg base k "_law_has_tags" f__law_has_tags F__law_has_tags) {F__law_has_fields : WF} {f__law_has_fields : Addr} (H__law_has_fields : At P w K mg base k "_law_has_fields" f__law_has_fields F__law_has_fields) : FnG P w K mg base (k + 1) f (R__law_asked F__law_is_open F__law_has_tags F__law_has_fields) := by
  refine fnG_of (N := ["_law_some", "_law_many", "_law_fields", "_law_tags", "_law_wide", "_law_table", "_law_deed", "_law_rule", "_law_found", "_law_is_asked", "_law_index", "_law_rows"]) Fu sc__law_asked (Fu.binds (ps := ["_law_some", "_law_many"]) fun _ _ _ _ _ _ us hl => match us, hl with | [_, _], _ => rfl) rfl rfl fun cdv A outer s H G hr hg => ?_
  have sc := sc__law_asked
  have hu := hr
  show PBI _ G H (defBody st__law_asked) (W__law_asked F__law_is_open F__law_has_tags F__law_has_fields)
  unfold W__law_asked
  exact (b_cons (s_unp (vs := [2, 3, 4]) (i_tup (a_cons (i_fz (i_call H__law_has_fields.1 hr hg (by rfl) H__law_has_fields.2.1 H__law_has_fields.2.2 (a_cons (i_var 0) a_nil))) (a_cons (i_fz (i_call H__law_has_tags.1 hr hg (by rfl) H__law_has_tags.2.1 H__law_has_tags.2.2 (a_cons (i_var 0) a_nil))) (a_cons (i_fz (i_call H__law_is_open.1 hr hg (by rfl) H__law_is_open.2.1 H__law_is_open.2.2 (a_cons (i_var 0) a_nil))) a_nil)))) (g_tup rfl (g_cons (g_name sc.nd (by rfl) (by first | exact .inl rfl | exact .inr rfl) (by decide)) (g_cons (g_name sc.nd (by rfl) (by first | exact .inl rfl | exact .inr rfl) (by decide)) (g_cons (g_name sc.nd (by rfl) (by first | exact .inl rfl | exact .inr rfl) (by decide)) g_nil)))))
    (b_cons (s_set sc.nd (by rfl) (by first | exact .inl rfl | exact .inr rfl) (i_lst (a_cons (i_tup (a_cons i_str (a_cons (i_andT (i_var 2) (i_one (i_cmp (op_inB hu.room) op2_in i_str (i_peek 0) (by rfl)))) a_nil))) (a_cons (i_tup (a_cons i_str (a_cons (i_var 3) a_nil))) (a_cons (i_tup (a_cons i_str (a_cons (i_andT (i_var 3) (i_one (i_cmp (op_inB hu.room) op2_in i_str (i_peek 0) (by rfl)))) a_nil))) a_nil)))))
    (b_cons (s_for (vs := [6]) PassesOwn.never rfl (p_seq (i_tup (a_cons i_str (a_cons i_str (a_cons i_str a_nil))))) (g_name sc.nd (by rfl) (by first | exact .inl rfl | exact .inr rfl) (by decide))
    (b_one (s_set sc.nd (by rfl) (by first | exact .inl rfl | exact .inr rfl) (i_op op_addA op2_add (i_peek 5) (i_lst (a_cons (i_tup (a_cons (i_fz (i_op op_addA op2_add (i_peek 6) i_str)) (a_cons (i_andT (i_var 2) (i_one (i_cmp (op_inB hu.room) op2_in (i_peek 6) (i_peek 0) (by rfl)))) a_nil))) (a_cons (i_tup (a_cons (i_fz (i_op op_addA op2_add (i_peek 6) i_str)) (a_cons (i_andT (i_var 2) (i_one (i_cmp (op_inB hu.room) op2_in (i_peek 6) (i_peek 0) (by rfl)))) a_nil))) a_nil)))))))
    (b_cons (s_set sc.nd (by rfl) (by first | exact .inl rfl | exact .inr rfl) (i_op op_addA op2_add (i_peek 5) (i_lst (a_cons (i_tup (a_cons i_str (a_cons (i_andT (i_var 4) (i_one (i_var 2))) a_nil))) (a_cons (i_tup (a_cons i_str (a_cons (i_andT (i_var 4) (i_one (i_var 3))) a_nil))) (a_cons (i_tup (a_cons i_str (a_cons (i_andT (i_var 4) (i_one (i_cmp (op_inB hu.room) op2_in i_str (i_peek 0) (by rfl)))) a_nil))) a_nil))))))
    (b_cons (s_set sc.nd (by rfl) (by first | exact .inl rfl | exact .inr rfl) (i_op op_addA op2_add (i_peek 5) (i_lc rfl sc.nd (own := [("_law_rule", 7)]) (p_seq (i_tup (a_cons i_str (a_cons i_str (a_cons i_str (a_cons i_str (a_cons i_str (a_cons i_str (a_cons i_str a_nil))))))))) (blkOk_by (by kernel_rfl)) (fun _ _ _ _ _ => (g_name sc.nd (by rfl) (by first | exact .inl rfl | exact .inr rfl) (by decide))) (fun _ _ _ _ _ => ts_nil) (fun _ _ _ _ _ => (i_tup (a_cons (i_var 7) (a_cons (i_var 4) a_nil)))))))
    (b_cons (s_set sc.nd (by rfl) (by first | exact .inl rfl | exact .inr rfl) (i_lst a_nil))
    (b_cons (s_for (vs := [7, 9]) PassesOwn.never rfl (p_seq (i_var 5)) (g_tup rfl (g_cons (g_name sc.nd (by rfl) (by first | exact .inl rfl | exact .inr rfl) (by decide)) (g_cons (g_name sc.nd (by rfl) (by first | exact .inl rfl | exact .inr rfl) (by decide)) g_nil)))
    (b_one (s_set sc.nd (by rfl) (by first | exact .inl rfl | exact .inr rfl) (i_op op_addA op2_add (i_peek 8) (i_lc rfl sc.nd (own := [("_law_index", 10)]) (p_rng1 (by rfl) T.n_range (a_cons (i_op op_mulA op2_mulA (i_peek 1) (i_callT call_int1 opn_int (by rfl) T.n_int Boot.«int» (a_cons (i_peek 9) a_nil))) a_nil)) (blkOk_by (by kernel_rfl)) (fun _ _ _ _ _ => (g_name sc.nd (by rfl) (by first | exact .inl rfl | exact .inr rfl) (by decide))) (fun _ _ _ _ _ => ts_nil) (fun _ _ _ _ _ => (i_tup (a_cons (i_var 7) (a_cons (i_var 10) a_nil)))))))))
    (b_cons (s_for (vs := [7]) PassesOwn.never rfl (p_seq (i_tup (a_cons i_str (a_cons i_str a_nil)))) (g_name sc.nd (by rfl) (by first | exact .inl rfl | exact .inr rfl) (by decide))
    (b_one (s_set sc.nd (by rfl) (by first | exact .inl rfl | exact .inr rfl) (i_op op_addA op2_add (i_peek 8) (i_lc rfl sc.nd (own := [("_law_index", 10)]) (p_rng1 (by rfl) T.n_range (a_cons (i_op op_mulA op2_mulA (i_op op_sub op2_sub (i_peek 1) i_int) (i_callT call_int1 opn_int (by rfl) T.n_int Boot.«int» (a_cons (i_peek 4) a_nil))) a_nil)) (blkOk_by (by kernel_rfl)) (fun _ _ _ _ _ => (g_name sc.nd (by rfl) (by first | exact .inl rfl | exact .inr rfl) (by decide))) (fun _ _ _ _ _ => ts_nil) (fun _ _ _ _ _ => (i_tup (a_cons (i_var 7) (a_cons (i_var 10) a_nil)))))))))
    (b_cons (s_if (t_cmp op_gtA op2_gt (i_peek 1) i_int (by rfl)) (b_cons (s_set sc.nd (by rfl) (by first | exact .inl rfl | exact .inr rfl) (i_lst (a_cons (i_tup (a_cons i_str (a_cons (i_var 2) a_nil))) (a_cons (i_tup (a_cons i_str (a_cons (i_var 3) a_nil))) (a_cons (i_tup (a_cons i_str (a_cons (i_andT (i_var 4) (i_one (i_var 2))) a_nil))) (a_cons (i_tup (a_cons i_str (a_cons (i_var 4) a_nil))) a_nil))))))
    (b_one (s_set sc.nd (by rfl) (by first | exact .inl rfl | exact .inr rfl) (i_op op_addA op2_add (i_peek 8) (i_lc rfl sc.nd (own := [("_law_rule", 7), ("_law_is_asked", 9)]) (p_seq (i_var 11)) (blkOk_by (by kernel_rfl)) (fun _ _ _ _ _ => (g_tup rfl (g_cons (g_name sc.nd (by rfl) (by first | exact .inl rfl | exact .inr rfl) (by decide)) (g_cons (g_name sc.nd (by rfl) (by first | exact .inl rfl | exact .inr rfl) (by decide)) g_nil)))) (fun _ _ _ _ _ => (ts_one (t_tru (i_peek 9)))) (fun _ _ _ _ _ => (i_tup (a_cons (i_var 7) (a_cons (i_un un_neg op1_neg i_int) a_nil))))))))) b_nil)
    (b_one (s_ret (i_callB (cr_sortedD hu.r70) opn_sorted (by rfl) T.n_sorted Boot.«sorted» (a_cons (i_peek 8) a_nil)))))))))))))
/-! ### _law_holds -/
abbrev st__law_holds : Stmt := top 49
theorem sc__law_holds : FnScope ["_law_plans_here", "_law_rule", "_law_index", "_law_links", "_law_plan_here", "_law_pairs", "_law_dues"] ["_law_plans_here", "_law_rule", "_law_index"] (defScope st__law_holds) := ⟨rfl, rfl, rfl, by decide +kernel, rfl, by decide +kernel, by decide +kernel⟩
def W__law_holds_t0 : WS :=
  (sRet (wIf (wB (w2 oEq (wP 1) (wC (.str "linkseq")))) (w2 oEq (w2 oDIx (wP 4) (wC (.str "defseq"))) (wC (.str "kind"))) (w2 oEq (w2 oDIx (wP 4) (wC (.str "defmany"))) (wC (.str "once")))))
def W__law_holds_t1 : WS :=
  (sSeq (sSet 6 (wDct [(.inr "known"), (.inr "on"), (.inr "hand"), (.inr "keep"), (.inr "rec")] (wCons (wC (.str "yes")) (wCons (wC (.str "yes")) (wCons (wC (.str "use")) (wCons (wC (.str "kept")) (wCons (wC (.str "applied")) wNil)))))))
    (sSeq (sIf (wB (w2 (oDIn false) (wP 1) (wP 6))) (sRet (w2 oEq (w2 oDIx (wP 4) (wP 1)) (w2 oDIx (wP 6) (wP 1)))) sSkip)
    (W__law_holds_t0)))
def W__law_holds_t2 : WS :=
  (sSeq (sSet 5 (wDct [(.inr "base"), (.inr "seq"), (.inr "many")] (wCons (wTup (wCons (wC (.str "handbase")) (wCons (wC (.str "deedbase")) wNil))) (wCons (wTup (wCons (wC (.str "defseq")) (wCons (wC (.str "useseq")) wNil))) (wCons (wTup (wCons (wC (.str "defmany")) (wCons (wC (.str "usemany")) wNil))) wNil)))))
    (sSeq (sIf (wB (w2 (oDIn false) (wP 1) (wP 5))) (sRet (w2 oEq (w2 oDIx (wP 4) (w2 oIx (w2 oDIx (wP 5) (wP 1)) (wC (.int 0)))) (w2 oDIx (wP 4) (w2 oIx (w2 oDIx (wP 5) (wP 1)) (wC (.int 1)))))) sSkip)
    (W__law_holds_t1)))
def W__law_holds_t3 : WS :=
  (sSeq (sIf (wB (w2 oEq (wP 1) (wC (.str "tags")))) (sRet (w2 oEq (w2 oEq (w2 oDIx (wP 4) (wC (.str "tags"))) (wC (.str "less"))) (w2 oEq (w2 oDIx (wP 4) (wC (.str "case"))) (wC (.str "up"))))) sSkip)
    (W__law_holds_t2))
def W__law_holds_t4 : WS :=
  (sSeq (sIf (wB (w2 oEq (wP 1) (wC (.str "fields")))) (sRet (w2 (oIn false) (wM isLs oCntB (wLst (wCons (w2 oEq (w2 oDIx (wP 4) (wC (.str "fields"))) (wC (.str "less"))) (wCons (w2 oEq (w2 oDIx (wP 4) (wC (.str "look"))) (wC (.str "up"))) (wCons (w2 oEq (w2 oDIx (wP 4) (wC (.str "from"))) (wC (.str "begin"))) wNil)))) (wCons (wC (.bl true)) wNil)) (wTup (wCons (wC (.int 1)) (wCons (wC (.int 3)) wNil))))) sSkip)
    (W__law_holds_t3))
def W__law_holds_t5 : WS :=
  (sSeq (sIf (wB (w2 (oIn false) (wP 1) (wTup (wCons (wC (.str "tag")) (wCons (wC (.str "widen")) wNil))))) (sRet (w2 oEq (w2 oDIx (wP 4) (wP 1)) (w2 oDIx (wP 4) (wC (.str "case"))))) sSkip)
    (W__law_holds_t4))
def W__law_holds_t6 : WS :=
  (sSeq (sSet 4 (w2 oIx (wP 0) (wP 2)))
    (sSeq (sIf (wB (w2 (oIn false) (wP 1) (wTup (wCons (wC (.str "make")) (wCons (wC (.str "addin")) (wCons (wC (.str "addout")) (wCons (wC (.str "dropin")) (wCons (wC (.str "dropout")) (wCons (wC (.str "putin")) (wCons (wC (.str "putout")) wNil)))))))))) (sRet (w2 oEq (w2 oDIx (wP 4) (wP 1)) (w2 oDIx (wP 4) (wC (.str "look"))))) sSkip)
    (W__law_holds_t5)))
def W__law_holds : WS :=
  (sSeq (sSet 3 (wDct [(.inr "linklook"), (.inr "linkcase"), (.inr "linkfields"), (.inr "linkbase")] (wCons (wC (.str "look")) (wCons (wC (.str "case")) (wCons (wC (.str "fields")) (wCons (wC (.str "handbase")) wNil))))))
    (sSeq (sIf (wB (w2 (oDIn false) (wP 1) (wP 3))) (sRet (w2 oEq (wN oLen (wCons (wSortSetS (wLc (wSeqI (wV 0)) (gN 4) tYes' (w2 oDIx (wP 4) (w2 oDIx (wP 3) (wP 1))) [4])) wNil)) (wC (.int 1)))) sSkip)
    (W__law_holds_t6)))
abbrev R__law_holds : WF := wDef 3 4 (W__law_holds)
theorem fn__law_holds {k : Nat} {f : Addr} {fd : FuncData} (Fu : Fun K "_law_holds" "_law_holds" st__law_holds f fd) (T : Txt K w mg) : FnG P w K mg base (k + 1) f (R__law_holds) := by
  refine fnG_of (N := ["_law_plans_here", "_law_rule", "_law_index", "_law_links", "_law_plan_here", "_law_pairs", "_law_dues"]) Fu sc__law_holds (Fu.binds (ps := ["_law_plans_here", "_law_rule", "_law_index"]) fun _ _ _ _ _ _ us hl => match us, hl with | [_, _, _], _ => rfl) rfl rfl fun cdv A outer s H G hr hg => ?_
  have sc := sc__law_holds
  have hu := hr
  show PBI _ G H (defBody st__law_holds) (W__law_holds)
  unfold W__law_holds
  exact (b_cons (s_set sc.nd (by rfl) (by first | exact .inl rfl | exact .inr rfl) (i_dct (ppi_cons pe_str i_str (ppi_cons pe_str i_str (ppi_cons pe_str i_str (ppi_cons pe_str i_str ppi_nil)))) (by decide)))
    (b_cons (s_if (t_cmp (op_din hu.r1) op2_din (i_peek 1) (i_peek 3) (by rfl)) (b_one (s_ret (i_cmp (op_eqA hu.r64) op2_eq (i_callB call_len opn_len (by rfl) T.n_len Boot.«len» (a_cons (i_sortSetS rfl hu.r2 (by rfl) T.n_sorted (by rfl) T.n_set (i_lc rfl sc.nd (own := [("_law_plan_here", 4)]) (p_seq (i_var 0)) (blkOk_by (by kernel_rfl)) (fun _ _ _ _ _ => (g_name sc.nd (by rfl) (by first | exact .inl rfl | exact .inr rfl) (by decide))) (fun _ _ _ _ _ => ts_nil) (fun _ _ _ _ _ => (i_dix2 hu.r1 (i_peek 4) (i_dix2 hu.r1 (i_peek 3) (i_peek 1) (by intro _ _; rfl)) (by intro _ _; rfl))))) a_nil)) i_int (by rfl)))) b_nil)
    (b_cons (s_set sc.nd (by rfl) (by first | exact .inl rfl | exact .inr rfl) (i_ix ix_seq op2_ix (i_peek 0) (i_peek 2) (by intro _ _; rfl)))
    (b_cons (s_if (t_cmp (op_inB hu.room) op2_in (i_peek 1) (i_tup (a_cons i_str (a_cons i_str (a_cons i_str (a_cons i_str (a_cons i_str (a_cons i_str (a_cons i_str a_nil)))))))) (by rfl)) (b_one (s_ret (i_cmp (op_eqA hu.r64) op2_eq (i_dix2 hu.r1 (i_peek 4) (i_peek 1) (by intro _ _; rfl)) (i_dix2 hu.r1 (i_peek 4) i_str (by intro _ _; rfl)) (by rfl)))) b_nil)
    (b_cons (s_if (t_cmp (op_inB hu.room) op2_in (i_peek 1) (i_tup (a_cons i_str (a_cons i_str a_nil))) (by rfl)) (b_one (s_ret (i_cmp (op_eqA hu.r64) op2_eq (i_dix2 hu.r1 (i_peek 4) (i_peek 1) (by intro _ _; rfl)) (i_dix2 hu.r1 (i_peek 4) i_str (by intro _ _; rfl)) (by rfl)))) b_nil)
    (b_cons (s_if (t_cmp (op_eqA hu.r64) op2_eq (i_peek 1) i_str (by rfl)) (b_one (s_ret (i_cmp (op_inB hu.room) op2_in (i_meth (T := "count") (id := "list.count") (pe := fun ho ha => pe_bm F.plainAttrs_list F.slot_list_count F.type_list_count mt_bcount ho ha) ls_ty opm_cntb (i_lst (a_cons (i_cmp (op_eqA hu.r64) op2_eq (i_dix2 hu.r1 (i_peek 4) i_str (by intro _ _; rfl)) i_str (by rfl)) (a_cons (i_cmp (op_eqA hu.r64) op2_eq (i_dix2 hu.r1 (i_peek 4) i_str (by intro _ _; rfl)) i_str (by rfl)) (a_cons (i_cmp (op_eqA hu.r64) op2_eq (i_dix2 hu.r1 (i_peek 4) i_str (by intro _ _; rfl)) i_str (by rfl)) a_nil)))) (a_cons i_bl a_nil)) (i_tup (a_cons i_int (a_cons i_int a_nil))) (by rfl)))) b_nil)
    (b_cons (s_if (t_cmp (op_eqA hu.r64) op2_eq (i_peek 1) i_str (by rfl)) (b_one (s_ret (i_cmp (op_eqA hu.r64) op2_eq (i_cmp (op_eqA hu.r64) op2_eq (i_dix2 hu.r1 (i_peek 4) i_str (by intro _ _; rfl)) i_str (by rfl)) (i_cmp (op_eqA hu.r64) op2_eq (i_dix2 hu.r1 (i_peek 4) i_str (by intro _ _; rfl)) i_str (by rfl)) (by rfl)))) b_nil)
    (b_cons (s_set sc.nd (by rfl) (by first | exact .inl rfl | exact .inr rfl) (i_dct (ppi_cons pe_str (i_tup (a_cons i_str (a_cons i_str a_nil))) (ppi_cons pe_str (i_tup (a_cons i_str (a_cons i_str a_nil))) (ppi_cons pe_str (i_tup (a_cons i_str (a_cons i_str a_nil))) ppi_nil))) (by decide)))
    (b_cons (s_if (t_cmp (op_din hu.r1) op2_din (i_peek 1) (i_peek 5) (by rfl)) (b_one (s_ret (i_cmp (op_eqA hu.r64) op2_eq (i_dix2 hu.r1 (i_peek 4) (i_ix ix_seq op2_ix (i_dix2 hu.r1 (i_peek 5) (i_peek 1) (by intro _ _; rfl)) i_int (by intro _ _; rfl)) (by intro _ _; rfl)) (i_dix2 hu.r1 (i_peek 4) (i_ix ix_seq op2_ix (i_dix2 hu.r1 (i_peek 5) (i_peek 1) (by intro _ _; rfl)) i_int (by intro _ _; rfl)) (by intro _ _; rfl)) (by rfl)))) b_nil)
    (b_cons (s_set sc.nd (by rfl) (by first | exact .inl rfl | exact .inr rfl) (i_dct (ppi_cons pe_str i_str (ppi_cons pe_str i_str (ppi_cons pe_str i_str (ppi_cons pe_str i_str (ppi_cons pe_str i_str ppi_nil))))) (by decide)))
    (b_cons (s_if (t_cmp (op_din hu.r1) op2_din (i_peek 1) (i_peek 6) (by rfl)) (b_one (s_ret (i_cmp (op_eqA hu.r64) op2_eq (i_dix2 hu.r1 (i_peek 4) (i_peek 1) (by intro _ _; rfl)) (i_dix2 hu.r1 (i_peek 6) (i_peek 1) (by intro _ _; rfl)) (by rfl)))) b_nil)
    (b_one (s_ret (i_if (t_cmp (op_eqA hu.r64) op2_eq (i_peek 1) i_str (by rfl)) (i_cmp (op_eqA hu.r64) op2_eq (i_dix2 hu.r1 (i_peek 4) i_str (by intro _ _; rfl)) i_str (by rfl)) (i_cmp (op_eqA hu.r64) op2_eq (i_dix2 hu.r1 (i_peek 4) i_str (by intro _ _; rfl)) i_str (by rfl))))))))))))))))
/-! ### _law_broken -/
abbrev st__law_broken : Stmt := top 50
theorem sc__law_broken : FnScope ["_law_plans_here", "_law_some", "_law_one_here"] ["_law_plans_here", "_law_some"] (defScope st__law_broken) := ⟨rfl, rfl, rfl, by decide +kernel, rfl, by decide +kernel, by decide +kernel⟩
def W__law_broken (F__law_asked : WF) (F__law_holds : WF) : WS :=
  (sRet (wLc (wSeqI (wF (wCall F__law_asked (wCons (wV 1) (wCons (wN oLen (wCons (wP 0) wNil)) wNil))))) (gN 2) (tNot' (wTr (wCall F__law_holds (wCons (wV 0) (wCons (w2 oIx (wP 2) (wC (.int 0))) (wCons (w2 oIx (wP 2) (wC (.int 1))) wNil)))))) (wV 2) [2]))
abbrev R__law_broken (F__law_asked : WF) (F__law_holds : WF) : WF := wDef 2 1 (W__law_broken F__law_asked F__law_holds)
theorem fn__law_broken {k : Nat} {f : Addr} {fd : FuncData} (Fu : Fun K "_law_broken" "_law_broken" st__law_broken f fd) (T : Txt K w mg) {F__law_asked : WF} {f__law_asked : Addr} (H__law_asked : At P w K mg base k "_law_asked" f__law_asked F__law_asked) {F__law_holds : WF} {f__law_holds : Addr} (H__law_holds : At P w K mg base k "_law_holds" f__law_holds F__law_holds) : FnG P w K mg base (k + 1) f (R__law_broken F__law_asked F__law_holds) := by
  refine fnG_of (N := ["_law_plans_here", "_law_some", "_law_one_here"]) Fu sc__law_broken (Fu.binds (ps := ["_law_plans_here", "_law_some"]) fun _ _ _ _ _ _ us hl => match us, hl with | [_, _], _ => rfl) rfl rfl fun cdv A outer s H G hr hg => ?_
  have sc := sc__law_broken
  have hu := hr
  show PBI _ G H (defBody st__law_broken) (W__law_broken F__law_asked F__law_holds)
  unfold W__law_broken
  exact (b_one (s_ret (i_lc rfl sc.nd (own := [("_law_one_here", 2)]) (p_seq (i_fz (i_call H__law_asked.1 hr hg (by rfl) H__law_asked.2.1 H__law_asked.2.2 (a_cons (i_var 1) (a_cons (i_callB call_len opn_len (by rfl) T.n_len Boot.«len» (a_cons (i_peek 0) a_nil)) a_nil))))) (blkOk_by (by kernel_rfl)) (fun _ _ _ _ _ => (g_name sc.nd (by rfl) (by first | exact .inl rfl | exact .inr rfl) (by decide))) (fun _ _ _ _ _ => (ts_one (t_not (t_tru (i_call H__law_holds.1 hr hg (by rfl) H__law_holds.2.1 H__law_holds.2.2 (a_cons (i_var 0) (a_cons (i_ix ix_seq op2_ix (i_peek 2) i_int (by intro _ _; rfl)) (a_cons (i_ix ix_seq op2_ix (i_peek 2) i_int (by intro _ _; rfl)) a_nil)))))))) (fun _ _ _ _ _ => (i_var 2)))))
/-! ### _law_asked_slots -/
abbrev st__law_asked_slots : Stmt := top 52
theorem sc__law_asked_slots : FnScope ["_law_some", "_law_slot"] ["_law_some"] (defScope st__law_asked_slots) := ⟨rfl, rfl, rfl, by decide +kernel, rfl, by decide +kernel, by decide +kernel⟩
def W__law_asked_slots (F__law_slots : WF) (F__law_broken : WF) (F__law_turned : WF) (F__law_standard : WF) : WS :=
  (sRet (wLc (wSeqI (wF (wSortD (wCall F__law_slots wNil)))) (gN 1) (wB (w2 oNe0 (wCall F__law_broken (wCons (wF (wLst (wCons (wF (wCall F__law_turned (wCons (wF (wCall F__law_standard wNil)) (wCons (wF (wLst (wCons (wV 1) wNil))) wNil)))) wNil))) (wCons (wV 0) wNil))) (wLst wNil))) (wV 1) [1]))
abbrev R__law_asked_slots (F__law_slots : WF) (F__law_broken : WF) (F__law_turned : WF) (F__law_standard : WF) : WF := wDef 1 1 (W__law_asked_slots F__law_slots F__law_broken F__law_turned F__law_standard)
theorem fn__law_asked_slots {k : Nat} {f : Addr} {fd : FuncData} (Fu : Fun K "_law_asked_slots" "_law_asked_slots" st__law_asked_slots f fd) (T : Txt K w mg) {F__law_slots : WF} {f__law_slots : Addr} (H__law_slots : At P w K mg base k "_law_slots" f__law_slots F__law_slots) {F__law_broken : WF} {f__law_broken : Addr} (H__law_broken : At P w K mg base k "_law_broken" f__law_broken F__law_broken) {F__law_turned : WF} {f__law_turned : Addr} (H__law_turned : At P w K mg base k "_law_turned" f__law_turned F__law_turned) {F__law_standard : WF} {f__law_standard : Addr} (H__law_standard : At P w K mg base k "_law_standard" f__law_standard F__law_standard) : FnG P w K mg base (k + 1) f (R__law_asked_slots F__law_slots F__law_broken F__law_turned F__law_standard) := by
  refine fnG_of (N := ["_law_some", "_law_slot"]) Fu sc__law_asked_slots (Fu.binds (ps := ["_law_some"]) fun _ _ _ _ _ _ us hl => match us, hl with | [_], _ => rfl) rfl rfl fun cdv A outer s H G hr hg => ?_
  have sc := sc__law_asked_slots
  have hu := hr
  show PBI _ G H (defBody st__law_asked_slots) (W__law_asked_slots F__law_slots F__law_broken F__law_turned F__law_standard)
  unfold W__law_asked_slots
  exact (b_one (s_ret (i_lc rfl sc.nd (own := [("_law_slot", 1)]) (p_seq (i_fz (i_sortD rfl (by rfl) T.n_sorted (i_call0 H__law_slots.1 hr hg (by rfl) H__law_slots.2.1 H__law_slots.2.2)))) (blkOk_by (by kernel_rfl)) (fun _ _ _ _ _ => (g_name sc.nd (by rfl) (by first | exact .inl rfl | exact .inr rfl) (by decide))) (fun _ _ _ _ _ => (ts_one (t_cmp (op_ne0 hu.units0) op2_ne0 (i_call H__law_broken.1 hr hg (by rfl) H__law_broken.2.1 H__law_broken.2.2 (a_cons (i_fz (i_lst (a_cons (i_fz (i_call H__law_turned.1 hr hg (by rfl) H__law_turned.2.1 H__law_turned.2.2 (a_cons (i_fz (i_call0 H__law_standard.1 hr hg (by rfl) H__law_standard.2.1 H__law_standard.2.2)) (a_cons (i_fz (i_lst (a_cons (i_var 1) a_nil))) a_nil)))) a_nil))) (a_cons (i_var 0) a_nil))) (i_lst a_nil) (by rfl)))) (fun _ _ _ _ _ => (i_var 1)))))
/-! ### _law_class -/
abbrev st__law_class : Stmt := top 51
theorem sc__law_class : FnScope ["_law_bag_here", "_law_way", "_law_found", "_law_deed"] ["_law_bag_here"] (defScope st__law_class) := ⟨rfl, rfl, rfl, by decide +kernel, rfl, by decide +kernel, by decide +kernel⟩
def W__law_class_t0 (F__law_take : WF) (F__law_mixed : WF) (F__law_one : WF) : WS :=
  (sSeq (sSet 2 (w2 oAdd (w2 oAdd (wP 2) (w2 oMulA (wLst (wCons (wC (.str "let")) wNil)) (wN oIntC (wCons (w2 oGt (wCall F__law_take (wCons (wV 0) (wCons (wC (.int 6)) wNil))) (wC (.int 0))) wNil)))) (w2 oMulA (wLst (wCons (wC (.str "rec")) wNil)) (wN oIntC (wCons (w2 oEq (wCall F__law_take (wCons (wV 0) (wCons (wC (.int 3)) wNil))) (wC (.int 0))) wNil)))))
    (sSeq (sSet 2 (w2 oAdd (wP 2) (w2 oMulA (wLst (wCons (wC (.str "cell")) wNil)) (wN oIntC (wCons (w2 oEq (wCall F__law_take (wCons (wV 0) (wCons (wC (.int 8)) wNil))) (wC (.int 0))) wNil)))))
    (sSeq (sIf (wB (w2 oEq (wCall F__law_take (wCons (wV 0) (wCons (wC (.int 12)) wNil))) (wC (.int 0)))) (sSet 2 (wSl (wCall F__law_mixed (wCons (wV 0) (wCons (wV 2) wNil))) (wSomeP (wC (.int 1))) wNoP)) sSkip)
    (sRet (wN oTuple (wCons (wSortSetS (wP 2)) wNil))))))
def W__law_class_t1 (F__law_take : WF) (F__law_mixed : WF) (F__law_one : WF) : WS :=
  (sSeq (sIf (wB (w2 (oIn false) (wP 1) (wTup (wCons (wC (.int 1)) (wCons (wC (.int 2)) (wCons (wC (.int 3)) wNil)))))) (sSet 2 (w2 oAdd (w2 oAdd (wP 2) (wLst (wCons (wC (.str "case")) (wCons (wC (.str "tag")) wNil)))) (w2 oMulA (wLst (wCons (wC (.str "widen")) wNil)) (wCall F__law_take (wCons (wV 0) (wCons (wC (.int 2)) wNil)))))) sSkip)
    (W__law_class_t0 F__law_take F__law_mixed F__law_one))
def W__law_class (F__law_take : WF) (F__law_mixed : WF) (F__law_one : WF) : WS :=
  (sSeq (sPar 1 2 (wCons (wCall F__law_take (wCons (wV 0) (wCons (wC (.int 6)) wNil))) (wCons (wLst wNil) wNil)))
    (sSeq (sIf (wB (w2 oNe (wP 1) (wC (.int 1)))) (sSeq (sSet 2 (w2 oAdd (wLst (wCons (wC (.str "look")) wNil)) (wCall F__law_one (wCons (wV 0) (wCons (wF (wLst (wCons (wF (wLst (wCons (wC (.str "make")) wNil))) (wCons (wF (wLst (wCons (wC (.str "make")) wNil))) (wCons (wF (wLst (wCons (wC (.str "add")) wNil))) (wCons (wF (wLst (wCons (wC (.str "add")) (wCons (wC (.str "make")) wNil)))) wNil)))))) wNil)))))
    (sSet 2 (w2 oAdd (wP 2) (wLc (wSeqI (wTup (wCons (wC (.str "add")) (wCons (wC (.str "drop")) (wCons (wC (.str "put")) wNil))))) (gN 3) (wB (w2 oEq (wCall F__law_take (wCons (wV 0) (wCons (wC (.int 2)) wNil))) (wC (.int 0)))) (wV 3) [3])))) sSkip)
    (W__law_class_t1 F__law_take F__law_mixed F__law_one)))
abbrev R__law_class (F__law_take : WF) (F__law_mixed : WF) (F__law_one : WF) : WF := wDef 1 3 (W__law_class F__law_take F__law_mixed F__law_one)
theorem fn__law_class {k : Nat} {f : Addr} {fd : FuncData} (Fu : Fun K "_law_class" "_law_class" st__law_class f fd) (T : Txt K w mg) {F__law_take : WF} {f__law_take : Addr} (H__law_take : At P w K mg base k "_law_take" f__law_take F__law_take) {F__law_mixed : WF} {f__law_mixed : Addr} (H__law_mixed : At P w K mg base k "_law_mixed" f__law_mixed F__law_mixed) {F__law_one : WF} {f__law_one : Addr} (H__law_one : At P w K mg base k "_law_one" f__law_one F__law_one) : FnG P w K mg base (k + 1) f (R__law_class F__law_take F__law_mixed F__law_one) := by
  refine fnG_of (N := ["_law_bag_here", "_law_way", "_law_found", "_law_deed"]) Fu sc__law_class (Fu.binds (ps := ["_law_bag_here"]) fun _ _ _ _ _ _ us hl => match us, hl with | [_], _ => rfl) rfl rfl fun cdv A outer s H G hr hg => ?_
  have sc := sc__law_class
  have hu := hr
  show PBI _ G H (defBody st__law_class) (W__law_class F__law_take F__law_mixed F__law_one)
  unfold W__law_class
  exact (b_cons (s_par rfl sc.nd (by rfl) (by rfl) (by decide) (by rfl) (by rfl) (a_cons (i_call H__law_take.1 hr hg (by rfl) H__law_take.2.1 H__law_take.2.2 (a_cons (i_var 0) (a_cons i_int a_nil))) (a_cons (i_lst a_nil) a_nil)) (by rfl))
    (b_cons (s_if (t_cmp (op_neA hu.r64) op2_ne (i_peek 1) i_int (by rfl)) (b_cons (s_set sc.nd (by rfl) (by first | exact .inl rfl | exact .inr rfl) (i_op op_addA op2_add (i_lst (a_cons i_str a_nil)) (i_call H__law_one.1 hr hg (by rfl) H__law_one.2.1 H__law_one.2.2 (a_cons (i_var 0) (a_cons (i_fz (i_lst (a_cons (i_fz (i_lst (a_cons i_str a_nil))) (a_cons (i_fz (i_lst (a_cons i_str a_nil))) (a_cons (i_fz (i_lst (a_cons i_str a_nil))) (a_cons (i_fz (i_lst (a_cons i_str (a_cons i_str a_nil)))) a_nil)))))) a_nil)))))
    (b_one (s_set sc.nd (by rfl) (by first | exact .inl rfl | exact .inr rfl) (i_op op_addA op2_add (i_peek 2) (i_lc rfl sc.nd (own := [("_law_deed", 3)]) (p_seq (i_tup (a_cons i_str (a_cons i_str (a_cons i_str a_nil))))) (blkOk_by (by kernel_rfl)) (fun _ _ _ _ _ => (g_name sc.nd (by rfl) (by first | exact .inl rfl | exact .inr rfl) (by decide))) (fun _ _ _ _ _ => (ts_one (t_cmp (op_eqA hu.r64) op2_eq (i_call H__law_take.1 hr hg (by rfl) H__law_take.2.1 H__law_take.2.2 (a_cons (i_var 0) (a_cons i_int a_nil))) i_int (by rfl)))) (fun _ _ _ _ _ => (i_var 3))))))) b_nil)
    (b_cons (s_if (t_cmp (op_inB hu.room) op2_in (i_peek 1) (i_tup (a_cons i_int (a_cons i_int (a_cons i_int a_nil)))) (by rfl)) (b_one (s_set sc.nd (by rfl) (by first | exact .inl rfl | exact .inr rfl) (i_op op_addA op2_add (i_op op_addA op2_add (i_peek 2) (i_lst (a_cons i_str (a_cons i_str a_nil)))) (i_op op_mulA op2_mulA (i_lst (a_cons i_str a_nil)) (i_call H__law_take.1 hr hg (by rfl) H__law_take.2.1 H__law_take.2.2 (a_cons (i_var 0) (a_cons i_int a_nil))))))) b_nil)
    (b_cons (s_set sc.nd (by rfl) (by first | exact .inl rfl | exact .inr rfl) (i_op op_addA op2_add (i_op op_addA op2_add (i_peek 2) (i_op op_mulA op2_mulA (i_lst (a_cons i_str a_nil)) (i_callT call_int1 opn_int (by rfl) T.n_int Boot.«int» (a_cons (i_cmp op_gtA op2_gt (i_call H__law_take.1 hr hg (by rfl) H__law_take.2.1 H__law_take.2.2 (a_cons (i_var 0) (a_cons i_int a_nil))) i_int (by rfl)) a_nil)))) (i_op op_mulA op2_mulA (i_lst (a_cons i_str a_nil)) (i_callT call_int1 opn_int (by rfl) T.n_int Boot.«int» (a_cons (i_cmp (op_eqA hu.r64) op2_eq (i_call H__law_take.1 hr hg (by rfl) H__law_take.2.1 H__law_take.2.2 (a_cons (i_var 0) (a_cons i_int a_nil))) i_int (by rfl)) a_nil)))))
    (b_cons (s_set sc.nd (by rfl) (by first | exact .inl rfl | exact .inr rfl) (i_op op_addA op2_add (i_peek 2) (i_op op_mulA op2_mulA (i_lst (a_cons i_str a_nil)) (i_callT call_int1 opn_int (by rfl) T.n_int Boot.«int» (a_cons (i_cmp (op_eqA hu.r64) op2_eq (i_call H__law_take.1 hr hg (by rfl) H__law_take.2.1 H__law_take.2.2 (a_cons (i_var 0) (a_cons i_int a_nil))) i_int (by rfl)) a_nil)))))
    (b_cons (s_if (t_cmp (op_eqA hu.r64) op2_eq (i_call H__law_take.1 hr hg (by rfl) H__law_take.2.1 H__law_take.2.2 (a_cons (i_var 0) (a_cons i_int a_nil))) i_int (by rfl)) (b_one (s_set sc.nd (by rfl) (by first | exact .inl rfl | exact .inr rfl) (i_slice (i_call H__law_mixed.1 hr hg (by rfl) H__law_mixed.2.1 H__law_mixed.2.2 (a_cons (i_var 0) (a_cons (i_var 2) a_nil))) (o_some i_int) o_none))) b_nil)
    (b_one (s_ret (i_callT call_tupleN opn_tuple (by rfl) T.n_tuple Boot.«tuple» (a_cons (i_sortSetS rfl hu.r2 (by rfl) T.n_sorted (by rfl) T.n_set (i_peek 2)) a_nil))))))))))
/-! ### _law_bag -/
abbrev st__law_bag : Stmt := top 35
theorem sc__law_bag : FnScope ["_law_script", "_law_cell"] ["_law_script"] (defScope st__law_bag) := ⟨rfl, rfl, rfl, by decide +kernel, rfl, by decide +kernel, by decide +kernel⟩
def W__law_bag : WS :=
  (sRetBag (wLst (wCons (wC (.int 0)) (wCons (wC (.int 1234567891)) (wCons (wC (.int 0)) (wCons (wF (wLc (wSeqI (wF (wSlScr (wP 0) wNoP (wSomeP (wC (.int 63)))))) (gN 1) tYes' (wN oAbs (wCons (wP 1) wNil)) [1])) wNil))))))
abbrev R__law_bag : WF := wDef 1 1 (W__law_bag)
theorem fn__law_bag {k : Nat} {f : Addr} {fd : FuncData} (Fu : Fun K "_law_bag" "_law_bag" st__law_bag f fd) (T : Txt K w mg) : FnG P w K mg base (k + 1) f (R__law_bag) := by
  refine fnG_of (N := ["_law_script", "_law_cell"]) Fu sc__law_bag (Fu.binds (ps := ["_law_script"]) fun _ _ _ _ _ _ us hl => match us, hl with | [_], _ => rfl) rfl rfl fun cdv A outer s H G hr hg => ?_
  have sc := sc__law_bag
  have hu := hr
  show PBI _ G H (defBody st__law_bag) (W__law_bag)
  unfold W__law_bag
  exact (b_one (s_retBag (i_lst (a_cons i_int (a_cons i_int (a_cons i_int (a_cons (i_fz (i_lc rfl sc.nd (own := [("_law_cell", 1)]) (p_seq (i_fz (i_sliceScr (i_peek 0) o_none (o_some i_int)))) (blkOk_by (by kernel_rfl)) (fun _ _ _ _ _ => (g_name sc.nd (by rfl) (by first | exact .inl rfl | exact .inr rfl) (by decide))) (fun _ _ _ _ _ => ts_nil) (fun _ _ _ _ _ => (i_callB call_abs opn_abs (by rfl) T.n_abs Boot.«abs» (a_cons (i_peek 1) a_nil))))) a_nil)))))))
/-! ### law -/
abbrev st_law : Stmt := top 53
theorem sc_law : FnScope ["_law_script", "_law_bag_here", "_law_every", "_law_turn", "_law_some", "_law_deed", "_law_other", "_law_one_here", "_law_due", "_law_again", "_law_found", "_law_slot", "_law_plans_here"] ["_law_script"] (defScope st_law) := ⟨rfl, rfl, rfl, by decide +kernel, rfl, by decide +kernel, by decide +kernel⟩
def W_law_t0 (F__law_take : WF) (F_broken : WF) (F__law_alike : WF) (F_are_right : WF) (F__law_plans : WF) (F__law_turned : WF) (F__law_standard : WF) (F__law_one : WF) (F__law_slots : WF) (F_asked_slots : WF) (F__law_asked_slots : WF) (F__law_class : WF) (F__law_bag : WF) : WS :=
  (sSeq (sSet 11 (wCall F__law_one (wCons (wV 1) (wCons (wF (wSortD (wCall F__law_slots wNil))) wNil))))
    (sSeq (sSet 12 (wCall F__law_plans (wCons (wV 1) (wCons (wF (wLst (wCons (wF (wCall F__law_turned (wCons (wF (wCall F__law_standard wNil)) (wCons (wF (wLst (wCons (wV 11) wNil))) wNil)))) wNil))) wNil))))
    (sIf (tOr' (tNot' (wTr (wCallB F__law_alike (wCons (wCall F_are_right (wCons (wV 12) (wCons (wV 7) wNil))) (wCons (w2 (oIn true) (wP 11) (wP 8)) wNil))))) (wB (w2 oNe (w2 oNe0 (wCall F_broken (wCons (wV 12) (wCons (wV 7) wNil))) (wLst wNil)) (w2 (oIn false) (wP 11) (wP 8))))) (sRet (wC (.bl false))) sSkip)))
def W_law (F__law_take : WF) (F_broken : WF) (F__law_alike : WF) (F_are_right : WF) (F__law_plans : WF) (F__law_turned : WF) (F__law_standard : WF) (F__law_one : WF) (F__law_slots : WF) (F_asked_slots : WF) (F__law_asked_slots : WF) (F__law_class : WF) (F__law_bag : WF) : WS :=
  (sSeq (sSet 1 (wCall F__law_bag (wCons (wV 0) wNil)))
    (sSeq (sSet 2 (wTup (wCons (wC (.str "add")) (wCons (wC (.str "case")) (wCons (wC (.str "cell")) (wCons (wC (.str "drop")) (wCons (wC (.str "let")) (wCons (wC (.str "look")) (wCons (wC (.str "make")) (wCons (wC (.str "put")) (wCons (wC (.str "rec")) (wCons (wC (.str "tag")) (wCons (wC (.str "widen")) wNil)))))))))))))
    (sSeq (sFor (wRng1 (wCons (wC (.int 4)) wNil)) (gN 3)
    (sSeq (sSet 4 (wCall F__law_class (wCons (wV 1) wNil)))
    (sSeq (sSet 5 (wCall F__law_one (wCons (wV 1) (wCons (wV 2) wNil))))
    (sSeq (sSet 6 (wN oTuple (wCons (wLc (wSeqI (wV 2)) (gN 7) (tOr' (tAnd' (wB (w2 (oIn false) (wP 7) (wP 4))) (wB (w2 oNe (wP 7) (wP 5)))) (tAnd' (wB (w2 oEq (wP 7) (wP 5))) (wB (w2 (oIn true) (wP 5) (wP 4))))) (wV 7) [7]) wNil)))
    (sFor (wSeqI (wF (w2 oAdd (wLst (wCons (wV 4) (wCons (wV 6) wNil))) (w2 oMulA (wLst (wCons (wV 2) (wCons (wTup wNil) wNil))) (wN oIntC (wCons (w2 oEq (wCall F__law_take (wCons (wV 1) (wCons (wC (.int 6)) wNil))) (wC (.int 0))) wNil)))))) (gN 7)
    (sSeq (sSet 8 (wCall F__law_asked_slots (wCons (wV 7) wNil)))
    (sSeq (sFor (wRng1 (wCons (wC (.int 2)) wNil)) (gN 9)
    (sSeq (sSet 10 (wCall F_asked_slots (wCons (wV 7) wNil)))
    (sSeq (sIf (tNot' (wTr (wCallB F__law_alike (wCons (wP 10) (wCons (wP 8) wNil))))) (sRet (wC (.bl false))) sSkip)
    (sMutF owApp 10 (wCons (wC (.str "zz")) wNil)))))
    (W_law_t0 F__law_take F_broken F__law_alike F_are_right F__law_plans F__law_turned F__law_standard F__law_one F__law_slots F_asked_slots F__law_asked_slots F__law_class F__law_bag))))))))
    (sRet (wC (.bl true))))))
abbrev R_law (F__law_take : WF) (F_broken : WF) (F__law_alike : WF) (F_are_right : WF) (F__law_plans : WF) (F__law_turned : WF) (F__law_standard : WF) (F__law_one : WF) (F__law_slots : WF) (F_asked_slots : WF) (F__law_asked_slots : WF) (F__law_class : WF) (F__law_bag : WF) : WF := wDef 1 12 (W_law F__law_take F_broken F__law_alike F_are_right F__law_plans F__law_turned F__law_standard F__law_one F__law_slots F_asked_slots F__law_asked_slots F__law_class F__law_bag)
theorem fn_law {k : Nat} {f : Addr} {fd : FuncData} (Fu : Fun K "law" "law" st_law f fd) (T : Txt K w mg) {F__law_take : WF} {f__law_take : Addr} (H__law_take : At P w K mg base k "_law_take" f__law_take F__law_take) {F_broken : WF} {f_broken : Addr} (H_broken : At P w K mg base k "broken" f_broken F_broken) {F__law_alike : WF} {f__law_alike : Addr} (H__law_alike : AtB P w K mg base k "_law_alike" f__law_alike F__law_alike) {F_are_right : WF} {f_are_right : Addr} (H_are_right : At P w K mg base k "are_right" f_are_right F_are_right) {F__law_plans : WF} {f__law_plans : Addr} (H__law_plans : At P w K mg base k "_law_plans" f__law_plans F__law_plans) {F__law_turned : WF} {f__law_turned : Addr} (H__law_turned : At P w K mg base k "_law_turned" f__law_turned F__law_turned) {F__law_standard : WF} {f__law_standard : Addr} (H__law_standard : At P w K mg base k "_law_standard" f__law_standard F__law_standard) {F__law_one : WF} {f__law_one : Addr} (H__law_one : At P w K mg base k "_law_one" f__law_one F__law_one) {F__law_slots : WF} {f__law_slots : Addr} (H__law_slots : At P w K mg base k "_law_slots" f__law_slots F__law_slots) {F_asked_slots : WF} {f_asked_slots : Addr} (H_asked_slots : At P w K mg base k "asked_slots" f_asked_slots F_asked_slots) {F__law_asked_slots : WF} {f__law_asked_slots : Addr} (H__law_asked_slots : At P w K mg base k "_law_asked_slots" f__law_asked_slots F__law_asked_slots) {F__law_class : WF} {f__law_class : Addr} (H__law_class : At P w K mg base k "_law_class" f__law_class F__law_class) {F__law_bag : WF} {f__law_bag : Addr} (H__law_bag : At P w K mg base k "_law_bag" f__law_bag F__law_bag) : FnG P w K mg base (k + 1) f (R_law F__law_take F_broken F__law_alike F_are_right F__law_plans F__law_turned F__law_standard F__law_one F__law_slots F_asked_slots F__law_asked_slots F__law_class F__law_bag) := by
  refine fnG_of (N := ["_law_script", "_law_bag_here", "_law_every", "_law_turn", "_law_some", "_law_deed", "_law_other", "_law_one_here", "_law_due", "_law_again", "_law_found", "_law_slot", "_law_plans_here"]) Fu sc_law (Fu.binds (ps := ["_law_script"]) fun _ _ _ _ _ _ us hl => match us, hl with | [_], _ => rfl) rfl rfl fun cdv A outer s H G hr hg => ?_
  have sc := sc_law
  have hu := hr
  show PBI _ G H (defBody st_law) (W_law F__law_take F_broken F__law_alike F_are_right F__law_plans F__law_turned F__law_standard F__law_one F__law_slots F_asked_slots F__law_asked_slots F__law_class F__law_bag)
  unfold W_law
  exact (b_cons (s_set sc.nd (by rfl) (by first | exact .inl rfl | exact .inr rfl) (i_call H__law_bag.1 hr hg (by rfl) H__law_bag.2.1 H__law_bag.2.2 (a_cons (i_var 0) a_nil)))
    (b_cons (s_set sc.nd (by rfl) (by first | exact .inl rfl | exact .inr rfl) (i_tup (a_cons i_str (a_cons i_str (a_cons i_str (a_cons i_str (a_cons i_str (a_cons i_str (a_cons i_str (a_cons i_str (a_cons i_str (a_cons i_str (a_cons i_str a_nil)))))))))))))
    (b_cons (s_for (vs := [3]) PassesOwn.never rfl (p_rng1 (by rfl) T.n_range (a_cons i_int a_nil)) (g_name sc.nd (by rfl) (by first | exact .inl rfl | exact .inr rfl) (by decide))
    (b_cons (s_set sc.nd (by rfl) (by first | exact .inl rfl | exact .inr rfl) (i_call H__law_class.1 hr hg (by rfl) H__law_class.2.1 H__law_class.2.2 (a_cons (i_var 1) a_nil)))
    (b_cons (s_set sc.nd (by rfl) (by first | exact .inl rfl | exact .inr rfl) (i_call H__law_one.1 hr hg (by rfl) H__law_one.2.1 H__law_one.2.2 (a_cons (i_var 1) (a_cons (i_var 2) a_nil))))
    (b_cons (s_set sc.nd (by rfl) (by first | exact .inl rfl | exact .inr rfl) (i_callT call_tupleN opn_tuple (by rfl) T.n_tuple Boot.«tuple» (a_cons (i_lc rfl sc.nd (own := [("_law_one_here", 7)]) (p_seq (i_var 2)) (blkOk_by (by kernel_rfl)) (fun _ _ _ _ _ => (g_name sc.nd (by rfl) (by first | exact .inl rfl | exact .inr rfl) (by decide))) (fun _ _ _ _ _ => (ts_one (t_bool (w_or (t_bool (w_and (t_cmp (op_inB hu.room) op2_in (i_peek 7) (i_peek 4) (by rfl)) (w_and1 (t_cmp (op_neA hu.r64) op2_ne (i_peek 7) (i_peek 5) (by rfl))))) (w_or1 (t_bool (w_and (t_cmp (op_eqA hu.r64) op2_eq (i_peek 7) (i_peek 5) (by rfl)) (w_and1 (t_cmp (op_notInB hu.room) op2_in (i_peek 5) (i_peek 4) (by rfl)))))))))) (fun _ _ _ _ _ => (i_var 7))) a_nil)))
    (b_one (s_for (vs := [7]) PassesOwn.never rfl (p_seq (i_fz (i_op op_addA op2_add (i_lst (a_cons (i_var 4) (a_cons (i_var 6) a_nil))) (i_op op_mulA op2_mulA (i_lst (a_cons (i_var 2) (a_cons (i_tup a_nil) a_nil))) (i_callT call_int1 opn_int (by rfl) T.n_int Boot.«int» (a_cons (i_cmp (op_eqA hu.r64) op2_eq (i_call H__law_take.1 hr hg (by rfl) H__law_take.2.1 H__law_take.2.2 (a_cons (i_var 1) (a_cons i_int a_nil))) i_int (by rfl)) a_nil)))))) (g_name sc.nd (by rfl) (by first | exact .inl rfl | exact .inr rfl) (by decide))
    (b_cons (s_set sc.nd (by rfl) (by first | exact .inl rfl | exact .inr rfl) (i_call H__law_asked_slots.1 hr hg (by rfl) H__law_asked_slots.2.1 H__law_asked_slots.2.2 (a_cons (i_var 7) a_nil)))
    (b_cons (s_for (vs := [9]) PassesOwn.never rfl (p_rng1 (by rfl) T.n_range (a_cons i_int a_nil)) (g_name sc.nd (by rfl) (by first | exact .inl rfl | exact .inr rfl) (by decide))
    (b_cons (s_set sc.nd (by rfl) (by first | exact .inl rfl | exact .inr rfl) (i_call H_asked_slots.1 hr hg (by rfl) H_asked_slots.2.1 H_asked_slots.2.2 (a_cons (i_var 7) a_nil)))
    (b_cons (s_if (t_not (t_tru (i_callBo H__law_alike.1 hr hg (by rfl) H__law_alike.2.1 H__law_alike.2.2 (a_cons (i_peek 10) (a_cons (i_peek 8) a_nil))))) (b_one (s_ret i_bl)) b_nil)
    (b_one (s_mutF (i := 10) (pe := fun ho ha => pe_bm F.plainAttrs_list F.slot_list_append F.type_list_append mt_append ho ha) opf_app (a_cons i_str a_nil))))))
    (b_cons (s_set sc.nd (by rfl) (by first | exact .inl rfl | exact .inr rfl) (i_call H__law_one.1 hr hg (by rfl) H__law_one.2.1 H__law_one.2.2 (a_cons (i_var 1) (a_cons (i_fz (i_sortD rfl (by rfl) T.n_sorted (i_call0 H__law_slots.1 hr hg (by rfl) H__law_slots.2.1 H__law_slots.2.2))) a_nil))))
    (b_cons (s_set sc.nd (by rfl) (by first | exact .inl rfl | exact .inr rfl) (i_call H__law_plans.1 hr hg (by rfl) H__law_plans.2.1 H__law_plans.2.2 (a_cons (i_var 1) (a_cons (i_fz (i_lst (a_cons (i_fz (i_call H__law_turned.1 hr hg (by rfl) H__law_turned.2.1 H__law_turned.2.2 (a_cons (i_fz (i_call0 H__law_standard.1 hr hg (by rfl) H__law_standard.2.1 H__law_standard.2.2)) (a_cons (i_fz (i_lst (a_cons (i_var 11) a_nil))) a_nil)))) a_nil))) a_nil))))
    (b_one (s_if (t_bool (w_or (t_not (t_tru (i_callBo H__law_alike.1 hr hg (by rfl) H__law_alike.2.1 H__law_alike.2.2 (a_cons (i_call H_are_right.1 hr hg (by rfl) H_are_right.2.1 H_are_right.2.2 (a_cons (i_var 12) (a_cons (i_var 7) a_nil))) (a_cons (i_cmp (op_notInB hu.room) op2_in (i_peek 11) (i_peek 8) (by rfl)) a_nil))))) (w_or1 (t_cmp (op_neA hu.r64) op2_ne (i_cmp (op_ne0 hu.units0) op2_ne0 (i_call H_broken.1 hr hg (by rfl) H_broken.2.1 H_broken.2.2 (a_cons (i_var 12) (a_cons (i_var 7) a_nil))) (i_lst a_nil) (by rfl)) (i_cmp (op_inB hu.room) op2_in (i_peek 11) (i_peek 8) (by rfl)) (by rfl))))) (b_one (s_ret i_bl)) b_nil))))))))))))
    (b_one (s_ret i_bl)))))
end
/-! ### the joint -/
abbrev F__law_take : WF := R__law_take
abbrev F_indexes_of : WF := R_indexes_of
abbrev F_all_asked : WF := R_all_asked F_indexes_of
abbrev F_has_tags : WF := R_has_tags
abbrev F_has_fields : WF := R_has_fields
abbrev F_is_open : WF := R_is_open F_has_tags F_has_fields
abbrev F_is_so : WF := R_is_so F_is_open F_has_tags F_has_fields
abbrev F_is_asked_in : WF := R_is_asked_in F_is_so
abbrev F_asked : WF := R_asked F_all_asked F_is_asked_in
abbrev F_sums_of : WF := R_sums_of
abbrev F_is_slot : WF := R_is_slot
abbrev F_need_slot : WF := R_need_slot F_is_slot
abbrev F_Plan_value : WF := R_Plan_value F_need_slot
abbrev F_is_turned : WF := R_is_turned F_Plan_value
abbrev F_is_even : WF := R_is_even F_is_turned
abbrev F_holds : WF := R_holds F_sums_of F_is_even
abbrev F_broken : WF := R_broken F_asked F_holds
abbrev F__law_alike : WF := R__law_alike
abbrev F_are_right : WF := R_are_right F_broken
abbrev F_are_rows : WF := R_are_rows F_is_slot
abbrev F_Plan_init : WFI := R_Plan_init F_are_rows
abbrev F__law_mixed : WF := R__law_mixed F__law_take
abbrev F__law_slots : WF := R__law_slots
abbrev F__law_standard : WF := R__law_standard F__law_slots
abbrev F__law_plan : WF := R__law_plan F_Plan_init F__law_take F__law_mixed F__law_standard
abbrev F__law_plans : WF := R__law_plans F__law_plan
abbrev F__law_turned : WF := R__law_turned F__law_slots
abbrev F__law_one : WF := R__law_one F__law_take
abbrev F_slots : WF := R_slots
abbrev F_Plan_turned : WF := R_Plan_turned F_Plan_init F_need_slot
abbrev F_asked_slots : WF := R_asked_slots F_slots F_broken F_Plan_turned F_Plan_init
abbrev F__law_has_tags : WF := R__law_has_tags
abbrev F__law_has_fields : WF := R__law_has_fields
abbrev F__law_is_open : WF := R__law_is_open F__law_has_tags F__law_has_fields
abbrev F__law_asked : WF := R__law_asked F__law_is_open F__law_has_tags F__law_has_fields
abbrev F__law_holds : WF := R__law_holds
abbrev F__law_broken : WF := R__law_broken F__law_asked F__law_holds
abbrev F__law_asked_slots : WF := R__law_asked_slots F__law_slots F__law_broken F__law_turned F__law_standard
abbrev F__law_class : WF := R__law_class F__law_take F__law_mixed F__law_one
abbrev F__law_bag : WF := R__law_bag
abbrev F_law : WF := R_law F__law_take F_broken F__law_alike F_are_right F__law_plans F__law_turned F__law_standard F__law_one F__law_slots F_asked_slots F__law_asked_slots F__law_class F__law_bag
theorem at_monoB {P : Program} {w : World} {K : PySem.W.Frag} {mg : Str → Option Value} {base : Heap} {j k : Nat} {x : Str} {f : Addr} {wf : WF} (h : AtB P w K mg base j x f wf) (hjk : j ≤ k) : AtB P w K mg base k x f wf := ⟨h.1.mono hjk, h.2⟩
theorem at_mono {P : Program} {w : World} {K : PySem.W.Frag} {mg : Str → Option Value} {base : Heap} {j k : Nat} {x : Str} {f : Addr} {wf : WF} (h : At P w K mg base j x f wf) (hjk : j ≤ k) : At P w K mg base k x f wf := ⟨h.1.mono hjk, h.2⟩
theorem at_monoM {P : Program} {w : World} {K : PySem.W.Frag} {mg : Str → Option Value} {base : Heap} {j k : Nat} {c fl x : Str} {f : Addr} {wf : WF} (h : AtM P w K mg base j c fl x f wf) (hjk : j ≤ k) : AtM P w K mg base k c fl x f wf := ⟨h.1.mono hjk, h.2⟩
theorem at_monoI {P : Program} {w : World} {K : PySem.W.Frag} {mg : Str → Option Value} {base : Heap} {j k : Nat} {c fl : Str} {wf : WFI} (h : AtI P w K mg base j c fl wf) (hjk : j ≤ k) : AtI P w K mg base k c fl wf := let ⟨a, b, d, e, h1, h2, h3, h4, h5⟩ := h; ⟨a, b, d, e, h1, h2, h3, h4, Nat.le_trans h5 hjk⟩
theorem all_fn {P : Program} {w : World} {K : PySem.W.Frag} {h : Heap} {mg : Str → Option Value} {fa : Addr} (X : K.In h) (G : h.Ns mainGlobals mg) (hfa : mg "law" = some (.ref fa))
    {C_Plan p_Plan : Addr} (aC_Plan : PySem.W.nsIn K mainGlobals "Plan" = some (some (.ref C_Plan))) (pg_Plan : PySem.W.plainGet K C_Plan Str.empty = true) (ic_Plan : PySem.W.isClsIn K C_Plan = true) (po_Plan : PySem.W.plainOver K C_Plan = true) (sa_Plan : PySem.W.findIn K (.ref C_Plan) "__setattr__" = some (some (.builtin "object.__setattr__")))
    (sA_Plan : PySem.W.findIn K (.ref C_Plan) "its_values" = some (some (.ref p_Plan))) (sG_Plan : PySem.W.specialIn K (.ref p_Plan) "__get__" = some (some (.builtin "member_descriptor.__get__"))) (sT_Plan : PySem.W.takesIn K (.ref p_Plan) = some true) (sY_Plan : PySem.W.typeIn K (.ref p_Plan) = some (.type "member_descriptor")) (sI_Plan : PySem.W.slotIn K p_Plan C_Plan = some 0) (mk_Plan : PySem.W.makesIn K C_Plan = true) (kC_Plan : PySem.W.keepIn K (.ref C_Plan) = true)
    {f0 : Addr} {od0 an0 : Option Addr} {sl0 : Array (Option Value)} {oc0 kV0 dc0 pm0 cd0 ct0 : Value}
    (a0 : PySem.W.nsIn K mainGlobals "_law_take" = some (some (.ref f0))) (l0 : K.lookup f0 = some ⟨oc0, od0, .func (PySem.W.fnOf "_law_take" "_law_take" (defArgs st__law_take) (defBody st__law_take) (defScope st__law_take) .none kV0 dc0 pm0 an0 cd0 ct0), sl0⟩) (c0 : PySem.W.codeIn K cd0 "_law_take" = true) (k0 : PySem.W.keepIn K (.ref f0) = true)
    {f1 : Addr} {od1 an1 : Option Addr} {sl1 : Array (Option Value)} {oc1 kV1 dc1 pm1 cd1 ct1 : Value}
    (a1 : PySem.W.nsIn K mainGlobals "indexes_of" = some (some (.ref f1))) (l1 : K.lookup f1 = some ⟨oc1, od1, .func (PySem.W.fnOf "indexes_of" "indexes_of" (defArgs st_indexes_of) (defBody st_indexes_of) (defScope st_indexes_of) .none kV1 dc1 pm1 an1 cd1 ct1), sl1⟩) (c1 : PySem.W.codeIn K cd1 "indexes_of" = true) (k1 : PySem.W.keepIn K (.ref f1) = true)
    {f2 : Addr} {od2 an2 : Option Addr} {sl2 : Array (Option Value)} {oc2 kV2 dc2 pm2 cd2 ct2 : Value}
    (a2 : PySem.W.nsIn K mainGlobals "all_asked" = some (some (.ref f2))) (l2 : K.lookup f2 = some ⟨oc2, od2, .func (PySem.W.fnOf "all_asked" "all_asked" (defArgs st_all_asked) (defBody st_all_asked) (defScope st_all_asked) .none kV2 dc2 pm2 an2 cd2 ct2), sl2⟩) (c2 : PySem.W.codeIn K cd2 "all_asked" = true) (k2 : PySem.W.keepIn K (.ref f2) = true)
    {f3 : Addr} {od3 an3 : Option Addr} {sl3 : Array (Option Value)} {oc3 kV3 dc3 pm3 cd3 ct3 : Value}
    (a3 : PySem.W.nsIn K mainGlobals "has_tags" = some (some (.ref f3))) (l3 : K.lookup f3 = some ⟨oc3, od3, .func (PySem.W.fnOf "has_tags" "has_tags" (defArgs st_has_tags) (defBody st_has_tags) (defScope st_has_tags) .none kV3 dc3 pm3 an3 cd3 ct3), sl3⟩) (c3 : PySem.W.codeIn K cd3 "has_tags" = true) (k3 : PySem.W.keepIn K (.ref f3) = true)
    {f4 : Addr} {od4 an4 : Option Addr} {sl4 : Array (Option Value)} {oc4 kV4 dc4 pm4 cd4 ct4 : Value}
    (a4 : PySem.W.nsIn K mainGlobals "has_fields" = some (some (.ref f4))) (l4 : K.lookup f4 = some ⟨oc4, od4, .func (PySem.W.fnOf "has_fields" "has_fields" (defArgs st_has_fields) (defBody st_has_fields) (defScope st_has_fields) .none kV4 dc4 pm4 an4 cd4 ct4), sl4⟩) (c4 : PySem.W.codeIn K cd4 "has_fields" = true) (k4 : PySem.W.keepIn K (.ref f4) = true)
    {f5 : Addr} {od5 an5 : Option Addr} {sl5 : Array (Option Value)} {oc5 kV5 dc5 pm5 cd5 ct5 : Value}
    (a5 : PySem.W.nsIn K mainGlobals "is_open" = some (some (.ref f5))) (l5 : K.lookup f5 = some ⟨oc5, od5, .func (PySem.W.fnOf "is_open" "is_open" (defArgs st_is_open) (defBody st_is_open) (defScope st_is_open) .none kV5 dc5 pm5 an5 cd5 ct5), sl5⟩) (c5 : PySem.W.codeIn K cd5 "is_open" = true) (k5 : PySem.W.keepIn K (.ref f5) = true)
    {f6 : Addr} {od6 an6 : Option Addr} {sl6 : Array (Option Value)} {oc6 kV6 dc6 pm6 cd6 ct6 : Value}
    (a6 : PySem.W.nsIn K mainGlobals "is_so" = some (some (.ref f6))) (l6 : K.lookup f6 = some ⟨oc6, od6, .func (PySem.W.fnOf "is_so" "is_so" (defArgs st_is_so) (defBody st_is_so) (defScope st_is_so) .none kV6 dc6 pm6 an6 cd6 ct6), sl6⟩) (c6 : PySem.W.codeIn K cd6 "is_so" = true) (k6 : PySem.W.keepIn K (.ref f6) = true)
    {f7 : Addr} {od7 an7 : Option Addr} {sl7 : Array (Option Value)} {oc7 kV7 dc7 pm7 cd7 ct7 : Value}
    (a7 : PySem.W.nsIn K mainGlobals "is_asked_in" = some (some (.ref f7))) (l7 : K.lookup f7 = some ⟨oc7, od7, .func (PySem.W.fnOf "is_asked_in" "is_asked_in" (defArgs st_is_asked_in) (defBody st_is_asked_in) (defScope st_is_asked_in) .none kV7 dc7 pm7 an7 cd7 ct7), sl7⟩) (c7 : PySem.W.codeIn K cd7 "is_asked_in" = true) (k7 : PySem.W.keepIn K (.ref f7) = true)
    {f8 : Addr} {od8 an8 : Option Addr} {sl8 : Array (Option Value)} {oc8 kV8 dc8 pm8 cd8 ct8 : Value}
    (a8 : PySem.W.nsIn K mainGlobals "asked" = some (some (.ref f8))) (l8 : K.lookup f8 = some ⟨oc8, od8, .func (PySem.W.fnOf "asked" "asked" (defArgs st_asked) (defBody st_asked) (defScope st_asked) .none kV8 dc8 pm8 an8 cd8 ct8), sl8⟩) (c8 : PySem.W.codeIn K cd8 "asked" = true) (k8 : PySem.W.keepIn K (.ref f8) = true)
    {f9 : Addr} {od9 an9 : Option Addr} {sl9 : Array (Option Value)} {oc9 kV9 dc9 pm9 cd9 ct9 : Value}
    (a9 : PySem.W.nsIn K mainGlobals "sums_of" = some (some (.ref f9))) (l9 : K.lookup f9 = some ⟨oc9, od9, .func (PySem.W.fnOf "sums_of" "sums_of" (defArgs st_sums_of) (defBody st_sums_of) (defScope st_sums_of) .none kV9 dc9 pm9 an9 cd9 ct9), sl9⟩) (c9 : PySem.W.codeIn K cd9 "sums_of" = true) (k9 : PySem.W.keepIn K (.ref f9) = true)
    {f10 : Addr} {od10 an10 : Option Addr} {sl10 : Array (Option Value)} {oc10 kV10 dc10 pm10 cd10 ct10 : Value}
    (a10 : PySem.W.nsIn K mainGlobals "is_slot" = some (some (.ref f10))) (l10 : K.lookup f10 = some ⟨oc10, od10, .func (PySem.W.fnOf "is_slot" "is_slot" (defArgs st_is_slot) (defBody st_is_slot) (defScope st_is_slot) .none kV10 dc10 pm10 an10 cd10 ct10), sl10⟩) (c10 : PySem.W.codeIn K cd10 "is_slot" = true) (k10 : PySem.W.keepIn K (.ref f10) = true)
    {f11 : Addr} {od11 an11 : Option Addr} {sl11 : Array (Option Value)} {oc11 kV11 dc11 pm11 cd11 ct11 : Value}
    (a11 : PySem.W.nsIn K mainGlobals "need_slot" = some (some (.ref f11))) (l11 : K.lookup f11 = some ⟨oc11, od11, .func (PySem.W.fnOf "need_slot" "need_slot" (defArgs st_need_slot) (defBody st_need_slot) (defScope st_need_slot) .none kV11 dc11 pm11 an11 cd11 ct11), sl11⟩) (c11 : PySem.W.codeIn K cd11 "need_slot" = true) (k11 : PySem.W.keepIn K (.ref f11) = true)
    {f12 : Addr} {od12 an12 : Option Addr} {sl12 : Array (Option Value)} {oc12 kV12 dc12 pm12 cd12 ct12 : Value}
    (a12 : PySem.W.findIn K (.ref C_Plan) "value" = some (some (.ref f12))) (i12 : PySem.W.isFn K (.ref f12) = true) (l12 : K.lookup f12 = some ⟨oc12, od12, .func (PySem.W.fnOf "value" "Plan.value" (defArgs st_Plan_value) (defBody st_Plan_value) (defScope st_Plan_value) .none kV12 dc12 pm12 an12 cd12 ct12), sl12⟩) (c12 : PySem.W.codeIn K cd12 "Plan.value" = true) (k12 : PySem.W.keepIn K (.ref f12) = true)
    {f13 : Addr} {od13 an13 : Option Addr} {sl13 : Array (Option Value)} {oc13 kV13 dc13 pm13 cd13 ct13 : Value}
    (a13 : PySem.W.nsIn K mainGlobals "is_turned" = some (some (.ref f13))) (l13 : K.lookup f13 = some ⟨oc13, od13, .func (PySem.W.fnOf "is_turned" "is_turned" (defArgs st_is_turned) (defBody st_is_turned) (defScope st_is_turned) .none kV13 dc13 pm13 an13 cd13 ct13), sl13⟩) (c13 : PySem.W.codeIn K cd13 "is_turned" = true) (k13 : PySem.W.keepIn K (.ref f13) = true)
    {f14 : Addr} {od14 an14 : Option Addr} {sl14 : Array (Option Value)} {oc14 kV14 dc14 pm14 cd14 ct14 : Value}
    (a14 : PySem.W.nsIn K mainGlobals "is_even" = some (some (.ref f14))) (l14 : K.lookup f14 = some ⟨oc14, od14, .func (PySem.W.fnOf "is_even" "is_even" (defArgs st_is_even) (defBody st_is_even) (defScope st_is_even) .none kV14 dc14 pm14 an14 cd14 ct14), sl14⟩) (c14 : PySem.W.codeIn K cd14 "is_even" = true) (k14 : PySem.W.keepIn K (.ref f14) = true)
    {f15 : Addr} {od15 an15 : Option Addr} {sl15 : Array (Option Value)} {oc15 kV15 dc15 pm15 cd15 ct15 : Value}
    (a15 : PySem.W.nsIn K mainGlobals "holds" = some (some (.ref f15))) (l15 : K.lookup f15 = some ⟨oc15, od15, .func (PySem.W.fnOf "holds" "holds" (defArgs st_holds) (defBody st_holds) (defScope st_holds) .none kV15 dc15 pm15 an15 cd15 ct15), sl15⟩) (c15 : PySem.W.codeIn K cd15 "holds" = true) (k15 : PySem.W.keepIn K (.ref f15) = true)
    {f16 : Addr} {od16 an16 : Option Addr} {sl16 : Array (Option Value)} {oc16 kV16 dc16 pm16 cd16 ct16 : Value}
    (a16 : PySem.W.nsIn K mainGlobals "broken" = some (some (.ref f16))) (l16 : K.lookup f16 = some ⟨oc16, od16, .func (PySem.W.fnOf "broken" "broken" (defArgs st_broken) (defBody st_broken) (defScope st_broken) .none kV16 dc16 pm16 an16 cd16 ct16), sl16⟩) (c16 : PySem.W.codeIn K cd16 "broken" = true) (k16 : PySem.W.keepIn K (.ref f16) = true)
    {f17 : Addr} {od17 an17 : Option Addr} {sl17 : Array (Option Value)} {oc17 kV17 dc17 pm17 cd17 ct17 : Value}
    (a17 : PySem.W.nsIn K mainGlobals "_law_alike" = some (some (.ref f17))) (l17 : K.lookup f17 = some ⟨oc17, od17, .func (PySem.W.fnOf "_law_alike" "_law_alike" (defArgs st__law_alike) (defBody st__law_alike) (defScope st__law_alike) .none kV17 dc17 pm17 an17 cd17 ct17), sl17⟩) (c17 : PySem.W.codeIn K cd17 "_law_alike" = true) (k17 : PySem.W.keepIn K (.ref f17) = true)
    {f18 : Addr} {od18 an18 : Option Addr} {sl18 : Array (Option Value)} {oc18 kV18 dc18 pm18 cd18 ct18 : Value}
    (a18 : PySem.W.nsIn K mainGlobals "are_right" = some (some (.ref f18))) (l18 : K.lookup f18 = some ⟨oc18, od18, .func (PySem.W.fnOf "are_right" "are_right" (defArgs st_are_right) (defBody st_are_right) (defScope st_are_right) .none kV18 dc18 pm18 an18 cd18 ct18), sl18⟩) (c18 : PySem.W.codeIn K cd18 "are_right" = true) (k18 : PySem.W.keepIn K (.ref f18) = true)
    {f19 : Addr} {od19 an19 : Option Addr} {sl19 : Array (Option Value)} {oc19 kV19 dc19 pm19 cd19 ct19 : Value}
    (a19 : PySem.W.nsIn K mainGlobals "are_rows" = some (some (.ref f19))) (l19 : K.lookup f19 = some ⟨oc19, od19, .func (PySem.W.fnOf "are_rows" "are_rows" (defArgs st_are_rows) (defBody st_are_rows) (defScope st_are_rows) .none kV19 dc19 pm19 an19 cd19 ct19), sl19⟩) (c19 : PySem.W.codeIn K cd19 "are_rows" = true) (k19 : PySem.W.keepIn K (.ref f19) = true)
    {f20 : Addr} {od20 an20 : Option Addr} {sl20 : Array (Option Value)} {oc20 kV20 dc20 pm20 cd20 ct20 : Value}
    (a20 : PySem.W.findIn K (.ref C_Plan) "__init__" = some (some (.ref f20))) (i20 : PySem.W.isFn K (.ref f20) = true) (l20 : K.lookup f20 = some ⟨oc20, od20, .func (PySem.W.fnOf "__init__" "Plan.__init__" (defArgs st_Plan_init) (defBody st_Plan_init) (defScope st_Plan_init) .none kV20 dc20 pm20 an20 cd20 ct20), sl20⟩) (c20 : PySem.W.codeIn K cd20 "Plan.__init__" = true) (k20 : PySem.W.keepIn K (.ref f20) = true)
    {f21 : Addr} {od21 an21 : Option Addr} {sl21 : Array (Option Value)} {oc21 kV21 dc21 pm21 cd21 ct21 : Value}
    (a21 : PySem.W.nsIn K mainGlobals "_law_mixed" = some (some (.ref f21))) (l21 : K.lookup f21 = some ⟨oc21, od21, .func (PySem.W.fnOf "_law_mixed" "_law_mixed" (defArgs st__law_mixed) (defBody st__law_mixed) (defScope st__law_mixed) .none kV21 dc21 pm21 an21 cd21 ct21), sl21⟩) (c21 : PySem.W.codeIn K cd21 "_law_mixed" = true) (k21 : PySem.W.keepIn K (.ref f21) = true)
    {f22 : Addr} {od22 an22 : Option Addr} {sl22 : Array (Option Value)} {oc22 kV22 dc22 pm22 cd22 ct22 : Value}
    (a22 : PySem.W.nsIn K mainGlobals "_law_slots" = some (some (.ref f22))) (l22 : K.lookup f22 = some ⟨oc22, od22, .func (PySem.W.fnOf "_law_slots" "_law_slots" (defArgs st__law_slots) (defBody st__law_slots) (defScope st__law_slots) .none kV22 dc22 pm22 an22 cd22 ct22), sl22⟩) (c22 : PySem.W.codeIn K cd22 "_law_slots" = true) (k22 : PySem.W.keepIn K (.ref f22) = true)
    {f23 : Addr} {od23 an23 : Option Addr} {sl23 : Array (Option Value)} {oc23 kV23 dc23 pm23 cd23 ct23 : Value}
    (a23 : PySem.W.nsIn K mainGlobals "_law_standard" = some (some (.ref f23))) (l23 : K.lookup f23 = some ⟨oc23, od23, .func (PySem.W.fnOf "_law_standard" "_law_standard" (defArgs st__law_standard) (defBody st__law_standard) (defScope st__law_standard) .none kV23 dc23 pm23 an23 cd23 ct23), sl23⟩) (c23 : PySem.W.codeIn K cd23 "_law_standard" = true) (k23 : PySem.W.keepIn K (.ref f23) = true)
    {f24 : Addr} {od24 an24 : Option Addr} {sl24 : Array (Option Value)} {oc24 kV24 dc24 pm24 cd24 ct24 : Value}
    (a24 : PySem.W.nsIn K mainGlobals "_law_plan" = some (some (.ref f24))) (l24 : K.lookup f24 = some ⟨oc24, od24, .func (PySem.W.fnOf "_law_plan" "_law_plan" (defArgs st__law_plan) (defBody st__law_plan) (defScope st__law_plan) .none kV24 dc24 pm24 an24 cd24 ct24), sl24⟩) (c24 : PySem.W.codeIn K cd24 "_law_plan" = true) (k24 : PySem.W.keepIn K (.ref f24) = true)
    {f25 : Addr} {od25 an25 : Option Addr} {sl25 : Array (Option Value)} {oc25 kV25 dc25 pm25 cd25 ct25 : Value}
    (a25 : PySem.W.nsIn K mainGlobals "_law_plans" = some (some (.ref f25))) (l25 : K.lookup f25 = some ⟨oc25, od25, .func (PySem.W.fnOf "_law_plans" "_law_plans" (defArgs st__law_plans) (defBody st__law_plans) (defScope st__law_plans) .none kV25 dc25 pm25 an25 cd25 ct25), sl25⟩) (c25 : PySem.W.codeIn K cd25 "_law_plans" = true) (k25 : PySem.W.keepIn K (.ref f25) = true)
    {f26 : Addr} {od26 an26 : Option Addr} {sl26 : Array (Option Value)} {oc26 kV26 dc26 pm26 cd26 ct26 : Value}
    (a26 : PySem.W.nsIn K mainGlobals "_law_turned" = some (some (.ref f26))) (l26 : K.lookup f26 = some ⟨oc26, od26, .func (PySem.W.fnOf "_law_turned" "_law_turned" (defArgs st__law_turned) (defBody st__law_turned) (defScope st__law_turned) .none kV26 dc26 pm26 an26 cd26 ct26), sl26⟩) (c26 : PySem.W.codeIn K cd26 "_law_turned" = true) (k26 : PySem.W.keepIn K (.ref f26) = true)
    {f27 : Addr} {od27 an27 : Option Addr} {sl27 : Array (Option Value)} {oc27 kV27 dc27 pm27 cd27 ct27 : Value}
    (a27 : PySem.W.nsIn K mainGlobals "_law_one" = some (some (.ref f27))) (l27 : K.lookup f27 = some ⟨oc27, od27, .func (PySem.W.fnOf "_law_one" "_law_one" (defArgs st__law_one) (defBody st__law_one) (defScope st__law_one) .none kV27 dc27 pm27 an27 cd27 ct27), sl27⟩) (c27 : PySem.W.codeIn K cd27 "_law_one" = true) (k27 : PySem.W.keepIn K (.ref f27) = true)
    {f28 : Addr} {od28 an28 : Option Addr} {sl28 : Array (Option Value)} {oc28 kV28 dc28 pm28 cd28 ct28 : Value}
    (a28 : PySem.W.nsIn K mainGlobals "slots" = some (some (.ref f28))) (l28 : K.lookup f28 = some ⟨oc28, od28, .func (PySem.W.fnOf "slots" "slots" (defArgs st_slots) (defBody st_slots) (defScope st_slots) .none kV28 dc28 pm28 an28 cd28 ct28), sl28⟩) (c28 : PySem.W.codeIn K cd28 "slots" = true) (k28 : PySem.W.keepIn K (.ref f28) = true)
    {f29 : Addr} {od29 an29 : Option Addr} {sl29 : Array (Option Value)} {oc29 kV29 dc29 pm29 cd29 ct29 : Value}
    (a29 : PySem.W.findIn K (.ref C_Plan) "turned" = some (some (.ref f29))) (i29 : PySem.W.isFn K (.ref f29) = true) (l29 : K.lookup f29 = some ⟨oc29, od29, .func (PySem.W.fnOf "turned" "Plan.turned" (defArgs st_Plan_turned) (defBody st_Plan_turned) (defScope st_Plan_turned) .none kV29 dc29 pm29 an29 cd29 ct29), sl29⟩) (c29 : PySem.W.codeIn K cd29 "Plan.turned" = true) (k29 : PySem.W.keepIn K (.ref f29) = true)
    {f30 : Addr} {od30 an30 : Option Addr} {sl30 : Array (Option Value)} {oc30 kV30 dc30 pm30 cd30 ct30 : Value}
    (a30 : PySem.W.nsIn K mainGlobals "asked_slots" = some (some (.ref f30))) (l30 : K.lookup f30 = some ⟨oc30, od30, .func (PySem.W.fnOf "asked_slots" "asked_slots" (defArgs st_asked_slots) (defBody st_asked_slots) (defScope st_asked_slots) .none kV30 dc30 pm30 an30 cd30 ct30), sl30⟩) (c30 : PySem.W.codeIn K cd30 "asked_slots" = true) (k30 : PySem.W.keepIn K (.ref f30) = true)
    {f31 : Addr} {od31 an31 : Option Addr} {sl31 : Array (Option Value)} {oc31 kV31 dc31 pm31 cd31 ct31 : Value}
    (a31 : PySem.W.nsIn K mainGlobals "_law_has_tags" = some (some (.ref f31))) (l31 : K.lookup f31 = some ⟨oc31, od31, .func (PySem.W.fnOf "_law_has_tags" "_law_has_tags" (defArgs st__law_has_tags) (defBody st__law_has_tags) (defScope st__law_has_tags) .none kV31 dc31 pm31 an31 cd31 ct31), sl31⟩) (c31 : PySem.W.codeIn K cd31 "_law_has_tags" = true) (k31 : PySem.W.keepIn K (.ref f31) = true)
    {f32 : Addr} {od32 an32 : Option Addr} {sl32 : Array (Option Value)} {oc32 kV32 dc32 pm32 cd32 ct32 : Value}
    (a32 : PySem.W.nsIn K mainGlobals "_law_has_fields" = some (some (.ref f32))) (l32 : K.lookup f32 = some ⟨oc32, od32, .func (PySem.W.fnOf "_law_has_fields" "_law_has_fields" (defArgs st__law_has_fields) (defBody st__law_has_fields) (defScope st__law_has_fields) .none kV32 dc32 pm32 an32 cd32 ct32), sl32⟩) (c32 : PySem.W.codeIn K cd32 "_law_has_fields" = true) (k32 : PySem.W.keepIn K (.ref f32) = true)
    {f33 : Addr} {od33 an33 : Option Addr} {sl33 : Array (Option Value)} {oc33 kV33 dc33 pm33 cd33 ct33 : Value}
    (a33 : PySem.W.nsIn K mainGlobals "_law_is_open" = some (some (.ref f33))) (l33 : K.lookup f33 = some ⟨oc33, od33, .func (PySem.W.fnOf "_law_is_open" "_law_is_open" (defArgs st__law_is_open) (defBody st__law_is_open) (defScope st__law_is_open) .none kV33 dc33 pm33 an33 cd33 ct33), sl33⟩) (c33 : PySem.W.codeIn K cd33 "_law_is_open" = true) (k33 : PySem.W.keepIn K (.ref f33) = true)
    {f34 : Addr} {od34 an34 : Option Addr} {sl34 : Array (Option Value)} {oc34 kV34 dc34 pm34 cd34 ct34 : Value}
    (a34 : PySem.W.nsIn K mainGlobals "_law_asked" = some (some (.ref f34))) (l34 : K.lookup f34 = some ⟨oc34, od34, .func (PySem.W.fnOf "_law_asked" "_law_asked" (defArgs st__law_asked) (defBody st__law_asked) (defScope st__law_asked) .none kV34 dc34 pm34 an34 cd34 ct34), sl34⟩) (c34 : PySem.W.codeIn K cd34 "_law_asked" = true) (k34 : PySem.W.keepIn K (.ref f34) = true)
    {f35 : Addr} {od35 an35 : Option Addr} {sl35 : Array (Option Value)} {oc35 kV35 dc35 pm35 cd35 ct35 : Value}
    (a35 : PySem.W.nsIn K mainGlobals "_law_holds" = some (some (.ref f35))) (l35 : K.lookup f35 = some ⟨oc35, od35, .func (PySem.W.fnOf "_law_holds" "_law_holds" (defArgs st__law_holds) (defBody st__law_holds) (defScope st__law_holds) .none kV35 dc35 pm35 an35 cd35 ct35), sl35⟩) (c35 : PySem.W.codeIn K cd35 "_law_holds" = true) (k35 : PySem.W.keepIn K (.ref f35) = true)
    {f36 : Addr} {od36 an36 : Option Addr} {sl36 : Array (Option Value)} {oc36 kV36 dc36 pm36 cd36 ct36 : Value}
    (a36 : PySem.W.nsIn K mainGlobals "_law_broken" = some (some (.ref f36))) (l36 : K.lookup f36 = some ⟨oc36, od36, .func (PySem.W.fnOf "_law_broken" "_law_broken" (defArgs st__law_broken) (defBody st__law_broken) (defScope st__law_broken) .none kV36 dc36 pm36 an36 cd36 ct36), sl36⟩) (c36 : PySem.W.codeIn K cd36 "_law_broken" = true) (k36 : PySem.W.keepIn K (.ref f36) = true)
    {f37 : Addr} {od37 an37 : Option Addr} {sl37 : Array (Option Value)} {oc37 kV37 dc37 pm37 cd37 ct37 : Value}
    (a37 : PySem.W.nsIn K mainGlobals "_law_asked_slots" = some (some (.ref f37))) (l37 : K.lookup f37 = some ⟨oc37, od37, .func (PySem.W.fnOf "_law_asked_slots" "_law_asked_slots" (defArgs st__law_asked_slots) (defBody st__law_asked_slots) (defScope st__law_asked_slots) .none kV37 dc37 pm37 an37 cd37 ct37), sl37⟩) (c37 : PySem.W.codeIn K cd37 "_law_asked_slots" = true) (k37 : PySem.W.keepIn K (.ref f37) = true)
    {f38 : Addr} {od38 an38 : Option Addr} {sl38 : Array (Option Value)} {oc38 kV38 dc38 pm38 cd38 ct38 : Value}
    (a38 : PySem.W.nsIn K mainGlobals "_law_class" = some (some (.ref f38))) (l38 : K.lookup f38 = some ⟨oc38, od38, .func (PySem.W.fnOf "_law_class" "_law_class" (defArgs st__law_class) (defBody st__law_class) (defScope st__law_class) .none kV38 dc38 pm38 an38 cd38 ct38), sl38⟩) (c38 : PySem.W.codeIn K cd38 "_law_class" = true) (k38 : PySem.W.keepIn K (.ref f38) = true)
    {f39 : Addr} {od39 an39 : Option Addr} {sl39 : Array (Option Value)} {oc39 kV39 dc39 pm39 cd39 ct39 : Value}
    (a39 : PySem.W.nsIn K mainGlobals "_law_bag" = some (some (.ref f39))) (l39 : K.lookup f39 = some ⟨oc39, od39, .func (PySem.W.fnOf "_law_bag" "_law_bag" (defArgs st__law_bag) (defBody st__law_bag) (defScope st__law_bag) .none kV39 dc39 pm39 an39 cd39 ct39), sl39⟩) (c39 : PySem.W.codeIn K cd39 "_law_bag" = true) (k39 : PySem.W.keepIn K (.ref f39) = true)
    {f40 : Addr} {od40 an40 : Option Addr} {sl40 : Array (Option Value)} {oc40 kV40 dc40 pm40 cd40 ct40 : Value}
    (a40 : PySem.W.nsIn K mainGlobals "law" = some (some (.ref f40))) (l40 : K.lookup f40 = some ⟨oc40, od40, .func (PySem.W.fnOf "law" "law" (defArgs st_law) (defBody st_law) (defScope st_law) .none kV40 dc40 pm40 an40 cd40 ct40), sl40⟩) (c40 : PySem.W.codeIn K cd40 "law" = true) (k40 : PySem.W.keepIn K (.ref f40) = true)
    (z_abs : PySem.W.nsIn K mainGlobals "abs" = some none)
    (z_all : PySem.W.nsIn K mainGlobals "all" = some none)
    (z_dict : PySem.W.nsIn K mainGlobals "dict" = some none)
    (z_int : PySem.W.nsIn K mainGlobals "int" = some none)
    (z_isinstance : PySem.W.nsIn K mainGlobals "isinstance" = some none)
    (z_len : PySem.W.nsIn K mainGlobals "len" = some none)
    (z_list : PySem.W.nsIn K mainGlobals "list" = some none)
    (z_range : PySem.W.nsIn K mainGlobals "range" = some none)
    (z_repr : PySem.W.nsIn K mainGlobals "repr" = some none)
    (z_set : PySem.W.nsIn K mainGlobals "set" = some none)
    (z_sorted : PySem.W.nsIn K mainGlobals "sorted" = some none)
    (z_str : PySem.W.nsIn K mainGlobals "str" = some none)
    (z_tuple : PySem.W.nsIn K mainGlobals "tuple" = some none)
    {u_BUT_LAST : Value} (y_BUT_LAST : PySem.W.nsIn K mainGlobals "BUT_LAST" = some (some u_BUT_LAST)) (x_BUT_LAST : wrD K 9 u_BUT_LAST = some c_BUT_LAST)
    {u_TOGETHER : Value} (y_TOGETHER : PySem.W.nsIn K mainGlobals "TOGETHER" = some (some u_TOGETHER)) (x_TOGETHER : wrD K 9 u_TOGETHER = some c_TOGETHER)
    {a_EVEN : Addr} (y_EVEN : PySem.W.nsIn K mainGlobals "EVEN" = some (some (.ref a_EVEN))) (q_EVEN : He.dicW K a_EVEN = some (He.keysIn w.params ["addin", "addout", "base", "dropin", "dropout", "fields", "hand", "keep", "known", "linkmany", "linkseq", "make", "many", "on", "putin", "putout", "rec", "seq", "tag", "tags", "widen"])) (x_EVEN : wrK K 9 a_EVEN = some d_EVEN)
    {a_LINKS : Addr} (y_LINKS : PySem.W.nsIn K mainGlobals "LINKS" = some (some (.ref a_LINKS))) (q_LINKS : He.dicW K a_LINKS = some (He.keysIn w.params ["linkbase", "linkcase", "linkfields", "linklook"])) (x_LINKS : wrK K 9 a_LINKS = some d_LINKS)
    {a_VALUES : Addr} (y_VALUES : PySem.W.nsIn K mainGlobals "VALUES" = some (some (.ref a_VALUES))) (q_VALUES : He.dicW K a_VALUES = some (He.keysIn w.params ["addin", "addout", "case", "deedbase", "defmany", "defseq", "dropin", "dropout", "fields", "from", "hand", "handbase", "keep", "known", "look", "make", "on", "putin", "putout", "rec", "tag", "tags", "usemany", "useseq", "widen"])) (x_VALUES : wrK K 9 a_VALUES = some d_VALUES)
    {a_WANTED : Addr} (y_WANTED : PySem.W.nsIn K mainGlobals "WANTED" = some (some (.ref a_WANTED))) (q_WANTED : He.dicW K a_WANTED = some (He.keysIn w.params ["addin", "addout", "base", "dropin", "dropout", "fields", "hand", "keep", "known", "linkbase", "linkcase", "linkfields", "linklook", "linkmany", "linkseq", "make", "many", "on", "putin", "putout", "rec", "seq", "tag", "tags", "widen"])) (x_WANTED : wrK K 9 a_WANTED = some d_WANTED)
    : ∀ base : Heap, K.In base → base.Ns mainGlobals mg → FnG P w K mg base 9 fa F_law := by
  have cl_Plan : Cl1 K "Plan" C_Plan "its_values" p_Plan := ⟨aC_Plan, ⟨pg_Plan, ic_Plan, po_Plan, sa_Plan⟩, ⟨sA_Plan, sG_Plan, sT_Plan, sY_Plan, sI_Plan, by decide⟩⟩
  have T : Txt K w mg := ⟨PySem.W.mg_none_of X G z_abs, PySem.W.mg_none_of X G z_all, PySem.W.mg_none_of X G z_dict, PySem.W.mg_none_of X G z_int, PySem.W.mg_none_of X G z_isinstance, PySem.W.mg_none_of X G z_len, PySem.W.mg_none_of X G z_list, PySem.W.mg_none_of X G z_range, PySem.W.mg_none_of X G z_repr, PySem.W.mg_none_of X G z_set, PySem.W.mg_none_of X G z_sorted, PySem.W.mg_none_of X G z_str, PySem.W.mg_none_of X G z_tuple, ⟨_, PySem.W.mg_of X G y_BUT_LAST, x_BUT_LAST⟩, ⟨_, PySem.W.mg_of X G y_TOGETHER, x_TOGETHER⟩, ⟨_, PySem.W.mg_of X G y_EVEN, kcon_of q_EVEN x_EVEN (by decide +kernel) (by decide)⟩, ⟨_, PySem.W.mg_of X G y_LINKS, kcon_of q_LINKS x_LINKS (by decide +kernel) (by decide)⟩, ⟨_, PySem.W.mg_of X G y_VALUES, kcon_of q_VALUES x_VALUES (by decide +kernel) (by decide)⟩, ⟨_, PySem.W.mg_of X G y_WANTED, kcon_of q_WANTED x_WANTED (by decide +kernel) (by decide)⟩, ⟨_, _, cl_Plan⟩⟩
  intro base _ _
  have H__law_take : At P w K mg base (1) "_law_take" f0 F__law_take := ⟨fn__law_take (k := 0) (fun_mk (st := st__law_take) l0 c0 k0) T , PySem.W.mg_of X G a0, k0⟩
  have H_indexes_of : At P w K mg base (1) "indexes_of" f1 F_indexes_of := ⟨fn_indexes_of (k := 0) (fun_mk (st := st_indexes_of) l1 c1 k1) T , PySem.W.mg_of X G a1, k1⟩
  have H_all_asked : At P w K mg base (2) "all_asked" f2 F_all_asked := ⟨fn_all_asked (k := 1) (fun_mk (st := st_all_asked) l2 c2 k2) T (at_mono H_indexes_of (by decide)), PySem.W.mg_of X G a2, k2⟩
  have H_has_tags : At P w K mg base (1) "has_tags" f3 F_has_tags := ⟨fn_has_tags (k := 0) (fun_mk (st := st_has_tags) l3 c3 k3) T , PySem.W.mg_of X G a3, k3⟩
  have H_has_fields : At P w K mg base (1) "has_fields" f4 F_has_fields := ⟨fn_has_fields (k := 0) (fun_mk (st := st_has_fields) l4 c4 k4) T , PySem.W.mg_of X G a4, k4⟩
  have H_is_open : At P w K mg base (2) "is_open" f5 F_is_open := ⟨fn_is_open (k := 1) (fun_mk (st := st_is_open) l5 c5 k5) T (at_mono H_has_tags (by decide)) (at_mono H_has_fields (by decide)), PySem.W.mg_of X G a5, k5⟩
  have H_is_so : At P w K mg base (3) "is_so" f6 F_is_so := ⟨fn_is_so (k := 2) (fun_mk (st := st_is_so) l6 c6 k6) T (at_mono H_is_open (by decide)) (at_mono H_has_tags (by decide)) (at_mono H_has_fields (by decide)), PySem.W.mg_of X G a6, k6⟩
  have H_is_asked_in : At P w K mg base (4) "is_asked_in" f7 F_is_asked_in := ⟨fn_is_asked_in (k := 3) (fun_mk (st := st_is_asked_in) l7 c7 k7) T (at_mono H_is_so (by decide)), PySem.W.mg_of X G a7, k7⟩
  have H_asked : At P w K mg base (5) "asked" f8 F_asked := ⟨fn_asked (k := 4) (fun_mk (st := st_asked) l8 c8 k8) T (at_mono H_all_asked (by decide)) (at_mono H_is_asked_in (by decide)), PySem.W.mg_of X G a8, k8⟩
  have H_sums_of : At P w K mg base (1) "sums_of" f9 F_sums_of := ⟨fn_sums_of (k := 0) (fun_mk (st := st_sums_of) l9 c9 k9) T , PySem.W.mg_of X G a9, k9⟩
  have H_is_slot : At P w K mg base (1) "is_slot" f10 F_is_slot := ⟨fn_is_slot (k := 0) (fun_mk (st := st_is_slot) l10 c10 k10) T , PySem.W.mg_of X G a10, k10⟩
  have H_need_slot : At P w K mg base (2) "need_slot" f11 F_need_slot := ⟨fn_need_slot (k := 1) (fun_mk (st := st_need_slot) l11 c11 k11) T (at_mono H_is_slot (by decide)), PySem.W.mg_of X G a11, k11⟩
  have H_Plan_value : AtM P w K mg base (3) "Plan" "its_values" "value" f12 F_Plan_value := ⟨fn_Plan_value (k := 2) (fun_mk (st := st_Plan_value) l12 c12 k12) T (at_mono H_need_slot (by decide)), _, _, cl_Plan, ⟨a12, i12, k12⟩⟩
  have H_is_turned : At P w K mg base (4) "is_turned" f13 F_is_turned := ⟨fn_is_turned (k := 3) (fun_mk (st := st_is_turned) l13 c13 k13) T (at_monoM H_Plan_value (by decide)), PySem.W.mg_of X G a13, k13⟩
  have H_is_even : At P w K mg base (5) "is_even" f14 F_is_even := ⟨fn_is_even (k := 4) (fun_mk (st := st_is_even) l14 c14 k14) T (at_mono H_is_turned (by decide)), PySem.W.mg_of X G a14, k14⟩
  have H_holds : At P w K mg base (6) "holds" f15 F_holds := ⟨fn_holds (k := 5) (fun_mk (st := st_holds) l15 c15 k15) T (at_mono H_sums_of (by decide)) (at_mono H_is_even (by decide)), PySem.W.mg_of X G a15, k15⟩
  have H_broken : At P w K mg base (7) "broken" f16 F_broken := ⟨fn_broken (k := 6) (fun_mk (st := st_broken) l16 c16 k16) T (at_mono H_asked (by decide)) (at_mono H_holds (by decide)), PySem.W.mg_of X G a16, k16⟩
  have H__law_alike : AtB P w K mg base (1) "_law_alike" f17 F__law_alike := ⟨fn__law_alike (k := 0) (fun_mk (st := st__law_alike) l17 c17 k17) T , PySem.W.mg_of X G a17, k17⟩
  have H_are_right : At P w K mg base (8) "are_right" f18 F_are_right := ⟨fn_are_right (k := 7) (fun_mk (st := st_are_right) l18 c18 k18) T (at_mono H_broken (by decide)), PySem.W.mg_of X G a18, k18⟩
  have H_are_rows : At P w K mg base (2) "are_rows" f19 F_are_rows := ⟨fn_are_rows (k := 1) (fun_mk (st := st_are_rows) l19 c19 k19) T (at_mono H_is_slot (by decide)), PySem.W.mg_of X G a19, k19⟩
  have H_Plan_init : AtI P w K mg base (3 + 1) "Plan" "its_values" F_Plan_init := ⟨_, _, _, 3, cl_Plan, ⟨mk_Plan, a20, i20, kC_Plan⟩, fn_Plan_init (k := 2) cl_Plan (fun_mk (st := st_Plan_init) l20 c20 k20) T (at_mono H_are_rows (by decide)), PySem.W.mg_of X G aC_Plan, by decide⟩
  have H__law_mixed : At P w K mg base (2) "_law_mixed" f21 F__law_mixed := ⟨fn__law_mixed (k := 1) (fun_mk (st := st__law_mixed) l21 c21 k21) T (at_mono H__law_take (by decide)), PySem.W.mg_of X G a21, k21⟩
  have H__law_slots : At P w K mg base (1) "_law_slots" f22 F__law_slots := ⟨fn__law_slots (k := 0) (fun_mk (st := st__law_slots) l22 c22 k22) T , PySem.W.mg_of X G a22, k22⟩
  have H__law_standard : At P w K mg base (2) "_law_standard" f23 F__law_standard := ⟨fn__law_standard (k := 1) (fun_mk (st := st__law_standard) l23 c23 k23) T (at_mono H__law_slots (by decide)), PySem.W.mg_of X G a23, k23⟩
  have H__law_plan : At P w K mg base (5) "_law_plan" f24 F__law_plan := ⟨fn__law_plan (k := 4) (fun_mk (st := st__law_plan) l24 c24 k24) T (at_monoI H_Plan_init (by decide)) (at_mono H__law_take (by decide)) (at_mono H__law_mixed (by decide)) (at_mono H__law_standard (by decide)), PySem.W.mg_of X G a24, k24⟩
  have H__law_plans : At P w K mg base (6) "_law_plans" f25 F__law_plans := ⟨fn__law_plans (k := 5) (fun_mk (st := st__law_plans) l25 c25 k25) T (at_mono H__law_plan (by decide)), PySem.W.mg_of X G a25, k25⟩
  have H__law_turned : At P w K mg base (2) "_law_turned" f26 F__law_turned := ⟨fn__law_turned (k := 1) (fun_mk (st := st__law_turned) l26 c26 k26) T (at_mono H__law_slots (by decide)), PySem.W.mg_of X G a26, k26⟩
  have H__law_one : At P w K mg base (2) "_law_one" f27 F__law_one := ⟨fn__law_one (k := 1) (fun_mk (st := st__law_one) l27 c27 k27) T (at_mono H__law_take (by decide)), PySem.W.mg_of X G a27, k27⟩
  have H_slots : At P w K mg base (1) "slots" f28 F_slots := ⟨fn_slots (k := 0) (fun_mk (st := st_slots) l28 c28 k28) T , PySem.W.mg_of X G a28, k28⟩
  have H_Plan_turned : AtM P w K mg base (5) "Plan" "its_values" "turned" f29 F_Plan_turned := ⟨fn_Plan_turned (k := 4) (fun_mk (st := st_Plan_turned) l29 c29 k29) T (at_monoI H_Plan_init (by decide)) (at_mono H_need_slot (by decide)), _, _, cl_Plan, ⟨a29, i29, k29⟩⟩
  have H_asked_slots : At P w K mg base (8) "asked_slots" f30 F_asked_slots := ⟨fn_asked_slots (k := 7) (fun_mk (st := st_asked_slots) l30 c30 k30) T (at_mono H_slots (by decide)) (at_mono H_broken (by decide)) (at_monoM H_Plan_turned (by decide)) (at_monoI H_Plan_init (by decide)), PySem.W.mg_of X G a30, k30⟩
  have H__law_has_tags : At P w K mg base (1) "_law_has_tags" f31 F__law_has_tags := ⟨fn__law_has_tags (k := 0) (fun_mk (st := st__law_has_tags) l31 c31 k31) T , PySem.W.mg_of X G a31, k31⟩
  have H__law_has_fields : At P w K mg base (1) "_law_has_fields" f32 F__law_has_fields := ⟨fn__law_has_fields (k := 0) (fun_mk (st := st__law_has_fields) l32 c32 k32) T , PySem.W.mg_of X G a32, k32⟩
  have H__law_is_open : At P w K mg base (2) "_law_is_open" f33 F__law_is_open := ⟨fn__law_is_open (k := 1) (fun_mk (st := st__law_is_open) l33 c33 k33) T (at_mono H__law_has_tags (by decide)) (at_mono H__law_has_fields (by decide)), PySem.W.mg_of X G a33, k33⟩
  have H__law_asked : At P w K mg base (3) "_law_asked" f34 F__law_asked := ⟨fn__law_asked (k := 2) (fun_mk (st := st__law_asked) l34 c34 k34) T (at_mono H__law_is_open (by decide)) (at_mono H__law_has_tags (by decide)) (at_mono H__law_has_fields (by decide)), PySem.W.mg_of X G a34, k34⟩
  have H__law_holds : At P w K mg base (1) "_law_holds" f35 F__law_holds := ⟨fn__law_holds (k := 0) (fun_mk (st := st__law_holds) l35 c35 k35) T , PySem.W.mg_of X G a35, k35⟩
  have H__law_broken : At P w K mg base (4) "_law_broken" f36 F__law_broken := ⟨fn__law_broken (k := 3) (fun_mk (st := st__law_broken) l36 c36 k36) T (at_mono H__law_asked (by decide)) (at_mono H__law_holds (by decide)), PySem.W.mg_of X G a36, k36⟩
  have H__law_asked_slots : At P w K mg base (5) "_law_asked_slots" f37 F__law_asked_slots := ⟨fn__law_asked_slots (k := 4) (fun_mk (st := st__law_asked_slots) l37 c37 k37) T (at_mono H__law_slots (by decide)) (at_mono H__law_broken (by decide)) (at_mono H__law_turned (by decide)) (at_mono H__law_standard (by decide)), PySem.W.mg_of X G a37, k37⟩
  have H__law_class : At P w K mg base (3) "_law_class" f38 F__law_class := ⟨fn__law_class (k := 2) (fun_mk (st := st__law_class) l38 c38 k38) T (at_mono H__law_take (by decide)) (at_mono H__law_mixed (by decide)) (at_mono H__law_one (by decide)), PySem.W.mg_of X G a38, k38⟩
  have H__law_bag : At P w K mg base (1) "_law_bag" f39 F__law_bag := ⟨fn__law_bag (k := 0) (fun_mk (st := st__law_bag) l39 c39 k39) T , PySem.W.mg_of X G a39, k39⟩
  have H_law : At P w K mg base (9) "law" f40 F_law := ⟨fn_law (k := 8) (fun_mk (st := st_law) l40 c40 k40) T (at_mono H__law_take (by decide)) (at_mono H_broken (by decide)) (at_monoB H__law_alike (by decide)) (at_mono H_are_right (by decide)) (at_mono H__law_plans (by decide)) (at_mono H__law_turned (by decide)) (at_mono H__law_standard (by decide)) (at_mono H__law_one (by decide)) (at_mono H__law_slots (by decide)) (at_mono H_asked_slots (by decide)) (at_mono H__law_asked_slots (by decide)) (at_mono H__law_class (by decide)) (at_mono H__law_bag (by decide)), PySem.W.mg_of X G a40, k40⟩
  have e := hfa.symm.trans H_law.2.1
  cases e
  exact H_law.1
end Lw
set_option maxHeartbeats 200000
namespace Lw
open Tv L2 PySem
variable [LamT]
local macro_rules
  | `(tactic| and_intros) => `(tactic| repeat (first
    | with_reducible refine Step.h ?_
    | ((with_reducible refine IsC.h ?_); first
       | ((with_reducible apply e_notW); rfl)
       | ((with_reducible apply e_starW); rfl)
       | ((with_reducible apply e_p); rfl)
       | ((with_reducible apply e_v); rfl)
       | ((with_reducible apply e_pb); rfl)
       | ((with_reducible apply e_kixW); rfl; rfl)
       | ((with_reducible apply e_kinW0); rfl)
       | ((with_reducible apply e_kinW1); rfl)
       | ((with_reducible apply e_dixW); rfl; rfl)
       | ((with_reducible apply e_revW); rfl)
       | ((with_reducible apply e_revAL); rfl)
       | ((with_reducible apply e_revAT); rfl)
       | ((with_reducible apply e_lrgW); rfl; omega; omega)
       | ((with_reducible apply e_dctW); rfl; rfl)
       | ((with_reducible apply e_meth2); rfl)
       | ((with_reducible apply e_attW); rfl)
       | ((with_reducible apply e_isiY); rfl; decide)
       | ((with_reducible apply e_isiOy); rfl; decide)
       | ((with_reducible apply e_isiOn); rfl; decide)
       | ((with_reducible apply e_isiOi); rfl)
       | ((with_reducible apply e_clr); rfl)
       | ((with_reducible apply e_isiN); rfl; decide)
       | ((with_reducible apply e_isi2Y); rfl; decide)
       | ((with_reducible apply e_isi2N); rfl; decide)
       | ((with_reducible apply e_dictDW); rfl)
       | ((with_reducible apply e_dupd); rfl)
       | ((with_reducible apply e_bagPar0); rfl; rfl; decide; rfl; exact Int.ediv_nonneg (by omega) (by omega); dsimp only [List.set_cons_succ, List.set_cons_zero])
       | ((with_reducible apply e_pow); exact ⟨by decide, by decide, by decide⟩)
       | ((with_reducible apply e_zipBW); rfl; rfl)
       | ((with_reducible apply e_appPop); rfl)
       | ((with_reducible apply e_dix2); rfl; rfl)
       | ((with_reducible apply e_po); rfl)
       | ((with_reducible apply e_vo); rfl)
       | ((with_reducible apply e_onB); rfl)
       | ((with_reducible apply e_onTr); rfl)
       | ((with_reducible apply e_somW); rfl)
       | ((with_reducible apply e_mW); rfl)
       | ((with_reducible apply e_orW); rfl)
       | ((with_reducible apply e_andW); rfl)
       | ((with_reducible apply e_aug); rfl)
       | ((with_reducible apply e_mut); rfl)
       | ((with_reducible apply e_mut0); rfl)
       | ((with_reducible apply e_retV); rfl)
       | ((with_reducible apply e_retVo); rfl)
       | ((with_reducible apply e_strIW); rfl)
       | ((with_reducible apply e_enSW); rfl)
       | ((with_reducible apply e_callW); rfl)
       | ((with_reducible apply e_callXW); rfl)
       | ((with_reducible apply e_raiseW); rfl; rfl)
       | ((with_reducible apply e_xat); rfl; rfl)
       | ((with_reducible apply e_xis); rfl)
       | ((with_reducible apply e_tupW); rfl; rfl)
       | ((with_reducible apply e_lstW); rfl; rfl)
       | ((with_reducible apply e_mutW); rfl; rfl)
       | ((with_reducible apply e_setF); rfl; dsimp only [List.set_cons_succ, List.set_cons_zero])
       | ((with_reducible apply e_setO); rfl; dsimp only [List.set_cons_succ, List.set_cons_zero])
       | ((with_reducible apply e_augW); rfl; dsimp only [List.set_cons_succ, List.set_cons_zero])
       | ((with_reducible apply e_gN); rfl; dsimp only [List.set_cons_succ, List.set_cons_zero])
       | ((with_reducible apply e_parW); rfl; rfl; exact trivial; exact trivial; dsimp only [List.set_cons_succ, List.set_cons_zero, R.cell])
       | ((with_reducible apply e_chW); rfl)
       | ((with_reducible apply e_par3W); rfl; rfl; rfl; exact trivial; exact trivial; exact trivial; dsimp only [List.set_cons_succ, List.set_cons_zero, R.cell])
       | ((with_reducible apply e_callL); rfl; rfl)
       | ((with_reducible apply e_gTp); rfl)
       | ((with_reducible apply e_bag0); intro _ _)
       | ((with_reducible apply e_bag1); intro _ _ _)
       | ((with_reducible apply e_bag2); intro _ _)
       | ((with_reducible apply e_bagAug); rfl)
       | ((with_reducible apply e_modP); omega)
       | ((with_reducible apply e_bagSet0); rfl; (first | omega | exact Int.ediv_nonneg (by omega) (by omega)))
       | ((with_reducible apply e_bagSet1); rfl; exact ⟨emod_nn _ (by omega), emod_lt _ (by omega)⟩)
       | ((with_reducible apply e_forB); rfl; dsimp only [List.set_cons_succ, List.set_cons_zero])
       | ((with_reducible apply e_forBf); rfl)
       | ((with_reducible apply e_addS); (first | omega | decide))
       | ((with_reducible apply e_addL); (first | omega | decide | exact Nat.le_of_ble_eq_true rfl))
       | ((with_reducible apply e_addT); (first | omega | decide | exact Nat.le_of_ble_eq_true rfl))
       | ((with_reducible apply e_slS); (first | omega | decide))
       | ((with_reducible apply e_lenS); (first | omega | decide))
       | ((with_reducible apply e_aAddS); (first | omega | decide))
       | ((with_reducible apply e_app); (first | omega | decide | exact Nat.le_of_ble_eq_true rfl))
       | ((with_reducible apply e_ext); (first | omega | decide | exact Nat.le_of_ble_eq_true rfl))
       | ((with_reducible apply e_extT); (first | omega | decide | exact Nat.le_of_ble_eq_true rfl))
       | ((with_reducible apply e_mulI); (first | exact Or.inr ⟨by decide, by decide⟩ | exact Or.inl ⟨by decide, by decide⟩ | exact Or.inl ⟨by omega, by omega⟩ | exact Or.inr ⟨by omega, by omega⟩))
       | ((with_reducible apply e_int); (first | omega | decide | exact ⟨by omega, by omega⟩ | exact trivial))
       | ((with_reducible apply e_aInt); (first | omega | decide | exact trivial | exact ⟨by omega, by omega⟩ | exact Or.inr ⟨by decide, by decide⟩ | exact Or.inl ⟨by decide, by decide⟩ | exact Or.inl ⟨by omega, by omega⟩ | exact Or.inr ⟨by omega, by omega⟩))
       | ((with_reducible apply e_mulL); (first | decide | exact ⟨by decide, by decide, Nat.le_of_ble_eq_true rfl⟩ | exact ⟨by omega, by omega, by omega⟩))
       | ((with_reducible apply e_rngW); rfl; (first | omega | decide | exact ⟨by omega, by omega⟩))
       | ((with_reducible apply e_rng2W); rfl; (first | omega | decide | exact ⟨by omega, by omega, by omega, by omega⟩))
       | ((with_reducible apply e_ixL); rfl)
       | ((with_reducible apply e_ixT); rfl)
       | ((with_reducible apply e_inL0); rfl)
       | ((with_reducible apply e_inL1); rfl)
       | ((with_reducible apply e_inT0); rfl)
       | ((with_reducible apply e_inT1); rfl)
       | ((with_reducible apply e_sum); rfl))
    | ((with_reducible apply e_attW); rfl)
    | ((with_reducible apply e_revAL); rfl)
    | ((with_reducible apply e_revAT); rfl)
    | simp only [wipeE, hideE, frzC, Nat.reduceEqDiff, mixE, keepC, List.contains_cons, List.contains_nil, Nat.reduceBEq, Bool.or_false, Bool.or_true, Bool.false_or, Bool.true_or, reduceIte, Bool.false_eq_true, List.set_cons_succ, List.set_cons_zero, Nat.reduceAdd]
    ))
theorem sp_take : TakeF R__law_take := by
  intro n Φ h1 h2 h
  refine ⟨rfl, ?_⟩
  simp only [W__law_take, Tv.wDef, Tv.wDefB, Tv.wCallB, Tv.sSkip, Tv.sSeq, Tv.sBreak, Tv.sCont, Tv.sDrop, Tv.sRet, Tv.sRetN, Tv.sRetV, Tv.sIf, Tv.sNever, R.cell, R.ok, Tv.sSet, Tv.sAug, Tv.sMutF, Tv.sMut0, Tv.sPar, Tv.sUnp, Tv.gN, Tv.gNl, Tv.gCs, Tv.gTp, Tv.sFor, Tv.wSeqI, Tv.wRng1, Tv.wRng2, Tv.wStrI, Tv.wEnum, Tv.wEnumS, Tv.wZip, Tv.wC, Tv.wV, Tv.wP, Tv.wF, Tv.w1, Tv.w2, Tv.wB, Tv.tAnd', Tv.tOr', Tv.tNot', Tv.wAnd, Tv.wOr, Tv.wNot, Tv.wIf, Tv.truD, Tv.wTr, Tv.wNil, Tv.wCons, Tv.itemsD, Tv.wStar, Tv.frs', Tv.wTup, Tv.wLst, Tv.wN, Tv.wM, Tv.wCall, Tv.oAdd, Tv.oInt, Tv.oInt0, Tv.oLt, Tv.oLe, Tv.oGt, Tv.oGe, Tv.oEq_lst, Tv.oEq_tup, Tv.oEq_int, Tv.oEq_str, Tv.oEq_bl, Tv.oNe_int, Tv.oNe_str, Tv.oNe_bl, Tv.oIn, Tv.oIx, Tv.oSl, Tv.wNoP, Tv.wSomeP, Tv.wSl, Tv.oLen, Tv.oSum, Tv.oIntC, Tv.oMaxA, Tv.oMinA, Tv.sPar3, Tv.oList, Tv.oTuple, Tv.oAll, Tv.oAny, Tv.oMulA, Tv.oRepr, Tv.isTxt, Tv.oSplit, Tv.oJoin, Tv.oSIndex, Tv.owApp, Tv.owExt, Tv.owIns, Tv.aAdd, Tv.aInt, Tv.wOrT, Tv.wAndT, Tv.oBag_0, Tv.oBag_1, Tv.oBag_2, Tv.oBag_3, Tv.bagOk_0, Tv.bagOk_1, Tv.bagOk_2, Tv.sBagSet, Tv.sBagAug, Tv.sBagPick, Tv.wSlScr, Tv.wLc, Tv.stepD, Tv.oAbs, Tv.sRetBag, Tv.oNeg, Tv.tYes', R.d, List.map_cons, List.map_nil, List.replicate_succ, List.replicate_zero, List.cons_append, List.nil_append, List.append_nil, List.getElem?_cons_zero, List.getElem?_cons_succ, List.set_cons_zero, List.set_cons_succ, List.length_cons, List.length_nil, Option.map_some, Option.map_none, reduceIte, Int.reduceEq, Int.reduceLT, Int.reduceLE, Int.reduceNeg, Nat.reduceAdd, Nat.reduceLT, Nat.reduceLeDiff, Nat.reduceEqDiff, Nat.reduceSub, Nat.reduceMul, and_true, true_and, true_implies, forall_const, Bool.true_and, Bool.and_true, Option.isSome_some, Option.some.injEq, forall_eq', Cell.fr.injEq, R.fr.injEq, D.int.injEq, Bool.false_eq_true, decide_true, decide_false, Bool.not_true, Bool.not_false, Tv.mixE, Tv.wipeE, Tv.keepC, List.contains_cons, List.contains_nil, Nat.reduceBEq, Bool.or_false, Bool.or_true, Bool.false_or, Bool.true_or]
  repeat' (first | intro _ | refine ⟨?_, ?_⟩ | split)
  all_goals first
    | rfl
    | omega
    | exact Or.inr ⟨by decide, by decide⟩
    | exact Or.inl ⟨by decide, by decide⟩
    | exact Or.inl ⟨by omega, by omega⟩
    | exact ⟨by omega, by omega⟩
    | exact emod_nn _ (by omega)
    | exact emod_lt _ (by omega)
    | exact Int.ediv_nonneg (by omega) (by omega)
    | exact h _ (emod_nn _ (by omega)) (emod_lt _ (by omega))
    | (refine ⟨?_, ?_⟩ <;> decide)
theorem sp_bag : BagF R__law_bag := by
  intro Φ h
  refine ⟨rfl, ?_⟩
  simp only [W__law_bag, Tv.wDef, Tv.wDefB, Tv.wCallB, Tv.sSkip, Tv.sSeq, Tv.sBreak, Tv.sCont, Tv.sDrop, Tv.sRet, Tv.sRetN, Tv.sRetV, Tv.sIf, Tv.sNever, R.cell, R.ok, Tv.sSet, Tv.sAug, Tv.sMutF, Tv.sMut0, Tv.sPar, Tv.sUnp, Tv.gN, Tv.gNl, Tv.gCs, Tv.gTp, Tv.sFor, Tv.wSeqI, Tv.wRng1, Tv.wRng2, Tv.wStrI, Tv.wEnum, Tv.wEnumS, Tv.wZip, Tv.wC, Tv.wV, Tv.wP, Tv.wF, Tv.w1, Tv.w2, Tv.wB, Tv.tAnd', Tv.tOr', Tv.tNot', Tv.wAnd, Tv.wOr, Tv.wNot, Tv.wIf, Tv.truD, Tv.wTr, Tv.wNil, Tv.wCons, Tv.itemsD, Tv.wStar, Tv.frs', Tv.wTup, Tv.wLst, Tv.wN, Tv.wM, Tv.wCall, Tv.oAdd, Tv.oInt, Tv.oInt0, Tv.oLt, Tv.oLe, Tv.oGt, Tv.oGe, Tv.oEq_lst, Tv.oEq_tup, Tv.oEq_int, Tv.oEq_str, Tv.oEq_bl, Tv.oNe_int, Tv.oNe_str, Tv.oNe_bl, Tv.oIn, Tv.oIx, Tv.oSl, Tv.wNoP, Tv.wSomeP, Tv.wSl, Tv.oLen, Tv.oSum, Tv.oIntC, Tv.oMaxA, Tv.oMinA, Tv.sPar3, Tv.oList, Tv.oTuple, Tv.oAll, Tv.oAny, Tv.oMulA, Tv.oRepr, Tv.isTxt, Tv.oSplit, Tv.oJoin, Tv.oSIndex, Tv.owApp, Tv.owExt, Tv.owIns, Tv.aAdd, Tv.aInt, Tv.wOrT, Tv.wAndT, Tv.oBag_0, Tv.oBag_1, Tv.oBag_2, Tv.oBag_3, Tv.bagOk_0, Tv.bagOk_1, Tv.bagOk_2, Tv.sBagSet, Tv.sBagAug, Tv.sBagPick, Tv.wSlScr, Tv.wLc, Tv.stepD, Tv.oAbs, Tv.sRetBag, Tv.oNeg, Tv.tYes', R.d, List.map_cons, List.map_nil, List.replicate_succ, List.replicate_zero, List.cons_append, List.nil_append, List.append_nil, List.getElem?_cons_zero, List.getElem?_cons_succ, List.set_cons_zero, List.set_cons_succ, List.length_cons, List.length_nil, Option.map_some, Option.map_none, reduceIte, Int.reduceEq, Int.reduceLT, Int.reduceLE, Int.reduceNeg, Nat.reduceAdd, Nat.reduceLT, Nat.reduceLeDiff, Nat.reduceEqDiff, Nat.reduceSub, Nat.reduceMul, and_true, true_and, true_implies, forall_const, Bool.true_and, Bool.and_true, Option.isSome_some, Option.some.injEq, forall_eq', Cell.fr.injEq, R.fr.injEq, D.int.injEq, Bool.false_eq_true, decide_true, decide_false, Bool.not_true, Bool.not_false, Tv.mixE, Tv.wipeE, Tv.keepC, List.contains_cons, List.contains_nil, Nat.reduceBEq, Bool.or_false, Bool.or_true, Bool.false_or, Bool.true_or]
  intro ns hn
  refine lcD_of (ρ := [.fr .scr, .no]) D.int (fun i => some (.int (if i < 0 then -i else i))) _ _ (fun i hi Ψ hΨ => ?_) (by simp; omega) ?_
  · simp only [Tv.wDef, Tv.wDefB, Tv.wCallB, Tv.sSkip, Tv.sSeq, Tv.sBreak, Tv.sCont, Tv.sDrop, Tv.sRet, Tv.sRetN, Tv.sRetV, Tv.sIf, Tv.sNever, R.cell, R.ok, Tv.sSet, Tv.sAug, Tv.sMutF, Tv.sMut0, Tv.sPar, Tv.sUnp, Tv.gN, Tv.gNl, Tv.gCs, Tv.gTp, Tv.sFor, Tv.wSeqI, Tv.wRng1, Tv.wRng2, Tv.wStrI, Tv.wEnum, Tv.wEnumS, Tv.wZip, Tv.wC, Tv.wV, Tv.wP, Tv.wF, Tv.w1, Tv.w2, Tv.wB, Tv.tAnd', Tv.tOr', Tv.tNot', Tv.wAnd, Tv.wOr, Tv.wNot, Tv.wIf, Tv.truD, Tv.wTr, Tv.wNil, Tv.wCons, Tv.itemsD, Tv.wStar, Tv.frs', Tv.wTup, Tv.wLst, Tv.wN, Tv.wM, Tv.wCall, Tv.oAdd, Tv.oInt, Tv.oInt0, Tv.oLt, Tv.oLe, Tv.oGt, Tv.oGe, Tv.oEq_lst, Tv.oEq_tup, Tv.oEq_int, Tv.oEq_str, Tv.oEq_bl, Tv.oNe_int, Tv.oNe_str, Tv.oNe_bl, Tv.oIn, Tv.oIx, Tv.oSl, Tv.wNoP, Tv.wSomeP, Tv.wSl, Tv.oLen, Tv.oSum, Tv.oIntC, Tv.oMaxA, Tv.oMinA, Tv.sPar3, Tv.oList, Tv.oTuple, Tv.oAll, Tv.oAny, Tv.oMulA, Tv.oRepr, Tv.isTxt, Tv.oSplit, Tv.oJoin, Tv.oSIndex, Tv.owApp, Tv.owExt, Tv.owIns, Tv.aAdd, Tv.aInt, Tv.wOrT, Tv.wAndT, Tv.oBag_0, Tv.oBag_1, Tv.oBag_2, Tv.oBag_3, Tv.bagOk_0, Tv.bagOk_1, Tv.bagOk_2, Tv.sBagSet, Tv.sBagAug, Tv.sBagPick, Tv.wSlScr, Tv.wLc, Tv.stepD, Tv.oAbs, Tv.sRetBag, Tv.oNeg, Tv.tYes', R.d, List.map_cons, List.map_nil, List.replicate_succ, List.replicate_zero, List.cons_append, List.nil_append, List.append_nil, List.getElem?_cons_zero, List.getElem?_cons_succ, List.set_cons_zero, List.set_cons_succ, List.length_cons, List.length_nil, Option.map_some, Option.map_none, reduceIte, Int.reduceEq, Int.reduceLT, Int.reduceLE, Int.reduceNeg, Nat.reduceAdd, Nat.reduceLT, Nat.reduceLeDiff, Nat.reduceEqDiff, Nat.reduceSub, Nat.reduceMul, and_true, true_and, true_implies, forall_const, Bool.true_and, Bool.and_true, Option.isSome_some, Option.some.injEq, forall_eq', Cell.fr.injEq, R.fr.injEq, D.int.injEq, Bool.false_eq_true, decide_true, decide_false, Bool.not_true, Bool.not_false, Tv.mixE, Tv.wipeE, Tv.keepC, List.contains_cons, List.contains_nil, Nat.reduceBEq, Bool.or_false, Bool.or_true, Bool.false_or, Bool.true_or]
    exact hΨ
  · rw [filterMap_some, show (ns.map fun i => D.int (if i < 0 then -i else i)) = (ns.map fun i => if i < 0 then -i else i).map D.int by rw [List.map_map]; rfl]
    simp only [Tv.wDef, Tv.wDefB, Tv.wCallB, Tv.sSkip, Tv.sSeq, Tv.sBreak, Tv.sCont, Tv.sDrop, Tv.sRet, Tv.sRetN, Tv.sRetV, Tv.sIf, Tv.sNever, R.cell, R.ok, Tv.sSet, Tv.sAug, Tv.sMutF, Tv.sMut0, Tv.sPar, Tv.sUnp, Tv.gN, Tv.gNl, Tv.gCs, Tv.gTp, Tv.sFor, Tv.wSeqI, Tv.wRng1, Tv.wRng2, Tv.wStrI, Tv.wEnum, Tv.wEnumS, Tv.wZip, Tv.wC, Tv.wV, Tv.wP, Tv.wF, Tv.w1, Tv.w2, Tv.wB, Tv.tAnd', Tv.tOr', Tv.tNot', Tv.wAnd, Tv.wOr, Tv.wNot, Tv.wIf, Tv.truD, Tv.wTr, Tv.wNil, Tv.wCons, Tv.itemsD, Tv.wStar, Tv.frs', Tv.wTup, Tv.wLst, Tv.wN, Tv.wM, Tv.wCall, Tv.oAdd, Tv.oInt, Tv.oInt0, Tv.oLt, Tv.oLe, Tv.oGt, Tv.oGe, Tv.oEq_lst, Tv.oEq_tup, Tv.oEq_int, Tv.oEq_str, Tv.oEq_bl, Tv.oNe_int, Tv.oNe_str, Tv.oNe_bl, Tv.oIn, Tv.oIx, Tv.oSl, Tv.wNoP, Tv.wSomeP, Tv.wSl, Tv.oLen, Tv.oSum, Tv.oIntC, Tv.oMaxA, Tv.oMinA, Tv.sPar3, Tv.oList, Tv.oTuple, Tv.oAll, Tv.oAny, Tv.oMulA, Tv.oRepr, Tv.isTxt, Tv.oSplit, Tv.oJoin, Tv.oSIndex, Tv.owApp, Tv.owExt, Tv.owIns, Tv.aAdd, Tv.aInt, Tv.wOrT, Tv.wAndT, Tv.oBag_0, Tv.oBag_1, Tv.oBag_2, Tv.oBag_3, Tv.bagOk_0, Tv.bagOk_1, Tv.bagOk_2, Tv.sBagSet, Tv.sBagAug, Tv.sBagPick, Tv.wSlScr, Tv.wLc, Tv.stepD, Tv.oAbs, Tv.sRetBag, Tv.oNeg, Tv.tYes', R.d, List.map_cons, List.map_nil, List.replicate_succ, List.replicate_zero, List.cons_append, List.nil_append, List.append_nil, List.getElem?_cons_zero, List.getElem?_cons_succ, List.set_cons_zero, List.set_cons_succ, List.length_cons, List.length_nil, Option.map_some, Option.map_none, reduceIte, Int.reduceEq, Int.reduceLT, Int.reduceLE, Int.reduceNeg, Nat.reduceAdd, Nat.reduceLT, Nat.reduceLeDiff, Nat.reduceEqDiff, Nat.reduceSub, Nat.reduceMul, and_true, true_and, true_implies, forall_const, Bool.true_and, Bool.and_true, Option.isSome_some, Option.some.injEq, forall_eq', Cell.fr.injEq, R.fr.injEq, D.int.injEq, Bool.false_eq_true, decide_true, decide_false, Bool.not_true, Bool.not_false, Tv.mixE, Tv.wipeE, Tv.keepC, List.contains_cons, List.contains_nil, Nat.reduceBEq, Bool.or_false, Bool.or_true, Bool.false_or, Bool.true_or]
    refine ⟨by decide, _, intsD_map _, ⟨fun n hn => ?_, by rw [List.length_map]; omega⟩, h⟩
    obtain ⟨i, _, rfl⟩ := List.mem_map.mp hn
    split <;> omega
theorem sp_one {F : WF} (ht : TakeF F) : OneF (R__law_one F) := by
  have e := sizeLine_eq
  refine ⟨fun ds Φ h0 h1 h => ?_, fun ds Φ h0 h1 h => ?_, fun x Φ h0 h1 h => ?_⟩
  · refine ⟨rfl, ?_⟩
    have hp : 0 < ds.length := List.length_pos_iff.mpr h0
    simp only [W__law_one, Tv.wDef, Tv.wDefB, Tv.wCallB, Tv.sSkip, Tv.sSeq, Tv.sBreak, Tv.sCont, Tv.sDrop, Tv.sRet, Tv.sRetN, Tv.sRetV, Tv.sIf, Tv.sNever, R.cell, R.ok, Tv.sSet, Tv.sAug, Tv.sMutF, Tv.sMut0, Tv.sPar, Tv.sUnp, Tv.gN, Tv.gNl, Tv.gCs, Tv.gTp, Tv.sFor, Tv.wSeqI, Tv.wRng1, Tv.wRng2, Tv.wStrI, Tv.wEnum, Tv.wEnumS, Tv.wZip, Tv.wC, Tv.wV, Tv.wP, Tv.wF, Tv.w1, Tv.w2, Tv.wB, Tv.tAnd', Tv.tOr', Tv.tNot', Tv.wAnd, Tv.wOr, Tv.wNot, Tv.wIf, Tv.truD, Tv.wTr, Tv.wNil, Tv.wCons, Tv.itemsD, Tv.wStar, Tv.frs', Tv.wTup, Tv.wLst, Tv.wN, Tv.wM, Tv.wCall, Tv.oAdd, Tv.oInt, Tv.oInt0, Tv.oLt, Tv.oLe, Tv.oGt, Tv.oGe, Tv.oEq_lst, Tv.oEq_tup, Tv.oEq_int, Tv.oEq_str, Tv.oEq_bl, Tv.oNe_int, Tv.oNe_str, Tv.oNe_bl, Tv.oIn, Tv.oIx, Tv.oSl, Tv.wNoP, Tv.wSomeP, Tv.wSl, Tv.oLen, Tv.oSum, Tv.oIntC, Tv.oMaxA, Tv.oMinA, Tv.sPar3, Tv.oList, Tv.oTuple, Tv.oAll, Tv.oAny, Tv.oMulA, Tv.oRepr, Tv.isTxt, Tv.oSplit, Tv.oJoin, Tv.oSIndex, Tv.owApp, Tv.owExt, Tv.owIns, Tv.aAdd, Tv.aInt, Tv.wOrT, Tv.wAndT, Tv.oBag_0, Tv.oBag_1, Tv.oBag_2, Tv.oBag_3, Tv.bagOk_0, Tv.bagOk_1, Tv.bagOk_2, Tv.sBagSet, Tv.sBagAug, Tv.sBagPick, Tv.wSlScr, Tv.wLc, Tv.stepD, Tv.oAbs, Tv.sRetBag, Tv.oNeg, Tv.tYes', R.d, List.map_cons, List.map_nil, List.replicate_succ, List.replicate_zero, List.cons_append, List.nil_append, List.append_nil, List.getElem?_cons_zero, List.getElem?_cons_succ, List.set_cons_zero, List.set_cons_succ, List.length_cons, List.length_nil, Option.map_some, Option.map_none, reduceIte, Int.reduceEq, Int.reduceLT, Int.reduceLE, Int.reduceNeg, Nat.reduceAdd, Nat.reduceLT, Nat.reduceLeDiff, Nat.reduceEqDiff, Nat.reduceSub, Nat.reduceMul, and_true, true_and, true_implies, forall_const, Bool.true_and, Bool.and_true, Option.isSome_some, Option.some.injEq, forall_eq', Cell.fr.injEq, R.fr.injEq, D.int.injEq, Bool.false_eq_true, decide_true, decide_false, Bool.not_true, Bool.not_false, Tv.mixE, Tv.wipeE, Tv.keepC, List.contains_cons, List.contains_nil, Nat.reduceBEq, Bool.or_false, Bool.or_true, Bool.false_or, Bool.true_or]
    refine ht _ _ (by omega) (by omega) fun k k0 k1 => ?_
    simp only [Tv.wDef, Tv.wDefB, Tv.wCallB, Tv.sSkip, Tv.sSeq, Tv.sBreak, Tv.sCont, Tv.sDrop, Tv.sRet, Tv.sRetN, Tv.sRetV, Tv.sIf, Tv.sNever, R.cell, R.ok, Tv.sSet, Tv.sAug, Tv.sMutF, Tv.sMut0, Tv.sPar, Tv.sUnp, Tv.gN, Tv.gNl, Tv.gCs, Tv.gTp, Tv.sFor, Tv.wSeqI, Tv.wRng1, Tv.wRng2, Tv.wStrI, Tv.wEnum, Tv.wEnumS, Tv.wZip, Tv.wC, Tv.wV, Tv.wP, Tv.wF, Tv.w1, Tv.w2, Tv.wB, Tv.tAnd', Tv.tOr', Tv.tNot', Tv.wAnd, Tv.wOr, Tv.wNot, Tv.wIf, Tv.truD, Tv.wTr, Tv.wNil, Tv.wCons, Tv.itemsD, Tv.wStar, Tv.frs', Tv.wTup, Tv.wLst, Tv.wN, Tv.wM, Tv.wCall, Tv.oAdd, Tv.oInt, Tv.oInt0, Tv.oLt, Tv.oLe, Tv.oGt, Tv.oGe, Tv.oEq_lst, Tv.oEq_tup, Tv.oEq_int, Tv.oEq_str, Tv.oEq_bl, Tv.oNe_int, Tv.oNe_str, Tv.oNe_bl, Tv.oIn, Tv.oIx, Tv.oSl, Tv.wNoP, Tv.wSomeP, Tv.wSl, Tv.oLen, Tv.oSum, Tv.oIntC, Tv.oMaxA, Tv.oMinA, Tv.sPar3, Tv.oList, Tv.oTuple, Tv.oAll, Tv.oAny, Tv.oMulA, Tv.oRepr, Tv.isTxt, Tv.oSplit, Tv.oJoin, Tv.oSIndex, Tv.owApp, Tv.owExt, Tv.owIns, Tv.aAdd, Tv.aInt, Tv.wOrT, Tv.wAndT, Tv.oBag_0, Tv.oBag_1, Tv.oBag_2, Tv.oBag_3, Tv.bagOk_0, Tv.bagOk_1, Tv.bagOk_2, Tv.sBagSet, Tv.sBagAug, Tv.sBagPick, Tv.wSlScr, Tv.wLc, Tv.stepD, Tv.oAbs, Tv.sRetBag, Tv.oNeg, Tv.tYes', R.d, List.map_cons, List.map_nil, List.replicate_succ, List.replicate_zero, List.cons_append, List.nil_append, List.append_nil, List.getElem?_cons_zero, List.getElem?_cons_succ, List.set_cons_zero, List.set_cons_succ, List.length_cons, List.length_nil, Option.map_some, Option.map_none, reduceIte, Int.reduceEq, Int.reduceLT, Int.reduceLE, Int.reduceNeg, Nat.reduceAdd, Nat.reduceLT, Nat.reduceLeDiff, Nat.reduceEqDiff, Nat.reduceSub, Nat.reduceMul, and_true, true_and, true_implies, forall_const, Bool.true_and, Bool.and_true, Option.isSome_some, Option.some.injEq, forall_eq', Cell.fr.injEq, R.fr.injEq, D.int.injEq, Bool.false_eq_true, decide_true, decide_false, Bool.not_true, Bool.not_false, Tv.mixE, Tv.wipeE, Tv.keepC, List.contains_cons, List.contains_nil, Nat.reduceBEq, Bool.or_false, Bool.or_true, Bool.false_or, Bool.true_or]
    obtain ⟨x, hx, e⟩ := atI_nat k0 k1
    exact ⟨x, e, h x hx⟩
  · refine ⟨rfl, ?_⟩
    have hp : 0 < ds.length := List.length_pos_iff.mpr h0
    simp only [W__law_one, Tv.wDef, Tv.wDefB, Tv.wCallB, Tv.sSkip, Tv.sSeq, Tv.sBreak, Tv.sCont, Tv.sDrop, Tv.sRet, Tv.sRetN, Tv.sRetV, Tv.sIf, Tv.sNever, R.cell, R.ok, Tv.sSet, Tv.sAug, Tv.sMutF, Tv.sMut0, Tv.sPar, Tv.sUnp, Tv.gN, Tv.gNl, Tv.gCs, Tv.gTp, Tv.sFor, Tv.wSeqI, Tv.wRng1, Tv.wRng2, Tv.wStrI, Tv.wEnum, Tv.wEnumS, Tv.wZip, Tv.wC, Tv.wV, Tv.wP, Tv.wF, Tv.w1, Tv.w2, Tv.wB, Tv.tAnd', Tv.tOr', Tv.tNot', Tv.wAnd, Tv.wOr, Tv.wNot, Tv.wIf, Tv.truD, Tv.wTr, Tv.wNil, Tv.wCons, Tv.itemsD, Tv.wStar, Tv.frs', Tv.wTup, Tv.wLst, Tv.wN, Tv.wM, Tv.wCall, Tv.oAdd, Tv.oInt, Tv.oInt0, Tv.oLt, Tv.oLe, Tv.oGt, Tv.oGe, Tv.oEq_lst, Tv.oEq_tup, Tv.oEq_int, Tv.oEq_str, Tv.oEq_bl, Tv.oNe_int, Tv.oNe_str, Tv.oNe_bl, Tv.oIn, Tv.oIx, Tv.oSl, Tv.wNoP, Tv.wSomeP, Tv.wSl, Tv.oLen, Tv.oSum, Tv.oIntC, Tv.oMaxA, Tv.oMinA, Tv.sPar3, Tv.oList, Tv.oTuple, Tv.oAll, Tv.oAny, Tv.oMulA, Tv.oRepr, Tv.isTxt, Tv.oSplit, Tv.oJoin, Tv.oSIndex, Tv.owApp, Tv.owExt, Tv.owIns, Tv.aAdd, Tv.aInt, Tv.wOrT, Tv.wAndT, Tv.oBag_0, Tv.oBag_1, Tv.oBag_2, Tv.oBag_3, Tv.bagOk_0, Tv.bagOk_1, Tv.bagOk_2, Tv.sBagSet, Tv.sBagAug, Tv.sBagPick, Tv.wSlScr, Tv.wLc, Tv.stepD, Tv.oAbs, Tv.sRetBag, Tv.oNeg, Tv.tYes', R.d, List.map_cons, List.map_nil, List.replicate_succ, List.replicate_zero, List.cons_append, List.nil_append, List.append_nil, List.getElem?_cons_zero, List.getElem?_cons_succ, List.set_cons_zero, List.set_cons_succ, List.length_cons, List.length_nil, Option.map_some, Option.map_none, reduceIte, Int.reduceEq, Int.reduceLT, Int.reduceLE, Int.reduceNeg, Nat.reduceAdd, Nat.reduceLT, Nat.reduceLeDiff, Nat.reduceEqDiff, Nat.reduceSub, Nat.reduceMul, and_true, true_and, true_implies, forall_const, Bool.true_and, Bool.and_true, Option.isSome_some, Option.some.injEq, forall_eq', Cell.fr.injEq, R.fr.injEq, D.int.injEq, Bool.false_eq_true, decide_true, decide_false, Bool.not_true, Bool.not_false, Tv.mixE, Tv.wipeE, Tv.keepC, List.contains_cons, List.contains_nil, Nat.reduceBEq, Bool.or_false, Bool.or_true, Bool.false_or, Bool.true_or]
    refine ht _ _ (by omega) (by omega) fun k k0 k1 => ?_
    simp only [Tv.wDef, Tv.wDefB, Tv.wCallB, Tv.sSkip, Tv.sSeq, Tv.sBreak, Tv.sCont, Tv.sDrop, Tv.sRet, Tv.sRetN, Tv.sRetV, Tv.sIf, Tv.sNever, R.cell, R.ok, Tv.sSet, Tv.sAug, Tv.sMutF, Tv.sMut0, Tv.sPar, Tv.sUnp, Tv.gN, Tv.gNl, Tv.gCs, Tv.gTp, Tv.sFor, Tv.wSeqI, Tv.wRng1, Tv.wRng2, Tv.wStrI, Tv.wEnum, Tv.wEnumS, Tv.wZip, Tv.wC, Tv.wV, Tv.wP, Tv.wF, Tv.w1, Tv.w2, Tv.wB, Tv.tAnd', Tv.tOr', Tv.tNot', Tv.wAnd, Tv.wOr, Tv.wNot, Tv.wIf, Tv.truD, Tv.wTr, Tv.wNil, Tv.wCons, Tv.itemsD, Tv.wStar, Tv.frs', Tv.wTup, Tv.wLst, Tv.wN, Tv.wM, Tv.wCall, Tv.oAdd, Tv.oInt, Tv.oInt0, Tv.oLt, Tv.oLe, Tv.oGt, Tv.oGe, Tv.oEq_lst, Tv.oEq_tup, Tv.oEq_int, Tv.oEq_str, Tv.oEq_bl, Tv.oNe_int, Tv.oNe_str, Tv.oNe_bl, Tv.oIn, Tv.oIx, Tv.oSl, Tv.wNoP, Tv.wSomeP, Tv.wSl, Tv.oLen, Tv.oSum, Tv.oIntC, Tv.oMaxA, Tv.oMinA, Tv.sPar3, Tv.oList, Tv.oTuple, Tv.oAll, Tv.oAny, Tv.oMulA, Tv.oRepr, Tv.isTxt, Tv.oSplit, Tv.oJoin, Tv.oSIndex, Tv.owApp, Tv.owExt, Tv.owIns, Tv.aAdd, Tv.aInt, Tv.wOrT, Tv.wAndT, Tv.oBag_0, Tv.oBag_1, Tv.oBag_2, Tv.oBag_3, Tv.bagOk_0, Tv.bagOk_1, Tv.bagOk_2, Tv.sBagSet, Tv.sBagAug, Tv.sBagPick, Tv.wSlScr, Tv.wLc, Tv.stepD, Tv.oAbs, Tv.sRetBag, Tv.oNeg, Tv.tYes', R.d, List.map_cons, List.map_nil, List.replicate_succ, List.replicate_zero, List.cons_append, List.nil_append, List.append_nil, List.getElem?_cons_zero, List.getElem?_cons_succ, List.set_cons_zero, List.set_cons_succ, List.length_cons, List.length_nil, Option.map_some, Option.map_none, reduceIte, Int.reduceEq, Int.reduceLT, Int.reduceLE, Int.reduceNeg, Nat.reduceAdd, Nat.reduceLT, Nat.reduceLeDiff, Nat.reduceEqDiff, Nat.reduceSub, Nat.reduceMul, and_true, true_and, true_implies, forall_const, Bool.true_and, Bool.and_true, Option.isSome_some, Option.some.injEq, forall_eq', Cell.fr.injEq, R.fr.injEq, D.int.injEq, Bool.false_eq_true, decide_true, decide_false, Bool.not_true, Bool.not_false, Tv.mixE, Tv.wipeE, Tv.keepC, List.contains_cons, List.contains_nil, Nat.reduceBEq, Bool.or_false, Bool.or_true, Bool.false_or, Bool.true_or]
    obtain ⟨x, hx, e⟩ := atI_nat k0 k1
    exact ⟨x, e, h x hx⟩
  · refine ⟨rfl, ?_⟩
    simp only [W__law_one, Tv.wDef, Tv.wDefB, Tv.wCallB, Tv.sSkip, Tv.sSeq, Tv.sBreak, Tv.sCont, Tv.sDrop, Tv.sRet, Tv.sRetN, Tv.sRetV, Tv.sIf, Tv.sNever, R.cell, R.ok, Tv.sSet, Tv.sAug, Tv.sMutF, Tv.sMut0, Tv.sPar, Tv.sUnp, Tv.gN, Tv.gNl, Tv.gCs, Tv.gTp, Tv.sFor, Tv.wSeqI, Tv.wRng1, Tv.wRng2, Tv.wStrI, Tv.wEnum, Tv.wEnumS, Tv.wZip, Tv.wC, Tv.wV, Tv.wP, Tv.wF, Tv.w1, Tv.w2, Tv.wB, Tv.tAnd', Tv.tOr', Tv.tNot', Tv.wAnd, Tv.wOr, Tv.wNot, Tv.wIf, Tv.truD, Tv.wTr, Tv.wNil, Tv.wCons, Tv.itemsD, Tv.wStar, Tv.frs', Tv.wTup, Tv.wLst, Tv.wN, Tv.wM, Tv.wCall, Tv.oAdd, Tv.oInt, Tv.oInt0, Tv.oLt, Tv.oLe, Tv.oGt, Tv.oGe, Tv.oEq_lst, Tv.oEq_tup, Tv.oEq_int, Tv.oEq_str, Tv.oEq_bl, Tv.oNe_int, Tv.oNe_str, Tv.oNe_bl, Tv.oIn, Tv.oIx, Tv.oSl, Tv.wNoP, Tv.wSomeP, Tv.wSl, Tv.oLen, Tv.oSum, Tv.oIntC, Tv.oMaxA, Tv.oMinA, Tv.sPar3, Tv.oList, Tv.oTuple, Tv.oAll, Tv.oAny, Tv.oMulA, Tv.oRepr, Tv.isTxt, Tv.oSplit, Tv.oJoin, Tv.oSIndex, Tv.owApp, Tv.owExt, Tv.owIns, Tv.aAdd, Tv.aInt, Tv.wOrT, Tv.wAndT, Tv.oBag_0, Tv.oBag_1, Tv.oBag_2, Tv.oBag_3, Tv.bagOk_0, Tv.bagOk_1, Tv.bagOk_2, Tv.sBagSet, Tv.sBagAug, Tv.sBagPick, Tv.wSlScr, Tv.wLc, Tv.stepD, Tv.oAbs, Tv.sRetBag, Tv.oNeg, Tv.tYes', R.d, List.map_cons, List.map_nil, List.replicate_succ, List.replicate_zero, List.cons_append, List.nil_append, List.append_nil, List.getElem?_cons_zero, List.getElem?_cons_succ, List.set_cons_zero, List.set_cons_succ, List.length_cons, List.length_nil, Option.map_some, Option.map_none, reduceIte, Int.reduceEq, Int.reduceLT, Int.reduceLE, Int.reduceNeg, Nat.reduceAdd, Nat.reduceLT, Nat.reduceLeDiff, Nat.reduceEqDiff, Nat.reduceSub, Nat.reduceMul, and_true, true_and, true_implies, forall_const, Bool.true_and, Bool.and_true, Option.isSome_some, Option.some.injEq, forall_eq', Cell.fr.injEq, R.fr.injEq, D.int.injEq, Bool.false_eq_true, decide_true, decide_false, Bool.not_true, Bool.not_false, Tv.mixE, Tv.wipeE, Tv.keepC, List.contains_cons, List.contains_nil, Nat.reduceBEq, Bool.or_false, Bool.or_true, Bool.false_or, Bool.true_or]
    refine ⟨by omega, ht _ _ (by omega) (by omega) fun k k0 k1 => ?_⟩
    simp only [Tv.wDef, Tv.wDefB, Tv.wCallB, Tv.sSkip, Tv.sSeq, Tv.sBreak, Tv.sCont, Tv.sDrop, Tv.sRet, Tv.sRetN, Tv.sRetV, Tv.sIf, Tv.sNever, R.cell, R.ok, Tv.sSet, Tv.sAug, Tv.sMutF, Tv.sMut0, Tv.sPar, Tv.sUnp, Tv.gN, Tv.gNl, Tv.gCs, Tv.gTp, Tv.sFor, Tv.wSeqI, Tv.wRng1, Tv.wRng2, Tv.wStrI, Tv.wEnum, Tv.wEnumS, Tv.wZip, Tv.wC, Tv.wV, Tv.wP, Tv.wF, Tv.w1, Tv.w2, Tv.wB, Tv.tAnd', Tv.tOr', Tv.tNot', Tv.wAnd, Tv.wOr, Tv.wNot, Tv.wIf, Tv.truD, Tv.wTr, Tv.wNil, Tv.wCons, Tv.itemsD, Tv.wStar, Tv.frs', Tv.wTup, Tv.wLst, Tv.wN, Tv.wM, Tv.wCall, Tv.oAdd, Tv.oInt, Tv.oInt0, Tv.oLt, Tv.oLe, Tv.oGt, Tv.oGe, Tv.oEq_lst, Tv.oEq_tup, Tv.oEq_int, Tv.oEq_str, Tv.oEq_bl, Tv.oNe_int, Tv.oNe_str, Tv.oNe_bl, Tv.oIn, Tv.oIx, Tv.oSl, Tv.wNoP, Tv.wSomeP, Tv.wSl, Tv.oLen, Tv.oSum, Tv.oIntC, Tv.oMaxA, Tv.oMinA, Tv.sPar3, Tv.oList, Tv.oTuple, Tv.oAll, Tv.oAny, Tv.oMulA, Tv.oRepr, Tv.isTxt, Tv.oSplit, Tv.oJoin, Tv.oSIndex, Tv.owApp, Tv.owExt, Tv.owIns, Tv.aAdd, Tv.aInt, Tv.wOrT, Tv.wAndT, Tv.oBag_0, Tv.oBag_1, Tv.oBag_2, Tv.oBag_3, Tv.bagOk_0, Tv.bagOk_1, Tv.bagOk_2, Tv.sBagSet, Tv.sBagAug, Tv.sBagPick, Tv.wSlScr, Tv.wLc, Tv.stepD, Tv.oAbs, Tv.sRetBag, Tv.oNeg, Tv.tYes', R.d, List.map_cons, List.map_nil, List.replicate_succ, List.replicate_zero, List.cons_append, List.nil_append, List.append_nil, List.getElem?_cons_zero, List.getElem?_cons_succ, List.set_cons_zero, List.set_cons_succ, List.length_cons, List.length_nil, Option.map_some, Option.map_none, reduceIte, Int.reduceEq, Int.reduceLT, Int.reduceLE, Int.reduceNeg, Nat.reduceAdd, Nat.reduceLT, Nat.reduceLeDiff, Nat.reduceEqDiff, Nat.reduceSub, Nat.reduceMul, and_true, true_and, true_implies, forall_const, Bool.true_and, Bool.and_true, Option.isSome_some, Option.some.injEq, forall_eq', Cell.fr.injEq, R.fr.injEq, D.int.injEq, Bool.false_eq_true, decide_true, decide_false, Bool.not_true, Bool.not_false, Tv.mixE, Tv.wipeE, Tv.keepC, List.contains_cons, List.contains_nil, Nat.reduceBEq, Bool.or_false, Bool.or_true, Bool.false_or, Bool.true_or]
    obtain ⟨c, hx, e⟩ := atI_nat (xs := x.cps.toList) k0 (by simpa [Str.length] using k1)
    exact ⟨by omega, c, e, h c hx⟩
theorem sp_alike : AlikeF R__law_alike := by
  intro d Φ hd h
  have hd' := hd
  unfold okR at hd'
  simp only [Bool.and_eq_true, decide_eq_true_eq] at hd'
  refine ⟨rfl, ?_⟩
  simp only [W__law_alike, Tv.wDef, Tv.wDefB, Tv.wCallB, Tv.sSkip, Tv.sSeq, Tv.sBreak, Tv.sCont, Tv.sDrop, Tv.sRet, Tv.sRetN, Tv.sRetV, Tv.sIf, Tv.sNever, R.cell, R.ok, Tv.sSet, Tv.sAug, Tv.sMutF, Tv.sMut0, Tv.sPar, Tv.sUnp, Tv.gN, Tv.gNl, Tv.gCs, Tv.gTp, Tv.sFor, Tv.wSeqI, Tv.wRng1, Tv.wRng2, Tv.wStrI, Tv.wEnum, Tv.wEnumS, Tv.wZip, Tv.wC, Tv.wV, Tv.wP, Tv.wF, Tv.w1, Tv.w2, Tv.wB, Tv.tAnd', Tv.tOr', Tv.tNot', Tv.wAnd, Tv.wOr, Tv.wNot, Tv.wIf, Tv.truD, Tv.wTr, Tv.wNil, Tv.wCons, Tv.itemsD, Tv.wStar, Tv.frs', Tv.wTup, Tv.wLst, Tv.wN, Tv.wM, Tv.wCall, Tv.oAdd, Tv.oInt, Tv.oInt0, Tv.oLt, Tv.oLe, Tv.oGt, Tv.oGe, Tv.oEq_lst, Tv.oEq_tup, Tv.oEq_int, Tv.oEq_str, Tv.oEq_bl, Tv.oNe_int, Tv.oNe_str, Tv.oNe_bl, Tv.oIn, Tv.oIx, Tv.oSl, Tv.wNoP, Tv.wSomeP, Tv.wSl, Tv.oLen, Tv.oSum, Tv.oIntC, Tv.oMaxA, Tv.oMinA, Tv.sPar3, Tv.oList, Tv.oTuple, Tv.oAll, Tv.oAny, Tv.oMulA, Tv.oRepr, Tv.isTxt, Tv.oSplit, Tv.oJoin, Tv.oSIndex, Tv.owApp, Tv.owExt, Tv.owIns, Tv.aAdd, Tv.aInt, Tv.wOrT, Tv.wAndT, Tv.oBag_0, Tv.oBag_1, Tv.oBag_2, Tv.oBag_3, Tv.bagOk_0, Tv.bagOk_1, Tv.bagOk_2, Tv.sBagSet, Tv.sBagAug, Tv.sBagPick, Tv.wSlScr, Tv.wLc, Tv.stepD, Tv.oAbs, Tv.sRetBag, Tv.oNeg, Tv.tYes', R.d, List.map_cons, List.map_nil, List.replicate_succ, List.replicate_zero, List.cons_append, List.nil_append, List.append_nil, List.getElem?_cons_zero, List.getElem?_cons_succ, List.set_cons_zero, List.set_cons_succ, List.length_cons, List.length_nil, Option.map_some, Option.map_none, reduceIte, Int.reduceEq, Int.reduceLT, Int.reduceLE, Int.reduceNeg, Nat.reduceAdd, Nat.reduceLT, Nat.reduceLeDiff, Nat.reduceEqDiff, Nat.reduceSub, Nat.reduceMul, and_true, true_and, true_implies, forall_const, Bool.true_and, Bool.and_true, Option.isSome_some, Option.some.injEq, forall_eq', Cell.fr.injEq, R.fr.injEq, D.int.injEq, Bool.false_eq_true, decide_true, decide_false, Bool.not_true, Bool.not_false, Tv.mixE, Tv.wipeE, Tv.keepC, List.contains_cons, List.contains_nil, Nat.reduceBEq, Bool.or_false, Bool.or_true, Bool.false_or, Bool.true_or]
  refine oEq_self hd'.1.1 ?_
  simp only [Tv.wDef, Tv.wDefB, Tv.wCallB, Tv.sSkip, Tv.sSeq, Tv.sBreak, Tv.sCont, Tv.sDrop, Tv.sRet, Tv.sRetN, Tv.sRetV, Tv.sIf, Tv.sNever, R.cell, R.ok, Tv.sSet, Tv.sAug, Tv.sMutF, Tv.sMut0, Tv.sPar, Tv.sUnp, Tv.gN, Tv.gNl, Tv.gCs, Tv.gTp, Tv.sFor, Tv.wSeqI, Tv.wRng1, Tv.wRng2, Tv.wStrI, Tv.wEnum, Tv.wEnumS, Tv.wZip, Tv.wC, Tv.wV, Tv.wP, Tv.wF, Tv.w1, Tv.w2, Tv.wB, Tv.tAnd', Tv.tOr', Tv.tNot', Tv.wAnd, Tv.wOr, Tv.wNot, Tv.wIf, Tv.truD, Tv.wTr, Tv.wNil, Tv.wCons, Tv.itemsD, Tv.wStar, Tv.frs', Tv.wTup, Tv.wLst, Tv.wN, Tv.wM, Tv.wCall, Tv.oAdd, Tv.oInt, Tv.oInt0, Tv.oLt, Tv.oLe, Tv.oGt, Tv.oGe, Tv.oEq_lst, Tv.oEq_tup, Tv.oEq_int, Tv.oEq_str, Tv.oEq_bl, Tv.oNe_int, Tv.oNe_str, Tv.oNe_bl, Tv.oIn, Tv.oIx, Tv.oSl, Tv.wNoP, Tv.wSomeP, Tv.wSl, Tv.oLen, Tv.oSum, Tv.oIntC, Tv.oMaxA, Tv.oMinA, Tv.sPar3, Tv.oList, Tv.oTuple, Tv.oAll, Tv.oAny, Tv.oMulA, Tv.oRepr, Tv.isTxt, Tv.oSplit, Tv.oJoin, Tv.oSIndex, Tv.owApp, Tv.owExt, Tv.owIns, Tv.aAdd, Tv.aInt, Tv.wOrT, Tv.wAndT, Tv.oBag_0, Tv.oBag_1, Tv.oBag_2, Tv.oBag_3, Tv.bagOk_0, Tv.bagOk_1, Tv.bagOk_2, Tv.sBagSet, Tv.sBagAug, Tv.sBagPick, Tv.wSlScr, Tv.wLc, Tv.stepD, Tv.oAbs, Tv.sRetBag, Tv.oNeg, Tv.tYes', R.d, List.map_cons, List.map_nil, List.replicate_succ, List.replicate_zero, List.cons_append, List.nil_append, List.append_nil, List.getElem?_cons_zero, List.getElem?_cons_succ, List.set_cons_zero, List.set_cons_succ, List.length_cons, List.length_nil, Option.map_some, Option.map_none, reduceIte, Int.reduceEq, Int.reduceLT, Int.reduceLE, Int.reduceNeg, Nat.reduceAdd, Nat.reduceLT, Nat.reduceLeDiff, Nat.reduceEqDiff, Nat.reduceSub, Nat.reduceMul, and_true, true_and, true_implies, forall_const, Bool.true_and, Bool.and_true, Option.isSome_some, Option.some.injEq, forall_eq', Cell.fr.injEq, R.fr.injEq, D.int.injEq, Bool.false_eq_true, decide_true, decide_false, Bool.not_true, Bool.not_false, Tv.mixE, Tv.wipeE, Tv.keepC, List.contains_cons, List.contains_nil, Nat.reduceBEq, Bool.or_false, Bool.or_true, Bool.false_or, Bool.true_or, hd]
  exact h
theorem sp_mixed {Ft : WF} (ht : TakeF Ft) : MixF (R__law_mixed Ft) := by
  intro ds Φ hl h
  have esz := sizeLine_eq
  refine ⟨rfl, ?_⟩
  show W__law_mixed Ft [.fr .bag, .fr (.lst ds), .no, .no] _
  unfold W__law_mixed
  and_intros
  refine forD_inv (fun rest ρ => ∃ (es : List D) (c : Cell), (es ++ rest).Perm ds ∧ es.length ≤ 16000000 ∧ ρ = [.fr .bag, .fr (.lst ds), .ow (.lst es), c]) ?_ ?_ _ _ ⟨[], _, List.Perm.refl _, by simp, rfl⟩
  · rintro d rest ρ ⟨es, c, hp, hz, rfl⟩ nxt hx
    have hz2 : es.length + (rest.length + 1) = ds.length := by rw [← hp.length_eq, List.length_append, List.length_cons]
    and_intros
    refine ht _ _ (by omega) (by omega) fun k k0 k1 => ?_
    and_intros
    refine ⟨by omega, k0, by omega, hx _ ⟨es.take k.toNat ++ [d] ++ es.drop k.toNat, .fr d, ?_, ?_, rfl⟩⟩
    · refine List.Perm.trans ?_ hp
      have e : es ++ d :: rest = es.take k.toNat ++ (es.drop k.toNat ++ d :: rest) := by rw [← List.append_assoc, List.take_append_drop]
      rw [e, List.append_assoc, List.append_assoc]
      refine List.Perm.append_left _ ?_
      show (d :: (es.drop k.toNat ++ rest)).Perm _
      exact List.perm_middle.symm
    · simp only [List.length_append, List.length_singleton, List.length_take, List.length_drop]
      omega
  · rintro ρ ⟨es, c, hp, hz, rfl⟩
    rw [List.append_nil] at hp
    and_intros
    exact h es hp
/-! ### classes -/
def dds : List Str := ["add", "case", "cell", "drop", "let", "look", "make", "put", "rec", "tag", "widen"]
def Cls (cs : List Str) : Prop := (∀ c ∈ cs, c ∈ dds) ∧ cs.length ≤ 100
theorem dds_ok : ∀ c ∈ dds, PyData.strOk c = true := by decide +kernel
theorem Cls.ok {cs : List Str} (h : Cls cs) : ∀ c ∈ cs, PyData.strOk c = true := fun c hc => dds_ok c (h.1 c hc)
def has (cs : List Str) (x : Str) : Bool := decide (x ∈ cs)
def hf (cs : List Str) : Bool := has cs "look" && (has cs "make" || has cs "add")
def ht (cs : List Str) : Bool := has cs "case" && has cs "tag"
def ho (cs : List Str) : Bool := has cs "let" && (hf cs || ht cs)
def isSo (cs : List Str) (w : Str) : Bool := if w = "fields" then hf cs else if w = "tags" then ht cs else if w = "open" then ho cs else has cs w
section
variable {ρ : En} {i : Nat} {cs : List Str} {Φ : R → En → Prop}
theorem hf_walk (hc : ρ[i]? = some (.fr (.tup (cs.map .str)))) (hok : ∀ c ∈ cs, PyData.strOk c = true) (h : Φ (.fr (.bl (hf cs))) ρ) :
    wAndT (w2 (oIn false) (wC (.str "look")) (wP i)) (wOrT (w2 (oIn false) (wC (.str "make")) (wP i)) (w2 (oIn false) (wC (.str "add")) (wP i))) ρ Φ := by
  refine e_andT (e_2 (e_c (e_p hc (oIn_T (by decide +kernel) hok ?_))))
  refine e_andW rfl ?_
  unfold hf at h
  refine e_bool (fun c1 => ?_) (fun c1 => ?_)
  · refine e_orT (e_2 (e_c (e_p hc (oIn_T (by decide +kernel) hok ?_))))
    refine e_orW rfl ?_
    refine e_bool (fun c2 => ?_) (fun c2 => ?_)
    · rw [show has cs "look" = true from c1, show has cs "make" = true from c2] at h
      rw [c2]
      exact h
    · refine e_2 (e_c (e_p hc (oIn_T (by decide +kernel) hok ?_)))
      rw [show has cs "look" = true from c1, show has cs "make" = false from c2] at h
      exact h
  · rw [show has cs "look" = false from c1] at h
    rw [c1]
    exact h
theorem ht_walk (hc : ρ[i]? = some (.fr (.tup (cs.map .str)))) (hok : ∀ c ∈ cs, PyData.strOk c = true) (h : Φ (.fr (.bl (ht cs))) ρ) :
    wAndT (w2 (oIn false) (wC (.str "case")) (wP i)) (w2 (oIn false) (wC (.str "tag")) (wP i)) ρ Φ := by
  refine e_andT (e_2 (e_c (e_p hc (oIn_T (by decide +kernel) hok ?_))))
  refine e_andW rfl ?_
  unfold ht at h
  refine e_bool (fun c1 => ?_) (fun c1 => ?_)
  · refine e_2 (e_c (e_p hc (oIn_T (by decide +kernel) hok ?_)))
    rw [show has cs "case" = true from c1] at h
    exact h
  · rw [show has cs "case" = false from c1] at h
    rw [c1]
    exact h
end
def BoolF (F : WF) (g : List Str → Bool) : Prop := ∀ cs, Cls cs → ∀ Φ : R → Prop, Φ (.fr (.bl (g cs))) → F [.tup (cs.map .str)] Φ
theorem sp_hf : BoolF R_has_fields hf := fun cs hc Φ h => by
  refine ⟨rfl, ?_⟩
  show W_has_fields [.fr (.tup (cs.map .str))] _
  unfold W_has_fields
  refine e_ret (hf_walk (i := 0) (cs := cs) rfl hc.ok ?_)
  and_intros
  exact h
theorem sp_ht : BoolF R_has_tags ht := fun cs hc Φ h => by
  refine ⟨rfl, ?_⟩
  show W_has_tags [.fr (.tup (cs.map .str))] _
  unfold W_has_tags
  refine e_ret (ht_walk (i := 0) (cs := cs) rfl hc.ok ?_)
  and_intros
  exact h
theorem sp_ho {Ft Ff : WF} (h1 : BoolF Ft ht) (h2 : BoolF Ff hf) : BoolF (R_is_open Ft Ff) ho := fun cs hc Φ h => by
  refine ⟨rfl, ?_⟩
  show W_is_open Ft Ff [.fr (.tup (cs.map .str))] _
  unfold W_is_open
  and_intros
  refine oIn_T (by decide +kernel) hc.ok ?_
  refine e_andW rfl ?_
  unfold ho at h
  refine e_bool (fun c1 => ?_) (fun c1 => ?_)
  · rw [show has cs "let" = true from c1] at h
    and_intros
    refine h2 cs hc _ ?_
    and_intros
    refine e_bool (fun c2 => ?_) (fun c2 => ?_)
    · rw [show hf cs = true from c2] at h ⊢
      and_intros
      exact h
    · rw [show hf cs = false from c2] at h
      and_intros
      refine h1 cs hc _ ?_
      and_intros
      exact h
  · rw [show has cs "let" = false from c1] at h
    rw [c1]
    and_intros
    exact h
def SoF (F : WF) : Prop := ∀ cs, Cls cs → ∀ w, PyData.strOk w = true → ∀ Φ : R → Prop, Φ (.fr (.bl (isSo cs w))) → F [.tup (cs.map .str), .str w] Φ
theorem sp_so {Fo Ft Ff : WF} (h0 : BoolF Fo ho) (h1 : BoolF Ft ht) (h2 : BoolF Ff hf) : SoF (R_is_so Fo Ft Ff) := fun cs hc w hw Φ h => by
  refine ⟨rfl, ?_⟩
  show W_is_so Fo Ft Ff [.fr (.tup (cs.map .str)), .fr (.str w)] _
  unfold W_is_so W_is_so_t1 W_is_so_t0
  unfold isSo at h
  and_intros
  refine e_dec (fun c => ?_) (fun c => ?_)
  · rw [if_pos c] at h
    and_intros
    refine h2 cs hc _ ?_
    and_intros
    exact h
  · rw [if_neg c] at h
    and_intros
    refine e_dec (fun c => ?_) (fun c => ?_)
    · rw [if_pos c] at h
      and_intros
      refine h1 cs hc _ ?_
      and_intros
      exact h
    · rw [if_neg c] at h
      and_intros
      refine e_dec (fun c => ?_) (fun c => ?_)
      · rw [if_pos c] at h
        and_intros
        refine h0 cs hc _ ?_
        and_intros
        exact h
      · rw [if_neg c] at h
        and_intros
        refine oIn_T hw hc.ok ?_
        and_intros
        exact h
/-! ### what is asked of whom -/
def wantS : List (Str × List Str) := [("addin", ["fields", "add"]), ("addout", ["fields", "add"]), ("base", ["open"]), ("dropin", ["fields", "drop"]), ("dropout", ["fields", "drop"]), ("fields", ["open", "fields"]), ("hand", ["open"]), ("keep", ["open"]), ("known", ["open"]), ("linkbase", ["open"]), ("linkcase", ["tags"]), ("linkfields", ["open", "fields"]), ("linklook", ["fields"]), ("linkmany", ["open"]), ("linkseq", ["open"]), ("make", ["fields", "make"]), ("many", ["open"]), ("on", ["open"]), ("putin", ["fields", "put"]), ("putout", ["fields", "put"]), ("rec", ["open", "rec"]), ("seq", ["open"]), ("tag", ["tags"]), ("tags", ["open", "tags"]), ("widen", ["tags", "widen"])]
def rlsS : List Str := wantS.map (·.1)
theorem ks_want : ksD d_WANTED = rlsS.map .str := rfl
def wordsOf (r : Str) : List Str := (wantS.lookup r).getD []
theorem want_look : ∀ r ∈ rlsS, d_WANTED.lookup r = some (.tup ((wordsOf r).map .str)) := by
  intro r hr
  simp only [rlsS, wantS, List.map_cons, List.map_nil, List.mem_cons, List.not_mem_nil, or_false] at hr
  rcases hr with rfl | rfl | rfl | rfl | rfl | rfl | rfl | rfl | rfl | rfl | rfl | rfl | rfl | rfl | rfl | rfl | rfl | rfl | rfl | rfl | rfl | rfl | rfl | rfl | rfl <;> rfl
theorem words_ok : ∀ r ∈ rlsS, (∀ w ∈ wordsOf r, PyData.strOk w = true) ∧ (wordsOf r).length ≤ 2 := by decide +kernel
def askP (cs : List Str) (r : Str) : Bool := (wordsOf r).all (isSo cs)
def AskF (F : WF) : Prop := ∀ cs, Cls cs → ∀ r ∈ rlsS, ∀ Φ : R → Prop, Φ (.fr (.bl (askP cs r))) → F [.str r, .tup (cs.map .str)] Φ
theorem sp_askin {Fs : WF} (hs : SoF Fs) : AskF (R_is_asked_in Fs) := fun cs hc r hr Φ h => by
  refine ⟨rfl, ?_⟩
  show W_is_asked_in Fs [.fr (.str r), .fr (.tup (cs.map .str)), .no] _
  unfold W_is_asked_in
  and_intros
  refine e_kixW rfl (want_look r hr) ?_
  and_intros
  refine lcD_of D.str (fun w => some (.bl (isSo cs w))) _ _ (fun w hw Ψ hΨ => ?_) (by have := (words_ok r hr).2; simp; omega) ?_
  · refine ⟨by show 2 < 3; decide, ?_⟩
    dsimp only [List.set_cons_succ, List.set_cons_zero]
    and_intros
    refine hs cs hc w ((words_ok r hr).1 w hw) _ ?_
    and_intros
    exact hΨ
  · rw [filterMap_some, List.nil_append, show ((wordsOf r).map fun w => D.bl (isSo cs w)) = ((wordsOf r).map (isSo cs)).map D.bl by rw [List.map_map]; rfl]
    and_intros
    refine ⟨_, blsD_map _, ?_⟩
    and_intros
    rw [List.all_map]
    exact h
def linksS : List Str := ["linkbase", "linkcase", "linkfields", "linklook"]
def butS : List Str := ["linkmany", "linkseq"]
theorem rls_ok : ∀ r ∈ rlsS, PyData.strOk r = true := by decide +kernel
theorem link_is : ∀ r ∈ rlsS, (d_LINKS.lookup r).isSome = decide (r ∈ linksS) := by decide +kernel
theorem butS_ok : ∀ r ∈ butS, PyData.strOk r = true := by decide +kernel
def upto (n : Int) : List Int := (List.range n.toNat).map fun i => ((i : Nat) : Int)
theorem rgD_up (n : Int) : rgD 0 n = (upto n).map .int := by
  unfold rgD upto
  rw [List.map_map, Int.sub_zero]
  exact List.map_congr_left fun i _ => by
    show D.int (0 + (i : Int)) = D.int (i : Int)
    rw [Int.zero_add]
def idx (r : Str) (m : Int) : List Int := if r ∈ linksS then (if 1 < m then [-1] else []) else upto (if r ∈ butS then m - 1 else m)
def IdxF (F : WF) : Prop := ∀ r ∈ rlsS, ∀ m : Int, 1 ≤ m → m ≤ 4 → ∀ Φ : R → Prop, Φ (.ow (.lst ((idx r m).map .int))) → F [.str r, .int m] Φ
theorem sp_idx : IdxF R_indexes_of := fun r hr m m0 m1 Φ h => by
  refine ⟨rfl, ?_⟩
  show W_indexes_of [.fr (.str r), .fr (.int m)] _
  unfold W_indexes_of W_indexes_of_t0
  unfold idx at h
  and_intros
  rw [link_is r hr]
  refine e_dec (fun c => ?_) (fun c => ?_)
  · rw [if_pos c] at h
    and_intros
    refine e_dec (fun c => ?_) (fun c => ?_)
    · rw [if_pos c] at h
      and_intros
      exact h
    · rw [if_neg c] at h
      and_intros
      exact h
  · rw [if_neg c] at h
    and_intros
    refine oIn_T (ws := butS) (rls_ok r hr) butS_ok ?_
    and_intros
    refine e_dec (fun c => ?_) (fun c => ?_)
    · rw [if_pos c] at h
      and_intros
      rw [rgD_up]
      exact h
    · rw [if_neg c] at h
      and_intros
      rw [rgD_up]
      exact h
def rows (r : Str) (m : Int) : List (Str × Int) := (idx r m).map fun i => (r, i)
def allA (m : Int) : List (Str × Int) := (rlsS.map fun r => rows r m).flatten
theorem idx_len (r : Str) (m : Int) (m0 : 1 ≤ m) (m1 : m ≤ 4) : (idx r m).length ≤ 4 := by
  unfold idx
  split
  · split <;> simp
  · unfold upto
    rw [List.length_map, List.length_range]
    split <;> omega
def AllF (F : WF) : Prop := ∀ m : Int, 1 ≤ m → m ≤ 4 → ∀ Φ : R → Prop, Φ (.ow (.lst ((allA m).map pr))) → F [.int m] Φ
theorem sum_le {α : Type} (f : α → Nat) (n : Nat) : ∀ xs : List α, (∀ x ∈ xs, f x ≤ n) → (xs.map f).sum ≤ xs.length * n
  | [], _ => by simp
  | x :: xs, h => by
    have a := sum_le f n xs fun y hy => h y (List.mem_cons_of_mem _ hy)
    have b := h x List.mem_cons_self
    rw [List.map_cons, List.sum_cons, List.length_cons, Nat.add_mul, Nat.one_mul]
    omega
theorem sp_all {Fi : WF} (hi : IdxF Fi) : AllF (R_all_asked Fi) := fun m m0 m1 Φ h => by
  have esz := sizeLine_eq
  refine ⟨rfl, ?_⟩
  show W_all_asked Fi [.fr (.int m), .no, .no] _
  unfold W_all_asked
  and_intros
  rw [ks_want]
  refine lcO_of D.str (fun r => (rows r m).map pr) rlsS [] (fun r hr acc Ψ hb hΨ => ?_) ?_ ?_
  · unfold stepO
    and_intros
    refine hi r hr m m0 m1 _ ?_
    and_intros
    have e1 : ((rows r m).map pr) = (idx r m).map fun i => pr (r, i) := by unfold rows; rw [List.map_map]; rfl
    have l4 := idx_len r m m0 m1
    refine lcD_of D.int (fun i => some (pr (r, i))) _ _ (fun i hi' Ψ2 h2 => ?_) ?_ ?_
    · refine ⟨by show 2 < 3; decide, ?_⟩
      dsimp only [List.set_cons_succ, List.set_cons_zero]
      and_intros
      exact h2
    · have : ((rows r m).map pr).length = (idx r m).length := by rw [e1, List.length_map]
      omega
    · rw [filterMap_some, ← e1]
      and_intros
      exact hΨ
  · have : (rlsS.map fun x => ((rows x m).map pr).length).sum ≤ rlsS.length * 4 := sum_le _ 4 rlsS fun x _ => by
      unfold rows
      rw [List.length_map, List.length_map]
      exact idx_len x m m0 m1
    have e : rlsS.length = 25 := rfl
    simp only [List.length_nil]
    omega
  · and_intros
    rw [List.nil_append, show (rlsS.map fun r => (rows r m).map pr) = (rlsS.map fun r => rows r m).map (List.map pr) by rw [List.map_map]; rfl, ← List.map_flatten]
    exact h
def sel (cs : List Str) (m : Int) : List (Str × Int) := (allA m).filter fun q => askP cs q.1
def AskedF (F : WF) : Prop := ∀ cs, Cls cs → ∀ m : Int, 1 ≤ m → m ≤ 4 → ∀ Φ : R → Prop, Φ (.ow (.lst ((sel cs m).map pr))) → F [.tup (cs.map .str), .int m] Φ
theorem allA_fst {m : Int} {q : Str × Int} (h : q ∈ allA m) : q.1 ∈ rlsS := by
  unfold allA at h
  obtain ⟨l, hl, hq⟩ := List.mem_flatten.mp h
  obtain ⟨r, hr, rfl⟩ := List.mem_map.mp hl
  unfold rows at hq
  obtain ⟨i, _, rfl⟩ := List.mem_map.mp hq
  exact hr
theorem allA_len (m : Int) (m0 : 1 ≤ m) (m1 : m ≤ 4) : (allA m).length ≤ 100 := by
  unfold allA
  rw [List.length_flatten, List.map_map]
  have : (rlsS.map fun x => (rows x m).length).sum ≤ rlsS.length * 4 := sum_le _ 4 rlsS fun x _ => by
    unfold rows
    rw [List.length_map]
    exact idx_len x m m0 m1
  exact this
theorem sp_asked {Fl Fa : WF} (hl : AllF Fl) (ha : AskF Fa) : AskedF (R_asked Fl Fa) := fun cs hc m m0 m1 Φ h => by
  refine ⟨rfl, ?_⟩
  show W_asked Fl Fa [.fr (.tup (cs.map .str)), .fr (.int m), .no, .no] _
  unfold W_asked
  and_intros
  refine hl m m0 m1 _ ?_
  and_intros
  have al := allA_len m m0 m1
  refine lcD_of pr (fun q => if askP cs q.1 = true then some (pr q) else none) (allA m) [] (fun q hq Ψ hΨ => ?_) (by simp; omega) ?_
  · unfold stepD
    unfold pr
    and_intros
    refine ha cs hc q.1 (allA_fst hq) _ ?_
    and_intros
    refine e_bool (fun c => ?_) (fun c => ?_)
    · rw [if_pos c] at hΨ
      and_intros
      exact hΨ
    · rw [if_neg (by rw [c]; decide)] at hΨ
      and_intros
      exact hΨ
  · rw [List.nil_append, filterMap_if]
    and_intros
    exact h
/-! ### the law's own -/
def l7 : List Str := ["make", "addin", "addout", "dropin", "dropout", "putin", "putout"]
def l2 : List Str := ["tag", "linkcase"]
def l3 : List Str := ["fields", "linkfields"]
theorem so_f (cs : List Str) : isSo cs "fields" = hf cs := rfl
theorem so_t (cs : List Str) : isSo cs "tags" = ht cs := by unfold isSo; rw [if_neg (by decide +kernel), if_pos rfl]
theorem so_o (cs : List Str) : isSo cs "open" = ho cs := by unfold isSo; rw [if_neg (by decide +kernel), if_neg (by decide +kernel), if_pos rfl]
theorem so_e (cs : List Str) {w : Str} (h1 : w ≠ "fields") (h2 : w ≠ "tags") (h3 : w ≠ "open") : isSo cs w = has cs w := by unfold isSo; rw [if_neg h1, if_neg h2, if_neg h3]
theorem ask1 {cs : List Str} {r a : Str} (h : wordsOf r = ([a] : List Str)) : askP cs r = isSo cs a := by unfold askP; rw [h]; simp
theorem ask2 {cs : List Str} {r a b : Str} (h : wordsOf r = ([a, b] : List Str)) : askP cs r = (isSo cs a && isSo cs b) := by unfold askP; rw [h]; simp
/-! ### drawn classes -/
/-- a comprehension that keeps some of the parts -/
theorem lcD_some {W : WTg} {wt : WT} {we : WE} {vs : List Nat} {Φ : List D → En → Prop} {ρ : En} (P : D → Prop) : ∀ (ds acc : List D), (∀ d ∈ ds, ∀ Ψ : Option D → En → Prop, Ψ none ρ → (∀ y, P y → Ψ (some y) ρ) → stepD W wt we vs ρ d Ψ) → acc.length + ds.length ≤ 16777216 → (∀ ys : List D, ys.length ≤ ds.length → (∀ y ∈ ys, P y) → Φ (acc ++ ys) ρ) → lcD W wt we vs Φ ds acc ρ
  | [], acc, _, _, h => by have z := h [] (Nat.le_refl _) (fun _ q => by cases q); rw [List.append_nil] at z; exact z
  | d :: ds, acc, hs, hl, h => by
    have e := sizeLine_eq
    have q := hs d List.mem_cons_self (fun o ρ' => match o with
      | some y => acc.length < sizeLine ∧ lcD W wt we vs Φ ds (acc ++ [y]) ρ'
      | none => lcD W wt we vs Φ ds acc ρ') ?_ ?_
    · exact q
    · rw [List.length_cons] at hl
      exact lcD_some P ds acc (fun d hd => hs d (List.mem_cons_of_mem _ hd)) (by omega) fun ys hl' hys => h ys (by rw [List.length_cons]; omega) hys
    · rw [List.length_cons] at hl
      intro y hy
      refine ⟨by omega, lcD_some P ds (acc ++ [y]) (fun d hd => hs d (List.mem_cons_of_mem _ hd)) (by rw [List.length_append, List.length_singleton]; omega) fun ys hl' hys => ?_⟩
      rw [List.append_assoc]
      exact h (y :: ys) (by rw [List.length_cons, List.length_cons]; omega) fun z hz => by
        rcases List.mem_cons.mp hz with rfl | hz
        · exact hy
        · exact hys z hz
def DdD (d : D) : Prop := ∃ w ∈ dds, d = .str w
theorem ddD_of : ∀ ds : List D, (∀ d ∈ ds, DdD d) → ∃ ws : List Str, ds = ws.map .str ∧ ∀ w ∈ ws, w ∈ dds
  | [], _ => ⟨[], rfl, fun _ h => nomatch h⟩
  | d :: ds, h => by
    obtain ⟨w, hw, rfl⟩ := h d List.mem_cons_self
    obtain ⟨ws, rfl, hws⟩ := ddD_of ds fun d hd => h d (List.mem_cons_of_mem _ hd)
    exact ⟨w :: ws, rfl, fun z hz => by
      rcases List.mem_cons.mp hz with rfl | hz
      · exact hw
      · exact hws z hz⟩
theorem put_le (xs : List Str) : (putAll xs).length ≤ xs.length := by
  have : ∀ (l acc : List Str), (l.foldl addK acc).length ≤ acc.length + l.length := fun l => by
    induction l with
    | nil => intro acc; simp
    | cons a l ih =>
      intro acc
      rw [List.foldl_cons, List.length_cons]
      have := ih (addK acc a)
      have := addK_len acc a
      omega
  have := this xs []
  rw [List.length_nil, Nat.zero_add] at this
  exact this
/-! ### slots and their values -/
def valT : List (Str × Str × Str) := [("addin", "up", "down"), ("addout", "up", "down"), ("case", "up", "down"), ("deedbase", "zero", "one"), ("defmany", "once", "each"), ("defseq", "kind", "body"), ("dropin", "up", "down"), ("dropout", "up", "down"),
  ("fields", "less", "more"), ("from", "begin", "end"), ("hand", "use", "call"), ("handbase", "zero", "one"), ("keep", "kept", "frame"), ("known", "yes", "no"), ("look", "up", "down"), ("make", "up", "down"), ("on", "yes", "no"), ("putin", "up", "down"),
  ("putout", "up", "down"), ("rec", "applied", "bare"), ("tag", "up", "down"), ("tags", "less", "more"), ("usemany", "once", "each"), ("useseq", "kind", "body"), ("widen", "up", "down")]
def slS : List Str := valT.map (·.1)
/-- the value of a slot -/
def vof (x : Str) (b : Bool) : Str := match valT.lookup x with
  | some (a, c) => if b = true then c else a
  | none => a0
where a0 : Str := "up"
theorem sl_ok : ∀ x ∈ slS, PyData.strOk x = true ∧ PyData.strOk (vof x false) = true ∧ PyData.strOk (vof x true) = true ∧ vof x false ≠ vof x true := by decide +kernel
theorem vof_ok {x : Str} (h : x ∈ slS) (b : Bool) : PyData.strOk (vof x b) = true := by
  obtain ⟨_, h1, h2, _⟩ := sl_ok x h
  cases b <;> assumption
theorem vof_inj {x : Str} (h : x ∈ slS) (a b : Bool) : decide (vof x a = vof x b) = (a == b) := by
  obtain ⟨_, _, _, h3⟩ := sl_ok x h
  cases a <;> cases b <;> simp [h3, Ne.symm h3]
theorem sl_look : ∀ x ∈ slS, d_VALUES.lookup x = some (.tup [.str (vof x false), .str (vof x true)]) := by
  intro x hx
  simp only [slS, valT, List.map_cons, List.map_nil, List.mem_cons, List.not_mem_nil, or_false] at hx
  rcases hx with rfl | rfl | rfl | rfl | rfl | rfl | rfl | rfl | rfl | rfl | rfl | rfl | rfl | rfl | rfl | rfl | rfl | rfl | rfl | rfl | rfl | rfl | rfl | rfl | rfl <;> rfl
theorem sl_len : slS.length = 25 := by decide +kernel
theorem sl_nd : slS.Nodup := by decide +kernel
/-- where a slot stands -/
def sx (x : Str) : Nat := slS.idxOf x
/-! ### plans -/
/-- a plan, by whether each slot has its other value -/
def plP (t : Str → Bool) : List (Str × Str) := slS.map fun x => (x, vof x (t x))
def plD (t : Str → Bool) : D := .ins "Plan" ["its_values"] [dctS (plP t)]
theorem look_rows (x : Str) : ∀ ps : List (Str × Str), lookD (ps.map fun p => Sum.inr p.1) (ps.map fun p => .str p.2) (.inr x) = (ps.lookup x).map D.str
  | [] => rfl
  | p :: ps => by
    show (if (Sum.inr p.1 : Key) = .inr x then some (D.str p.2) else lookD (ps.map fun p => Sum.inr p.1) (ps.map fun p => .str p.2) (.inr x)) = _
    rw [look_rows x ps]
    obtain ⟨a, b⟩ := p
    by_cases e : a = x
    · subst e
      rw [if_pos rfl, List.lookup_cons_self]
      rfl
    · rw [if_neg (fun z => e (Sum.inr.inj z)), List.lookup_cons, show (x == a) = false by simpa using fun z => e z.symm]
theorem look_map {β : Type} (f : Str → β) : ∀ {L : List Str} {x : Str}, x ∈ L → (L.map fun x => (x, f x)).lookup x = some (f x)
  | a :: L, x, h => by
    rw [List.map_cons, List.lookup_cons]
    by_cases e : x = a
    · subst e; simp
    · rw [show (x == a) = false by simpa using e]
      exact look_map f (List.mem_of_ne_of_mem e h)
theorem sp_isslot {x : Str} (hx : x ∈ slS) : ∀ Φ : R → Prop, Φ (.fr (.bl true)) → F_is_slot [.str x] Φ := fun Φ h => by
  refine ⟨rfl, ?_⟩
  show W_is_slot [.fr (.str x)] _
  unfold W_is_slot
  and_intros
  rw [sl_look x hx]
  exact h
theorem sp_value (t : Str → Bool) {x : Str} (hx : x ∈ slS) : ∀ Φ : R → Prop, Φ (.fr (.str (vof x (t x)))) → F_Plan_value [plD t, .str x] Φ := fun Φ h => by
  refine ⟨rfl, ?_⟩
  show W_Plan_value F_need_slot [.fr (.ins "Plan" ["its_values"] [dctS (plP t)]), .fr (.str x)] _
  unfold W_Plan_value
  and_intros
  refine ⟨rfl, ?_⟩
  show W_need_slot F_is_slot [.fr (.str x)] _
  unfold W_need_slot
  and_intros
  refine sp_isslot hx _ ?_
  and_intros
  refine e_dix2 rfl ?_ h
  rw [look_rows]
  unfold plP
  rw [look_map (fun x => vof x (t x)) hx]
  rfl
theorem sp_turned (t : Str → Bool) {x : Str} (hx : x ∈ slS) : ∀ Φ : R → Prop, Φ (.fr (.bl (t x))) → F_is_turned [plD t, .str x] Φ := fun Φ h => by
  refine ⟨rfl, ?_⟩
  show W_is_turned F_Plan_value [.fr (plD t), .fr (.str x)] _
  unfold W_is_turned
  and_intros
  refine ⟨rfl, ?_⟩
  and_intros
  refine sp_value t hx _ ?_
  and_intros
  refine e_kixW rfl (sl_look x hx) ?_
  and_intros
  rw [vof_inj hx, show (!(t x == false)) = t x by cases t x <;> rfl]
  exact h
/-! ### plans are made -/
def GoodP (p : Str × Str) : Prop := p.1 ∈ slS ∧ ∃ b, p.2 = vof p.1 b
theorem itD_kv : ∀ ps : List (Str × Str), itD (ps.map fun p => Sum.inr p.1) (ps.map fun p => .str p.2) = ps.map fun p => D.tup [.str p.1, .str p.2]
  | [] => rfl
  | p :: ps => by
    show D.tup [.str p.1, .str p.2] :: itD (ps.map fun p => Sum.inr p.1) (ps.map fun p => .str p.2) = _
    rw [itD_kv ps]; rfl
theorem sp_arerows {ps : List (Str × Str)} (hp : ∀ p ∈ ps, GoodP p) (hl : ps.length ≤ 100) : ∀ Φ : R → Prop, Φ (.fr (.bl true)) → F_are_rows [dctS ps] Φ := fun Φ h => by
  have esz := sizeLine_eq
  refine ⟨rfl, ?_⟩
  show W_are_rows F_is_slot [.fr (dctS ps), .no, .no] _
  unfold W_are_rows dctS
  and_intros
  rw [List.map_map]
  refine lcD_of (fun p : Str × Str => D.str p.1) (fun _ => some (.bl true)) ps [] (fun p hp' Ψ hΨ => ?_) (by rw [List.length_nil]; omega) ?_
  · and_intros
    refine sp_isslot (hp p hp').1 _ ?_
    and_intros
    exact hΨ
  · rw [filterMap_some, List.nil_append, show (ps.map fun _ => D.bl true) = (ps.map fun _ => true).map D.bl by rw [List.map_map]; rfl]
    and_intros
    refine ⟨_, blsD_map _, ?_⟩
    rw [show ((ps.map fun _ => true).all id) = true by rw [List.all_map]; exact List.all_eq_true.mpr fun _ _ => rfl]
    and_intros
    unfold W_are_rows_t0
    and_intros
    rw [itD_kv]
    refine lcD_of (fun p : Str × Str => D.tup [.str p.1, .str p.2]) (fun _ => some (.bl true)) ps [] (fun p hp' Ψ hΨ => ?_) (by rw [List.length_nil]; omega) ?_
    · obtain ⟨hs, b, ep⟩ := hp p hp'
      and_intros
      refine e_kixW rfl (sl_look _ hs) ?_
      refine oIn_T (ws := [vof p.1 false, vof p.1 true]) ?_ ?_ ?_
      · rw [ep]; exact vof_ok hs b
      · intro y hy
        simp only [List.mem_cons, List.not_mem_nil, or_false] at hy
        rcases hy with rfl | rfl <;> exact vof_ok hs _
      · rw [show decide (p.2 ∈ [vof p.1 false, vof p.1 true]) = true by rw [decide_eq_true_iff, ep]; cases b <;> simp]
        and_intros
        exact hΨ
    · rw [filterMap_some, List.nil_append, show (ps.map fun _ => D.bl true) = (ps.map fun _ => true).map D.bl by rw [List.map_map]; rfl]
      and_intros
      refine ⟨_, blsD_map _, ?_⟩
      rw [show ((ps.map fun _ => true).all id) = true by rw [List.all_map]; exact List.all_eq_true.mpr fun _ _ => rfl]
      exact h
/-- rows that tell a plan: what they do not tell is standard -/
def Tells (ps : List (Str × Str)) (t : Str → Bool) : Prop := ∀ x ∈ slS, (ps.lookup x).getD (vof x false) = vof x (t x)
theorem sp_mk {ps : List (Str × Str)} {t : Str → Bool} (hp : ∀ p ∈ ps, GoodP p) (hl : ps.length ≤ 100) (ht : Tells ps t) : ∀ Φ : D → Prop, Φ (dctS (plP t)) → F_Plan_init [dctS ps] Φ := fun Φ h => by
  have esz := sizeLine_eq
  refine ⟨rfl, ?_⟩
  show W_Plan_init F_are_rows [.bo .unk, .fr (dctS ps), .no] _
  unfold W_Plan_init
  unfold sSeqI
  and_intros
  refine sp_arerows hp hl _ ?_
  and_intros
  unfold sSelf
  and_intros
  rw [show ksD d_VALUES = slS.map D.str from rfl]
  refine dcD_of D.str (fun x => (.inr x, .str (vof x (t x)))) slS [] [] (fun x hx Ψ hΨ => ?_) (by decide) ?_
  · unfold stepDc
    and_intros
    refine ⟨⟨_, _, rfl⟩, ?_⟩
    and_intros
    refine e_kixW rfl (sl_look x hx) ?_
    and_intros
    refine e_getW rfl rfl ?_
    rw [look_rows]
    have e : ((ps.lookup x).map D.str).getD (.str (vof x false)) = .str (vof x (t x)) := by
      rw [← ht x hx]
      cases ps.lookup x <;> rfl
    rw [e]
    exact hΨ
  · obtain ⟨a, b⟩ := mrg_kv (ps := slS.map fun x => (x, D.str (vof x (t x)))) (by rw [List.map_map]; exact (show (slS.map fun x => x).Nodup by rw [List.map_id']; exact sl_nd))
    rw [List.map_map, List.map_map, List.map_map] at a
    rw [List.map_map, List.map_map] at b
    have e : dctS (plP t) = .dct (slS.map fun x => Sum.inr x) (slS.map fun x => .str (vof x (t x))) := by
      unfold dctS plP
      rw [List.map_map, List.map_map]; rfl
    rw [e] at h
    refine ⟨rfl, ?_⟩
    have a' : mrgK [] ((slS.map fun x => ((Sum.inr x, D.str (vof x (t x))) : Key × D)).map (·.1)) = slS.map fun x => Sum.inr x := by rw [List.map_map]; exact a
    have b' : mrgD [] [] (slS.map fun x => ((Sum.inr x, D.str (vof x (t x))) : Key × D)) = slS.map fun x => .str (vof x (t x)) := b
    first
      | (rw [b']; rw [List.map_map] at a'; first | (rw [a']; exact h) | (erw [a']; exact h))
      | (erw [a', b']; exact h)
theorem plP_congr {t u : Str → Bool} (h : ∀ x ∈ slS, t x = u x) : plD t = plD u := by
  unfold plD plP
  rw [List.map_congr_left fun x hx => by rw [h x hx]]
/-! ### the plans of a mask -/
def tOf (m i : Nat) (x : Str) : Bool := m.testBit (25 * i + sx x)
def plsL (m n : Nat) : List D := (List.range n).map fun i => plD (tOf m i)
theorem pls_len (m n : Nat) : (plsL m n).length = n := by unfold plsL; rw [List.length_map, List.length_range]
/-! ### rows of slots -/
def tabS : List (Str × List Str) := [("base", ["handbase", "deedbase"]), ("seq", ["defseq", "useseq"]), ("many", ["defmany", "usemany"]), ("linkseq", ["defseq"]), ("linkmany", ["defmany"])]
def caseS : List Str := ["tag", "widen", "tags"]
def oneS : List Str := ["known", "on", "hand", "keep", "rec"]
/-- the slots of a rule of one plan -/
def sof (r : Str) : List Str := if r ∈ caseS then [r, "case"] else if r = "fields" then ["fields", "look", "from"] else match tabS.lookup r with
  | some l => l
  | none => if r ∈ oneS then [r] else [r, "look"]
theorem sof_sl : ∀ r ∈ rlsS, r ∉ linksS → (∀ s ∈ sof r, s ∈ slS) ∧ (sof r).Nodup ∧ (sof r).length ≤ 3 := by decide +kernel
def linkT : List (Str × Str) := [("linklook", "look"), ("linkcase", "case"), ("linkfields", "fields"), ("linkbase", "handbase")]
def lof (r : Str) : Str := (linkT.lookup r).getD "look"
theorem lof_sl : ∀ r ∈ linksS, lof r ∈ slS ∧ linkT.lookup r = some (lof r) ∧ d_LINKS.lookup r = some (.str (lof r)) := by
  intro r hr
  simp only [linksS, List.mem_cons, List.not_mem_nil, or_false] at hr
  rcases hr with rfl | rfl | rfl | rfl <;> exact ⟨by decide +kernel, rfl, rfl⟩
/-- the rows of a rule, as lists of bits -/
def bof (r : Str) (i : Int) (n : Nat) : List (List Nat) := if r ∈ linksS then (List.range (n - 1)).map fun k => [25 * k + sx (lof r), 25 * k + 25 + sx (lof r)] else [(sof r).map fun s => 25 * i.toNat + sx s]
/-- a rule that may be asked -/
def Ri (r : Str) (i : Int) (n : Nat) : Prop := r ∈ rlsS ∧ 1 ≤ n ∧ n ≤ 4 ∧ ((r ∈ linksS ∧ i = -1) ∨ (r ∉ linksS ∧ 0 ≤ i ∧ i < n))
theorem sx_inj {x y : Str} (hx : x ∈ slS) (hy : y ∈ slS) (h : sx x = sx y) : x = y := by
  have h1 := List.getElem_idxOf (x := x) (List.idxOf_lt_length_of_mem hx)
  have h2 := List.getElem_idxOf (x := y) (List.idxOf_lt_length_of_mem hy)
  unfold sx at h
  rw [← h1, ← h2]
  congr 1
/-! ### the law's slots of a rule -/
/-! ### the law's masks -/
/-! ### how many, even, holds -/
theorem mod_dec (k : Nat) : decide (((k : Nat) : Int) % 2 = 0) = (k % 2 == 0) := by
  rw [Bool.eq_iff_iff, decide_eq_true_iff, beq_iff_eq]
  omega
/-- whether a rule holds where just the slots of a mask are not standard -/
def evB (m : Nat) (L : List Nat) : Bool := L.countP m.testBit % 2 == 0
def hlB (m : Nat) (r : Str) (i : Int) (n : Nat) : Bool := (bof r i n).all (evB m)
/-! ### the program's sums -/
def evT : List (Str × List Str) := [("addin", ["addin", "look"]), ("addout", ["addout", "look"]), ("base", ["deedbase", "handbase"]), ("dropin", ["dropin", "look"]), ("dropout", ["dropout", "look"]), ("fields", ["fields", "from", "look"]), ("hand", ["hand"]), ("keep", ["keep"]), ("known", ["known"]),
  ("linkmany", ["defmany"]), ("linkseq", ["defseq"]), ("make", ["look", "make"]), ("many", ["defmany", "usemany"]), ("on", ["on"]), ("putin", ["look", "putin"]), ("putout", ["look", "putout"]), ("rec", ["rec"]), ("seq", ["defseq", "useseq"]), ("tag", ["case", "tag"]), ("tags", ["case", "tags"]), ("widen", ["case", "widen"])]
def evS (r : Str) : List Str := (evT.lookup r).getD []
theorem ev_look : ∀ r ∈ rlsS, r ∉ linksS → d_EVEN.lookup r = some (.tup ((evS r).map .str)) := by
  intro r hr hl
  simp only [rlsS, wantS, List.map_cons, List.map_nil, List.mem_cons, List.not_mem_nil, or_false] at hr
  rcases hr with rfl | rfl | rfl | rfl | rfl | rfl | rfl | rfl | rfl | rfl | rfl | rfl | rfl | rfl | rfl | rfl | rfl | rfl | rfl | rfl | rfl | rfl | rfl | rfl | rfl <;> first | rfl | exact absurd (by decide +kernel) hl
theorem ev_perm : ∀ r ∈ rlsS, r ∉ linksS → (evS r).isPerm (sof r) = true := by decide +kernel
def spD (p : Nat × Str) : D := .tup [.int (p.1 : Nat), .str p.2]
def smS (r : Str) (i : Int) (n : Nat) : List (List (Nat × Str)) := if r ∈ linksS then (List.range (n - 1)).map fun k => [(0, lof r), (k + 1, lof r)] else [(evS r).map fun s => (i.toNat, s)]
def SumsF (F : WF) : Prop := ∀ (r : Str) (i : Int) (n : Nat), Ri r i n → ∀ Φ : R → Prop, Φ (.ow (.lst ((smS r i n).map fun L => .tup (L.map spD)))) → F [.str r, .int i, .int (n : Nat)] Φ
theorem d_links_is {r : Str} (hr : r ∈ rlsS) : (d_LINKS.lookup r).isSome = decide (r ∈ linksS) := link_is r hr
theorem sp_sums : SumsF R_sums_of := fun r i n hR Φ h => by
  have esz := sizeLine_eq
  obtain ⟨hr, n1, n4, hc⟩ := hR
  refine ⟨rfl, ?_⟩
  show W_sums_of [.fr (.str r), .fr (.int i), .fr (.int (n : Nat)), .no, .no] _
  unfold W_sums_of
  and_intros
  rw [d_links_is hr]
  unfold smS at h
  refine e_dec (fun c => ?_) (fun c => ?_)
  · rw [if_pos c] at h
    obtain ⟨h1, h2, h3⟩ := lof_sl r c
    and_intros
    rw [show ((n : Int) - 1).toNat = n - 1 by omega, show rngD 1 (n - 1) = (List.range (n - 1)).map fun k => D.int ((k + 1 : Nat) : Int) by
      unfold rngD
      exact List.map_congr_left fun k _ => by congr 1; omega]
    refine lcD_of (fun k => D.int ((k + 1 : Nat) : Int)) (fun k => some (.tup ([(0, lof r), (k + 1, lof r)].map spD))) _ [] (fun k hk Ψ hΨ => ?_) (by rw [List.length_nil, List.length_range]; omega) ?_
    · and_intros
      refine e_kixW rfl h3 ?_
      and_intros
      refine e_kixW rfl h3 ?_
      and_intros
      exact hΨ
    · rw [filterMap_some, List.nil_append]
      and_intros
      rw [List.map_map] at h
      exact h
  · rw [if_neg c] at h
    obtain ⟨hl, i0, i1⟩ : r ∉ linksS ∧ 0 ≤ i ∧ i < n := by
      rcases hc with ⟨e, _⟩ | e
      · exact absurd e c
      · exact e
    unfold W_sums_of_t0
    and_intros
    refine e_kixW rfl (ev_look r hr c) ?_
    and_intros
    have pm := List.isPerm_iff.mp (ev_perm r hr c)
    refine lcD_of D.str (fun s => some (spD (i.toNat, s))) (evS r) [] (fun s hs Ψ hΨ => ?_) (by rw [List.length_nil, pm.length_eq]; have := (sof_sl r hr c).2.2; omega) ?_
    · and_intros
      unfold spD at hΨ
      rw [show ((i.toNat : Nat) : Int) = i by omega] at hΨ
      exact hΨ
    · rw [filterMap_some, List.nil_append]
      and_intros
      rw [List.map_cons, List.map_nil, List.map_map] at h
      exact h
/-! ### an even number of spots -/
def spT (m : Nat) (p : Nat × Str) : Bool := tOf m p.1 p.2
def EvF (F : WF) : Prop := ∀ (m n : Nat) (L : List (Nat × Str)), n ≤ 4 → L.length ≤ 3 → (∀ p ∈ L, p.1 < n ∧ p.2 ∈ slS) → ∀ Φ : R → Prop, Φ (.fr (.bl (L.countP (spT m) % 2 == 0))) → F [.lst (plsL m n), .tup (L.map spD)] Φ
theorem sp_iseven : EvF F_is_even := fun m n L hn hl hL Φ h => by
  have esz := sizeLine_eq
  refine ⟨rfl, ?_⟩
  show W_is_even F_is_turned [.fr (.lst (plsL m n)), .fr (.tup (L.map spD)), .no, .no] _
  unfold W_is_even
  and_intros
  refine lcD_of spD (fun p => if spT m p = true then some (.str p.2) else none) L [] (fun p hp Ψ hΨ => ?_) (by rw [List.length_nil]; omega) ?_
  · obtain ⟨h1, h2⟩ := hL p hp
    unfold spD
    and_intros
    refine e_ixL (d := plD (tOf m p.1)) ?_ ?_
    · unfold plsL
      rw [atI_getN (by rw [List.length_map, List.length_range]; exact h1), List.getElem_map, List.getElem_range]
    and_intros
    refine sp_turned (tOf m p.1) h2 _ ?_
    and_intros
    show if spT m p = true then _ else _
    refine e_bool (fun c => ?_) (fun c => ?_)
    · rw [c] at hΨ
      and_intros
      exact hΨ
    · rw [c] at hΨ
      and_intros
      exact hΨ
  · rw [filterMap_if, List.nil_append]
    and_intros
    rw [List.length_map, ← List.countP_eq_length_filter, mod_dec]
    exact h
theorem hl_same {m : Nat} {r : Str} {i : Int} {n : Nat} (hR : Ri r i n) : ((smS r i n).all fun L => L.countP (spT m) % 2 == 0) = hlB m r i n := by
  obtain ⟨hr, n1, n4, hc⟩ := hR
  unfold hlB smS bof
  by_cases c : r ∈ linksS
  · rw [if_pos c, if_pos c, List.all_map, List.all_map]
    have e : ∀ k, tOf m k (lof r) = m.testBit (25 * k + sx (lof r)) := fun k => rfl
    have e2 : ∀ k, 25 * k + 25 + sx (lof r) = 25 * (k + 1) + sx (lof r) := fun k => by omega
    have g1 : ∀ k, ((fun L : List (Nat × Str) => L.countP (spT m) % 2 == 0) ∘ fun k => [(0, lof r), (k + 1, lof r)]) k = (tOf m 0 (lof r) == tOf m (k + 1) (lof r)) := fun k => by
      show (List.countP (spT m) [(0, lof r), (k + 1, lof r)] % 2 == 0) = _
      unfold spT
      simp only [List.countP_cons, List.countP_nil]
      cases tOf m 0 (lof r) <;> cases tOf m (k + 1) (lof r) <;> rfl
    have g2 : ∀ k, (evB m ∘ fun k => [25 * k + sx (lof r), 25 * k + 25 + sx (lof r)]) k = (tOf m k (lof r) == tOf m (k + 1) (lof r)) := fun k => by
      show (List.countP m.testBit [25 * k + sx (lof r), 25 * k + 25 + sx (lof r)] % 2 == 0) = _
      rw [e2]
      simp only [List.countP_cons, List.countP_nil]
      rw [← e, ← e]
      cases tOf m k (lof r) <;> cases tOf m (k + 1) (lof r) <;> rfl
    rw [List.all_congr (by rfl) g1, List.all_congr (by rfl) g2]
    have n' : n = 1 ∨ n = 2 ∨ n = 3 ∨ n = 4 := by omega
    generalize (fun k => tOf m k (lof r)) = b
    rcases n' with rfl | rfl | rfl | rfl
    · rfl
    · rfl
    · show ((List.range 2).all _) = ((List.range 2).all _)
      simp only [List.range, List.range.loop, List.all_cons, List.all_nil]
      cases tOf m 0 (lof r) <;> cases tOf m 1 (lof r) <;> cases tOf m 2 (lof r) <;> rfl
    · show ((List.range 3).all _) = ((List.range 3).all _)
      simp only [List.range, List.range.loop, List.all_cons, List.all_nil]
      cases tOf m 0 (lof r) <;> cases tOf m 1 (lof r) <;> cases tOf m 2 (lof r) <;> cases tOf m 3 (lof r) <;> rfl
  · rw [if_neg c, if_neg c, List.all_cons, List.all_cons, List.all_nil, List.all_nil]
    have pm := List.isPerm_iff.mp (ev_perm r hr c)
    unfold evB
    rw [List.countP_map, List.countP_map, pm.countP_eq]
    rfl
theorem sm_ok {r : Str} {i : Int} {n : Nat} (hR : Ri r i n) : (smS r i n).length ≤ 4 ∧ ∀ L ∈ smS r i n, L.length ≤ 3 ∧ ∀ p ∈ L, p.1 < n ∧ p.2 ∈ slS := by
  obtain ⟨hr, n1, n4, hc⟩ := hR
  unfold smS
  by_cases c : r ∈ linksS
  · rw [if_pos c]
    refine ⟨by rw [List.length_map, List.length_range]; omega, fun L hL => ?_⟩
    obtain ⟨k, hk, rfl⟩ := List.mem_map.mp hL
    have := List.mem_range.mp hk
    refine ⟨by simp, fun p hp => ?_⟩
    simp only [List.mem_cons, List.not_mem_nil, or_false] at hp
    have hs := (lof_sl r c).1
    rcases hp with rfl | rfl
    · exact ⟨by show 0 < n; omega, hs⟩
    · exact ⟨by show k + 1 < n; omega, hs⟩
  · rw [if_neg c]
    obtain ⟨hl, i0, i1⟩ : r ∉ linksS ∧ 0 ≤ i ∧ i < n := by
      rcases hc with ⟨e, _⟩ | e
      · exact absurd e c
      · exact e
    have pm := List.isPerm_iff.mp (ev_perm r hr c)
    obtain ⟨h1, h2, h3⟩ := sof_sl r hr hl
    refine ⟨by simp, fun L hL => ?_⟩
    rw [List.mem_singleton.mp hL]
    refine ⟨by rw [List.length_map, pm.length_eq]; exact h3, fun p hp => ?_⟩
    obtain ⟨s, hs, rfl⟩ := List.mem_map.mp hp
    exact ⟨by show i.toNat < n; omega, h1 s (pm.mem_iff.mp hs)⟩
def PHoldF (F : WF) : Prop := ∀ (m : Nat) (r : Str) (i : Int) (n : Nat), Ri r i n → ∀ Φ : R → Prop, Φ (.fr (.bl (hlB m r i n))) → F [.lst (plsL m n), .str r, .int i] Φ
theorem sp_holds {Fs Fe : WF} (hs : SumsF Fs) (he : EvF Fe) : PHoldF (R_holds Fs Fe) := fun m r i n hR Φ h => by
  have esz := sizeLine_eq
  obtain ⟨l1, l2⟩ := sm_ok hR
  refine ⟨rfl, ?_⟩
  show W_holds Fs Fe [.fr (.lst (plsL m n)), .fr (.str r), .fr (.int i), .no] _
  unfold W_holds
  and_intros
  rw [pls_len]
  refine hs r i n hR _ ?_
  and_intros
  refine lcD_of (fun L => D.tup (L.map spD)) (fun L => some (.bl (L.countP (spT m) % 2 == 0))) (smS r i n) [] (fun L hL Ψ hΨ => ?_) (by rw [List.length_nil]; omega) ?_
  · and_intros
    refine he m n L hR.2.2.1 (l2 L hL).1 (l2 L hL).2 _ ?_
    and_intros
    exact hΨ
  · rw [filterMap_some, List.nil_append, show ((smS r i n).map fun L => D.bl (L.countP (spT m) % 2 == 0)) = ((smS r i n).map fun L => L.countP (spT m) % 2 == 0).map D.bl by rw [List.map_map]; rfl]
    and_intros
    refine ⟨_, blsD_map _, ?_⟩
    rw [List.all_map, show ((smS r i n).all (id ∘ fun L => L.countP (spT m) % 2 == 0)) = hlB m r i n from hl_same hR]
    exact h
/-! ### what is broken -/
theorem allA_ri {n : Nat} (n1 : 1 ≤ n) (n4 : n ≤ 4) {q : Str × Int} (h : q ∈ allA (n : Nat)) : Ri q.1 q.2 n := by
  have h1 := allA_fst h
  unfold allA at h
  obtain ⟨l, hl, hq⟩ := List.mem_flatten.mp h
  obtain ⟨r, hr, rfl⟩ := List.mem_map.mp hl
  unfold rows at hq
  obtain ⟨i, hi, rfl⟩ := List.mem_map.mp hq
  refine ⟨h1, n1, n4, ?_⟩
  show (r ∈ linksS ∧ i = -1) ∨ (r ∉ linksS ∧ 0 ≤ i ∧ i < n)
  unfold idx at hi
  by_cases c : r ∈ linksS
  · rw [if_pos c] at hi
    split at hi
    · exact .inl ⟨c, List.mem_singleton.mp hi⟩
    · cases hi
  · rw [if_neg c] at hi
    unfold upto at hi
    obtain ⟨j, hj, rfl⟩ := List.mem_map.mp hi
    have := List.mem_range.mp hj
    refine .inr ⟨c, by omega, ?_⟩
    split at this <;> omega
theorem sel_ri {cs : List Str} {n : Nat} (n1 : 1 ≤ n) (n4 : n ≤ 4) {q : Str × Int} (h : q ∈ sel cs (n : Nat)) : Ri q.1 q.2 n := allA_ri n1 n4 (List.mem_filter.mp h).1
def bkn (cs : List Str) (m n : Nat) : List (Str × Int) := (sel cs (n : Nat)).filter fun q => !hlB m q.1 q.2 n
theorem sel_len (cs : List Str) (n : Nat) (n1 : 1 ≤ n) (n4 : n ≤ 4) : (sel cs (n : Nat)).length ≤ 100 := by
  unfold sel
  exact Nat.le_trans (List.length_filter_le ..) (allA_len _ (by omega) (by omega))
def BrkF (F : WF) : Prop := ∀ (cs : List Str), Cls cs → ∀ (m n : Nat), 1 ≤ n → n ≤ 4 → ∀ Φ : R → Prop, Φ (.ow (.lst ((bkn cs m n).map pr))) → F [.lst (plsL m n), .tup (cs.map .str)] Φ
theorem sp_broken {Fa Fh : WF} (ha : AskedF Fa) (hh : PHoldF Fh) : BrkF (R_broken Fa Fh) := fun cs hc m n n1 n4 Φ h => by
  have esz := sizeLine_eq
  have sl := sel_len cs n n1 n4
  refine ⟨rfl, ?_⟩
  show W_broken Fa Fh [.fr (.lst (plsL m n)), .fr (.tup (cs.map .str)), .no, .no] _
  unfold W_broken
  and_intros
  rw [pls_len]
  refine ha cs hc (n : Nat) (by omega) (by omega) _ ?_
  and_intros
  refine lcD_of pr (fun q => if (!hlB m q.1 q.2 n) = true then some (pr q) else none) (sel cs (n : Nat)) [] (fun q hq Ψ hΨ => ?_) (by rw [List.length_nil]; omega) ?_
  · unfold stepD
    unfold pr
    and_intros
    refine hh m q.1 q.2 n (sel_ri n1 n4 hq) _ ?_
    and_intros
    refine e_bool (fun c => ?_) (fun c => ?_)
    · rw [c] at hΨ
      and_intros
      exact hΨ
    · rw [c] at hΨ
      and_intros
      exact hΨ
  · rw [List.nil_append, filterMap_if]
    and_intros
    exact h
def RgtF (F : WF) : Prop := ∀ (cs : List Str), Cls cs → ∀ (m n : Nat), 1 ≤ n → n ≤ 4 → ∀ Φ : R → Prop, Φ (.fr (.bl (bkn cs m n).isEmpty)) → F [.lst (plsL m n), .tup (cs.map .str)] Φ
theorem isE_map {α β : Type} (f : α → β) (l : List α) : (l.map f).isEmpty = l.isEmpty := by cases l <;> rfl
theorem sp_right {Fb : WF} (hb : BrkF Fb) : RgtF (R_are_right Fb) := fun cs hc m n n1 n4 Φ h => by
  refine ⟨rfl, ?_⟩
  show W_are_right Fb [.fr (.lst (plsL m n)), .fr (.tup (cs.map .str))] _
  unfold W_are_right
  and_intros
  refine hb cs hc m n n1 n4 _ ?_
  and_intros
  rw [isE_map]
  exact h
theorem okR_strs {L : List Str} (ho : ∀ x ∈ L, PyData.strOk x = true) (hl : ∀ x ∈ L, x.length ≤ 20) (ll : L.length ≤ 1000) : okR (.lst (L.map .str)) = true := by
  obtain ⟨a, b, c⟩ := okL_strs L ho
  have d := costL_strs 20 L hl
  have e : D.cost (.str ⟨Array.replicate 20 0⟩) = 202 := rfl
  rw [e] at d
  have g : D.good (.lst (L.map .str)) = true := a
  have dp : D.dep (.lst (L.map .str)) ≤ 64 := by show D.depL (L.map .str) + 1 ≤ 64; omega
  have sh : D.sho (.lst (L.map .str)) = true := c
  have ct : D.cost (.lst (L.map .str)) ≤ 16777216 := by show D.costL (L.map .str) + 3 ≤ 16777216; omega
  unfold okR okE
  rw [g, sh, decide_eq_true dp, decide_eq_true ct]
  rfl
def flT (x : Str) (t : Str → Bool) : Str → Bool := fun y => if y = x then !t y else t y
theorem plP_put (t : Str → Bool) {x : Str} (hx : x ∈ slS) : putKs ((plP t).map fun p => (Sum.inr p.1 : Key)) (.inr x) = (plP (flT x t)).map (fun p => Sum.inr p.1) ∧
    putDs ((plP t).map fun p => (Sum.inr p.1 : Key)) ((plP t).map fun p => D.str p.2) (.inr x) (.str (vof x (!t x))) = (plP (flT x t)).map fun p => D.str p.2 := by
  have hm : inK ((plP t).map fun p => (Sum.inr p.1 : Key)) (.inr x) = true := inK_iff.mpr (by
    unfold plP
    rw [List.map_map]
    exact List.mem_map.mpr ⟨x, hx, rfl⟩)
  unfold putKs putDs
  rw [if_pos hm, if_pos hm]
  unfold plP
  refine ⟨by rw [List.map_map, List.map_map]; rfl, ?_⟩
  rw [List.map_map, List.map_map, List.map_map]
  have : ∀ L : List Str, repD (L.map fun x => (Sum.inr x : Key)) (L.map fun y => D.str (vof y (t y))) (.inr x) (.str (vof x (!t x))) = L.map fun y => D.str (vof y (flT x t y)) := fun L => by
    induction L with
    | nil => rfl
    | cons a L ih =>
      show (if (Sum.inr a : Key) = .inr x then D.str (vof x (!t x)) else D.str (vof a (t a))) :: repD (L.map fun x => (Sum.inr x : Key)) (L.map fun y => D.str (vof y (t y))) (.inr x) (.str (vof x (!t x))) = _
      rw [ih, List.map_cons]
      congr 1
      unfold flT
      by_cases e : a = x
      · subst e; rw [if_pos rfl, if_pos rfl]
      · rw [if_neg e, if_neg fun z => e (Sum.inr.inj z)]
  exact this slS
theorem sp_pturned (t : Str → Bool) {x : Str} (hx : x ∈ slS) : ∀ Φ : R → Prop, Φ (.fr (plD (flT x t))) → F_Plan_turned [plD t, .str x] Φ := fun Φ h => by
  have esz := sizeLine_eq
  refine ⟨rfl, ?_⟩
  show W_Plan_turned F_Plan_init F_need_slot [.fr (.ins "Plan" ["its_values"] [dctS (plP t)]), .fr (.str x), .no, .no] _
  unfold W_Plan_turned
  and_intros
  refine ⟨rfl, ?_⟩
  show W_need_slot F_is_slot [.fr (.str x)] _
  unfold W_need_slot
  and_intros
  refine sp_isslot hx _ ?_
  and_intros
  refine e_kixW rfl (sl_look x hx) ?_
  and_intros
  have hl : ((plP t).map fun p => (Sum.inr p.1 : Key)).length = 25 := by unfold plP; rw [List.length_map, List.length_map, sl_len]
  refine ⟨_, _, rfl, by rw [hl]; omega, ?_⟩
  and_intros
  refine e_dix2 rfl (by rw [look_rows]; unfold plP; rw [look_map (fun x => vof x (t x)) hx]; rfl) ?_
  and_intros
  rw [vof_inj hx]
  obtain ⟨e1, e2⟩ := plP_put t hx
  have fin : F_Plan_init [dctS (plP (flT x t))] fun d => Φ (.fr (.ins "Plan" ["its_values"] [d])) := by
    refine sp_mk (ps := plP (flT x t)) (t := flT x t) (fun p hp => ?_) ?_ (fun y hy => ?_) _ h
    · obtain ⟨y, hy, rfl⟩ := List.mem_map.mp hp
      exact ⟨hy, _, rfl⟩
    · unfold plP; rw [List.length_map, sl_len]; omega
    · unfold plP
      rw [look_map (fun y => vof y (flT x t y)) hy]; rfl
  have fz : D.dct ((plP (flT x t)).map fun p => Sum.inr p.1) ((plP (flT x t)).map fun p => .str p.2) = dctS (plP (flT x t)) := rfl
  cases e : t x with
  | true =>
    rw [e] at e2
    and_intros
    rw [if_neg (by decide)]
    and_intros
    refine e_dstarW rfl ?_
    rw [e1, show vof x false = vof x (!true) from rfl, e2, fz]
    and_intros
    exact fin
  | false =>
    rw [e] at e2
    and_intros
    rw [if_pos (by decide)]
    and_intros
    refine e_dstarW rfl ?_
    rw [e1, show vof x true = vof x (!false) from rfl, e2, fz]
    and_intros
    exact fin
/-! ### what is lacking in the calculus -/
theorem putKs_new {L : List Str} {x : Str} (h : x ∉ L) : putKs (L.map (.inr : Str → Key)) (.inr x) = (L ++ [x]).map .inr := by
  have : inK (L.map (.inr : Str → Key)) (.inr x) = false := by
    rw [Bool.eq_false_iff]
    intro z
    obtain ⟨y, hy, e⟩ := List.mem_map.mp (inK_iff.mp z)
    exact h (Sum.inr.inj e ▸ hy)
  unfold putKs
  rw [if_neg (by rw [this]; decide), List.map_append]; rfl
theorem putDs_new {L : List Str} {x : Str} (h : x ∉ L) (f : List D) (d : D) : putDs (L.map (.inr : Str → Key)) f (.inr x) d = f ++ [d] := by
  have : inK (L.map (.inr : Str → Key)) (.inr x) = false := by
    rw [Bool.eq_false_iff]
    intro z
    obtain ⟨y, hy, e⟩ := List.mem_map.mp (inK_iff.mp z)
    exact h (Sum.inr.inj e ▸ hy)
  unfold putDs
  rw [if_neg (by rw [this]; decide)]
theorem strKs_inr : ∀ L : List Str, strKs (L.map (.inr : Str → Key)) = some L
  | [] => rfl
  | x :: L => by
    show (strKs (L.map (.inr : Str → Key))).map (x :: ·) = _
    rw [strKs_inr L]; rfl
section
variable {ρ : En} {wa wb wv wk : WE} {ra rb rk : R} {d : D} {F : WF} {r : R}
theorem ev_sortD {L : List Str} {ds : List D} (ha : Ev wa ρ ra) (e : ra.d = .dct (L.map .inr) ds) (l : L.length < 64) : Ev (wSortD wa) ρ (.ow (.lst ((L.mergeSort leS).map .str))) := fun Φ k => e_sortD (ha _ (e_sortDW e (strKs_inr L) l k))
theorem ev_dix {ks : List Key} {ds : List D} {x : Str} {v : D} (ha : Ev wa ρ ra) (ea : ra.d = .dct ks ds) (hb : Ev wb ρ (.fr (.str x))) (e : lookD ks ds (.inr x) = some v) : Ev (w2 oDIx wa wb) ρ (.fr v) := ev_2 ha hb fun Φ k => by
  rw [ea]; exact e_dix2 rfl e k
theorem to_dset {j : Nat} {ks : List Key} {ds : List D} {k : Key} (e : ρ[j]? = some (.ow (.dct ks ds))) (hv : Ev wv ρ (.fr d)) (hk : Ev wk ρ rk) (ek : keyD rk.d = some k) (l : ks.length < 16000000) : To (sDSet j wv wk) ρ (ρ.set j (.ow (.dct (putKs ks k) (putDs ks ds k d)))) := fun S q => e_dset (hv _ ⟨⟨_, e⟩, hk _ (e_dsetW e ek l q)⟩)
theorem ev_addL {xs ys : List D} (ha : Ev wa ρ ra) (ea : ra.d = .lst xs) (hb : Ev wb ρ rb) (eb : rb.d = .lst ys) (l : xs.length + ys.length ≤ 16777216) : Ev (w2 oAdd wa wb) ρ (.ow (.lst (xs ++ ys))) := ev_2 ha hb fun Φ k => by
  rw [ea, eb]; exact e_addL l k
theorem ev_addS {x y : Str} (ha : Ev wa ρ ra) (ea : ra.d = .str x) (hb : Ev wb ρ rb) (eb : rb.d = .str y) (l : x.length + y.length ≤ 16777216) : Ev (w2 oAdd wa wb) ρ (.fr (.str (x ++ y))) := ev_2 ha hb fun Φ k => by
  rw [ea, eb]; exact e_addS l k
theorem ev_spl {x y : Str} {ws : List Str} (e : Txt.split x y = ws) (l : (y.length == 0) = false ∧ x.length + 2 ≤ 16777216) (ha : Ev wa ρ ra) (ea : ra.d = .str x) : Ev (wM isTxt oSplit wa (wCons (wC (.str y)) wNil)) ρ (.ow (.lst (ws.map .str))) := fun Φ k => ha _ ⟨by rw [ea]; trivial, ea_cons ev_c ea_nil _ (by
  show oSplit ra.d [.str y] _
  rw [ea]
  exact e_split l (by rw [e]; exact k))⟩
theorem ev_dnew : Ev wDnew ρ (.ow (.dct [] [])) := fun Φ k => k
theorem ev_ixV {xs : List D} {y : D} (i : Nat) (h : xs[i]? = some y) (hw : Ev wa ρ ra) (e : ra.d = .tup xs ∨ ra.d = .lst xs) (hi : Ev wb ρ rb) (ei : rb.d = .int (i : Int)) : Ev (w2 oIx wa wb) ρ (.fr y) := ev_2 hw hi fun Φ k => by
  have z : atI xs ((i : Nat) : Int) = some y := atI_nat h
  rw [ei]
  rcases e with e | e
  · rw [e]; exact e_ixT z k
  · rw [e]; exact e_ixL z k
theorem ev_ixT {xs : List D} (i : Nat) (h : xs[i]? = some y) (hw : Ev wa ρ ra) (e : ra.d = .tup xs ∨ ra.d = .lst xs) : Ev (w2 oIx wa (wC (.int i))) ρ (.fr y) := ev_2 hw ev_c fun Φ k => by
  have z : atI xs ((i : Nat) : Int) = some y := atI_nat h
  rcases e with e | e
  · rw [e]; show oIx (.tup xs) (.int i) Φ; exact e_ixT z k
  · rw [e]; show oIx (.lst xs) (.int i) Φ; exact e_ixL z k
end
/-! ### the law's slots -/
def lsl : List Str := ["addin", "addout", "case", "dropin", "dropout", "look", "make", "putin", "putout", "tag", "widen", "fields", "tags", "from", "handbase", "deedbase", "known", "on", "defseq", "useseq", "defmany", "usemany", "hand", "keep", "rec"]
def w11 : List Str := ["addin", "addout", "case", "dropin", "dropout", "look", "make", "putin", "putout", "tag", "widen"]
def r6 : List Str := ["fields less more", "tags less more", "from begin end", "handbase zero one", "deedbase zero one", "known yes no"]
def r5 : List Str := ["on yes no", "defseq kind body", "useseq kind body", "defmany once each", "usemany once each"]
def r3 : List Str := ["hand use call", "keep kept frame", "rec applied bare"]
def tb2 (x : Str) : D := .tup [.str (vof x false), .str (vof x true)]
def tbD : D := .dct (lsl.map .inr) (lsl.map tb2)
def k0 : D → Str
  | .str x => x
  | _ => vof.a0
def spl (x : Str) : List Str := Txt.split x " "
def k3 (i : Nat) (d : D) : Str := (spl (k0 d)).getD i vof.a0
theorem w11_split : Txt.split ("addin addout case dropin dropout look make putin putout tag widen" : Str) " " = w11 := by decide +kernel
theorem w11_nd : w11.Nodup := by decide +kernel
theorem lsl_nd : lsl.Nodup := by decide +kernel
theorem lsl_perm : lsl.Perm slS := by decide +kernel
theorem lsl_sort : lsl.mergeSort leS = slS := sort_is (by decide +kernel) (by decide +kernel)
theorem r14_ok : ∀ x ∈ (r6 ++ r5) ++ r3, (spl x).length = 3 ∧ x.length ≤ 100 := by decide +kernel
theorem r14_keys : w11 ++ ((r6 ++ r5) ++ r3).map (fun x => (spl x).getD 0 vof.a0) = lsl := by decide +kernel
theorem r14_vals : (w11.map fun _ => (("up" : Str), ("down" : Str))) ++ ((r6 ++ r5) ++ r3).map (fun x => ((spl x).getD 1 vof.a0, (spl x).getD 2 vof.a0)) = lsl.map fun x => (vof x false, vof x true) := by decide +kernel
def lastC (pre : List D) : Cell := match pre.getLast? with
  | some d => .fr d
  | none => .no
theorem lastC_snoc (pre : List D) (d : D) : lastC (pre ++ [d]) = .fr d := by unfold lastC; rw [List.getLast?_concat]
def splC (pre : List D) : Cell := match pre.getLast? with
  | some d => .ow (.lst ((spl (k0 d)).map .str))
  | none => .no
theorem splC_snoc (pre : List D) (d : D) : splC (pre ++ [d]) = .ow (.lst ((spl (k0 d)).map .str)) := by unfold splC; rw [List.getLast?_concat]
def ud : D := .tup [.str "up", .str "down"]
def f1 (pre : List D) : En := [.ow (.dct ((pre.map k0).map .inr) ((pre.map k0).map fun _ => ud)), lastC pre, .no, .no, .no]
def f2 (pre : List D) : En := [.ow (.dct ((w11 ++ pre.map (k3 0)).map .inr) ((w11.map fun _ => ud) ++ pre.map fun d => .tup [.str (k3 1 d), .str (k3 2 d)])), .fr (.str "widen"), .ow (.lst ((r6 ++ r5).map .str)), lastC pre, splC pre]
theorem k0_map : ∀ L : List Str, (L.map D.str).map k0 = L
  | [] => rfl
  | x :: L => by rw [List.map_cons, List.map_cons, k0_map L]; rfl
theorem mem_k0 {L : List Str} {d : D} (h : d ∈ L.map D.str) : d = .str (k0 d) ∧ k0 d ∈ L := by
  obtain ⟨x, hx, rfl⟩ := List.mem_map.mp h
  exact ⟨rfl, hx⟩
theorem to_lc {s : WS} {ρ ρ1 ρ2 : En} (h : To s ρ ρ1) (e : ρ1 = ρ2) : To s ρ ρ2 := e ▸ h
theorem step1 {pre rest : List D} {d : D} (e : pre ++ d :: rest = w11.map .str) : To (sDSet 0 (wTup (wCons (wC (.str "up")) (wCons (wC (.str "down")) wNil))) (wP 1)) ((f1 pre).set 1 (.fr d)) (f1 (pre ++ [d])) := by
  obtain ⟨ed, _⟩ := mem_k0 (L := w11) (d := d) (by rw [← e]; simp)
  have nd : (pre.map k0 ++ k0 d :: rest.map k0).Nodup := by
    have z := congrArg (List.map k0) e
    rw [k0_map, List.map_append, List.map_cons] at z
    rw [z]; exact w11_nd
  have hn : k0 d ∉ pre.map k0 := fun z => (List.nodup_append.mp nd).2.2 _ z _ List.mem_cons_self rfl
  have hl : (pre.map k0).length ≤ 11 := by
    have z := congrArg List.length e
    rw [List.length_append, List.length_map] at z
    have : w11.length = 11 := rfl
    rw [List.length_map]; omega
  refine to_lc (to_dset (j := 0) (ρ := (f1 pre).set 1 (.fr d)) (ks := (pre.map k0).map .inr) (ds := (pre.map k0).map fun _ => ud) (k := .inr (k0 d)) (d := ud) rfl (ev_tup (ea_cons ev_c (ea_cons ev_c ea_nil)) rfl (by decide)) (ev_p (i := 1) rfl) (by show keyD d = _; rw [ed]; rfl) (by rw [List.length_map]; omega)) ?_
  rw [putKs_new hn, putDs_new hn]
  unfold f1
  rw [lastC_snoc, List.map_append (f := k0)]
  simp
theorem step2 {pre rest : List D} {d : D} (e : pre ++ d :: rest = ((r6 ++ r5) ++ r3).map .str) :
    To (sSeq (sSet 4 (wM isTxt oSplit (wP 3) (wCons (wC (.str " ")) wNil))) (sDSet 0 (wTup (wCons (w2 oIx (wP 4) (wC (.int 1))) (wCons (w2 oIx (wP 4) (wC (.int 2))) wNil))) (w2 oIx (wP 4) (wC (.int 0))))) ((f2 pre).set 3 (.fr d)) (f2 (pre ++ [d])) := by
  obtain ⟨ed, hm⟩ := mem_k0 (L := (r6 ++ r5) ++ r3) (d := d) (by rw [← e]; simp)
  obtain ⟨l3, lx⟩ := r14_ok _ hm
  have nd : (w11 ++ (pre.map (k3 0) ++ k3 0 d :: rest.map (k3 0))).Nodup := by
    have z := congrArg (List.map (k3 0)) e
    rw [List.map_append, List.map_cons, List.map_map] at z
    rw [z, show (((r6 ++ r5) ++ r3).map (k3 0 ∘ D.str)) = ((r6 ++ r5) ++ r3).map (fun x => (spl x).getD 0 vof.a0) from rfl, r14_keys]
    exact lsl_nd
  rw [← List.append_assoc] at nd
  have hn : k3 0 d ∉ w11 ++ pre.map (k3 0) := fun z => (List.nodup_append.mp nd).2.2 _ z _ List.mem_cons_self rfl
  have hl : (w11 ++ pre.map (k3 0)).length ≤ 25 := by
    have z := congrArg List.length e
    rw [List.length_append, List.length_map] at z
    have z2 : ((r6 ++ r5) ++ r3).length = 14 := rfl
    have : w11.length = 11 := rfl
    rw [List.length_append, List.length_map]
    rw [List.length_cons] at z
    omega
  obtain ⟨a, b, c, es⟩ : ∃ a b c, spl (k0 d) = [a, b, c] := by
    match spl (k0 d), l3 with
    | [a, b, c], _ => exact ⟨a, b, c, rfl⟩
  have e0 : k3 0 d = a := by unfold k3; rw [es]; rfl
  have e1 : k3 1 d = b := by unfold k3; rw [es]; rfl
  have e2 : k3 2 d = c := by unfold k3; rw [es]; rfl
  refine to_seq (ρ1 := ((f2 pre).set 3 (.fr d)).set 4 (.ow (.lst ([a, b, c].map .str)))) (to_set (ρ' := (f2 pre).set 3 (.fr d)) (ev_spl (x := k0 d) es ⟨by decide, by omega⟩ (ev_p (i := 3) (d := d) rfl) ed).ex (by show 4 < 5; decide) trivial) ?_
  refine to_lc (to_dset (j := 0) (ρ := ((f2 pre).set 3 (.fr d)).set 4 (.ow (.lst ([a, b, c].map .str)))) (ks := (w11 ++ pre.map (k3 0)).map .inr) (ds := (w11.map fun _ => ud) ++ pre.map fun d => .tup [.str (k3 1 d), .str (k3 2 d)]) (k := .inr a) (d := .tup [.str b, .str c]) rfl
    (ev_tup (ea_cons (ev_ixT 1 rfl (ev_po (i := 4) rfl) (.inr rfl)) (ea_cons (ev_ixT 2 rfl (ev_po (i := 4) rfl) (.inr rfl)) ea_nil)) rfl (by show 2 ≤ 16777216; decide)) (ev_ixT 0 rfl (ev_po (i := 4) rfl) (.inr rfl)) rfl (by rw [List.length_map]; omega)) ?_
  rw [e0] at hn
  rw [putKs_new hn, putDs_new hn]
  unfold f2
  rw [lastC_snoc, splC_snoc, es, List.map_append (f := k3 0), List.map_append (f := fun d => D.tup [.str (k3 1 d), .str (k3 2 d)]), List.map_cons (f := k3 0), List.map_cons (f := fun d => D.tup [.str (k3 1 d), .str (k3 2 d)]), e0, e1, e2]
  simp
theorem fn_lslots : Fn R__law_slots [] (.ow tbD) := by
  refine fnd_of rfl ?_
  unfold W__law_slots W__law_slots_t0
  refine rt_seq (to_set (ρ' := [.no, .no, .no, .no, .no]) ev_dnew.ex (by decide) trivial) ?_
  refine rt_seq (to_for f1 (ds := w11.map .str) (ρ1 := f1 []) (xi_l (ex_fo (ev_spl w11_split ⟨by decide, by decide⟩ ev_c rfl).ex)) rfl fun pre d rest e => ⟨_, tg_n (by show 1 < 5; decide), step1 e⟩) ?_
  have es : f1 (w11.map .str) = [.ow (.dct (w11.map .inr) (w11.map fun _ => ud)), .fr (.str "widen"), .no, .no, .no] := by
    unfold f1; rw [k0_map]; rfl
  rw [es]
  refine rt_seq (to_set (ra := .ow (.lst (r6.map .str))) (ρ' := [.ow (.dct (w11.map .inr) (w11.map fun _ => ud)), .fr (.str "widen"), .no, .no, .no]) (ev_lst (ea_cons ev_c (ea_cons ev_c (ea_cons ev_c (ea_cons ev_c (ea_cons ev_c (ea_cons ev_c ea_nil)))))) rfl (by decide)).ex (by show 2 < 5; decide) trivial) ?_
  refine rt_seq (to_set (ra := .ow (.lst ((r6 ++ r5).map .str))) (ρ' := [.ow (.dct (w11.map .inr) (w11.map fun _ => ud)), .fr (.str "widen"), .ow (.lst (r6.map .str)), .no, .no]) (ev_addL (xs := r6.map .str) (ys := r5.map .str) (ev_po (i := 2) rfl) rfl (ev_lst (ea_cons ev_c (ea_cons ev_c (ea_cons ev_c (ea_cons ev_c (ea_cons ev_c ea_nil))))) rfl (by decide)) rfl (by decide)).ex (by show 2 < 5; decide) trivial) ?_
  refine rt_seq (to_for f2 (ds := ((r6 ++ r5) ++ r3).map .str) (ρ1 := f2 []) (xi_l (ex_fo (ev_addL (xs := (r6 ++ r5).map .str) (ys := r3.map .str) (ev_po (i := 2) rfl) rfl (ev_lst (ea_cons ev_c (ea_cons ev_c (ea_cons ev_c ea_nil))) rfl (by decide)) rfl (by decide)).ex)) rfl fun pre d rest e => ⟨_, tg_n (by show 3 < 5; decide), step2 e⟩) ?_
  have ek : w11 ++ (((r6 ++ r5) ++ r3).map D.str).map (k3 0) = lsl := by
    rw [List.map_map]; exact r14_keys
  have ev : ((w11.map fun _ => ud) ++ (((r6 ++ r5) ++ r3).map D.str).map fun d => D.tup [.str (k3 1 d), .str (k3 2 d)]) = lsl.map tb2 := by
    have z := congrArg (List.map fun p : Str × Str => D.tup [.str p.1, .str p.2]) r14_vals
    rw [List.map_append, List.map_map, List.map_map, List.map_map] at z
    rw [List.map_map]
    exact z
  have e2 : (f2 (((r6 ++ r5) ++ r3).map .str))[0]? = some (.ow tbD) := by
    unfold f2 tbD
    rw [ek, ev]; rfl
  exact rt_v e2
/-! ### the law's standard plan, a plan turned -/
section
variable {ρ ρ' : En} {wa wb : WE} {ra rb r : R} {F : WF} {ks : List Key} {ds : List D}
theorem xi_items (h : Ex wa ρ (.fr (.dct ks ds)) ρ') : XIs (wItems wa) ρ (itD ks ds) ρ' := fun Φ k => h _ k
theorem ex_dictP {kds : List (Key × D)} (h : Ex wa ρ r ρ') (e : dpairs r.d = some kds) : Ex (wDictP wa) ρ (.ow (.dct (mrgK [] (kds.map (·.1))) (mrgD [] [] kds))) ρ' := fun Φ k => h _ (e_dictPW e k)
theorem ev_dictD (h : Ev wa ρ r) (e : r.d = .dct ks ds) : Ev (wDictD wa) ρ (.ow (.dct ks ds)) := fun Φ k => h _ (e_dictDW e k)
theorem ev_subI {a b : Int} (ha : Ev wa ρ ra) (ea : ra.d = .int a) (hb : Ev wb ρ rb) (eb : rb.d = .int b) : Ev (w2 oSub wa wb) ρ (.fr (.int (a - b))) := ev_2 ha hb fun Φ k => by rw [ea, eb]; exact k
theorem ev_call0 (hf : Fn F [] r) : Ev (wCall F wNil) ρ r := ev_call ea_nil rfl hf
end
theorem itD_map (f : Str → D) : ∀ L : List Str, itD (L.map .inr) (L.map f) = L.map fun x => .tup [.str x, f x]
  | [] => rfl
  | x :: L => by
    show D.tup [.str x, f x] :: itD (L.map .inr) (L.map f) = _
    rw [itD_map f L]; rfl
theorem pairsD_map (f : Str → D) : ∀ L : List Str, pairsD (L.map fun x => .tup [.str x, f x]) = some (L.map fun x => ((.inr x : Key), f x))
  | [] => rfl
  | x :: L => by
    show (match keyD (.str x), pairsD (L.map fun x => .tup [.str x, f x]) with | some k, some r => some ((k, f x) :: r) | _, _ => none) = _
    rw [pairsD_map f L]; rfl
theorem mrg_map {L : List Str} (nd : L.Nodup) (f : Str → D) : mrgK [] ((L.map fun x => ((.inr x : Key), f x)).map (·.1)) = L.map .inr ∧ mrgD [] [] (L.map fun x => ((.inr x : Key), f x)) = L.map f := by
  obtain ⟨a, b⟩ := mrg_kv (ps := L.map fun x => (x, f x)) (by rw [List.map_map]; exact (show (L.map fun x => x).Nodup by rw [List.map_id']; exact nd))
  rw [List.map_map, List.map_map, List.map_map] at a
  rw [List.map_map, List.map_map] at b
  refine ⟨?_, b⟩
  rw [List.map_map]; exact a
theorem lookD_map (f : Str → D) {x : Str} {L : List Str} (hx : x ∈ L) : lookD (L.map .inr) (L.map f) (.inr x) = some (f x) := by
  induction L with
  | nil => cases hx
  | cons a L ih =>
    show (if (Sum.inr a : Key) = .inr x then some (f a) else lookD (L.map .inr) (L.map f) (.inr x)) = _
    by_cases e : a = x
    · subst e; rw [if_pos rfl]
    · rw [if_neg fun z => e (Sum.inr.inj z)]
      exact ih ((List.mem_cons.mp hx).elim (fun z => absurd z.symm e) id)
/-- a plan, a dict of all slots, by what is turned -/
def ldD (t : Str → Bool) : D := .dct (lsl.map .inr) (lsl.map fun x => .str (vof x (t x)))
def hdD : D → D
  | .tup [k, .tup [a, _]] => .tup [k, a]
  | _ => .non
theorem ls_in {x : Str} : x ∈ lsl ↔ x ∈ slS := lsl_perm.mem_iff
theorem fn_lstd {F : WF} (hF : Fn F [] (.ow tbD)) : Fn (R__law_standard F) [] (.ow (ldD fun _ => false)) := by
  refine fnd_of rfl ?_
  unfold W__law_standard
  have e1 : itD (lsl.map .inr) (lsl.map tb2) = lsl.map fun x => .tup [.str x, tb2 x] := itD_map tb2 lsl
  have z := ex_lca (W := gTp 2 (gCs (gN 0) (gCs (gN 1) gNl))) (we := wTup (wCons (wV 0) (wCons (w2 oIx (wP 1) (wC (.int 0))) wNil))) (vs := [0, 1]) (ρ := [.no, .no]) (ρ1 := [.no, .no]) (ρw := [.no, .no]) (ρ2 := [.no, .no]) hdD
    (e1 ▸ xi_items (ks := lsl.map .inr) (ds := lsl.map tb2) (ex_fo (ev_call0 hF).ex)) rfl rfl (by rw [List.length_map]; decide) fun x hx => by
      obtain ⟨y, hy, rfl⟩ := List.mem_map.mp hx
      exact ⟨_, tg_2 (l := by decide) (l2 := by decide), ev_tup (ea_cons (ev_v (i := 0) rfl) (ea_cons (ev_ixT 0 rfl (ev_p (i := 1) rfl) (.inl rfl)) ea_nil)) rfl (by show 2 ≤ 16777216; decide), rfl⟩
  have e2 : (lsl.map fun x => D.tup [.str x, tb2 x]).map hdD = lsl.map fun x => .tup [.str x, .str (vof x false)] := by rw [List.map_map]; rfl
  rw [e2] at z
  have q := ex_dictP z (pairsD_map (fun x => .str (vof x false)) lsl)
  obtain ⟨m1, m2⟩ := mrg_map lsl_nd fun x => D.str (vof x false)
  rw [m1, m2] at q
  exact rt_x q trivial
theorem ld_put (t : Str → Bool) {x : Str} (hx : x ∈ lsl) : putKs (lsl.map (.inr : Str → Key)) (.inr x) = lsl.map .inr ∧
    putDs (lsl.map (.inr : Str → Key)) (lsl.map fun y => D.str (vof y (t y))) (.inr x) (.str (vof x (!t x))) = lsl.map fun y => .str (vof y (flT x t y)) := by
  have hm : inK (lsl.map (.inr : Str → Key)) (.inr x) = true := inK_iff.mpr (List.mem_map.mpr ⟨x, hx, rfl⟩)
  unfold putKs putDs
  rw [if_pos hm, if_pos hm]
  refine ⟨rfl, ?_⟩
  have : ∀ L : List Str, repD (L.map fun x => (Sum.inr x : Key)) (L.map fun y => D.str (vof y (t y))) (.inr x) (.str (vof x (!t x))) = L.map fun y => D.str (vof y (flT x t y)) := fun L => by
    induction L with
    | nil => rfl
    | cons a L ih =>
      show (if (Sum.inr a : Key) = .inr x then D.str (vof x (!t x)) else D.str (vof a (t a))) :: repD (L.map fun x => (Sum.inr x : Key)) (L.map fun y => D.str (vof y (t y))) (.inr x) (.str (vof x (!t x))) = _
      rw [ih, List.map_cons]
      congr 1
      unfold flT
      by_cases e : a = x
      · subst e; rw [if_pos rfl, if_pos rfl]
      · rw [if_neg e, if_neg fun z => e (Sum.inr.inj z)]
  exact this lsl
theorem tn_ix (s : Str) (hs : s ∈ slS) (b : Bool) : [vof s false, vof s true][b.toNat]? = some (vof s b) ∧ ∀ m, m < b.toNat → [vof s false, vof s true][m]? ≠ some (vof s b) := by
  cases b with
  | false => exact ⟨rfl, fun m h => absurd h (Nat.not_lt_zero m)⟩
  | true =>
    refine ⟨rfl, fun m h => ?_⟩
    have e : m = 0 := by have : m < 1 := h; omega
    subst e
    intro z
    exact (sl_ok s hs).2.2.2 (Option.some.inj z)
theorem tn_at (s : Str) (b : Bool) : [D.str (vof s false), .str (vof s true)][1 - b.toNat]? = some (.str (vof s !b)) := by cases b <;> rfl
theorem tn_sub (b : Bool) : (1 : Int) - ((b.toNat : Nat) : Int) = ((1 - b.toNat : Nat) : Int) := by cases b <;> rfl
theorem fn_lturned {F : WF} (hF : Fn F [] (.ow tbD)) (t : Str → Bool) {s : Str} (hs : s ∈ slS) : Fn (R__law_turned F) [ldD t, .lst [.str s]] (.ow (ldD (flT s t))) := by
  have hl : s ∈ lsl := ls_in.mpr hs
  refine fnd_of rfl ?_
  unfold W__law_turned
  refine rt_seq (to_par (ρ' := [.fr (ldD t), .fr (.lst [.str s]), .no, .no, .no, .no]) (r1 := .ow (ldD t)) (r2 := .ow tbD) (xa_cons (ev_dictD (ev_p (i := 0) rfl) rfl).ex (xa_cons (ev_call0 hF).ex xa_nil)) (by show 2 < 6; decide) (by show 3 < 6; decide) trivial trivial) ?_
  refine rt_seq (ρ' := [.fr (ldD t), .fr (.lst [.str s]), .ow (ldD (flT s t)), .ow tbD, .fr (.str s), .fr (tb2 s)]) (to_for (fun pre => match pre with
      | [] => [.fr (ldD t), .fr (.lst [.str s]), .ow (ldD t), .ow tbD, .no, .no]
      | _ => [.fr (ldD t), .fr (.lst [.str s]), .ow (ldD (flT s t)), .ow tbD, .fr (.str s), .fr (tb2 s)]) (ds := [.str s]) (xi_l (ev_v (i := 1) rfl).ex) rfl fun pre d rest e => ?_) (rt_v (i := 2) rfl)
  cases pre with
  | cons a pre =>
    have z := congrArg List.length e
    rw [List.length_append, List.length_cons, List.length_cons, List.length_singleton] at z
    omega
  | nil =>
    cases e
    refine ⟨[.fr (ldD t), .fr (.lst [.str s]), .ow (ldD t), .ow tbD, .fr (.str s), .no], tg_n (by show 4 < 6; decide), ?_⟩
    refine to_seq (ρ1 := [.fr (ldD t), .fr (.lst [.str s]), .ow (ldD t), .ow tbD, .fr (.str s), .fr (tb2 s)]) (to_set (ra := .fr (tb2 s)) (ρ' := [.fr (ldD t), .fr (.lst [.str s]), .ow (ldD t), .ow tbD, .fr (.str s), .no]) (ev_dix (ev_po (i := 3) rfl) rfl (ev_p (i := 4) rfl) (lookD_map tb2 hl)).ex (by show 5 < 6; decide) trivial) ?_
    obtain ⟨i1, i2⟩ := tn_ix s hs (t s)
    have ti := ev_tindex (ρ := [.fr (ldD t), .fr (.lst [.str s]), .ow (ldD t), .ow tbD, .fr (.str s), .fr (tb2 s)]) (wa := wP 5) (wk := w2 oDIx (wP 2) (wP 4)) (ys := [vof s false, vof s true]) (j := (t s).toNat) (ev_p (i := 5) rfl) (ev_dix (ev_po (i := 2) rfl) rfl (ev_p (i := 4) rfl) (lookD_map (fun x => .str (vof x (t x))) hl)) rfl rfl rfl i1 i2
    have va := ev_ixV (1 - (t s).toNat) (tn_at s (t s)) (ev_p (ρ := [.fr (ldD t), .fr (.lst [.str s]), .ow (ldD t), .ow tbD, .fr (.str s), .fr (tb2 s)]) (i := 5) (d := tb2 s) rfl) (.inl rfl) (ev_subI (wa := wC (.int 1)) ev_c rfl ti rfl) (by show D.int ((1 : Int) - ((t s).toNat : Nat)) = _; rw [tn_sub])
    refine to_lc (to_dset (j := 2) (k := .inr s) rfl va (ev_p (i := 4) (d := .str s) rfl) rfl (by rw [List.length_map]; decide)) ?_
    obtain ⟨p1, p2⟩ := ld_put t hl
    rw [p1, p2]
    rfl
/-! ### whether a rule holds -/
def q7 : List Str := ["make", "addin", "addout", "dropin", "dropout", "putin", "putout"]
def q2 : List Str := ["tag", "widen"]
def q3 : List Str := ["base", "seq", "many"]
def q4 : List Str := ["linklook", "linkcase", "linkfields", "linkbase"]
def q5 : List Str := ["known", "on", "hand", "keep", "rec"]
def r19 : List Str := ["make", "tag", "widen", "addin", "addout", "dropin", "dropout", "putin", "putout", "fields", "tags", "rec", "base", "hand", "keep", "known", "many", "on", "seq"]
def pr2 (r : Str) : Str × Str := if r = "base" then ("handbase", "deedbase") else if r = "seq" then ("defseq", "useseq") else ("defmany", "usemany")
def due (r : Str) : Str := if r = "hand" then "use" else if r = "keep" then "kept" else if r = "rec" then "applied" else "yes"
def vt (t : Str → Bool) (x : Str) : Str := vof x (t x)
def lh (t : Str → Bool) (r : Str) : Bool :=
  if r ∈ q7 then decide (vt t r = vt t "look") else if r ∈ q2 then decide (vt t r = vt t "case")
  else if r = "fields" then decide ((([decide (vt t "fields" = "less"), decide (vt t "look" = "up"), decide (vt t "from" = "begin")].count true : Nat) : Int) ∈ ([1, 3] : List Int))
  else if r = "tags" then (decide (vt t "tags" = "less") == decide (vt t "case" = "up"))
  else if r ∈ q3 then decide (vt t (pr2 r).1 = vt t (pr2 r).2) else decide (vt t r = due r)
section
variable {ρ : En} {wa wb : WE} {ra rb : R}
theorem ev_dct {ks : List Key} {ws : WA} {rs : List R} {ds : List D} (h : EvA ws ρ rs) (l : rs.length = ks.length) (e : frs' rs = some ds) : Ev (wDct ks ws) ρ (.ow (.dct ks ds)) := fun Φ k => h _ ⟨l, by
  rw [e]; exact k⟩
theorem ev_din {ks : List Key} {ds : List D} {x : Str} {b : Bool} (ha : Ev wa ρ (.fr (.str x))) (hb : Ev wb ρ rb) (eb : rb.d = .dct ks ds) (e : (lookD ks ds (.inr x)).isSome = b) : Ev (w2 (oDIn false) wa wb) ρ (fb b) := ev_2 ha hb fun Φ k => by
  rw [eb]
  show Φ (.fr (.bl (lookD ks ds (.inr x)).isSome))
  rw [e]; exact k
theorem lookD_isSome {x : Str} : ∀ {L : List Str} {ds : List D}, L.length = ds.length → (lookD (L.map .inr) ds (.inr x)).isSome = decide (x ∈ L)
  | [], [], _ => by simp [lookD]
  | a :: L, d :: ds, h => by
    show (if (Sum.inr a : Key) = .inr x then some d else lookD (L.map .inr) ds (.inr x)).isSome = _
    by_cases e : a = x
    · subst e; rw [if_pos rfl]; simp
    · rw [if_neg fun z => e (Sum.inr.inj z), lookD_isSome (L := L) (by simpa using h)]
      rw [Bool.eq_iff_iff, decide_eq_true_iff, decide_eq_true_iff, List.mem_cons]
      exact ⟨.inr, fun z => z.elim (fun z => absurd z.symm e) id⟩
theorem ev_inI {k : Int} {a b : Int} (ha : Ev wa ρ ra) (ea : ra.d = .int k) (hb : Ev wb ρ rb) (eb : rb.d = .tup [.int a, .int b]) : Ev (w2 (oIn false) wa wb) ρ (fb (decide (k ∈ ([a, b] : List Int)))) := ev_2 ha hb fun Φ q => by
  rw [ea, eb]
  refine e_inT0 rfl ?_
  have e : inD (.int k) [.int a, .int b] = decide (k ∈ ([a, b] : List Int)) := by
    show ((a == k) || ((b == k) || false)) = _
    rw [Bool.eq_iff_iff, decide_eq_true_iff]
    simp only [Bool.or_eq_true, beq_iff_eq, List.mem_cons, List.not_mem_nil, or_false, Bool.false_eq_true]
    exact ⟨fun z => z.imp Eq.symm Eq.symm, fun z => z.imp Eq.symm Eq.symm⟩
  rw [e]; exact q
theorem ev_beq {a b : Bool} (ha : Ev wa ρ (fb a)) (hb : Ev wb ρ (fb b)) : Ev (w2 oEq wa wb) ρ (fb (a == b)) := ev_2 ha hb fun Φ k => by
  refine e_eqD (by cases a <;> rfl) (by cases b <;> rfl) ?_
  have e : eqD (R.d (fb a)) (R.d (fb b)) = (a == b) := by cases a <;> cases b <;> rfl
  rw [e]; exact k
end
theorem r19_q4 : ∀ r ∈ r19, r ∉ q4 := by decide +kernel
theorem r19_ok : ∀ r ∈ r19, PyData.strOk r = true := by decide +kernel
theorem q7_ok : ∀ r ∈ q7, PyData.strOk r = true := by decide +kernel
theorem q2_ok : ∀ r ∈ q2, PyData.strOk r = true := by decide +kernel
theorem q7_sl : ∀ r ∈ q7, r ∈ lsl := by decide +kernel
theorem q2_sl : ∀ r ∈ q2, r ∈ lsl := by decide +kernel
theorem q5_sl : ∀ r ∈ q5, r ∈ lsl := by decide +kernel
theorem q3_sl : ∀ r ∈ q3, (pr2 r).1 ∈ lsl ∧ (pr2 r).2 ∈ lsl := by decide +kernel
theorem rest_q5 : ∀ r ∈ r19, r ∉ q7 → r ∉ q2 → r ≠ "fields" → r ≠ "tags" → r ∉ q3 → r ∈ q5 := by decide +kernel
theorem due_q5 : q5.map (fun r => D.str (due r)) = [.str "yes", .str "yes", .str "use", .str "kept", .str "applied"] := by
  have : q5.map due = (["yes", "yes", "use", "kept", "applied"] : List Str) := by decide +kernel
  have z := congrArg (List.map D.str) this
  rw [List.map_map] at z
  exact z
theorem prs_q3 : q3.map (fun r => D.tup [.str (pr2 r).1, .str (pr2 r).2]) = [.tup [.str "handbase", .str "deedbase"], .tup [.str "defseq", .str "useseq"], .tup [.str "defmany", .str "usemany"]] := by
  have : q3.map pr2 = ([("handbase", "deedbase"), ("defseq", "useseq"), ("defmany", "usemany")] : List (Str × Str)) := by decide +kernel
  have z := congrArg (List.map fun p : Str × Str => D.tup [.str p.1, .str p.2]) this
  rw [List.map_map] at z
  exact z
def lkD : D := .dct (q4.map .inr) [.str "look", .str "case", .str "fields", .str "handbase"]
def psD : D := .dct (q3.map .inr) (q3.map fun r => .tup [.str (pr2 r).1, .str (pr2 r).2])
def duD : D := .dct (q5.map .inr) (q5.map fun r => .str (due r))
abbrev eH (t : Str → Bool) (r : Str) (c5 c6 : Cell) : En := [.fr (.lst [ldD t]), .fr (.str r), .fr (.int 0), .ow lkD, .fr (ldD t), c5, c6]
theorem ev_vc {t : Str → Bool} {r : Str} {c5 c6 : Cell} {x : Str} (hx : x ∈ lsl) : Ev (w2 oDIx (wP 4) (wC (.str x))) (eH t r c5 c6) (.fr (.str (vt t x))) := ev_dix (ev_p (i := 4) rfl) rfl ev_c (lookD_map (fun x => .str (vof x (t x))) hx)
theorem ev_vr {t : Str → Bool} {r : Str} {c5 c6 : Cell} (hx : r ∈ lsl) : Ev (w2 oDIx (wP 4) (wP 1)) (eH t r c5 c6) (.fr (.str (vt t r))) := ev_dix (ev_p (i := 4) rfl) rfl (ev_p (i := 1) rfl) (lookD_map (fun x => .str (vof x (t x))) hx)
theorem fn_lholds (t : Str → Bool) {r : Str} (hr : r ∈ r19) : Fn R__law_holds [.lst [ldD t], .str r, .int 0] (fb (lh t r)) := by
  have okr := r19_ok r hr
  refine fnd_of rfl ?_
  unfold W__law_holds
  refine rt_seq (to_set (ra := .ow lkD) (ρ' := [.fr (.lst [ldD t]), .fr (.str r), .fr (.int 0), .no, .no, .no, .no]) (ev_dct (ks := q4.map .inr) (ea_cons ev_c (ea_cons ev_c (ea_cons ev_c (ea_cons ev_c ea_nil)))) rfl rfl).ex (by show 3 < 7; decide) trivial) ?_
  refine rt_g' (p := false) (et_b (ev_din (ev_p (i := 1) rfl) (ev_po (i := 3) rfl) rfl (by rw [lookD_isSome rfl]; exact decide_eq_false (r19_q4 r hr)))) (fun h => by cases h) fun _ => ?_
  unfold W__law_holds_t6
  refine rt_seq (to_set (ra := .fr (ldD t)) (ρ' := [.fr (.lst [ldD t]), .fr (.str r), .fr (.int 0), .ow lkD, .no, .no, .no]) (ev_ixV 0 rfl (ev_p (i := 0) rfl) (.inr rfl) (ev_p (i := 2) rfl) rfl).ex (by show 4 < 7; decide) trivial) ?_
  show Rt _ (eH t r .no .no) _
  refine rt_g' (p := decide (r ∈ q7)) (et_b (ev_inS (ys := q7) (ev_p (i := 1) rfl) (ev_tup (ea_cons ev_c (ea_cons ev_c (ea_cons ev_c (ea_cons ev_c (ea_cons ev_c (ea_cons ev_c (ea_cons ev_c ea_nil))))))) rfl (by decide)) rfl okr q7_ok))
    (fun h => (rt_ret (ev_seq (ev_vr (q7_sl r (of_decide_eq_true h))) (ev_vc (by decide +kernel)))).bq (by unfold lh; rw [if_pos (of_decide_eq_true h)])) fun h7 => ?_
  have n7 := of_decide_eq_false h7
  unfold W__law_holds_t5
  refine rt_g' (p := decide (r ∈ q2)) (et_b (ev_inS (ys := q2) (ev_p (i := 1) rfl) (ev_tup (ea_cons ev_c (ea_cons ev_c ea_nil)) rfl (by decide)) rfl okr q2_ok))
    (fun h => (rt_ret (ev_seq (ev_vr (q2_sl r (of_decide_eq_true h))) (ev_vc (by decide +kernel)))).bq (by unfold lh; rw [if_neg n7, if_pos (of_decide_eq_true h)])) fun h2 => ?_
  have n2 := of_decide_eq_false h2
  unfold W__law_holds_t4
  refine rt_g' (p := decide (r = "fields")) (et_b (ev_seq (ev_p (i := 1) rfl) ev_c)) (fun h => ?_) fun hf => ?_
  · refine (rt_ret (ev_inI (ev_cntb (bs := [decide (vt t "fields" = "less"), decide (vt t "look" = "up"), decide (vt t "from" = "begin")]) (b := true)
      (ev_lst (ea_cons (ev_seq (ev_vc (by decide +kernel)) ev_c) (ea_cons (ev_seq (ev_vc (by decide +kernel)) ev_c) (ea_cons (ev_seq (ev_vc (by decide +kernel)) ev_c) ea_nil))) rfl (by show 3 ≤ 16777216; decide)) ev_c rfl rfl) rfl
      (ev_tup (ea_cons ev_c (ea_cons ev_c ea_nil)) rfl (by decide)) rfl)).bq ?_
    unfold lh
    rw [if_neg n7, if_neg n2, if_pos (of_decide_eq_true h)]
  have nf := of_decide_eq_false hf
  unfold W__law_holds_t3
  refine rt_g' (p := decide (r = "tags")) (et_b (ev_seq (ev_p (i := 1) rfl) ev_c)) (fun h => ?_) fun hg => ?_
  · refine (rt_ret (ev_beq (ev_seq (ev_vc (by decide +kernel)) ev_c) (ev_seq (ev_vc (by decide +kernel)) ev_c))).bq ?_
    unfold lh
    rw [if_neg n7, if_neg n2, if_neg nf, if_pos (of_decide_eq_true h)]
  have ng := of_decide_eq_false hg
  unfold W__law_holds_t2
  refine rt_seq (to_set (ra := .ow psD) (ρ' := eH t r .no .no) ((ev_dct (ks := q3.map .inr) (ea_cons (ev_tup (ea_cons ev_c (ea_cons ev_c ea_nil)) rfl (by decide)) (ea_cons (ev_tup (ea_cons ev_c (ea_cons ev_c ea_nil)) rfl (by decide)) (ea_cons (ev_tup (ea_cons ev_c (ea_cons ev_c ea_nil)) rfl (by decide)) ea_nil))) rfl rfl).to (by unfold psD; rw [prs_q3])).ex (by show 5 < 7; decide) trivial) ?_
  show Rt _ (eH t r (.ow psD) .no) _
  refine rt_g' (p := decide (r ∈ q3)) (et_b (ev_din (ev_p (i := 1) rfl) (ev_po (i := 5) rfl) rfl (lookD_isSome rfl))) (fun h => ?_) fun h3 => ?_
  · have m3 := of_decide_eq_true h
    obtain ⟨s1, s2⟩ := q3_sl r m3
    have lk := lookD_map (fun r => D.tup [.str (pr2 r).1, .str (pr2 r).2]) m3
    have one : Ev (w2 oDIx (wP 4) (w2 oIx (w2 oDIx (wP 5) (wP 1)) (wC (.int 0)))) (eH t r (.ow psD) .no) (.fr (.str (vt t (pr2 r).1))) :=
      ev_dix (ev_p (i := 4) rfl) rfl (ev_ixT 0 rfl (ev_dix (ev_po (i := 5) rfl) rfl (ev_p (i := 1) rfl) lk) (.inl rfl)) (lookD_map (fun x => .str (vof x (t x))) s1)
    have two : Ev (w2 oDIx (wP 4) (w2 oIx (w2 oDIx (wP 5) (wP 1)) (wC (.int 1)))) (eH t r (.ow psD) .no) (.fr (.str (vt t (pr2 r).2))) :=
      ev_dix (ev_p (i := 4) rfl) rfl (ev_ixT 1 rfl (ev_dix (ev_po (i := 5) rfl) rfl (ev_p (i := 1) rfl) lk) (.inl rfl)) (lookD_map (fun x => .str (vof x (t x))) s2)
    refine (rt_ret (ev_seq one two)).bq ?_
    unfold lh
    rw [if_neg n7, if_neg n2, if_neg nf, if_neg ng, if_pos m3]
  have n3 := of_decide_eq_false h3
  have m5 := rest_q5 r hr n7 n2 nf ng n3
  unfold W__law_holds_t1
  refine rt_seq (to_set (ra := .ow duD) (ρ' := eH t r (.ow psD) .no) ((ev_dct (ks := q5.map .inr) (ea_cons ev_c (ea_cons ev_c (ea_cons ev_c (ea_cons ev_c (ea_cons ev_c ea_nil))))) rfl rfl).to (by unfold duD; rw [due_q5])).ex (by show 6 < 7; decide) trivial) ?_
  show Rt _ (eH t r (.ow psD) (.ow duD)) _
  refine rt_g' (p := true) (et_b (ev_din (ev_p (i := 1) rfl) (ev_po (i := 6) rfl) rfl (by rw [lookD_isSome rfl]; exact decide_eq_true m5))) (fun _ => ?_) (fun h => by cases h)
  refine (rt_ret (ev_seq (ev_vr (q5_sl r m5)) (ev_dix (ev_po (i := 6) rfl) rfl (ev_p (i := 1) rfl) (lookD_map (fun r => .str (due r)) m5)))).bq ?_
  unfold lh
  rw [if_neg n7, if_neg n2, if_neg nf, if_neg ng, if_neg n3]
/-! ### what the law asks of one plan -/
section
variable {ρ : En} {wa wb : WE} {ra rb : R}
theorem ev_mulB {a : Int} {b : Bool} (ha : Ev wa ρ ra) (ea : ra.d = .int a) (hb : Ev wb ρ rb) (eb : rb.d = .bl b) (l : 0 ≤ a ∧ a ≤ 1) : Ev (w2 oMulA wa (wN oIntC (wCons wb wNil))) ρ (.fr (.int ((a.toNat * b.toNat : Nat) : Int))) :=
  ev_2 ha (ev_n (r := .fr (.int (if b then 1 else 0))) (ea_cons hb ea_nil) fun Φ k => by show oIntC [rb.d] Φ; rw [eb]; exact k) fun Φ k => by
    rw [ea]
    have e : a * (if b then 1 else 0) = ((a.toNat * b.toNat : Nat) : Int) := by
      rcases (show a = 0 ∨ a = 1 by omega) with rfl | rfl <;> cases b <;> rfl
    refine e_mulI ?_ (by rw [e]; exact k)
    rcases (show a = 0 ∨ a = 1 by omega) with rfl | rfl <;> cases b <;> exact .inl ⟨by decide, by decide⟩
theorem xi_rng1 {m : Nat} (h : Ev wa ρ (.fr (.int (m : Nat)))) (l : m ≤ 16777216) : XIs (wRng1 (wCons wa wNil)) ρ ((List.range m).map fun i => D.int (i : Nat)) ρ := fun Φ q => h _ (by
  show (-(2 ^ 62) ≤ (m : Int) ∧ (m : Int) < 2 ^ 62) ∧ Φ (rngD 0 (m : Int).toNat) ρ
  refine ⟨⟨by omega, by omega⟩, ?_⟩
  have e : rngD 0 (m : Int).toNat = (List.range m).map fun i => D.int (i : Nat) := by
    rw [Int.toNat_natCast]
    unfold rngD
    exact List.map_congr_left fun i _ => by simp
  rw [e]; exact q)
theorem ev_inH {x : Str} {cs : List Str} {i : Nat} (ha : Ev wa ρ (.fr (.str x))) (hx : PyData.strOk x = true) (hc : Cls cs) (h : ρ[i]? = some (.fr (.tup (cs.map .str)))) : Ev (w2 (oIn false) wa (wP i)) ρ (fb (has cs x)) := ev_inS ha (ev_p h) rfl hx hc.ok
end
theorem fn_lhf {cs : List Str} (hc : Cls cs) : Fn R__law_has_fields [.tup (cs.map .str)] (fb (hf cs)) := fnd_of rfl (rt_ret (show Ev _ [.fr (.tup (cs.map .str))] _ from fun Φ k => hf_walk (i := 0) (cs := cs) rfl hc.ok k))
theorem fn_lht {cs : List Str} (hc : Cls cs) : Fn R__law_has_tags [.tup (cs.map .str)] (fb (ht cs)) := fnd_of rfl (rt_ret (show Ev _ [.fr (.tup (cs.map .str))] _ from fun Φ k => ht_walk (i := 0) (cs := cs) rfl hc.ok k))
theorem fn_lho {cs : List Str} (hc : Cls cs) : Fn (R__law_is_open R__law_has_tags R__law_has_fields) [.tup (cs.map .str)] (fb (ho cs)) :=
  fnd_of rfl (rt_ret (ρ := [.fr (.tup (cs.map .str))]) (ev_and (p := has cs "let") (q := hf cs || ht cs) (ev_inH (i := 0) ev_c (by decide +kernel) hc rfl) fun _ => ev_f (ev_or (p := hf cs) (ev_f (ev_call1 (ev_v (i := 0) rfl) (fn_lhf hc))) fun _ => ev_f (ev_call1 (ev_v (i := 0) rfl) (fn_lht hc)))))
def rwD (p : Str × Bool) : D := .tup [.str p.1, .bl p.2]
def tbA (cs : List Str) (F G : Bool) : List (Str × Bool) := [("make", F && has cs "make"), ("tag", G), ("widen", G && has cs "widen")]
def tbW (cs : List Str) (F : Bool) (w : Str) : List (Str × Bool) := [(w ++ "in", F && has cs w), (w ++ "out", F && has cs w)]
def a3 : List Str := ["add", "drop", "put"]
def tbB (cs : List Str) (F G : Bool) : List (Str × Bool) := tbA cs F G ++ a3.flatMap (tbW cs F)
def tbC (cs : List Str) (F G W : Bool) : List (Str × Bool) := tbB cs F G ++ ([("fields", W && F), ("tags", W && G), ("rec", W && has cs "rec")] : List (Str × Bool))
def a7 : List Str := ["base", "hand", "keep", "known", "many", "on", "seq"]
def tbT (cs : List Str) (F G W : Bool) : List (Str × Bool) := tbC cs F G W ++ a7.map fun r => (r, W)
theorem tbB_len (cs : List Str) (F G : Bool) : (tbB cs F G).length = 9 := rfl
theorem tbT_len (cs : List Str) (F G W : Bool) : (tbT cs F G W).length = 19 := rfl
theorem tbT_fst (cs : List Str) (F G W : Bool) : (tbT cs F G W).map (·.1) = r19 := by
  have e : ∀ w, (tbW cs F w).map (·.1) = [w ++ "in", w ++ "out"] := fun _ => rfl
  show [("make" : Str), "tag", "widen", "add" ++ "in", "add" ++ "out", "drop" ++ "in", "drop" ++ "out", "put" ++ "in", "put" ++ "out", "fields", "tags", "rec", "base", "hand", "keep", "known", "many", "on", "seq"] = r19
  decide +kernel
abbrev eA (cs : List Str) (F G W : Bool) (tab c6 c7 fd c9 c11 : Cell) : En := [.fr (.tup (cs.map .str)), .fr (.int 1), .fr (.bl F), .fr (.bl G), .fr (.bl W), tab, c6, c7, fd, c9, .no, c11]
def fa (cs : List Str) (F G W : Bool) (pre : List D) : En := eA cs F G W (.ow (.lst ((tbA cs F G ++ pre.flatMap fun d => tbW cs F (k0 d)).map rwD))) (lastC pre) .no .no .no .no
theorem a3_ok : ∀ w ∈ a3, PyData.strOk w = true ∧ w.length ≤ 4 := by decide +kernel
theorem stepA {cs : List Str} (hc : Cls cs) {F G W : Bool} {pre rest : List D} {d : D} (e : pre ++ d :: rest = a3.map .str) :
    To (sSet 5 (w2 oAdd (wP 5) (wLst (wCons (wTup (wCons (wF (w2 oAdd (wP 6) (wC (.str "in")))) (wCons (wAndT (wV 2) (w2 (oIn false) (wP 6) (wP 0))) wNil))) (wCons (wTup (wCons (wF (w2 oAdd (wP 6) (wC (.str "out")))) (wCons (wAndT (wV 2) (w2 (oIn false) (wP 6) (wP 0))) wNil))) wNil))))) ((fa cs F G W pre).set 6 (.fr d)) (fa cs F G W (pre ++ [d])) := by
  obtain ⟨ed, hm⟩ := mem_k0 (L := a3) (d := d) (by rw [← e]; simp)
  obtain ⟨ok, ln⟩ := a3_ok _ hm
  have hl : pre.length ≤ 2 := by
    have z := congrArg List.length e
    rw [List.length_append, List.length_cons, List.length_map] at z
    have : a3.length = 3 := rfl
    omega
  have h6 : ((fa cs F G W pre).set 6 (.fr d))[6]? = some (.fr (.str (k0 d))) := by rw [← ed]; rfl
  have one : ∀ s : Str, s.length ≤ 100 → Ev (wTup (wCons (wF (w2 oAdd (wP 6) (wC (.str s)))) (wCons (wAndT (wV 2) (w2 (oIn false) (wP 6) (wP 0))) wNil))) ((fa cs F G W pre).set 6 (.fr d)) (.fr (rwD (k0 d ++ s, F && has cs (k0 d)))) := fun s hs =>
    ev_tup (ea_cons (ev_f (ev_addS (ev_p h6) rfl ev_c rfl (by omega))) (ea_cons (ev_and (ev_v (i := 2) rfl) fun _ => ev_inH (i := 0) (ev_p h6) ok hc rfl) ea_nil)) rfl (by show 2 ≤ 16777216; decide)
  have fl : (pre.flatMap fun d => tbW cs F (k0 d)).length ≤ 4 := by
    have : ∀ l : List D, (l.flatMap fun d => tbW cs F (k0 d)).length = 2 * l.length := fun l => by
      induction l with
      | nil => rfl
      | cons a l ih => rw [List.flatMap_cons, List.length_append, ih, List.length_cons]; show 2 + _ = _; omega
    rw [this]; omega
  refine to_lc (to_set (ra := .ow (.lst ((tbA cs F G ++ pre.flatMap fun d => tbW cs F (k0 d)).map rwD ++ (tbW cs F (k0 d)).map rwD))) (ρ' := (fa cs F G W pre).set 6 (.fr d)) (ev_addL (ev_po (i := 5) rfl) rfl (ev_lst (ea_cons (one "in" (by decide)) (ea_cons (one "out" (by decide)) ea_nil)) rfl (by show 2 ≤ 16777216; decide)) rfl (by
      rw [List.length_map, List.length_append]
      show 3 + _ + 2 ≤ _
      omega)).ex (by show 5 < 12; decide) trivial) ?_
  unfold fa
  rw [lastC_snoc, List.flatMap_append, ← List.map_append]
  simp
  rfl
def fdD : D → List D
  | .tup [.str r, .bl b] => if b = true then [.tup [.str r, .int 0]] else []
  | _ => []
def lst2 (i : Nat) (pre : List D) : Cell := match pre.getLast? with
  | some (.tup [r, b]) => .fr (if i = 0 then r else b)
  | _ => .no
theorem lst2_snoc (i : Nat) (pre : List D) (p : Str × Bool) : lst2 i (pre ++ [rwD p]) = .fr (if i = 0 then .str p.1 else .bl p.2) := by unfold lst2 rwD; rw [List.getLast?_concat]
def fc (cs : List Str) (F G W : Bool) (T : D) (c6 : Cell) (c7 : Cell) (pre : List D) : En := eA cs F G W (.fr T) c6 (match pre with | [] => c7 | _ => lst2 0 pre) (.ow (.lst (pre.flatMap fdD))) (lst2 1 pre) .no
theorem fd_len (pre : List D) : (pre.flatMap fdD).length ≤ pre.length := by
  induction pre with
  | nil => exact Nat.le_refl _
  | cons a l ih =>
    rw [List.flatMap_cons, List.length_append, List.length_cons]
    have : (fdD a).length ≤ 1 := by
      unfold fdD
      split
      · split <;> simp
      · simp
    omega
theorem rngB (b : Bool) (r : Str) : ((List.range (1 * b.toNat)).map fun i => D.int (i : Nat)).map (fun d => D.tup [.str r, d]) = fdD (rwD (r, b)) := by cases b <;> rfl
theorem stepC {cs : List Str} {F G W : Bool} {tb : List (Str × Bool)} (tl : tb.length ≤ 100) {T : D} {c6 c7 : Cell} {pre rest : List D} {d : D} (e : pre ++ d :: rest = tb.map rwD) :
    ∃ ρ2, Tg (gTp 2 (gCs (gN 7) (gCs (gN 9) gNl))) d (fc cs F G W T c6 c7 pre) ρ2 ∧ To (sSet 8 (w2 oAdd (wP 8) (wLc (wRng1 (wCons (w2 oMulA (wP 1) (wN oIntC (wCons (wP 9) wNil))) wNil)) (gN 10) tYes' (wTup (wCons (wV 7) (wCons (wV 10) wNil))) [10]))) ρ2 (fc cs F G W T c6 c7 (pre ++ [d])) := by
  obtain ⟨p, hp, rfl⟩ := List.mem_map.mp (show d ∈ tb.map rwD by rw [← e]; simp)
  have hl : pre.length ≤ 100 := by
    have z := congrArg List.length e
    rw [List.length_append, List.length_cons, List.length_map] at z
    omega
  have fl := fd_len pre
  refine ⟨eA cs F G W (.fr T) c6 (.fr (.str p.1)) (.ow (.lst (pre.flatMap fdD))) (.fr (.bl p.2)) .no, tg_2 (i := 7) (j := 9) (l := by show 7 < 12; decide) (l2 := by show 9 < 12; decide), ?_⟩
  have lc := ex_lca (W := gN 10) (we := wTup (wCons (wV 7) (wCons (wV 10) wNil))) (vs := [10]) (wi := wRng1 (wCons (w2 oMulA (wP 1) (wN oIntC (wCons (wP 9) wNil))) wNil))
    (ρ := eA cs F G W (.fr T) c6 (.fr (.str p.1)) (.ow (.lst (pre.flatMap fdD))) (.fr (.bl p.2)) .no) (ρ1 := eA cs F G W (.fr T) c6 (.fr (.str p.1)) (.ow (.lst (pre.flatMap fdD))) (.fr (.bl p.2)) .no) (ρw := eA cs F G W (.fr T) c6 (.fr (.str p.1)) (.ow (.lst (pre.flatMap fdD))) (.fr (.bl p.2)) .no) (ρ2 := eA cs F G W (.fr T) c6 (.fr (.str p.1)) (.ow (.lst (pre.flatMap fdD))) (.fr (.bl p.2)) .no) (fun d => .tup [.str p.1, d])
    (xi_rng1 (m := 1 * p.2.toNat) (ev_mulB (a := 1) (ev_p (i := 1) rfl) rfl (ev_p (i := 9) rfl) rfl (by decide)) (by cases p.2 <;> decide)) rfl rfl (by rw [List.length_map, List.length_range]; cases p.2 <;> decide) fun x hx =>
      ⟨_, tg_n (by show 10 < 12; decide), ev_tup (ea_cons (ev_v (i := 7) rfl) (ea_cons (ev_v (i := 10) rfl) ea_nil)) rfl (by show 2 ≤ 16777216; decide), rfl⟩
  rw [rngB] at lc
  have fl1 : (fdD (rwD p)).length ≤ 1 := by unfold rwD fdD; dsimp only; split <;> simp
  refine to_lc (to_set (ra := .ow (.lst (pre.flatMap fdD ++ fdD (rwD p)))) (ρ' := eA cs F G W (.fr T) c6 (.fr (.str p.1)) (.ow (.lst (pre.flatMap fdD))) (.fr (.bl p.2)) .no) (ev_addL (ev_po (i := 8) rfl) rfl lc rfl (by show (pre.flatMap fdD).length + (fdD (rwD p)).length ≤ _; omega)).ex (by show 8 < 12; decide) trivial) ?_
  unfold fc
  rw [lst2_snoc, List.flatMap_append, List.flatMap_cons, List.flatMap_nil, List.append_nil]
  cases pre with
  | nil => rfl
  | cons a l => rw [List.cons_append]; dsimp only; rw [← List.cons_append, lst2_snoc]; rfl
def fg (cs : List Str) (F G W : Bool) (T : D) (c6 c7 c9 : Cell) (L pre : List D) : En := eA cs F G W (.fr T) c6 (match pre with | [] => c7 | _ => lastC pre) (.ow (.lst L)) c9 .no
theorem stepG {cs : List Str} {F G W : Bool} {T : D} {c6 c7 c9 : Cell} {L : List D} (hL : L.length ≤ 100) {pre : List D} {d : D} :
    To (sSet 8 (w2 oAdd (wP 8) (wLc (wRng1 (wCons (w2 oMulA (w2 oSub (wP 1) (wC (.int 1))) (wN oIntC (wCons (wP 4) wNil))) wNil)) (gN 10) tYes' (wTup (wCons (wV 7) (wCons (wV 10) wNil))) [10]))) ((fg cs F G W T c6 c7 c9 L pre).set 7 (.fr d)) (fg cs F G W T c6 c7 c9 L (pre ++ [d])) := by
  have lc := ex_lca (W := gN 10) (we := wTup (wCons (wV 7) (wCons (wV 10) wNil))) (vs := [10]) (wi := wRng1 (wCons (w2 oMulA (w2 oSub (wP 1) (wC (.int 1))) (wN oIntC (wCons (wP 4) wNil))) wNil))
    (ρ := eA cs F G W (.fr T) c6 (.fr d) (.ow (.lst L)) c9 .no) (ρ1 := eA cs F G W (.fr T) c6 (.fr d) (.ow (.lst L)) c9 .no) (ρw := eA cs F G W (.fr T) c6 (.fr d) (.ow (.lst L)) c9 .no) (ρ2 := eA cs F G W (.fr T) c6 (.fr d) (.ow (.lst L)) c9 .no) (fun x => .tup [d, x])
    (xi_rng1 (m := 0 * W.toNat) (ev_mulB (a := 0) (ev_subI (a := 1) (b := 1) (ev_p (i := 1) rfl) rfl ev_c rfl) rfl (ev_p (i := 4) rfl) rfl (by decide)) (by cases W <;> decide)) rfl rfl (by rw [List.length_map, List.length_range]; cases W <;> decide) fun x hx =>
      ⟨_, tg_n (by show 10 < 12; decide), ev_tup (ea_cons (ev_v (i := 7) rfl) (ea_cons (ev_v (i := 10) rfl) ea_nil)) rfl (by show 2 ≤ 16777216; decide), rfl⟩
  rw [show (0 * W.toNat) = 0 from Nat.zero_mul _] at lc
  refine to_lc (to_set (ra := .ow (.lst (L ++ []))) (ρ' := eA cs F G W (.fr T) c6 (.fr d) (.ow (.lst L)) c9 .no) (ev_addL (ev_po (i := 8) rfl) rfl lc rfl (by show L.length + 0 ≤ _; omega)).ex (by show 8 < 12; decide) trivial) ?_
  rw [List.append_nil]
  unfold fg
  cases pre with
  | nil => rfl
  | cons a l => rw [List.cons_append]; dsimp only; rw [← List.cons_append, lastC_snoc]; rfl
def asked1 (cs : List Str) : List (Str × Int) := ((tbT cs (hf cs) (ht cs) (ho cs)).filter (·.2)).map fun p => (p.1, 0)
theorem fd_map : ∀ T : List (Str × Bool), (T.map rwD).flatMap fdD = ((T.filter (·.2)).map fun p => (p.1, (0 : Int))).map pr
  | [] => rfl
  | p :: T => by
    obtain ⟨r, b⟩ := p
    rw [List.map_cons, List.flatMap_cons, fd_map T]
    cases b
    · rw [List.filter_cons_of_neg (by simp)]; rfl
    · rw [List.filter_cons_of_pos (by rfl)]; rfl
theorem asked1_ok (cs : List Str) : ∀ q ∈ asked1 cs, PyData.strOk q.1 = true ∧ q.1 ∈ r19 := fun q hq => by
  obtain ⟨p, hp, rfl⟩ := List.mem_map.mp hq
  have h : p.1 ∈ r19 := by
    rw [← tbT_fst cs (hf cs) (ht cs) (ho cs)]
    exact List.mem_map_of_mem (List.mem_filter.mp hp).1
  exact ⟨r19_ok _ h, h⟩
theorem asked1_len (cs : List Str) : (asked1 cs).length ≤ 19 := by
  unfold asked1
  rw [List.length_map]
  exact Nat.le_trans (List.length_filter_le ..) (Nat.le_of_eq (tbT_len ..))
def srt (L : List (Str × Int)) : List D := (L.map pr).mergeSort (PySem.W.dataLe false D.py)
theorem srt_mem {L : List (Str × Int)} {d : D} : d ∈ srt L ↔ ∃ q ∈ L, d = pr q := by
  unfold srt
  rw [(List.mergeSort_perm _ _).mem_iff, List.mem_map]
  exact ⟨fun ⟨q, h, e⟩ => ⟨q, h, e.symm⟩, fun ⟨q, h, e⟩ => ⟨q, h, e.symm⟩⟩
theorem srt_len (L : List (Str × Int)) : (srt L).length = L.length := by
  unfold srt
  rw [(List.mergeSort_perm _ _).length_eq, List.length_map]
theorem e_srt {L : List (Str × Int)} {Φ : R → Prop} (hok : ∀ x ∈ L, PyData.strOk x.1 = true) (h : Φ (.ow (.lst (srt L)))) : oSorted [.lst (L.map pr)] Φ := by
  obtain ⟨a, b⟩ := goodL_of (n := 1) pr L fun x hx => pr_good (hok x hx)
  refine ⟨?_, ?_, ?_, h⟩
  · rw [a, Bool.true_and, decide_eq_true_iff]; omega
  · intro d hd d' hd'
    simp only [List.map_map, List.mem_map] at hd hd'
    obtain ⟨x, _, rfl⟩ := hd
    obtain ⟨y, _, rfl⟩ := hd'
    rfl
  · refine .inl fun d hd => ?_
    simp only [List.map_map, List.mem_map] at hd
    obtain ⟨x, _, rfl⟩ := hd
    exact ⟨_, _, rfl⟩
theorem fn_lasked {cs : List Str} (hc : Cls cs) : Fn (R__law_asked (R__law_is_open R__law_has_tags R__law_has_fields) R__law_has_tags R__law_has_fields) [.tup (cs.map .str), .int 1] (.ow (.lst (srt (asked1 cs)))) := by
  refine fnd_of rfl ?_
  unfold W__law_asked
  refine rt_seq (ρ' := [.fr (.tup (cs.map .str)), .fr (.int 1), .fr (.bl (hf cs)), .fr (.bl (ht cs)), .fr (.bl (ho cs)), .no, .no, .no, .no, .no, .no, .no]) (to_unp (ρ1 := [.fr (.tup (cs.map .str)), .fr (.int 1), .no, .no, .no, .no, .no, .no, .no, .no, .no, .no]) (d := .tup [.bl (hf cs), .bl (ht cs), .bl (ho cs)])
    (ev_tup (ea_cons (ev_f (ev_call1 (ev_v (i := 0) rfl) (fn_lhf hc))) (ea_cons (ev_f (ev_call1 (ev_v (i := 0) rfl) (fn_lht hc))) (ea_cons (ev_f (ev_call1 (ev_v (i := 0) rfl) (fn_lho hc))) ea_nil))) rfl (by show 3 ≤ 16777216; decide)).ex
    (tg_tup (tgs_cons (tg_n (by show 2 < 12; decide)) (tgs_cons (tg_n (by show 3 < 12; decide)) (tgs_cons (tg_n (by show 4 < 12; decide)) tgs_nil))) rfl)) ?_
  refine rt_seq (to_set (ra := .ow (.lst ((tbA cs (hf cs) (ht cs)).map rwD))) (ρ' := eA cs (hf cs) (ht cs) (ho cs) .no .no .no .no .no .no) (ev_lst (ea_cons (ev_tup (ea_cons ev_c (ea_cons (ev_and (ev_v (i := 2) rfl) fun _ => ev_inH (i := 0) ev_c (by decide +kernel) hc rfl) ea_nil)) rfl (by show 2 ≤ 16777216; decide))
    (ea_cons (ev_tup (ea_cons ev_c (ea_cons (ev_v (i := 3) rfl) ea_nil)) rfl (by show 2 ≤ 16777216; decide)) (ea_cons (ev_tup (ea_cons ev_c (ea_cons (ev_and (ev_v (i := 3) rfl) fun _ => ev_inH (i := 0) ev_c (by decide +kernel) hc rfl) ea_nil)) rfl (by show 2 ≤ 16777216; decide)) ea_nil))) rfl (by show 3 ≤ 16777216; decide)).ex (by show 5 < 12; decide) trivial) ?_
  refine rt_seq (to_for (fa cs (hf cs) (ht cs) (ho cs)) (ds := a3.map .str) (ρ1 := fa cs (hf cs) (ht cs) (ho cs) []) (xi_t (ev_tup (ea_cons ev_c (ea_cons ev_c (ea_cons ev_c ea_nil))) rfl (by decide)).ex) rfl fun pre d rest e => ⟨_, tg_n (by show 6 < 12; decide), stepA hc e⟩) ?_
  have eB : fa cs (hf cs) (ht cs) (ho cs) (a3.map .str) = eA cs (hf cs) (ht cs) (ho cs) (.ow (.lst ((tbB cs (hf cs) (ht cs)).map rwD))) (.fr (.str "put")) .no .no .no .no := rfl
  rw [eB]
  unfold W__law_asked_t2
  refine rt_seq (ρ' := eA cs (hf cs) (ht cs) (ho cs) (.ow (.lst ((tbC cs (hf cs) (ht cs) (ho cs)).map rwD))) (.fr (.str "put")) .no .no .no .no) (to_set (ra := .ow (.lst ((tbC cs (hf cs) (ht cs) (ho cs)).map rwD))) (ρ' := eA cs (hf cs) (ht cs) (ho cs) (.ow (.lst ((tbB cs (hf cs) (ht cs)).map rwD))) (.fr (.str "put")) .no .no .no .no)
    (ev_addL (xs := (tbB cs (hf cs) (ht cs)).map rwD) (ys := ([("fields", ho cs && hf cs), ("tags", ho cs && ht cs), ("rec", ho cs && has cs "rec")] : List (Str × Bool)).map rwD) (ev_po (i := 5) rfl) rfl (ev_lst (ea_cons (ev_tup (ea_cons ev_c (ea_cons (ev_and (ev_v (i := 4) rfl) fun _ => ev_v (i := 2) rfl) ea_nil)) rfl (by show 2 ≤ 16777216; decide)) (ea_cons (ev_tup (ea_cons ev_c (ea_cons (ev_and (ev_v (i := 4) rfl) fun _ => ev_v (i := 3) rfl) ea_nil)) rfl (by show 2 ≤ 16777216; decide))
      (ea_cons (ev_tup (ea_cons ev_c (ea_cons (ev_and (ev_v (i := 4) rfl) fun _ => ev_inH (i := 0) ev_c (by decide +kernel) hc rfl) ea_nil)) rfl (by show 2 ≤ 16777216; decide)) ea_nil))) rfl (by show 3 ≤ 16777216; decide)) rfl (by rw [List.length_map, tbB_len]; show 9 + 3 ≤ 16777216; decide)).ex (by show 5 < 12; decide) trivial) ?_
  have lc7 := ex_lca (W := gN 7) (we := wTup (wCons (wV 7) (wCons (wV 4) wNil))) (vs := [7]) (wi := wSeqI (wTup (wCons (wC (.str "base")) (wCons (wC (.str "hand")) (wCons (wC (.str "keep")) (wCons (wC (.str "known")) (wCons (wC (.str "many")) (wCons (wC (.str "on")) (wCons (wC (.str "seq")) wNil)))))))))
    (ρ := eA cs (hf cs) (ht cs) (ho cs) (.ow (.lst ((tbC cs (hf cs) (ht cs) (ho cs)).map rwD))) (.fr (.str "put")) .no .no .no .no) (ρ1 := eA cs (hf cs) (ht cs) (ho cs) (.ow (.lst ((tbC cs (hf cs) (ht cs) (ho cs)).map rwD))) (.fr (.str "put")) .no .no .no .no) (ρw := eA cs (hf cs) (ht cs) (ho cs) (.ow (.lst ((tbC cs (hf cs) (ht cs) (ho cs)).map rwD))) (.fr (.str "put")) .no .no .no .no) (ρ2 := eA cs (hf cs) (ht cs) (ho cs) (.ow (.lst ((tbC cs (hf cs) (ht cs) (ho cs)).map rwD))) (.fr (.str "put")) .no .no .no .no)
    (xs := a7.map .str) (fun d => .tup [d, .bl (ho cs)]) (xi_t (ev_tup (ea_cons ev_c (ea_cons ev_c (ea_cons ev_c (ea_cons ev_c (ea_cons ev_c (ea_cons ev_c (ea_cons ev_c ea_nil))))))) rfl (by show 7 ≤ 16777216; decide)).ex) rfl rfl (by decide) fun x hx =>
      ⟨_, tg_n (by show 7 < 12; decide), ev_tup (ea_cons (ev_v (i := 7) rfl) (ea_cons (ev_v (i := 4) rfl) ea_nil)) rfl (by show 2 ≤ 16777216; decide), rfl⟩
  refine rt_seq (ρ' := eA cs (hf cs) (ht cs) (ho cs) (.ow (.lst ((tbT cs (hf cs) (ht cs) (ho cs)).map rwD))) (.fr (.str "put")) .no .no .no .no) (to_set (ra := .ow (.lst ((tbT cs (hf cs) (ht cs) (ho cs)).map rwD))) (ρ' := eA cs (hf cs) (ht cs) (ho cs) (.ow (.lst ((tbC cs (hf cs) (ht cs) (ho cs)).map rwD))) (.fr (.str "put")) .no .no .no .no)
    ((ev_addL (xs := (tbC cs (hf cs) (ht cs) (ho cs)).map rwD) (ys := (a7.map D.str).map fun d => .tup [d, .bl (ho cs)]) (ev_po (i := 5) rfl) rfl lc7 rfl (by rw [List.length_map, List.length_map, List.length_map]; show 12 + 7 ≤ 16777216; decide)).to rfl).ex (by show 5 < 12; decide) trivial) ?_
  refine rt_seq (to_set (ra := .ow (.lst [])) (ρ' := eA cs (hf cs) (ht cs) (ho cs) (.ow (.lst ((tbT cs (hf cs) (ht cs) (ho cs)).map rwD))) (.fr (.str "put")) .no .no .no .no) (ev_lst ea_nil rfl (by decide)).ex (by show 8 < 12; decide) trivial) ?_
  refine rt_seq (to_for (fc cs (hf cs) (ht cs) (ho cs) (.lst ((tbT cs (hf cs) (ht cs) (ho cs)).map rwD)) (.fr (.str "put")) .no) (ds := (tbT cs (hf cs) (ht cs) (ho cs)).map rwD) (ρ1 := eA cs (hf cs) (ht cs) (ho cs) (.fr (.lst ((tbT cs (hf cs) (ht cs) (ho cs)).map rwD))) (.fr (.str "put")) .no (.ow (.lst [])) .no .no) (xi_l (ex_vo (i := 5) rfl)) rfl fun pre d rest e => stepC (by rw [tbT_len]; decide) e) ?_
  have eC : fc cs (hf cs) (ht cs) (ho cs) (.lst ((tbT cs (hf cs) (ht cs) (ho cs)).map rwD)) (.fr (.str "put")) .no ((tbT cs (hf cs) (ht cs) (ho cs)).map rwD) = eA cs (hf cs) (ht cs) (ho cs) (.fr (.lst ((tbT cs (hf cs) (ht cs) (ho cs)).map rwD))) (.fr (.str "put")) (.fr (.str "seq")) (.ow (.lst ((asked1 cs).map pr))) (.fr (.bl (ho cs))) .no := by
    unfold fc asked1
    rw [fd_map]; rfl
  rw [eC]
  unfold W__law_asked_t1
  have hl : ((asked1 cs).map pr).length ≤ 100 := by rw [List.length_map]; have := asked1_len cs; omega
  refine rt_seq (to_for (fg cs (hf cs) (ht cs) (ho cs) (.lst ((tbT cs (hf cs) (ht cs) (ho cs)).map rwD)) (.fr (.str "put")) (.fr (.str "seq")) (.fr (.bl (ho cs))) ((asked1 cs).map pr)) (ds := [.str "linkmany", .str "linkseq"]) (ρ1 := eA cs (hf cs) (ht cs) (ho cs) (.fr (.lst ((tbT cs (hf cs) (ht cs) (ho cs)).map rwD))) (.fr (.str "put")) (.fr (.str "seq")) (.ow (.lst ((asked1 cs).map pr))) (.fr (.bl (ho cs))) .no)
    (xi_t (ev_tup (ea_cons ev_c (ea_cons ev_c ea_nil)) rfl (by decide)).ex) rfl fun pre d rest e => ⟨_, tg_n (by show 7 < 12; decide), stepG hl⟩) ?_
  unfold W__law_asked_t0
  refine rt_seq (ρ' := fg cs (hf cs) (ht cs) (ho cs) (.lst ((tbT cs (hf cs) (ht cs) (ho cs)).map rwD)) (.fr (.str "put")) (.fr (.str "seq")) (.fr (.bl (ho cs))) ((asked1 cs).map pr) [.str "linkmany", .str "linkseq"]) (to_if (p := false) (et_b ((ev_2 (r := fb (decide ((1 : Int) < 1))) (ev_p (i := 1) rfl) ev_c fun Φ k => e_gtI k).bq (by decide))) (fun h => by cases h) fun _ => to_skip) ?_
  exact rt_x (ex_n (r := .ow (.lst (srt (asked1 cs)))) (xa_cons (ev_po (i := 8) rfl).ex xa_nil) fun Φ k => e_srt (fun x hx => (asked1_ok cs x hx).1) k) trivial
/-! ### what is broken, by the law -/
def rlD : D → Str
  | .tup [.str r, _] => r
  | _ => vof.a0
def lbk (cs : List Str) (t : Str → Bool) : List D := (srt (asked1 cs)).filter fun d => !lh t (rlD d)
theorem lbk_em (cs : List Str) (t : Str → Bool) : (lbk cs t).isEmpty = (asked1 cs).all fun q => lh t q.1 := by
  rw [Bool.eq_iff_iff, List.isEmpty_iff, List.all_eq_true]
  unfold lbk
  rw [List.filter_eq_nil_iff]
  constructor
  · intro h q hq
    have := h (pr q) (srt_mem.mpr ⟨q, hq, rfl⟩)
    simpa [rlD, pr] using this
  · intro h d hd
    obtain ⟨q, hq, rfl⟩ := srt_mem.mp hd
    have := h q hq
    simpa [rlD, pr] using this
theorem fn_lbroken {FA FH : WF} {cs : List Str} {t : Str → Bool} (ha : Fn FA [.tup (cs.map .str), .int 1] (.ow (.lst (srt (asked1 cs))))) (hh : ∀ r ∈ r19, Fn FH [.lst [ldD t], .str r, .int 0] (fb (lh t r))) : Fn (R__law_broken FA FH) [.lst [ldD t], .tup (cs.map .str)] (.ow (.lst (lbk cs t))) := by
  refine fnd_of rfl ?_
  unfold W__law_broken
  have lc := ex_lcg (W := gN 2) (t := tNot' (wTr (wCall FH (wCons (wV 0) (wCons (w2 oIx (wP 2) (wC (.int 0))) (wCons (w2 oIx (wP 2) (wC (.int 1))) wNil)))))) (we := wV 2) (vs := [2]) (ρ := [.fr (.lst [ldD t]), .fr (.tup (cs.map .str)), .no]) (ρ1 := [.fr (.lst [ldD t]), .fr (.tup (cs.map .str)), .no]) (ρw := [.fr (.lst [ldD t]), .fr (.tup (cs.map .str)), .no]) (ρ2 := [.fr (.lst [ldD t]), .fr (.tup (cs.map .str)), .no])
    (fun d => !lh t (rlD d)) (fun d => d) (wi := wSeqI (wF (wCall FA (wCons (wV 1) (wCons (wN oLen (wCons (wP 0) wNil)) wNil))))) (xs := srt (asked1 cs))
    (xi_l (ex_fo (ev_call (ea_cons (ev_v (i := 1) rfl) (ea_cons (ev_n (r := .fr (.int 1)) (ea_cons (ev_p (i := 0) rfl) ea_nil) fun Φ k => k) ea_nil)) rfl ha).ex)) rfl rfl (by rw [srt_len]; have := asked1_len cs; omega) fun d hd => by
      obtain ⟨q, hq, rfl⟩ := srt_mem.mp hd
      have q0 : q.2 = 0 := by
        obtain ⟨p, _, rfl⟩ := List.mem_map.mp hq
        rfl
      refine ⟨_, tg_n (by show 2 < 3; decide), et_not (et_tr (ev_call (ea_cons (ev_v (i := 0) rfl) (ea_cons (ev_ixT 0 rfl (ev_p (i := 2) rfl) (.inl rfl)) (ea_cons (ev_ixT 1 rfl (ev_p (i := 2) rfl) (.inl rfl)) ea_nil))) (by show some [D.lst [ldD t], .str q.1, .int q.2] = _; rw [q0]) (hh q.1 (asked1_ok cs q hq).2))), fun _ => ev_v (i := 2) rfl, rfl⟩
  rw [List.map_id'] at lc
  exact rt_x lc trivial
def stT : Str → Bool := fun _ => false
def lsS (cs : List Str) : List Str := slS.filter fun s => !(asked1 cs).all fun q => lh (flT s stT) q.1
theorem fn_laskeds {FS FB FT FN : WF} {cs : List Str} (hS : Fn FS [] (.ow tbD)) (hN : Fn FN [] (.ow (ldD stT))) (hT : ∀ s ∈ slS, Fn FT [ldD stT, .lst [.str s]] (.ow (ldD (flT s stT)))) (hB : ∀ t, Fn FB [.lst [ldD t], .tup (cs.map .str)] (.ow (.lst (lbk cs t)))) : Fn (R__law_asked_slots FS FB FT FN) [.tup (cs.map .str)] (.ow (.lst ((lsS cs).map .str))) := by
  refine fnd_of rfl ?_
  unfold W__law_asked_slots
  have lc := ex_lcg (W := gN 1) (t := wB (w2 oNe0 (wCall FB (wCons (wF (wLst (wCons (wF (wCall FT (wCons (wF (wCall FN wNil)) (wCons (wF (wLst (wCons (wV 1) wNil))) wNil)))) wNil))) (wCons (wV 0) wNil))) (wLst wNil))) (we := wV 1) (vs := [1]) (ρ := [.fr (.tup (cs.map .str)), .no]) (ρ1 := [.fr (.tup (cs.map .str)), .no]) (ρw := [.fr (.tup (cs.map .str)), .no]) (ρ2 := [.fr (.tup (cs.map .str)), .no])
    (fun d => !(asked1 cs).all fun q => lh (flT (k0 d) stT) q.1) (fun d => d) (wi := wSeqI (wF (wSortD (wCall FS wNil)))) (xs := slS.map .str)
    (xi_l (ex_fo ((ev_sortD (L := lsl) (ev_call0 hS) rfl (by decide)).to (by rw [lsl_sort])).ex)) rfl rfl (by decide) fun d hd => by
      obtain ⟨s, hs, rfl⟩ := List.mem_map.mp hd
      refine ⟨[.fr (.tup (cs.map .str)), .fr (.str s)], tg_n (by show 1 < 2; decide), et_b ?_, fun _ => ev_v (i := 1) rfl, rfl⟩
      have ec : Ev (wCall FB (wCons (wF (wLst (wCons (wF (wCall FT (wCons (wF (wCall FN wNil)) (wCons (wF (wLst (wCons (wV 1) wNil))) wNil)))) wNil))) (wCons (wV 0) wNil))) [.fr (.tup (cs.map .str)), .fr (.str s)] (.ow (.lst (lbk cs (flT s stT)))) :=
        ev_call2 (ev_fo (ev_lst (ea_cons (ev_fo (ev_call2 (ev_fo (ev_call0 hN)) (ev_fo (ev_lst (ea_cons (ev_v (i := 1) rfl) ea_nil) rfl (by show 1 ≤ 16777216; decide))) (hT s hs))) ea_nil) rfl (by show 1 ≤ 16777216; decide))) (ev_v (i := 0) rfl) (hB _)
      refine (ev_2 (r := fb (!(lbk cs (flT s stT)).isEmpty)) ec (ev_lst ea_nil rfl (by decide)) fun Φ k => k).bq ?_
      rw [lbk_em]; rfl
  rw [List.map_id', List.filter_map] at lc
  exact rt_x lc trivial
/-! ### draws, by hand -/
section
variable {ρ ρ' : En} {ws : WA} {wa wb wt : WE} {t : WT} {s s2 : WS} {S : SK} {F : WF} {Φ : R → En → Prop} {rs : List R} {ds : List D} {ra : R} {i : Nat}
theorem cps_call (h : XAs ws ρ rs ρ') (e : frs' rs = some ds) (k : F ds fun r => Φ r ρ') : wCall F ws ρ Φ := h _ (by
  show (match frs' rs with | some ds => F ds fun r => Φ r ρ' | none => False)
  rw [e]; exact k)
theorem cps_take (b : ρ[0]? = some (.fr .bag)) {n : Nat} (h1 : 1 ≤ n) (h2 : n < 1000000) (h : ∀ k : Nat, k < n → Φ (.fr (.int (k : Int))) ρ) : wCall R__law_take (wCons (wV 0) (wCons (wC (.int (n : Int))) wNil)) ρ Φ := by
  refine cps_call (xa_cons (ev_v b).ex (xa_cons ev_c.ex xa_nil)) rfl (sp_take _ _ (by omega) (by omega) fun k k0 k1 => ?_)
  obtain ⟨m, rfl⟩ : ∃ m : Nat, k = (m : Int) := ⟨k.toNat, by omega⟩
  exact h m (by omega)
theorem cps_mixed (b : ρ[0]? = some (.fr .bag)) {xs : List Str} (ha : Ex wa ρ (.fr (.lst (xs.map .str))) ρ') (hl : xs.length ≤ 1000) (h : ∀ ys : List Str, ys.Perm xs → Φ (.ow (.lst (ys.map .str))) ρ') : wCall (R__law_mixed R__law_take) (wCons (wV 0) (wCons wa wNil)) ρ Φ := by
  refine cps_call (xa_cons (ev_v b).ex (xa_cons ha xa_nil)) rfl (sp_mixed sp_take _ _ (by rw [List.length_map]; omega) fun es hp => ?_)
  obtain ⟨ys, hy, rfl⟩ := perm_strs hp
  exact h ys hy
theorem cps_n1 {o : List D → (R → Prop) → Prop} (h : wa ρ fun r ρ' => o [r.d] fun r' => Φ r' ρ') : wN o (wCons wa wNil) ρ Φ := h
theorem cps_seqset (h : wa ρ fun r ρ' => i < ρ'.length ∧ r.ok ∧ s2 (ρ'.set i r.cell) S) : sSeq (sSet i wa) s2 ρ S := h
theorem cps_set (h : wa ρ fun r ρ' => i < ρ'.length ∧ r.ok ∧ S.nx (ρ'.set i r.cell)) : sSet i wa ρ S := h
theorem cps_gp (ht : ∀ Ψ : Bool → En → Prop, (∀ p, Ψ p ρ) → t ρ Ψ) (ha : s ρ ⟨fun ρ' => s2 ρ' S, S.rt, S.bk, S.ct⟩) (hb : s2 ρ S) : sSeq (sIf t s sSkip) s2 ρ S := ht _ fun p => by
  cases p with
  | true => exact ha
  | false => exact hb
/-- a truth that is drawn -/
def AnyB (w : WE) (ρ : En) : Prop := ∀ Ψ : R → En → Prop, (∀ p, Ψ (fb p) ρ) → w ρ Ψ
theorem any_eq {m : Nat} (b : ρ[0]? = some (.fr .bag)) (h1 : 1 ≤ m) (h2 : m < 1000000) : AnyB (w2 oEq (wCall R__law_take (wCons (wV 0) (wCons (wC (.int (m : Int))) wNil))) (wC (.int 0))) ρ := fun Ψ h => by
  unfold w2
  refine cps_take b h1 h2 fun k hk => ?_
  unfold wC
  exact e_eqD (d := .int (k : Int)) (e := .int 0) rfl rfl (h _)
theorem any_gt {m : Nat} (b : ρ[0]? = some (.fr .bag)) (h1 : 1 ≤ m) (h2 : m < 1000000) : AnyB (w2 oGt (wCall R__law_take (wCons (wV 0) (wCons (wC (.int (m : Int))) wNil))) (wC (.int 0))) ρ := fun Ψ h => by
  unfold w2
  refine cps_take b h1 h2 fun k hk => ?_
  unfold wC
  exact e_gtI (m := (k : Int)) (n := 0) (h _)
theorem cps_pick {m : Nat} (b : ρ[0]? = some (.fr .bag)) (h1 : 1 ≤ m) (h2 : m < 1000000) {Ψ : Bool → En → Prop} (h : ∀ p, Ψ p ρ) : wB (w2 oEq (wCall R__law_take (wCons (wV 0) (wCons (wC (.int (m : Int))) wNil))) (wC (.int 0))) ρ Ψ := by
  unfold wB
  exact any_eq b h1 h2 _ h
/-- deeds, at most so many -/
def Dl (n : Nat) (ws : List Str) : Prop := (∀ w ∈ ws, w ∈ dds) ∧ ws.length ≤ n
theorem dl_nil (n : Nat) : Dl n [] := ⟨fun _ h => (nomatch h), Nat.zero_le _⟩
theorem dl_one {x : Str} (h : x ∈ dds) : Dl 1 [x] := ⟨fun w hw => by rw [List.mem_singleton.mp hw]; exact h, Nat.le_refl _⟩
theorem Dl.app {a b : Nat} {xs ys : List Str} (h : Dl a xs) (k : Dl b ys) : Dl (a + b) (xs ++ ys) := ⟨fun w hw => (List.mem_append.mp hw).elim (h.1 w) (k.1 w), by have := h.2; have := k.2; rw [List.length_append]; omega⟩
theorem Dl.le {a b : Nat} {xs : List Str} (h : Dl a xs) (l : a ≤ b) : Dl b xs := ⟨h.1, Nat.le_trans h.2 l⟩
def DrL (a : Nat) (w : WE) (ρ : En) : Prop := ∀ Ψ : R → En → Prop, (∀ xs r, Dl a xs → r.d = .lst (xs.map .str) → Ψ r ρ) → w ρ Ψ
theorem dr_p {xs : List Str} {n : Nat} (e : ρ[i]? = some (.ow (.lst (xs.map .str)))) (h : Dl n xs) : DrL n (wP i) ρ := fun Ψ k => ev_po e _ (k xs _ h rfl)
theorem dr_c2 {x y : Str} (h : x ∈ dds) (h2 : y ∈ dds) : DrL 2 (wLst (wCons (wC (.str x)) (wCons (wC (.str y)) wNil))) ρ := fun Ψ k => (ev_lst (ea_cons ev_c (ea_cons ev_c ea_nil)) rfl (by show 2 ≤ 16777216; decide)) _ (k [x, y] _ ((dl_one h).app (dl_one h2)) rfl)
theorem dr_rep {x : Str} (hx : x ∈ dds) (hk : ∀ Ψ : R → En → Prop, (∀ k : Nat, k ≤ 1 → Ψ (.fr (.int (k : Int))) ρ) → wb ρ Ψ) : DrL 1 (w2 oMulA (wLst (wCons (wC (.str x)) wNil)) wb) ρ := fun Ψ h => by
  refine (ev_lst (ea_cons ev_c ea_nil) rfl (by show 1 ≤ 16777216; decide)) _ ?_
  refine hk _ fun k hk => ?_
  refine e_mulL (ds := [.str x]) (n := (k : Int)) ⟨by omega, by omega, ?_⟩ ?_
  · show 1 * (k : Int).toNat ≤ 16777216
    omega
  · rcases (show k = 0 ∨ k = 1 by omega) with rfl | rfl
    · exact h [] _ (dl_nil 1) rfl
    · exact h [x] _ (dl_one hx) rfl
theorem dr_int (ht : AnyB wt ρ) : ∀ Ψ : R → En → Prop, (∀ k : Nat, k ≤ 1 → Ψ (.fr (.int (k : Int))) ρ) → wN oIntC (wCons wt wNil) ρ Ψ := fun Ψ h => cps_n1 (ht _ fun b => by
  refine e_intB (p := b) ?_
  cases b
  · exact h 0 (by decide)
  · exact h 1 (by decide))
theorem dr_tk {m : Nat} (b : ρ[0]? = some (.fr .bag)) (h1 : 1 ≤ m) (h2 : m ≤ 2) : ∀ Ψ : R → En → Prop, (∀ k : Nat, k ≤ 1 → Ψ (.fr (.int (k : Int))) ρ) → wCall R__law_take (wCons (wV 0) (wCons (wC (.int (m : Int))) wNil)) ρ Ψ := fun Ψ h => cps_take b h1 (by omega) fun k hk => h k (by omega)
theorem dr_add {a b : Nat} (h1 : DrL a wa ρ) (h2 : DrL b wb ρ) (l : a + b ≤ 1000) : DrL (a + b) (w2 oAdd wa wb) ρ := fun Ψ h => by
  refine h1 _ fun xs r hx e => ?_
  refine h2 _ fun ys r2 hy e2 => ?_
  show oAdd r.d r2.d _
  rw [e, e2]
  have := hx.2
  have := hy.2
  refine e_addL (by rw [List.length_map, List.length_map]; omega) ?_
  exact h (xs ++ ys) (.ow (.lst (xs.map D.str ++ ys.map D.str))) (hx.app hy) (by rw [List.map_append])
end
/-! ### _law_class -/
def eK (k : Nat) (xs : List Str) (c3 : Cell) : En := [.fr .bag, .fr (.int (k : Int)), .ow (.lst (xs.map .str)), c3]
/-- own lists -/
def DrO (a : Nat) (w : WE) (ρ : En) : Prop := ∀ Ψ : R → En → Prop, (∀ xs, Dl a xs → Ψ (.ow (.lst (xs.map .str))) ρ) → w ρ Ψ
theorem dr_addO {ρ : En} {wa wb : WE} {a b : Nat} (h1 : DrL a wa ρ) (h2 : DrL b wb ρ) (l : a + b ≤ 1000) : DrO (a + b) (w2 oAdd wa wb) ρ := fun Ψ h => by
  refine h1 _ fun xs r hx e => ?_
  refine h2 _ fun ys r2 hy e2 => ?_
  show oAdd r.d r2.d _
  rw [e, e2]
  have := hx.2
  have := hy.2
  refine e_addL (by rw [List.length_map, List.length_map]; omega) ?_
  rw [← List.map_append]
  exact h (xs ++ ys) (hx.app hy)
theorem cl_set {k : Nat} {xs : List Str} {c3 : Cell} {w : WE} {m : Nat} {S : SK} {s2 : WS} (hw : DrO m w (eK k xs c3)) (hs : ∀ ys, Dl m ys → s2 (eK k ys c3) S) : sSeq (sSet 2 w) s2 (eK k xs c3) S :=
  cps_seqset (hw _ fun ys hy => ⟨by show 2 < 4; decide, trivial, hs ys hy⟩)
theorem cl_set1 {k : Nat} {xs : List Str} {c3 : Cell} {w : WE} {m : Nat} {S : SK} (hw : DrO m w (eK k xs c3)) (hs : ∀ ys, Dl m ys → S.nx (eK k ys c3)) : sSet 2 w (eK k xs c3) S :=
  cps_set (hw _ fun ys hy => ⟨by show 2 < 4; decide, trivial, hs ys hy⟩)
theorem eK0 (k : Nat) (xs : List Str) (c3 : Cell) : (eK k xs c3)[0]? = some (.fr .bag) := rfl
theorem eK2 (k : Nat) (xs : List Str) (c3 : Cell) : (eK k xs c3)[2]? = some (.ow (.lst (xs.map .str))) := rfl
theorem cl_ret {k : Nat} {xs : List Str} {c3 : Cell} {Φ : R → Prop} {nx bk ct : En → Prop} (hx : Dl 50 xs) (h : ∀ cs, Cls cs → Φ (.fr (.tup (cs.map .str)))) : sRet (wN oTuple (wCons (wSortSetS (wP 2)) wNil)) (eK k xs c3) ⟨nx, fun r _ => Φ r, bk, ct⟩ := by
  have l := hx.2
  unfold eK
  and_intros
  refine e_sortSetW (xs := xs) rfl (by show _ < 4096; omega) ?_
  and_intros
  refine h _ ⟨fun c hc => hx.1 c (putAll_mem.mp ((List.mergeSort_perm _ _).mem_iff.mp hc)), ?_⟩
  rw [List.length_mergeSort]
  have := put_le xs
  omega
theorem cl_t0 {k : Nat} {xs : List Str} {c3 : Cell} {Φ : R → Prop} {nx bk ct : En → Prop} (hx : Dl 20 xs) (h : ∀ cs, Cls cs → Φ (.fr (.tup (cs.map .str)))) : W__law_class_t0 R__law_take (R__law_mixed R__law_take) (R__law_one R__law_take) (eK k xs c3) ⟨nx, fun r _ => Φ r, bk, ct⟩ := by
  unfold W__law_class_t0
  refine cl_set (dr_addO (dr_add (dr_p (eK2 ..) hx) (dr_rep (by decide +kernel) (dr_int (any_gt (m := 6) (eK0 ..) (by decide) (by decide)))) (by decide)) (dr_rep (by decide +kernel) (dr_int (any_eq (m := 3) (eK0 ..) (by decide) (by decide)))) (by decide)) fun ys hy => ?_
  refine cl_set (dr_addO (dr_p (eK2 ..) hy) (dr_rep (by decide +kernel) (dr_int (any_eq (m := 8) (eK0 ..) (by decide) (by decide)))) (by decide)) fun zs hz => ?_
  refine cps_gp (fun Ψ hp => cps_pick (m := 12) (eK0 ..) (by decide) (by decide) hp) ?_ (cl_ret (hz.le (by decide)) h)
  refine cps_set ?_
  have l := hz.2
  refine cps_mixed (ρ' := [.fr .bag, .fr (.int (k : Int)), .fr (.lst (zs.map .str)), c3]) (xs := zs) (eK0 ..) (ex_vo (i := 2) (eK2 ..)) (by omega) fun us hu => ?_
  refine ⟨by show 2 < 4; decide, trivial, ?_⟩
  show sRet (wN oTuple (wCons (wSortSetS (wP 2)) wNil)) [.fr .bag, .fr (.int (k : Int)), .ow (.lst (cutD (us.map .str) (some ((1 : Nat) : Int)) none)), c3] _
  rw [cutD_from, ← List.map_drop]
  refine cl_ret (k := k) (xs := us.drop 1) ⟨fun w hw => hz.1 w (hu.mem_iff.mp (List.mem_of_mem_drop hw)), ?_⟩ h
  rw [List.length_drop, hu.length_eq]
  omega
theorem cl_t1 {k : Nat} {xs : List Str} {c3 : Cell} {Φ : R → Prop} {nx bk ct : En → Prop} (hx : Dl 8 xs) (h : ∀ cs, Cls cs → Φ (.fr (.tup (cs.map .str)))) : W__law_class_t1 R__law_take (R__law_mixed R__law_take) (R__law_one R__law_take) (eK k xs c3) ⟨nx, fun r _ => Φ r, bk, ct⟩ := by
  unfold W__law_class_t1
  refine cps_gp (fun Ψ hp => ?_) ?_ (cl_t0 (hx.le (by decide)) h)
  · unfold wB
    refine (ev_p (i := 1) (d := .int (k : Int)) rfl) _ ?_
    refine (ev_tup (ea_cons ev_c (ea_cons ev_c (ea_cons ev_c ea_nil))) rfl (by show 3 ≤ 16777216; decide)) _ ?_
    exact e_inT0 (d := .int (k : Int)) (ds := [.int 1, .int 2, .int 3]) rfl (hp _)
  · refine cl_set1 (dr_addO (dr_add (dr_p (eK2 ..) hx) (dr_c2 (by decide +kernel) (by decide +kernel)) (by decide)) (dr_rep (by decide +kernel) (dr_tk (m := 2) (eK0 ..) (by decide) (by decide))) (by decide)) fun ys hy => cl_t0 (hy.le (by decide)) h
def ClaF (F : WF) : Prop := ∀ Φ : R → Prop, (∀ cs, Cls cs → Φ (.fr (.tup (cs.map .str)))) → F [.bag] Φ
theorem sp_cla : ClaF (R__law_class R__law_take (R__law_mixed R__law_take) (R__law_one R__law_take)) := fun Φ h => by
  refine ⟨rfl, ?_⟩
  show W__law_class _ _ _ [.fr .bag, .no, .no, .no] _
  unfold W__law_class
  and_intros
  refine sp_take _ _ (by omega) (by omega) fun k' k0 k1 => ?_
  obtain ⟨k, rfl⟩ : ∃ m : Nat, k' = (m : Int) := ⟨k'.toNat, by omega⟩
  and_intros
  by_cases c : (k : Int) = 1
  · rw [if_neg (by simp [c])]
    and_intros
    exact cl_t1 (k := k) (xs := []) (dl_nil _) h
  · rw [if_pos (by simp [c])]
    and_intros
    refine (sp_one sp_take).l _ _ (by simp) (by decide) fun d hd => ?_
    obtain ⟨xs, rfl, hx⟩ : ∃ xs, d = .lst (xs.map .str) ∧ Dl 2 xs := by
      simp only [List.mem_cons, List.not_mem_nil, or_false] at hd
      rcases hd with rfl | rfl | rfl | rfl
      · exact ⟨["make"], rfl, by decide +kernel, by decide⟩
      · exact ⟨["make"], rfl, by decide +kernel, by decide⟩
      · exact ⟨["add"], rfl, by decide +kernel, by decide⟩
      · exact ⟨["add", "make"], rfl, by decide +kernel, by decide⟩
    have := hx.2
    have lx : (xs.map D.str).length = xs.length := List.length_map ..
    and_intros
    refine e_addL (ds := [.str "look"]) (es := xs.map .str) (by rw [lx]; show 1 + xs.length ≤ _; omega) ?_
    and_intros
    refine lcD_some DdD _ _ (fun d hd Ψ h0 hΨ => ?_) (by decide) fun ys y1 y2 => ?_
    · refine ⟨by show 3 < 4; decide, ?_⟩
      dsimp only [List.set_cons_succ, List.set_cons_zero]
      and_intros
      refine sp_take _ _ (by omega) (by omega) fun k k0 k1 => ?_
      and_intros
      refine e_dec (fun c => ?_) (fun c => ?_)
      · and_intros
        refine hΨ _ ?_
        simp only [List.mem_cons, List.not_mem_nil, or_false] at hd
        rcases hd with rfl | rfl | rfl <;> exact ⟨_, by decide +kernel, rfl⟩
      · and_intros
        exact h0
    · obtain ⟨mo, rfl, hmo⟩ := ddD_of ys y2
      rw [List.length_map] at y1
      have y3 : mo.length ≤ 3 := y1
      have lm : (mo.map D.str).length = mo.length := List.length_map ..
      have ll : ([D.str "look"] ++ xs.map D.str).length = xs.length + 1 := by rw [List.length_append, lx, Nat.add_comm]; rfl
      and_intros
      refine e_addL (ds := [D.str "look"] ++ xs.map D.str) (es := mo.map .str) (by rw [ll, lm]; omega) ?_
      and_intros
      have e : [D.str "look"] ++ xs.map D.str ++ mo.map D.str = ((["look"] : List Str) ++ xs ++ mo).map D.str := by rw [List.map_append, List.map_append]; rfl
      rw [e]
      exact cl_t1 (k := k) (xs := (["look"] : List Str) ++ xs ++ mo) (((dl_one (by decide +kernel)).app hx).app ⟨hmo, y3⟩ |>.le (by decide)) h
/-! ### both tell the same (one plan, one slot turned) -/
def mk1 (s : Str) : Nat := 2 ^ sx s
theorem pl_one {s : Str} (hs : s ∈ slS) : plsL (mk1 s) 1 = [plD (flT s stT)] := by
  show [plD (tOf (mk1 s) 0)] = _
  rw [plP_congr (t := tOf (mk1 s) 0) (u := flT s stT) fun x hx => ?_]
  unfold tOf mk1 flT stT
  rw [Nat.testBit_two_pow]
  by_cases e : x = s
  · subst e; simp
  · rw [if_neg e, decide_eq_false]
    intro z
    exact e (sx_inj hx hs (by omega))
theorem af (cs : List Str) {r a : Str} (h : wordsOf r = ([("fields" : Str), a] : List Str)) (n : a ≠ "fields" ∧ a ≠ "tags" ∧ a ≠ "open") : askP cs r = (hf cs && has cs a) := by rw [ask2 h, so_f, so_e cs n.1 n.2.1 n.2.2]
theorem ao (cs : List Str) {r : Str} (h : wordsOf r = (["open"] : List Str)) : askP cs r = ho cs := by rw [ask1 h, so_o]
theorem ask_same (cs : List Str) : ∀ p ∈ tbT cs (hf cs) (ht cs) (ho cs), askP cs p.1 = p.2 := by
  intro p hp
  simp only [tbT, tbC, tbB, tbA, tbW, a3, a7, List.flatMap_cons, List.flatMap_nil, List.append_nil, List.map_cons, List.map_nil, List.cons_append, List.nil_append, List.mem_cons, List.not_mem_nil, or_false, List.mem_append] at hp
  rcases hp with rfl | rfl | rfl | rfl | rfl | rfl | rfl | rfl | rfl | rfl | rfl | rfl | rfl | rfl | rfl | rfl | rfl | rfl | rfl
  · exact af (r := "make") (a := "make") cs (by decide +kernel) (by decide +kernel)
  · show askP cs "tag" = _
    rw [ask1 (a := "tags") (by decide +kernel), so_t]
  · show askP cs "widen" = _
    rw [ask2 (a := "tags") (b := "widen") (by decide +kernel), so_t, so_e cs (by decide +kernel) (by decide +kernel) (by decide +kernel)]
  · exact af (r := ("add" ++ "in")) (a := "add") cs (by decide +kernel) (by decide +kernel)
  · exact af (r := ("add" ++ "out")) (a := "add") cs (by decide +kernel) (by decide +kernel)
  · exact af (r := ("drop" ++ "in")) (a := "drop") cs (by decide +kernel) (by decide +kernel)
  · exact af (r := ("drop" ++ "out")) (a := "drop") cs (by decide +kernel) (by decide +kernel)
  · exact af (r := ("put" ++ "in")) (a := "put") cs (by decide +kernel) (by decide +kernel)
  · exact af (r := ("put" ++ "out")) (a := "put") cs (by decide +kernel) (by decide +kernel)
  · show askP cs "fields" = _
    rw [ask2 (a := "open") (b := "fields") (by decide +kernel), so_o, so_f]
  · show askP cs "tags" = _
    rw [ask2 (a := "open") (b := "tags") (by decide +kernel), so_o, so_t]
  · show askP cs "rec" = _
    rw [ask2 (a := "open") (b := "rec") (by decide +kernel), so_o, so_e cs (by decide +kernel) (by decide +kernel) (by decide +kernel)]
  · exact ao (r := "base") cs (by decide +kernel)
  · exact ao (r := "hand") cs (by decide +kernel)
  · exact ao (r := "keep") cs (by decide +kernel)
  · exact ao (r := "known") cs (by decide +kernel)
  · exact ao (r := "many") cs (by decide +kernel)
  · exact ao (r := "on") cs (by decide +kernel)
  · exact ao (r := "seq") cs (by decide +kernel)
theorem hl_same1 : ∀ s ∈ slS, ∀ r ∈ r19, hlB (mk1 s) r 0 1 = lh (flT s stT) r := by decide +kernel
theorem allA1a : ∀ q ∈ allA 1, q.1 ∈ r19 ∧ q.2 = 0 := by decide +kernel
theorem allA1b : ∀ r ∈ r19, (r, (0 : Int)) ∈ allA 1 := by decide +kernel
theorem ask_mem (cs : List Str) (q : Str × Int) : q ∈ sel cs 1 ↔ q ∈ asked1 cs := by
  unfold sel asked1
  rw [List.mem_filter, List.mem_map]
  constructor
  · rintro ⟨h1, h2⟩
    obtain ⟨a, b⟩ := allA1a q h1
    rw [← tbT_fst cs (hf cs) (ht cs) (ho cs)] at a
    obtain ⟨p, hp, e⟩ := List.mem_map.mp a
    refine ⟨p, List.mem_filter.mpr ⟨hp, ?_⟩, ?_⟩
    · rw [← ask_same cs p hp, e]; exact h2
    · rw [e, ← b]
  · rintro ⟨p, hp, rfl⟩
    obtain ⟨h1, h2⟩ := List.mem_filter.mp hp
    refine ⟨allA1b _ (by rw [← tbT_fst cs (hf cs) (ht cs) (ho cs)]; exact List.mem_map_of_mem h1), ?_⟩
    show askP cs p.1 = true
    rw [ask_same cs p h1]; exact h2
theorem same_one (cs : List Str) {s : Str} (hs : s ∈ slS) : (bkn cs (mk1 s) 1).isEmpty = (asked1 cs).all fun q => lh (flT s stT) q.1 := by
  rw [Bool.eq_iff_iff, List.isEmpty_iff, List.all_eq_true]
  unfold bkn
  rw [List.filter_eq_nil_iff]
  have key : ∀ q ∈ asked1 cs, hlB (mk1 s) q.1 q.2 1 = lh (flT s stT) q.1 := fun q hq => by
    have q0 : q.2 = 0 := by
      obtain ⟨p, _, rfl⟩ := List.mem_map.mp hq
      rfl
    rw [q0]
    exact hl_same1 s hs q.1 (asked1_ok cs q hq).2
  constructor
  · intro h q hq
    have := h q ((ask_mem cs q).mpr hq)
    rw [key q hq] at this
    simpa using this
  · intro h q hq
    have hq' := (ask_mem cs q).mp hq
    rw [key q hq']
    have := h q hq'
    simpa using this
/-! ### asked_slots -/
theorem sp_askeds {Fb Ft : WF} (hb : BrkF Fb) (ht : ∀ (t : Str → Bool) {x : Str}, x ∈ slS → ∀ Φ : R → Prop, Φ (.fr (plD (flT x t))) → Ft [plD t, .str x] Φ) {cs : List Str} (hc : Cls cs) (Φ : R → Prop) (h : Φ (.ow (.lst ((lsS cs).map .str)))) : R_asked_slots R_slots Fb Ft F_Plan_init [.tup (cs.map .str)] Φ := by
  have esz := sizeLine_eq
  refine ⟨rfl, ?_⟩
  show W_asked_slots _ _ _ _ [.fr (.tup (cs.map .str)), .no] _
  unfold W_asked_slots
  and_intros
  refine ⟨rfl, ?_⟩
  unfold W_slots
  and_intros
  rw [show ksD d_VALUES = slS.map D.str from rfl]
  refine lcD_of D.str (fun s => if (!(bkn cs (mk1 s) 1).isEmpty) = true then some (.str s) else none) slS [] (fun s hs Ψ hΨ => ?_) (by decide) ?_
  · unfold stepD
    and_intros
    show F_Plan_init [dctS []] _
    refine sp_mk (ps := []) (t := stT) (fun p hp => (nomatch hp)) (by decide) (fun x hx => rfl) _ ?_
    and_intros
    refine ht stT hs _ ?_
    and_intros
    rw [← pl_one hs]
    refine hb cs hc (mk1 s) 1 (by decide) (by decide) _ ?_
    and_intros
    rw [isE_map]
    refine e_bool (fun c => ?_) (fun c => ?_)
    · rw [if_pos c] at hΨ
      and_intros
      exact hΨ
    · rw [if_neg (by rw [c]; decide)] at hΨ
      and_intros
      exact hΨ
  · rw [filterMap_if, List.nil_append]
    and_intros
    have e : (slS.filter fun s => !(bkn cs (mk1 s) 1).isEmpty) = lsS cs := by
      unfold lsS
      exact List.filter_congr fun s hs => by rw [same_one cs hs]
    rw [e]
    exact h
/-! ### the Plan of a dict of all slots -/
theorem stdF : Fn (R__law_standard R__law_slots) [] (.ow (ldD stT)) := fn_lstd fn_lslots
theorem look_ld {t : Str → Bool} {x : Str} (hx : x ∈ slS) : lookD (lsl.map .inr) (lsl.map fun x => .str (vof x (t x))) (.inr x) = some (.str (vof x (t x))) := lookD_map (fun x => D.str (vof x (t x))) (ls_in.mpr hx)
theorem tells_perm {t : Str → Bool} {ys : List Str} (h : ys.Perm slS) : Tells (ys.map fun x => (x, vof x (t x))) t := fun x hx => by
  rw [look_map (fun x => vof x (t x)) (h.mem_iff.mpr hx)]; rfl
theorem tells_flt {t : Str → Bool} : Tells ((slS.filter t).map fun x => (x, vof x (t x))) t := fun x hx => by
  by_cases c : t x = true
  · rw [look_map (fun x => vof x (t x)) (List.mem_filter.mpr ⟨hx, c⟩)]; rfl
  · have : ((slS.filter t).map fun x => (x, vof x (t x))).lookup x = none := by
      rw [List.lookup_eq_none_iff]
      intro p hp
      obtain ⟨y, hy, rfl⟩ := List.mem_map.mp hp
      obtain ⟨_, h2⟩ := List.mem_filter.mp hy
      rw [bne_iff_ne]
      intro e
      exact c ((congrArg t e).trans h2)
    rw [this, show t x = false by simpa using c]; rfl
theorem dct_of {t : Str → Bool} {ys : List Str} (nd : ys.Nodup) : mrgK [] ((ys.map fun x => ((.inr x : Key), D.str (vof x (t x)))).map (·.1)) = (ys.map fun x => (x, vof x (t x))).map (fun p => Sum.inr p.1) ∧ mrgD [] [] (ys.map fun x => ((.inr x : Key), D.str (vof x (t x)))) = (ys.map fun x => (x, vof x (t x))).map fun p => .str p.2 := by
  obtain ⟨a, b⟩ := mrg_map nd fun x => D.str (vof x (t x))
  rw [a, b, List.map_map, List.map_map]
  exact ⟨rfl, rfl⟩
def PlanF (F : WF) : Prop := ∀ (t : Str → Bool) (Φ : R → Prop), Φ (.fr (plD t)) → F [.bag, ldD t] Φ
theorem ne_v {t : Str → Bool} {x : Str} (hx : x ∈ slS) : (!decide (vof x (t x) = vof x (stT x))) = t x := by
  rw [vof_inj hx]
  unfold stT
  cases t x <;> rfl
theorem sp_plan : PlanF (R__law_plan F_Plan_init R__law_take (R__law_mixed R__law_take) (R__law_standard R__law_slots)) := fun t Φ h => by
  have esz := sizeLine_eq
  refine ⟨rfl, ?_⟩
  show W__law_plan _ _ _ _ [.fr .bag, .fr (ldD t), .no, .no] _
  unfold W__law_plan
  and_intros
  refine stdF _ ?_
  and_intros
  refine sp_take _ _ (by omega) (by omega) fun k k0 k1 => ?_
  and_intros
  refine e_dec (fun c => ?_) (fun c => ?_)
  · and_intros
    refine e_sortDW (xs := lsl) rfl (strKs_inr lsl) (by decide) ?_
    rw [lsl_sort]
    and_intros
    refine sp_mixed sp_take _ _ (by decide) fun es hp => ?_
    obtain ⟨ys, hy, rfl⟩ := perm_strs hp
    have ly : ys.length = 25 := by rw [hy.length_eq, sl_len]
    have nd : ys.Nodup := hy.nodup_iff.mpr sl_nd
    and_intros
    refine lcD_of D.str (fun x => some (.tup [.str x, .str (vof x (t x))])) ys [] (fun x hx Ψ hΨ => ?_) (by rw [List.length_nil]; omega) ?_
    · and_intros
      refine e_dix2 rfl (look_ld (hy.mem_iff.mp hx)) ?_
      and_intros
      exact hΨ
    · rw [filterMap_some, List.nil_append]
      and_intros
      refine e_dictPW (pairsD_map (fun x => .str (vof x (t x))) ys) ?_
      obtain ⟨m1, m2⟩ := dct_of (t := t) nd
      rw [m1, m2]
      and_intros
      show F_Plan_init [dctS (ys.map fun x => (x, vof x (t x)))] _
      refine sp_mk (t := t) (fun p hp => ?_) (by rw [List.length_map]; omega) (tells_perm hy) _ ?_
      · obtain ⟨x, hx, rfl⟩ := List.mem_map.mp hp
        exact ⟨hy.mem_iff.mp hx, _, rfl⟩
      · and_intros
        exact h
  · unfold W__law_plan_t0
    and_intros
    refine e_sortDW (xs := lsl) rfl (strKs_inr lsl) (by decide) ?_
    rw [lsl_sort]
    and_intros
    refine lcD_of D.str (fun x => if t x = true then some (.tup [.str x, .str (vof x (t x))]) else none) slS [] (fun x hx Ψ hΨ => ?_) (by decide) ?_
    · and_intros
      refine e_dix2 rfl (look_ld hx) ?_
      and_intros
      refine e_dix2 rfl (look_ld (t := stT) hx) ?_
      and_intros
      rw [ne_v hx]
      refine e_bool (fun c => ?_) (fun c => ?_)
      · rw [if_pos c] at hΨ
        and_intros
        refine e_dix2 rfl (look_ld hx) ?_
        and_intros
        exact hΨ
      · rw [if_neg (by rw [c]; decide)] at hΨ
        and_intros
        exact hΨ
    · have e : (slS.filterMap fun x => if t x = true then some (D.tup [.str x, .str (vof x (t x))]) else none) = (slS.filter t).map fun x => .tup [.str x, .str (vof x (t x))] := filterMap_if ..
      rw [e, List.nil_append]
      and_intros
      refine e_dictPW (pairsD_map (fun x => .str (vof x (t x))) (slS.filter t)) ?_
      obtain ⟨m1, m2⟩ := dct_of (t := t) (ys := slS.filter t) (sl_nd.filter _)
      rw [m1, m2]
      and_intros
      show F_Plan_init [dctS ((slS.filter t).map fun x => (x, vof x (t x)))] _
      refine sp_mk (t := t) (fun p hp => ?_) (by rw [List.length_map]; have := List.length_filter_le t slS; rw [sl_len] at this; omega) tells_flt _ ?_
      · obtain ⟨x, hx, rfl⟩ := List.mem_map.mp hp
        exact ⟨(List.mem_filter.mp hx).1, _, rfl⟩
      · and_intros
        exact h
/-! ### the law -/
theorem sls_sub (cs : List Str) : ∀ s ∈ lsS cs, s ∈ slS := fun s hs => (List.mem_filter.mp hs).1
theorem okR_ls (cs : List Str) : okR (.lst ((lsS cs).map .str)) = true := okR_strs (fun x hx => (sl_ok x (sls_sub cs x hx)).1) (fun x hx => (show ∀ x ∈ slS, x.length ≤ 20 by decide +kernel) x (sls_sub cs x hx)) (by
  have := List.length_filter_le (fun s => !(asked1 cs).all fun q => lh (flT s stT) q.1) slS
  rw [sl_len] at this
  show (slS.filter _).length ≤ _
  omega)
def PlsF (F : WF) : Prop := ∀ (t : Str → Bool) (Φ : R → Prop), Φ (.ow (.lst [plD t])) → F [.bag, .lst [ldD t]] Φ
theorem sp_plans {F : WF} (hf : PlanF F) : PlsF (R__law_plans F) := fun t Φ h => by
  have esz := sizeLine_eq
  refine ⟨rfl, ?_⟩
  show W__law_plans _ [.fr .bag, .fr (.lst [ldD t]), .no] _
  unfold W__law_plans
  and_intros
  refine lcD_of (fun _ : Unit => ldD t) (fun _ => some (plD t)) [()] [] (fun x hx Ψ hΨ => ?_) (by decide) ?_
  · and_intros
    refine hf t _ ?_
    and_intros
    exact hΨ
  · and_intros
    exact h
theorem soF : SoF F_is_so := sp_so (sp_ho sp_ht sp_hf) sp_ht sp_hf
theorem brkF : BrkF F_broken := sp_broken (sp_asked (sp_all sp_idx) (sp_askin soF)) (sp_holds sp_sums sp_iseven)
theorem rgtF : RgtF F_are_right := sp_right brkF
theorem lbF {cs : List Str} (hc : Cls cs) (t : Str → Bool) : Fn F__law_broken [.lst [ldD t], .tup (cs.map .str)] (.ow (.lst (lbk cs t))) := fn_lbroken (fn_lasked hc) fun r hr => fn_lholds t hr
theorem lasF {cs : List Str} (hc : Cls cs) : Fn F__law_asked_slots [.tup (cs.map .str)] (.ow (.lst ((lsS cs).map .str))) := fn_laskeds fn_lslots stdF (fun s hs => fn_lturned fn_lslots stT hs) fun t => lbF hc t
theorem asF {cs : List Str} (hc : Cls cs) : Fn F_asked_slots [.tup (cs.map .str)] (.ow (.lst ((lsS cs).map .str))) := fun Φ h => sp_askeds brkF sp_pturned hc Φ h
def clD (cs : List Str) : D := .tup (cs.map .str)
theorem cls_dds : Cls dds := ⟨fun _ h => h, by decide +kernel⟩
theorem cls_nil : Cls [] := ⟨(fun _ h => nomatch h), by decide⟩
/-- the last tests of a class -/
theorem sp_t0 {cs : List Str} (hc : Cls cs) {c0 c3 c4 c5 c6 c9 c10 c11 c12 : Cell} {S : SK} (h : ∀ c11 c12 : Cell, S.nx [c0, .fr .bag, .fr (clD dds), c3, c4, c5, c6, .fr (clD cs), .ow (.lst ((lsS cs).map .str)), c9, c10, c11, c12]) :
    W_law_t0 F__law_take F_broken F__law_alike F_are_right F__law_plans F__law_turned F__law_standard F__law_one F__law_slots F_asked_slots F__law_asked_slots F__law_class F__law_bag [c0, .fr .bag, .fr (clD dds), c3, c4, c5, c6, .fr (clD cs), .ow (.lst ((lsS cs).map .str)), c9, c10, c11, c12] ⟨S.nx, S.rt, S.bk, S.ct⟩ := by
  unfold W_law_t0
  and_intros
  refine fn_lslots _ ?_
  and_intros
  refine e_sortDW (xs := lsl) rfl (strKs_inr lsl) (by decide) ?_
  rw [lsl_sort]
  and_intros
  refine (sp_one sp_take).l _ _ (by decide) (by decide) fun d hd => ?_
  obtain ⟨s, hs, rfl⟩ := List.mem_map.mp hd
  and_intros
  refine stdF _ ?_
  and_intros
  refine fn_lturned fn_lslots stT hs _ ?_
  and_intros
  refine sp_plans sp_plan _ _ ?_
  and_intros
  rw [← pl_one hs]
  refine rgtF cs hc (mk1 s) 1 (by decide) (by decide) _ ?_
  have em : decide (s ∈ lsS cs) = !(bkn cs (mk1 s) 1).isEmpty := by
    rw [same_one cs hs, Bool.eq_iff_iff, decide_eq_true_iff]
    unfold lsS
    rw [List.mem_filter]
    exact ⟨fun h => h.2, fun h => ⟨hs, h⟩⟩
  have oks : ∀ x ∈ lsS cs, PyData.strOk x = true := fun x hx => (sl_ok x (sls_sub cs x hx)).1
  and_intros
  refine oNin_L (sl_ok s hs).1 oks ?_
  rw [em, Bool.not_not]
  have okb : okR (.bl (bkn cs (mk1 s) 1).isEmpty) = true := by cases (bkn cs (mk1 s) 1).isEmpty <;> decide
  and_intros
  refine sp_alike _ _ okb ?_
  and_intros
  refine brkF cs hc (mk1 s) 1 (by decide) (by decide) _ ?_
  and_intros
  rw [isE_map]
  and_intros
  refine oIn_L (sl_ok s hs).1 oks ?_
  rw [em]
  and_intros
  have eb : ∀ b : Bool, (!((!b) == (!b))) = false := by decide
  rw [eb, if_neg Bool.false_ne_true]
  exact h (.fr (.str s)) (.fr (.lst (plsL (mk1 s) 1)))
/-- a class's turn -/
def clT : WS := sSeq (sSet 8 (wCall F__law_asked_slots (wCons (wV 7) wNil)))
    (sSeq (sFor (wRng1 (wCons (wC (.int 2)) wNil)) (gN 9)
    (sSeq (sSet 10 (wCall F_asked_slots (wCons (wV 7) wNil)))
    (sSeq (sIf (tNot' (wTr (wCallB F__law_alike (wCons (wP 10) (wCons (wP 8) wNil))))) (sRet (wC (.bl false))) sSkip)
    (sMutF owApp 10 (wCons (wC (.str "zz")) wNil)))))
    (W_law_t0 F__law_take F_broken F__law_alike F_are_right F__law_plans F__law_turned F__law_standard F__law_one F__law_slots F_asked_slots F__law_asked_slots F__law_class F__law_bag))
theorem sp_clT {cs : List Str} (hc : Cls cs) {c0 c3 c4 c5 c6 c8 c9 c10 c11 c12 : Cell} {S : SK} (h : ∀ c8 c9 c10 c11 c12 : Cell, S.nx [c0, .fr .bag, .fr (clD dds), c3, c4, c5, c6, .fr (clD cs), c8, c9, c10, c11, c12]) :
    clT [c0, .fr .bag, .fr (clD dds), c3, c4, c5, c6, .fr (clD cs), c8, c9, c10, c11, c12] ⟨S.nx, S.rt, S.bk, S.ct⟩ := by
  unfold clT
  have ll : (lsS cs).length ≤ 25 := by
    have := List.length_filter_le (fun s => !(asked1 cs).all fun q => lh (flT s stT) q.1) slS
    rw [sl_len] at this
    exact this
  and_intros
  refine lasF hc _ ?_
  and_intros
  refine forD_inv (fun rest ρ => ∃ c9 c10 : Cell, ρ = [c0, .fr .bag, .fr (clD dds), c3, c4, c5, c6, .fr (clD cs), .ow (.lst ((lsS cs).map .str)), c9, c10, c11, c12]) ?_ ?_ _ _ ⟨_, _, rfl⟩
  · rintro d rest ρ ⟨c9, c10, rfl⟩ nxt hx
    and_intros
    refine asF hc _ ?_
    and_intros
    refine sp_alike _ _ (okR_ls cs) ?_
    and_intros
    have lm : ((lsS cs).map D.str).length = (lsS cs).length := List.length_map ..
    refine ⟨by rw [lm]; show _ < sizeLine; rw [sizeLine_eq]; omega, ?_⟩
    exact hx _ ⟨_, _, rfl⟩
  · rintro ρ ⟨c9, c10, rfl⟩
    exact sp_t0 hc fun c11 c12 => h _ _ _ _ _
def eN (c0 c3 c4 c5 c6 c7 c8 c9 c10 c11 c12 : Cell) : En := [c0, .fr .bag, .fr (clD dds), c3, c4, c5, c6, c7, c8, c9, c10, c11, c12]
/-- the classes of a turn -/
theorem sp_cls {ds : List D} (hd : ∀ d ∈ ds, ∃ cs, Cls cs ∧ d = clD cs) {c0 c3 c4 c5 c6 : Cell} {S : SK} (h : ∀ c7 c8 c9 c10 c11 c12 : Cell, S.nx (eN c0 c3 c4 c5 c6 c7 c8 c9 c10 c11 c12)) (c7 c8 c9 c10 c11 c12 : Cell) : forD (gN 7) clT ⟨S.nx, S.rt, S.bk, S.ct⟩ ds (eN c0 c3 c4 c5 c6 c7 c8 c9 c10 c11 c12) := by
  refine forD_inv (fun rest ρ => (∀ d ∈ rest, d ∈ ds) ∧ ∃ c7 c8 c9 c10 c11 c12 : Cell, ρ = eN c0 c3 c4 c5 c6 c7 c8 c9 c10 c11 c12) ?_ ?_ _ _ ⟨fun d h => h, _, _, _, _, _, _, rfl⟩
  · rintro d rest ρ ⟨hr, c7, c8, c9, c10, c11, c12, rfl⟩ nxt hx
    obtain ⟨cs, hc, rfl⟩ := hd d (hr d List.mem_cons_self)
    refine ⟨by show 7 < 13; decide, ?_⟩
    show clT [c0, .fr .bag, .fr (clD dds), c3, c4, c5, c6, .fr (clD cs), c8, c9, c10, c11, c12] _
    exact sp_clT hc (S := ⟨nxt, S.rt, S.nx, nxt⟩) fun c8 c9 c10 c11 c12 => hx _ ⟨fun d h => hr d (List.mem_cons_of_mem _ h), _, _, _, _, _, _, rfl⟩
  · rintro ρ ⟨_, c7, c8, c9, c10, c11, c12, rfl⟩
    exact h ..
theorem law_true : lawG F_law := by
  have esz := sizeLine_eq
  refine ⟨rfl, ?_⟩
  show W_law _ _ _ _ _ _ _ _ _ _ _ _ _ [.fr .scr, .no, .no, .no, .no, .no, .no, .no, .no, .no, .no, .no, .no] _
  unfold W_law
  and_intros
  refine sp_bag _ ?_
  and_intros
  refine forD_inv (fun rest ρ => ∃ c3 c4 c5 c6 c7 c8 c9 c10 c11 c12 : Cell, ρ = [.fr .scr, .fr .bag, .fr (clD dds), c3, c4, c5, c6, c7, c8, c9, c10, c11, c12]) ?_ ?_ _ _ ⟨_, _, _, _, _, _, _, _, _, _, rfl⟩
  · rintro d rest ρ ⟨c3, c4, c5, c6, c7, c8, c9, c10, c11, c12, rfl⟩ nxt hx
    and_intros
    refine sp_cla _ fun cs hc => ?_
    and_intros
    refine (sp_one sp_take).t _ _ (by decide) (by decide) fun d2 hd2 => ?_
    obtain ⟨w, hw, rfl⟩ := List.mem_map.mp (show d2 ∈ dds.map D.str from hd2)
    and_intros
    refine lcD_some DdD _ _ (fun d3 hd3 Ψ h0 hΨ => ?_) (by decide) fun ys y1 y2 => ?_
    · obtain ⟨x, hx', rfl⟩ := List.mem_map.mp (show d3 ∈ dds.map D.str from hd3)
      have okx := dds_ok x hx'
      have okw := dds_ok w hw
      refine ⟨by show 7 < 13; decide, ?_⟩
      dsimp only [List.set_cons_succ, List.set_cons_zero]
      and_intros
      refine oIn_T okx hc.ok ?_
      and_intros
      refine e_dec (fun c => ?_) (fun c => ?_)
      · and_intros
        by_cases c2 : x = w
        · subst c2
          rw [if_neg (by simp)]
          and_intros
          try rw [if_pos (by simp)]
          and_intros
          refine oNin_T okx hc.ok ?_
          and_intros
          rw [if_neg (by simp [c])]
          exact h0
        · rw [if_pos (by simp [c2])]
          and_intros
          exact hΨ _ ⟨x, hx', rfl⟩
      · and_intros
        by_cases c2 : x = w
        · subst c2
          try rw [if_pos (by simp)]
          and_intros
          refine oNin_T okx hc.ok ?_
          and_intros
          rw [if_pos (by simp [c])]
          and_intros
          exact hΨ _ ⟨x, hx', rfl⟩
        · rw [if_neg (by simp [c2])]
          and_intros
          exact h0
    · obtain ⟨ys, rfl, hys⟩ := ddD_of ys y2
      rw [List.length_map] at y1
      have hc2 : Cls ys := ⟨hys, by have : dds.length = 11 := rfl; have : ys.length ≤ 11 := y1; omega⟩
      and_intros
      refine sp_take _ _ (by omega) (by omega) fun k k0 k1 => ?_
      and_intros
      by_cases c : k = 0
      · have eb : (if decide (k = 0) = true then (1 : Int) else 0) = 1 := if_pos (by simp [c])
        rw [eb]
        refine e_mulL (n := 1) ⟨by decide, by decide, by decide⟩ ?_
        refine e_addL (by show 2 + 2 ≤ 16777216; decide) ?_
        and_intros
        refine sp_cls (ds := [clD cs, clD ys, clD dds, clD []]) (fun d hd => ?_) (S := ⟨nxt, fun r _ => r = .fr (.bl true), _, nxt⟩) (fun _ _ _ _ _ _ => hx _ ⟨_, _, _, _, _, _, _, _, _, _, rfl⟩) _ _ _ _ _ _
        simp only [List.mem_cons, List.not_mem_nil, or_false] at hd
        rcases hd with rfl | rfl | rfl | rfl
        · exact ⟨_, hc, rfl⟩
        · exact ⟨_, hc2, rfl⟩
        · exact ⟨_, cls_dds, rfl⟩
        · exact ⟨_, cls_nil, rfl⟩
      · have eb : (if decide (k = 0) = true then (1 : Int) else 0) = 0 := if_neg (by simp [c])
        rw [eb]
        refine e_mulL (n := 0) ⟨by decide, by decide, by decide⟩ ?_
        refine e_addL (by show 2 + 0 ≤ 16777216; decide) ?_
        and_intros
        refine sp_cls (ds := [clD cs, clD ys]) (fun d hd => ?_) (S := ⟨nxt, fun r _ => r = .fr (.bl true), _, nxt⟩) (fun _ _ _ _ _ _ => hx _ ⟨_, _, _, _, _, _, _, _, _, _, rfl⟩) _ _ _ _ _ _
        simp only [List.mem_cons, List.not_mem_nil, or_false] at hd
        rcases hd with rfl | rfl
        · exact ⟨_, hc, rfl⟩
        · exact ⟨_, hc2, rfl⟩
  · rintro ρ ⟨c3, c4, c5, c6, c7, c8, c9, c10, c11, c12, rfl⟩
    and_intros

end Lw

open PySem PySem.W PyProof.Rows
set_option maxRecDepth 100000 in
set_option maxHeartbeats 0 in
theorem PySem.Challenge.cw_rowsborne_k78_slots_asked_holds : PySem.Challenge.rw_rowsborne_k78_slots_asked.Holds := by
  w_on; o_law; k_head; (case hw => w_witness2)
  k_fill
  letI LT : Tv.LamT := ⟨[], fun _ => 0⟩
  refine Tv.law_walk (l := PySem.Challenge.rw_rowsborne_k78_slots_asked) (k := 9) (wf := Lw.F_law) rfl rfl rfl ⟨rfl, by decide, by decide⟩ (fun w h Y => PySem.W.kIn_of Y) ?F Lw.law_true
  case F =>
    intro w mg fa h KX G hmg
    refine' Lw.all_fn KX G hmg ?aC_Plan ?pg_Plan ?ic_Plan ?po_Plan ?sa_Plan ?sA_Plan ?sG_Plan ?sT_Plan ?sY_Plan ?sI_Plan ?mk_Plan ?kC_Plan ?a0 ?l0 ?c0 ?k0 ?a1 ?l1 ?c1 ?k1 ?a2 ?l2 ?c2 ?k2 ?a3 ?l3 ?c3 ?k3 ?a4 ?l4 ?c4 ?k4 ?a5 ?l5 ?c5 ?k5 ?a6 ?l6 ?c6 ?k6 ?a7 ?l7 ?c7 ?k7 ?a8 ?l8 ?c8 ?k8 ?a9 ?l9 ?c9 ?k9 ?a10 ?l10 ?c10 ?k10 ?a11 ?l11 ?c11 ?k11 ?a12 ?i12 ?l12 ?c12 ?k12 ?a13 ?l13 ?c13 ?k13 ?a14 ?l14 ?c14 ?k14 ?a15 ?l15 ?c15 ?k15 ?a16 ?l16 ?c16 ?k16 ?a17 ?l17 ?c17 ?k17 ?a18 ?l18 ?c18 ?k18 ?a19 ?l19 ?c19 ?k19 ?a20 ?i20 ?l20 ?c20 ?k20 ?a21 ?l21 ?c21 ?k21 ?a22 ?l22 ?c22 ?k22 ?a23 ?l23 ?c23 ?k23 ?a24 ?l24 ?c24 ?k24 ?a25 ?l25 ?c25 ?k25 ?a26 ?l26 ?c26 ?k26 ?a27 ?l27 ?c27 ?k27 ?a28 ?l28 ?c28 ?k28 ?a29 ?i29 ?l29 ?c29 ?k29 ?a30 ?l30 ?c30 ?k30 ?a31 ?l31 ?c31 ?k31 ?a32 ?l32 ?c32 ?k32 ?a33 ?l33 ?c33 ?k33 ?a34 ?l34 ?c34 ?k34 ?a35 ?l35 ?c35 ?k35 ?a36 ?l36 ?c36 ?k36 ?a37 ?l37 ?c37 ?k37 ?a38 ?l38 ?c38 ?k38 ?a39 ?l39 ?c39 ?k39 ?a40 ?l40 ?c40 ?k40 ?z_abs ?z_all ?z_dict ?z_int ?z_isinstance ?z_len ?z_list ?z_range ?z_repr ?z_set ?z_sorted ?z_str ?z_tuple ?y_BUT_LAST ?x_BUT_LAST ?y_TOGETHER ?x_TOGETHER ?y_EVEN ?q_EVEN ?x_EVEN ?y_LINKS ?q_LINKS ?x_LINKS ?y_VALUES ?q_VALUES ?x_VALUES ?y_WANTED ?q_WANTED ?x_WANTED
    (case aC_Plan => k_is)
    (case pg_Plan => k_is)
    (case ic_Plan => k_is)
    (case po_Plan => k_is)
    (case sa_Plan => k_is)
    (case sA_Plan => k_is)
    (case sG_Plan => k_is)
    (case sT_Plan => k_is)
    (case sY_Plan => k_is)
    (case sI_Plan => k_is)
    (case mk_Plan => k_is)
    (case kC_Plan => k_is)
    (case a0 => k_is)
    (case l0 => k_is)
    (case c0 => k_is)
    (case k0 => k_is)
    (case a1 => k_is)
    (case l1 => k_is)
    (case c1 => k_is)
    (case k1 => k_is)
    (case a2 => k_is)
    (case l2 => k_is)
    (case c2 => k_is)
    (case k2 => k_is)
    (case a3 => k_is)
    (case l3 => k_is)
    (case c3 => k_is)
    (case k3 => k_is)
    (case a4 => k_is)
    (case l4 => k_is)
    (case c4 => k_is)
    (case k4 => k_is)
    (case a5 => k_is)
    (case l5 => k_is)
    (case c5 => k_is)
    (case k5 => k_is)
    (case a6 => k_is)
    (case l6 => k_is)
    (case c6 => k_is)
    (case k6 => k_is)
    (case a7 => k_is)
    (case l7 => k_is)
    (case c7 => k_is)
    (case k7 => k_is)
    (case a8 => k_is)
    (case l8 => k_is)
    (case c8 => k_is)
    (case k8 => k_is)
    (case a9 => k_is)
    (case l9 => k_is)
    (case c9 => k_is)
    (case k9 => k_is)
    (case a10 => k_is)
    (case l10 => k_is)
    (case c10 => k_is)
    (case k10 => k_is)
    (case a11 => k_is)
    (case l11 => k_is)
    (case c11 => k_is)
    (case k11 => k_is)
    (case a12 => k_is)
    (case i12 => k_is)
    (case l12 => k_is)
    (case c12 => k_is)
    (case k12 => k_is)
    (case a13 => k_is)
    (case l13 => k_is)
    (case c13 => k_is)
    (case k13 => k_is)
    (case a14 => k_is)
    (case l14 => k_is)
    (case c14 => k_is)
    (case k14 => k_is)
    (case a15 => k_is)
    (case l15 => k_is)
    (case c15 => k_is)
    (case k15 => k_is)
    (case a16 => k_is)
    (case l16 => k_is)
    (case c16 => k_is)
    (case k16 => k_is)
    (case a17 => k_is)
    (case l17 => k_is)
    (case c17 => k_is)
    (case k17 => k_is)
    (case a18 => k_is)
    (case l18 => k_is)
    (case c18 => k_is)
    (case k18 => k_is)
    (case a19 => k_is)
    (case l19 => k_is)
    (case c19 => k_is)
    (case k19 => k_is)
    (case a20 => k_is)
    (case i20 => k_is)
    (case l20 => k_is)
    (case c20 => k_is)
    (case k20 => k_is)
    (case a21 => k_is)
    (case l21 => k_is)
    (case c21 => k_is)
    (case k21 => k_is)
    (case a22 => k_is)
    (case l22 => k_is)
    (case c22 => k_is)
    (case k22 => k_is)
    (case a23 => k_is)
    (case l23 => k_is)
    (case c23 => k_is)
    (case k23 => k_is)
    (case a24 => k_is)
    (case l24 => k_is)
    (case c24 => k_is)
    (case k24 => k_is)
    (case a25 => k_is)
    (case l25 => k_is)
    (case c25 => k_is)
    (case k25 => k_is)
    (case a26 => k_is)
    (case l26 => k_is)
    (case c26 => k_is)
    (case k26 => k_is)
    (case a27 => k_is)
    (case l27 => k_is)
    (case c27 => k_is)
    (case k27 => k_is)
    (case a28 => k_is)
    (case l28 => k_is)
    (case c28 => k_is)
    (case k28 => k_is)
    (case a29 => k_is)
    (case i29 => k_is)
    (case l29 => k_is)
    (case c29 => k_is)
    (case k29 => k_is)
    (case a30 => k_is)
    (case l30 => k_is)
    (case c30 => k_is)
    (case k30 => k_is)
    (case a31 => k_is)
    (case l31 => k_is)
    (case c31 => k_is)
    (case k31 => k_is)
    (case a32 => k_is)
    (case l32 => k_is)
    (case c32 => k_is)
    (case k32 => k_is)
    (case a33 => k_is)
    (case l33 => k_is)
    (case c33 => k_is)
    (case k33 => k_is)
    (case a34 => k_is)
    (case l34 => k_is)
    (case c34 => k_is)
    (case k34 => k_is)
    (case a35 => k_is)
    (case l35 => k_is)
    (case c35 => k_is)
    (case k35 => k_is)
    (case a36 => k_is)
    (case l36 => k_is)
    (case c36 => k_is)
    (case k36 => k_is)
    (case a37 => k_is)
    (case l37 => k_is)
    (case c37 => k_is)
    (case k37 => k_is)
    (case a38 => k_is)
    (case l38 => k_is)
    (case c38 => k_is)
    (case k38 => k_is)
    (case a39 => k_is)
    (case l39 => k_is)
    (case c39 => k_is)
    (case k39 => k_is)
    (case a40 => k_is)
    (case l40 => k_is)
    (case c40 => k_is)
    (case k40 => k_is)
    (case z_abs => k_is)
    (case z_all => k_is)
    (case z_dict => k_is)
    (case z_int => k_is)
    (case z_isinstance => k_is)
    (case z_len => k_is)
    (case z_list => k_is)
    (case z_range => k_is)
    (case z_repr => k_is)
    (case z_set => k_is)
    (case z_sorted => k_is)
    (case z_str => k_is)
    (case z_tuple => k_is)
    (case y_BUT_LAST => k_is)
    case x_BUT_LAST =>
      refine' Tv.wrD_tup ?wl1 ?wc1 ?wd1 ?ws1 ?wn1 ?wt1
      (case wl1 => k_is)
      (case wc1 => rfl); (case wd1 => rfl); (case ws1 => decide); (case wn1 => rfl)
      case wt1 =>
        rfl
    (case y_TOGETHER => k_is)
    case x_TOGETHER =>
      rfl
    (case y_EVEN => k_is)
    case q_EVEN =>
      refine' Tv.dicW_of ?ql ?qs ?qk
      (case ql => k_is)
      (case qs => rfl)
      (case qk => rfl)
    case x_EVEN =>
      refine' Tv.wrK_of ?wl ?wd ?we
      (case wl => k_is)
      (case wd => rfl)
      case we =>
        refine' Tv.wrE_cons ?vk2 ?vh2 ?vt2
        (case vk2 => rfl)
        case vh2 =>
          refine' Tv.wrD_tup ?wl3 ?wc3 ?wd3 ?ws3 ?wn3 ?wt3
          (case wl3 => k_is)
          (case wc3 => rfl); (case wd3 => rfl); (case ws3 => decide); (case wn3 => rfl)
          case wt3 =>
            rfl
        case vt2 =>
          refine' Tv.wrE_cons ?vk4 ?vh4 ?vt4
          (case vk4 => rfl)
          case vh4 =>
            refine' Tv.wrD_tup ?wl5 ?wc5 ?wd5 ?ws5 ?wn5 ?wt5
            (case wl5 => k_is)
            (case wc5 => rfl); (case wd5 => rfl); (case ws5 => decide); (case wn5 => rfl)
            case wt5 =>
              rfl
          case vt4 =>
            refine' Tv.wrE_cons ?vk6 ?vh6 ?vt6
            (case vk6 => rfl)
            case vh6 =>
              refine' Tv.wrD_tup ?wl7 ?wc7 ?wd7 ?ws7 ?wn7 ?wt7
              (case wl7 => k_is)
              (case wc7 => rfl); (case wd7 => rfl); (case ws7 => decide); (case wn7 => rfl)
              case wt7 =>
                rfl
            case vt6 =>
              refine' Tv.wrE_cons ?vk8 ?vh8 ?vt8
              (case vk8 => rfl)
              case vh8 =>
                refine' Tv.wrD_tup ?wl9 ?wc9 ?wd9 ?ws9 ?wn9 ?wt9
                (case wl9 => k_is)
                (case wc9 => rfl); (case wd9 => rfl); (case ws9 => decide); (case wn9 => rfl)
                case wt9 =>
                  rfl
              case vt8 =>
                refine' Tv.wrE_cons ?vk10 ?vh10 ?vt10
                (case vk10 => rfl)
                case vh10 =>
                  refine' Tv.wrD_tup ?wl11 ?wc11 ?wd11 ?ws11 ?wn11 ?wt11
                  (case wl11 => k_is)
                  (case wc11 => rfl); (case wd11 => rfl); (case ws11 => decide); (case wn11 => rfl)
                  case wt11 =>
                    rfl
                case vt10 =>
                  refine' Tv.wrE_cons ?vk12 ?vh12 ?vt12
                  (case vk12 => rfl)
                  case vh12 =>
                    refine' Tv.wrD_tup ?wl13 ?wc13 ?wd13 ?ws13 ?wn13 ?wt13
                    (case wl13 => k_is)
                    (case wc13 => rfl); (case wd13 => rfl); (case ws13 => decide); (case wn13 => rfl)
                    case wt13 =>
                      rfl
                  case vt12 =>
                    refine' Tv.wrE_cons ?vk14 ?vh14 ?vt14
                    (case vk14 => rfl)
                    case vh14 =>
                      refine' Tv.wrD_tup ?wl15 ?wc15 ?wd15 ?ws15 ?wn15 ?wt15
                      (case wl15 => k_is)
                      (case wc15 => rfl); (case wd15 => rfl); (case ws15 => decide); (case wn15 => rfl)
                      case wt15 =>
                        rfl
                    case vt14 =>
                      refine' Tv.wrE_cons ?vk16 ?vh16 ?vt16
                      (case vk16 => rfl)
                      case vh16 =>
                        refine' Tv.wrD_tup ?wl17 ?wc17 ?wd17 ?ws17 ?wn17 ?wt17
                        (case wl17 => k_is)
                        (case wc17 => rfl); (case wd17 => rfl); (case ws17 => decide); (case wn17 => rfl)
                        case wt17 =>
                          rfl
                      case vt16 =>
                        refine' Tv.wrE_cons ?vk18 ?vh18 ?vt18
                        (case vk18 => rfl)
                        case vh18 =>
                          refine' Tv.wrD_tup ?wl19 ?wc19 ?wd19 ?ws19 ?wn19 ?wt19
                          (case wl19 => k_is)
                          (case wc19 => rfl); (case wd19 => rfl); (case ws19 => decide); (case wn19 => rfl)
                          case wt19 =>
                            rfl
                        case vt18 =>
                          refine' Tv.wrE_cons ?vk20 ?vh20 ?vt20
                          (case vk20 => rfl)
                          case vh20 =>
                            refine' Tv.wrD_tup ?wl21 ?wc21 ?wd21 ?ws21 ?wn21 ?wt21
                            (case wl21 => k_is)
                            (case wc21 => rfl); (case wd21 => rfl); (case ws21 => decide); (case wn21 => rfl)
                            case wt21 =>
                              rfl
                          case vt20 =>
                            refine' Tv.wrE_cons ?vk22 ?vh22 ?vt22
                            (case vk22 => rfl)
                            case vh22 =>
                              refine' Tv.wrD_tup ?wl23 ?wc23 ?wd23 ?ws23 ?wn23 ?wt23
                              (case wl23 => k_is)
                              (case wc23 => rfl); (case wd23 => rfl); (case ws23 => decide); (case wn23 => rfl)
                              case wt23 =>
                                rfl
                            case vt22 =>
                              refine' Tv.wrE_cons ?vk24 ?vh24 ?vt24
                              (case vk24 => rfl)
                              case vh24 =>
                                refine' Tv.wrD_tup ?wl25 ?wc25 ?wd25 ?ws25 ?wn25 ?wt25
                                (case wl25 => k_is)
                                (case wc25 => rfl); (case wd25 => rfl); (case ws25 => decide); (case wn25 => rfl)
                                case wt25 =>
                                  rfl
                              case vt24 =>
                                refine' Tv.wrE_cons ?vk26 ?vh26 ?vt26
                                (case vk26 => rfl)
                                case vh26 =>
                                  refine' Tv.wrD_tup ?wl27 ?wc27 ?wd27 ?ws27 ?wn27 ?wt27
                                  (case wl27 => k_is)
                                  (case wc27 => rfl); (case wd27 => rfl); (case ws27 => decide); (case wn27 => rfl)
                                  case wt27 =>
                                    rfl
                                case vt26 =>
                                  refine' Tv.wrE_cons ?vk28 ?vh28 ?vt28
                                  (case vk28 => rfl)
                                  case vh28 =>
                                    refine' Tv.wrD_tup ?wl29 ?wc29 ?wd29 ?ws29 ?wn29 ?wt29
                                    (case wl29 => k_is)
                                    (case wc29 => rfl); (case wd29 => rfl); (case ws29 => decide); (case wn29 => rfl)
                                    case wt29 =>
                                      rfl
                                  case vt28 =>
                                    refine' Tv.wrE_cons ?vk30 ?vh30 ?vt30
                                    (case vk30 => rfl)
                                    case vh30 =>
                                      refine' Tv.wrD_tup ?wl31 ?wc31 ?wd31 ?ws31 ?wn31 ?wt31
                                      (case wl31 => k_is)
                                      (case wc31 => rfl); (case wd31 => rfl); (case ws31 => decide); (case wn31 => rfl)
                                      case wt31 =>
                                        rfl
                                    case vt30 =>
                                      refine' Tv.wrE_cons ?vk32 ?vh32 ?vt32
                                      (case vk32 => rfl)
                                      case vh32 =>
                                        refine' Tv.wrD_tup ?wl33 ?wc33 ?wd33 ?ws33 ?wn33 ?wt33
                                        (case wl33 => k_is)
                                        (case wc33 => rfl); (case wd33 => rfl); (case ws33 => decide); (case wn33 => rfl)
                                        case wt33 =>
                                          rfl
                                      case vt32 =>
                                        refine' Tv.wrE_cons ?vk34 ?vh34 ?vt34
                                        (case vk34 => rfl)
                                        case vh34 =>
                                          refine' Tv.wrD_tup ?wl35 ?wc35 ?wd35 ?ws35 ?wn35 ?wt35
                                          (case wl35 => k_is)
                                          (case wc35 => rfl); (case wd35 => rfl); (case ws35 => decide); (case wn35 => rfl)
                                          case wt35 =>
                                            rfl
                                        case vt34 =>
                                          refine' Tv.wrE_cons ?vk36 ?vh36 ?vt36
                                          (case vk36 => rfl)
                                          case vh36 =>
                                            refine' Tv.wrD_tup ?wl37 ?wc37 ?wd37 ?ws37 ?wn37 ?wt37
                                            (case wl37 => k_is)
                                            (case wc37 => rfl); (case wd37 => rfl); (case ws37 => decide); (case wn37 => rfl)
                                            case wt37 =>
                                              rfl
                                          case vt36 =>
                                            refine' Tv.wrE_cons ?vk38 ?vh38 ?vt38
                                            (case vk38 => rfl)
                                            case vh38 =>
                                              refine' Tv.wrD_tup ?wl39 ?wc39 ?wd39 ?ws39 ?wn39 ?wt39
                                              (case wl39 => k_is)
                                              (case wc39 => rfl); (case wd39 => rfl); (case ws39 => decide); (case wn39 => rfl)
                                              case wt39 =>
                                                rfl
                                            case vt38 =>
                                              refine' Tv.wrE_cons ?vk40 ?vh40 ?vt40
                                              (case vk40 => rfl)
                                              case vh40 =>
                                                refine' Tv.wrD_tup ?wl41 ?wc41 ?wd41 ?ws41 ?wn41 ?wt41
                                                (case wl41 => k_is)
                                                (case wc41 => rfl); (case wd41 => rfl); (case ws41 => decide); (case wn41 => rfl)
                                                case wt41 =>
                                                  rfl
                                              case vt40 =>
                                                refine' Tv.wrE_cons ?vk42 ?vh42 ?vt42
                                                (case vk42 => rfl)
                                                case vh42 =>
                                                  refine' Tv.wrD_tup ?wl43 ?wc43 ?wd43 ?ws43 ?wn43 ?wt43
                                                  (case wl43 => k_is)
                                                  (case wc43 => rfl); (case wd43 => rfl); (case ws43 => decide); (case wn43 => rfl)
                                                  case wt43 =>
                                                    rfl
                                                case vt42 =>
                                                  rfl
    (case y_LINKS => k_is)
    case q_LINKS =>
      refine' Tv.dicW_of ?ql ?qs ?qk
      (case ql => k_is)
      (case qs => rfl)
      (case qk => rfl)
    case x_LINKS =>
      refine' Tv.wrK_of ?wl ?wd ?we
      (case wl => k_is)
      (case wd => rfl)
      case we =>
        refine' Tv.wrE_cons ?vk44 ?vh44 ?vt44
        (case vk44 => rfl)
        case vh44 =>
          rfl
        case vt44 =>
          refine' Tv.wrE_cons ?vk45 ?vh45 ?vt45
          (case vk45 => rfl)
          case vh45 =>
            rfl
          case vt45 =>
            refine' Tv.wrE_cons ?vk46 ?vh46 ?vt46
            (case vk46 => rfl)
            case vh46 =>
              rfl
            case vt46 =>
              refine' Tv.wrE_cons ?vk47 ?vh47 ?vt47
              (case vk47 => rfl)
              case vh47 =>
                rfl
              case vt47 =>
                rfl
    (case y_VALUES => k_is)
    case q_VALUES =>
      refine' Tv.dicW_of ?ql ?qs ?qk
      (case ql => k_is)
      (case qs => rfl)
      (case qk => rfl)
    case x_VALUES =>
      refine' Tv.wrK_of ?wl ?wd ?we
      (case wl => k_is)
      (case wd => rfl)
      case we =>
        refine' Tv.wrE_cons ?vk48 ?vh48 ?vt48
        (case vk48 => rfl)
        case vh48 =>
          refine' Tv.wrD_tup ?wl49 ?wc49 ?wd49 ?ws49 ?wn49 ?wt49
          (case wl49 => k_is)
          (case wc49 => rfl); (case wd49 => rfl); (case ws49 => decide); (case wn49 => rfl)
          case wt49 =>
            rfl
        case vt48 =>
          refine' Tv.wrE_cons ?vk50 ?vh50 ?vt50
          (case vk50 => rfl)
          case vh50 =>
            refine' Tv.wrD_tup ?wl51 ?wc51 ?wd51 ?ws51 ?wn51 ?wt51
            (case wl51 => k_is)
            (case wc51 => rfl); (case wd51 => rfl); (case ws51 => decide); (case wn51 => rfl)
            case wt51 =>
              rfl
          case vt50 =>
            refine' Tv.wrE_cons ?vk52 ?vh52 ?vt52
            (case vk52 => rfl)
            case vh52 =>
              refine' Tv.wrD_tup ?wl53 ?wc53 ?wd53 ?ws53 ?wn53 ?wt53
              (case wl53 => k_is)
              (case wc53 => rfl); (case wd53 => rfl); (case ws53 => decide); (case wn53 => rfl)
              case wt53 =>
                rfl
            case vt52 =>
              refine' Tv.wrE_cons ?vk54 ?vh54 ?vt54
              (case vk54 => rfl)
              case vh54 =>
                refine' Tv.wrD_tup ?wl55 ?wc55 ?wd55 ?ws55 ?wn55 ?wt55
                (case wl55 => k_is)
                (case wc55 => rfl); (case wd55 => rfl); (case ws55 => decide); (case wn55 => rfl)
                case wt55 =>
                  rfl
              case vt54 =>
                refine' Tv.wrE_cons ?vk56 ?vh56 ?vt56
                (case vk56 => rfl)
                case vh56 =>
                  refine' Tv.wrD_tup ?wl57 ?wc57 ?wd57 ?ws57 ?wn57 ?wt57
                  (case wl57 => k_is)
                  (case wc57 => rfl); (case wd57 => rfl); (case ws57 => decide); (case wn57 => rfl)
                  case wt57 =>
                    rfl
                case vt56 =>
                  refine' Tv.wrE_cons ?vk58 ?vh58 ?vt58
                  (case vk58 => rfl)
                  case vh58 =>
                    refine' Tv.wrD_tup ?wl59 ?wc59 ?wd59 ?ws59 ?wn59 ?wt59
                    (case wl59 => k_is)
                    (case wc59 => rfl); (case wd59 => rfl); (case ws59 => decide); (case wn59 => rfl)
                    case wt59 =>
                      rfl
                  case vt58 =>
                    refine' Tv.wrE_cons ?vk60 ?vh60 ?vt60
                    (case vk60 => rfl)
                    case vh60 =>
                      refine' Tv.wrD_tup ?wl61 ?wc61 ?wd61 ?ws61 ?wn61 ?wt61
                      (case wl61 => k_is)
                      (case wc61 => rfl); (case wd61 => rfl); (case ws61 => decide); (case wn61 => rfl)
                      case wt61 =>
                        rfl
                    case vt60 =>
                      refine' Tv.wrE_cons ?vk62 ?vh62 ?vt62
                      (case vk62 => rfl)
                      case vh62 =>
                        refine' Tv.wrD_tup ?wl63 ?wc63 ?wd63 ?ws63 ?wn63 ?wt63
                        (case wl63 => k_is)
                        (case wc63 => rfl); (case wd63 => rfl); (case ws63 => decide); (case wn63 => rfl)
                        case wt63 =>
                          rfl
                      case vt62 =>
                        refine' Tv.wrE_cons ?vk64 ?vh64 ?vt64
                        (case vk64 => rfl)
                        case vh64 =>
                          refine' Tv.wrD_tup ?wl65 ?wc65 ?wd65 ?ws65 ?wn65 ?wt65
                          (case wl65 => k_is)
                          (case wc65 => rfl); (case wd65 => rfl); (case ws65 => decide); (case wn65 => rfl)
                          case wt65 =>
                            rfl
                        case vt64 =>
                          refine' Tv.wrE_cons ?vk66 ?vh66 ?vt66
                          (case vk66 => rfl)
                          case vh66 =>
                            refine' Tv.wrD_tup ?wl67 ?wc67 ?wd67 ?ws67 ?wn67 ?wt67
                            (case wl67 => k_is)
                            (case wc67 => rfl); (case wd67 => rfl); (case ws67 => decide); (case wn67 => rfl)
                            case wt67 =>
                              rfl
                          case vt66 =>
                            refine' Tv.wrE_cons ?vk68 ?vh68 ?vt68
                            (case vk68 => rfl)
                            case vh68 =>
                              refine' Tv.wrD_tup ?wl69 ?wc69 ?wd69 ?ws69 ?wn69 ?wt69
                              (case wl69 => k_is)
                              (case wc69 => rfl); (case wd69 => rfl); (case ws69 => decide); (case wn69 => rfl)
                              case wt69 =>
                                rfl
                            case vt68 =>
                              refine' Tv.wrE_cons ?vk70 ?vh70 ?vt70
                              (case vk70 => rfl)
                              case vh70 =>
                                refine' Tv.wrD_tup ?wl71 ?wc71 ?wd71 ?ws71 ?wn71 ?wt71
                                (case wl71 => k_is)
                                (case wc71 => rfl); (case wd71 => rfl); (case ws71 => decide); (case wn71 => rfl)
                                case wt71 =>
                                  rfl
                              case vt70 =>
                                refine' Tv.wrE_cons ?vk72 ?vh72 ?vt72
                                (case vk72 => rfl)
                                case vh72 =>
                                  refine' Tv.wrD_tup ?wl73 ?wc73 ?wd73 ?ws73 ?wn73 ?wt73
                                  (case wl73 => k_is)
                                  (case wc73 => rfl); (case wd73 => rfl); (case ws73 => decide); (case wn73 => rfl)
                                  case wt73 =>
                                    rfl
                                case vt72 =>
                                  refine' Tv.wrE_cons ?vk74 ?vh74 ?vt74
                                  (case vk74 => rfl)
                                  case vh74 =>
                                    refine' Tv.wrD_tup ?wl75 ?wc75 ?wd75 ?ws75 ?wn75 ?wt75
                                    (case wl75 => k_is)
                                    (case wc75 => rfl); (case wd75 => rfl); (case ws75 => decide); (case wn75 => rfl)
                                    case wt75 =>
                                      rfl
                                  case vt74 =>
                                    refine' Tv.wrE_cons ?vk76 ?vh76 ?vt76
                                    (case vk76 => rfl)
                                    case vh76 =>
                                      refine' Tv.wrD_tup ?wl77 ?wc77 ?wd77 ?ws77 ?wn77 ?wt77
                                      (case wl77 => k_is)
                                      (case wc77 => rfl); (case wd77 => rfl); (case ws77 => decide); (case wn77 => rfl)
                                      case wt77 =>
                                        rfl
                                    case vt76 =>
                                      refine' Tv.wrE_cons ?vk78 ?vh78 ?vt78
                                      (case vk78 => rfl)
                                      case vh78 =>
                                        refine' Tv.wrD_tup ?wl79 ?wc79 ?wd79 ?ws79 ?wn79 ?wt79
                                        (case wl79 => k_is)
                                        (case wc79 => rfl); (case wd79 => rfl); (case ws79 => decide); (case wn79 => rfl)
                                        case wt79 =>
                                          rfl
                                      case vt78 =>
                                        refine' Tv.wrE_cons ?vk80 ?vh80 ?vt80
                                        (case vk80 => rfl)
                                        case vh80 =>
                                          refine' Tv.wrD_tup ?wl81 ?wc81 ?wd81 ?ws81 ?wn81 ?wt81
                                          (case wl81 => k_is)
                                          (case wc81 => rfl); (case wd81 => rfl); (case ws81 => decide); (case wn81 => rfl)
                                          case wt81 =>
                                            rfl
                                        case vt80 =>
                                          refine' Tv.wrE_cons ?vk82 ?vh82 ?vt82
                                          (case vk82 => rfl)
                                          case vh82 =>
                                            refine' Tv.wrD_tup ?wl83 ?wc83 ?wd83 ?ws83 ?wn83 ?wt83
                                            (case wl83 => k_is)
                                            (case wc83 => rfl); (case wd83 => rfl); (case ws83 => decide); (case wn83 => rfl)
                                            case wt83 =>
                                              rfl
                                          case vt82 =>
                                            refine' Tv.wrE_cons ?vk84 ?vh84 ?vt84
                                            (case vk84 => rfl)
                                            case vh84 =>
                                              refine' Tv.wrD_tup ?wl85 ?wc85 ?wd85 ?ws85 ?wn85 ?wt85
                                              (case wl85 => k_is)
                                              (case wc85 => rfl); (case wd85 => rfl); (case ws85 => decide); (case wn85 => rfl)
                                              case wt85 =>
                                                rfl
                                            case vt84 =>
                                              refine' Tv.wrE_cons ?vk86 ?vh86 ?vt86
                                              (case vk86 => rfl)
                                              case vh86 =>
                                                refine' Tv.wrD_tup ?wl87 ?wc87 ?wd87 ?ws87 ?wn87 ?wt87
                                                (case wl87 => k_is)
                                                (case wc87 => rfl); (case wd87 => rfl); (case ws87 => decide); (case wn87 => rfl)
                                                case wt87 =>
                                                  rfl
                                              case vt86 =>
                                                refine' Tv.wrE_cons ?vk88 ?vh88 ?vt88
                                                (case vk88 => rfl)
                                                case vh88 =>
                                                  refine' Tv.wrD_tup ?wl89 ?wc89 ?wd89 ?ws89 ?wn89 ?wt89
                                                  (case wl89 => k_is)
                                                  (case wc89 => rfl); (case wd89 => rfl); (case ws89 => decide); (case wn89 => rfl)
                                                  case wt89 =>
                                                    rfl
                                                case vt88 =>
                                                  refine' Tv.wrE_cons ?vk90 ?vh90 ?vt90
                                                  (case vk90 => rfl)
                                                  case vh90 =>
                                                    refine' Tv.wrD_tup ?wl91 ?wc91 ?wd91 ?ws91 ?wn91 ?wt91
                                                    (case wl91 => k_is)
                                                    (case wc91 => rfl); (case wd91 => rfl); (case ws91 => decide); (case wn91 => rfl)
                                                    case wt91 =>
                                                      rfl
                                                  case vt90 =>
                                                    refine' Tv.wrE_cons ?vk92 ?vh92 ?vt92
                                                    (case vk92 => rfl)
                                                    case vh92 =>
                                                      refine' Tv.wrD_tup ?wl93 ?wc93 ?wd93 ?ws93 ?wn93 ?wt93
                                                      (case wl93 => k_is)
                                                      (case wc93 => rfl); (case wd93 => rfl); (case ws93 => decide); (case wn93 => rfl)
                                                      case wt93 =>
                                                        rfl
                                                    case vt92 =>
                                                      refine' Tv.wrE_cons ?vk94 ?vh94 ?vt94
                                                      (case vk94 => rfl)
                                                      case vh94 =>
                                                        refine' Tv.wrD_tup ?wl95 ?wc95 ?wd95 ?ws95 ?wn95 ?wt95
                                                        (case wl95 => k_is)
                                                        (case wc95 => rfl); (case wd95 => rfl); (case ws95 => decide); (case wn95 => rfl)
                                                        case wt95 =>
                                                          rfl
                                                      case vt94 =>
                                                        refine' Tv.wrE_cons ?vk96 ?vh96 ?vt96
                                                        (case vk96 => rfl)
                                                        case vh96 =>
                                                          refine' Tv.wrD_tup ?wl97 ?wc97 ?wd97 ?ws97 ?wn97 ?wt97
                                                          (case wl97 => k_is)
                                                          (case wc97 => rfl); (case wd97 => rfl); (case ws97 => decide); (case wn97 => rfl)
                                                          case wt97 =>
                                                            rfl
                                                        case vt96 =>
                                                          rfl
    (case y_WANTED => k_is)
    case q_WANTED =>
      refine' Tv.dicW_of ?ql ?qs ?qk
      (case ql => k_is)
      (case qs => rfl)
      (case qk => rfl)
    case x_WANTED =>
      refine' Tv.wrK_of ?wl ?wd ?we
      (case wl => k_is)
      (case wd => rfl)
      case we =>
        refine' Tv.wrE_cons ?vk98 ?vh98 ?vt98
        (case vk98 => rfl)
        case vh98 =>
          refine' Tv.wrD_tup ?wl99 ?wc99 ?wd99 ?ws99 ?wn99 ?wt99
          (case wl99 => k_is)
          (case wc99 => rfl); (case wd99 => rfl); (case ws99 => decide); (case wn99 => rfl)
          case wt99 =>
            rfl
        case vt98 =>
          refine' Tv.wrE_cons ?vk100 ?vh100 ?vt100
          (case vk100 => rfl)
          case vh100 =>
            refine' Tv.wrD_tup ?wl101 ?wc101 ?wd101 ?ws101 ?wn101 ?wt101
            (case wl101 => k_is)
            (case wc101 => rfl); (case wd101 => rfl); (case ws101 => decide); (case wn101 => rfl)
            case wt101 =>
              rfl
          case vt100 =>
            refine' Tv.wrE_cons ?vk102 ?vh102 ?vt102
            (case vk102 => rfl)
            case vh102 =>
              refine' Tv.wrD_tup ?wl103 ?wc103 ?wd103 ?ws103 ?wn103 ?wt103
              (case wl103 => k_is)
              (case wc103 => rfl); (case wd103 => rfl); (case ws103 => decide); (case wn103 => rfl)
              case wt103 =>
                rfl
            case vt102 =>
              refine' Tv.wrE_cons ?vk104 ?vh104 ?vt104
              (case vk104 => rfl)
              case vh104 =>
                refine' Tv.wrD_tup ?wl105 ?wc105 ?wd105 ?ws105 ?wn105 ?wt105
                (case wl105 => k_is)
                (case wc105 => rfl); (case wd105 => rfl); (case ws105 => decide); (case wn105 => rfl)
                case wt105 =>
                  rfl
              case vt104 =>
                refine' Tv.wrE_cons ?vk106 ?vh106 ?vt106
                (case vk106 => rfl)
                case vh106 =>
                  refine' Tv.wrD_tup ?wl107 ?wc107 ?wd107 ?ws107 ?wn107 ?wt107
                  (case wl107 => k_is)
                  (case wc107 => rfl); (case wd107 => rfl); (case ws107 => decide); (case wn107 => rfl)
                  case wt107 =>
                    rfl
                case vt106 =>
                  refine' Tv.wrE_cons ?vk108 ?vh108 ?vt108
                  (case vk108 => rfl)
                  case vh108 =>
                    refine' Tv.wrD_tup ?wl109 ?wc109 ?wd109 ?ws109 ?wn109 ?wt109
                    (case wl109 => k_is)
                    (case wc109 => rfl); (case wd109 => rfl); (case ws109 => decide); (case wn109 => rfl)
                    case wt109 =>
                      rfl
                  case vt108 =>
                    refine' Tv.wrE_cons ?vk110 ?vh110 ?vt110
                    (case vk110 => rfl)
                    case vh110 =>
                      refine' Tv.wrD_tup ?wl111 ?wc111 ?wd111 ?ws111 ?wn111 ?wt111
                      (case wl111 => k_is)
                      (case wc111 => rfl); (case wd111 => rfl); (case ws111 => decide); (case wn111 => rfl)
                      case wt111 =>
                        rfl
                    case vt110 =>
                      refine' Tv.wrE_cons ?vk112 ?vh112 ?vt112
                      (case vk112 => rfl)
                      case vh112 =>
                        refine' Tv.wrD_tup ?wl113 ?wc113 ?wd113 ?ws113 ?wn113 ?wt113
                        (case wl113 => k_is)
                        (case wc113 => rfl); (case wd113 => rfl); (case ws113 => decide); (case wn113 => rfl)
                        case wt113 =>
                          rfl
                      case vt112 =>
                        refine' Tv.wrE_cons ?vk114 ?vh114 ?vt114
                        (case vk114 => rfl)
                        case vh114 =>
                          refine' Tv.wrD_tup ?wl115 ?wc115 ?wd115 ?ws115 ?wn115 ?wt115
                          (case wl115 => k_is)
                          (case wc115 => rfl); (case wd115 => rfl); (case ws115 => decide); (case wn115 => rfl)
                          case wt115 =>
                            rfl
                        case vt114 =>
                          refine' Tv.wrE_cons ?vk116 ?vh116 ?vt116
                          (case vk116 => rfl)
                          case vh116 =>
                            refine' Tv.wrD_tup ?wl117 ?wc117 ?wd117 ?ws117 ?wn117 ?wt117
                            (case wl117 => k_is)
                            (case wc117 => rfl); (case wd117 => rfl); (case ws117 => decide); (case wn117 => rfl)
                            case wt117 =>
                              rfl
                          case vt116 =>
                            refine' Tv.wrE_cons ?vk118 ?vh118 ?vt118
                            (case vk118 => rfl)
                            case vh118 =>
                              refine' Tv.wrD_tup ?wl119 ?wc119 ?wd119 ?ws119 ?wn119 ?wt119
                              (case wl119 => k_is)
                              (case wc119 => rfl); (case wd119 => rfl); (case ws119 => decide); (case wn119 => rfl)
                              case wt119 =>
                                rfl
                            case vt118 =>
                              refine' Tv.wrE_cons ?vk120 ?vh120 ?vt120
                              (case vk120 => rfl)
                              case vh120 =>
                                refine' Tv.wrD_tup ?wl121 ?wc121 ?wd121 ?ws121 ?wn121 ?wt121
                                (case wl121 => k_is)
                                (case wc121 => rfl); (case wd121 => rfl); (case ws121 => decide); (case wn121 => rfl)
                                case wt121 =>
                                  rfl
                              case vt120 =>
                                refine' Tv.wrE_cons ?vk122 ?vh122 ?vt122
                                (case vk122 => rfl)
                                case vh122 =>
                                  refine' Tv.wrD_tup ?wl123 ?wc123 ?wd123 ?ws123 ?wn123 ?wt123
                                  (case wl123 => k_is)
                                  (case wc123 => rfl); (case wd123 => rfl); (case ws123 => decide); (case wn123 => rfl)
                                  case wt123 =>
                                    rfl
                                case vt122 =>
                                  refine' Tv.wrE_cons ?vk124 ?vh124 ?vt124
                                  (case vk124 => rfl)
                                  case vh124 =>
                                    refine' Tv.wrD_tup ?wl125 ?wc125 ?wd125 ?ws125 ?wn125 ?wt125
                                    (case wl125 => k_is)
                                    (case wc125 => rfl); (case wd125 => rfl); (case ws125 => decide); (case wn125 => rfl)
                                    case wt125 =>
                                      rfl
                                  case vt124 =>
                                    refine' Tv.wrE_cons ?vk126 ?vh126 ?vt126
                                    (case vk126 => rfl)
                                    case vh126 =>
                                      refine' Tv.wrD_tup ?wl127 ?wc127 ?wd127 ?ws127 ?wn127 ?wt127
                                      (case wl127 => k_is)
                                      (case wc127 => rfl); (case wd127 => rfl); (case ws127 => decide); (case wn127 => rfl)
                                      case wt127 =>
                                        rfl
                                    case vt126 =>
                                      refine' Tv.wrE_cons ?vk128 ?vh128 ?vt128
                                      (case vk128 => rfl)
                                      case vh128 =>
                                        refine' Tv.wrD_tup ?wl129 ?wc129 ?wd129 ?ws129 ?wn129 ?wt129
                                        (case wl129 => k_is)
                                        (case wc129 => rfl); (case wd129 => rfl); (case ws129 => decide); (case wn129 => rfl)
                                        case wt129 =>
                                          rfl
                                      case vt128 =>
                                        refine' Tv.wrE_cons ?vk130 ?vh130 ?vt130
                                        (case vk130 => rfl)
                                        case vh130 =>
                                          refine' Tv.wrD_tup ?wl131 ?wc131 ?wd131 ?ws131 ?wn131 ?wt131
                                          (case wl131 => k_is)
                                          (case wc131 => rfl); (case wd131 => rfl); (case ws131 => decide); (case wn131 => rfl)
                                          case wt131 =>
                                            rfl
                                        case vt130 =>
                                          refine' Tv.wrE_cons ?vk132 ?vh132 ?vt132
                                          (case vk132 => rfl)
                                          case vh132 =>
                                            refine' Tv.wrD_tup ?wl133 ?wc133 ?wd133 ?ws133 ?wn133 ?wt133
                                            (case wl133 => k_is)
                                            (case wc133 => rfl); (case wd133 => rfl); (case ws133 => decide); (case wn133 => rfl)
                                            case wt133 =>
                                              rfl
                                          case vt132 =>
                                            refine' Tv.wrE_cons ?vk134 ?vh134 ?vt134
                                            (case vk134 => rfl)
                                            case vh134 =>
                                              refine' Tv.wrD_tup ?wl135 ?wc135 ?wd135 ?ws135 ?wn135 ?wt135
                                              (case wl135 => k_is)
                                              (case wc135 => rfl); (case wd135 => rfl); (case ws135 => decide); (case wn135 => rfl)
                                              case wt135 =>
                                                rfl
                                            case vt134 =>
                                              refine' Tv.wrE_cons ?vk136 ?vh136 ?vt136
                                              (case vk136 => rfl)
                                              case vh136 =>
                                                refine' Tv.wrD_tup ?wl137 ?wc137 ?wd137 ?ws137 ?wn137 ?wt137
                                                (case wl137 => k_is)
                                                (case wc137 => rfl); (case wd137 => rfl); (case ws137 => decide); (case wn137 => rfl)
                                                case wt137 =>
                                                  rfl
                                              case vt136 =>
                                                refine' Tv.wrE_cons ?vk138 ?vh138 ?vt138
                                                (case vk138 => rfl)
                                                case vh138 =>
                                                  refine' Tv.wrD_tup ?wl139 ?wc139 ?wd139 ?ws139 ?wn139 ?wt139
                                                  (case wl139 => k_is)
                                                  (case wc139 => rfl); (case wd139 => rfl); (case ws139 => decide); (case wn139 => rfl)
                                                  case wt139 =>
                                                    rfl
                                                case vt138 =>
                                                  refine' Tv.wrE_cons ?vk140 ?vh140 ?vt140
                                                  (case vk140 => rfl)
                                                  case vh140 =>
                                                    refine' Tv.wrD_tup ?wl141 ?wc141 ?wd141 ?ws141 ?wn141 ?wt141
                                                    (case wl141 => k_is)
                                                    (case wc141 => rfl); (case wd141 => rfl); (case ws141 => decide); (case wn141 => rfl)
                                                    case wt141 =>
                                                      rfl
                                                  case vt140 =>
                                                    refine' Tv.wrE_cons ?vk142 ?vh142 ?vt142
                                                    (case vk142 => rfl)
                                                    case vh142 =>
                                                      refine' Tv.wrD_tup ?wl143 ?wc143 ?wd143 ?ws143 ?wn143 ?wt143
                                                      (case wl143 => k_is)
                                                      (case wc143 => rfl); (case wd143 => rfl); (case ws143 => decide); (case wn143 => rfl)
                                                      case wt143 =>
                                                        rfl
                                                    case vt142 =>
                                                      refine' Tv.wrE_cons ?vk144 ?vh144 ?vt144
                                                      (case vk144 => rfl)
                                                      case vh144 =>
                                                        refine' Tv.wrD_tup ?wl145 ?wc145 ?wd145 ?ws145 ?wn145 ?wt145
                                                        (case wl145 => k_is)
                                                        (case wc145 => rfl); (case wd145 => rfl); (case ws145 => decide); (case wn145 => rfl)
                                                        case wt145 =>
                                                          rfl
                                                      case vt144 =>
                                                        refine' Tv.wrE_cons ?vk146 ?vh146 ?vt146
                                                        (case vk146 => rfl)
                                                        case vh146 =>
                                                          refine' Tv.wrD_tup ?wl147 ?wc147 ?wd147 ?ws147 ?wn147 ?wt147
                                                          (case wl147 => k_is)
                                                          (case wc147 => rfl); (case wd147 => rfl); (case ws147 => decide); (case wn147 => rfl)
                                                          case wt147 =>
                                                            rfl
                                                        case vt146 =>
                                                          rfl
