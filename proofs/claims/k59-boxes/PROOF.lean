import PyProof.Rows.All
import Wide.All
import OpenK.AllK
import Wide.FinOn
import HandS.ForMost
import HandS.Deep
import HandS.Conv
import HandS.Flow
import HandS.Style
import HandS.Zip
import HandS.TupAny
import KE.SortData
import HandS.Slots
import HandS.Star
import HandS.Codes
import HandS.More
import HandS.Iter
import HandS.Text
import HandS.Replace
import HandS.RaiseMore
import PyProof.ReprRoads
import PyProof.ReprLen
import PyProof.Draws
import PyProof.EnumMake
import HandS.IsInst
import HandS.SetKeys
import HandS.Strs
import HandS.SetFor
import HandS.HeadHook3
import KE.GoesEnum
import KE.GoesMore
import HandS.DictComp
import KE.KDictPairs
import PySem.Challenge.RW_rowsborne_k59_places_in_boxes
set_option Elab.async false
set_option linter.all false
set_option maxRecDepth 100000
/-! Tv: Python data as trees over the layer L2. -/
namespace Tv
open PySem PySem.Spec PyProof.Rows L2

/-- data as trees; bag: the law's own number bag -/
inductive D where
  | non
  | bl (b : Bool)
  | int (i : Int)
  | str (x : Str)
  | tup (ds : List D)
  | lst (ds : List D)
  | bag
  | scr
  /-- a function (a class) of the text, by its name -/
  | fn (x : Str)
  /-- dicts: keys that are ints and texts; keys that are tuples of these -/
  | dct (ks : List Key) (ds : List D)
  | dcu (ks : List (List Key)) (ds : List D)
  /-- an instance of a class of the text -/
  | ins (c : Str) (ns : List Str) (ds : List D)
  /-- any value at all -/
  | unk

/-- ghosts: F, what never changes any more; B, the bags -/
structure Gh where
  F : Addr → Prop
  B : Addr → Prop
  /-- what borrowed variables hold -/
  A : Nat → V → Prop

section
variable (K : PySem.W.Frag) (G : Gh) (H : Hp)
/-- a list that never changes any more -/
def LsF (a : Addr) (xs : List V) : Prop := G.F a ∧ H a = some (.lst xs)
/-- the script as it was handed in: known to the object, or written -/
def ScrAt (a : Addr) (ns : List Int) : Prop :=
  (∃ o, H a = some (.frz o (.lst (ns.map V.int)))) ∨
    ∃ (o : Obj) (its : Array Value) (n : Nat), K.lookup a = some o ∧ o.cls = .type "list" ∧ o.dict = none ∧ o.data = .seq its n ∧ its.size ≤ sizeLine ∧ Vals (ns.map V.int) its.toList
mutual
inductive Rep : D → V → Prop
  | non : Rep .non .non
  | bl (b : Bool) : Rep (.bl b) (.bl b)
  | int (i : Int) : Rep (.int i) (.int i)
  | str (x : Str) : Rep (.str x) (.str x)
  | tup {a : Addr} {xs : List V} {ds : List D} : SqT K H a xs → RepL ds xs → Rep (.tup ds) (.ref a)
  | lst {a : Addr} {xs : List V} {ds : List D} : LsF G H a xs → RepL ds xs → Rep (.lst ds) (.ref a)
  | bag {a : Addr} : G.B a → Rep .bag (.ref a)
  | scr {a : Addr} {ns : List Int} : ScrAt K H a ns → ns.length ≤ 63 → Rep .scr (.ref a)
  | fn {x : Str} {f : Addr} : PySem.W.nsIn K mainGlobals x = some (some (.ref f)) → Rep (.fn x) (.ref f)
  | dct {a : Addr} {o : Obj} {kvs : List (Key × V)} {ks : List Key} {ds : List D} : G.F a → H a = some (.frz o (.dK kvs)) → kvs.map (·.1) = ks → RepL ds (kvs.map (·.2)) → Rep (.dct ks ds) (.ref a)
  | dcu {a : Addr} {o : Obj} {kvs : List (List Key × V)} {ks : List (List Key)} {ds : List D} : G.F a → H a = some (.frz o (.dT kvs)) → kvs.map (·.1) = ks → RepL ds (kvs.map (·.2)) → Rep (.dcu ks ds) (.ref a)
  | ins {a C dx : Addr} {vs : List V} {c : Str} {ns : List Str} {ds : List D} : G.F a → G.F dx → H a = some (SlX.SlO a C dx (vs.map some)) → H dx = some (.xd []) → PySem.W.nsIn K mainGlobals c = some (some (.ref C)) → ns.length = ds.length → RepL ds vs → Rep (.ins c ns ds) (.ref a)
  | unk (v : V) : Rep .unk v
inductive RepL : List D → List V → Prop
  | nil : RepL [] []
  | cons {d : D} {v : V} {ds : List D} {vs : List V} : Rep d v → RepL ds vs → RepL (d :: ds) (v :: vs)
end
/-- what the law's bag looks like -/
def BagL (ns : List Int) : Prop := (∀ n ∈ ns, 0 ≤ n) ∧ ns.length ≤ 63
def BagAt (a : Addr) : Prop := ∃ (i j k : Int) (r : Addr) (ns : List Int), H a = some (.lst [.int i, .int j, .int k, .ref r]) ∧ LsF G H r (ns.map V.int) ∧ 0 ≤ i ∧ 0 ≤ j ∧ j < 2147483647 ∧ 0 ≤ k ∧ BagL ns
structure Wd : Prop where
  b : ∀ a, G.B a → BagAt G H a ∧ ¬ G.F a
  f : ∀ a, G.F a → ∃ o, H a = some o
/-- an object that one variable alone holds -/
def Obw (a : Addr) : D → Prop
  | .lst ds => ∃ xs, H a = some (.lst xs) ∧ RepL K G H ds xs
  | .dct ks ds => ∃ (o : Obj) (kvs : List (Key × V)), H a = some (.frz o (.dK kvs)) ∧ kvs.map (·.1) = ks ∧ RepL K G H ds (kvs.map (·.2))
  | .dcu ks ds => ∃ (o : Obj) (kvs : List (List Key × V)), H a = some (.frz o (.dT kvs)) ∧ kvs.map (·.1) = ks ∧ RepL K G H ds (kvs.map (·.2))
  | _ => False
def Own (a : Addr) (d : D) : Prop := ¬ G.F a ∧ ¬ G.B a ∧ Obw K G H a d
/-- it may be read now -/
def Sh (d : D) (v : V) : Prop := Rep K G H d v ∨ ∃ a, v = .ref a ∧ ¬ G.B a ∧ Obw K G H a d
end

/-- no dict -/
def NDct (u : HO) : Prop := (∀ kvs, u ≠ .dK kvs) ∧ ∀ kvs, u ≠ .dT kvs
/-- nothing that is frozen is changed -/
structure FE (G : Gh) (H : Hp) (G' : Gh) (H' : Hp) : Prop where
  f : ∀ a, G.F a → G'.F a
  b : ∀ a, G.B a → G'.B a
  l : ∀ a o, G.F a → H a = some o → H' a = some o
  t : ∀ a xs, H a = some (.tup xs) → H' a = some (.tup xs)
  z : ∀ a o u, H a = some (.frz o u) → NDct u → H' a = some (.frz o u)
/-- a step: only new things, and bags -/
structure Grow (G : Gh) (H : Hp) (G' : Gh) (H' : Hp) : Prop where
  f : ∀ a, G.F a → G'.F a
  b : ∀ a, G.B a → G'.B a
  k : ∀ a o, H a = some o → ¬ G.B a → H' a = some o
  nf : ∀ a, G'.F a → G.F a ∨ H a = none
  nb : ∀ a, G'.B a → G.B a ∨ H a = none

theorem FE.refl (G : Gh) (H : Hp) : FE G H G H := ⟨fun _ h => h, fun _ h => h, fun _ _ _ h => h, fun _ _ h => h, fun _ _ _ h _ => h⟩
theorem FE.trans {G H G1 H1 G2 H2} (x : FE G H G1 H1) (y : FE G1 H1 G2 H2) : FE G H G2 H2 :=
  ⟨fun a h => y.f a (x.f a h), fun a h => y.b a (x.b a h), fun a o h e => y.l a o (x.f a h) (x.l a o h e), fun a xs e => y.t a xs (x.t a xs e), fun a o u e n => y.z a o u (x.z a o u e n) n⟩
theorem Grow.refl (G : Gh) (H : Hp) : Grow G H G H := ⟨fun _ h => h, fun _ h => h, fun _ _ h _ => h, fun _ h => .inl h, fun _ h => .inl h⟩

section
variable {K : PySem.W.Frag} {G G' G1 G2 : Gh} {H H' H1 H2 : Hp} {a : Addr} {d : D} {v : V} {xs : List V} {ds : List D}
theorem Wd.bagl (w : Wd G H) (h : G.B a) : ∃ xs, H a = some (.lst xs) := by
  obtain ⟨⟨i, j, k, r, ns, e, _⟩, _⟩ := w.b a h
  exact ⟨_, e⟩
theorem Grow.fe (g : Grow G H G' H') (w : Wd G H) : FE G H G' H' := by
  refine ⟨g.f, g.b, fun a o h e => g.k a o e fun hb => (w.b a hb).2 h, fun a xs e => g.k a _ e fun hb => ?_, fun a o u e _ => g.k a _ e fun hb => ?_⟩
  · obtain ⟨ys, e'⟩ := w.bagl hb
    rw [e] at e'; cases e'
  · obtain ⟨ys, e'⟩ := w.bagl hb
    rw [e] at e'; cases e'
theorem Grow.nn (g : Grow G H G1 H1) (w1 : Wd G1 H1) (h : H1 a = none) : H a = none := by
  cases e : H a with
  | none => rfl
  | some o =>
    by_cases hb : G.B a
    · obtain ⟨xs, e'⟩ := w1.bagl (g.b a hb)
      rw [h] at e'; cases e'
    · rw [g.k a o e hb] at h; cases h
theorem Grow.trans (x : Grow G H G1 H1) (w1 : Wd G1 H1) (y : Grow G1 H1 G2 H2) : Grow G H G2 H2 := by
  refine ⟨fun a h => y.f a (x.f a h), fun a h => y.b a (x.b a h), fun a o e hb => y.k a o (x.k a o e hb) fun h1 => ?_, fun a h => ?_, fun a h => ?_⟩
  · rcases x.nb a h1 with h1 | h1
    · exact hb h1
    · rw [h1] at e; cases e
  · rcases y.nf a h with h | h
    · exact x.nf a h
    · exact .inr (x.nn w1 h)
  · rcases y.nb a h with h | h
    · exact x.nb a h
    · exact .inr (x.nn w1 h)
theorem SqT.fe (g : FE G H G' H') (h : SqT K H a xs) : SqT K H' a xs := by
  rcases h with (h | ⟨o, h⟩) | h
  · exact .inl (.inl (g.t _ _ h))
  · exact .inl (.inr ⟨o, g.z _ _ _ h ⟨nofun, nofun⟩⟩)
  · exact .inr h
theorem LsF.fe (g : FE G H G' H') (h : LsF G H a xs) : LsF G' H' a xs := by
  exact ⟨g.f _ h.1, g.l _ _ h.1 h.2⟩
theorem LsF.sq (h : LsF G H a xs) : SqL K H a xs := .inl (.inl h.2)
theorem ScrAt.fe {ns : List Int} (g : FE G H G' H') (h : ScrAt K H a ns) : ScrAt K H' a ns := by
  rcases h with ⟨o, h⟩ | h
  · exact .inl ⟨o, g.z _ _ _ h ⟨nofun, nofun⟩⟩
  · exact .inr h
theorem ScrAt.sq {ns : List Int} (h : ScrAt K H a ns) : SqL K H a (ns.map V.int) := by
  rcases h with ⟨o, h⟩ | h
  · exact .inl (.inr ⟨o, h⟩)
  · exact .inr h
mutual
theorem Rep.fe (g : FE G H G' H') : ∀ {d : D} {v : V}, Rep K G H d v → Rep K G' H' d v
  | _, _, .non => .non
  | _, _, .bl b => .bl b
  | _, _, .int i => .int i
  | _, _, .str x => .str x
  | _, _, .tup h r => .tup (SqT.fe g h) (RepL.fe g r)
  | _, _, .lst h r => .lst (LsF.fe g h) (RepL.fe g r)
  | _, _, .bag h => .bag (g.b _ h)
  | _, _, .scr h z => .scr (ScrAt.fe g h) z
  | _, _, .fn h => .fn h
  | _, _, .dct h e k r => .dct (g.f _ h) (g.l _ _ h e) k (RepL.fe g r)
  | _, _, .dcu h e k r => .dcu (g.f _ h) (g.l _ _ h e) k (RepL.fe g r)
  | _, _, .ins h h2 e e2 c k r => .ins (g.f _ h) (g.f _ h2) (g.l _ _ h e) (g.l _ _ h2 e2) c k (RepL.fe g r)
  | _, _, .unk v => .unk v
theorem RepL.fe (g : FE G H G' H') : ∀ {ds : List D} {vs : List V}, RepL K G H ds vs → RepL K G' H' ds vs
  | _, _, .nil => .nil
  | _, _, .cons r t => .cons (Rep.fe g r) (RepL.fe g t)
end
theorem Obw.fe (g : FE G H G' H') (e : ∀ o, H a = some o → H' a = some o) (h : Obw K G H a d) : Obw K G' H' a d := by
  cases d with
  | lst ds => obtain ⟨xs, e1, r⟩ := h; exact ⟨xs, e _ e1, RepL.fe g r⟩
  | dct ks ds => obtain ⟨o, xs, e1, k, r⟩ := h; exact ⟨o, xs, e _ e1, k, RepL.fe g r⟩
  | dcu ks ds => obtain ⟨o, xs, e1, k, r⟩ := h; exact ⟨o, xs, e _ e1, k, RepL.fe g r⟩
  | _ => exact h.elim
theorem Obw.tracked (h : Obw K G H a d) : ∃ o, H a = some o := by
  cases d with
  | lst ds => obtain ⟨xs, e1, r⟩ := h; exact ⟨_, e1⟩
  | dct ks ds => obtain ⟨o, xs, e1, k, r⟩ := h; exact ⟨_, e1⟩
  | dcu ks ds => obtain ⟨o, xs, e1, k, r⟩ := h; exact ⟨_, e1⟩
  | _ => exact h.elim
theorem Sh.grow (w : Wd G H) (g : Grow G H G' H') (h : Sh K G H d v) : Sh K G' H' d v := by
  rcases h with h | ⟨a, e, hb, h⟩
  · exact .inl (h.fe (g.fe w))
  · refine .inr ⟨a, e, fun hb' => ?_, h.fe (g.fe w) fun o e => g.k a o e hb⟩
    obtain ⟨o, ho⟩ := h.tracked
    rcases g.nb a hb' with q | q
    · exact hb q
    · rw [q] at ho; cases ho
/-- a list that is readable now -/
theorem Sh.list (h : Sh K G H (.lst ds) v) : ∃ a xs, v = .ref a ∧ SqL K H a xs ∧ RepL K G H ds xs := by
  rcases h with h | ⟨a, e, _, xs, h, r⟩
  · cases h with
    | lst h r => exact ⟨_, _, rfl, h.sq, r⟩
  · exact ⟨a, xs, e, SqL.of h, r⟩
theorem Sh.tuple (h : Sh K G H (.tup ds) v) : ∃ a xs, v = .ref a ∧ SqT K H a xs ∧ RepL K G H ds xs := by
  rcases h with h | ⟨a, e, _, h⟩
  · cases h with
    | tup h r => exact ⟨_, _, rfl, h, r⟩
  · exact h.elim
theorem Sh.i {i : Int} (h : Sh K G H (.int i) v) : v = .int i := by
  rcases h with h | ⟨a, e, _, h⟩
  · cases h; rfl
  · exact h.elim
theorem Sh.b {i : Bool} (h : Sh K G H (.bl i) v) : v = .bl i := by
  rcases h with h | ⟨a, e, _, h⟩
  · cases h; rfl
  · exact h.elim
theorem Sh.s {i : Str} (h : Sh K G H (.str i) v) : v = .str i := by
  rcases h with h | ⟨a, e, _, h⟩
  · cases h; rfl
  · exact h.elim
theorem Sh.n (h : Sh K G H .non v) : v = .non := by
  rcases h with h | ⟨a, e, _, h⟩
  · cases h; rfl
  · exact h.elim
theorem RepL.length : ∀ {ds : List D} {vs : List V}, RepL K G H ds vs → ds.length = vs.length
  | _, _, .nil => rfl
  | _, _, .cons _ t => by simp [RepL.length t]
theorem RepL.get : ∀ {ds : List D} {vs : List V} {i : Nat} {d : D}, RepL K G H ds vs → ds[i]? = some d → ∃ v, vs[i]? = some v ∧ Rep K G H d v
  | _, _, _, _, .nil, e => by simp at e
  | _, _, 0, _, .cons r _, e => by simp at e; subst e; exact ⟨_, rfl, r⟩
  | _, _, i + 1, _, .cons _ t, e => by
    obtain ⟨v, h1, h2⟩ := RepL.get t (by simpa using e)
    exact ⟨v, by simpa using h1, h2⟩
theorem RepL.getV : ∀ {ds : List D} {vs : List V} {i : Nat} {v : V}, RepL K G H ds vs → vs[i]? = some v → ∃ d, ds[i]? = some d ∧ Rep K G H d v
  | _, _, _, _, .nil, e => by simp at e
  | _, _, 0, _, .cons r _, e => by simp at e; subst e; exact ⟨_, rfl, r⟩
  | _, _, i + 1, _, .cons _ t, e => by
    obtain ⟨v, h1, h2⟩ := RepL.getV t (by simpa using e)
    exact ⟨v, by simpa using h1, h2⟩
theorem RepL.append : ∀ {ds es : List D} {vs us : List V}, RepL K G H ds vs → RepL K G H es us → RepL K G H (ds ++ es) (vs ++ us)
  | _, _, _, _, .nil, s => s
  | _, _, _, _, .cons r t, s => .cons r (RepL.append t s)
theorem RepL.take : ∀ {ds : List D} {vs : List V} (n : Nat), RepL K G H ds vs → RepL K G H (ds.take n) (vs.take n)
  | _, _, 0, _ => .nil
  | _, _, _ + 1, .nil => .nil
  | _, _, n + 1, .cons r t => .cons r (RepL.take n t)
theorem RepL.drop : ∀ {ds : List D} {vs : List V} (n : Nat), RepL K G H ds vs → RepL K G H (ds.drop n) (vs.drop n)
  | _, _, 0, r => r
  | _, _, _ + 1, .nil => .nil
  | _, _, n + 1, .cons _ t => RepL.drop n t
theorem RepL.set {d : D} {v : V} (r : Rep K G H d v) : ∀ {ds : List D} {vs : List V} (n : Nat), RepL K G H ds vs → RepL K G H (ds.set n d) (vs.set n v)
  | _, _, _, .nil => .nil
  | _, _, 0, .cons _ t => .cons r t
  | _, _, n + 1, .cons q t => .cons q (RepL.set r n t)
theorem RepL.reverse : ∀ {ds : List D} {vs : List V}, RepL K G H ds vs → RepL K G H ds.reverse vs.reverse
  | _, _, .nil => .nil
  | _, _, .cons r t => by
    rw [List.reverse_cons, List.reverse_cons]
    exact (RepL.reverse t).append (.cons r .nil)
end
end Tv
/-! Tv2: environments of trees, expressions. -/
namespace Tv
open PySem PySem.Spec PyProof.Rows L2

/-- a variable: unknown, frozen, or the only holder of its object -/
inductive Cell where
  | no
  | fr (d : D)
  | ow (d : D)
  /-- a parameter that is looked at alone: its holder is the caller -/
  | bo (d : D)
abbrev En := List Cell
/-- a result: frozen, held by nobody else, or borrowed -/
inductive R where
  | fr (d : D)
  | ow (d : D)
  | bo (d : D)
@[reducible] def R.d : R → D
  | .fr d => d
  | .ow d => d
  | .bo d => d

def OwnA (ρ : En) (σ : L2.St) (a : Addr) : Prop := ∃ (i : Nat) (d : D), ρ[i]? = some (.ow d) ∧ σ[i]? = some (some (.ref a))
structure Sta (K : PySem.W.Frag) (G0 : Gh) (H0 : Hp) (ρ : En) (G : Gh) (H : Hp) (σ : L2.St) : Prop where
  wd : Wd G H
  ex : Grow G0 H0 G H
  w0 : Wd G0 H0
  fr : ∀ (i : Nat) (d : D), ρ[i]? = some (.fr d) → ∃ v, σ[i]? = some (some v) ∧ Rep K G H d v
  ow : ∀ (i : Nat) (d : D), ρ[i]? = some (.ow d) → ∃ a, σ[i]? = some (some (.ref a)) ∧ Own K G H a d ∧ H0 a = none
  ds : ∀ (i j : Nat) (d e : D) (a : Addr), ρ[i]? = some (.ow d) → ρ[j]? = some (.ow e) → σ[i]? = some (some (.ref a)) → σ[j]? = some (some (.ref a)) → i = j
  ln : ρ.length = σ.length
  bo : ∀ (i : Nat) (d : D), ρ[i]? = some (.bo d) → ∃ v, σ[i]? = some (some v) ∧ Sh K G0 H0 d v ∧ G0.A i v
structure Stp (ρ : En) (σ : L2.St) (G : Gh) (H : Hp) (G' : Gh) (H' : Hp) : Prop where
  f : ∀ a, G.F a → G'.F a
  b : ∀ a, G.B a → G'.B a
  k : ∀ a o, H a = some o → ¬ G.B a → H' a = some o
  nf : ∀ a, G'.F a → G.F a ∨ H a = none ∨ OwnA ρ σ a
  nb : ∀ a, G'.B a → G.B a ∨ H a = none
structure LeE (ρ' ρ : En) : Prop where
  ln : ρ'.length = ρ.length
  le : ∀ (i : Nat) (c : Cell), ρ'[i]? = some c → c = .no ∨ ρ[i]? = some c ∨ ∃ d, ρ[i]? = some (.ow d) ∧ c = .fr d
def RepR (K : PySem.W.Frag) (G : Gh) (H Hs : Hp) : R → V → Prop
  | .fr d, v => Rep K G H d v
  | .ow d, v => ∃ a, v = .ref a ∧ Own K G H a d ∧ Hs a = none
  | .bo d, v => Sh K G H d v

section
variable {K : PySem.W.Frag} {G G0 G' G1 G2 : Gh} {H H0 H' H1 H2 Hs Ht : Hp} {ρ ρ' ρ1 ρ2 : En} {σ : L2.St} {a : Addr} {d : D} {v : V} {r : R}
theorem LeE.refl (ρ : En) : LeE ρ ρ := ⟨rfl, fun _ _ e => .inr (.inl e)⟩
theorem LeE.trans (x : LeE ρ2 ρ1) (y : LeE ρ1 ρ) : LeE ρ2 ρ := by
  refine ⟨x.ln.trans y.ln, fun i c e => ?_⟩
  rcases x.le i c e with e1 | e1 | ⟨d, e1, rfl⟩
  · exact .inl e1
  · exact y.le i c e1
  · rcases y.le i _ e1 with e2 | e2 | ⟨d', e2, e3⟩
    · cases e2
    · exact .inr (.inr ⟨d, e2, rfl⟩)
    · cases e3
theorem LeE.own (x : LeE ρ' ρ) (h : OwnA ρ' σ a) : OwnA ρ σ a := by
  obtain ⟨i, d, e1, e2⟩ := h
  rcases x.le i _ e1 with e | e | ⟨d', _, e⟩
  · cases e
  · exact ⟨i, d, e, e2⟩
  · cases e
theorem LeE.fz {i : Nat} (h : ρ[i]? = some (.ow d)) : LeE (ρ.set i (.fr d)) ρ := by
  have hi : i < ρ.length := (List.getElem?_eq_some_iff.mp h).1
  refine ⟨by simp, fun j c e => ?_⟩
  by_cases hj : i = j
  · subst hj
    rw [List.getElem?_set_self hi] at e
    cases e
    exact .inr (.inr ⟨d, h, rfl⟩)
  · rw [List.getElem?_set_ne hj] at e
    exact .inr (.inl e)
theorem Stp.refl : Stp ρ σ G H G H := ⟨fun _ h => h, fun _ h => h, fun _ _ e _ => e, fun _ h => .inl h, fun _ h => .inl h⟩
theorem Grow.stp (g : Grow G H G' H') : Stp ρ σ G H G' H' := ⟨g.f, g.b, g.k, fun a h => (g.nf a h).elim .inl fun z => .inr (.inl z), g.nb⟩
theorem Stp.fe (w : Wd G H) (g : Stp ρ σ G H G' H') : FE G H G' H' := by
  refine ⟨g.f, g.b, fun a o h e => g.k a o e fun hb => (w.b a hb).2 h, fun a xs e => g.k a _ e fun hb => ?_, fun a o u e _ => g.k a _ e fun hb => ?_⟩
  · obtain ⟨ys, e'⟩ := w.bagl hb
    rw [e] at e'; cases e'
  · obtain ⟨ys, e'⟩ := w.bagl hb
    rw [e] at e'; cases e'
theorem Stp.nn (g : Stp ρ σ G H G1 H1) (w1 : Wd G1 H1) (h : H1 a = none) : H a = none := by
  cases e : H a with
  | none => rfl
  | some o =>
    by_cases hb : G.B a
    · obtain ⟨xs, e'⟩ := w1.bagl (g.b a hb)
      rw [h] at e'; cases e'
    · rw [g.k a o e hb] at h; cases h
theorem Stp.trans (x : Stp ρ σ G H G1 H1) (w1 : Wd G1 H1) (y : Stp ρ1 σ G1 H1 G2 H2) (l : LeE ρ1 ρ) : Stp ρ σ G H G2 H2 := by
  refine ⟨fun a h => y.f a (x.f a h), fun a h => y.b a (x.b a h), fun a o e hb => y.k a o (x.k a o e hb) fun h1 => ?_, fun a h => ?_, fun a h => ?_⟩
  · rcases x.nb a h1 with h1 | h1
    · exact hb h1
    · rw [h1] at e; cases e
  · rcases y.nf a h with h | h | h
    · exact x.nf a h
    · exact .inr (.inl (x.nn w1 h))
    · exact .inr (.inr (l.own h))
  · rcases y.nb a h with h | h
    · exact x.nb a h
    · exact .inr (x.nn w1 h)
theorem Sta.tracked (S : Sta K G0 H0 ρ G H σ) (h : OwnA ρ σ a) : ∃ o, H a = some o := by
  obtain ⟨i, d, e1, e2⟩ := h
  obtain ⟨b, e3, o, _⟩ := S.ow i d e1
  rw [e2] at e3; cases e3
  exact o.2.2.tracked
theorem Sta.none0 (S : Sta K G0 H0 ρ G H σ) (h : H a = none) : H0 a = none := S.ex.nn S.wd h
theorem Own.grow (w : Wd G H) (g : Grow G H G' H') (h : Own K G H a d) : Own K G' H' a d := by
  obtain ⟨h1, h2, h3⟩ := h
  obtain ⟨o, ho⟩ := h3.tracked
  refine ⟨fun q => ?_, fun q => ?_, h3.fe (g.fe w) fun o e => g.k a o e h2⟩
  · rcases g.nf a q with q | q
    · exact h1 q
    · rw [q] at ho; cases ho
  · rcases g.nb a q with q | q
    · exact h2 q
    · rw [q] at ho; cases ho
/-- new things alone: the environment stays -/
theorem Sta.grow (S : Sta K G0 H0 ρ G H σ) (w : Wd G' H') (g : Grow G H G' H') : Sta K G0 H0 ρ G' H' σ :=
  ⟨w, S.ex.trans S.wd g, S.w0, fun i d e => let ⟨v, e1, r⟩ := S.fr i d e; ⟨v, e1, r.fe (g.fe S.wd)⟩, fun i d e => let ⟨a, e1, o, z⟩ := S.ow i d e; ⟨a, e1, o.grow S.wd g, z⟩, S.ds, S.ln, S.bo⟩
theorem RepR.sh (h : RepR K G H Hs r v) : Sh K G H r.d v := by
  cases r with
  | fr d => exact .inl h
  | ow d => obtain ⟨a, e, o, _⟩ := h; exact .inr ⟨a, e, o.2.1, o.2.2⟩
  | bo d => exact h
theorem RepR.back (h : RepR K G H Hs r v) (z : ∀ a, Hs a = none → Ht a = none) : RepR K G H Ht r v := by
  cases r with
  | fr d => exact h
  | ow d => obtain ⟨a, e, o, q⟩ := h; exact ⟨a, e, o, z a q⟩
  | bo d => exact h
theorem Sh.stp (w : Wd G H) (g : Stp ρ σ G H G' H') (h : Sh K G H d v) : Sh K G' H' d v := by
  rcases h with h | ⟨a, e, hb, h⟩
  · exact .inl (h.fe (g.fe w))
  · refine .inr ⟨a, e, fun hb' => ?_, h.fe (g.fe w) fun o e => g.k a o e hb⟩
    obtain ⟨o, ho⟩ := h.tracked
    rcases g.nb a hb' with q | q
    · exact hb q
    · rw [q] at ho; cases ho
theorem RepR.stp (w : Wd G H) (g : Stp ρ σ G H G' H') (hO : ∀ a, OwnA ρ σ a → Hs a ≠ none) (h : RepR K G H Hs r v) : RepR K G' H' Hs r v := by
  cases r with
  | fr d => exact Rep.fe (g.fe w) h
  | bo d => exact Sh.stp w g h
  | ow d =>
    obtain ⟨a, e, ⟨h1, h2, h3⟩, q⟩ := h
    obtain ⟨o, ho⟩ := h3.tracked
    refine ⟨a, e, ⟨fun z => ?_, fun z => ?_, h3.fe (g.fe w) fun o e => g.k a o e h2⟩, q⟩
    · rcases g.nf a z with z | z | z
      · exact h1 z
      · rw [z] at ho; cases ho
      · exact hO a z q
    · rcases g.nb a z with z | z
      · exact h2 z
      · rw [z] at ho; cases ho
theorem Sta.hO (S : Sta K G0 H0 ρ G H σ) (l : LeE ρ' ρ) : ∀ a, OwnA ρ' σ a → H a ≠ none := fun a h q => by
  obtain ⟨o, ho⟩ := S.tracked (l.own h)
  rw [q] at ho; cases ho
end

/-! ### freezing -/
def Gh.add (G : Gh) (a : Addr) : Gh := ⟨fun b => G.F b ∨ b = a, G.B, G.A⟩
section
variable {K : PySem.W.Frag} {G G0 G' : Gh} {H H0 Hs : Hp} {ρ : En} {σ : L2.St} {a : Addr} {d : D} {v : V}
theorem FE.add : FE G H (G.add a) H := ⟨fun _ h => .inl h, fun _ h => h, fun _ _ _ e => e, fun _ _ e => e, fun _ _ _ e _ => e⟩
theorem Obw.rep (h : Obw K G H a d) : Rep K (G.add a) H d (.ref a) := by
  cases d with
  | lst ds => obtain ⟨xs, e, r⟩ := h; exact .lst ⟨.inr rfl, e⟩ (r.fe FE.add)
  | dct ks ds => obtain ⟨o, xs, e, k, r⟩ := h; exact .dct (.inr rfl) e k (r.fe FE.add)
  | dcu ks ds => obtain ⟨o, xs, e, k, r⟩ := h; exact .dcu (.inr rfl) e k (r.fe FE.add)
  | _ => exact h.elim
theorem Wd.add (w : Wd G H) (h : ¬ G.B a) (ht : ∃ o, H a = some o) : Wd (G.add a) H := by
  refine ⟨fun b hb => ?_, fun b hb => ?_⟩
  · have hb' : G.B b := hb
    obtain ⟨⟨i, j, k, r, ns, e, l, q⟩, n⟩ := w.b b hb'
    refine ⟨⟨i, j, k, r, ns, e, l.fe FE.add, q⟩, fun z => ?_⟩
    rcases z with z | z
    · exact n z
    · subst z; exact h hb'
  · rcases hb with z | z
    · exact w.f b z
    · subst z; exact ht
/-- one's own variable is frozen -/
theorem Sta.freeze {i : Nat} (S : Sta K G0 H0 ρ G H σ) (h : ρ[i]? = some (.ow d)) (e : σ[i]? = some (some (.ref a))) :
    Sta K G0 H0 (ρ.set i (.fr d)) (G.add a) H σ ∧ Stp ρ σ G H (G.add a) H ∧ Rep K (G.add a) H d (.ref a) := by
  obtain ⟨a', e', o, h0⟩ := S.ow i d h
  rw [e] at e'; cases e'
  have hi : i < ρ.length := (List.getElem?_eq_some_iff.mp h).1
  refine ⟨⟨S.wd.add o.2.1 o.2.2.tracked, ⟨fun b z => .inl (S.ex.f b z), S.ex.b, S.ex.k, fun b z => ?_, S.ex.nb⟩, S.w0, fun j c q => ?_, fun j c q => ?_, fun j k c c' b q1 q2 => ?_, by rw [List.length_set]; exact S.ln, fun j c q => by
      by_cases hj : i = j
      · subst hj; rw [List.getElem?_set_self hi] at q; cases q
      · rw [List.getElem?_set_ne hj] at q; exact S.bo j c q⟩,
    ⟨fun b z => .inl z, fun _ z => z, fun _ _ z _ => z, fun b z => ?_, fun _ z => .inl z⟩, o.2.2.rep⟩
  · rcases z with z | z
    · exact S.ex.nf b z
    · subst z; exact .inr h0
  · by_cases hj : i = j
    · subst hj
      rw [List.getElem?_set_self hi] at q
      cases q
      exact ⟨_, e, o.2.2.rep⟩
    · rw [List.getElem?_set_ne hj] at q
      obtain ⟨v, e1, r⟩ := S.fr j c q
      exact ⟨v, e1, r.fe FE.add⟩
  · by_cases hj : i = j
    · subst hj
      rw [List.getElem?_set_self hi] at q
      cases q
    · rw [List.getElem?_set_ne hj] at q
      obtain ⟨b, e1, o1, z1⟩ := S.ow j c q
      refine ⟨b, e1, ⟨fun z => ?_, o1.2.1, o1.2.2.fe FE.add fun _ z => z⟩, z1⟩
      rcases z with z | z
      · exact o1.1 z
      · subst z
        exact hj (S.ds i j d c b h q e e1)
  · have f1 : ∀ {j : Nat} {c : D}, (ρ.set i (.fr d))[j]? = some (.ow c) → ρ[j]? = some (.ow c) := fun {j c} q => by
      by_cases hj : i = j
      · subst hj
        rw [List.getElem?_set_self hi] at q
        cases q
      · rwa [List.getElem?_set_ne hj] at q
    exact S.ds j k c c' b (f1 q1) (f1 q2)
  · rcases z with z | z
    · exact .inl z
    · subst z; exact .inr (.inr ⟨i, d, h, e⟩)
/-- a new thing is frozen -/
theorem Sta.freezeR (S : Sta K G0 H0 ρ G H σ) (o : Own K G H a d) (h0 : H0 a = none) (hn : ¬ OwnA ρ σ a) :
    Sta K G0 H0 ρ (G.add a) H σ ∧ Rep K (G.add a) H d (.ref a) := by
  refine ⟨⟨S.wd.add o.2.1 o.2.2.tracked, ⟨fun b z => .inl (S.ex.f b z), S.ex.b, S.ex.k, fun b z => ?_, S.ex.nb⟩, S.w0, fun j c q => ?_, fun j c q => ?_, S.ds, S.ln, S.bo⟩, o.2.2.rep⟩
  · rcases z with z | z
    · exact S.ex.nf b z
    · subst z; exact .inr h0
  · obtain ⟨v, e1, r⟩ := S.fr j c q
    exact ⟨v, e1, r.fe FE.add⟩
  · obtain ⟨b, e1, o1, z1⟩ := S.ow j c q
    refine ⟨b, e1, ⟨fun z => ?_, o1.2.1, o1.2.2.fe FE.add fun _ z => z⟩, z1⟩
    rcases z with z | z
    · exact o1.1 z
    · subst z
      exact hn ⟨j, c, q, e1⟩
end

/-! ### readings of expressions -/
abbrev WE := En → (R → En → Prop) → Prop
abbrev WT := En → (Bool → En → Prop) → Prop
abbrev WA := En → (List R → En → Prop) → Prop
section
variable (K : PySem.W.Frag) (G0 : Gh) (H0 : Hp)
inductive RepRs (K : PySem.W.Frag) (G : Gh) (H Hs : Hp) : List R → List V → Prop
  | nil : RepRs K G H Hs [] []
  | cons {r : R} {v : V} {rs : List R} {vs : List V} : RepR K G H Hs r v → RepRs K G H Hs rs vs → (∀ d, r = .ow d → ∀ p ∈ rs.zip vs, (∃ d', p.1 = .ow d') → p.2 ≠ v) → RepRs K G H Hs (r :: rs) (v :: vs)
def TX (W : WE) : TE := fun σ H Q => ∃ ρ G Φ, Sta K G0 H0 ρ G H σ ∧ W ρ Φ ∧ ∀ r ρ' v G' H', Φ r ρ' → Sta K G0 H0 ρ' G' H' σ → Stp ρ σ G H G' H' → LeE ρ' ρ → RepR K G' H' H r v → Q v H'
def TTX (W : WT) : TT := fun σ H Q => ∃ ρ G Φ, Sta K G0 H0 ρ G H σ ∧ W ρ Φ ∧ ∀ b ρ' G' H', Φ b ρ' → Sta K G0 H0 ρ' G' H' σ → Stp ρ σ G H G' H' → LeE ρ' ρ → Q b H'
def TAX (W : WA) : TA := fun σ H Q => ∃ ρ G Φ, Sta K G0 H0 ρ G H σ ∧ W ρ Φ ∧ ∀ rs ρ' vs G' H', Φ rs ρ' → Sta K G0 H0 ρ' G' H' σ → Stp ρ σ G H G' H' → LeE ρ' ρ → RepRs K G' H' H rs vs → Q vs H'
end
def PEI (X : Cx) (G0 : Gh) (H0 : Hp) (e : Expr) (W : WE) : Prop := PE X e (TX X.K G0 H0 W)
def PTI (X : Cx) (G0 : Gh) (H0 : Hp) (e : Expr) (W : WT) : Prop := PT X e (TTX X.K G0 H0 W)
def PAI (X : Cx) (G0 : Gh) (H0 : Hp) (es : List Expr) (W : WA) : Prop := PA X es (TAX X.K G0 H0 W)
section
variable {X : Cx} {G0 : Gh} {H0 : Hp} {e a b : Expr} {wa wb : WE} {pos : Pos}
theorem pe_imp {t t' : TE} (h : PE X e t) (i : ∀ σ H Q, t' σ H Q → t σ H Q) : PE X e t' := ⟨fun pins s σ H Q I q => h.run pins s σ H Q I (i σ H Q q)⟩
theorem pt_imp {t t' : TT} (h : PT X e t) (i : ∀ σ H Q, t' σ H Q → t σ H Q) : PT X e t' := ⟨fun pins s σ H Q I q => h.run pins s σ H Q I (i σ H Q q)⟩
theorem pa_imp {es : List Expr} {t t' : TA} (h : PA X es t) (i : ∀ σ H Q, t' σ H Q → t σ H Q) : PA X es t' := ⟨fun pos pins s σ H Q I q => h.run pos pins s σ H Q I (i σ H Q q)⟩

/-! constants, names -/
def wC (d : D) : WE := fun ρ Φ => Φ (.fr d) ρ
theorem tx_c {K : PySem.W.Frag} {d : D} {v : V} (r : ∀ G H, Rep K G H d v) {σ H Q} (h : TX K G0 H0 (wC d) σ H Q) : Q v H := by
  obtain ⟨ρ, G, Φ, S, h, c⟩ := h
  exact c _ _ v G H h S Stp.refl (LeE.refl _) (r G H)
theorem i_int {i : Int} {j} : PEI X G0 H0 (.Constant (.int i) j pos) (wC (.int i)) := pe_imp pe_int fun _ _ _ h => tx_c (fun _ _ => .int i) h
theorem i_bl {i : Bool} {j} : PEI X G0 H0 (.Constant (.bool i) j pos) (wC (.bl i)) := pe_imp pe_bl fun _ _ _ h => tx_c (fun _ _ => .bl i) h
theorem i_non {j} : PEI X G0 H0 (.Constant .none j pos) (wC .non) := pe_imp pe_non fun _ _ _ h => tx_c (fun _ _ => .non) h
theorem i_str {i : Str} {j} : PEI X G0 H0 (.Constant (.str i) j pos) (wC (.str i)) := pe_imp pe_str fun _ _ _ h => tx_c (fun _ _ => .str i) h
/-- a name whose value is handed on -/
def wV (i : Nat) : WE := fun ρ Φ => match ρ[i]? with
  | some (.fr d) => Φ (.fr d) ρ
  | some (.ow d) => Φ (.fr d) (ρ.set i (.fr d))
  | _ => False
/-- a name whose value is looked at -/
def wP (i : Nat) : WE := fun ρ Φ => match ρ[i]? with
  | some (.fr d) => Φ (.fr d) ρ
  | some (.ow d) => Φ (.bo d) ρ
  | some (.bo d) => Φ (.bo d) ρ
  | _ => False
theorem i_var (i : Nat) {x : Str} (hN : X.N[i]? = some x := by rfl) (hv : Vis X.env.scope x := by first | exact Or.inl rfl | exact Or.inr (Or.inl rfl) | exact Or.inr (Or.inr rfl)) (hd : (x == ("__debug__" : Str)) = false := by decide)
    (hcd : (x == ("__classdict__" : Str)) = false := by decide) : PEI X G0 H0 (.Name x pos) (wV i) := by
  refine pe_imp (pe_var hN hv hd hcd) fun σ H Q h => ?_
  obtain ⟨ρ, G, Φ, S, h, c⟩ := h
  unfold wV at h
  split at h
  · rename_i d e
    obtain ⟨v, e1, r⟩ := S.fr i d e
    exact ⟨v, e1, c _ _ v G H h S Stp.refl (LeE.refl _) r⟩
  · rename_i d e
    obtain ⟨a, e1, _⟩ := S.ow i d e
    obtain ⟨S1, P1, r1⟩ := S.freeze e e1
    exact ⟨_, e1, c _ _ _ _ H h S1 P1 (LeE.fz e) r1⟩
  · exact h.elim
theorem i_peek (i : Nat) {x : Str} (hN : X.N[i]? = some x := by rfl) (hv : Vis X.env.scope x := by first | exact Or.inl rfl | exact Or.inr (Or.inl rfl) | exact Or.inr (Or.inr rfl)) (hd : (x == ("__debug__" : Str)) = false := by decide)
    (hcd : (x == ("__classdict__" : Str)) = false := by decide) : PEI X G0 H0 (.Name x pos) (wP i) := by
  refine pe_imp (pe_var hN hv hd hcd) fun σ H Q h => ?_
  obtain ⟨ρ, G, Φ, S, h, c⟩ := h
  unfold wP at h
  split at h
  · rename_i d e
    obtain ⟨v, e1, r⟩ := S.fr i d e
    exact ⟨v, e1, c _ _ v G H h S Stp.refl (LeE.refl _) r⟩
  · rename_i d e
    obtain ⟨a, e1, o, _⟩ := S.ow i d e
    exact ⟨_, e1, c _ _ _ G H h S Stp.refl (LeE.refl _) (.inr ⟨a, rfl, o.2.1, o.2.2⟩)⟩
  · rename_i d e
    obtain ⟨v, e1, r, _⟩ := S.bo i d e
    exact ⟨v, e1, c _ _ _ G H h S Stp.refl (LeE.refl _) (r.grow S.w0 S.ex)⟩
  · exact h.elim
/-- what is new is frozen at once -/
def wF (W : WE) : WE := fun ρ Φ => W ρ fun r ρ' => match r with
  | .fr d => Φ (.fr d) ρ'
  | .ow d => Φ (.fr d) ρ'
  | .bo _ => False
theorem i_fz (h : PEI X G0 H0 e wa) : PEI X G0 H0 e (wF wa) := by
  refine pe_imp h fun σ H Q h => ?_
  obtain ⟨ρ, G, Φ, S, h, c⟩ := h
  refine ⟨ρ, G, _, S, h, fun r ρ' v G' H' q S' P L rr => ?_⟩
  cases r with
  | fr d => exact c _ _ v G' H' q S' P L rr
  | ow d =>
    obtain ⟨a, ea, o, hn⟩ := rr
    subst ea
    obtain ⟨S1, r1⟩ := S'.freezeR o (S.none0 hn) fun z => S.hO L a z hn
    refine c _ _ _ _ H' q S1 ⟨fun b z => .inl (P.f b z), P.b, P.k, fun b z => ?_, P.nb⟩ L r1
    rcases z with z | z
    · exact P.nf b z
    · subst z; exact .inr (.inl hn)
  | bo d => exact q.elim

/-! operations by values -/
def Op1 (K : PySem.W.Frag) (o : D → (R → Prop) → Prop) (rr : V → Hp → VK → Prop) : Prop :=
  ∀ G H d v Φ Q, Wd G H → Sh K G H d v → o d Φ → (∀ r' v' G' H', Φ r' → Wd G' H' → Grow G H G' H' → RepR K G' H' H r' v' → Q v' H') → rr v H Q
def Op2 (K : PySem.W.Frag) (o : D → D → (R → Prop) → Prop) (rr : R2) : Prop :=
  ∀ G H d e v u Φ Q, Wd G H → Sh K G H d v → Sh K G H e u → o d e Φ → (∀ r' v' G' H', Φ r' → Wd G' H' → Grow G H G' H' → RepR K G' H' H r' v' → Q v' H') → rr v u H Q
def w1 (o : D → (R → Prop) → Prop) (wa : WE) : WE := fun ρ Φ => wa ρ fun r ρ' => o r.d fun r' => Φ r' ρ'
def w2 (o : D → D → (R → Prop) → Prop) (wa wb : WE) : WE := fun ρ Φ => wa ρ fun r ρ' => wb ρ' fun r2 ρ2 => o r.d r2.d fun r' => Φ r' ρ2
theorem tx1 {K : PySem.W.Frag} {o : D → (R → Prop) → Prop} {rr : V → Hp → VK → Prop} (h1 : Op1 K o rr) {σ H Q} (h : TX K G0 H0 (w1 o wa) σ H Q) : tUn rr (TX K G0 H0 wa) σ H Q := by
  obtain ⟨ρ, G, Φ, S, h, c⟩ := h
  refine ⟨ρ, G, _, S, h, fun r ρ' v G' H' q S' P L x => ?_⟩
  exact h1 G' H' r.d v _ Q S'.wd x.sh q fun r' v' G2 H2 φ w g x' => c r' ρ' v' G2 H2 φ (S'.grow w g) (P.trans S'.wd g.stp L) L (x'.back fun a z => P.nn S'.wd z)
theorem tx2 {K : PySem.W.Frag} {o : D → D → (R → Prop) → Prop} {rr : R2} (h2 : Op2 K o rr) {σ H Q} (h : TX K G0 H0 (w2 o wa wb) σ H Q) : tOp rr (TX K G0 H0 wa) (TX K G0 H0 wb) σ H Q := by
  obtain ⟨ρ, G, Φ, S, h, c⟩ := h
  refine ⟨ρ, G, _, S, h, fun r ρ' v G' H' q S' P L x => ⟨ρ', G', _, S', q, fun r2 ρ2 v2 G2 H2 q2 S2 P2 L2 x2 => ?_⟩⟩
  have PP := P.trans S'.wd P2 L
  exact h2 G2 H2 r.d r2.d v v2 _ Q S2.wd (x.sh.stp S'.wd P2) x2.sh q2 fun r' v' G3 H3 φ w g x' => c r' ρ2 v' G3 H3 φ (S2.grow w g) (PP.trans S2.wd g.stp (L2.trans L)) (L2.trans L) (x'.back fun a z => PP.nn S2.wd z)
theorem i_op {op : Operator} {rr : R2} {o : D → D → (R → Prop) → Prop} (ho : OpR X (binaryOp op) rr) (h2 : Op2 X.K o rr) (ha : PEI X G0 H0 a wa) (hb : PEI X G0 H0 b wb) : PEI X G0 H0 (.BinOp a op b pos) (w2 o wa wb) :=
  pe_imp (pe_op ho ha hb) fun _ _ _ h => tx2 h2 h
theorem i_un {op : UnaryOp} {rr : V → Hp → VK → Prop} {o : D → (R → Prop) → Prop} (ho : UnR X (unaryOp op) rr) (h1 : Op1 X.K o rr) (ha : PEI X G0 H0 a wa) : PEI X G0 H0 (.UnaryOp op a pos) (w1 o wa) :=
  pe_imp (pe_un ho ha) fun _ _ _ h => tx1 h1 h
theorem i_cmp {op : CmpOp} {rr : R2} {o : D → D → (R → Prop) → Prop} (ho : OpR X (compareOp op) rr) (h2 : Op2 X.K o rr) (ha : PEI X G0 H0 a wa) (hb : PEI X G0 H0 b wb) (hm : behindInMarks op b = false) : PEI X G0 H0 (.Compare a [op] [b] pos) (w2 o wa wb) :=
  pe_imp (pe_cmpR ho ha hb hm) fun _ _ _ h => tx2 h2 h
/-- a[b] -/
theorem i_ix {rr : R2} {o : D → D → (R → Prop) → Prop} (ho : IxR X rr) (h2 : Op2 X.K o rr) (ha : PEI X G0 H0 a wa) (hb : PEI X G0 H0 b wb) (hs : PlainIx b) : PEI X G0 H0 (.Subscript a b pos) (w2 o wa wb) :=
  pe_imp (pe_ix ho ha hb hs) fun _ _ _ h => tx2 h2 h

/-! tests -/
/-- a value that is a bool, as a test -/
def wB (W : WE) : WT := fun ρ Φ => W ρ fun r ρ' => match r.d with
  | .bl b => Φ b ρ'
  | _ => False
theorem ttx_b {K : PySem.W.Frag} {σ H Q} (h : TTX K G0 H0 (wB wa) σ H Q) : tB (TX K G0 H0 wa) σ H Q := by
  obtain ⟨ρ, G, Φ, S, h, c⟩ := h
  refine ⟨ρ, G, _, S, h, fun r ρ' v G' H' q S' P L x => ?_⟩
  have x' := x.sh
  split at q
  · rename_i bb e
    rw [e] at x'
    exact ⟨bb, x'.b, c bb ρ' G' H' q S' P L⟩
  · exact q.elim
theorem t_val (ha : PEI X G0 H0 e wa) (he : ∀ whole, isTrue e X.env whole = (do let v ← whole; standAt e.pos; holding [v] (truthy v)) := by intro _; rfl) : PTI X G0 H0 e (wB wa) :=
  pt_imp (pt_val ha he) fun _ _ _ h => ttx_b h
theorem t_cmp {op : CmpOp} {rr : R2} {o : D → D → (R → Prop) → Prop} (ho : OpR X (compareOp op) rr) (h2 : Op2 X.K o rr) (ha : PEI X G0 H0 a wa) (hb : PEI X G0 H0 b wb) (hm : behindInMarks op b = false) : PTI X G0 H0 (.Compare a [op] [b] pos) (wB (w2 o wa wb)) := by
  refine pt_imp (pt_cmpR ho ha hb hm) fun σ H Q h => ?_
  exact tx2 (Q := fun x H' => ∃ k, x = .bl k ∧ Q k H') h2 (by
    obtain ⟨ρ, G, Φ, S, h, c⟩ := h
    refine ⟨ρ, G, _, S, h, fun r ρ' v G' H' q S' P L x => ?_⟩
    have x' := x.sh
    split at q
    · rename_i bb e
      rw [e] at x'
      exact ⟨bb, x'.b, c bb ρ' G' H' q S' P L⟩
    · exact q.elim)
end
end Tv
/-! Tv3: tests, arguments, displays, statements, defs. -/
namespace Tv
open PySem PySem.Spec PyProof.Rows L2

section
variable {X : Cx} {G0 : Gh} {H0 : Hp} {e a b c : Expr} {es rest : List Expr} {wa wb : WE} {ta tb tc : WT} {ws : WA} {pos : Pos} {K : PySem.W.Frag} {σ : L2.St} {H : Hp}

/-! ### and, or, not, if -/
def PWI (X : Cx) (G0 : Gh) (H0 : Hp) (e : Expr) (W : WT) : Prop := PW X e (TTX X.K G0 H0 W)
theorem pw_imp {t t' : TT} (h : PW X e t) (i : ∀ σ H Q, t' σ H Q → t σ H Q) : PW X e t' := ⟨fun wh pins s σ H Q I q => h.run wh pins s σ H Q I (i σ H Q q)⟩
def tAnd' (ta tb : WT) : WT := fun ρ Φ => ta ρ fun k ρ' => if k = true then tb ρ' Φ else Φ false ρ'
def tOr' (ta tb : WT) : WT := fun ρ Φ => ta ρ fun k ρ' => if k = true then Φ true ρ' else tb ρ' Φ
def tNot' (ta : WT) : WT := fun ρ Φ => ta ρ fun k ρ' => Φ (!k) ρ'
theorem ttx_seq {Q : Bool → Hp → Prop} {W : WT} {f : Bool → WT} (h : TTX K G0 H0 (fun ρ Φ => W ρ fun k ρ' => f k ρ' Φ) σ H Q) : TTX K G0 H0 W σ H fun k H1 => TTX K G0 H0 (f k) σ H1 Q := by
  obtain ⟨ρ, G, Φ, S, h, c⟩ := h
  refine ⟨ρ, G, _, S, h, fun k ρ' G' H' q S' P L => ⟨ρ', G', Φ, S', q, fun k2 ρ2 G2 H2 q2 S2 P2 L2 => c k2 ρ2 G2 H2 q2 S2 (P.trans S'.wd P2 L) (L2.trans L)⟩⟩
theorem ttx_done {Q : Bool → Hp → Prop} {k : Bool} (h : TTX K G0 H0 (fun ρ Φ => Φ k ρ) σ H Q) : Q k H := by
  obtain ⟨ρ, G, Φ, S, h, c⟩ := h
  exact c k ρ G H h S Stp.refl (LeE.refl _)
theorem w_and1 (ha : PTI X G0 H0 a ta) : PWI X G0 H0 (.BoolOp .And [a] pos) ta := pw_and1 ha
theorem w_or1 (ha : PTI X G0 H0 a ta) : PWI X G0 H0 (.BoolOp .Or [a] pos) ta := pw_or1 ha
theorem w_and (ha : PTI X G0 H0 a ta) (hb : PWI X G0 H0 (.BoolOp .And (b :: rest) pos) tb) : PWI X G0 H0 (.BoolOp .And (a :: b :: rest) pos) (tAnd' ta tb) := by
  refine pw_imp (pw_and ha hb) fun σ H Q h => ?_
  have z := ttx_seq (f := fun k ρ' Φ => if k = true then tb ρ' Φ else Φ false ρ') h
  obtain ⟨ρ, G, Φ, S, h, c⟩ := z
  refine ⟨ρ, G, Φ, S, h, fun k ρ' G' H' q S' P L => ?_⟩
  have y := c k ρ' G' H' q S' P L
  cases k with
  | true => exact iteT (by simpa using y)
  | false => exact iteF (ttx_done (by simpa using y))
theorem w_or (ha : PTI X G0 H0 a ta) (hb : PWI X G0 H0 (.BoolOp .Or (b :: rest) pos) tb) : PWI X G0 H0 (.BoolOp .Or (a :: b :: rest) pos) (tOr' ta tb) := by
  refine pw_imp (pw_or ha hb) fun σ H Q h => ?_
  have z := ttx_seq (f := fun k ρ' Φ => if k = true then Φ true ρ' else tb ρ' Φ) h
  obtain ⟨ρ, G, Φ, S, h, c⟩ := z
  refine ⟨ρ, G, Φ, S, h, fun k ρ' G' H' q S' P L => ?_⟩
  have y := c k ρ' G' H' q S' P L
  cases k with
  | false => exact iteF (by simpa using y)
  | true => exact iteT (ttx_done (by simpa using y))
theorem t_bool {W : WT} (h : PWI X G0 H0 e W) : PTI X G0 H0 e W := h.pt
theorem t_not (ha : PTI X G0 H0 a ta) : PTI X G0 H0 (.UnaryOp .Not a pos) (tNot' ta) := by
  refine pt_imp (pt_not ha) fun σ H Q h => ?_
  obtain ⟨ρ, G, Φ, S, h, c⟩ := h
  exact ⟨ρ, G, _, S, h, fun k ρ' G' H' q S' P L => c (!k) ρ' G' H' q S' P L⟩
/-- .. as values -/
def wAnd (wa wb : WE) : WE := fun ρ Φ => wa ρ fun r ρ' => match r.d with
  | .bl true => wb ρ' Φ
  | .bl false => Φ (.fr (.bl false)) ρ'
  | _ => False
def wOr (wa wb : WE) : WE := fun ρ Φ => wa ρ fun r ρ' => match r.d with
  | .bl true => Φ (.fr (.bl true)) ρ'
  | .bl false => wb ρ' Φ
  | _ => False
def wNot (wa : WE) : WE := fun ρ Φ => wa ρ fun r ρ' => match r.d with
  | .bl k => Φ (.fr (.bl (!k))) ρ'
  | _ => False
theorem i_one {op} (h : PEI X G0 H0 a wa) : PEI X G0 H0 (.BoolOp op [a] pos) wa := pe_one h
theorem i_and (ha : PEI X G0 H0 a wa) (hb : PEI X G0 H0 (.BoolOp .And (b :: rest) pos) wb) : PEI X G0 H0 (.BoolOp .And (a :: b :: rest) pos) (wAnd wa wb) := by
  refine pe_imp (pe_and ha hb) fun σ H Q h => ?_
  obtain ⟨ρ, G, Φ, S, h, c⟩ := h
  refine ⟨ρ, G, _, S, h, fun r ρ' v G' H' q S' P L x => ?_⟩
  have x' := x.sh
  split at q
  · rename_i e
    rw [e] at x'
    exact ⟨true, x'.b, iteT ⟨ρ', G', Φ, S', q, fun r2 ρ2 v2 G2 H2 q2 S2 P2 L2 x2 => c r2 ρ2 v2 G2 H2 q2 S2 (P.trans S'.wd P2 L) (L2.trans L) (x2.back fun a z => P.nn S'.wd z)⟩⟩
  · rename_i e
    rw [e] at x'
    exact ⟨false, x'.b, iteF (c _ ρ' _ G' H' q S' P L (.bl false))⟩
  · exact q.elim
theorem i_or (ha : PEI X G0 H0 a wa) (hb : PEI X G0 H0 (.BoolOp .Or (b :: rest) pos) wb) : PEI X G0 H0 (.BoolOp .Or (a :: b :: rest) pos) (wOr wa wb) := by
  refine pe_imp (pe_or ha hb) fun σ H Q h => ?_
  obtain ⟨ρ, G, Φ, S, h, c⟩ := h
  refine ⟨ρ, G, _, S, h, fun r ρ' v G' H' q S' P L x => ?_⟩
  have x' := x.sh
  split at q
  · rename_i e
    rw [e] at x'
    exact ⟨true, x'.b, iteT (c _ ρ' _ G' H' q S' P L (.bl true))⟩
  · rename_i e
    rw [e] at x'
    exact ⟨false, x'.b, iteF ⟨ρ', G', Φ, S', q, fun r2 ρ2 v2 G2 H2 q2 S2 P2 L2 x2 => c r2 ρ2 v2 G2 H2 q2 S2 (P.trans S'.wd P2 L) (L2.trans L) (x2.back fun a z => P.nn S'.wd z)⟩⟩
  · exact q.elim
theorem i_not (ha : PEI X G0 H0 a wa) : PEI X G0 H0 (.UnaryOp .Not a pos) (wNot wa) := by
  refine pe_imp (pe_not ha) fun σ H Q h => ?_
  obtain ⟨ρ, G, Φ, S, h, c⟩ := h
  refine ⟨ρ, G, _, S, h, fun r ρ' v G' H' q S' P L x => ?_⟩
  have x' := x.sh
  split at q
  · rename_i k e
    rw [e] at x'
    exact ⟨k, x'.b, c _ ρ' _ G' H' q S' P L (.bl _)⟩
  · exact q.elim
def wIf (t : WT) (wa wb : WE) : WE := fun ρ Φ => t ρ fun k ρ' => if k = true then wa ρ' Φ else wb ρ' Φ
theorem i_if (hc : PTI X G0 H0 c tc) (ha : PEI X G0 H0 a wa) (hb : PEI X G0 H0 b wb) : PEI X G0 H0 (.IfExp c a b pos) (wIf tc wa wb) := by
  refine pe_imp (pe_ifExp hc ha hb) fun σ H Q h => ?_
  obtain ⟨ρ, G, Φ, S, h, k⟩ := h
  refine ⟨ρ, G, _, S, h, fun b ρ' G' H' q S' P L => ?_⟩
  cases b with
  | true => exact iteT ⟨ρ', G', Φ, S', by simpa using q, fun r2 ρ2 v2 G2 H2 q2 S2 P2 L2 x2 => k r2 ρ2 v2 G2 H2 q2 S2 (P.trans S'.wd P2 L) (L2.trans L) (x2.back fun a z => P.nn S'.wd z)⟩
  | false => exact iteF ⟨ρ', G', Φ, S', by simpa using q, fun r2 ρ2 v2 G2 H2 q2 S2 P2 L2 x2 => k r2 ρ2 v2 G2 H2 q2 S2 (P.trans S'.wd P2 L) (L2.trans L) (x2.back fun a z => P.nn S'.wd z)⟩
/-- a test by a value's truth -/
def truD : D → Option Bool
  | .non => some false
  | .bl b => some b
  | .int i => some (i != 0)
  | .str x => if x.length ≤ sizeLine then some ((x.length : Int) != 0) else none
  | .tup ds => some (!ds.isEmpty)
  | .lst ds => some (!ds.isEmpty)
  | _ => none
def wTr (W : WE) : WT := fun ρ Φ => W ρ fun r ρ' => match truD r.d with
  | some k => Φ k ρ'
  | none => False
theorem truD_ok {G : Gh} {d : D} {v : V} {k : Bool} (h : Sh K G H d v) (e : truD d = some k) : TruV K v H k := by
  cases d with
  | non => cases h.n; cases e; rfl
  | bl b => cases h.b; cases e; rfl
  | int i => cases h.i; cases e; rfl
  | str x =>
    cases h.s
    have e' : (if x.length ≤ sizeLine then some ((x.length : Int) != 0) else none) = some k := e
    by_cases hx : x.length ≤ sizeLine
    · rw [if_pos hx] at e'
      cases e'
      exact ⟨hx, rfl⟩
    · rw [if_neg hx] at e'
      cases e'
  | tup ds =>
    obtain ⟨a, xs, rfl, q, r⟩ := h.tuple
    cases e
    exact .inr (.inl ⟨xs, q, by cases r <;> rfl⟩)
  | lst ds =>
    obtain ⟨a, xs, rfl, q, r⟩ := h.list
    cases e
    exact .inl ⟨xs, q, by cases r <;> rfl⟩
  | _ => cases e
theorem t_tru (ha : PEI X G0 H0 e wa) (he : ∀ whole, isTrue e X.env whole = (do let v ← whole; standAt e.pos; holding [v] (truthy v)) := by intro _; rfl) : PTI X G0 H0 e (wTr wa) := by
  refine pt_imp (pt_truth ha he) fun σ H Q h => ?_
  obtain ⟨ρ, G, Φ, S, h, c⟩ := h
  refine ⟨ρ, G, _, S, h, fun r ρ' v G' H' q S' P L x => ?_⟩
  split at q
  · rename_i k e
    exact ⟨k, truD_ok x.sh e, c k ρ' G' H' q S' P L⟩
  · exact q.elim

/-! ### arguments -/
def wNil : WA := fun ρ Φ => Φ [] ρ
def wCons (wa : WE) (ws : WA) : WA := fun ρ Φ => wa ρ fun r ρ' => ws ρ' fun rs ρ2 => Φ (r :: rs) ρ2
/-- a star: the items of a list or a tuple -/
def itemsD : D → Option (List D)
  | .tup ds => some ds
  | .lst ds => some ds
  | _ => none
def wStar (wa : WE) (ws : WA) : WA := fun ρ Φ => wa ρ fun r ρ' => match itemsD r.d with
  | some ds => ws ρ' fun rs ρ2 => Φ (ds.map R.fr ++ rs) ρ2
  | none => False
theorem RepRs.stp {G G' : Gh} {H' Hs : Hp} {ρ : En} (w : Wd G H) (g : Stp ρ σ G H G' H') (hO : ∀ a, OwnA ρ σ a → Hs a ≠ none) : ∀ {rs : List R} {vs : List V}, RepRs K G H Hs rs vs → RepRs K G' H' Hs rs vs
  | _, _, .nil => .nil
  | _, _, .cons r t n => .cons (r.stp w g hO) (RepRs.stp w g hO t) n
theorem RepRs.back {G : Gh} {Hs Ht : Hp} (z : ∀ a, Hs a = none → Ht a = none) : ∀ {rs : List R} {vs : List V}, RepRs K G H Hs rs vs → RepRs K G H Ht rs vs
  | _, _, .nil => .nil
  | _, _, .cons r t n => .cons (r.back z) (RepRs.back z t) n
theorem RepL.appendF {G : Gh} {Hs : Hp} : ∀ {ds : List D} {ss : List R} {vs us : List V}, RepL K G H ds vs → RepRs K G H Hs ss us → RepRs K G H Hs (ds.map R.fr ++ ss) (vs ++ us)
  | _, _, _, _, .nil, s => s
  | _, _, _, _, .cons r t, s => .cons r (RepL.appendF t s) fun d e => nomatch e
theorem RepRs.fresh {G : Gh} {Hs : Hp} : ∀ {rs : List R} {vs : List V}, RepRs K G H Hs rs vs → ∀ p ∈ rs.zip vs, (∃ d', p.1 = .ow d') → ∃ a, p.2 = .ref a ∧ Hs a = none
  | _, _, .nil => fun p hp => by simp at hp
  | _, _, .cons (r := r) (v := v) (rs := rs) (vs := vs) x t n => fun p hp hd => by
    have hp' : p ∈ (r, v) :: rs.zip vs := hp
    rcases List.mem_cons.mp hp' with e | hp
    · subst e
      obtain ⟨d', e⟩ := hd
      have e' : r = .ow d' := e
      subst e'
      obtain ⟨a, ea, _, z⟩ := x
      exact ⟨a, ea, z⟩
    · exact RepRs.fresh t p hp hd
theorem RepL.rs {G : Gh} {Hs : Hp} {ds : List D} {vs : List V} (r : RepL K G H ds vs) : RepRs K G H Hs (ds.map R.fr) vs := by
  have z := r.appendF (Hs := Hs) .nil
  rw [List.append_nil, List.append_nil] at z
  exact z
theorem a_nil : PAI X G0 H0 [] wNil := pa_imp pa_nil fun σ H Q h => by
  obtain ⟨ρ, G, Φ, S, h, c⟩ := h
  exact c [] ρ [] G H h S Stp.refl (LeE.refl _) .nil
theorem a_cons (ha : PEI X G0 H0 e wa) (hr : PAI X G0 H0 es ws) (hs : starEach (e :: es) X.env = (false, eval e X.env) :: starEach es X.env := by rfl) : PAI X G0 H0 (e :: es) (wCons wa ws) := by
  refine pa_imp (pa_cons ha hr hs) fun σ H Q h => ?_
  obtain ⟨ρ, G, Φ, S, h, c⟩ := h
  refine ⟨ρ, G, _, S, h, fun r ρ' v G' H' q S' P L x => ⟨ρ', G', _, S', q, fun rs ρ2 vs G2 H2 q2 S2 P2 L2 x2 => ?_⟩⟩
  exact c (r :: rs) ρ2 (v :: vs) G2 H2 q2 S2 (P.trans S'.wd P2 L) (L2.trans L) (.cons (x.stp S'.wd P2 (S.hO L)) (x2.back fun a z => P.nn S'.wd z) fun d e p hp hd z => by
    subst e
    obtain ⟨a, ea, o, _⟩ := x
    obtain ⟨a', ea', hn⟩ := x2.fresh p hp hd
    rw [ea, ea'] at z
    cases z
    obtain ⟨ob, ho⟩ := o.2.2.tracked
    rw [hn] at ho; cases ho)
theorem a_star {p : Pos} (ha : PEI X G0 H0 e wa) (hr : PAI X G0 H0 es ws) (hs : starEach (.Starred e p :: es) X.env = (true, eval e X.env) :: starEach es X.env := by rfl) : PAI X G0 H0 (.Starred e p :: es) (wStar wa ws) := by
  refine pa_imp (StX.pa_star ha hr hs) fun σ H Q h => ?_
  obtain ⟨ρ, G, Φ, S, h, c⟩ := h
  refine ⟨ρ, G, _, S, h, fun r ρ' v G' H' q S' P L x => ?_⟩
  have x' := x.sh
  have key : ∀ ds, itemsD r.d = some ds → ∃ a xs, v = .ref a ∧ (SqT X.K H' a xs ∨ SqL X.K H' a xs) ∧ RepL X.K G' H' ds xs := fun ds e => by
    cases hd : r.d with
    | tup ys => rw [hd] at e x'; cases e; obtain ⟨a, xs, e1, q1, r1⟩ := x'.tuple; exact ⟨a, xs, e1, .inl q1, r1⟩
    | lst ys => rw [hd] at e x'; cases e; obtain ⟨a, xs, e1, q1, r1⟩ := x'.list; exact ⟨a, xs, e1, .inr q1, r1⟩
    | _ => rw [hd] at e; cases e
  split at q
  · rename_i ds e
    obtain ⟨a, xs, e1, q1, r1⟩ := key ds e
    refine ⟨a, xs, e1, q1, ρ', G', _, S', q, fun rs ρ2 vs G2 H2 q2 S2 P2 L2 x2 => ?_⟩
    exact c _ ρ2 _ G2 H2 q2 S2 (P.trans S'.wd P2 L) (L2.trans L) ((r1.fe (P2.fe S'.wd)).appendF (x2.back fun a z => P.nn S'.wd z))
  · exact q.elim

/-! ### displays -/
/-- all are frozen -/
def frs' : List R → Option (List D)
  | [] => some []
  | .fr d :: rs => match frs' rs with
    | some ds => some (d :: ds)
    | none => none
  | _ :: _ => none
theorem frs_rep {G : Gh} {Hs : Hp} : ∀ {rs : List R} {vs : List V} {ds : List D}, RepRs K G H Hs rs vs → frs' rs = some ds → RepL K G H ds vs
  | _, _, ds, .nil, e => by cases e; exact .nil
  | .fr d :: rs, _, ds, .cons r t _, e => by
    unfold frs' at e
    cases q : frs' rs with
    | none => rw [q] at e; cases e
    | some es => rw [q] at e; cases e; exact .cons r (frs_rep t q)
  | .ow d :: rs, _, ds, .cons r t _, e => by cases e
  | .bo d :: rs, _, ds, .cons r t _, e => by cases e
/-- what is laid is new -/
theorem Grow.laid {G : Gh} {p : Addr} {o : HO} (hp : H p = none) : Grow G H G (upd H p o) :=
  ⟨fun _ h => h, fun _ h => h, fun a o' e _ => by rw [upd_ne (fun z => by rw [z, hp] at e; cases e)]; exact e, fun _ h => .inl h, fun _ h => .inl h⟩
theorem Wd.grow {G : Gh} {H' : Hp} (w : Wd G H) (g : ∀ a o, H a = some o → H' a = some o) : Wd G H' := by
  refine ⟨fun a h => ?_, fun a h => ?_⟩
  · obtain ⟨⟨i, j, k, r, ns, e, l, q⟩, n⟩ := w.b a h
    exact ⟨⟨i, j, k, r, ns, g _ _ e, ⟨l.1, g _ _ l.2⟩, q⟩, n⟩
  · obtain ⟨o, e⟩ := w.f a h
    exact ⟨o, g _ _ e⟩
theorem Wd.laid {G : Gh} {p : Addr} {o : HO} (w : Wd G H) (hp : H p = none) : Wd G (upd H p o) :=
  w.grow fun a o' e => by rw [upd_ne (fun z => by rw [z, hp] at e; cases e)]; exact e
theorem Own.laid {G : Gh} {p : Addr} {xs : List V} {ds : List D} (w : Wd G H) (hp : H p = none) (r : RepL K G H ds xs) : Own K G (upd H p (.lst xs)) p (.lst ds) := by
  refine ⟨fun z => ?_, fun z => ?_, xs, upd_same, r.fe ((Grow.laid hp).fe w)⟩
  · obtain ⟨o, e⟩ := w.f p z
    rw [hp] at e; cases e
  obtain ⟨ys, e⟩ := w.bagl z
  rw [hp] at e; cases e
end
end Tv
/-! Tv4: displays, statements, loops, defs and their calls. -/
namespace Tv
open PySem PySem.Spec PyProof.Rows L2

section
variable {X : Cx} {G0 : Gh} {H0 : Hp} {e a b c : Expr} {es rest : List Expr} {wa wb : WE} {ta tb tc : WT} {ws : WA} {pos : Pos} {K : PySem.W.Frag} {σ : L2.St} {H : Hp}
theorem RepRs.length {G : Gh} {Hs : Hp} : ∀ {rs : List R} {vs : List V}, RepRs K G H Hs rs vs → rs.length = vs.length
  | _, _, .nil => rfl
  | _, _, .cons _ t _ => by simp [RepRs.length t]
/-- (a, .., b): all parts frozen -/
def wTup (ws : WA) : WE := fun ρ Φ => ws ρ fun rs ρ' => match frs' rs with
  | some ds => rs.length ≤ sizeLine ∧ Φ (.fr (.tup ds)) ρ'
  | none => False
def wLst (ws : WA) : WE := fun ρ Φ => ws ρ fun rs ρ' => match frs' rs with
  | some ds => rs.length ≤ sizeLine ∧ Φ (.ow (.lst ds)) ρ'
  | none => False
theorem i_tup {k} (h : PAI X G0 H0 es ws) : PEI X G0 H0 (.Tuple es k pos) (wTup ws) := by
  refine pe_imp (pe_tup h) fun σ H Q h => ?_
  obtain ⟨ρ, G, Φ, S, h, c⟩ := h
  refine ⟨ρ, G, _, S, h, fun rs ρ' vs G' H' q S' P L x => ?_⟩
  split at q
  · rename_i ds e
    have g : ∀ p, H' p = none → Grow G' H' G' (upd H' p (.tup vs)) := fun p hp => Grow.laid hp
    refine ⟨by rw [← x.length]; exact q.1, fun p hp => ?_⟩
    exact c _ ρ' _ G' _ q.2 (S'.grow (S'.wd.laid hp) (g p hp)) (P.trans S'.wd (g p hp).stp L) L (.tup (SqT.of upd_same) ((frs_rep x e).fe ((g p hp).fe S'.wd)))
  · exact q.elim
theorem i_lst (h : PAI X G0 H0 es ws) : PEI X G0 H0 (.List es pos) (wLst ws) := by
  refine pe_imp (pe_lst h) fun σ H Q h => ?_
  obtain ⟨ρ, G, Φ, S, h, c⟩ := h
  refine ⟨ρ, G, _, S, h, fun rs ρ' vs G' H' q S' P L x => ?_⟩
  split at q
  · rename_i ds e
    refine ⟨by rw [← x.length]; exact q.1, fun p hp => ?_⟩
    have g : Grow G' H' G' (upd H' p (.lst vs)) := Grow.laid hp
    exact c _ ρ' _ G' _ q.2 (S'.grow (S'.wd.laid hp) g) (P.trans S'.wd g.stp L) L ⟨p, rfl, Own.laid S'.wd hp (frs_rep x e), P.nn S'.wd hp⟩
  · exact q.elim

/-! ### built-ins by values -/
def OpN (K : PySem.W.Frag) (o : List D → (R → Prop) → Prop) (rr : List V → Hp → VK → Prop) : Prop :=
  ∀ G H ds vs Φ Q, Wd G H → (ds.length = vs.length) → (∀ (i : Nat) d v, ds[i]? = some d → vs[i]? = some v → Sh K G H d v) → o ds Φ → (∀ r' v' G' H', Φ r' → Wd G' H' → Grow G H G' H' → RepR K G' H' H r' v' → Q v' H') → rr vs H Q
def wN (o : List D → (R → Prop) → Prop) (ws : WA) : WE := fun ρ Φ => ws ρ fun rs ρ' => o (rs.map R.d) fun r' => Φ r' ρ'
theorem RepRs.sh {G : Gh} {Hs : Hp} : ∀ {rs : List R} {vs : List V}, RepRs K G H Hs rs vs → ∀ (i : Nat) d v, (rs.map R.d)[i]? = some d → vs[i]? = some v → Sh K G H d v
  | _, _, .nil => fun i d v e _ => by simp at e
  | _, _, .cons r t _ => fun i d v e e' => by
    cases i with
    | zero => simp at e e'; subst e e'; exact r.sh
    | succ i => exact RepRs.sh t i d v (by simpa using e) (by simpa using e')
theorem tcb_n {o : List D → (R → Prop) → Prop} {rr : List V → Hp → VK → Prop} (hn : OpN K o rr) {Q} (h : TX K G0 H0 (wN o ws) σ H Q) : tCB rr (TAX K G0 H0 ws) σ H Q := by
  obtain ⟨ρ, G, Φ, S, h, c⟩ := h
  refine ⟨ρ, G, _, S, h, fun rs ρ' vs G' H' q S' P L x => ?_⟩
  exact hn G' H' _ vs _ Q S'.wd (by rw [List.length_map]; exact x.length) x.sh q fun r' v' G2 H2 φ w g x' => c r' ρ' v' G2 H2 φ (S'.grow w g) (P.trans S'.wd g.stp L) L (x'.back fun a z => P.nn S'.wd z)
theorem i_callB {id : String} {o : List D → (R → Prop) → Prop} {rr : List V → Hp → VK → Prop} {x : Str} {p : Pos} (hc : CallR X (.builtin id) rr) (hn : OpN X.K o rr) (hg : Gl X x) (hm : X.mg x = none) (hv : bootBuiltins x = some (.builtin id)) (ha : PAI X G0 H0 (e :: es) ws)
    (hnn : x ≠ "__name__" := by decide) (hdb : (x == ("__debug__" : Str)) = false := by decide) (he : starEach (e :: es) X.env = (false, eval e X.env) :: starEach es X.env := by rfl) (hpl : (backTo pos (starEach es X.env)).any (·.1) = false := by rfl) :
    PEI X G0 H0 (.Call (.Name x p) (e :: es) [] pos) (wN o ws) :=
  pe_imp (pe_callB hc hg hm hv ha hnn hdb he hpl) fun _ _ _ h => tcb_n hn h
theorem i_callT {T : String} {o : List D → (R → Prop) → Prop} {rr : List V → Hp → VK → Prop} {x : Str} {p : Pos} (hc : CallR X (.type T) rr) (hn : OpN X.K o rr) (hg : Gl X x) (hm : X.mg x = none) (hv : bootBuiltins x = some (.type T)) (ha : PAI X G0 H0 (e :: es) ws)
    (hnn : x ≠ "__name__" := by decide) (hdb : (x == ("__debug__" : Str)) = false := by decide) (he : starEach (e :: es) X.env = (false, eval e X.env) :: starEach es X.env := by rfl) (hpl : (backTo pos (starEach es X.env)).any (·.1) = false := by rfl) :
    PEI X G0 H0 (.Call (.Name x p) (e :: es) [] pos) (wN o ws) :=
  pe_imp (pe_callTy hc hg hm hv ha hnn hdb he hpl) fun _ _ _ h => tcb_n hn h
/-- a method of a built-in type, by values: the receiver first -/
def OpM (K : PySem.W.Frag) (T : String) (o : D → List D → (R → Prop) → Prop) (rr : V → List V → Hp → VK → Prop) : Prop :=
  ∀ G H d v ds vs Φ Q, Wd G H → Sh K G H d v → (ds.length = vs.length) → (∀ (i : Nat) d v, ds[i]? = some d → vs[i]? = some v → Sh K G H d v) → o d ds Φ → (∀ r' v' G' H', Φ r' → Wd G' H' → Grow G H G' H' → RepR K G' H' H r' v' → Q v' H') → rr v vs H Q
def wM (ty : D → Prop) (o : D → List D → (R → Prop) → Prop) (wa : WE) (ws : WA) : WE := fun ρ Φ => wa ρ fun r ρ' => ty r.d ∧ ws ρ' fun rs ρ2 => o r.d (rs.map R.d) fun r' => Φ r' ρ2
theorem i_meth {T name : Str} {id : String} {T' : String} {ty : D → Prop} {o : D → List D → (R → Prop) → Prop} {rr : V → List V → Hp → VK → Prop} {ob : Expr} {apos : Pos} (pe : ∀ {to : TE} {t : TA}, PE X ob to → PA X (e :: es) t → PE X (.Call (.Attribute ob name apos) (e :: es) [] pos) (tBM X.K T' rr to t))
    (hty : ∀ G H d v, ty d → Sh X.K G H d v → tyV X.K T' v H) (hm : OpM X.K T' o rr) (ho : PEI X G0 H0 ob wa) (ha : PAI X G0 H0 (e :: es) ws) : PEI X G0 H0 (.Call (.Attribute ob name apos) (e :: es) [] pos) (wM ty o wa ws) := by
  refine pe_imp (pe ho ha) fun σ H Q h => ?_
  obtain ⟨ρ, G, Φ, S, h, c⟩ := h
  refine ⟨ρ, G, _, S, h, fun r ρ' v G' H' q S' P L x => ⟨hty _ _ _ _ q.1 x.sh, ρ', G', _, S', q.2, fun rs ρ2 vs G2 H2 q2 S2 P2 L2 x2 => ?_⟩⟩
  have PP := P.trans S'.wd P2 L
  exact hm G2 H2 r.d v _ vs _ Q S2.wd (x.sh.stp S'.wd P2) (by rw [List.length_map]; exact x2.length) x2.sh q2 fun r' v' G3 H3 φ w g x' => c r' ρ2 v' G3 H3 φ (S2.grow w g) (PP.trans S2.wd g.stp (L2.trans L)) (L2.trans L) (x'.back fun a z => PP.nn S2.wd z)

/-! ### statements -/
structure SK where
  nx : En → Prop
  rt : R → Prop
  bk : En → Prop
  ct : En → Prop
abbrev WS := En → SK → Prop
structure KS (K : PySem.W.Frag) (G0 : Gh) (H0 : Hp) (G : Gh) (H : Hp) (S : SK) (D : Ends) : Prop where
  nx : ∀ ρ' G' H' σ', S.nx ρ' → Sta K G0 H0 ρ' G' H' σ' → FE G H G' H' → D.nx σ' H'
  rt : ∀ r v G' H', S.rt r → Wd G' H' → Grow G0 H0 G' H' → RepR K G' H' H0 r v → D.rt v H'
  bk : ∀ ρ' G' H' σ', S.bk ρ' → Sta K G0 H0 ρ' G' H' σ' → FE G H G' H' → D.bk σ' H'
  ct : ∀ ρ' G' H' σ', S.ct ρ' → Sta K G0 H0 ρ' G' H' σ' → FE G H G' H' → D.ct σ' H'
theorem KS.fe {G G1 : Gh} {H1 : Hp} {S : SK} {D : Ends} (k : KS K G0 H0 G H S D) (f : FE G H G1 H1) : KS K G0 H0 G1 H1 S D :=
  ⟨fun ρ' G' H' σ' h s f' => k.nx ρ' G' H' σ' h s (f.trans f'), k.rt, fun ρ' G' H' σ' h s f' => k.bk ρ' G' H' σ' h s (f.trans f'), fun ρ' G' H' σ' h s f' => k.ct ρ' G' H' σ' h s (f.trans f')⟩
def TSX (K : PySem.W.Frag) (G0 : Gh) (H0 : Hp) (W : WS) : TS := fun D σ H => ∃ ρ G S, Sta K G0 H0 ρ G H σ ∧ W ρ S ∧ KS K G0 H0 G H S D
def PSI (X : Cx) (G0 : Gh) (H0 : Hp) (s : Stmt) (W : WS) : Prop := PS X s (TSX X.K G0 H0 W)
def PBI (X : Cx) (G0 : Gh) (H0 : Hp) (ss : List Stmt) (W : WS) : Prop := PSs X ss (TSX X.K G0 H0 W)
theorem ps_imp {s : Stmt} {t t' : TS} (h : PS X s t) (i : ∀ D σ H, t' D σ H → t D σ H) : PS X s t' := ⟨fun pins s σ H D I q => h.run pins s σ H D I (i D σ H q)⟩
theorem pss_imp {ss : List Stmt} {t t' : TS} (h : PSs X ss t) (i : ∀ D σ H, t' D σ H → t D σ H) : PSs X ss t' := ⟨fun pins s σ H D I q => h.run pins s σ H D I (i D σ H q)⟩
def sSkip : WS := fun ρ S => S.nx ρ
def sSeq (u v : WS) : WS := fun ρ S => u ρ { S with nx := fun ρ' => v ρ' S }
theorem b_nil : PBI X G0 H0 [] sSkip := pss_imp pss_nil fun D σ H h => by
  obtain ⟨ρ, G, S, s, h, k⟩ := h
  exact k.nx ρ G H σ h s (FE.refl _ _)
variable {st : Stmt} {ss : List Stmt} {u v : WS}
theorem b_one (h : PSI X G0 H0 st u) : PBI X G0 H0 [st] u := pss_one h
theorem b_cons (h1 : PSI X G0 H0 st u) (h2 : PBI X G0 H0 ss v) : PBI X G0 H0 (st :: ss) (sSeq u v) := by
  refine pss_imp (pss_cons h1 h2) fun D σ H h => ?_
  obtain ⟨ρ, G, S, s, h, k⟩ := h
  exact ⟨ρ, G, _, s, h, ⟨fun ρ' G' H' σ' h' s' f => ⟨ρ', G', S, s', h', k.fe f⟩, k.rt, k.bk, k.ct⟩⟩
theorem s_pass : PSI X G0 H0 (.Pass pos) sSkip := ps_imp ps_pass fun D σ H h => by
  obtain ⟨ρ, G, S, s, h, k⟩ := h
  exact k.nx ρ G H σ h s (FE.refl _ _)
theorem s_doc {x j pos'} : PSI X G0 H0 (.Expr (.Constant (.str x) j pos) pos') sSkip := ps_imp ps_doc fun D σ H h => by
  obtain ⟨ρ, G, S, s, h, k⟩ := h
  exact k.nx ρ G H σ h s (FE.refl _ _)
def sBreak : WS := fun ρ S => S.bk ρ
def sCont : WS := fun ρ S => S.ct ρ
theorem s_break : PSI X G0 H0 (.Break pos) sBreak := ps_imp ps_break fun D σ H h => by
  obtain ⟨ρ, G, S, s, h, k⟩ := h
  exact k.bk ρ G H σ h s (FE.refl _ _)
theorem s_cont : PSI X G0 H0 (.Continue pos) sCont := ps_imp ps_continue fun D σ H h => by
  obtain ⟨ρ, G, S, s, h, k⟩ := h
  exact k.ct ρ G H σ h s (FE.refl _ _)
/-- an expression whose value is dropped -/
def sDrop (wa : WE) : WS := fun ρ S => wa ρ fun _ ρ' => S.nx ρ'
theorem s_expr (h : PEI X G0 H0 e wa) (hs : swapsWith e none pos.line X.env = pure false := by rfl) : PSI X G0 H0 (.Expr e pos) (sDrop wa) := by
  refine ps_imp (ps_expr h hs) fun D σ H h => ?_
  obtain ⟨ρ, G, S, s, h, k⟩ := h
  exact ⟨ρ, G, _, s, h, fun r ρ' v G' H' q s' P L x => k.nx ρ' G' H' σ q s' (P.fe s.wd)⟩
/-- return -/
def sRet (wa : WE) : WS := fun ρ S => wa ρ fun r _ => match r with
  | .bo _ => False
  | r => S.rt r
theorem s_ret (h : PEI X G0 H0 e wa) : PSI X G0 H0 (.Return (some e) pos) (sRet wa) := by
  refine ps_imp (ps_ret h) fun D σ H h => ?_
  obtain ⟨ρ, G, S, s, h, k⟩ := h
  refine ⟨ρ, G, _, s, h, fun r ρ' v G' H' q s' P L x => ?_⟩
  have z := x.back (Ht := H0) fun a z => s.none0 z
  cases r with
  | fr d => exact k.rt _ v G' H' q s'.wd s'.ex z
  | ow d => exact k.rt _ v G' H' q s'.wd s'.ex z
  | bo d => exact q.elim
def sRetN : WS := fun _ S => S.rt (.fr .non)
theorem s_retN : PSI X G0 H0 (.Return none pos) sRetN := ps_imp ps_retN fun D σ H h => by
  obtain ⟨ρ, G, S, s, h, k⟩ := h
  exact k.rt _ _ G H h s.wd s.ex .non
/-- return of a variable: its object goes out -/
def sRetV (i : Nat) : WS := fun ρ S => match ρ[i]? with
  | some (.fr d) => S.rt (.fr d)
  | some (.ow d) => S.rt (.ow d)
  | _ => False
theorem s_retv (i : Nat) {x : Str} {p : Pos} (hN : X.N[i]? = some x := by rfl) (hv : Vis X.env.scope x := by first | exact Or.inl rfl | exact Or.inr (Or.inl rfl) | exact Or.inr (Or.inr rfl)) (hd : (x == ("__debug__" : Str)) = false := by decide)
    (hcd : (x == ("__classdict__" : Str)) = false := by decide) : PSI X G0 H0 (.Return (some (.Name x p)) pos) (sRetV i) := by
  refine ps_imp (ps_ret (pe_var hN hv hd hcd)) fun D σ H h => ?_
  obtain ⟨ρ, G, S, s, h, k⟩ := h
  unfold sRetV at h
  split at h
  · rename_i d e
    obtain ⟨v, e1, r⟩ := s.fr i d e
    exact ⟨v, e1, k.rt _ v G H h s.wd s.ex r⟩
  · rename_i d e
    obtain ⟨a, e1, o, z⟩ := s.ow i d e
    exact ⟨_, e1, k.rt _ _ G H h s.wd s.ex ⟨a, rfl, o, z⟩⟩
  · exact h.elim
def sIf (t : WT) (u v : WS) : WS := fun ρ S => t ρ fun k ρ' => if k = true then u ρ' S else v ρ' S
theorem s_if {ss' : List Stmt} (hc : PTI X G0 H0 c tc) (ha : PBI X G0 H0 ss u) (hb : PBI X G0 H0 ss' v) : PSI X G0 H0 (.If c ss ss' pos) (sIf tc u v) := by
  refine ps_imp (ps_if hc ha hb) fun D σ H h => ?_
  obtain ⟨ρ, G, S, s, h, k⟩ := h
  refine ⟨ρ, G, _, s, h, fun b ρ' G' H' q s' P L => ?_⟩
  cases b with
  | true => exact iteT ⟨ρ', G', S, s', by simpa using q, k.fe (P.fe s.wd)⟩
  | false => exact iteF ⟨ρ', G', S, s', by simpa using q, k.fe (P.fe s.wd)⟩
/-- code that is never reached -/
def sNever : WS := fun _ _ => False
theorem b_never : PBI X G0 H0 ss sNever := pss_imp pss_never fun D σ H h => by
  obtain ⟨ρ, G, S, s, h, k⟩ := h
  exact h
theorem s_never : PSI X G0 H0 st sNever := ps_imp ps_never fun D σ H h => by
  obtain ⟨ρ, G, S, s, h, k⟩ := h
  exact h

/-! ### stores -/
def R.cell : R → Cell
  | .fr d => .fr d
  | .ow d => .ow d
  | .bo _ => .no
def R.ok : R → Prop
  | .bo _ => False
  | _ => True
/-- a slot gets a value -/
theorem Sta.put {G Gs : Gh} {Hs : Hp} {ρ ρs : En} {r : R} {w : V} {i : Nat} (s : Sta K G0 H0 ρ G H σ) (ss : Sta K G0 H0 ρs Gs Hs σ) (L : LeE ρ ρs) (hi : i < ρ.length) (x : RepR K G H Hs r w) (ok : r.ok) : Sta K G0 H0 (ρ.set i r.cell) G H (σ.set i (some w)) := by
  have hσ : i < σ.length := by rw [← s.ln]; exact hi
  refine ⟨s.wd, s.ex, s.w0, fun j d e => ?_, fun j d e => ?_, fun j k d d' a e1 e2 e3 e4 => ?_, by rw [List.length_set, List.length_set]; exact s.ln, fun j c q => by
      by_cases hj : i = j
      · subst hj; rw [List.getElem?_set_self hi] at q; cases r <;> cases q
      · rw [List.getElem?_set_ne hj] at q ⊢; exact s.bo j c q⟩
  · by_cases hj : i = j
    · subst hj
      rw [List.getElem?_set_self hi] at e
      refine ⟨w, List.getElem?_set_self hσ, ?_⟩
      cases r <;> cases e
      exact x
    · rw [List.getElem?_set_ne hj] at e ⊢
      exact s.fr j d e
  · by_cases hj : i = j
    · subst hj
      rw [List.getElem?_set_self hi] at e
      cases r <;> cases e
      obtain ⟨a, ea, o, z⟩ := x
      exact ⟨a, by rw [ea]; exact List.getElem?_set_self hσ, o, ss.none0 z⟩
    · rw [List.getElem?_set_ne hj] at e ⊢
      exact s.ow j d e
  · have old : ∀ {m : Nat} {d : D}, m ≠ i → (ρ.set i r.cell)[m]? = some (.ow d) → (σ.set i (some w))[m]? = some (some (.ref a)) → OwnA ρ σ a := fun {m d} hm q1 q2 => by
      rw [List.getElem?_set_ne (Ne.symm hm)] at q1 q2
      exact ⟨m, d, q1, q2⟩
    have new : ∀ {d : D}, (ρ.set i r.cell)[i]? = some (.ow d) → (σ.set i (some w))[i]? = some (some (.ref a)) → Hs a = none := fun {d} q1 q2 => by
      rw [List.getElem?_set_self hi] at q1
      rw [List.getElem?_set_self hσ] at q2
      cases r <;> cases q1
      obtain ⟨a', ea, o, z⟩ := x
      rw [ea] at q2
      cases q2
      exact z
    by_cases hj : j = i
    · by_cases hk : k = i
      · rw [hj, hk]
      · subst hj
        exact absurd (new e1 e3) (ss.hO L a (old hk e2 e4))
    · by_cases hk : k = i
      · subst hk
        exact absurd (new e2 e4) (ss.hO L a (old hj e1 e3))
      · rw [List.getElem?_set_ne (Ne.symm hj)] at e1 e3
        rw [List.getElem?_set_ne (Ne.symm hk)] at e2 e4
        exact s.ds j k d d' a e1 e2 e3 e4
def sSet (i : Nat) (wa : WE) : WS := fun ρ S => wa ρ fun r ρ' => i < ρ'.length ∧ r.ok ∧ S.nx (ρ'.set i r.cell)
theorem s_set {i : Nat} {x : Str} {p : Pos} (hN : X.N.Nodup) (hi : X.N[i]? = some x) (hx : Loc X.env.scope x) (h : PEI X G0 H0 e wa) (hs : swapsWith e (some (.Name x p)) pos.line X.env = pure false := by rfl)
    (hf : X.fn x = true ∨ X.env.scope.names.lookup x = some .local := by first | exact .inl rfl | exact .inr rfl | assumption) : PSI X G0 H0 (.Assign [.Name x p] e pos) (sSet i wa) := by
  refine ps_imp (ps_set hN hi hx h hs hf) fun D σ H h => ?_
  obtain ⟨ρ, G, S, s, h, k⟩ := h
  exact ⟨ρ, G, _, s, h, fun r ρ' v G' H' q s' P L x => k.nx _ G' H' _ q.2.2 (s'.put s L q.1 x q.2.1) (P.fe s.wd)⟩
/-- x op= e, of values that are no objects -/
def OpI (K : PySem.W.Frag) (o : D → D → (D → Prop) → Prop) (ti : TIp) : Prop :=
  ∀ G H d e v u Φ Q, Wd G H → Rep K G H d v → Sh K G H e u → o d e Φ → (∀ d' v', Φ d' → (∀ G' H', Rep K G' H' d' v') → Q v' H) → ti v u H Q
def sAug (o : D → D → (D → Prop) → Prop) (i : Nat) (wa : WE) : WS := fun ρ S => match ρ[i]? with
  | some (.fr d) => wa ρ fun r ρ' => o d r.d fun d' => i < ρ'.length ∧ S.nx (ρ'.set i (.fr d'))
  | _ => False
theorem s_aug {i : Nat} {x : Str} {p : Pos} {op : Operator} {o : D → D → (D → Prop) → Prop} {ti : TIp} (hN : X.N.Nodup) (hi : X.N[i]? = some x) (hx : Loc X.env.scope x) (h : PEI X G0 H0 e wa) (ho : PIp X op ti) (hoi : OpI X.K o ti)
    (hf : X.fn x = true ∨ X.env.scope.names.lookup x = some .local := by first | exact .inl rfl | exact .inr rfl | assumption) : PSI X G0 H0 (.AugAssign (.Name x p) op e pos) (sAug o i wa) := by
  refine ps_imp (ps_aug hN hi hx h ho hf) fun D σ H h => ?_
  obtain ⟨ρ, G, S, s, h, k⟩ := h
  unfold sAug at h
  split at h
  · rename_i d e
    obtain ⟨v, e1, r⟩ := s.fr i d e
    refine ⟨v, e1, ρ, G, _, s, h, fun r' ρ' u G' H' q s' P L x => ?_⟩
    refine hoi G' H' d r'.d v u _ _ s'.wd (r.fe (P.fe s.wd)) x.sh q fun d' v' φ rr => ?_
    exact k.nx _ G' H' _ φ.2 (Sta.put (r := .fr d') s' s L φ.1 (rr G' H') trivial) (P.fe s.wd)
  · exact h.elim

/-! ### methods that change one's own list: x.m(..) as a statement -/
/-- by values: the list's new items -/
def OpW (K : PySem.W.Frag) (o : List D → List D → (List D → Prop) → Prop) (rr : V → List V → Hp → VK → Prop) : Prop :=
  ∀ G H a xs ds es vs Φ Q, Wd G H → H a = some (.lst xs) → RepL K G H ds xs → (es.length = vs.length) → (∀ (i : Nat) d v, es[i]? = some d → vs[i]? = some v → Rep K G H d v ∨ ∃ b, v = .ref b ∧ b ≠ a ∧ Obw K G H b d) → o ds es Φ →
    (∀ ds' ys v', Φ ds' → RepL K G H ds' ys → Q v' (upd H a (.lst ys))) → rr (.ref a) vs H Q
def sMut (o : List D → List D → (List D → Prop) → Prop) (i : Nat) (ws : WA) : WS := fun ρ S => match ρ[i]? with
  | some (.ow (.lst _)) => ws ρ fun rs ρ' => match ρ'[i]? with
    | some (.ow (.lst ds)) => (∀ r ∈ rs, r.ok) ∧ o ds (rs.map R.d) fun ds' => S.nx (ρ'.set i (.ow (.lst ds')))
    | _ => False
  | _ => False
theorem FE.wr {G : Gh} {H : Hp} {a : Addr} {xs : List V} {o : HO} (h : H a = some (.lst xs)) (hf : ¬ G.F a) : FE G H G (upd H a o) :=
  ⟨fun _ z => z, fun _ z => z, fun b o' z e => (upd_ne (show b ≠ a from fun q => hf (q ▸ z))).trans e, fun b ys e => by rw [upd_ne (fun q => by rw [q, h] at e; cases e)]; exact e, fun b o' u' e _ => by rw [upd_ne (fun q => by rw [q, h] at e; cases e)]; exact e⟩
theorem Wd.wr {G : Gh} {H : Hp} {a : Addr} {xs : List V} {o : HO} (w : Wd G H) (hf : ¬ G.F a) (hb : ¬ G.B a) : Wd G (upd H a o) := by
  refine ⟨fun b h => ?_, fun b h => ?_⟩
  · obtain ⟨⟨i, j, k, r, ns, e, l, q⟩, n⟩ := w.b b h
    exact ⟨⟨i, j, k, r, ns, (upd_ne (show b ≠ a from fun z => hb (z ▸ h))).trans e, ⟨l.1, (upd_ne (show r ≠ a from fun z => hf (z ▸ l.1))).trans l.2⟩, q⟩, n⟩
  · obtain ⟨o', e⟩ := w.f b h
    exact ⟨o', (upd_ne (show b ≠ a from fun z => hf (z ▸ h))).trans e⟩
theorem Sta.write {G : Gh} {ρ : En} {i : Nat} {a : Addr} {d d' : D} {xs : List V} {o : HO} (s : Sta K G0 H0 ρ G H σ) (h : ρ[i]? = some (.ow d)) (e : σ[i]? = some (some (.ref a))) (hl : H a = some (.lst xs)) (n : Obw K G (upd H a o) a d') :
    Sta K G0 H0 (ρ.set i (.ow d')) G (upd H a o) σ ∧ FE G H G (upd H a o) := by
  obtain ⟨a', e', ⟨o1, o2, o3⟩, h0⟩ := s.ow i d h
  rw [e] at e'; cases e'
  have hi : i < ρ.length := (List.getElem?_eq_some_iff.mp h).1
  have f : FE G H G (upd H a o) := FE.wr hl o1
  refine ⟨⟨s.wd.wr (xs := xs) o1 o2, ⟨s.ex.f, s.ex.b, fun b o' z zb => ?_, s.ex.nf, s.ex.nb⟩, s.w0, fun j c q => ?_, fun j c q => ?_, fun j k c c' b q1 q2 q3 q4 => ?_, by rw [List.length_set]; exact s.ln, fun j c q => by
      by_cases hj : i = j
      · subst hj; rw [List.getElem?_set_self hi] at q; cases q
      · rw [List.getElem?_set_ne hj] at q; exact s.bo j c q⟩, f⟩
  · rw [upd_ne (fun q => by rw [q, h0] at z; cases z)]
    exact s.ex.k b o' z zb
  · by_cases hj : i = j
    · subst hj
      rw [List.getElem?_set_self hi] at q; cases q
    · rw [List.getElem?_set_ne hj] at q
      obtain ⟨v, e1, r⟩ := s.fr j c q
      exact ⟨v, e1, r.fe f⟩
  · by_cases hj : i = j
    · subst hj
      rw [List.getElem?_set_self hi] at q; cases q
      exact ⟨a, e, ⟨o1, o2, n⟩, h0⟩
    · rw [List.getElem?_set_ne hj] at q
      obtain ⟨b, e1, ⟨p1, p2, p3⟩, z1⟩ := s.ow j c q
      have hba : b ≠ a := fun z => hj (s.ds i j d c a h q e (z ▸ e1))
      exact ⟨b, e1, ⟨p1, p2, p3.fe f fun o' z => by rw [upd_ne hba]; exact z⟩, z1⟩
  · have old : ∀ {m : Nat} {c : D}, (ρ.set i (.ow d'))[m]? = some (.ow c) → ∃ c', ρ[m]? = some (.ow c') := fun {m c} q => by
      by_cases hm : i = m
      · subst hm; exact ⟨d, h⟩
      · rw [List.getElem?_set_ne hm] at q; exact ⟨c, q⟩
    obtain ⟨_, r1⟩ := old q1
    obtain ⟨_, r2⟩ := old q2
    exact s.ds j k _ _ b r1 r2 q3 q4
theorem LeE.keepO {ρ' ρ : En} {i : Nat} {d : D} (L : LeE ρ' ρ) (h : ρ'[i]? = some (.ow d)) : ρ[i]? = some (.ow d) := by
  rcases L.le i _ h with e | e | ⟨d', _, e⟩
  · cases e
  · exact e
  · cases e
theorem RepRs.rep {G : Gh} {Hs : Hp} {a : Addr} (ha : ∃ o, Hs a = some o) : ∀ {rs : List R} {vs : List V}, RepRs K G H Hs rs vs → (∀ r ∈ rs, r.ok) → ∀ (i : Nat) d v, (rs.map R.d)[i]? = some d → vs[i]? = some v → Rep K G H d v ∨ ∃ b, v = .ref b ∧ b ≠ a ∧ Obw K G H b d
  | _, _, .nil, _ => fun i d v e _ => by simp at e
  | _, _, .cons (r := r) x t _, ok => fun i d v e e' => by
    cases i with
    | zero =>
      simp at e e'; subst e e'
      cases r with
      | fr d => exact .inl x
      | ow d =>
        obtain ⟨b, eb, o, z⟩ := x
        refine .inr ⟨b, eb, fun q => ?_, o.2.2⟩
        obtain ⟨o', ho⟩ := ha
        rw [q, ho] at z; cases z
      | bo d => exact (ok _ List.mem_cons_self).elim
    | succ i => exact RepRs.rep ha t (fun r hr => ok r (List.mem_cons_of_mem _ hr)) i d v (by simpa using e) (by simpa using e')
theorem s_mut {i : Nat} {x name : Str} {T : String} {p apos : Pos} {o : List D → List D → (List D → Prop) → Prop} {rr : V → List V → Hp → VK → Prop} (pe : ∀ {to : TE} {t : TA}, PE X (.Name x p) to → PA X es t → PE X (.Call (.Attribute (.Name x p) name apos) es [] pos) (tBM X.K "list" rr to t))
    (ho : OpW X.K o rr) (ha : PAI X G0 H0 es ws) {pos' : Pos} (hN : X.N[i]? = some x := by rfl) (hv : Vis X.env.scope x := by first | exact Or.inl rfl | exact Or.inr (Or.inl rfl) | exact Or.inr (Or.inr rfl)) (hd : (x == ("__debug__" : Str)) = false := by decide)
    (hcd : (x == ("__classdict__" : Str)) = false := by decide) (hs : swapsWith (.Call (.Attribute (.Name x p) name apos) es [] pos) none pos'.line X.env = pure false := by rfl) :
    PSI X G0 H0 (.Expr (.Call (.Attribute (.Name x p) name apos) es [] pos) pos') (sMut o i ws) := by
  refine ps_imp (ps_expr (pe (pe_var hN hv hd hcd) ha) hs) fun D σ H h => ?_
  obtain ⟨ρ, G, S, s, h, k⟩ := h
  unfold sMut at h
  split at h
  · rename_i d0 e
    obtain ⟨a, e1, o1, z1⟩ := s.ow i _ e
    obtain ⟨xs0, hx0, _⟩ := o1.2.2
    refine ⟨.ref a, e1, ?_, ρ, G, _, s, h, fun rs ρ' vs G' H' q s' P L x => ?_⟩
    · exact .inl ⟨rfl, _, .inl (.inl hx0)⟩
    · split at q
      · rename_i ds e2
        obtain ⟨a2, e3, o2, z2⟩ := s'.ow i _ e2
        rw [e1] at e3; cases e3
        obtain ⟨xs, hx, rx⟩ := o2.2.2
        refine ho G' H' a xs ds _ vs _ _ s'.wd hx rx (by rw [List.length_map]; exact x.length) (x.rep ⟨_, hx0⟩ q.1) q.2 fun ds' ys v' φ ry => ?_
        have f : FE G' H' G' (upd H' a (.lst ys)) := FE.wr hx o2.1
        obtain ⟨s2, f2⟩ := s'.write (d' := .lst ds') (o := .lst ys) e2 e1 hx ⟨ys, upd_same, ry.fe f⟩
        exact k.nx _ G' _ _ φ s2 ((P.fe s.wd).trans f2)
      · exact q.elim
  · exact h.elim
end
end Tv
/-! Tv5: what is walked, targets, for, while, list comprehensions. -/
namespace Tv
open PySem PySem.Spec PyProof.Rows L2

abbrev WI := En → (List D → En → Prop) → Prop
/-- a walk that yields these -/
def ItR (K : PySem.W.Frag) (J : It) (G : Gh) (H : Hp) (ds : List D) : Prop :=
  ∀ (i : Nat) (G' : Gh) (H' : Hp), Wd G' H' → FE G H G' H' → (ds.length ≤ i → J.stop i H') ∧
    ∀ d, ds[i]? = some d → J.go i H' ∧ ∀ x H'', J.yld i H' x H'' → ∃ G'', Wd G'' H'' ∧ Grow G' H' G'' H'' ∧ Rep K G'' H'' d x
def TIX (K : PySem.W.Frag) (G0 : Gh) (H0 : Hp) (W : WI) : TI := fun σ H R' => ∃ ρ G Φ, Sta K G0 H0 ρ G H σ ∧ W ρ Φ ∧ ∀ ds ρ' J G' H', Φ ds ρ' → Sta K G0 H0 ρ' G' H' σ → Stp ρ σ G H G' H' → LeE ρ' ρ → ItR K J G' H' ds → R' J H'
def PII (X : Cx) (G0 : Gh) (H0 : Hp) (tg e : Expr) (W : WI) : Prop := PI X tg e (TIX X.K G0 H0 W)
theorem pi_imp {X : Cx} {tg e : Expr} {t t' : TI} (h : PI X tg e t) (i : ∀ σ H R', t' σ H R' → t σ H R') : PI X tg e t' := ⟨fun pins s σ H R' I q => h.run pins s σ H R' I (i σ H R' q)⟩

section
variable {X : Cx} {G0 : Gh} {H0 : Hp} {e tg : Expr} {es : List Expr} {wa : WE} {ws : WA} {pos : Pos} {K : PySem.W.Frag} {σ : L2.St} {H : Hp}
/-- over a list or a tuple -/
def iSeq (K : PySem.W.Frag) (tl : TE) : TI := fun σ H R' => tl σ H fun x H1 => ∃ a, x = .ref a ∧ ((∃ xs, SqL K H1 a xs ∧ R' (Itl K a) H1) ∨ ∃ xs, SqT K H1 a xs ∧ R' (Itt K a) H1)
theorem pi_seq {l : Expr} {tl : TE} (hl : PE X l tl) : PI X tg l (iSeq X.K tl) := by
  refine ⟨fun pins s σ H R' I h => ?_⟩
  refine thn (hl.run pins s σ H _ I h) fun v s1 hq => ?_
  obtain ⟨x, H1, I1, r1, a, e, q⟩ := hq
  subst e
  cases r1
  have fp : ∀ (b : Addr), b ∈ [s1.heap.objs.size] → FpOk X pins H1 b := fun b hb => by
    have e : b = s1.heap.objs.size := by simpa using hb
    subst e
    exact I1.fpOk (Nat.le_refl _) (I1.hok.fresh (Nat.le_refl _))
  rcases q with ⟨xs, hx, q⟩ | ⟨xs, hx, q⟩
  · obtain ⟨its, rv, p, hz⟩ := I1.list hx
    exact wpAny_pyIter_list p.isList ⟨s1.heap.objs.size, [s1.heap.objs.size], _, _, H1, rfl, I1.kept (t' := s1.toks) fun b o e => Heap.get?_push_of_some _ e, turn_list a _, ⟨_, Heap.get?_push_size _ rfl, rfl, rfl⟩, fp, q⟩
  · obtain ⟨its, rv, p, hz⟩ := I1.tuple hx
    exact wpAny_pyIter_tuple (show s1.heap.IsTuple a its.toArray from p) ⟨s1.heap.objs.size, [s1.heap.objs.size], _, _, H1, rfl, I1.kept (t' := s1.toks) fun b o e => Heap.get?_push_of_some _ e, turn_tuple a _, ⟨_, Heap.get?_push_size _ rfl, rfl, rfl⟩, fp, q⟩
def wSeqI (wa : WE) : WI := fun ρ Φ => wa ρ fun r ρ' => match r with
  | .fr (.lst ds) => Φ ds ρ'
  | .fr (.tup ds) => Φ ds ρ'
  | _ => False
theorem itr_list {G : Gh} {a : Addr} {xs : List V} {ds : List D} (l : LsF G H a xs) (r : RepL K G H ds xs) : ItR K (Itl K a) G H ds := fun i G' H' w f => by
  have l' := l.fe f
  have r' := r.fe f
  refine ⟨fun h => ⟨xs, l'.sq, by rw [← r.length]; exact h⟩, fun d e => ?_⟩
  obtain ⟨v, e1, rv⟩ := r'.get e
  exact ⟨⟨xs, v, l'.sq, e1⟩, fun x H'' y => ⟨G', by rw [y.1]; exact w, by rw [y.1]; exact Grow.refl _ _, by
    have e2 := y.2 xs l'.sq
    rw [e1] at e2
    cases e2
    rw [y.1]; exact rv⟩⟩
theorem itr_tup {G : Gh} {a : Addr} {xs : List V} {ds : List D} (l : SqT K H a xs) (r : RepL K G H ds xs) : ItR K (Itt K a) G H ds := fun i G' H' w f => by
  have l' := SqT.fe f l
  have r' := r.fe f
  refine ⟨fun h => ⟨xs, l', by rw [← r.length]; exact h⟩, fun d e => ?_⟩
  obtain ⟨v, e1, rv⟩ := r'.get e
  exact ⟨⟨xs, v, l', e1⟩, fun x H'' y => ⟨G', by rw [y.1]; exact w, by rw [y.1]; exact Grow.refl _ _, by
    have e2 := y.2 xs l'
    rw [e1] at e2
    cases e2
    rw [y.1]; exact rv⟩⟩
theorem p_seq (h : PEI X G0 H0 e wa) : PII X G0 H0 tg e (wSeqI wa) := by
  refine pi_imp (pi_seq h) fun σ H R' h => ?_
  obtain ⟨ρ, G, Φ, S, h, c⟩ := h
  refine ⟨ρ, G, _, S, h, fun r ρ' v G' H' q S' P L x => ?_⟩
  split at q
  · cases x with
    | lst l r => exact ⟨_, rfl, .inl ⟨_, l.sq, c _ ρ' _ G' H' q S' P L (itr_list l r)⟩⟩
  · cases x with
    | tup l r => exact ⟨_, rfl, .inr ⟨_, l, c _ ρ' _ G' H' q S' P L (itr_tup l r)⟩⟩
  · exact q.elim
/-- range(n), range(a, b) -/
def rngD (lo : Int) (n : Nat) : List D := (List.range n).map fun i => .int (lo + (i : Nat))
def wRng1 (ws : WA) : WI := fun ρ Φ => ws ρ fun rs ρ' => match rs.map R.d with
  | [.int j] => (-(2 ^ 62) ≤ j ∧ j < 2 ^ 62) ∧ Φ (rngD 0 j.toNat) ρ'
  | _ => False
def wRng2 (ws : WA) : WI := fun ρ Φ => ws ρ fun rs ρ' => match rs.map R.d with
  | [.int i, .int j] => (-(2 ^ 62) ≤ i ∧ i < 2 ^ 62 ∧ -(2 ^ 62) ≤ j ∧ j < 2 ^ 62) ∧ Φ (rngD i (j - i).toNat) ρ'
  | _ => False
theorem RepRs.one {G : Gh} {Hs : Hp} {rs : List R} {vs : List V} {d : D} (x : RepRs K G H Hs rs vs) (e : rs.map R.d = [d]) : ∃ v, vs = [v] ∧ Sh K G H d v := by
  have hs := x.sh
  have hl := x.length
  rw [← List.length_map (f := R.d), e] at hl
  rw [e] at hs
  match vs, hl with
  | [v], _ => exact ⟨v, rfl, hs 0 _ v rfl rfl⟩
theorem RepRs.two {G : Gh} {Hs : Hp} {rs : List R} {vs : List V} {d d' : D} (x : RepRs K G H Hs rs vs) (e : rs.map R.d = [d, d']) : ∃ v v', vs = [v, v'] ∧ Sh K G H d v ∧ Sh K G H d' v' := by
  have hs := x.sh
  have hl := x.length
  rw [← List.length_map (f := R.d), e] at hl
  rw [e] at hs
  match vs, hl with
  | [v, v'], _ => exact ⟨v, v', rfl, hs 0 _ v rfl rfl, hs 1 _ v' rfl rfl⟩
theorem itr_rng {G : Gh} {lo : Int} {n : Nat} : ItR K (Itr lo n) G H (rngD lo n) := fun i G' H' w f => by
  refine ⟨fun h => ?_, fun d e => ?_⟩
  · unfold rngD at h
    rw [List.length_map, List.length_range] at h
    exact h
  · unfold rngD at e
    rw [List.getElem?_map] at e
    have hi : i < n := by
      by_cases q : i < n
      · exact q
      · rw [List.getElem?_eq_none (by rw [List.length_range]; omega)] at e
        cases e
    rw [List.getElem?_range hi] at e
    cases e
    exact ⟨hi, fun x H'' y => ⟨G', by rw [y.1]; exact w, by rw [y.1]; exact Grow.refl _ _, by rw [y.2]; exact .int _⟩⟩
theorem p_rng1 {a : Expr} {p : Pos} (hg : Gl X "range") (hm : X.mg "range" = none) (ha : PAI X G0 H0 [a] ws) (hs : starEach [a] X.env = [(false, eval a X.env)] := by rfl) : PII X G0 H0 tg (.Call (.Name "range" p) [a] [] pos) (wRng1 ws) := by
  refine pi_imp (pi_range1 hg hm ha hs) fun σ H R' h => ?_
  obtain ⟨ρ, G, Φ, S, h, c⟩ := h
  refine ⟨ρ, G, _, S, h, fun rs ρ' vs G' H' q S' P L x => ?_⟩
  split at q
  · rename_i j e
    obtain ⟨v, rfl, z⟩ := x.one e
    cases z.i
    exact ⟨j, rfl, q.1.1, q.1.2, c _ ρ' _ G' H' q.2 S' P L itr_rng⟩
  · exact q.elim
theorem p_rng2 {a b : Expr} {p : Pos} (hg : Gl X "range") (hm : X.mg "range" = none) (ha : PAI X G0 H0 [a, b] ws) (hs : starEach [a, b] X.env = [(false, eval a X.env), (false, eval b X.env)] := by rfl) (hs2 : starEach [b] X.env = [(false, eval b X.env)] := by rfl) :
    PII X G0 H0 tg (.Call (.Name "range" p) [a, b] [] pos) (wRng2 ws) := by
  refine pi_imp (pi_range2 hg hm ha hs hs2) fun σ H R' h => ?_
  obtain ⟨ρ, G, Φ, S, h, c⟩ := h
  refine ⟨ρ, G, _, S, h, fun rs ρ' vs G' H' q S' P L x => ?_⟩
  split at q
  · rename_i i j e
    obtain ⟨v, v', rfl, z, z'⟩ := x.two e
    cases z.i
    cases z'.i
    exact ⟨i, j, rfl, q.1, c _ ρ' _ G' H' q.2 S' P L itr_rng⟩
  · exact q.elim
end

/-! ### targets -/
abbrev WTg := D → En → (En → Prop) → Prop
/-- some slots of an environment forgotten -/
def wipeE (vs : List Nat) : Nat → En → En
  | _, [] => []
  | k, c :: ρ => (if vs.contains k then .no else c) :: wipeE vs (k + 1) ρ
/-- what a store into the slots vs alone does -/
structure TgR (vs : List Nat) (ρ' : En) (σ' : L2.St) (ρ : En) (σ : L2.St) : Prop where
  w : wipe σ' vs = wipe σ vs
  e : wipeE vs 0 ρ' = wipeE vs 0 ρ
  o : ∀ a, OwnA ρ' σ' a → OwnA ρ σ a
theorem TgR.refl {vs : List Nat} {ρ : En} {σ : L2.St} : TgR vs ρ σ ρ σ := ⟨rfl, rfl, fun _ h => h⟩
theorem TgR.trans {vs : List Nat} {ρ ρ1 ρ2 : En} {σ σ1 σ2 : L2.St} (x : TgR vs ρ2 σ2 ρ1 σ1) (y : TgR vs ρ1 σ1 ρ σ) : TgR vs ρ2 σ2 ρ σ := ⟨x.w.trans y.w, x.e.trans y.e, fun a h => y.o a (x.o a h)⟩
theorem wipeE_get {vs : List Nat} : ∀ (ρ : En) (k i : Nat), (wipeE vs k ρ)[i]? = ρ[i]?.map fun c => if vs.contains (k + i) then .no else c
  | [], _, _ => by simp [wipeE]
  | c :: ρ, k, 0 => by simp [wipeE]
  | c :: ρ, k, i + 1 => by
    unfold wipeE
    rw [List.getElem?_cons_succ, List.getElem?_cons_succ, wipeE_get ρ (k + 1) i, Nat.add_right_comm, Nat.add_assoc]
theorem wipeE_len {vs : List Nat} : ∀ (ρ : En) (k : Nat), (wipeE vs k ρ).length = ρ.length
  | [], _ => rfl
  | _ :: ρ, k => by simp [wipeE, wipeE_len ρ (k + 1)]
theorem wipeE_set {vs : List Nat} {ρ : En} {i : Nat} {c : Cell} (h : i ∈ vs) : wipeE vs 0 (ρ.set i c) = wipeE vs 0 ρ := by
  apply List.ext_getElem?
  intro j
  rw [wipeE_get, wipeE_get]
  by_cases hj : i = j
  · subst hj
    by_cases hl : i < ρ.length
    · rw [List.getElem?_set_self hl, List.getElem?_eq_getElem hl]
      simp [h]
    · rw [List.getElem?_eq_none (by rw [List.length_set]; omega), List.getElem?_eq_none (by omega)]
  · rw [List.getElem?_set_ne hj]
def TGX (K : PySem.W.Frag) (G0 : Gh) (H0 : Hp) (vs : List Nat) (W : WTg) : TG := fun v σ H Q => ∃ ρ G d Φ, Sta K G0 H0 ρ G H σ ∧ Rep K G H d v ∧ W d ρ Φ ∧ ∀ ρ' σ', Φ ρ' → Sta K G0 H0 ρ' G H σ' → TgR vs ρ' σ' ρ σ → Q σ' H
def PGI (X : Cx) (G0 : Gh) (H0 : Hp) (vs : List Nat) (tg : Expr) (W : WTg) : Prop := PG X tg (TGX X.K G0 H0 vs W)
theorem pg_imp {X : Cx} {tg : Expr} {t t' : TG} (h : PG X tg t) (i : ∀ v σ H Q, t' v σ H Q → t v σ H Q) : PG X tg t' := ⟨fun pins s σ H v u Q I r q => h.run pins s σ H v u Q I r (i v σ H Q q)⟩
theorem wipe_get {σ : L2.St} {i : Nat} : ∀ {vs : List Nat}, i ∈ vs → i < σ.length → (wipe σ vs)[i]? = some none
  | [], h, _ => by simp at h
  | v :: vs, h, hi => by
    unfold wipe
    by_cases e : v = i
    · subst e
      exact List.getElem?_set_self (by rw [wipe_length]; exact hi)
    · rw [List.getElem?_set_ne e]
      exact wipe_get ((List.mem_cons.mp h).resolve_left fun z => e z.symm) hi
theorem wipe_set {σ : L2.St} {i : Nat} {o : Option V} {vs : List Nat} (h : i ∈ vs) : wipe (σ.set i o) vs = wipe σ vs := by
  apply List.ext_getElem?
  intro j
  by_cases hj : j ∈ vs
  · by_cases hl : j < σ.length
    · rw [wipe_get hj (by rw [List.length_set]; exact hl), wipe_get hj hl]
    · rw [List.getElem?_eq_none (by rw [wipe_length, List.length_set]; omega), List.getElem?_eq_none (by rw [wipe_length]; omega)]
  · rw [wipe_out hj, wipe_out hj, List.getElem?_set_ne (show i ≠ j from fun e => hj (e ▸ h))]
section
variable {X : Cx} {G0 : Gh} {H0 : Hp} {e tg : Expr} {es : List Expr} {wa : WE} {ws : WA} {wi : WI} {pos : Pos} {K : PySem.W.Frag} {σ : L2.St} {H : Hp} {vs : List Nat}
def gN (i : Nat) : WTg := fun d ρ Φ => i < ρ.length ∧ Φ (ρ.set i (.fr d))
theorem g_name {i : Nat} {x : Str} (hN : X.N.Nodup) (hi : X.N[i]? = some x) (hx : Loc X.env.scope x) (hm : i ∈ vs) (hf : X.fn x = true ∨ X.env.scope.names.lookup x = some .local := by first | exact .inl rfl | exact .inr rfl | assumption) : PGI X G0 H0 vs (.Name x pos) (gN i) := by
  refine pg_imp (pg_name hN hi hx hf) fun v σ H Q h => ?_
  obtain ⟨ρ, G, d, Φ, S, r, h, c⟩ := h
  refine c _ _ h.2 (Sta.put (r := .fr d) S S (LeE.refl _) h.1 r trivial) ⟨wipe_set hm, wipeE_set hm, fun a ha => ?_⟩
  obtain ⟨j, d', e1, e2⟩ := ha
  by_cases hj : i = j
  · subst hj
    rw [List.getElem?_set_self h.1] at e1
    cases e1
  · rw [List.getElem?_set_ne hj] at e1 e2
    exact ⟨j, d', e1, e2⟩
abbrev WTgs := List D → En → (En → Prop) → Prop
def TGsX (K : PySem.W.Frag) (G0 : Gh) (H0 : Hp) (vs : List Nat) (W : WTgs) : TGs := fun us σ H Q => ∃ ρ G ds Φ, Sta K G0 H0 ρ G H σ ∧ RepL K G H ds us ∧ W ds ρ Φ ∧ ∀ ρ' σ', Φ ρ' → Sta K G0 H0 ρ' G H σ' → TgR vs ρ' σ' ρ σ → Q σ' H
def PGsI (X : Cx) (G0 : Gh) (H0 : Hp) (vs : List Nat) (ts : List Expr) (W : WTgs) : Prop := PGs X ts (TGsX X.K G0 H0 vs W)
theorem pgs_imp {ts : List Expr} {t t' : TGs} (h : PGs X ts t) (i : ∀ v σ H Q, t' v σ H Q → t v σ H Q) : PGs X ts t' := ⟨fun pins s σ H v u Q I r q => h.run pins s σ H v u Q I r (i v σ H Q q)⟩
def gNl : WTgs := fun ds ρ Φ => ds = [] ∧ Φ ρ
def gCs (w : WTg) (ws : WTgs) : WTgs := fun ds ρ Φ => match ds with
  | d :: ds => w d ρ fun ρ' => ws ds ρ' Φ
  | [] => False
variable {W : WTg} {Ws : WTgs}
theorem g_nil : PGsI X G0 H0 vs [] gNl := by
  refine pgs_imp pgs_nil fun us σ H Q h => ?_
  obtain ⟨ρ, G, ds, Φ, S, r, ⟨rfl, h⟩, c⟩ := h
  cases r
  exact ⟨rfl, c ρ σ h S TgR.refl⟩
theorem g_cons (h1 : PGI X G0 H0 vs e W) (h2 : PGsI X G0 H0 vs es Ws) (hs : (assignEach (e :: es) X.env).map (·.2) = assign e X.env :: (assignEach es X.env).map (·.2) := by rfl) : PGsI X G0 H0 vs (e :: es) (gCs W Ws) := by
  refine pgs_imp (pgs_cons h1 h2 hs) fun us σ H Q h => ?_
  obtain ⟨ρ, G, ds, Φ, S, r, h, c⟩ := h
  cases r with
  | nil => exact h.elim
  | cons r rr => exact ⟨_, _, rfl, ρ, G, _, _, S, r, h, fun ρ' σ' q S' e1 => ⟨ρ', G, _, Φ, S', rr, q, fun ρ2 σ2 q2 S2 e2 => c ρ2 σ2 q2 S2 (e2.trans e1)⟩⟩
def gTp (n : Nat) (Ws : WTgs) : WTg := fun d ρ Φ => match d with
  | .tup ds => ds.length = n ∧ Ws ds ρ Φ
  | _ => False
theorem g_tup {k n : Nat} (hc : X.calm = true) (h : PGsI X G0 H0 vs es Ws) (hn : (assignEach es X.env).length = n := by rfl) (hst : (assignEach es X.env).findIdx? (·.1) = none := by rfl) : PGI X G0 H0 vs (.Tuple es k pos) (gTp n Ws) := by
  refine pg_imp (pg_tup hc h hn hst) fun v σ H Q h => ?_
  obtain ⟨ρ, G, d, Φ, S, r, h, c⟩ := h
  unfold gTp at h
  split at h
  · cases r with
    | tup l r => exact ⟨_, _, rfl, l, by rw [← r.length]; exact h.1, ρ, G, _, Φ, S, r, h.2, c⟩
  · exact h.elim
/-- a, b = e -/
def sUnp (W : WTg) (wa : WE) : WS := fun ρ S => wa ρ fun r ρ' => match r with
  | .fr d => W d ρ' S.nx
  | _ => False
theorem s_unp (he : PEI X G0 H0 e wa) (hg : PGI X G0 H0 vs tg W) (hs : swapsWithSole [tg] e pos.line X.env = pure false := by rfl) (hw : swappedStores [tg] e X.env = pure none := by rfl)
    (h1 : (assignEach [tg] X.env).map (·.2) = [assign tg X.env] := by rfl) : PSI X G0 H0 (.Assign [tg] e pos) (sUnp W wa) := by
  refine ps_imp (ps_asg he hg hs hw h1) fun D σ H h => ?_
  obtain ⟨ρ, G, S, s, h, k⟩ := h
  refine ⟨ρ, G, _, s, h, fun r ρ' v G' H' q s' P L x => ?_⟩
  cases r with
  | fr d => exact ⟨ρ', G', d, _, s', x, q, fun ρ2 σ2 q2 s2 _ => k.nx ρ2 G' H' σ2 q2 s2 (P.fe s.wd)⟩
  | ow d => exact q.elim
  | bo d => exact q.elim

/-! ### for -/
def forD (W : WTg) (body : WS) (S : SK) : List D → En → Prop
  | [], ρ => S.nx ρ
  | d :: ds, ρ => W d ρ fun ρ' => body ρ' { nx := forD W body S ds, rt := S.rt, bk := S.nx, ct := forD W body S ds }
def sFor (wi : WI) (W : WTg) (body : WS) : WS := fun ρ S => wi ρ fun ds ρ' => forD W body S ds ρ'
theorem s_for {iter : Expr} {body : List Stmt} {wb : WS} (hp : PassesOwn (model X.prog X.w) X.A X.env X.xe) (hc : X.calm = true) (hi : PII X G0 H0 tg iter wi) (hg : PGI X G0 H0 vs tg W) (hb : PBI X G0 H0 body wb)
    (hs : ∀ x, foldedSetIterable iter X.env x = pure x := by intro _; rfl) : PSI X G0 H0 (.For tg iter body [] pos) (sFor wi W wb) := by
  refine ps_imp (ps_for hp hc hi hg hb hs) fun D σ H h => ?_
  obtain ⟨ρ, G, S, s, h, k⟩ := h
  refine ⟨ρ, G, _, s, h, fun ds ρ1 J G1 H1 q s1 P L it => ?_⟩
  refine ⟨fun i m σ' H' => m = ds.length - i ∧ i ≤ ds.length ∧ ∃ ρ' G', Sta X.K G0 H0 ρ' G' H' σ' ∧ FE G1 H1 G' H' ∧ forD W wb S (ds.drop i) ρ', ⟨ds.length, by omega, Nat.zero_le _, ρ1, G1, s1, FE.refl _ _, q⟩, ?_⟩
  rintro i m σ' H' ⟨rfl, hi, ρ', G', s', f, q'⟩
  obtain ⟨it1, it2⟩ := it i G' H' s'.wd f
  have kf : KS X.K G0 H0 G' H' S D := k.fe ((P.fe s.wd).trans f)
  by_cases hlt : i < ds.length
  · obtain ⟨d, ed⟩ : ∃ d, ds[i]? = some d := ⟨ds[i], by simp [hlt]⟩
    obtain ⟨go, yl⟩ := it2 d ed
    refine .inr ⟨go, fun σ2 H2 => i + 1 ≤ ds.length ∧ ∃ ρ2 G2, Sta X.K G0 H0 ρ2 G2 H2 σ2 ∧ FE G1 H1 G2 H2 ∧ forD W wb S (ds.drop (i + 1)) ρ2, fun σ2 H2 z => ⟨ds.length - (i + 1), by omega, rfl, z⟩, fun x H2 y => ?_⟩
    obtain ⟨G2, w2, g2, r2⟩ := yl x H2 y
    have e2 : ds.drop i = d :: ds.drop (i + 1) := by
      rw [List.drop_eq_getElem_cons hlt]
      have : ds[i] = d := by simpa [hlt] using ed
      rw [this]
    rw [e2] at q'
    have f2 : FE G1 H1 G2 H2 := f.trans (g2.fe s'.wd)
    refine ⟨ρ', G2, d, _, s'.grow w2 g2, r2, q', fun ρ3 σ3 q3 s3 _ => ⟨ρ3, G2, _, s3, q3, ?_⟩⟩
    have k2 := kf.fe (g2.fe s'.wd)
    exact ⟨fun ρ4 G4 H4 σ4 q4 s4 f4 => ⟨hlt, ρ4, G4, s4, f2.trans f4, q4⟩, k2.rt, fun ρ4 G4 H4 σ4 q4 s4 f4 => k2.nx ρ4 G4 H4 σ4 q4 s4 f4, fun ρ4 G4 H4 σ4 q4 s4 f4 => ⟨hlt, ρ4, G4, s4, f2.trans f4, q4⟩⟩
  · have e : i = ds.length := by omega
    subst e
    rw [List.drop_length] at q'
    exact .inl ⟨it1 (Nat.le_refl _), kf.nx ρ' G' H' σ' q' s' (FE.refl _ _)⟩

/-! ### while -/
def whD (t : WT) (body : WS) (S : SK) : Nat → En → Prop
  | 0, _ => False
  | n + 1, ρ => t ρ fun b ρ' => if b = true then body ρ' { nx := whD t body S n, rt := S.rt, bk := S.nx, ct := whD t body S n } else S.nx ρ'
def sWhile (t : WT) (body : WS) : WS := fun ρ S => ∃ n, whD t body S n ρ
theorem s_while {c : Expr} {body : List Stmt} {tc : WT} {wb : WS} (hp : PassesOwn (model X.prog X.w) X.A X.env X.xe) (hc : PTI X G0 H0 c tc) (hb : PBI X G0 H0 body wb) : PSI X G0 H0 (.While c body [] pos) (sWhile tc wb) := by
  refine ps_imp (ps_while hp hc hb) fun D σ H h => ?_
  obtain ⟨ρ, G, S, s, ⟨n, h⟩, k⟩ := h
  refine ⟨fun m σ' H' => ∃ ρ' G', Sta X.K G0 H0 ρ' G' H' σ' ∧ FE G H G' H' ∧ whD tc wb S m ρ', ⟨n, ρ, G, s, FE.refl _ _, h⟩, ?_⟩
  rintro m σ' H' ⟨ρ', G', s', f, q⟩
  cases m with
  | zero => exact q.elim
  | succ m =>
    refine ⟨ρ', G', _, s', q, fun b ρ2 G2 H2 q2 s2 P2 L2 => ?_⟩
    have k2 := k.fe (f.trans (P2.fe s'.wd))
    have f2 := f.trans (P2.fe s'.wd)
    cases b with
    | true =>
      refine iteT ⟨fun σ3 H3 => ∃ ρ3 G3, Sta X.K G0 H0 ρ3 G3 H3 σ3 ∧ FE G H G3 H3 ∧ whD tc wb S m ρ3, fun σ3 H3 z => ⟨m, Nat.lt_succ_self _, z⟩, ρ2, G2, _, s2, by simpa using q2, ?_⟩
      exact ⟨fun ρ4 G4 H4 σ4 q4 s4 f4 => ⟨ρ4, G4, s4, f2.trans f4, q4⟩, k2.rt, fun ρ4 G4 H4 σ4 q4 s4 f4 => k2.nx ρ4 G4 H4 σ4 q4 s4 f4, fun ρ4 G4 H4 σ4 q4 s4 f4 => ⟨ρ4, G4, s4, f2.trans f4, q4⟩⟩
    | false => exact iteF (k2.nx ρ2 G2 H2 σ' (by simpa using q2) s2 (FE.refl _ _))
end
end Tv
/-! Tv6: list comprehensions. -/
namespace Tv
open PySem PySem.Spec PyProof.Rows L2

def keepC : Cell → Cell
  | .fr d => .fr d
  | _ => .no
/-- behind a block: its own slots as they were, the others as it left them -/
def mixE (vs : List Nat) : Nat → En → En → En
  | k, c :: ρ, d :: ρe => (if vs.contains k then keepC c else d) :: mixE vs (k + 1) ρ ρe
  | _, _, _ => []
theorem mixE_get {vs : List Nat} : ∀ (ρ ρe : En) (k i : Nat), (mixE vs k ρ ρe)[i]? = (ρ[i]?.bind fun c => ρe[i]?.map fun d => if vs.contains (k + i) then keepC c else d)
  | [], _, _, _ => by simp [mixE]
  | _ :: _, [], _, i => by cases i <;> simp [mixE]
  | c :: ρ, d :: ρe, k, 0 => by simp [mixE]
  | c :: ρ, d :: ρe, k, i + 1 => by
    unfold mixE
    rw [List.getElem?_cons_succ, List.getElem?_cons_succ, List.getElem?_cons_succ, mixE_get ρ ρe (k + 1) i, Nat.add_right_comm, Nat.add_assoc]
theorem mixE_len {vs : List Nat} : ∀ (ρ ρe : En) (k : Nat), ρe.length = ρ.length → (mixE vs k ρ ρe).length = ρ.length
  | [], [], _, _ => rfl
  | [], _ :: _, _, h => by simp at h
  | _ :: _, [], _, h => by simp at h
  | _ :: ρ, _ :: ρe, k, h => by
    unfold mixE
    rw [List.length_cons, List.length_cons, mixE_len ρ ρe (k + 1) (by simpa using h)]
section
variable {K : PySem.W.Frag} {G G0 G' G1 G2 : Gh} {H H0 H' H1 H2 : Hp} {ρ ρ' ρ1 ρ2 ρe : En} {σ σ1 : L2.St} {vs : List Nat} {a p : Addr}
theorem wipeE_in {i : Nat} {c : Cell} (h : (wipeE vs 0 ρ)[i]? = some c) : (i ∉ vs ∧ ρ[i]? = some c) ∨ c = .no := by
  rw [wipeE_get] at h
  cases e : ρ[i]? with
  | none => rw [e] at h; cases h
  | some d =>
    rw [e] at h
    simp only [Option.map_some, Nat.zero_add, Option.some.injEq] at h
    by_cases hi : i ∈ vs
    · rw [if_pos (List.contains_iff_mem.mpr hi)] at h
      exact .inr h.symm
    · rw [if_neg (fun z => hi (List.contains_iff_mem.mp z))] at h
      exact .inl ⟨hi, by rw [h]⟩
theorem wipeE_idem : wipeE vs 0 (wipeE vs 0 ρ) = wipeE vs 0 ρ := by
  apply List.ext_getElem?
  intro j
  rw [wipeE_get, wipeE_get]
  cases ρ[j]? with
  | none => rfl
  | some c =>
    simp only [Option.map_some]
    split <;> rfl
theorem wipe_idem : wipe (wipe σ vs) vs = wipe σ vs := by
  apply List.ext_getElem?
  intro j
  by_cases hj : j ∈ vs
  · by_cases hl : j < σ.length
    · rw [wipe_get hj (by rw [wipe_length]; exact hl), wipe_get hj hl]
    · rw [List.getElem?_eq_none (by rw [wipe_length, wipe_length]; omega), List.getElem?_eq_none (by rw [wipe_length]; omega)]
  · rw [wipe_out hj]
theorem LeE.wipe (L : LeE ρ' ρ) : LeE (wipeE vs 0 ρ') (wipeE vs 0 ρ) := by
  refine ⟨by rw [wipeE_len, wipeE_len]; exact L.ln, fun i c e => ?_⟩
  rcases wipeE_in e with ⟨hi, e1⟩ | e1
  · have sub : ∀ {c' : Cell}, ρ[i]? = some c' → (wipeE vs 0 ρ)[i]? = some c' := fun {c'} q => by
      rw [wipeE_get, q]
      simp only [Option.map_some, Nat.zero_add]
      rw [if_neg (fun z => hi (List.contains_iff_mem.mp z))]
    rcases L.le i c e1 with e2 | e2 | ⟨d, e2, e3⟩
    · exact .inl e2
    · exact .inr (.inl (sub e2))
    · exact .inr (.inr ⟨d, sub e2, e3⟩)
  · exact .inl e1
theorem OwnA.wiped (h : OwnA (wipeE vs 0 ρ) (wipe σ vs) a) : OwnA ρ σ a := by
  obtain ⟨i, d, e1, e2⟩ := h
  rcases wipeE_in e1 with ⟨hi, e⟩ | e
  · rw [wipe_out hi] at e2
    exact ⟨i, d, e, e2⟩
  · cases e
theorem Sta.wiped (S : Sta K G0 H0 ρ G H σ) : Sta K G0 H0 (wipeE vs 0 ρ) G H (wipe σ vs) := by
  refine ⟨S.wd, S.ex, S.w0, fun i d e => ?_, fun i d e => ?_, fun i j d e a q1 q2 q3 q4 => ?_, by rw [wipeE_len, wipe_length]; exact S.ln, fun i d e => by
    rcases wipeE_in e with ⟨hi, e⟩ | e
    · rw [wipe_out hi]; exact S.bo i d e
    · cases e⟩
  · rcases wipeE_in e with ⟨hi, e⟩ | e
    · rw [wipe_out hi]; exact S.fr i d e
    · cases e
  · rcases wipeE_in e with ⟨hi, e⟩ | e
    · rw [wipe_out hi]; exact S.ow i d e
    · cases e
  · rcases wipeE_in q1 with ⟨hi, e1⟩ | e1
    · rcases wipeE_in q2 with ⟨hj, e2⟩ | e2
      · rw [wipe_out hi] at q3
        rw [wipe_out hj] at q4
        exact S.ds i j d e a e1 e2 q3 q4
      · cases e2
    · cases e1
theorem Sta.mix (S : Sta K G0 H0 ρ G H σ) (T : Sta K G0 H0 ρe G1 H1 (wipe σ vs)) (f : FE G H G1 H1) : Sta K G0 H0 (mixE vs 0 ρ ρe) G1 H1 σ := by
  have hl : ρe.length = ρ.length := by rw [T.ln, wipe_length, S.ln]
  have key : ∀ {i : Nat} {c : Cell}, (mixE vs 0 ρ ρe)[i]? = some c → (i ∈ vs ∧ ∃ c', ρ[i]? = some c' ∧ c = keepC c') ∨ (i ∉ vs ∧ ρe[i]? = some c) := fun {i c} e => by
    rw [mixE_get] at e
    cases q : ρ[i]? with
    | none => rw [q] at e; cases e
    | some c' =>
      cases q2 : ρe[i]? with
      | none => rw [q, q2] at e; cases e
      | some d =>
        rw [q, q2] at e
        simp only [Option.bind_some, Option.map_some, Nat.zero_add, Option.some.injEq] at e
        by_cases hi : i ∈ vs
        · rw [if_pos (List.contains_iff_mem.mpr hi)] at e
          exact .inl ⟨hi, c', rfl, e.symm⟩
        · rw [if_neg (fun z => hi (List.contains_iff_mem.mp z))] at e
          exact .inr ⟨hi, by rw [e]⟩
  refine ⟨T.wd, T.ex, T.w0, fun i d e => ?_, fun i d e => ?_, fun i j d e a q1 q2 q3 q4 => ?_, by rw [mixE_len _ _ _ hl]; exact S.ln, fun i d e => by
    rcases key e with ⟨hi, c', e1, e2⟩ | ⟨hi, e1⟩
    · cases c' <;> cases e2
    · obtain ⟨v, e3, r⟩ := T.bo i d e1
      rw [wipe_out hi] at e3
      exact ⟨v, e3, r⟩⟩
  · rcases key e with ⟨hi, c', e1, e2⟩ | ⟨hi, e1⟩
    · cases c' <;> cases e2
      obtain ⟨v, e3, r⟩ := S.fr i _ e1
      exact ⟨v, e3, r.fe f⟩
    · obtain ⟨v, e3, r⟩ := T.fr i d e1
      rw [wipe_out hi] at e3
      exact ⟨v, e3, r⟩
  · rcases key e with ⟨hi, c', e1, e2⟩ | ⟨hi, e1⟩
    · cases c' <;> cases e2
    · obtain ⟨v, e3, r⟩ := T.ow i d e1
      rw [wipe_out hi] at e3
      exact ⟨v, e3, r⟩
  · rcases key q1 with ⟨hi, c', e1, e2⟩ | ⟨hi, e1⟩
    · cases c' <;> cases e2
    · rcases key q2 with ⟨hj, c', e2, e3⟩ | ⟨hj, e2⟩
      · cases c' <;> cases e3
      · refine T.ds i j d e a e1 e2 ?_ ?_
        · rw [wipe_out hi]; exact q3
        · rw [wipe_out hj]; exact q4
theorem LeE.mix (L : LeE ρe (wipeE vs 0 ρ)) : LeE (mixE vs 0 ρ ρe) ρ := by
  have hl : ρe.length = ρ.length := by rw [L.ln, wipeE_len]
  refine ⟨mixE_len _ _ _ hl, fun i c e => ?_⟩
  rw [mixE_get] at e
  cases q : ρ[i]? with
  | none => rw [q] at e; cases e
  | some c' =>
    cases q2 : ρe[i]? with
    | none => rw [q, q2] at e; cases e
    | some d =>
      rw [q, q2] at e
      simp only [Option.bind_some, Option.map_some, Nat.zero_add, Option.some.injEq] at e
      by_cases hi : i ∈ vs
      · rw [if_pos (List.contains_iff_mem.mpr hi)] at e
        cases c' with
        | fr d' => exact .inr (.inl (by rw [← e]; rfl))
        | ow d' => exact .inl e.symm
        | no => exact .inl e.symm
        | bo d' => exact .inl e.symm
      · rw [if_neg (fun z => hi (List.contains_iff_mem.mp z))] at e
        subst e
        have back : ∀ {c2 : Cell}, (wipeE vs 0 ρ)[i]? = some c2 → some c' = some c2 := fun {c2} z => by
          rw [wipeE_get, q] at z
          simp only [Option.map_some, Nat.zero_add] at z
          rwa [if_neg (fun z => hi (List.contains_iff_mem.mp z))] at z
        rcases L.le i d q2 with e2 | e2 | ⟨d', e2, e3⟩
        · exact .inl e2
        · exact .inr (.inl (back e2))
        · exact .inr (.inr ⟨d', back e2, e3⟩)
theorem Stp.tr {ρ1 : En} {σ1 : L2.St} (x : Stp ρ σ G H G1 H1) (w1 : Wd G1 H1) (y : Stp ρ1 σ1 G1 H1 G2 H2) (l : ∀ a, OwnA ρ1 σ1 a → OwnA ρ σ a) : Stp ρ σ G H G2 H2 := by
  refine ⟨fun a h => y.f a (x.f a h), fun a h => y.b a (x.b a h), fun a o e hb => y.k a o (x.k a o e hb) fun h1 => ?_, fun a h => ?_, fun a h => ?_⟩
  · rcases x.nb a h1 with h1 | h1
    · exact hb h1
    · rw [h1] at e; cases e
  · rcases y.nf a h with h | h | h
    · exact x.nf a h
    · exact .inr (.inl (x.nn w1 h))
    · exact .inr (.inr (l a h))
  · rcases y.nb a h with h | h
    · exact x.nb a h
    · exact .inr (x.nn w1 h)
/-- an object that no variable holds is written -/
theorem Sta.wrP {xs : List V} {o : HO} (S : Sta K G0 H0 ρ G H σ) (hl : H p = some (.lst xs)) (hf : ¬ G.F p) (hb : ¬ G.B p) (h0 : H0 p = none) (hn : ¬ OwnA ρ σ p) : Sta K G0 H0 ρ G (upd H p o) σ := by
  have f : FE G H G (upd H p o) := FE.wr hl hf
  refine ⟨S.wd.wr (xs := xs) hf hb, ⟨S.ex.f, S.ex.b, fun b o' z zb => ?_, S.ex.nf, S.ex.nb⟩, S.w0, fun j c q => ?_, fun j c q => ?_, S.ds, S.ln, S.bo⟩
  · rw [upd_ne (fun q => by rw [q, h0] at z; cases z)]
    exact S.ex.k b o' z zb
  · obtain ⟨v, e1, r⟩ := S.fr j c q
    exact ⟨v, e1, r.fe f⟩
  · obtain ⟨b, e1, ⟨p1, p2, p3⟩, z1⟩ := S.ow j c q
    have hbp : b ≠ p := fun z => hn ⟨j, c, q, z ▸ e1⟩
    exact ⟨b, e1, ⟨p1, p2, p3.fe f fun o' z => by rw [upd_ne hbp]; exact z⟩, z1⟩
end

/-! ### the comprehension -/
def lcD (W : WTg) (wt : WT) (we : WE) (vs : List Nat) (Φ : List D → En → Prop) : List D → List D → En → Prop
  | [], acc, ρ => Φ acc ρ
  | d :: ds, acc, ρ => W d ρ fun ρ1 => wt ρ1 fun b ρ2 => if b = true then we ρ2 fun r ρ3 => match r with
      | .fr y => acc.length < sizeLine ∧ lcD W wt we vs Φ ds (acc ++ [y]) (wipeE vs 0 ρ3)
      | _ => False
    else lcD W wt we vs Φ ds acc (wipeE vs 0 ρ2)
def wLc (wi : WI) (W : WTg) (wt : WT) (we : WE) (vs : List Nat) : WE := fun ρ Φ => wi ρ fun ds ρ1 => lcD W wt we vs (fun out ρe => Φ (.ow (.lst out)) (mixE vs 0 ρ1 ρe)) ds [] (wipeE vs 0 ρ1)
section
variable {X : Cx} {G0 : Gh} {H0 : Hp} {K : PySem.W.Frag} {σ : L2.St} {H : Hp} {wi : WI} {W : WTg} {wt : WT} {we : WE} {vs : List Nat}
/-- a list that is being made -/
structure Mk (K : PySem.W.Frag) (p : Addr) (acc : List D) (G : Gh) (H : Hp) (xs : List V) : Prop where
  at_ : H p = some (.lst xs)
  r : RepL K G H acc xs
  f : ¬ G.F p
  b : ¬ G.B p
theorem Mk.stp {p : Addr} {acc : List D} {xs : List V} {G G' : Gh} {H' : Hp} {ρ : En} (m : Mk K p acc G H xs) (w : Wd G H) (P : Stp ρ σ G H G' H') (hn : ¬ OwnA ρ σ p) : Mk K p acc G' H' xs := by
  refine ⟨P.k _ _ m.at_ m.b, m.r.fe (P.fe w), fun z => ?_, fun z => ?_⟩
  · rcases P.nf p z with z | z | z
    · exact m.f z
    · rw [m.at_] at z; cases z
    · exact hn z
  · rcases P.nb p z with z | z
    · exact m.b z
    · rw [m.at_] at z; cases z
theorem tlc_of {Q : VK} (h : TX K G0 H0 (wLc wi W wt we vs) σ H Q) : tLc (TIX K G0 H0 wi) (TGX K G0 H0 vs W) (TTX K G0 H0 wt) (TX K G0 H0 we) vs σ H Q := by
  obtain ⟨ρ, G, Φ, S, h, c⟩ := h
  refine ⟨ρ, G, _, S, h, fun ds ρ1 J G1 H1 q s1 P L it p hp => ?_⟩
  have hown : ¬ OwnA ρ1 σ p := fun z => by
    obtain ⟨o, e⟩ := s1.tracked z
    rw [hp] at e; cases e
  have g0 : Grow G1 H1 G1 (upd H1 p (.lst [])) := Grow.laid hp
  have s2 := s1.grow (s1.wd.laid (o := .lst []) hp) g0
  have m0 : Mk K p [] G1 (upd H1 p (.lst [])) [] := by
    refine ⟨upd_same, .nil, fun z => ?_, fun z => ?_⟩
    · obtain ⟨o, e⟩ := s1.wd.f p z
      rw [hp] at e; cases e
    · obtain ⟨ys, e⟩ := s1.wd.bagl z
      rw [hp] at e; cases e
  have h0 : H0 p = none := s1.none0 hp
  refine ⟨fun i m H' => m = ds.length - i ∧ i ≤ ds.length ∧ ∃ ρ' G' acc xs, Sta K G0 H0 ρ' G' H' (wipe σ vs) ∧ Stp (wipeE vs 0 ρ1) (wipe σ vs) G1 H1 G' H' ∧ LeE ρ' (wipeE vs 0 ρ1) ∧ Mk K p acc G' H' xs ∧
    lcD W wt we vs (fun out ρe => Φ (.ow (.lst out)) (mixE vs 0 ρ1 ρe)) (ds.drop i) acc ρ', ⟨ds.length, by omega, Nat.zero_le _, wipeE vs 0 ρ1, G1, [], [], s2.wiped, g0.stp, LeE.refl _, m0, q⟩, ?_⟩
  rintro i m H' ⟨rfl, hi, ρ', G', acc, xs, s', P', L', mk, q'⟩
  obtain ⟨it1, it2⟩ := it i G' H' s'.wd (P'.fe s1.wd)
  have own' : ∀ a, OwnA ρ' (wipe σ vs) a → OwnA (wipeE vs 0 ρ1) (wipe σ vs) a := fun a z => L'.own z
  by_cases hlt : i < ds.length
  · obtain ⟨d, ed⟩ : ∃ d, ds[i]? = some d := ⟨ds[i], by simp [hlt]⟩
    obtain ⟨go, yl⟩ := it2 d ed
    have e2 : ds.drop i = d :: ds.drop (i + 1) := by
      rw [List.drop_eq_getElem_cons hlt]
      have : ds[i] = d := by simpa [hlt] using ed
      rw [this]
    rw [e2] at q'
    refine .inr ⟨go, fun H2 => i + 1 ≤ ds.length ∧ ∃ ρ2 G2 acc2 xs2, Sta K G0 H0 ρ2 G2 H2 (wipe σ vs) ∧ Stp (wipeE vs 0 ρ1) (wipe σ vs) G1 H1 G2 H2 ∧ LeE ρ2 (wipeE vs 0 ρ1) ∧ Mk K p acc2 G2 H2 xs2 ∧
      lcD W wt we vs (fun out ρe => Φ (.ow (.lst out)) (mixE vs 0 ρ1 ρe)) (ds.drop (i + 1)) acc2 ρ2, fun H2 z => ⟨ds.length - (i + 1), by omega, rfl, z⟩, fun x H2 y => ?_⟩
    obtain ⟨G2, w2, g2, r2⟩ := yl x H2 y
    have P2 : Stp (wipeE vs 0 ρ1) (wipe σ vs) G1 H1 G2 H2 := P'.trans s'.wd g2.stp (LeE.refl _)
    have nop : ¬ OwnA ρ' (wipe σ vs) p := fun z => hown (own' p z).wiped
    have mk2 : Mk K p acc G2 H2 xs := mk.stp s'.wd (ρ := ρ') (σ := wipe σ vs) g2.stp nop
    refine ⟨ρ', G2, d, _, s'.grow w2 g2, r2, q', fun ρ3 σ3 q3 s3 tr => ⟨tr.w.trans wipe_idem, ρ3, G2, _, s3, q3, fun b ρ4 G4 H4 q4 s4 P4 L4 => ?_⟩⟩
    have own3 : ∀ a, OwnA ρ3 σ3 a → OwnA (wipeE vs 0 ρ1) (wipe σ vs) a := fun a z => own' a (tr.o a z)
    have nop3 : ¬ OwnA ρ3 σ3 p := fun z => hown (own3 p z).wiped
    have mk4 := mk2.stp s3.wd P4 nop3
    have P14 := P2.tr s3.wd P4 own3
    have le3 : LeE (wipeE vs 0 ρ3) (wipeE vs 0 ρ1) := by
      have z := L'.wipe (vs := vs)
      rw [wipeE_idem] at z
      rw [tr.e]; exact z
    have w3 : wipe σ3 vs = wipe σ vs := tr.w.trans wipe_idem
    cases b with
    | false =>
      refine iteF ⟨hlt, wipeE vs 0 ρ4, G4, acc, xs, ?_, P14, (L4.wipe).trans le3, mk4, by simpa using q4⟩
      have z := s4.wiped (vs := vs)
      rw [w3] at z
      exact z
    | true =>
      refine iteT ⟨ρ4, G4, _, s4, by simpa using q4, fun r ρ5 y5 G5 H5 q5 s5 P5 L5 x5 => ?_⟩
      have nop4 : ¬ OwnA ρ4 σ3 p := fun z => nop3 (L4.own z)
      have nop5 : ¬ OwnA ρ5 σ3 p := fun z => nop4 (L5.own z)
      have mk5 := mk4.stp s4.wd P5 nop4
      have P15 := P14.tr s4.wd P5 fun a z => own3 a (L4.own z)
      cases r with
      | fr yd =>
        have x5' : Rep K G5 H5 yd y5 := x5
        have hlen : xs.length < sizeLine := by rw [← mk5.r.length]; exact q5.1
        refine ⟨xs, mk5.at_, hlen, hlt, wipeE vs 0 ρ5, G5, acc ++ [yd], xs ++ [y5], ?_, ?_, (L5.wipe).trans ((L4.wipe).trans le3), ?_, q5.2⟩
        · have z := (s5.wrP (o := .lst (xs ++ [y5])) mk5.at_ mk5.f mk5.b h0 nop5).wiped (vs := vs)
          rw [w3] at z
          exact z
        · exact ⟨P15.f, P15.b, fun a o e hb => by rw [upd_ne (fun z => by rw [z, hp] at e; cases e)]; exact P15.k a o e hb, P15.nf, P15.nb⟩
        · have f : FE G5 H5 G5 (upd H5 p (.lst (xs ++ [y5]))) := FE.wr mk5.at_ mk5.f
          exact ⟨upd_same, (mk5.r.append (.cons x5' .nil)).fe f, mk5.f, mk5.b⟩
      | ow yd => exact q5.elim
      | bo yd => exact q5.elim
  · have e : i = ds.length := by omega
    subst e
    rw [List.drop_length] at q'
    refine .inl ⟨it1 (Nat.le_refl _), ?_⟩
    have P1' : Stp ρ1 σ G1 H1 G' H' := ⟨P'.f, P'.b, P'.k, fun a z => (P'.nf a z).elim .inl fun z => .inr (z.elim .inl fun z => .inr z.wiped), P'.nb⟩
    exact c _ _ _ G' H' q' (s1.mix s' (P'.fe s1.wd)) (P.trans s1.wd P1' L) ((L'.mix).trans L) ⟨p, rfl, ⟨mk.f, mk.b, xs, mk.at_, mk.r⟩, P.nn s1.wd hp⟩
def PTsI (X : Cx) (G0 : Gh) (H0 : Hp) (ifs : List Expr) (W : WT) : Prop := PTs X ifs (TTX X.K G0 H0 W)
def tYes' : WT := fun ρ Φ => Φ true ρ
theorem ts_nil : PTsI X G0 H0 [] tYes' := ⟨fun pins s σ H Q I h => pts_nil.run pins s σ H Q I (ttx_done (k := true) h)⟩
theorem ts_one {c : Expr} (h : PTI X G0 H0 c wt) : PTsI X G0 H0 [c] wt := pts_one h
variable {elt tg iter : Expr} {ifs : List Expr} {scope : Scope} {own : List (Str × Nat)} {pos : Pos}
theorem i_lc (hc : X.calm = true) (hN : X.N.Nodup) (hi : PII X G0 H0 tg iter wi) (ok : BlkOk X.N X.env.scope scope own)
    (hg : ∀ (s : Shared) (H : Hp) (C : Addr) (cl : List (Str × Addr)) (fp : List Addr), PGI (X.blk s H scope (compEnvC scope cl C X.env) fp) G0 H0 (own.map (·.2)) tg W) (ht : ∀ (s : Shared) (H : Hp) (C : Addr) (cl : List (Str × Addr)) (fp : List Addr), PTsI (X.blk s H scope (compEnvC scope cl C X.env) fp) G0 H0 ifs wt)
    (he : ∀ (s : Shared) (H : Hp) (C : Addr) (cl : List (Str × Addr)) (fp : List Addr), PEI (X.blk s H scope (compEnvC scope cl C X.env) fp) G0 H0 elt we) (hs : ∀ x, foldedSetIterable iter X.env x = pure x := by intro _; rfl) :
    PEI X G0 H0 (.ListComp elt [⟨tg, iter, ifs, 0⟩] scope pos) (wLc wi W wt we (own.map (·.2))) :=
  pe_imp (pe_lc (g := TGX X.K G0 H0 (own.map fun p : Str × Nat => p.2) W) (tt := TTX X.K G0 H0 wt) (te := TX X.K G0 H0 we) hc hN hi ok hg ht he hs) fun σ H Q h => tlc_of h
theorem s_setLc {i : Nat} {y : Str} {py spos : Pos} (hc : X.calm = true) (hN : X.N.Nodup) (hy : X.N[i]? = some y) (hyl : X.env.scope.names.lookup y = some .local)
    (hsw : swapsWith (.ListComp elt [⟨tg, iter, ifs, 0⟩] scope pos) (some (.Name y py)) spos.line X.env = pure true) (hi : PII X G0 H0 tg iter wi) (ok : BlkOk X.N X.env.scope scope own)
    (hg : ∀ (s : Shared) (H : Hp) (C : Addr) (cl : List (Str × Addr)) (fp : List Addr), PGI (X.blk s H scope (compEnvC scope cl C X.env) fp) G0 H0 (own.map (·.2)) tg W) (ht : ∀ (s : Shared) (H : Hp) (C : Addr) (cl : List (Str × Addr)) (fp : List Addr), PTsI (X.blk s H scope (compEnvC scope cl C X.env) fp) G0 H0 ifs wt)
    (he : ∀ (s : Shared) (H : Hp) (C : Addr) (cl : List (Str × Addr)) (fp : List Addr), PEI (X.blk s H scope (compEnvC scope cl C X.env) fp) G0 H0 elt we) (hs : ∀ x, foldedSetIterable iter X.env x = pure x := by intro _; rfl) :
    PSI X G0 H0 (.Assign [.Name y py] (.ListComp elt [⟨tg, iter, ifs, 0⟩] scope pos) spos) (sSet i (wLc wi W wt we (own.map (·.2)))) := by
  refine ps_imp (ps_setLc (g := TGX X.K G0 H0 (own.map fun p : Str × Nat => p.2) W) (tt := TTX X.K G0 H0 wt) (te := TX X.K G0 H0 we) hc hN hy hyl hsw hi ok hg ht he hs) fun D σ H h => ?_
  obtain ⟨ρ, G, S, s, h, k⟩ := h
  refine tlc_of (Q := fun x H1 => D.nx (σ.set i (some x)) H1) ⟨ρ, G, _, s, h, fun r ρ' v G' H' q s' P L x => k.nx _ G' H' _ q.2.2 (s'.put s L q.1 x q.2.1) (P.fe s.wd)⟩
end
end Tv
/-! Tv7: defs, calls, the law's own end. -/
namespace Tv
open PySem PySem.Spec PyProof.Rows L2

abbrev WF := List D → (R → Prop) → Prop
def spG (K : PySem.W.Frag) (w : WF) (vs : List V) (H : Hp) (Q : VK) : Prop :=
  ∃ G ds Φ, Wd G H ∧ RepL K G H ds vs ∧ w ds Φ ∧ ∀ r v G' H', Φ r → Wd G' H' → Grow G H G' H' → RepR K G' H' H r v → Q v H'
/-- the def at f does what w says, k calls deep at most; no repr is under way around it -/
def FnG (P : Program) (w : World) (K : PySem.W.Frag) (mg : Str → Option Value) (base : Heap) (k : Nat) (f : Addr) (wf : WF) : Prop :=
  ∀ (A : Around) (outer : List Env) (s : Shared) (H : Hp) (us : List Value) (vs : List V) (Q : VK), Room k A → A.guards = some [] → Env0 P w K mg base A outer s H → Vals vs us → spG K wf vs H Q →
    codeAny (model P w) A (.call (.ref f) ⟨us, []⟩) (CR CX0 outer P w H s Q E0) s
section
variable {P : Program} {w : World} {K : PySem.W.Frag} {mg : Str → Option Value} {base : Heap} {j k : Nat} {f : Addr} {wf wf' : WF}
theorem FnG.mono (F : FnG P w K mg base j f wf) (h : j ≤ k) : FnG P w K mg base k f wf := fun A outer s H us vs Q hr => F A outer s H us vs Q (hr.mono h)
theorem FnG.imp (F : FnG P w K mg base k f wf) (h : ∀ ds Φ, wf' ds Φ → wf ds Φ) : FnG P w K mg base k f wf' := fun A outer s H us vs Q hr hg e0 r ⟨G, ds, Φ, wd, rp, hw, kk⟩ =>
  F A outer s H us vs Q hr hg e0 r ⟨G, ds, Φ, wd, rp, h ds Φ hw, kk⟩
/-- a def of the text by its body: n parameters, m further names -/
def wDef (n m : Nat) (b : WS) : WF := fun ds Φ => ds.length = n ∧ b (ds.map Cell.fr ++ List.replicate m .no) ⟨fun _ => Φ (.fr .non), Φ, fun _ => False, fun _ => False⟩
theorem sta_start {G : Gh} {H : Hp} {ds : List D} {vs : List V} {N : List Str} {n m : Nat} (wd : Wd G H) (r : RepL K G H ds vs) (hl : ds.length = n) (hN : N.length = n + m) :
    Sta K G H (ds.map Cell.fr ++ List.replicate m .no) G H (L2.start N vs) := by
  have hlv := r.length
  have get : ∀ {i : Nat} {c : Cell}, (ds.map Cell.fr ++ List.replicate m .no)[i]? = some c → (∃ d, ds[i]? = some d ∧ c = .fr d) ∨ c = .no := fun {i c} e => by
    by_cases hi : i < ds.length
    · rw [List.getElem?_append_left (by simpa using hi), List.getElem?_map] at e
      cases q : ds[i]? with
      | none => rw [q] at e; cases e
      | some d => rw [q] at e; cases e; exact .inl ⟨d, rfl, rfl⟩
    · rw [List.getElem?_append_right (by simpa using hi), List.getElem?_replicate] at e
      split at e
      · cases e; exact .inr rfl
      · cases e
  refine ⟨wd, Grow.refl _ _, wd, fun i d e => ?_, fun i d e => ?_, fun i _ d _ _ e => ?_, ?_, fun i d e => by
    rcases get e with ⟨d', e1, e2⟩ | e1
    · cases e2
    · cases e1⟩
  · rcases get e with ⟨d', e1, e2⟩ | e1
    · cases e2
      obtain ⟨v, e3, rv⟩ := r.get e1
      refine ⟨v, ?_, rv⟩
      unfold L2.start
      have hi : i < vs.length := (List.getElem?_eq_some_iff.mp e3).1
      rw [List.getElem?_append_left (by simpa using hi), List.getElem?_map, e3]
      rfl
    · cases e1
  · rcases get e with ⟨d', e1, e2⟩ | e1
    · cases e2
    · cases e1
  · rcases get e with ⟨d', e1, e2⟩ | e1
    · cases e2
    · cases e1
  · unfold L2.start
    simp only [List.length_append, List.length_map, List.length_replicate]
    omega
theorem fnG_of {x qual : Str} {st : Stmt} {fd : FuncData} {N ps : List Str} {n m : Nat} {b : WS} (F : Fun K x qual st f fd) (S : FnScope N ps (defScope st)) (hb : Binds K fd ps []) (hn : ps.length = n) (hN : N.length = n + m)
    (hbody : ∀ (cdv : Value) (A : Around) (outer : List Env) (s : Shared) (H : Hp) (G : Gh), Room k (A.deeper (envOfC qual (defScope st) s.heap.objs.size f cdv)) → A.guards = some [] →
      PBI (cxOf CX0 P w K mg base N qual (defScope st) f cdv A outer s H E0).nox G H (defBody st) b) : FnG P w K mg base (k + 1) f (wDef n m b) := by
  intro A outer s H us vs Q hr hg e0 r hsp
  obtain ⟨G, ds, Φ, wd, rp, ⟨hl, hw⟩, kk⟩ := hsp
  obtain ⟨oc, od, kV, doc, pm, an, cdv, ct, osl, e, lk, hcd⟩ := F.ex
  have hus : us.length = ps.length := by rw [← r.length, ← rp.length, hl, hn]
  have kin := e0.mod.kin.keeps fun b o z => (e0.bs b o z).1
  have bt := hb s us kin (by rw [List.append_nil]; exact hus)
  rw [List.append_nil] at bt
  subst e
  refine StX.run_bnd (G := fun vs' H' => vs' = vs ∧ H' = H ∧ True) lk hcd S hr e0 (fun A' Ex Q' h => bt _ _ _ _ (h s H vs us e0 Un.refl rfl (fun _ _ z => z) r (by rw [r.length, hus]) ⟨rfl, rfl, trivial⟩)) fun s2 H2 vs2 g hr2 => ?_
  obtain ⟨rfl, rfl, _⟩ := g
  refine ⟨_, (hbody cdv A outer s2 H2 G hr2 hg).nox, _, G, _, sta_start wd rp hl (hN := hN), hw, ?_⟩
  exact ⟨fun ρ' G' H' σ' q st _ => kk _ _ G' H' q st.wd st.ex .non, fun r' v' G' H' q w' g' x' => kk r' v' G' H' q w' g' x', fun _ _ _ _ q => q.elim, fun _ _ _ _ q => q.elim⟩
end

/-! ### calls -/
section
variable {X : Cx} {G0 : Gh} {H0 : Hp} {e : Expr} {es : List Expr} {ws : WA} {pos p : Pos} {k : Nat} {f : Addr} {wf : WF} {x : Str} {K : PySem.W.Frag} {σ : L2.St} {H : Hp}
theorem run_fnG {pins : List (Addr × Obj)} {s : Shared} {Q : VK} {us : List Value} {vs : List V} (F : FnG X.prog X.w X.K X.mg X.base k f wf) (hr : Room k X.A) (hg : X.A.guards = some []) (I : Inv X pins σ H s) (r : Vals vs us) (h : spG X.K wf vs H Q) :
    wpAny (model X.prog X.w) X.A (call (.ref f) us) (EP X pins σ Q) X.xe s := by
  refine wpAny_call (codeAny_mono (F X.A X.stack s H us vs Q hr hg I.env0 r h) fun res s' hq => ?_)
  match res, hq with
  | .error _, hq => exact hq.elim
  | .ok (.ret u), hq => exact I.after hq
  | .ok .next, hq => exact hq.elim
  | .ok .brk, hq => exact hq.elim
  | .ok .cont, hq => exact hq.elim
/-- f(..), all arguments frozen -/
def wCall (wf : WF) (ws : WA) : WE := fun ρ Φ => ws ρ fun rs ρ' => match frs' rs with
  | some ds => wf ds fun r => Φ r ρ'
  | none => False
theorem tx_call {Q : VK} (h : TX K G0 H0 (wCall wf ws) σ H Q) : TAX K G0 H0 ws σ H fun vs H1 => spG K wf vs H1 Q := by
  obtain ⟨ρ, G, Φ, S, h, c⟩ := h
  refine ⟨ρ, G, _, S, h, fun rs ρ' vs G' H' q S' P L x => ?_⟩
  split at q
  · rename_i ds e
    exact ⟨G', ds, _, S'.wd, frs_rep x e, q, fun r v G2 H2 φ w2 g2 x2 => c r ρ' v G2 H2 φ (S'.grow w2 g2) (P.trans S'.wd g2.stp L) L (x2.back fun a z => P.nn S'.wd z)⟩
  · exact q.elim
theorem i_call (F : FnG X.prog X.w X.K X.mg X.base k f wf) (hr : Room k X.A) (hg : X.A.guards = some []) (hgl : Gl X x) (hm : X.mg x = some (.ref f)) (hk : PySem.W.keepIn X.K (.ref f) = true) (ha : PAI X G0 H0 (e :: es) ws)
    (hdb : (x == ("__debug__" : Str)) = false := by decide) (he : starEach (e :: es) X.env = (false, eval e X.env) :: starEach es X.env := by rfl) (hpl : (backTo pos (starEach es X.env)).any (·.1) = false := by rfl) :
    PEI X G0 H0 (.Call (.Name x p) (e :: es) [] pos) (wCall wf ws) := by
  refine ⟨fun pins s σ H Q I h => wpAny_Call_Name_kw (ld_glob I hgl hm ?_ hdb)⟩
  exact PySem.W.callWith_K (h₀ := X.base) I.ok.mod.kin hk (thn (ha.run pos pins s σ H _ I (tx_call h)) fun us s1 ⟨vs, H1, I1, r, q⟩ => ⟨I1.kIn, run_fnG F hr hg I1 r q⟩) he hpl
theorem i_call0 (F : FnG X.prog X.w X.K X.mg X.base k f wf) (hr : Room k X.A) (hg : X.A.guards = some []) (hgl : Gl X x) (hm : X.mg x = some (.ref f)) (hk : PySem.W.keepIn X.K (.ref f) = true)
    (hdb : (x == ("__debug__" : Str)) = false := by decide) : PEI X G0 H0 (.Call (.Name x p) [] [] pos) (wCall wf wNil) := by
  refine ⟨fun pins s σ H Q I h => wpAny_Call_Name_kw (ld_glob I hgl hm (PySem.W.callWith_K0 I.kIn hk (run_fnG F hr hg I .nil ?_)) hdb)⟩
  obtain ⟨ρ, G, Φ, S, h, c⟩ := tx_call h
  exact c [] ρ [] G H h S Stp.refl (LeE.refl _) .nil
end

/-! ### defs that only look at what they are handed -/
def ShL (K : PySem.W.Frag) (G : Gh) (H : Hp) (ds : List D) (vs : List V) : Prop := ds.length = vs.length ∧ ∀ (i : Nat) d v, ds[i]? = some d → vs[i]? = some v → Sh K G H d v
def spB (K : PySem.W.Frag) (w : WF) (vs : List V) (H : Hp) (Q : VK) : Prop :=
  ∃ G ds Φ, Wd G H ∧ ShL K G H ds vs ∧ w ds Φ ∧ ∀ r v G' H', Φ r → Wd G' H' → Grow G H G' H' → RepR K G' H' H r v → Q v H'
def FnB (P : Program) (w : World) (K : PySem.W.Frag) (mg : Str → Option Value) (base : Heap) (k : Nat) (f : Addr) (wf : WF) : Prop :=
  ∀ (A : Around) (outer : List Env) (s : Shared) (H : Hp) (us : List Value) (vs : List V) (Q : VK), Room k A → A.guards = some [] → Env0 P w K mg base A outer s H → Vals vs us → spB K wf vs H Q →
    codeAny (model P w) A (.call (.ref f) ⟨us, []⟩) (CR CX0 outer P w H s Q E0) s
def wDefB (n m : Nat) (b : WS) : WF := fun ds Φ => ds.length = n ∧ b (ds.map Cell.bo ++ List.replicate m .no) ⟨fun _ => Φ (.fr .non), Φ, fun _ => False, fun _ => False⟩
section
variable {P : Program} {w : World} {K : PySem.W.Frag} {mg : Str → Option Value} {base : Heap} {j k : Nat} {f : Addr} {wf wf' : WF}
theorem FnB.mono (F : FnB P w K mg base j f wf) (h : j ≤ k) : FnB P w K mg base k f wf := fun A outer s H us vs Q hr => F A outer s H us vs Q (hr.mono h)
def Gh.anc (G : Gh) (A : Nat → V → Prop) : Gh := ⟨G.F, G.B, A⟩
theorem FE.anc {G : Gh} {H : Hp} {A : Nat → V → Prop} : FE G H (G.anc A) H := ⟨fun _ z => z, fun _ z => z, fun _ _ _ e => e, fun _ _ e => e, fun _ _ _ e _ => e⟩
theorem Wd.anc {G : Gh} {H : Hp} {A : Nat → V → Prop} (w : Wd G H) : Wd (G.anc A) H := ⟨w.b, w.f⟩
theorem Obw.anc {K : PySem.W.Frag} {G : Gh} {H : Hp} {A : Nat → V → Prop} {a : Addr} {d : D} (h : Obw K G H a d) : Obw K (G.anc A) H a d := h.fe FE.anc fun _ e => e
theorem Sh.anc {K : PySem.W.Frag} {G : Gh} {H : Hp} {A : Nat → V → Prop} {d : D} {v : V} (h : Sh K G H d v) : Sh K (G.anc A) H d v := by
  rcases h with h | ⟨a, e, nb, h⟩
  · exact .inl (h.fe FE.anc)
  · exact .inr ⟨a, e, nb, h.anc⟩
theorem Grow.anc {G G' : Gh} {H H' : Hp} {A : Nat → V → Prop} (g : Grow (G.anc A) H G' H') : Grow G H G' H' := ⟨g.f, g.b, g.k, g.nf, g.nb⟩
theorem staB_start {G : Gh} {H : Hp} {ds : List D} {vs : List V} {N : List Str} {n m : Nat} (wd : Wd G H) (r : ShL K G H ds vs) (hl : ds.length = n) (hN : N.length = n + m) :
    Sta K (G.anc fun _ _ => True) H (ds.map Cell.bo ++ List.replicate m .no) (G.anc fun _ _ => True) H (L2.start N vs) := by
  have hlv := r.1
  have get : ∀ {i : Nat} {c : Cell}, (ds.map Cell.bo ++ List.replicate m .no)[i]? = some c → (∃ d, ds[i]? = some d ∧ c = .bo d) ∨ c = .no := fun {i c} e => by
    by_cases hi : i < ds.length
    · rw [List.getElem?_append_left (by simpa using hi), List.getElem?_map] at e
      cases q : ds[i]? with
      | none => rw [q] at e; cases e
      | some d => rw [q] at e; cases e; exact .inl ⟨d, rfl, rfl⟩
    · rw [List.getElem?_append_right (by simpa using hi), List.getElem?_replicate] at e
      split at e
      · cases e; exact .inr rfl
      · cases e
  refine ⟨wd.anc, Grow.refl _ _, wd.anc, fun i d e => ?_, fun i d e => ?_, fun i _ d _ _ e => ?_, ?_, fun i d e => ?_⟩
  · rcases get e with ⟨d', e1, e2⟩ | e1
    · cases e2
    · cases e1
  · rcases get e with ⟨d', e1, e2⟩ | e1
    · cases e2
    · cases e1
  · rcases get e with ⟨d', e1, e2⟩ | e1
    · cases e2
    · cases e1
  · unfold L2.start
    simp only [List.length_append, List.length_map, List.length_replicate]
    omega
  · rcases get e with ⟨d', e1, e2⟩ | e1
    · cases e2
      have hi : i < vs.length := by
        have := (List.getElem?_eq_some_iff.mp e1).1
        omega
      have e3 : vs[i]? = some vs[i] := List.getElem?_eq_getElem hi
      refine ⟨vs[i], ?_, (r.2 i d _ e1 e3).anc, trivial⟩
      unfold L2.start
      rw [List.getElem?_append_left (by simpa using hi), List.getElem?_map, e3]
      rfl
    · cases e1
theorem fnB_of {x qual : Str} {st : Stmt} {fd : FuncData} {N ps : List Str} {n m : Nat} {b : WS} (F : Fun K x qual st f fd) (S : FnScope N ps (defScope st)) (hb : Binds K fd ps []) (hn : ps.length = n) (hN : N.length = n + m)
    (hbody : ∀ (cdv : Value) (A : Around) (outer : List Env) (s : Shared) (H : Hp) (G : Gh), Room k (A.deeper (envOfC qual (defScope st) s.heap.objs.size f cdv)) → A.guards = some [] →
      PBI (cxOf CX0 P w K mg base N qual (defScope st) f cdv A outer s H E0).nox G H (defBody st) b) : FnB P w K mg base (k + 1) f (wDefB n m b) := by
  intro A outer s H us vs Q hr hg e0 r hsp
  obtain ⟨G, ds, Φ, wd, rp, ⟨hl, hw⟩, kk⟩ := hsp
  obtain ⟨oc, od, kV, doc, pm, an, cdv, ct, osl, e, lk, hcd⟩ := F.ex
  have hus : us.length = ps.length := by rw [← r.length, ← rp.1, hl, hn]
  have kin := e0.mod.kin.keeps fun b o z => (e0.bs b o z).1
  have bt := hb s us kin (by rw [List.append_nil]; exact hus)
  rw [List.append_nil] at bt
  subst e
  refine StX.run_bnd (G := fun vs' H' => vs' = vs ∧ H' = H ∧ True) lk hcd S hr e0 (fun A' Ex Q' h => bt _ _ _ _ (h s H vs us e0 Un.refl rfl (fun _ _ z => z) r (by rw [r.length, hus]) ⟨rfl, rfl, trivial⟩)) fun s2 H2 vs2 g hr2 => ?_
  obtain ⟨rfl, rfl, _⟩ := g
  refine ⟨_, (hbody cdv A outer s2 H2 (G.anc fun _ _ => True) hr2 hg).nox, _, _, _, staB_start wd rp hl (hN := hN), hw, ?_⟩
  exact ⟨fun ρ' G' H' σ' q st _ => kk _ _ G' H' q st.wd st.ex.anc .non, fun r' v' G' H' q w' g' x' => kk r' v' G' H' q w' g'.anc x', fun _ _ _ _ q => q.elim, fun _ _ _ _ q => q.elim⟩
end
section
variable {X : Cx} {G0 : Gh} {H0 : Hp} {e : Expr} {es : List Expr} {ws : WA} {pos p : Pos} {k : Nat} {f : Addr} {wf : WF} {x : Str} {K : PySem.W.Frag} {σ : L2.St} {H : Hp}
theorem run_fnB {pins : List (Addr × Obj)} {s : Shared} {Q : VK} {us : List Value} {vs : List V} (F : FnB X.prog X.w X.K X.mg X.base k f wf) (hr : Room k X.A) (hg : X.A.guards = some []) (I : Inv X pins σ H s) (r : Vals vs us) (h : spB X.K wf vs H Q) :
    wpAny (model X.prog X.w) X.A (call (.ref f) us) (EP X pins σ Q) X.xe s := by
  refine wpAny_call (codeAny_mono (F X.A X.stack s H us vs Q hr hg I.env0 r h) fun res s' hq => ?_)
  match res, hq with
  | .error _, hq => exact hq.elim
  | .ok (.ret u), hq => exact I.after hq
  | .ok .next, hq => exact hq.elim
  | .ok .brk, hq => exact hq.elim
  | .ok .cont, hq => exact hq.elim
def wCallB (wf : WF) (ws : WA) : WE := fun ρ Φ => ws ρ fun rs ρ' => wf (rs.map R.d) fun r => Φ r ρ'
theorem tx_callB {Q : VK} (h : TX K G0 H0 (wCallB wf ws) σ H Q) : TAX K G0 H0 ws σ H fun vs H1 => spB K wf vs H1 Q := by
  obtain ⟨ρ, G, Φ, S, h, c⟩ := h
  refine ⟨ρ, G, _, S, h, fun rs ρ' vs G' H' q S' P L x => ?_⟩
  exact ⟨G', rs.map R.d, _, S'.wd, ⟨by rw [List.length_map]; exact x.length, x.sh⟩, q, fun r v G2 H2 φ w2 g2 x2 => c r ρ' v G2 H2 φ (S'.grow w2 g2) (P.trans S'.wd g2.stp L) L (x2.back fun a z => P.nn S'.wd z)⟩
theorem i_callBo (F : FnB X.prog X.w X.K X.mg X.base k f wf) (hr : Room k X.A) (hg : X.A.guards = some []) (hgl : Gl X x) (hm : X.mg x = some (.ref f)) (hk : PySem.W.keepIn X.K (.ref f) = true) (ha : PAI X G0 H0 (e :: es) ws)
    (hdb : (x == ("__debug__" : Str)) = false := by decide) (he : starEach (e :: es) X.env = (false, eval e X.env) :: starEach es X.env := by rfl) (hpl : (backTo pos (starEach es X.env)).any (·.1) = false := by rfl) :
    PEI X G0 H0 (.Call (.Name x p) (e :: es) [] pos) (wCallB wf ws) := by
  refine ⟨fun pins s σ H Q I h => wpAny_Call_Name_kw (ld_glob I hgl hm ?_ hdb)⟩
  exact PySem.W.callWith_K (h₀ := X.base) I.ok.mod.kin hk (thn (ha.run pos pins s σ H _ I (tx_callB h)) fun us s1 ⟨vs, H1, I1, r, q⟩ => ⟨I1.kIn, run_fnB F hr hg I1 r q⟩) he hpl
end

/-! ### the law's own end -/
/-- what the law's def is to do: the script in, True out -/
def lawG (wf : WF) : Prop := wf [.scr] fun r => r = .fr (.bl true)
theorem law_end {P : Program} {w : World} {K : PySem.W.Frag} {mg mb : Str → Option Value} {k : Nat} {fa a : Addr} {wf : WF} {s₁ : Shared} {vs : List Value} {ns : List Int}
    (KX : K.In s₁.heap) (hns : s₁.heap.Ns mainGlobals mg) (hb : s₁.heap.Ns builtinsNs mb) (hbb : ∀ x : Str, x ≠ "__name__" → mb x = bootBuiltins x) (hlim : s₁.heap.NoLimit) (hgn : s₁.gens = #[])
    (ha : s₁.heap.get? a = some { cls := .type "list", data := .seq vs.toArray }) (hi : IntsAre vs ns) (hl : ns.length ≤ 63) (hr : Room k callerA)
    (F : ∀ base : Heap, K.In base → base.Ns mainGlobals mg → FnG P w K mg base k fa wf) (hw : lawG wf) :
    codeAny (model P w) callerA (.call (.ref fa) ⟨[.ref a], []⟩) (fun r s' => r = .ok (.ret (.bool true)) ∧ OldK s₁.heap s'.heap ∧ s'.os = s₁.os ∧ AllBare s'.gens) s₁ := by
  have rv := vals_ints hi
  have hlv := hi.length
  have hsl : ns.length ≤ sizeLine := Nat.le_trans hl (by decide)
  -- over any abstract heap that tracks the script at most
  have core : ∀ H : Hp, Only H → ScrAt K H a ns → HOk P w H s₁.heap → (∀ b, H b ≠ none → b = a ∧ K.lookup a = none) →
      codeAny (model P w) callerA (.call (.ref fa) ⟨[.ref a], []⟩) (fun r s' => r = .ok (.ret (.bool true)) ∧ OldK s₁.heap s'.heap ∧ s'.os = s₁.os ∧ AllBare s'.gens) s₁ := by
    intro H hO hS hok hA
    have free : ∀ {b : Addr} {o : Obj}, s₁.heap.get? b = some o → (b = a → ∃ es ep, o.data = .dict es ep) → H b = none := fun {b o} e hd => by
      cases q : H b with
      | none => rfl
      | some u =>
        obtain ⟨eb, _⟩ := hA b (by rw [q]; simp)
        obtain ⟨es, ep, d⟩ := hd eb
        rw [eb, ha] at e
        cases e
        cases d
    have nsH : ∀ {b : Addr} {m : Str → Option Value}, s₁.heap.Ns b m → (hidT s₁.heap H).Ns b m := fun {b m} z => by
      obtain ⟨o, es, ep, e, d, r⟩ := z
      exact ⟨o, es, ep, hidT_get e (free e fun _ => ⟨es, ep, d⟩), d, r⟩
    have kinH : K.In (hidT s₁.heap H) := fun b o e => hidT_get (KX b o e) (by
      cases q : H b with
      | none => rfl
      | some u =>
        obtain ⟨eb, hn⟩ := hA b (by rw [q]; simp)
        rw [eb, hn] at e
        cases e)
    obtain ⟨mc, l1, l2⟩ := hlim
    have md : Mod K mg (hidT s₁.heap H) := ⟨kinH, nsH hns, ⟨mb, nsH hb, hbb⟩, mc, nsH l1, l2⟩
    have e0 : Env0 P w K mg (hidT s₁.heap H) callerA [] s₁ H :=
      ⟨rfl, md, fun b o e => of_hidT e, Nat.le_of_eq (hidT_size _ _), trivial, (fun b z => nomatch (show b ∈ ([] : List Addr) from z)), hok, AllBare.of_eq hgn⟩
    have g0 : Wd ⟨fun _ => False, fun _ => False, fun _ _ => True⟩ H := ⟨fun _ z => z.elim, fun _ z => z.elim⟩
    refine codeAny_mono (F _ kinH (nsH hns) callerA [] s₁ H [.ref a] [.ref a] (fun v _ => v = .bl true) hr rfl e0 (.cons rfl .nil) ⟨_, [.scr], _, g0, .cons (.scr hS hl) .nil, hw, fun r v G' H' q _ _ x => ?_⟩) fun res s' h => ?_
    · subst q
      cases x
      rfl
    · match res, h with
      | .error _, h => exact h.elim
      | .ok .next, h => exact h.elim
      | .ok .brk, h => exact h.elim
      | .ok .cont, h => exact h.elim
      | .ok (.ret u), h =>
        obtain ⟨v, H', os, bare, un, hok', r', q⟩ := h
        have q' : v = .bl true := q
        subst q'
        obtain rfl : u = Value.bool true := r'
        refine ⟨rfl, OldK.of_keep fun b o e => ?_, os, bare⟩
        cases q : H b with
        | none => exact un.keep b o e q (fun z => nomatch (show b ∈ ([] : List Addr) from z)) (by simp)
        | some u =>
          rcases hO b with z | ⟨ob, xs, z⟩
          · rw [q] at z; cases z
          · have i1 := (hok b _ z).1
            have i2 := (hok' b _ (un.frzs b ob _ z)).1
            rw [e] at i1
            rw [← i1] at i2
            exact i2
  cases hk : K.lookup a with
  | some o =>
    have e := KX a o hk
    rw [ha] at e
    cases e
    refine core (fun _ => none) (fun _ => .inl rfl) (.inr ⟨_, vs.toArray, _, hk, rfl, rfl, rfl, by rw [List.size_toArray, hlv]; exact hsl, by simpa using rv⟩) (fun b u z => ?_) fun b z => absurd rfl z
    cases (show (none : Option HO) = some u from z)
  | none =>
    refine core (fun b => if b = a then some (.frz { cls := .type "list", data := .seq vs.toArray } (.lst (ns.map V.int))) else none) (fun b => ?_) (.inl ⟨{ cls := .type "list", data := .seq vs.toArray }, if_pos rfl⟩) (fun b u z => ?_) fun b z => ?_
    · by_cases hb : b = a
      · exact .inr ⟨_, _, if_pos hb⟩
      · exact .inl (if_neg hb)
    · by_cases hb : b = a
      · cases (if_pos hb).symm.trans z
        rw [hb]
        exact ⟨ha, by rw [List.length_map]; exact hsl, vs, _, rv, ha⟩
      · cases (if_neg hb).symm.trans z
    · by_cases hb : b = a
      · exact ⟨hb, hk⟩
      · exact absurd (if_neg hb) z
/-- the goal that the head leaves -/
theorem law_walk {l : PySem.W.OpenLaw} {k : Nat} {q : Program} {loose : List Str} {XP : (Str → Option Value) → Heap → Prop} {YP : World → Heap → Prop} {d : DefRec} {K : Params → PySem.W.Frag} {wf : WF}
    (hn : l.most = some 63) (hdf : d.params.defaults = []) (hr : Room k callerA) (hY : ∀ (w : World) (h : Heap), YP w h → (K w.params).In h)
    (F : ∀ (w : World) (mg : Str → Option Value) (fa : Addr) (h : Heap), (K w.params).In h → h.Ns mainGlobals mg → mg d.name = some (.ref fa) →
      ∀ base : Heap, (K w.params).In base → base.Ns mainGlobals mg → FnG l.prog w (K w.params) mg base k fa wf) (hw : lawG wf) :
    PySem.W.WalkO q loose XP YP l.row.toRowW d [] (fun f vs => PySem.call f vs) := by
  refine Att.attach_call hn hdf fun w s₀ s₁ mg mb fa o pm cd doc a vs ns G Y ho hd hcd hmg hobj hints hlen hgn => ?_
  exact law_end (hY w _ Y) G.T.g G.T.b G.T.builtins G.T.nolimit hgn hobj hints hlen hr (F w mg fa _ (hY w _ Y) G.T.g hmg) hw
end Tv
/-! Tv8: Python's operations on trees. -/
namespace Tv
open PySem PySem.Spec PyProof.Rows L2

/-! ### equality at any depth -/
mutual
def D.py : D → PyData
  | .non => .none
  | .bl b => .bool b
  | .int i => .int i
  | .str x => .str x
  | .tup ds => .tuple (D.pyL ds)
  | .lst ds => .list (D.pyL ds)
  | .bag => .none
  | .scr => .none
  | .fn _ => .none
  | .dct _ _ => .none
  | .dcu _ _ => .none
  | .ins _ _ _ => .none
  | .unk => .none
def D.pyL : List D → List PyData
  | [] => []
  | d :: ds => d.py :: D.pyL ds
end
mutual
/-- data that may be compared and shown -/
def D.good : D → Bool
  | .str x => PyData.strOk x
  | .tup ds => D.goodL ds
  | .lst ds => D.goodL ds
  | .bag => false
  | .scr => false
  | .fn _ => false
  | .dct _ _ => false
  | .dcu _ _ => false
  | .ins _ _ _ => false
  | .unk => false
  | _ => true
def D.goodL : List D → Bool
  | [] => true
  | d :: ds => d.good && D.goodL ds
end
mutual
def D.dep : D → Nat
  | .tup ds => D.depL ds + 1
  | .lst ds => D.depL ds + 1
  | _ => 0
def D.depL : List D → Nat
  | [] => 0
  | d :: ds => max d.dep (D.depL ds)
end
section
variable {K : PySem.W.Frag} {G : Gh} {H : Hp}
mutual
theorem good_lay : ∀ d : D, d.good = true → d.py.canLay0 = true
  | .non, _ => rfl
  | .bl _, _ => rfl
  | .int _, _ => rfl
  | .str x, h => h
  | .tup ds, h => good_layL ds h
  | .lst ds, h => good_layL ds h
  | .bag, h => nomatch h
  | .scr, h => nomatch h
  | .fn _, h => nomatch h
  | .dct _ _, h => nomatch h
  | .dcu _ _, h => nomatch h
  | .ins _ _ _, h => nomatch h
  | .unk, h => nomatch h
theorem good_layL : ∀ ds : List D, D.goodL ds = true → PyData.canLayAll0 (D.pyL ds) = true
  | [], _ => rfl
  | d :: ds, h => by
    have h' : (d.good && D.goodL ds) = true := h
    rw [Bool.and_eq_true] at h'
    show (d.py.canLay0 && PyData.canLayAll0 (D.pyL ds)) = true
    rw [good_lay d h'.1, good_layL ds h'.2]
    rfl
end
mutual
theorem dep_py : ∀ d : D, d.py.depth = d.dep
  | .non => rfl
  | .bl _ => rfl
  | .int _ => rfl
  | .str _ => rfl
  | .bag => rfl
  | .scr => rfl
  | .fn _ => rfl
  | .dct _ _ => rfl
  | .dcu _ _ => rfl
  | .ins _ _ _ => rfl
  | .unk => rfl
  | .tup ds => by show PyData.depthAll (D.pyL ds) + 1 = _; rw [dep_pyL ds]; rfl
  | .lst ds => by show PyData.depthAll (D.pyL ds) + 1 = _; rw [dep_pyL ds]; rfl
theorem dep_pyL : ∀ ds : List D, PyData.depthAll (D.pyL ds) = D.depL ds
  | [] => rfl
  | d :: ds => by show max d.py.depth (PyData.depthAll (D.pyL ds)) = _; rw [dep_py d, dep_pyL ds]; rfl
end
mutual
theorem Rep.dp : ∀ {d : D} {v : V}, Rep K G H d v → d.good = true → Dp K H v d.py
  | _, _, .non, _ => .non
  | _, _, .bl b, _ => .bl b
  | _, _, .int i, _ => .int i
  | _, _, .str x, _ => .str x
  | _, _, .tup h r, g => .tup h (RepL.dp r g)
  | _, _, .lst h r, g => .lst h.sq (RepL.dp r g)
  | _, _, .bag _, g => nomatch g
  | _, _, .scr _ _, g => nomatch g
  | _, _, .fn _, g => nomatch g
  | _, _, .dct _ _ _ _, g => nomatch g
  | _, _, .dcu _ _ _ _, g => nomatch g
  | _, _, .ins _ _ _ _ _ _ _, g => nomatch g
  | _, _, .unk _, g => nomatch g
theorem RepL.dp : ∀ {ds : List D} {vs : List V}, RepL K G H ds vs → D.goodL ds = true → DpAll K H vs (D.pyL ds)
  | _, _, .nil, _ => .nil
  | _, _, .cons (d := d) (ds := ds) r t, g => by
    have g' : (d.good && D.goodL ds) = true := g
    rw [Bool.and_eq_true] at g'
    exact .cons (Rep.dp r g'.1) (RepL.dp t g'.2)
end
theorem Sh.dp {d : D} {v : V} (h : Sh K G H d v) (g : d.good = true) : Dp K H v d.py := by
  rcases h with h | ⟨a, e, _, h⟩
  · exact h.dp g
  · cases d with
    | lst ds =>
      obtain ⟨xs, e1, r⟩ := h
      subst e
      exact .lst (SqL.of e1) (r.dp g)
    | dct _ _ => exact nomatch g
    | dcu _ _ => exact nomatch g
    | _ => exact h.elim
end
def okE (d : D) : Bool := d.good && decide (d.dep ≤ 64)
theorem okE_shaped {d : D} (h : okE d = true) : SeqAt.shaped d.py = true ∧ d.good = true := by
  unfold okE at h
  rw [Bool.and_eq_true, decide_eq_true_eq] at h
  refine ⟨?_, h.1⟩
  unfold SeqAt.shaped
  rw [good_lay d h.1, dep_py, Bool.true_and, decide_eq_true h.2]
/-- == of data -/
def eqD (d e : D) : Bool := PyData.eqv d.py e.py
mutual
theorem eqv_refl : ∀ d : D, d.good = true → PyData.eqv d.py d.py = true
  | .non, _ => rfl
  | .bl b, _ => by show (b == b) = true; simp
  | .int b, _ => by show (b == b) = true; simp
  | .str b, _ => by show (b == b) = true; simp
  | .tup ds, h => eqvL_refl ds h
  | .lst ds, h => eqvL_refl ds h
  | .bag, h => nomatch h
  | .scr, h => nomatch h
  | .fn _, h => nomatch h
  | .dct _ _, h => nomatch h
  | .dcu _ _, h => nomatch h
  | .ins _ _ _, h => nomatch h
theorem eqvL_refl : ∀ ds : List D, D.goodL ds = true → PyData.eqvAll (D.pyL ds) (D.pyL ds) = true
  | [], _ => rfl
  | d :: ds, h => by
    have h' : (d.good && D.goodL ds) = true := h
    rw [Bool.and_eq_true] at h'
    show (PyData.eqv d.py d.py && PyData.eqvAll (D.pyL ds) (D.pyL ds)) = true
    rw [eqv_refl d h'.1, eqvL_refl ds h'.2]
    rfl
end
theorem eqD_refl {d : D} (h : d.good = true) : eqD d d = true := eqv_refl d h
def oEq : D → D → (R → Prop) → Prop
  | .str a, .str b, Φ => Φ (.fr (.bl (decide (a = b))))
  | d, e, Φ => (okE d && okE e) = true ∧ Φ (.fr (.bl (eqD d e)))
def oNe : D → D → (R → Prop) → Prop
  | .str a, .str b, Φ => Φ (.fr (.bl (!decide (a = b))))
  | d, e, Φ => (okE d && okE e) = true ∧ Φ (.fr (.bl (!eqD d e)))
def rEqA (K : PySem.W.Frag) : R2 := fun x y H Q => rEq x y H Q ∨ rEqD K x y H Q
def rNeA (K : PySem.W.Frag) : R2 := fun x y H Q => rNe x y H Q ∨ rNeD K x y H Q
theorem op_eqA {X : Cx} (hu : X.A.units + 64 < cLine) : OpR X (compareOp .Eq) (rEqA X.K) := op_eq.or (op_eqD hu)
theorem op_neA {X : Cx} (hu : X.A.units + 64 < cLine) : OpR X (compareOp .NotEq) (rNeA X.K) := op_ne.or (op_neD hu)
theorem dec_str {a b : Str} : decide (V.str a = V.str b) = decide (a = b) := by
  rw [Bool.eq_iff_iff]
  simp
section
variable {K : PySem.W.Frag}
theorem op2_eq : Op2 K oEq (rEqA K) := fun G H d e v u Φ Q w s1 s2 h k => by
  unfold oEq at h
  split at h
  · cases s1.s; cases s2.s
    refine .inl ⟨rfl, ?_⟩
    rw [dec_str]
    exact k _ _ G H h w (Grow.refl _ _) (.bl _)
  · obtain ⟨h1, h2⟩ := h
    rw [Bool.and_eq_true] at h1
    obtain ⟨a1, a2⟩ := okE_shaped h1.1
    obtain ⟨b1, b2⟩ := okE_shaped h1.2
    exact .inr ⟨_, _, s1.dp a2, s2.dp b2, a1, b1, k _ _ G H h2 w (Grow.refl _ _) (.bl _)⟩
theorem op2_ne : Op2 K oNe (rNeA K) := fun G H d e v u Φ Q w s1 s2 h k => by
  unfold oNe at h
  split at h
  · cases s1.s; cases s2.s
    refine .inl ⟨rfl, ?_⟩
    rw [dec_str]
    exact k _ _ G H h w (Grow.refl _ _) (.bl _)
  · obtain ⟨h1, h2⟩ := h
    rw [Bool.and_eq_true] at h1
    obtain ⟨a1, a2⟩ := okE_shaped h1.1
    obtain ⟨b1, b2⟩ := okE_shaped h1.2
    exact .inr ⟨_, _, s1.dp a2, s2.dp b2, a1, b1, k _ _ G H h2 w (Grow.refl _ _) (.bl _)⟩

/-! ### + -/
theorem Sh.lst_at {G : Gh} {H : Hp} {ds : List D} {v : V} (h : Sh K G H (.lst ds) v) : ∃ a xs, v = .ref a ∧ H a = some (.lst xs) ∧ RepL K G H ds xs := by
  rcases h with h | ⟨a, e, _, xs, h, r⟩
  · cases h with
    | lst h r => exact ⟨_, _, rfl, h.2, r⟩
  · exact ⟨a, xs, e, h, r⟩
/-- a new list, told at any free place -/
theorem new_lst {G : Gh} {H : Hp} {Φ : R → Prop} {Q : VK} {ds : List D} {xs : List V} (w : Wd G H) (k : ∀ r' v' G' H', Φ r' → Wd G' H' → Grow G H G' H' → RepR K G' H' H r' v' → Q v' H') (r : RepL K G H ds xs) (h : Φ (.ow (.lst ds))) :
    ∀ p, H p = none → Q (.ref p) (upd H p (.lst xs)) := fun p hp => k _ _ G _ h (w.laid hp) (Grow.laid hp) ⟨p, rfl, Own.laid w hp r, hp⟩
theorem new_tup {G : Gh} {H : Hp} {Φ : R → Prop} {Q : VK} {ds : List D} {xs : List V} (w : Wd G H) (k : ∀ r' v' G' H', Φ r' → Wd G' H' → Grow G H G' H' → RepR K G' H' H r' v' → Q v' H') (r : RepL K G H ds xs) (h : Φ (.fr (.tup ds))) :
    ∀ p, H p = none → Q (.ref p) (upd H p (.tup xs)) := fun p hp => k _ _ G _ h (w.laid hp) (Grow.laid hp) (.tup (SqT.of upd_same) (r.fe ((Grow.laid hp).fe w)))
def oAdd : D → D → (R → Prop) → Prop
  | .int i, .int j, Φ => Φ (.fr (.int (i + j)))
  | .str a, .str b, Φ => a.length + b.length ≤ sizeLine ∧ Φ (.fr (.str (a ++ b)))
  | .lst xs, .lst ys, Φ => xs.length + ys.length ≤ sizeLine ∧ Φ (.ow (.lst (xs ++ ys)))
  | .tup xs, .tup ys, Φ => xs.length + ys.length ≤ sizeLine ∧ Φ (.fr (.tup (xs ++ ys)))
  | _, _, _ => False
def rAddA (K : PySem.W.Frag) : R2 := fun x y H Q => (rI0 fun i j => .int (i + j)) x y H Q ∨ ((∃ i j, x = .str i ∧ y = .str j ∧ i.length + j.length ≤ sizeLine ∧ Q (.str (i ++ j)) H) ∨ (rCat x y H Q ∨ rCatA K x y H Q))
theorem op_addA {X : Cx} : OpR X (binaryOp .Add) (rAddA X.K) := op_add.or (op_add_str.or (op_cat.or op_catA))
theorem op2_add : Op2 K oAdd (rAddA K) := fun G H d e v u Φ Q w s1 s2 h k => by
  unfold oAdd at h
  split at h
  · cases s1.i; cases s2.i
    exact .inl ⟨_, _, rfl, rfl, k _ _ G H h w (Grow.refl _ _) (.int _)⟩
  · cases s1.s; cases s2.s
    exact .inr (.inl ⟨_, _, rfl, rfl, h.1, k _ _ G H h.2 w (Grow.refl _ _) (.str _)⟩)
  · obtain ⟨a, xs, rfl, e1, r1⟩ := s1.lst_at
    obtain ⟨b, ys, rfl, e2, r2⟩ := s2.lst_at
    exact .inr (.inr (.inl ⟨a, b, xs, ys, rfl, rfl, e1, e2, by rw [← r1.length, ← r2.length]; exact h.1, new_lst w k (r1.append r2) h.2⟩))
  · obtain ⟨a, xs, rfl, e1, r1⟩ := s1.tuple
    obtain ⟨b, ys, rfl, e2, r2⟩ := s2.tuple
    refine .inr (.inr (.inr ⟨a, b, xs, ys, rfl, rfl, e1, e2, by rw [← r1.length, ← r2.length]; exact h.1, fun z => ?_, fun _ z => ?_, fun _ _ => new_tup w k (r1.append r2) h.2⟩))
    · subst z
      cases r1
      exact k _ _ G H h.2 w (Grow.refl _ _) (.tup e2 r2)
    · subst z
      cases r2
      refine k _ _ G H h.2 w (Grow.refl _ _) ?_
      rw [List.append_nil]
      exact .tup e1 r1
  · exact h.elim

/-! ### ints -/
def oInt (C : Int → Int → Prop) (g : Int → Int → D) : D → D → (R → Prop) → Prop
  | .int i, .int j, Φ => C i j ∧ Φ (.fr (g i j))
  | _, _, _ => False
theorem op2_int {C : Int → Int → Prop} {g : Int → Int → D} {g' : Int → Int → V} (hg : ∀ G H i j, Rep K G H (g i j) (g' i j)) : Op2 K (oInt C g) (rI C g') := fun G H d e v u Φ Q w s1 s2 h k => by
  unfold oInt at h
  split at h
  · cases s1.i; cases s2.i
    exact ⟨_, _, rfl, rfl, h.1, k _ _ G H h.2 w (Grow.refl _ _) (hg _ _ _ _)⟩
  · exact h.elim
def oInt0 (g : Int → Int → D) : D → D → (R → Prop) → Prop
  | .int i, .int j, Φ => Φ (.fr (g i j))
  | _, _, _ => False
theorem op2_int0 {g : Int → Int → D} {g' : Int → Int → V} (hg : ∀ G H i j, Rep K G H (g i j) (g' i j)) : Op2 K (oInt0 g) (rI0 g') := fun G H d e v u Φ Q w s1 s2 h k => by
  unfold oInt0 at h
  split at h
  · cases s1.i; cases s2.i
    exact ⟨_, _, rfl, rfl, k _ _ G H h w (Grow.refl _ _) (hg _ _ _ _)⟩
  · exact h.elim
abbrev oSub := oInt0 fun i j => .int (i - j)
abbrev oMul := oInt CMul fun i j => .int (i * j)
abbrev oDiv := oInt CDiv fun i j => .int (i / j)
abbrev oMod := oInt (fun _ j => 0 < j) fun i j => .int (i % j)
abbrev oPow := oInt CPow fun i j => .int (i ^ j.toNat)

/-! ### order: ints, texts -/
def strLt (a b : Str) : Bool := decide (a.cps.toList < b.cps.toList)
def oLt : D → D → (R → Prop) → Prop
  | .int i, .int j, Φ => Φ (.fr (.bl (decide (i < j))))
  | .str a, .str b, Φ => Φ (.fr (.bl (strLt a b)))
  | _, _, _ => False
def oLe : D → D → (R → Prop) → Prop
  | .int i, .int j, Φ => Φ (.fr (.bl (decide (i ≤ j))))
  | .str a, .str b, Φ => Φ (.fr (.bl (!strLt b a)))
  | _, _, _ => False
def oGt : D → D → (R → Prop) → Prop
  | .int i, .int j, Φ => Φ (.fr (.bl (decide (j < i))))
  | .str a, .str b, Φ => Φ (.fr (.bl (strLt b a)))
  | _, _, _ => False
def oGe : D → D → (R → Prop) → Prop
  | .int i, .int j, Φ => Φ (.fr (.bl (decide (j ≤ i))))
  | .str a, .str b, Φ => Φ (.fr (.bl (!strLt a b)))
  | _, _, _ => False
def rOrd (g : Int → Int → Bool) (t : Str → Str → Bool) : R2 := fun x y H Q => (rI0 fun i j => .bl (g i j)) x y H Q ∨ ∃ i j, x = .str i ∧ y = .str j ∧ Q (.bl (t i j)) H
theorem op2_ord {g : Int → Int → Bool} {t : Str → Str → Bool} {o : D → D → (R → Prop) → Prop} (hi : ∀ i j Φ, o (.int i) (.int j) Φ → Φ (.fr (.bl (g i j)))) (hs : ∀ i j Φ, o (.str i) (.str j) Φ → Φ (.fr (.bl (t i j))))
    (hn : ∀ d e Φ, o d e Φ → (∃ i j, d = .int i ∧ e = .int j) ∨ ∃ i j, d = .str i ∧ e = .str j) : Op2 K o (rOrd g t) := fun G H d e v u Φ Q w s1 s2 h k => by
  rcases hn d e Φ h with ⟨i, j, rfl, rfl⟩ | ⟨i, j, rfl, rfl⟩
  · cases s1.i; cases s2.i
    exact .inl ⟨i, j, rfl, rfl, k _ _ G H (hi _ _ _ h) w (Grow.refl _ _) (.bl _)⟩
  · cases s1.s; cases s2.s
    exact .inr ⟨i, j, rfl, rfl, k _ _ G H (hs _ _ _ h) w (Grow.refl _ _) (.bl _)⟩
theorem op2_lt : Op2 K oLt (rOrd (fun i j => decide (i < j)) strLt) := op2_ord (fun _ _ _ h => h) (fun _ _ _ h => h) fun d e Φ h => by
  unfold oLt at h; split at h <;> first | exact .inl ⟨_, _, rfl, rfl⟩ | exact .inr ⟨_, _, rfl, rfl⟩ | exact h.elim
theorem op2_le : Op2 K oLe (rOrd (fun i j => decide (i ≤ j)) fun a b => !strLt b a) := op2_ord (fun _ _ _ h => h) (fun _ _ _ h => h) fun d e Φ h => by
  unfold oLe at h; split at h <;> first | exact .inl ⟨_, _, rfl, rfl⟩ | exact .inr ⟨_, _, rfl, rfl⟩ | exact h.elim
theorem op2_gt : Op2 K oGt (rOrd (fun i j => decide (j < i)) fun a b => strLt b a) := op2_ord (fun _ _ _ h => h) (fun _ _ _ h => h) fun d e Φ h => by
  unfold oGt at h; split at h <;> first | exact .inl ⟨_, _, rfl, rfl⟩ | exact .inr ⟨_, _, rfl, rfl⟩ | exact h.elim
theorem op2_ge : Op2 K oGe (rOrd (fun i j => decide (j ≤ i)) fun a b => !strLt a b) := op2_ord (fun _ _ _ h => h) (fun _ _ _ h => h) fun d e Φ h => by
  unfold oGe at h; split at h <;> first | exact .inl ⟨_, _, rfl, rfl⟩ | exact .inr ⟨_, _, rfl, rfl⟩ | exact h.elim
theorem op_ltA {X : Cx} : OpR X (compareOp .Lt) (rOrd (fun i j => decide (i < j)) strLt) := op_lt.or op_lt_str
theorem op_leA {X : Cx} : OpR X (compareOp .LtE) (rOrd (fun i j => decide (i ≤ j)) fun a b => !strLt b a) := op_le.or op_le_str
theorem op_gtA {X : Cx} : OpR X (compareOp .Gt) (rOrd (fun i j => decide (j < i)) fun a b => strLt b a) := op_gt.or op_gt_str
theorem op_geA {X : Cx} : OpR X (compareOp .GtE) (rOrd (fun i j => decide (j ≤ i)) fun a b => !strLt a b) := op_ge.or op_ge_str

end
end Tv
/-! Tv9: in, items, slices, len, sum, texts, stores of several names, constants of the text. -/
namespace Tv
open PySem PySem.Spec PyProof.Rows L2

section
variable {K : PySem.W.Frag} {X : Cx} {G0 : Gh} {H0 : Hp} {pos : Pos} {e a b c : Expr} {es : List Expr} {wa wb wc : WE} {ws : WA}
/-! ### in, not in -/
def rInA (K : PySem.W.Frag) (neg : Bool) : R2 := fun x y H Q => ∃ d ds, Dp K H x d ∧ (Dp K H y (.list ds) ∨ Dp K H y (.tuple ds)) ∧ SeqAt.shaped d = true ∧ SeqAt.shaped (.list ds) = true ∧
  Q (.bl (if neg then !ds.any fun z => PyData.eqv z d else ds.any fun z => PyData.eqv z d)) H
theorem op_inA (hu : X.A.units + 65 < cLine) : OpR X (compareOp .In) (rInA X.K false) := by
  intro pins s σ H x y v u Q I rx ry h
  obtain ⟨d, ds, hd, he, sd, se, q⟩ := h
  obtain ⟨as, r1⟩ := Dp.reads I d x v hd rx
  have c1 := SeqAt.canLay_of_shaped sd
  have c2 := SeqAt.canLay_of_shaped se
  rcases he with he | he
  · obtain ⟨bs, r2⟩ := Dp.reads I (.list ds) y u he ry
    exact SeqAt.in_list_reads r2 r1 c2 c1 (room_in_shaped sd hu) ⟨.bl _, H, I, rfl, q⟩
  · obtain ⟨bs, r2⟩ := Dp.reads I (.tuple ds) y u he ry
    exact SeqAt.in_tuple_reads r2 r1 c2 c1 (room_in_shaped sd hu) ⟨.bl _, H, I, rfl, q⟩
theorem op_notInA (hu : X.A.units + 65 < cLine) : OpR X (compareOp .NotIn) (rInA X.K true) := by
  intro pins s σ H x y v u Q I rx ry h
  obtain ⟨d, ds, hd, he, sd, se, q⟩ := h
  obtain ⟨as, r1⟩ := Dp.reads I d x v hd rx
  have c1 := SeqAt.canLay_of_shaped sd
  have c2 := SeqAt.canLay_of_shaped se
  rcases he with he | he
  · obtain ⟨bs, r2⟩ := Dp.reads I (.list ds) y u he ry
    exact SeqAt.notIn_list_reads r2 r1 c2 c1 (room_in_shaped sd hu) ⟨.bl _, H, I, rfl, q⟩
  · obtain ⟨bs, r2⟩ := Dp.reads I (.tuple ds) y u he ry
    exact SeqAt.notIn_tuple_reads r2 r1 c2 c1 (room_in_shaped sd hu) ⟨.bl _, H, I, rfl, q⟩
def inD (d : D) (ds : List D) : Bool := ds.any fun z => eqD z d
theorem inD_py (d : D) : ∀ ds : List D, ((D.pyL ds).any fun z => PyData.eqv z d.py) = inD d ds
  | [] => rfl
  | z :: ds => by
    show (PyData.eqv z.py d.py || (D.pyL ds).any fun z => PyData.eqv z d.py) = _
    rw [inD_py d ds]
    rfl
/-- x in c: one sign in a text; data in a list or a tuple -/
def oIn (neg : Bool) : D → D → (R → Prop) → Prop
  | .str x, .str z, Φ => ∃ n, x.cps = #[n] ∧ Φ (.fr (.bl (if neg then !decide (n ∈ z.cps.toList) else decide (n ∈ z.cps.toList))))
  | d, .lst ds, Φ => (okE d && okE (.lst ds)) = true ∧ Φ (.fr (.bl (if neg then !inD d ds else inD d ds)))
  | d, .tup ds, Φ => (okE d && okE (.lst ds)) = true ∧ Φ (.fr (.bl (if neg then !inD d ds else inD d ds)))
  | _, _, _ => False
def rInB (K : PySem.W.Frag) (neg : Bool) : R2 := fun x y H Q => (∃ (c : Nat) (z : Str), x = .str ⟨#[c]⟩ ∧ y = .str z ∧ Q (.bl (if neg then !decide (c ∈ z.cps.toList) else decide (c ∈ z.cps.toList))) H) ∨ rInA K neg x y H Q
theorem op_inB (hu : X.A.units + 65 < cLine) : OpR X (compareOp .In) (rInB X.K false) := op_in_sign.or (op_inA hu)
theorem op_notInB (hu : X.A.units + 65 < cLine) : OpR X (compareOp .NotIn) (rInB X.K true) := op_notIn_sign.or (op_notInA hu)
theorem op2_in {neg : Bool} : Op2 K (oIn neg) (rInB K neg) := fun G H d e v u Φ Q w s1 s2 h k => by
  unfold oIn at h
  split at h
  · obtain ⟨n, hn, h⟩ := h
    rename_i x z
    cases s1.s; cases s2.s
    have ex : x = ⟨#[n]⟩ := by cases x; cases hn; rfl
    exact .inl ⟨n, z, by rw [ex], rfl, k _ _ G H h w (Grow.refl _ _) (.bl _)⟩
  · rename_i d ds Φ _
    obtain ⟨h1, h2⟩ := h
    rw [Bool.and_eq_true] at h1
    obtain ⟨a1, a2⟩ := okE_shaped h1.1
    obtain ⟨b1, b2⟩ := okE_shaped h1.2
    exact .inr ⟨_, _, s1.dp a2, .inl (s2.dp b2), a1, b1, by rw [inD_py]; exact k _ _ G H h2 w (Grow.refl _ _) (.bl _)⟩
  · rename_i d ds Φ _
    obtain ⟨h1, h2⟩ := h
    rw [Bool.and_eq_true] at h1
    obtain ⟨a1, a2⟩ := okE_shaped h1.1
    obtain ⟨b1, b2⟩ := okE_shaped h1.2
    exact .inr ⟨_, _, s1.dp a2, .inr (s2.dp b2), a1, b1, by rw [inD_py]; exact k _ _ G H h2 w (Grow.refl _ _) (.bl _)⟩
  · exact h.elim

/-! ### items -/
def oIx : D → D → (R → Prop) → Prop
  | .lst ds, .int i, Φ => ∃ d, atI ds i = some d ∧ Φ (.fr d)
  | .tup ds, .int i, Φ => ∃ d, atI ds i = some d ∧ Φ (.fr d)
  | .str z, .int i, Φ => z.length ≤ sizeLine ∧ ∃ n, atI z.cps.toList i = some n ∧ Φ (.fr (.str ⟨#[n]⟩))
  | _, _, _ => False
theorem RepL.atI {G : Gh} {H : Hp} {ds : List D} {xs : List V} {i : Int} {d : D} (r : RepL K G H ds xs) (h : L2.atI ds i = some d) : ∃ v, L2.atI xs i = some v ∧ Rep K G H d v := by
  unfold L2.atI at h ⊢
  rw [← r.length]
  cases q : ixN ds.length i with
  | none => rw [q] at h; cases h
  | some j =>
    rw [q] at h
    obtain ⟨v, e, rv⟩ := r.get (i := j) h
    exact ⟨v, e, rv⟩
theorem op2_ix : Op2 K oIx (rIx K) := fun G H d e v u Φ Q w s1 s2 h k => by
  unfold oIx at h
  split at h
  · obtain ⟨d, hd, h⟩ := h
    obtain ⟨p, xs, rfl, e1, r⟩ := s1.list
    cases s2.i
    obtain ⟨x, ex, rx⟩ := r.atI hd
    exact .inl ⟨p, xs, _, x, rfl, rfl, e1, ex, k _ _ G H h w (Grow.refl _ _) rx⟩
  · obtain ⟨d, hd, h⟩ := h
    obtain ⟨p, xs, rfl, e1, r⟩ := s1.tuple
    cases s2.i
    obtain ⟨x, ex, rx⟩ := r.atI hd
    exact .inr (.inl ⟨p, xs, _, x, rfl, rfl, e1, ex, k _ _ G H h w (Grow.refl _ _) rx⟩)
  · obtain ⟨hz, n, hn, h⟩ := h
    cases s1.s; cases s2.i
    exact .inr (.inr ⟨_, _, n, rfl, rfl, hz, hn, k _ _ G H h w (Grow.refl _ _) (.str _)⟩)
  · exact h.elim

/-! ### slices -/
abbrev WO := En → (Option Int → En → Prop) → Prop
def TOX (K : PySem.W.Frag) (G0 : Gh) (H0 : Hp) (W : WO) : TO := fun σ H Q => ∃ ρ G Φ, Sta K G0 H0 ρ G H σ ∧ W ρ Φ ∧ ∀ o ρ' G' H', Φ o ρ' → Sta K G0 H0 ρ' G' H' σ → Stp ρ σ G H G' H' → LeE ρ' ρ → Q o H'
def POI (X : Cx) (G0 : Gh) (H0 : Hp) (o : Option Expr) (W : WO) : Prop := PO X o (TOX X.K G0 H0 W)
def wNoP : WO := fun ρ Φ => Φ none ρ
def wSomeP (wa : WE) : WO := fun ρ Φ => wa ρ fun r ρ' => match r.d with
  | .int i => Φ (some i) ρ'
  | _ => False
theorem po_imp {o : Option Expr} {t t' : TO} (h : PO X o t) (i : ∀ σ H Q, t' σ H Q → t σ H Q) : PO X o t' := ⟨fun pins s σ H Q I q => h.run pins s σ H Q I (i σ H Q q)⟩
theorem o_none : POI X G0 H0 none wNoP := po_imp po_none fun σ H Q h => by
  obtain ⟨ρ, G, Φ, S, h, c⟩ := h
  exact c none ρ G H h S Stp.refl (LeE.refl _)
theorem o_some (h : PEI X G0 H0 e wa) : POI X G0 H0 (some e) (wSomeP wa) := by
  refine po_imp (po_some h) fun σ H Q h => ?_
  obtain ⟨ρ, G, Φ, S, h, c⟩ := h
  refine ⟨ρ, G, _, S, h, fun r ρ' v G' H' q S' P L x => ?_⟩
  split at q
  · rename_i i e
    have x' := x.sh
    rw [e] at x'
    exact ⟨i, x'.i, c _ ρ' G' H' q S' P L⟩
  · exact q.elim
def cutD (ds : List D) (lo hi : Option Int) : List D := (ds.drop (HT.sIx ds.length 0 lo)).take (HT.sIx ds.length ds.length hi - HT.sIx ds.length 0 lo)
def oSl : D → Option Int → Option Int → (R → Prop) → Prop
  | .lst ds, lo, hi, Φ => Φ (.ow (.lst (cutD ds lo hi)))
  | .tup ds, lo, hi, Φ => Φ (.fr (.tup (cutD ds lo hi)))
  | .str z, lo, hi, Φ => z.length ≤ sizeLine ∧ Φ (.fr (.str (cutS z lo hi)))
  | _, _, _, _ => False
theorem RepL.cut {G : Gh} {H : Hp} {ds : List D} {xs : List V} {lo hi : Option Int} (r : RepL K G H ds xs) : RepL K G H (cutD ds lo hi) (cutV xs lo hi) := by
  unfold cutD cutV
  rw [r.length]
  exact (r.drop _).take _
theorem RepL.cut_whole {G : Gh} {H : Hp} {ds : List D} {xs : List V} {lo hi : Option Int} (r : RepL K G H ds xs) (hw : HT.sIx xs.length 0 lo = 0 ∧ HT.sIx xs.length xs.length hi = xs.length) : RepL K G H (cutD ds lo hi) xs := by
  have z := RepL.cut (lo := lo) (hi := hi) r
  unfold cutV at z
  rw [hw.1, hw.2, List.drop_zero, Nat.sub_zero, List.take_length] at z
  exact z
def rSlAll (K : PySem.W.Frag) : V → Option Int → Option Int → Hp → VK → Prop := fun x lo hi H Q => rSlL K x lo hi H Q ∨ (rSlA K x lo hi H Q ∨ rSlS x lo hi H Q)
theorem sl_all : SlR X (rSlAll X.K) := sl_list.or (sl_tupA.or sl_str)
def wSl (wa : WE) (wl wh : WO) : WE := fun ρ Φ => wa ρ fun r ρ1 => wl ρ1 fun lo ρ2 => wh ρ2 fun hi ρ3 => oSl r.d lo hi fun r' => Φ r' ρ3
theorem i_slice {lo hi : Option Expr} {wl wh : WO} {p2 : Pos} (ha : PEI X G0 H0 e wa) (hl : POI X G0 H0 lo wl) (hh : POI X G0 H0 hi wh) : PEI X G0 H0 (.Subscript e (.Slice lo hi none p2) pos) (wSl wa wl wh) := by
  refine pe_imp (pe_slice sl_all ha hl hh) fun σ H Q h => ?_
  obtain ⟨ρ, G, Φ, S, h, c⟩ := h
  refine ⟨ρ, G, _, S, h, fun r ρ1 v G1 H1 q S1 P1 L1 x => ⟨ρ1, G1, _, S1, q, fun il ρ2 G2 H2 q2 S2 P2 L2 => ⟨ρ2, G2, _, S2, q2, fun ih ρ3 G3 H3 q3 S3 P3 L3 => ?_⟩⟩⟩
  have PP := (P1.trans S1.wd P2 L1).trans S2.wd P3 (L2.trans L1)
  have LL := L3.trans (L2.trans L1)
  have x3 := (x.sh.stp S1.wd P2).stp S2.wd P3
  have kk : ∀ r' v' G' H', Φ r' ρ3 → Wd G' H' → Grow G3 H3 G' H' → RepR X.K G' H' H3 r' v' → Q v' H' := fun r' v' G' H' φ w g x' => c r' ρ3 v' G' H' φ (S3.grow w g) (PP.trans S3.wd g.stp LL) LL (x'.back fun a z => PP.nn S3.wd z)
  unfold oSl at q3
  split at q3
  · rename_i ed
    rw [ed] at x3
    obtain ⟨p, xs, rfl, e1, rr⟩ := x3.list
    exact .inl ⟨p, xs, rfl, e1, new_lst (Φ := fun r => Φ r ρ3) S3.wd kk rr.cut q3⟩
  · rename_i ed
    rw [ed] at x3
    obtain ⟨p, xs, rfl, e1, rr⟩ := x3.tuple
    refine .inr (.inl ⟨p, xs, rfl, e1, fun hw => ?_, fun _ => new_tup (Φ := fun r => Φ r ρ3) S3.wd kk rr.cut q3⟩)
    exact kk _ _ G3 H3 q3 S3.wd (Grow.refl _ _) (.tup e1 (rr.cut_whole hw))
  · rename_i ed
    rw [ed] at x3
    cases x3.s
    exact .inr (.inr ⟨_, rfl, q3.1, kk _ _ G3 H3 q3.2 S3.wd (Grow.refl _ _) (.str _)⟩)
  · exact q3.elim

/-! ### len, sum, int, max, min, list, tuple -/
theorem one_sh {G : Gh} {H : Hp} {d : D} {vs : List V} (hl : [d].length = vs.length) (hs : ∀ (i : Nat) d' v, [d][i]? = some d' → vs[i]? = some v → Sh K G H d' v) : ∃ v, vs = [v] ∧ Sh K G H d v := by
  match vs, hl with
  | [v], _ => exact ⟨v, rfl, hs 0 _ v rfl rfl⟩
theorem two_sh {G : Gh} {H : Hp} {d e : D} {vs : List V} (hl : [d, e].length = vs.length) (hs : ∀ (i : Nat) d' v, [d, e][i]? = some d' → vs[i]? = some v → Sh K G H d' v) : ∃ v u, vs = [v, u] ∧ Sh K G H d v ∧ Sh K G H e u := by
  match vs, hl with
  | [v, u], _ => exact ⟨v, u, rfl, hs 0 _ v rfl rfl, hs 1 _ u rfl rfl⟩
def oLen : List D → (R → Prop) → Prop
  | [.lst ds], Φ => Φ (.fr (.int ds.length))
  | [.tup ds], Φ => Φ (.fr (.int ds.length))
  | [.str x], Φ => x.length ≤ sizeLine ∧ Φ (.fr (.int x.length))
  | _, _ => False
theorem opn_len : OpN K oLen (fun xs H Q => ∃ x n, xs = [x] ∧ LenV K x H n ∧ Q (.int n) H) := fun G H ds vs Φ Q w hl hs h k => by
  unfold oLen at h
  split at h
  · obtain ⟨v, rfl, s⟩ := one_sh hl hs
    obtain ⟨p, xs, rfl, e, r⟩ := s.list
    exact ⟨_, xs.length, rfl, .inl ⟨xs, e, rfl⟩, by rw [← r.length]; exact k _ _ G H h w (Grow.refl _ _) (.int _)⟩
  · obtain ⟨v, rfl, s⟩ := one_sh hl hs
    obtain ⟨p, xs, rfl, e, r⟩ := s.tuple
    exact ⟨_, xs.length, rfl, .inr ⟨xs, e, rfl⟩, by rw [← r.length]; exact k _ _ G H h w (Grow.refl _ _) (.int _)⟩
  · obtain ⟨v, rfl, s⟩ := one_sh hl hs
    cases s.s
    exact ⟨_, _, rfl, ⟨h.1, rfl⟩, k _ _ G H h.2 w (Grow.refl _ _) (.int _)⟩
  · exact h.elim
def intsD : List D → Option (List Int)
  | [] => some []
  | .int i :: ds => (intsD ds).map (i :: ·)
  | _ :: _ => none
theorem intsD_rep {G : Gh} {H : Hp} : ∀ {ds : List D} {xs : List V} {ns : List Int}, RepL K G H ds xs → intsD ds = some ns → xs = ns.map V.int
  | _, _, _, .nil, e => by cases e; rfl
  | .int i :: ds, _, ns, .cons r t, e => by
    cases r
    unfold intsD at e
    cases q : intsD ds with
    | none => rw [q] at e; cases e
    | some ms => rw [q] at e; cases e; rw [intsD_rep t q]; rfl
  | .non :: _, _, _, _, e => by cases e
  | .bl _ :: _, _, _, _, e => by cases e
  | .str _ :: _, _, _, _, e => by cases e
  | .tup _ :: _, _, _, _, e => by cases e
  | .lst _ :: _, _, _, _, e => by cases e
  | .bag :: _, _, _, _, e => by cases e
  | .scr :: _, _, _, _, e => by cases e
  | .fn _ :: _, _, _, _, e => by cases e
  | .dct _ _ :: _, _, _, _, e => by cases e
  | .dcu _ _ :: _, _, _, _, e => by cases e
  | .ins _ _ _ :: _, _, _, _, e => by cases e
  | .unk :: _, _, _, _, e => by cases e
def oSum : List D → (R → Prop) → Prop
  | [.lst ds], Φ => ∃ ns, intsD ds = some ns ∧ Φ (.fr (.int ns.sum))
  | _, _ => False
theorem opn_sum : OpN K oSum (rSum K) := fun G H ds vs Φ Q w hl hs h k => by
  unfold oSum at h
  split at h
  · obtain ⟨v, rfl, s⟩ := one_sh hl hs
    obtain ⟨p, xs, rfl, e, r⟩ := s.list
    obtain ⟨ns, en, h⟩ := h
    have ex := intsD_rep r en
    subst ex
    exact ⟨p, ns, rfl, e, k _ _ G H h w (Grow.refl _ _) (.int _)⟩
  · exact h.elim
def oIntC : List D → (R → Prop) → Prop
  | [.int i], Φ => Φ (.fr (.int i))
  | [.bl b], Φ => Φ (.fr (.int (if b then 1 else 0)))
  | _, _ => False
theorem opn_int : OpN K oIntC (fun xs H Q => (∃ i, xs = [.int i] ∧ Q (.int i) H) ∨ ∃ k, xs = [.bl k] ∧ Q (.int (if k then 1 else 0)) H) := fun G H ds vs Φ Q w hl hs h k => by
  unfold oIntC at h
  split at h
  · obtain ⟨v, rfl, s⟩ := one_sh hl hs
    cases s.i
    exact .inl ⟨_, rfl, k _ _ G H h w (Grow.refl _ _) (.int _)⟩
  · obtain ⟨v, rfl, s⟩ := one_sh hl hs
    cases s.b
    exact .inr ⟨_, rfl, k _ _ G H h w (Grow.refl _ _) (.int _)⟩
  · exact h.elim
def oMax2 : List D → (R → Prop) → Prop
  | [.int i, .int j], Φ => Φ (.fr (.int (if j > i then j else i)))
  | _, _ => False
def oMin2 : List D → (R → Prop) → Prop
  | [.int i, .int j], Φ => Φ (.fr (.int (if j < i then j else i)))
  | _, _ => False
theorem opn_max2 : OpN K oMax2 (fun xs H Q => ∃ i j, xs = [.int i, .int j] ∧ Q (.int (if j > i then j else i)) H) := fun G H ds vs Φ Q w hl hs h k => by
  unfold oMax2 at h
  split at h
  · obtain ⟨v, u, rfl, s1, s2⟩ := two_sh hl hs
    cases s1.i; cases s2.i
    exact ⟨_, _, rfl, k _ _ G H h w (Grow.refl _ _) (.int _)⟩
  · exact h.elim
theorem opn_min2 : OpN K oMin2 (fun xs H Q => ∃ i j, xs = [.int i, .int j] ∧ Q (.int (if j < i then j else i)) H) := fun G H ds vs Φ Q w hl hs h k => by
  unfold oMin2 at h
  split at h
  · obtain ⟨v, u, rfl, s1, s2⟩ := two_sh hl hs
    cases s1.i; cases s2.i
    exact ⟨_, _, rfl, k _ _ G H h w (Grow.refl _ _) (.int _)⟩
  · exact h.elim
def oList : List D → (R → Prop) → Prop
  | [.lst ds], Φ => Φ (.ow (.lst ds))
  | [.tup ds], Φ => Φ (.ow (.lst ds))
  | _, _ => False
theorem opn_list : OpN K oList (fun xs H Q => ∃ p ys, xs = [.ref p] ∧ (SqL K H p ys ∨ SqT K H p ys) ∧ ∀ l, H l = none → Q (.ref l) (upd H l (.lst ys))) := fun G H ds vs Φ Q w hl hs h k => by
  unfold oList at h
  split at h
  · obtain ⟨v, rfl, s⟩ := one_sh hl hs
    obtain ⟨p, xs, rfl, e, r⟩ := s.list
    exact ⟨p, xs, rfl, .inl e, new_lst w k r h⟩
  · obtain ⟨v, rfl, s⟩ := one_sh hl hs
    obtain ⟨p, xs, rfl, e, r⟩ := s.tuple
    exact ⟨p, xs, rfl, .inr e, new_lst w k r h⟩
  · exact h.elim
def oTuple : List D → (R → Prop) → Prop
  | [.lst ds], Φ => Φ (.fr (.tup ds))
  | [.tup ds], Φ => Φ (.fr (.tup ds))
  | _, _ => False
theorem opn_tuple : OpN K oTuple (fun xs H Q => ∃ p ys, xs = [.ref p] ∧ ((SqL K H p ys ∧ ∀ l, H l = none → Q (.ref l) (upd H l (.tup ys))) ∨ (SqT K H p ys ∧ Q (.ref p) H))) := fun G H ds vs Φ Q w hl hs h k => by
  unfold oTuple at h
  split at h
  · obtain ⟨v, rfl, s⟩ := one_sh hl hs
    obtain ⟨p, xs, rfl, e, r⟩ := s.list
    exact ⟨p, xs, rfl, .inl ⟨e, new_tup w k r h⟩⟩
  · obtain ⟨v, rfl, s⟩ := one_sh hl hs
    obtain ⟨p, xs, rfl, e, r⟩ := s.tuple
    exact ⟨p, xs, rfl, .inr ⟨e, k _ _ G H h w (Grow.refl _ _) (.tup e r)⟩⟩
  · exact h.elim
def blsD : List D → Option (List Bool)
  | [] => some []
  | .bl i :: ds => (blsD ds).map (i :: ·)
  | _ :: _ => none
theorem blsD_rep {G : Gh} {H : Hp} : ∀ {ds : List D} {xs : List V} {ns : List Bool}, RepL K G H ds xs → blsD ds = some ns → xs = ns.map V.bl
  | _, _, _, .nil, e => by cases e; rfl
  | .bl i :: ds, _, ns, .cons r t, e => by
    cases r
    unfold blsD at e
    cases q : blsD ds with
    | none => rw [q] at e; cases e
    | some ms => rw [q] at e; cases e; rw [blsD_rep t q]; rfl
  | .non :: _, _, _, _, e => by cases e
  | .int _ :: _, _, _, _, e => by cases e
  | .str _ :: _, _, _, _, e => by cases e
  | .tup _ :: _, _, _, _, e => by cases e
  | .lst _ :: _, _, _, _, e => by cases e
  | .bag :: _, _, _, _, e => by cases e
  | .scr :: _, _, _, _, e => by cases e
  | .fn _ :: _, _, _, _, e => by cases e
  | .dct _ _ :: _, _, _, _, e => by cases e
  | .dcu _ _ :: _, _, _, _, e => by cases e
  | .ins _ _ _ :: _, _, _, _, e => by cases e
  | .unk :: _, _, _, _, e => by cases e
def oAll : List D → (R → Prop) → Prop
  | [.lst ds], Φ => ∃ bs, blsD ds = some bs ∧ Φ (.fr (.bl (bs.all id)))
  | _, _ => False
def oAny : List D → (R → Prop) → Prop
  | [.lst ds], Φ => ∃ bs, blsD ds = some bs ∧ Φ (.fr (.bl (bs.any id)))
  | _, _ => False
theorem opn_all : OpN K oAll (rAll K) := fun G H ds vs Φ Q w hl hs h k => by
  unfold oAll at h
  split at h
  · obtain ⟨v, rfl, s⟩ := one_sh hl hs
    obtain ⟨p, xs, rfl, e, r⟩ := s.list
    obtain ⟨bs, en, h⟩ := h
    have ex := blsD_rep r en
    subst ex
    exact ⟨p, bs, rfl, e, k _ _ G H h w (Grow.refl _ _) (.bl _)⟩
  · exact h.elim
theorem opn_any : OpN K oAny (rAny K) := fun G H ds vs Φ Q w hl hs h k => by
  unfold oAny at h
  split at h
  · obtain ⟨v, rfl, s⟩ := one_sh hl hs
    obtain ⟨p, xs, rfl, e, r⟩ := s.list
    obtain ⟨bs, en, h⟩ := h
    have ex := blsD_rep r en
    subst ex
    exact ⟨p, bs, rfl, e, k _ _ G H h w (Grow.refl _ _) (.bl _)⟩
  · exact h.elim

/-! ### times: ints; a list repeated -/
def oMulA : D → D → (R → Prop) → Prop
  | .int i, .int j, Φ => CMul i j ∧ Φ (.fr (.int (i * j)))
  | .lst ds, .int k, Φ => (-(2 ^ 63) ≤ k ∧ k < 2 ^ 63 ∧ ds.length * k.toNat ≤ sizeLine) ∧ Φ (.ow (.lst (List.replicate k.toNat ds).flatten))
  | _, _, _ => False
theorem RepL.rep {G : Gh} {H : Hp} {ds : List D} {xs : List V} (r : RepL K G H ds xs) : ∀ k : Nat, RepL K G H (List.replicate k ds).flatten (List.replicate k xs).flatten
  | 0 => .nil
  | k + 1 => by
    rw [List.replicate_succ, List.replicate_succ, List.flatten_cons, List.flatten_cons]
    exact r.append (RepL.rep r k)
def rMulA : R2 := fun x y H Q => (rI CMul fun i j => .int (i * j)) x y H Q ∨ rRep x y H Q
theorem op_mulA : OpR X (binaryOp .Mult) rMulA := op_mul.or op_rep
theorem op2_mulA : Op2 K oMulA rMulA := fun G H d e v u Φ Q w s1 s2 h k => by
  unfold oMulA at h
  split at h
  · cases s1.i; cases s2.i
    exact .inl ⟨_, _, rfl, rfl, h.1, k _ _ G H h.2 w (Grow.refl _ _) (.int _)⟩
  · obtain ⟨p, xs, rfl, e, r⟩ := s1.lst_at
    cases s2.i
    exact .inr ⟨p, _, xs, rfl, rfl, e, h.1.1, h.1.2.1, by rw [← r.length]; exact h.1.2.2, new_lst w k (r.rep _) h.2⟩
  · exact h.elim
end
end Tv
/-! Tv10: repr, texts' methods, changes of one's own list, more walks, several names at once. -/
namespace Tv
open PySem PySem.Spec PyProof.Rows L2

/-! ### repr -/
section
variable {X : Cx} {K : PySem.W.Frag}
def rRepr (K : PySem.W.Frag) : List V → Hp → VK → Prop := fun xs H Q => ∃ x d, xs = [x] ∧ Dp K H x d ∧ d.canLay0 = true ∧ d.depth ≤ 64 ∧ d.showable = true ∧ d.shown.length ≤ sizeLine ∧ Q (.str d.shown) H
theorem call_reprA (hg : X.A.guards = some []) (hu : X.A.units + 65 < cLine) : CallR X (.builtin "repr") (rRepr X.K) := by
  intro pins s σ H xs us Q I r h
  obtain ⟨x, d, rfl, hd, hc, hdep, hs, hz, q⟩ := h
  obtain ⟨u, rfl, ru⟩ := vals1 r
  obtain ⟨as, rd⟩ := Dp.reads I d x u hd ru
  cases rd with
  | none =>
    cases hd
    rw [PyData.shown_none] at q
    exact P.repr_of_none ⟨.str _, H, I.tok _, ⟨_, rfl⟩, q⟩
  | bool b =>
    cases hd
    rw [PyData.shown_bool] at q
    exact P.repr_of_bool ⟨.str _, H, I.tok _, ⟨_, rfl⟩, q⟩
  | int i t =>
    cases hd
    rw [PyData.shown_int] at q
    exact P.repr_of_int (by simpa [PyData.showable] using hs) ⟨.str _, H, I.tok _, ⟨_, rfl⟩, q⟩
  | str y t =>
    cases hd
    rw [PyData.shown_str] at q hz
    exact P.repr_of_str ⟨.str _, H, I.tok _, ⟨_, rfl⟩, q⟩ hz
  | list h1 h2 h3 h4 =>
    exact repr_of_reads' (.list h1 h2 h3 h4) hs (PyData.noDict_hsm (PyData.hasDict_of_canLay _ hc)) hg (by omega) (fun _ _ e => e) (fun h' t tk hk => ⟨.str _, H, I.kept hk, ⟨_, rfl⟩, q⟩) hz
  | tuple h1 h2 h3 h4 =>
    exact repr_of_reads' (.tuple h1 h2 h3 h4) hs (PyData.noDict_hsm (PyData.hasDict_of_canLay _ hc)) hg (by omega) (fun _ _ e => e) (fun h' t tk hk => ⟨.str _, H, I.kept hk, ⟨_, rfl⟩, q⟩) hz
  | dict h1 h2 h3 h4 h5 => simp [PyData.canLay0] at hc
mutual
/-- at most so many signs are shown -/
def D.cost : D → Nat
  | .int i => i.natAbs.log2 + 3
  | .str x => 10 * x.length + 2
  | .tup ds => D.costL ds + 3
  | .lst ds => D.costL ds + 3
  | _ => 5
def D.costL : List D → Nat
  | [] => 0
  | d :: ds => d.cost + 2 + D.costL ds
end
mutual
/-- no int that is too long to be shown -/
def D.sho : D → Bool
  | .int i => decide (i.natAbs.log2 < 1920)
  | .tup ds => D.shoL ds
  | .lst ds => D.shoL ds
  | _ => true
def D.shoL : List D → Bool
  | [] => true
  | d :: ds => d.sho && D.shoL ds
end
mutual
theorem sho_py : ∀ d : D, d.sho = true → d.py.showable = true
  | .non, _ => by simp [D.py, PyData.showable]
  | .bl _, _ => by simp [D.py, PyData.showable]
  | .int i, h => by simpa [D.py, D.sho, PyData.showable] using h
  | .str _, _ => by simp [D.py, PyData.showable]
  | .tup ds, h => by
    simp only [D.py, PyData.showable]
    exact sho_pyL ds (by simpa [D.sho] using h)
  | .lst ds, h => by
    simp only [D.py, PyData.showable]
    exact sho_pyL ds (by simpa [D.sho] using h)
  | .bag, _ => by simp [D.py, PyData.showable]
  | .scr, _ => by simp [D.py, PyData.showable]
  | .fn _, _ => by simp [D.py, PyData.showable]
  | .dct _ _, _ => by simp [D.py, PyData.showable]
  | .dcu _ _, _ => by simp [D.py, PyData.showable]
  | .ins _ _ _, _ => by simp [D.py, PyData.showable]
  | .unk, _ => by simp [D.py, PyData.showable]
theorem sho_pyL : ∀ ds : List D, D.shoL ds = true → PyData.showableAll (D.pyL ds) = true
  | [], _ => by simp [D.pyL, PyData.showableAll]
  | d :: ds, h => by
    simp only [D.shoL, Bool.and_eq_true] at h
    simp only [D.pyL, PyData.showableAll, Bool.and_eq_true]
    exact ⟨sho_py d h.1, sho_pyL ds h.2⟩
end
theorem lenS (x : String) : (Str.ofString x).length = x.length := PySem.ofString_length x
mutual
theorem shown_cost : ∀ d : D, d.good = true → d.py.shown.length ≤ d.cost
  | .non, _ => by rw [show D.non.py = .none from rfl, PyData.shown_none, lenS]; decide
  | .bl b, _ => by rw [show (D.bl b).py = .bool b from rfl, PyData.shown_bool]; cases b <;> decide
  | .int i, _ => by
    rw [show (D.int i).py = .int i from rfl, PyData.shown_int, lenS]
    have z := int_text_length_le (a := i) (k := i.natAbs.log2 + 1) (by omega) (by omega)
    show _ ≤ i.natAbs.log2 + 3
    omega
  | .str x, h => by
    rw [show (D.str x).py = .str x from rfl, PyData.shown_str]
    refine StrLaws.reprText_len x fun c hc => ?_
    have h' : x.cps.all (· < 0x110000) = true := h
    rw [← Array.all_toList, List.all_eq_true] at h'
    have := of_decide_eq_true (h' c hc)
    omega
  | .tup ds, h => by
    rw [show (D.tup ds).py = .tuple (D.pyL ds) from rfl]
    simp only [PyData.shown]
    have z := tupleText_len_le (PyData.shownAll (D.pyL ds))
    have y := shown_costL ds h
    show _ ≤ D.costL ds + 3
    omega
  | .lst ds, h => by
    rw [show (D.lst ds).py = .list (D.pyL ds) from rfl]
    simp only [PyData.shown]
    have z := listText_len_le (PyData.shownAll (D.pyL ds))
    have y := shown_costL ds h
    show _ ≤ D.costL ds + 3
    omega
  | .bag, h => nomatch h
  | .scr, h => nomatch h
  | .fn _, h => nomatch h
  | .dct _ _, h => nomatch h
  | .dcu _ _, h => nomatch h
  | .ins _ _ _, h => nomatch h
  | .unk, h => nomatch h
theorem shown_costL : ∀ ds : List D, D.goodL ds = true → ((PyData.shownAll (D.pyL ds)).map (·.length)).sum + 2 * (PyData.shownAll (D.pyL ds)).length ≤ D.costL ds
  | [], _ => by simp [D.pyL, PyData.shownAll, D.costL]
  | d :: ds, h => by
    have h' : (d.good && D.goodL ds) = true := h
    rw [Bool.and_eq_true] at h'
    have a := shown_cost d h'.1
    have b := shown_costL ds h'.2
    simp only [D.pyL, PyData.shownAll, List.map_cons, List.sum_cons, List.length_cons, D.costL]
    omega
end
/-- it may be shown -/
def okR (d : D) : Bool := okE d && d.sho && decide (d.cost ≤ 16777216)
def oRepr : List D → (R → Prop) → Prop
  | [d], Φ => okR d = true ∧ Φ (.fr (.str d.py.shown))
  | _, _ => False
theorem opn_repr : OpN K oRepr (rRepr K) := fun G H ds vs Φ Q w hl hs h k => by
  unfold oRepr at h
  split at h
  · obtain ⟨v, rfl, s⟩ := one_sh hl hs
    obtain ⟨hr, h⟩ := h
    unfold okR at hr
    simp only [Bool.and_eq_true, decide_eq_true_eq] at hr
    obtain ⟨⟨h1, h2⟩, h3⟩ := hr
    obtain ⟨a1, a2⟩ := okE_shaped h1
    unfold SeqAt.shaped at a1
    rw [Bool.and_eq_true, decide_eq_true_eq] at a1
    have e := sizeLine_eq
    exact ⟨v, _, rfl, s.dp a2, a1.1, a1.2, sho_py _ h2, by have := shown_cost _ a2; omega, k _ _ G H h w (Grow.refl _ _) (.str _)⟩
  · exact h.elim
end

/-! ### methods of texts -/
section
variable {K : PySem.W.Frag}
def isTxt : D → Prop
  | .str _ => True
  | _ => False
theorem txt_ty : ∀ G H d v, isTxt d → Sh K G H d v → tyV K "str" v H := fun G H d v t s => by
  unfold isTxt at t
  split at t
  · cases s.s; rfl
  · exact t.elim
def oSplit : D → List D → (R → Prop) → Prop
  | .str a, [.str b], Φ => (b.length == 0) = false ∧ a.length + 2 ≤ sizeLine ∧ Φ (.ow (.lst ((Txt.split a b).map D.str)))
  | _, _, _ => False
theorem strs_repL {G : Gh} {H : Hp} : ∀ ys : List Str, RepL K G H (ys.map D.str) (ys.map V.str)
  | [] => .nil
  | y :: ys => .cons (.str y) (strs_repL ys)
theorem opm_split : OpM K "str" oSplit (fun x xs H Q => ∃ a b, x = .str a ∧ xs = [.str b] ∧ (b.length == 0) = false ∧ a.length + 2 ≤ sizeLine ∧ rNewStrs (Txt.split a b) H Q) := fun G H d v ds vs Φ Q w s hl hs h k => by
  unfold oSplit at h
  split at h
  · obtain ⟨u, rfl, su⟩ := one_sh hl hs
    cases s.s; cases su.s
    exact ⟨_, _, rfl, rfl, h.1, h.2.1, new_lst w k (strs_repL _) h.2.2⟩
  · exact h.elim
def strsD : List D → Option (List Str)
  | [] => some []
  | .str i :: ds => (strsD ds).map (i :: ·)
  | _ :: _ => none
theorem strsD_rep {G : Gh} {H : Hp} : ∀ {ds : List D} {xs : List V} {ns : List Str}, RepL K G H ds xs → strsD ds = some ns → xs = ns.map V.str
  | _, _, _, .nil, e => by cases e; rfl
  | .str i :: ds, _, ns, .cons r t, e => by
    cases r
    unfold strsD at e
    cases q : strsD ds with
    | none => rw [q] at e; cases e
    | some ms => rw [q] at e; cases e; rw [strsD_rep t q]; rfl
  | .non :: _, _, _, _, e => by cases e
  | .bl _ :: _, _, _, _, e => by cases e
  | .int _ :: _, _, _, _, e => by cases e
  | .tup _ :: _, _, _, _, e => by cases e
  | .lst _ :: _, _, _, _, e => by cases e
  | .bag :: _, _, _, _, e => by cases e
  | .scr :: _, _, _, _, e => by cases e
  | .fn _ :: _, _, _, _, e => by cases e
  | .dct _ _ :: _, _, _, _, e => by cases e
  | .dcu _ _ :: _, _, _, _, e => by cases e
  | .ins _ _ _ :: _, _, _, _, e => by cases e
  | .unk :: _, _, _, _, e => by cases e
theorem strsD_map : ∀ ys : List Str, strsD (ys.map D.str) = some ys
  | [] => rfl
  | y :: ys => by show (strsD (ys.map D.str)).map (y :: ·) = _; rw [strsD_map ys]; rfl
def oJoin : D → List D → (R → Prop) → Prop
  | .str a, [.lst ds], Φ => ∃ ys, strsD ds = some ys ∧ (ys.map (·.length)).sum + ys.length * a.length ≤ 16777216 ∧ Φ (.fr (.str (Txt.join a ys)))
  | .str a, [.tup ds], Φ => ∃ ys, strsD ds = some ys ∧ (ys.map (·.length)).sum + ys.length * a.length ≤ 16777216 ∧ Φ (.fr (.str (Txt.join a ys)))
  | _, _, _ => False
theorem opm_join : OpM K "str" oJoin (fun x xs H Q => ∃ a p, ∃ ys : List Str, x = .str a ∧ xs = [.ref p] ∧ (SqL K H p (ys.map V.str) ∨ SqT K H p (ys.map V.str)) ∧ (ys.map (·.length)).sum + ys.length * a.length ≤ 16777216 ∧ Q (.str (Txt.join a ys)) H) := fun G H d v ds vs Φ Q w s hl hs h k => by
  unfold oJoin at h
  split at h
  · obtain ⟨u, rfl, su⟩ := one_sh hl hs
    obtain ⟨ys, ey, hz, h⟩ := h
    cases s.s
    obtain ⟨p, xs, rfl, e, r⟩ := su.list
    have ex := strsD_rep r ey
    subst ex
    exact ⟨_, p, ys, rfl, rfl, .inl e, hz, k _ _ G H h w (Grow.refl _ _) (.str _)⟩
  · obtain ⟨u, rfl, su⟩ := one_sh hl hs
    obtain ⟨ys, ey, hz, h⟩ := h
    cases s.s
    obtain ⟨p, xs, rfl, e, r⟩ := su.tuple
    have ex := strsD_rep r ey
    subst ex
    exact ⟨_, p, ys, rfl, rfl, .inr e, hz, k _ _ G H h w (Grow.refl _ _) (.str _)⟩
  · exact h.elim
def oSIndex : D → List D → (R → Prop) → Prop
  | .str a, [.str b], Φ => ∃ i rest, Builtin.Str.occurrences a b 0 a.length 1 = i :: rest ∧ Φ (.fr (.int (i : Nat)))
  | _, _, _ => False
theorem opm_sindex : OpM K "str" oSIndex (fun x xs H Q => ∃ a b i rest, x = .str a ∧ xs = [.str b] ∧ Builtin.Str.occurrences a b 0 a.length 1 = i :: rest ∧ Q (.int (i : Nat)) H) := fun G H d v ds vs Φ Q w s hl hs h k => by
  unfold oSIndex at h
  split at h
  · obtain ⟨u, rfl, su⟩ := one_sh hl hs
    obtain ⟨i, rest, e, h⟩ := h
    cases s.s; cases su.s
    exact ⟨_, _, i, rest, rfl, rfl, e, k _ _ G H h w (Grow.refl _ _) (.int _)⟩
  · exact h.elim

/-! ### changes of one's own list -/
/-- by values, all handed in being frozen -/
def OpF (K : PySem.W.Frag) (o : List D → List D → (List D → Prop) → Prop) (rr : V → List V → Hp → VK → Prop) : Prop :=
  ∀ G H a xs ds es vs Φ Q, Wd G H → H a = some (.lst xs) → RepL K G H ds xs → RepL K G H es vs → (∀ b, G.F b → b ≠ a) → o ds es Φ → (∀ ds' ys v', Φ ds' → RepL K G H ds' ys → Q v' (upd H a (.lst ys))) → rr (.ref a) vs H Q
def sMutF (o : List D → List D → (List D → Prop) → Prop) (i : Nat) (ws : WA) : WS := fun ρ S => match ρ[i]? with
  | some (.ow (.lst _)) => ws ρ fun rs ρ' => match ρ'[i]?, frs' rs with
    | some (.ow (.lst ds)), some es => o ds es fun ds' => S.nx (ρ'.set i (.ow (.lst ds')))
    | _, _ => False
  | _ => False
end
section
variable {X : Cx} {G0 : Gh} {H0 : Hp} {es : List Expr} {ws : WA} {pos : Pos} {K : PySem.W.Frag}
theorem tmutF {i : Nat} {o : List D → List D → (List D → Prop) → Prop} {rr : V → List V → Hp → VK → Prop} (ho : OpF K o rr) {D : Ends} {σ : L2.St} {H : Hp} (h : TSX K G0 H0 (sMutF o i ws) D σ H) :
    tDrop (tBM K "list" rr (tVar i) (TAX K G0 H0 ws)) D σ H := by
  obtain ⟨ρ, G, S, s, h, k⟩ := h
  unfold sMutF at h
  split at h
  · rename_i d0 e
    obtain ⟨a, e1, o1, z1⟩ := s.ow i _ e
    obtain ⟨xs0, hx0, _⟩ := o1.2.2
    refine ⟨.ref a, e1, ?_, ρ, G, _, s, h, fun rs ρ' vs G' H' q s' P L x => ?_⟩
    · exact .inl ⟨rfl, _, .inl (.inl hx0)⟩
    · split at q
      · rename_i ds es e2 e4
        obtain ⟨a2, e3, o2, z2⟩ := s'.ow i _ e2
        rw [e1] at e3; cases e3
        obtain ⟨xs, hx, rx⟩ := o2.2.2
        refine ho G' H' a xs ds es vs _ _ s'.wd hx rx (frs_rep x e4) (fun b hb z => o2.1 (z ▸ hb)) q fun ds' ys v' φ ry => ?_
        have f : FE G' H' G' (upd H' a (.lst ys)) := FE.wr hx o2.1
        obtain ⟨s2, f2⟩ := s'.write (d' := .lst ds') (o := .lst ys) e2 e1 hx ⟨ys, upd_same, ry.fe f⟩
        exact k.nx _ G' _ _ φ s2 ((P.fe s.wd).trans f2)
      · exact q.elim
  · exact h.elim
theorem s_mutF {i : Nat} {x name : Str} {p apos : Pos} {o : List D → List D → (List D → Prop) → Prop} {rr : V → List V → Hp → VK → Prop} (pe : ∀ {to : TE} {t : TA}, PE X (.Name x p) to → PA X es t → PE X (.Call (.Attribute (.Name x p) name apos) es [] pos) (tBM X.K "list" rr to t))
    (ho : OpF X.K o rr) (ha : PAI X G0 H0 es ws) {pos' : Pos} (hN : X.N[i]? = some x := by rfl) (hv : Vis X.env.scope x := by first | exact Or.inl rfl | exact Or.inr (Or.inl rfl) | exact Or.inr (Or.inr rfl)) (hd : (x == ("__debug__" : Str)) = false := by decide)
    (hcd : (x == ("__classdict__" : Str)) = false := by decide) (hs : swapsWith (.Call (.Attribute (.Name x p) name apos) es [] pos) none pos'.line X.env = pure false := by rfl) :
    PSI X G0 H0 (.Expr (.Call (.Attribute (.Name x p) name apos) es [] pos) pos') (sMutF o i ws) :=
  ps_imp (ps_expr (pe (pe_var hN hv hd hcd) ha) hs) fun _ _ _ h => tmutF ho h
/-- .. with no argument -/
def sMut0 (o : List D → (List D → Prop) → Prop) (i : Nat) : WS := fun ρ S => match ρ[i]? with
  | some (.ow (.lst ds)) => o ds fun ds' => S.nx (ρ.set i (.ow (.lst ds')))
  | _ => False
theorem s_mut0 {i : Nat} {x name : Str} {p apos : Pos} {o : List D → (List D → Prop) → Prop} {rr : V → List V → Hp → VK → Prop} (pe : ∀ {to : TE}, PE X (.Name x p) to → PE X (.Call (.Attribute (.Name x p) name apos) [] [] pos) (tBM0 X.K "list" rr to))
    (ho : ∀ G H a xs ds Φ Q, H a = some (.lst xs) → RepL X.K G H ds xs → o ds Φ → (∀ ds' ys v', Φ ds' → RepL X.K G H ds' ys → Q v' (upd H a (.lst ys))) → rr (.ref a) [] H Q) {pos' : Pos} (hN : X.N[i]? = some x := by rfl) (hv : Vis X.env.scope x := by first | exact Or.inl rfl | exact Or.inr (Or.inl rfl) | exact Or.inr (Or.inr rfl)) (hd : (x == ("__debug__" : Str)) = false := by decide)
    (hcd : (x == ("__classdict__" : Str)) = false := by decide) (hs : swapsWith (.Call (.Attribute (.Name x p) name apos) [] [] pos) none pos'.line X.env = pure false := by rfl) :
    PSI X G0 H0 (.Expr (.Call (.Attribute (.Name x p) name apos) [] [] pos) pos') (sMut0 o i) := by
  refine ps_imp (ps_expr (pe (pe_var hN hv hd hcd)) hs) fun D σ H h => ?_
  obtain ⟨ρ, G, S, s, h, k⟩ := h
  unfold sMut0 at h
  split at h
  · rename_i ds e
    obtain ⟨a, e1, o1, z1⟩ := s.ow i _ e
    obtain ⟨xs, hx, rx⟩ := o1.2.2
    refine ⟨.ref a, e1, .inl ⟨rfl, _, .inl (.inl hx)⟩, ?_⟩
    refine ho G H a xs ds _ _ hx rx h fun ds' ys v' φ ry => ?_
    have f : FE G H G (upd H a (.lst ys)) := FE.wr hx o1.1
    obtain ⟨s2, f2⟩ := s.write (d' := .lst ds') (o := .lst ys) e e1 hx ⟨ys, upd_same, ry.fe f⟩
    exact k.nx _ G _ _ φ s2 f2
  · exact h.elim
def owApp : List D → List D → (List D → Prop) → Prop
  | ds, [d], Φ => ds.length < sizeLine ∧ Φ (ds ++ [d])
  | _, _, _ => False
theorem RepL.snoc {G : Gh} {H : Hp} {ds : List D} {xs : List V} {d : D} {v : V} (r : RepL K G H ds xs) (x : Rep K G H d v) : RepL K G H (ds ++ [d]) (xs ++ [v]) := r.append (.cons x .nil)
theorem opf_app : OpF K owApp rAppend := fun G H a xs ds es vs Φ Q w hx rx re _ h k => by
  unfold owApp at h
  split at h
  · cases re with
    | cons r1 r2 =>
      cases r2
      exact ⟨a, xs, _, rfl, rfl, hx, by rw [← rx.length]; exact h.1, k _ _ _ h.2 (rx.snoc r1)⟩
  · exact h.elim
def owExt : List D → List D → (List D → Prop) → Prop
  | ds, [.lst es], Φ => ds.length + es.length ≤ sizeLine ∧ Φ (ds ++ es)
  | _, _, _ => False
theorem opf_ext : OpF K owExt rExtend := fun G H a xs ds es vs Φ Q w hx rx re _ h k => by
  unfold owExt at h
  split at h
  · cases re with
    | cons r1 r2 =>
      cases r2
      cases r1 with
      | lst l r1 => exact ⟨a, _, xs, _, rfl, rfl, hx, l.2, by rw [← rx.length, ← r1.length]; exact h.1, k _ _ _ h.2 (rx.append r1)⟩
  · exact h.elim
def owIns : List D → List D → (List D → Prop) → Prop
  | ds, [.int i, d], Φ => ds.length < sizeLine ∧ 0 ≤ i ∧ i < 2 ^ 63 ∧ Φ (ds.take i.toNat ++ [d] ++ ds.drop i.toNat)
  | _, _, _ => False
theorem opf_ins : OpF K owIns (fun x vs H Q => ∃ (l : Addr) (xs : List V) (i : Int) (y : V), x = .ref l ∧ vs = [.int i, y] ∧ H l = some (.lst xs) ∧ xs.length < sizeLine ∧ 0 ≤ i ∧ i < 2 ^ 63 ∧
    Q .non (upd H l (.lst (xs.take i.toNat ++ [y] ++ xs.drop i.toNat)))) := fun G H a xs ds es vs Φ Q w hx rx re _ h k => by
  unfold owIns at h
  split at h
  · cases re with
    | cons r1 r2 =>
      cases r1
      cases r2 with
      | cons r2 r3 =>
        cases r3
        exact ⟨a, xs, _, _, rfl, rfl, hx, by rw [← rx.length]; exact h.1, h.2.1, h.2.2.1, k _ _ _ h.2.2.2 (((rx.take _).snoc r2).append (rx.drop _))⟩
  · exact h.elim

/-! ### x op= y -/
theorem ip_of {op : Operator} {r : R2} (h : OpR X (inplaceOp op) r) : PIp X op r := fun pins s σ H x y v u Q I r1 r2 q => h pins s σ H x y v u Q I r1 r2 q
def aAdd : D → D → (D → Prop) → Prop
  | .int i, .int j, Φ => Φ (.int (i + j))
  | .str a, .str b, Φ => a.length + b.length ≤ sizeLine ∧ Φ (.str (a ++ b))
  | _, _, _ => False
def rIAdd : R2 := fun x y H Q => (rI0 fun i j => .int (i + j)) x y H Q ∨ ∃ i j, x = .str i ∧ y = .str j ∧ i.length + j.length ≤ sizeLine ∧ Q (.str (i ++ j)) H
theorem ip_addA : PIp X .Add rIAdd := ip_of (iop_add.or iop_add_str)
theorem opi_add : OpI K aAdd rIAdd := fun G H d e v u Φ Q w s1 s2 h k => by
  unfold aAdd at h
  split at h
  · cases s1; cases s2.i
    exact .inl ⟨_, _, rfl, rfl, k _ _ h fun _ _ => .int _⟩
  · cases s1; cases s2.s
    exact .inr ⟨_, _, rfl, rfl, h.1, k _ _ h.2 fun _ _ => .str _⟩
  · exact h.elim
def aInt (C : Int → Int → Prop) (g : Int → Int → Int) : D → D → (D → Prop) → Prop
  | .int i, .int j, Φ => C i j ∧ Φ (.int (g i j))
  | _, _, _ => False
theorem opi_int {C : Int → Int → Prop} {g : Int → Int → Int} : OpI K (aInt C g) (rI C fun i j => .int (g i j)) := fun G H d e v u Φ Q w s1 s2 h k => by
  unfold aInt at h
  split at h
  · cases s1; cases s2.i
    exact ⟨_, _, rfl, rfl, h.1, k _ _ h.2 fun _ _ => .int _⟩
  · exact h.elim
abbrev aSub := aInt (fun _ _ => True) fun i j => i - j
theorem ip_subA : PIp X .Sub (rI (fun _ _ => True) fun i j => .int (i - j)) := fun pins s σ H x y v u Q I r1 r2 h => by
  obtain ⟨i, j, e1, e2, _, q⟩ := h
  exact (ip_of iop_sub) pins s σ H x y v u Q I r1 r2 ⟨i, j, e1, e2, q⟩
abbrev aMul := aInt CMul fun i j => i * j
abbrev aDiv := aInt CDiv fun i j => i / j
abbrev aMod := aInt (fun _ j => 0 < j) fun i j => i % j

/-! ### or, by truth -/
variable {a b : Expr} {rest : List Expr} {wa wb : WE}
def wOrT (wa wb : WE) : WE := fun ρ Φ => wa ρ fun r ρ' => match truD r.d with
  | some true => Φ r ρ'
  | some false => wb ρ' Φ
  | none => False
theorem i_orT (ha : PEI X G0 H0 a wa) (hb : PEI X G0 H0 (.BoolOp .Or (b :: rest) pos) wb) : PEI X G0 H0 (.BoolOp .Or (a :: b :: rest) pos) (wOrT wa wb) := by
  refine pe_imp (pe_orT ha hb) fun σ H Q h => ?_
  obtain ⟨ρ, G, Φ, S, h, c⟩ := h
  refine ⟨ρ, G, _, S, h, fun r ρ' v G' H' q S' P L x => ?_⟩
  split at q
  · rename_i e
    exact ⟨true, truD_ok x.sh e, iteT (c r ρ' v G' H' q S' P L x)⟩
  · rename_i e
    exact ⟨false, truD_ok x.sh e, iteF ⟨ρ', G', Φ, S', q, fun r2 ρ2 v2 G2 H2 q2 S2 P2 L2 x2 => c r2 ρ2 v2 G2 H2 q2 S2 (P.trans S'.wd P2 L) (L2.trans L) (x2.back fun a z => P.nn S'.wd z)⟩⟩
  · exact q.elim

/-! ### several names at once -/
theorem Sta.put' {G : Gh} {H : Hp} {σ : L2.St} {ρ : En} {r : R} {w : V} {i : Nat} (s : Sta K G0 H0 ρ G H σ) (hi : i < ρ.length) (x : RepR K G H H0 r w) (hf : ∀ d a, r = .ow d → w = .ref a → ¬ OwnA ρ σ a) (ok : r.ok) : Sta K G0 H0 (ρ.set i r.cell) G H (σ.set i (some w)) := by
  have hσ : i < σ.length := by rw [← s.ln]; exact hi
  refine ⟨s.wd, s.ex, s.w0, fun j d e => ?_, fun j d e => ?_, fun j k d d' a e1 e2 e3 e4 => ?_, by rw [List.length_set, List.length_set]; exact s.ln, fun j c q => by
      by_cases hj : i = j
      · subst hj; rw [List.getElem?_set_self hi] at q; cases r <;> cases q
      · rw [List.getElem?_set_ne hj] at q ⊢; exact s.bo j c q⟩
  · by_cases hj : i = j
    · subst hj
      rw [List.getElem?_set_self hi] at e
      refine ⟨w, List.getElem?_set_self hσ, ?_⟩
      cases r <;> cases e
      exact x
    · rw [List.getElem?_set_ne hj] at e ⊢
      exact s.fr j d e
  · by_cases hj : i = j
    · subst hj
      rw [List.getElem?_set_self hi] at e
      cases r <;> cases e
      obtain ⟨a, ea, o, z⟩ := x
      exact ⟨a, by rw [ea]; exact List.getElem?_set_self hσ, o, z⟩
    · rw [List.getElem?_set_ne hj] at e ⊢
      exact s.ow j d e
  · have old : ∀ {m : Nat} {d : D}, m ≠ i → (ρ.set i r.cell)[m]? = some (.ow d) → (σ.set i (some w))[m]? = some (some (.ref a)) → OwnA ρ σ a := fun {m d} hm q1 q2 => by
      rw [List.getElem?_set_ne (Ne.symm hm)] at q1 q2
      exact ⟨m, d, q1, q2⟩
    have new : ∀ {d : D}, (ρ.set i r.cell)[i]? = some (.ow d) → (σ.set i (some w))[i]? = some (some (.ref a)) → ¬ OwnA ρ σ a := fun {d} q1 q2 => by
      rw [List.getElem?_set_self hi] at q1
      rw [List.getElem?_set_self hσ] at q2
      cases r <;> cases q1
      cases q2
      exact hf _ a rfl rfl
    by_cases hj : j = i
    · by_cases hk : k = i
      · rw [hj, hk]
      · subst hj
        exact absurd (old hk e2 e4) (new e1 e3)
    · by_cases hk : k = i
      · subst hk
        exact absurd (old hj e1 e3) (new e2 e4)
      · rw [List.getElem?_set_ne (Ne.symm hj)] at e1 e3
        rw [List.getElem?_set_ne (Ne.symm hk)] at e2 e4
        exact s.ds j k d d' a e1 e2 e3 e4
theorem OwnA.put {ρ : En} {σ : L2.St} {i : Nat} {r : R} {w : V} {a : Addr} (h : OwnA (ρ.set i r.cell) (σ.set i (some w)) a) : OwnA ρ σ a ∨ ((∃ d, r = .ow d) ∧ w = .ref a) := by
  obtain ⟨j, d, e1, e2⟩ := h
  by_cases hj : i = j
  · subst hj
    rw [List.getElem?_set] at e1 e2
    rw [if_pos rfl] at e1 e2
    split at e1
    · split at e2
      · refine .inr ⟨?_, by simpa using e2⟩
        cases r with
        | ow d' => exact ⟨d', rfl⟩
        | fr d' => cases e1
        | bo d' => cases e1
      · cases e2
    · cases e1
  · rw [List.getElem?_set_ne hj] at e1 e2
    exact .inl ⟨j, d, e1, e2⟩
def sPar (i j : Nat) (ws : WA) : WS := fun ρ S => ws ρ fun rs ρ' => match rs with
  | [r1, r2] => (i < ρ'.length ∧ j < ρ'.length) ∧ (r1.ok ∧ r2.ok) ∧ S.nx ((ρ'.set i r1.cell).set j r2.cell)
  | _ => False
theorem s_par {i j : Nat} {x y : Str} {px py pt : Pos} {kt k2 pt2} (hc : X.calm = true) (hN : X.N.Nodup) (hi : X.N[i]? = some x) (hj : X.N[j]? = some y) (hij : i ≠ j)
    (hx : X.env.scope.names.lookup x = some .local) (hy : X.env.scope.names.lookup y = some .local) (ha : PAI X G0 H0 [a, b] ws)
    (hw : swappedStores [.Tuple [.Name x px, .Name y py] kt pt] (.Tuple [a, b] k2 pt2) X.env = pure (some [x, y]))
    (hs : swapsWithSole [.Tuple [.Name x px, .Name y py] kt pt] (.Tuple [a, b] k2 pt2) pos.line X.env = pure false := by rfl) :
    PSI X G0 H0 (.Assign [.Tuple [.Name x px, .Name y py] kt pt] (.Tuple [a, b] k2 pt2) pos) (sPar i j ws) := by
  refine ps_imp (ps_par hc hN hi hj hij hx hy ha hw hs) fun D σ H h => ?_
  obtain ⟨ρ, G, S, s, h, k⟩ := h
  refine ⟨ρ, G, _, s, h, fun rs ρ' vs G' H' q s' P L x => ?_⟩
  split at q
  · rename_i r1 r2
    obtain ⟨⟨h1, h2⟩, ⟨o1, o2⟩, q⟩ := q
    cases x with
    | cons x1 xr n1 =>
      rename_i v1 vr
      cases xr with
      | cons x2 xr n2 =>
        rename_i v2 vr2
        cases xr
        refine ⟨v1, v2, rfl, k.nx _ G' H' _ q ?_ (P.fe s.wd)⟩
        have fresh : ∀ {r : R} {v : V}, RepR X.K G' H' H r v → ∀ d a, r = .ow d → v = .ref a → ¬ OwnA ρ' σ a := fun {r v} xr d a e1 e2 z => by
          subst e1 e2
          obtain ⟨a', ea, _, hn⟩ := xr
          cases ea
          exact s.hO L a z hn
        have s1 := s'.put' h1 (x1.back fun a z => s.none0 z) (fresh x1) o1
        refine s1.put' (by rw [List.length_set]; exact h2) (x2.back fun a z => s.none0 z) (fun d a e1 e2 z => ?_) o2
        rcases z.put with z | ⟨⟨d', e3⟩, e4⟩
        · exact fresh x2 d a e1 e2 z
        · exact n1 d' e3 (r2, v2) List.mem_cons_self ⟨d, e1⟩ (by rw [e2, e4])
  · exact q.elim
end
end Tv
/-! Tv11: walks over texts, pairs. -/
namespace Tv
open PySem PySem.Spec PyProof.Rows L2

section
variable {X : Cx} {G0 : Gh} {H0 : Hp} {e e2 tg : Expr} {wa : WE} {ws : WA} {pos p tpos : Pos} {K : PySem.W.Frag} {G : Gh} {H : Hp} {elts : List Expr} {kk : Nat}
/-- the signs of a text -/
def sgD (x : Str) : List D := x.cps.toList.map fun c => .str ⟨#[c]⟩
theorem sgD_get {x : Str} {i : Nat} {d : D} (h : (sgD x)[i]? = some d) : ∃ c, x.cps[i]? = some c ∧ d = .str ⟨#[c]⟩ := by
  unfold sgD at h
  rw [List.getElem?_map] at h
  cases q : x.cps.toList[i]? with
  | none => rw [q] at h; cases h
  | some c => rw [q] at h; cases h; exact ⟨c, by rw [← q]; simp, rfl⟩
theorem itr_str {x : Str} : ItR K (Its x) G H (sgD x) := fun i G' H' w f => by
  refine ⟨fun h => by
    unfold sgD at h
    rw [List.length_map, Array.length_toList] at h
    exact h, fun d e => ?_⟩
  obtain ⟨c, hc, rfl⟩ := sgD_get e
  refine ⟨(Array.getElem?_eq_some_iff.mp hc).1, fun v H'' y => ⟨G', by rw [y.1]; exact w, by rw [y.1]; exact Grow.refl _ _, ?_⟩⟩
  obtain ⟨c', hc', rfl⟩ := y.2
  rw [hc] at hc'; cases hc'
  rw [y.1]; exact .str _
def wStrI (wa : WE) : WI := fun ρ Φ => wa ρ fun r ρ' => match r.d with
  | .str x => Φ (sgD x) ρ'
  | _ => False
theorem p_str (h : PEI X G0 H0 e wa) : PII X G0 H0 tg e (wStrI wa) := by
  refine pi_imp (pi_str h) fun σ H R' h => ?_
  obtain ⟨ρ, G, Φ, S, h, c⟩ := h
  refine ⟨ρ, G, _, S, h, fun r ρ' v G' H' q S' P L x => ?_⟩
  split at q
  · rename_i y ey
    have x' := x.sh
    rw [ey] at x'
    exact ⟨y, x'.s, c _ ρ' _ G' H' q S' P L itr_str⟩
  · exact q.elim

/-! ### enumerate -/
def enD (ds : List D) : List D := ds.mapIdx fun i d => .tup [.int (i : Nat), d]
theorem enD_len (ds : List D) : (enD ds).length = ds.length := by simp [enD]
theorem enD_get {ds : List D} {i : Nat} {d : D} (h : (enD ds)[i]? = some d) : ∃ d', ds[i]? = some d' ∧ d = .tup [.int (i : Nat), d'] := by
  unfold enD at h
  rw [List.getElem?_mapIdx] at h
  cases q : ds[i]? with
  | none => rw [q] at h; cases h
  | some d' => rw [q] at h; cases h; exact ⟨d', rfl, rfl⟩
theorem itr_enum {a : Addr} {xs : List V} {ds : List D} (l : LsF G H a xs) (r : RepL K G H ds xs) : ItR K (Ite K a) G H (enD ds) := fun i G' H' w f => by
  have l' := l.fe f
  have r' := r.fe f
  refine ⟨fun h => ⟨xs, l'.sq, by rw [enD_len] at h; rw [← r.length]; exact h⟩, fun d e => ?_⟩
  obtain ⟨d', e1, rfl⟩ := enD_get e
  obtain ⟨v, e2, rv⟩ := r'.get e1
  refine ⟨⟨xs, v, l'.sq, e2⟩, fun x H'' y => ?_⟩
  obtain ⟨T, x', rfl, hT, rfl, hx⟩ := y
  have e3 := hx xs l'.sq
  rw [e2] at e3
  cases e3
  exact ⟨G', w.laid hT, Grow.laid hT, .tup (SqT.of upd_same) (.cons (.int _) (.cons (rv.fe ((Grow.laid hT).fe w)) .nil))⟩
def wEnum (ws : WA) : WI := fun ρ Φ => ws ρ fun rs ρ' => match rs with
  | [.fr (.lst ds)] => Φ (enD ds) ρ'
  | _ => False
theorem p_enum (hg : Gl X "enumerate") (hm : X.mg "enumerate" = none) (ha : PAI X G0 H0 [e] ws) (hs : starEach [e] X.env = [(false, eval e X.env)] := by rfl) : PII X G0 H0 (.Tuple elts kk tpos) (.Call (.Name "enumerate" p) [e] [] pos) (wEnum ws) := by
  refine pi_imp (pi_enum hg hm ha hs) fun σ H R' h => ?_
  obtain ⟨ρ, G, Φ, S, h, c⟩ := h
  refine ⟨ρ, G, _, S, h, fun rs ρ' vs G' H' q S' P L x => ?_⟩
  split at q
  · cases x with
    | cons x1 xr n =>
      cases xr
      cases x1 with
      | lst l r => exact ⟨_, _, rfl, l.sq, c _ ρ' _ G' H' q S' P L (itr_enum l r)⟩
  · exact q.elim

/-! ### enumerate(text) -/
def IteS (x : Str) : It :=
  ⟨fun i _ => i < x.cps.size, fun i H v H' => ∃ T c, v = .ref T ∧ H T = none ∧ H' = upd H T (.tup [.int (i : Nat), .str ⟨#[c]⟩]) ∧ x.cps[i]? = some c, fun i _ => x.cps.size ≤ i⟩
theorem turn_enumS {P : Program} {w : World} {e it : Addr} {x : Str} {t : Tok} :
    Turn P w K (.Tuple elts kk tpos) (IteS x) [e, it] e (fun i h => (∃ old, IsEnum h e it ((i : Nat) : Int) old) ∧ h.IsStrIter it (strIterType x) x t i ∧ e ≠ it) where
  mem := by simp
  obj := fun i h st b hb => by
    obtain ⟨⟨old, he⟩, ⟨o, ho, hc, hd⟩, _⟩ := st
    rcases (show b = e ∨ b = it by simpa using hb) with rfl | rfl
    · exact ⟨_, he, fun v q => nomatch q⟩
    · exact ⟨o, ho, fun v q => by rw [hd] at q; cases q⟩
  keep := fun i h h' st k => by
    obtain ⟨⟨old, he⟩, ⟨o, ho, r⟩, hne⟩ := st
    exact ⟨⟨old, k e (by simp) _ he⟩, ⟨o, k it (by simp) o ho, r⟩, hne⟩
  item := by
    intro X hP hw hK hc i pins s σ H E I hf st hg
    subst hP hw hK
    obtain ⟨⟨old, he⟩, hit, hne⟩ := st
    have hel : e < s.heap.objs.size := Heap.lt_size he
    have hil : it < s.heap.objs.size := by obtain ⟨_, q, _⟩ := hit; exact Heap.lt_size q
    have D : Draws X.prog X.w X.A.in1 it [it] x.cps.size (fun i v => ∃ c u, x.cps[i]? = some c ∧ v = .str ⟨#[c]⟩ u) (fun i h => h.IsStrIter it (strIterType x) x t i) := by
      unfold strIterType
      split
      · exact Draws.strAscii (A := X.A.in1) (I.ok.hd hc) it x t
      · exact Draws.strWide (A := X.A.in1) (I.ok.hd hc) it x t
    refine wpAny_pyNext_enum_itemD D he hit hg hne (by simpa using hne) fun v h' tk hv ho hit' hT hsz hk => ?_
    obtain ⟨c, u, hcx, rfl⟩ := hv
    refine ⟨_, rfl, wpAny_letOwnedTupleGo_enum (s := { s with heap := h', toks := tk + 1 }) ho fun h'' he' sb => ?_⟩
    have hT2 : h''.get? s.heap.objs.size = some { cls := .type "tuple", data := .seq #[.int i tk, .str ⟨#[c]⟩ u] } := (sb.2 _ (Nat.ne_of_gt hel)).trans hT
    have new : ObjOk X.prog X.w (upd H s.heap.objs.size (.tup [.int (i : Nat), .str ⟨#[c]⟩])) h'' s.heap.objs.size (.tup [.int (i : Nat), .str ⟨#[c]⟩]) :=
      ⟨by show 2 ≤ sizeLine; decide, [.int i tk, .str ⟨#[c]⟩ u], .cons ⟨_, rfl⟩ (.cons ⟨_, rfl⟩ .nil), ⟨_, hT2, rfl, _, rfl⟩⟩
    have I1 : Inv X pins σ (upd H s.heap.objs.size (.tup [.int (i : Nat), .str ⟨#[c]⟩])) { s with heap := h'', toks := tk + 1 } :=
      I.turnedNew (ch := [e, it]) (fun b ob hb q => (sb.2 b (fun z => hb (by simp [z]))).trans (hk b ob (fun z => hb (by simp [z])) (fun z => hb (by simp [z])) q)) hf (Nat.le_refl _) new
    refine ⟨.ref s.heap.objs.size, _, I1, rfl, ⟨_, c, rfl, I.hok.fresh (Nat.le_refl _), rfl, hcx⟩, ⟨⟨_, by rw [Int.natCast_add]; exact he'⟩, ?_, hne⟩, fun b hb => ?_⟩
    · obtain ⟨o, q, r⟩ := hit'
      exact ⟨o, (sb.2 it (Ne.symm hne)).trans q, r⟩
    · have hlt : b < s.heap.objs.size := by
        rcases (show b = e ∨ b = it by simpa using hb) with rfl | rfl
        · exact hel
        · exact hil
      rw [upd_ne (Nat.ne_of_lt hlt)]
      exact (hf b hb).1
  done := by
    intro X hP hw hK hc i pins s σ H E I hf st hg
    subst hP hw hK
    obtain ⟨⟨old, he⟩, hit, hne⟩ := st
    have hx : x.cps[i]? = none := Array.getElem?_eq_none hg
    have D : Draws X.prog X.w X.A.in1 it [it] i (fun _ _ => False) (fun j h => j = i ∧ h.IsStrIter it (strIterType x) x t i) := by
      refine ⟨fun _ _ st => let ⟨_, o, ho, _⟩ := st; ⟨o, ho⟩, fun _ _ _ st hk => let ⟨e, o, ho, r⟩ := st; ⟨e, o, hk it (by simp) o ho, r⟩, fun j s Q E hj st hQ => absurd st.1 (Nat.ne_of_lt hj), fun s Q E st hE => ?_⟩
      have st := st.2
      unfold strIterType at st
      split at st
      · exact wpAny_nextOf_ascii_end (A := X.A.in1) (I.ok.hd hc) st hx hE
      · exact wpAny_nextOf_wide_end (A := X.A.in1) (I.ok.hd hc) st hx hE
    obtain ⟨f0, f1, f2, f3, f4, f5⟩ := hf it (by simp)
    exact wpAny_pyNext_enum_endD D he ⟨rfl, hit⟩ fun h' eb => ⟨rfl, I.turned (t' := s.toks) (fun b o hb q => eb b o hb q) f0 f1 f3 f4 f5⟩
  self := fun A i s Q E st h => let ⟨⟨_, he⟩, _⟩ := st; wpAny_pyIter_enum he h
theorem itr_enumS {x : Str} : ItR K (IteS x) G H (enD (sgD x)) := fun i G' H' w f => by
  refine ⟨fun h => by
    rw [enD_len] at h
    unfold sgD at h
    rw [List.length_map, Array.length_toList] at h
    exact h, fun d e => ?_⟩
  obtain ⟨d', e1, rfl⟩ := enD_get e
  obtain ⟨c, hc, rfl⟩ := sgD_get e1
  refine ⟨(Array.getElem?_eq_some_iff.mp hc).1, fun v H'' y => ?_⟩
  obtain ⟨T, c', rfl, hT, rfl, hc'⟩ := y
  rw [hc] at hc'
  cases hc'
  exact ⟨G', w.laid hT, Grow.laid hT, .tup (SqT.of upd_same) (.cons (.int _) (.cons (.str _) .nil))⟩
def wEnumS (ws : WA) : WI := fun ρ Φ => ws ρ fun rs ρ' => match rs.map R.d with
  | [.str x] => Φ (enD (sgD x)) ρ'
  | _ => False
theorem p_enumS (hg : Gl X "enumerate") (hm : X.mg "enumerate" = none) (ha : PAI X G0 H0 [e] ws) (hs : starEach [e] X.env = [(false, eval e X.env)] := by rfl) : PII X G0 H0 (.Tuple elts kk tpos) (.Call (.Name "enumerate" p) [e] [] pos) (wEnumS ws) := by
  refine ⟨fun pins s σ H R I h => ?_⟩
  refine Call_ (ld_blt I hg hm boot_enumerate (PyProof.Rows.callWith_type1 (thn (ha.run pos pins s σ H _ I (?_ : TAX X.K G0 H0 ws σ H fun vs H1 => ∃ x, vs = [.str x] ∧ R (IteS x) H1)) fun us s1 ⟨vs, H1, I1, r1, x, ex, q⟩ => ?_) hs rfl))
  · obtain ⟨ρ, G, Φ, S, h, c⟩ := h
    refine ⟨ρ, G, _, S, h, fun rs ρ' vs G' H' q S' P L x => ?_⟩
    split at q
    · rename_i y ey
      obtain ⟨v, rfl, sv⟩ := x.one ey
      cases sv.s
      exact ⟨y, rfl, c _ ρ' _ G' H' q S' P L itr_enumS⟩
    · exact q.elim
  · subst ex
    obtain ⟨u, rfl, ru⟩ := vals1 r1
    obtain ⟨t, rfl⟩ := ru
    refine call_enumerate_str fun h' he hit hsz hk => wpAny_pyIter_enum he ?_
    have I2 : Inv X pins σ H1 { s1 with heap := h' } := I1.kept (t' := s1.toks) hk
    refine ⟨s1.heap.objs.size + 1, [s1.heap.objs.size + 1, s1.heap.objs.size], _, _, H1, rfl, I2, turn_enumS (it := s1.heap.objs.size) (x := x) (t := t), ⟨⟨.none, he⟩, hit, Nat.succ_ne_self _⟩, fun b hb => ?_, q⟩
    have hle : s1.heap.objs.size ≤ b := by
      rcases (show b = s1.heap.objs.size + 1 ∨ b = s1.heap.objs.size by simpa using hb) with z | z
      · rw [z]; exact Nat.le_add_right _ _
      · rw [z]; exact Nat.le_refl _
    exact I1.fpOk hle (I1.hok.fresh hle)

/-! ### zip -/
def zpD (xs ys : List D) : List D := List.zipWith (fun x y => D.tup [x, y]) xs ys
theorem zpD_get {xs ys : List D} {i : Nat} {d : D} (h : (zpD xs ys)[i]? = some d) : ∃ x y, xs[i]? = some x ∧ ys[i]? = some y ∧ d = .tup [x, y] := by
  unfold zpD at h
  rw [List.getElem?_zipWith] at h
  split at h
  · rename_i x y e1 e2
    cases h
    exact ⟨x, y, e1, e2, rfl⟩
  · cases h
theorem itr_zip {a b : Addr} {xs ys : List V} {ds es : List D} (l : LsF G H a xs) (r : RepL K G H ds xs) (l2 : LsF G H b ys) (r2 : RepL K G H es ys) : ItR K (Itz K a b) G H (zpD ds es) := fun i G' H' w f => by
  have l' := l.fe f
  have r' := r.fe f
  have l2' := l2.fe f
  have r2' := r2.fe f
  refine ⟨fun h => ⟨xs, ys, l'.sq, l2'.sq, ?_⟩, fun d e => ?_⟩
  · unfold zpD at h
    rw [List.length_zipWith] at h
    have e1 := r.length
    have e2 := r2.length
    omega
  · obtain ⟨d1, d2, e1, e2, rfl⟩ := zpD_get e
    obtain ⟨v, e3, rv⟩ := r'.get e1
    obtain ⟨u, e4, ru⟩ := r2'.get e2
    refine ⟨⟨xs, ys, v, u, l'.sq, l2'.sq, e3, e4⟩, fun x H'' y => ?_⟩
    obtain ⟨T, x', y', rfl, hT, rfl, hx, hy⟩ := y
    have h3 := hx xs l'.sq
    have h4 := hy ys l2'.sq
    rw [e3] at h3
    rw [e4] at h4
    cases h3; cases h4
    exact ⟨G', w.laid hT, Grow.laid hT, .tup (SqT.of upd_same) (.cons (rv.fe ((Grow.laid hT).fe w)) (.cons (ru.fe ((Grow.laid hT).fe w)) .nil))⟩
def wZip (ws : WA) : WI := fun ρ Φ => ws ρ fun rs ρ' => match rs with
  | [.fr (.lst ds), .fr (.lst es)] => Φ (zpD ds es) ρ'
  | _ => False
theorem p_zip (hg : Gl X "zip") (hm : X.mg "zip" = none) (ha : PAI X G0 H0 [e, e2] ws) (hs : starEach [e, e2] X.env = (false, eval e X.env) :: starEach [e2] X.env := by rfl) (hpl : (backTo pos (starEach [e2] X.env)).any (·.1) = false := by rfl) :
    PII X G0 H0 (.Tuple elts kk tpos) (.Call (.Name "zip" p) [e, e2] [] pos) (wZip ws) := by
  refine pi_imp (pi_zip hg hm ha hs hpl) fun σ H R' h => ?_
  obtain ⟨ρ, G, Φ, S, h, c⟩ := h
  refine ⟨ρ, G, _, S, h, fun rs ρ' vs G' H' q S' P L x => ?_⟩
  split at q
  · cases x with
    | cons x1 xr n =>
      cases xr with
      | cons x2 xr n2 =>
        cases xr
        cases x1 with
        | lst l r =>
          cases x2 with
          | lst l2 r2 => exact ⟨_, _, _, _, rfl, l.sq, l2.sq, c _ ρ' _ G' H' q S' P L (itr_zip l r l2 r2)⟩
  · exact q.elim
end
end Tv
/-! Tv12: the bag of numbers: its making, looks at it, stores into it; stores into one's own list. -/
namespace Tv
open PySem PySem.Spec PyProof.Rows L2

section
variable {X : Cx}
theorem get_list : PGet X (rIxL X.K) := by
  intro pins s σ H x y v u Q I rx ry h
  obtain ⟨p, xs, i, z, rfl, rfl, hq, he, q⟩ := h
  cases rx
  obtain ⟨t, rfl⟩ := ry
  obtain ⟨its, r, pl, hz⟩ := I.list hq
  obtain ⟨j, h1, h2, h3, h4, h5⟩ := atI_get he
  obtain ⟨w, ew, rw'⟩ := r.get h2
  have hl := r.length
  have hn := line63
  by_cases h0 : 0 ≤ i
  · have hj : i.toNat = j := by
      have e := seqIndex_of h0 h5
      rw [e] at h1
      cases h1
      rfl
    exact wpAny_getItem_list pl.isList h0 (by omega) (by rw [hj]; simpa using ew) ⟨z, H, I, rw', q⟩
  · have hj : (i + (its.toArray.size : Int)).toNat = j := by
      have e := seqIndex_neg (show i < 0 by omega) h4
      rw [e] at h1
      cases h1
      rw [List.size_toArray, ← hl]
    exact wpAny_getItem_list_neg pl.isList (by omega) (by rw [List.size_toArray] <;> omega) (by omega) (by rw [hj]; simpa using ew) ⟨z, H, I, rw', q⟩
end

section
variable {X : Cx} {G0 : Gh} {H0 : Hp} {e : Expr} {wa : WE} {ws : WA} {pos pb pc pt : Pos} {K : PySem.W.Frag} {G : Gh} {H : Hp} {a : Addr}
theorem ints_repL : ∀ ns : List Int, RepL K G H (ns.map D.int) (ns.map V.int)
  | [] => .nil
  | n :: ns => .cons (.int n) (ints_repL ns)
/-! ### looks at the bag -/
def oBag : D → D → (R → Prop) → Prop
  | .bag, .int i, Φ => if i = 0 then ∀ n, 0 ≤ n → Φ (.fr (.int n)) else if i = 1 then ∀ n, 0 ≤ n → n < 2147483647 → Φ (.fr (.int n)) else if i = 2 then ∀ n, 0 ≤ n → Φ (.fr (.int n)) else if i = 3 then ∀ ns : List Int, BagL ns → Φ (.fr (.lst (ns.map D.int))) else False
  | _, _, _ => False
theorem op2_bag : Op2 K oBag (rIx K) := fun G H d e v u Φ Q w s1 s2 h k => by
  unfold oBag at h
  split at h
  · rename_i _ i
    cases s2.i
    rcases s1 with s1 | ⟨a, _, _, s1⟩
    · cases s1 with
      | bag hb =>
        rename_i a
        obtain ⟨⟨x, y, z, r, ns, ea, lr, h1, h2, h3, h4, h5⟩, _⟩ := w.b a hb
        have l : SqL K H a [.int x, .int y, .int z, .ref r] := .inl (.inl ea)
        by_cases c0 : i = 0
        · subst c0
          exact .inl ⟨a, _, _, _, rfl, rfl, l, rfl, k _ _ G H (h x h1) w (Grow.refl _ _) (.int _)⟩
        · rw [if_neg c0] at h
          by_cases c1 : i = 1
          · subst c1
            exact .inl ⟨a, _, _, _, rfl, rfl, l, rfl, k _ _ G H (h y h2 h3) w (Grow.refl _ _) (.int _)⟩
          · rw [if_neg c1] at h
            by_cases c2 : i = 2
            · subst c2
              exact .inl ⟨a, _, _, _, rfl, rfl, l, rfl, k _ _ G H (h z h4) w (Grow.refl _ _) (.int _)⟩
            · rw [if_neg c2] at h
              by_cases c3 : i = 3
              · subst c3
                exact .inl ⟨a, _, _, _, rfl, rfl, l, rfl, k _ _ G H (h ns h5) w (Grow.refl _ _) (.lst lr (ints_repL ns))⟩
              · rw [if_neg c3] at h
                exact h.elim
    · exact s1.elim
  · exact h.elim

/-! ### stores into it -/
def bagOk (c : Int) (n : Int) : Prop := if c = 0 then 0 ≤ n else if c = 1 then 0 ≤ n ∧ n < 2147483647 else if c = 2 then 0 ≤ n else False
theorem Sta.wrBag {ρ : En} {σ : L2.St} {c n : Int} {j : Nat} {xs : List V} (s : Sta K G0 H0 ρ G H σ) (hb : G.B a) (hx : H a = some (.lst xs)) (hc : bagOk c n) (hj : ixN xs.length c = some j) : Sta K G0 H0 ρ G (upd H a (.lst (xs.set j (.int n)))) σ ∧ FE G H G (upd H a (.lst (xs.set j (.int n)))) := by
  obtain ⟨ba, hf⟩ := s.wd.b a hb
  have f : FE G H G (upd H a (.lst (xs.set j (.int n)))) := FE.wr hx hf
  refine ⟨⟨⟨fun b h => ?_, fun b h => ?_⟩, ⟨s.ex.f, s.ex.b, fun b o e nb => ?_, s.ex.nf, s.ex.nb⟩, s.w0, fun i d e => ?_, fun i d e => ?_, s.ds, s.ln, s.bo⟩, f⟩
  · obtain ⟨bb, nb⟩ := s.wd.b b h
    refine ⟨?_, nb⟩
    by_cases hba : b = a
    · subst hba
      obtain ⟨x, y, z, r, ns, ea, lr, h1, h2, h3, h4, h5⟩ := bb
      rw [hx] at ea
      cases ea
      have lr' := lr.fe f
      unfold bagOk at hc
      by_cases c0 : c = 0
      · subst c0
        obtain rfl : j = 0 := by have e : some 0 = some j := hj; cases e; rfl
        rw [if_pos rfl] at hc
        exact ⟨n, y, z, r, ns, upd_same, lr', hc, h2, h3, h4, h5⟩
      · rw [if_neg c0] at hc
        by_cases c1 : c = 1
        · subst c1
          obtain rfl : j = 1 := by have e : some 1 = some j := hj; cases e; rfl
          rw [if_pos rfl] at hc
          exact ⟨x, n, z, r, ns, upd_same, lr', h1, hc.1, hc.2, h4, h5⟩
        · rw [if_neg c1] at hc
          by_cases c2 : c = 2
          · subst c2
            obtain rfl : j = 2 := by have e : some 2 = some j := hj; cases e; rfl
            rw [if_pos rfl] at hc
            exact ⟨x, y, n, r, ns, upd_same, lr', h1, h2, h3, hc, h5⟩
          · rw [if_neg c2] at hc
            exact hc.elim
    · obtain ⟨x, y, z, r, ns, ea, lr, q⟩ := bb
      exact ⟨x, y, z, r, ns, (upd_ne hba).trans ea, lr.fe f, q⟩
  · obtain ⟨o, e⟩ := s.wd.f b h
    exact ⟨o, (upd_ne (show b ≠ a from fun z => hf (z ▸ h))).trans e⟩
  · by_cases hba : b = a
    · subst hba
      rcases s.ex.nb b hb with z | z
      · exact absurd z nb
      · rw [z] at e; cases e
    · rw [upd_ne hba]
      exact s.ex.k b o e nb
  · obtain ⟨v, e1, r⟩ := s.fr i d e
    exact ⟨v, e1, r.fe f⟩
  · obtain ⟨b, e1, ⟨p1, p2, p3⟩, z1⟩ := s.ow i d e
    have hba : b ≠ a := fun z => p2 (z ▸ hb)
    exact ⟨b, e1, ⟨p1, p2, p3.fe f fun o' z => by rw [upd_ne hba]; exact z⟩, z1⟩
def sBagSet (i : Nat) (c : Int) (wa : WE) : WS := fun ρ S => wa ρ fun r ρ' => match ρ'[i]?, r with
  | some (.fr .bag), .fr (.int n) => bagOk c n ∧ S.nx ρ'
  | _, _ => False
theorem s_bagSet {i : Nat} {x : Str} {c : Int} {j : Nat} (he : PEI X G0 H0 e wa) (hN : X.N[i]? = some x := by rfl) (hv : Vis X.env.scope x := by first | exact Or.inl rfl | exact Or.inr (Or.inl rfl) | exact Or.inr (Or.inr rfl)) (hd : (x == ("__debug__" : Str)) = false := by decide)
    (hcd : (x == ("__classdict__" : Str)) = false := by decide)
    (ha : ∀ v, assign (.Subscript (.Name x pb) (.Constant (.int c) j pc) pt) X.env v = (do
      let ov ← holding [v] (eval (.Name x pb) X.env)
      let iv ← holding [v, ov] (eval (.Constant (.int c) j pc) X.env)
      standAt pt
      holding [v, ov, iv] (setItem ov iv v)
      release [v, ov, iv] []) := by intro _; rfl)
    (hs : swapsWithSole [.Subscript (.Name x pb) (.Constant (.int c) j pc) pt] e pos.line X.env = pure false := by rfl) (hw : swappedStores [.Subscript (.Name x pb) (.Constant (.int c) j pc) pt] e X.env = pure none := by rfl)
    (h1 : (assignEach [.Subscript (.Name x pb) (.Constant (.int c) j pc) pt] X.env).map (·.2) = [assign (.Subscript (.Name x pb) (.Constant (.int c) j pc) pt) X.env] := by rfl) :
    PSI X G0 H0 (.Assign [.Subscript (.Name x pb) (.Constant (.int c) j pc) pt] e pos) (sBagSet i c wa) := by
  refine ps_imp (ps_asg he (pg_sub (pe_var hN hv hd hcd) pe_int set_list ha) hs hw h1) fun D σ H h => ?_
  obtain ⟨ρ, G, S, s, h, k⟩ := h
  refine ⟨ρ, G, _, s, h, fun r ρ' v G' H' q s' P L x => ?_⟩
  split at q
  · rename_i n e1
    cases x
    obtain ⟨w, e2, rw'⟩ := s'.fr i _ e1
    cases rw' with
    | bag hb =>
      rename_i a
      obtain ⟨xs, hx⟩ := s'.wd.bagl hb
      obtain ⟨hc, q⟩ := q
      have hj : ∃ j, ixN xs.length c = some j := by
        obtain ⟨⟨x, y, z, r, ns, ea, _⟩, _⟩ := s'.wd.b a hb
        rw [hx] at ea
        cases ea
        unfold bagOk at hc
        by_cases c0 : c = 0
        · subst c0; exact ⟨0, rfl⟩
        · rw [if_neg c0] at hc
          by_cases c1 : c = 1
          · subst c1; exact ⟨1, rfl⟩
          · rw [if_neg c1] at hc
            by_cases c2 : c = 2
            · subst c2; exact ⟨2, rfl⟩
            · rw [if_neg c2] at hc; exact hc.elim
      obtain ⟨j, hj⟩ := hj
      obtain ⟨s2, f2⟩ := s'.wrBag hb hx hc hj
      exact ⟨_, e2, a, xs, c, j, rfl, rfl, hx, hj, k.nx _ G' _ _ q s2 ((P.fe s.wd).trans f2)⟩
  · exact q.elim
/-- bag[2] += m -/
def sBagAug (i : Nat) (c m : Int) : WS := fun ρ S => c = 2 ∧ 0 ≤ m ∧ ρ[i]?.isSome = true ∧ (∀ d, ρ[i]? = some d → d = .fr .bag) ∧ S.nx ρ
theorem s_bagAug {i : Nat} {x : Str} {c m : Int} {j j2 : Nat} {pm : Pos} (hN : X.N[i]? = some x := by rfl) (hv : Vis X.env.scope x := by first | exact Or.inl rfl | exact Or.inr (Or.inl rfl) | exact Or.inr (Or.inr rfl)) (hd : (x == ("__debug__" : Str)) = false := by decide)
    (hcd : (x == ("__classdict__" : Str)) = false := by decide)
    (ha : ∀ ov iv new, augStore (.Constant (.int c) j pc) ov iv new = (do holding [new, ov, iv] (setItem ov iv new); release [new, ov, iv] []; pure .next) := by intros; rfl) :
    PSI X G0 H0 (.AugAssign (.Subscript (.Name x pb) (.Constant (.int c) j pc) pt) .Add (.Constant (.int m) j2 pm) pos) (sBagAug i c m) := by
  refine ps_imp (ps_augS (pe_var hN hv hd hcd) pe_int get_list pe_int ip_add set_list ha) fun D σ H h => ?_
  obtain ⟨ρ, G, S, s, ⟨rfl, hm, h1, h2, h⟩, k⟩ := h
  obtain ⟨d, hd⟩ := Option.isSome_iff_exists.mp h1
  obtain rfl := h2 d hd
  obtain ⟨w, e2, rw'⟩ := s.fr i _ hd
  cases rw' with
  | bag hb =>
    rename_i a
    obtain ⟨⟨x, y, z, r, ns, ea, lr, q1, q2, q3, q4, q5⟩, _⟩ := s.wd.b a hb
    have hj : ixN [V.int x, .int y, .int z, .ref r].length 2 = some 2 := rfl
    obtain ⟨s2, f2⟩ := s.wrBag (c := 2) (n := z + m) hb ea (show 0 ≤ z + m by omega) hj
    exact ⟨_, e2, a, _, 2, .int z, rfl, rfl, .inl (.inl ea), rfl, z, m, rfl, rfl, a, _, 2, 2, rfl, rfl, ea, hj, k.nx _ G _ _ h s2 f2⟩
/-- if bag[2] < len(bag[3]): x = bag[3][bag[2]] -/
def sBagPick (i j : Nat) : WS := fun ρ S => ρ[i]? = some (.fr .bag) ∧ j < ρ.length ∧ S.nx ρ ∧ ∀ n, 0 ≤ n → S.nx (ρ.set j (.fr (.int n)))
theorem s_bagPick {i j : Nat} {x y : Str} {p1 p2 p3 p4 p5 p6 p7 p8 p9 q1 q2 q3 q4 q5 q6 q7 q8 : Pos} {k1 k2 k3 k4 : Nat} (hNd : X.N.Nodup) (hN : X.N[i]? = some x) (hj : X.N[j]? = some y) (hy : X.env.scope.names.lookup y = some .local)
    (hg : Gl X "len") (hm : X.mg "len" = none) (hv : Vis X.env.scope x := by first | exact Or.inl rfl | exact Or.inr (Or.inl rfl) | exact Or.inr (Or.inr rfl)) (hd : (x == ("__debug__" : Str)) = false := by decide) (hcd : (x == ("__classdict__" : Str)) = false := by decide)
    (he : starEach [Expr.Subscript (.Name x p4) (.Constant (.int 3) k2 p5) p6] X.env = (false, eval (.Subscript (.Name x p4) (.Constant (.int 3) k2 p5) p6) X.env) :: starEach [] X.env := by rfl)
    (hpl : (backTo p8 (starEach [] X.env)).any (·.1) = false := by rfl)
    (hs : swapsWith (.Subscript (.Subscript (.Name x q2) (.Constant (.int 3) k3 q3) q4) (.Subscript (.Name x q5) (.Constant (.int 2) k4 q6) q7) q8) (some (.Name y q1)) p9.line X.env = pure false := by rfl)
    (hm2 : behindInMarks .Lt (.Call (.Name "len" p7) [.Subscript (.Name x p4) (.Constant (.int 3) k2 p5) p6] [] p8) = false := by rfl)
    (hsx1 : PlainIx (.Constant (.int 2) k1 p2) := by intro _ _; rfl) (hsx2 : PlainIx (.Constant (.int 3) k2 p5) := by intro _ _; rfl) (hsx3 : PlainIx (.Constant (.int 3) k3 q3) := by intro _ _; rfl) (hsx4 : PlainIx (.Constant (.int 2) k4 q6) := by intro _ _; rfl)
    (hsx5 : PlainIx (.Subscript (.Name x q5) (.Constant (.int 2) k4 q6) q7) := by intro _ _; rfl) :
    PSI X G0 H0 (.If (.Compare (.Subscript (.Name x p1) (.Constant (.int 2) k1 p2) p3) [.Lt] [.Call (.Name "len" p7) [.Subscript (.Name x p4) (.Constant (.int 3) k2 p5) p6] [] p8] pb)
      [.Assign [.Name y q1] (.Subscript (.Subscript (.Name x q2) (.Constant (.int 3) k3 q3) q4) (.Subscript (.Name x q5) (.Constant (.int 2) k4 q6) q7) q8) p9] [] pos) (sBagPick i j) := by
  have nv {p : Pos} : PE X (.Name x p) (tVar i) := pe_var hN hv hd hcd
  refine ps_imp (ps_if (pt_cmpR op_ltA (pe_ix ix_seq nv pe_int hsx1) (pe_callB call_len hg hm boot_len (pa_cons (pe_ix ix_seq nv pe_int hsx2) pa_nil he) (he := he) (hpl := hpl)) hm2) (pss_one (ps_set hNd hj (.inl hy) (hf := .inr hy) (pe_ix ix_seq (pe_ix ix_seq nv pe_int hsx3) (pe_ix ix_seq nv pe_int hsx4) hsx5) hs)) pss_nil) fun D σ H h => ?_
  obtain ⟨ρ, G, S, s, ⟨hρ, hl, h1, h2⟩, k⟩ := h
  obtain ⟨w, e2, rw'⟩ := s.fr i _ hρ
  cases rw' with
  | bag hb =>
    rename_i a
    obtain ⟨⟨x, y, z, r, ns, ea, lr, g1, g2, g3, g4, g5⟩, _⟩ := s.wd.b a hb
    have l : SqL X.K H a [.int x, .int y, .int z, .ref r] := .inl (.inl ea)
    have at2 : ∀ {Q : VK}, Q (.int z) H → rIx X.K (.ref a) (.int 2) H Q := fun {Q} q => .inl ⟨a, _, _, _, rfl, rfl, l, rfl, q⟩
    have at3 : ∀ {Q : VK}, Q (.ref r) H → rIx X.K (.ref a) (.int 3) H Q := fun {Q} q => .inl ⟨a, _, _, _, rfl, rfl, l, rfl, q⟩
    refine ⟨_, e2, at2 ⟨_, e2, at3 ⟨.ref r, (ns.length : Nat), rfl, .inl ⟨_, lr.sq, by rw [List.length_map]⟩, .inl ⟨z, (ns.length : Nat), rfl, rfl, _, rfl, ?_⟩⟩⟩⟩
    by_cases c : z < (ns.length : Nat)
    · show if decide (z < ((ns.length : Nat) : Int)) = true then _ else _
      rw [if_pos (by simpa using c)]
      obtain ⟨j', hj'⟩ : ∃ n : Nat, z = n := ⟨z.toNat, by omega⟩
      subst hj'
      have hlt : j' < ns.length := by omega
      refine ⟨_, e2, at3 ⟨_, e2, at2 (.inl ⟨r, _, _, V.int ns[j'], rfl, rfl, lr.sq, ?_, ?_⟩)⟩⟩
      · show (ixN (ns.map V.int).length (j' : Int)).bind (fun j => (ns.map V.int)[j]?) = some (V.int ns[j'])
        unfold ixN
        rw [if_pos (Int.natCast_nonneg _), List.length_map, if_pos c]
        simp [hlt]
      · exact k.nx _ G H _ (h2 _ (g5.1 _ (List.getElem_mem hlt))) (s.put (r := .fr (.int ns[j'])) s (LeE.refl _) hl (.int _) trivial) (FE.refl _ _)
    · show if decide (z < ((ns.length : Nat) : Int)) = true then _ else _
      rw [if_neg (by simpa using c)]
      exact k.nx _ G H σ h1 s (FE.refl _ _)
/-! ### the bag is made -/
def wSlScr (wa : WE) (wl wh : WO) : WE := fun ρ Φ => wa ρ fun r ρ1 => wl ρ1 fun lo ρ2 => wh ρ2 fun hi ρ3 => match r with
  | .fr .scr => ∀ ns : List Int, ns.length ≤ 63 → Φ (.ow (.lst (ns.map D.int))) ρ3
  | _ => False
theorem cut_map (ns : List Int) (lo hi : Option Int) : ∃ ms : List Int, cutV (ns.map V.int) lo hi = ms.map V.int ∧ ms.length ≤ ns.length := by
  unfold cutV
  refine ⟨(ns.drop (HT.sIx (ns.map V.int).length 0 lo)).take (HT.sIx (ns.map V.int).length (ns.map V.int).length hi - HT.sIx (ns.map V.int).length 0 lo), ?_, ?_⟩
  · rw [List.map_take, List.map_drop]
  · rw [List.length_take, List.length_drop]
    omega
theorem i_sliceScr {lo hi : Option Expr} {wl wh : WO} {p2 : Pos} (ha : PEI X G0 H0 e wa) (hl : POI X G0 H0 lo wl) (hh : POI X G0 H0 hi wh) : PEI X G0 H0 (.Subscript e (.Slice lo hi none p2) pos) (wSlScr wa wl wh) := by
  refine pe_imp (pe_slice sl_list ha hl hh) fun σ H Q h => ?_
  obtain ⟨ρ, G, Φ, S, h, c⟩ := h
  refine ⟨ρ, G, _, S, h, fun r ρ1 v G1 H1 q S1 P1 L1 x => ⟨ρ1, G1, _, S1, q, fun il ρ2 G2 H2 q2 S2 P2 L2 => ⟨ρ2, G2, _, S2, q2, fun ih ρ3 G3 H3 q3 S3 P3 L3 => ?_⟩⟩⟩
  have P12 := P1.trans S1.wd P2 L1
  have PP := P12.trans S2.wd P3 (L2.trans L1)
  have LL := L3.trans (L2.trans L1)
  have kk : ∀ r' v' G' H', Φ r' ρ3 → Wd G' H' → Grow G3 H3 G' H' → RepR X.K G' H' H3 r' v' → Q v' H' := fun r' v' G' H' φ w g x' => c r' ρ3 v' G' H' φ (S3.grow w g) (PP.trans S3.wd g.stp LL) LL (x'.back fun a z => PP.nn S3.wd z)
  split at q3
  · have x3 : Rep X.K G3 H3 .scr v := (Rep.fe (P2.fe S1.wd) x).fe (P3.fe S2.wd)
    cases x3 with
    | scr hs h63 =>
      rename_i a ns
      obtain ⟨ms, e1, e2⟩ := cut_map ns il ih
      refine ⟨a, _, rfl, hs.sq, ?_⟩
      rw [e1]
      exact new_lst (Φ := fun r => Φ r ρ3) S3.wd kk (ints_repL ms) (q3 ms (by omega))
  · exact q3.elim
def oAbs : List D → (R → Prop) → Prop
  | [.int i], Φ => Φ (.fr (.int (if i < 0 then -i else i)))
  | _, _ => False
theorem opn_abs : OpN K oAbs (fun xs H Q => ∃ i, xs = [.int i] ∧ Q (.int (if i < 0 then -i else i)) H) := fun G H ds vs Φ Q w hl hs h k => by
  unfold oAbs at h
  split at h
  · obtain ⟨v, rfl, s⟩ := one_sh hl hs
    cases s.i
    exact ⟨_, rfl, k _ _ G H h w (Grow.refl _ _) (.int _)⟩
  · exact h.elim
def Gh.addB (G : Gh) (a : Addr) : Gh := ⟨G.F, fun b => G.B b ∨ b = a, G.A⟩
/-- return of a new list that is the bag from now on -/
def sRetBag (wa : WE) : WS := fun ρ S => wa ρ fun r _ => match r with
  | .ow (.lst [.int i, .int j, .int k, .lst ds]) => ∃ ns, intsD ds = some ns ∧ 0 ≤ i ∧ 0 ≤ j ∧ j < 2147483647 ∧ 0 ≤ k ∧ BagL ns ∧ S.rt (.fr .bag)
  | _ => False
theorem s_retBag (h : PEI X G0 H0 e wa) : PSI X G0 H0 (.Return (some e) pos) (sRetBag wa) := by
  refine ps_imp (ps_ret h) fun D σ H h => ?_
  obtain ⟨ρ, G, S, s, h, k⟩ := h
  refine ⟨ρ, G, _, s, h, fun r ρ' v G' H' q s' P L x => ?_⟩
  split at q
  · rename_i i j m ds
    obtain ⟨ns, en, h1, h2, h3, h4, h5, q⟩ := q
    obtain ⟨a, rfl, ⟨o1, o2, xs, hx, rx⟩, hn⟩ := x
    have h0 : H0 a = none := s.none0 hn
    have f : FE G' H' (G'.addB a) H' := ⟨fun _ z => z, fun _ z => .inl z, fun _ _ _ z => z, fun _ _ z => z, fun _ _ _ z _ => z⟩
    refine k.rt _ (.ref a) (G'.addB a) H' q ⟨fun b hb => ?_, s'.wd.f⟩ ⟨s'.ex.f, fun b z => .inl (s'.ex.b b z), s'.ex.k, s'.ex.nf, fun b z => ?_⟩ (.bag (.inr rfl))
    · rcases hb with hb | rfl
      · obtain ⟨bb, nb⟩ := s'.wd.b b hb
        obtain ⟨x, y, z, r, ms, ea, lr, q⟩ := bb
        exact ⟨⟨x, y, z, r, ms, ea, lr.fe f, q⟩, nb⟩
      · refine ⟨?_, o1⟩
        cases rx with
        | cons r1 rx =>
          cases r1
          cases rx with
          | cons r2 rx =>
            cases r2
            cases rx with
            | cons r3 rx =>
              cases r3
              cases rx with
              | cons r4 rx =>
                cases rx
                cases r4 with
                | lst l r4 =>
                  have e4 := intsD_rep r4 en
                  subst e4
                  exact ⟨i, j, m, _, ns, hx, l.fe f, h1, h2, h3, h4, h5⟩
    · rcases z with z | rfl
      · exact s'.ex.nb b z
      · exact .inr h0
  · exact q.elim
end
end Tv
/-! Tv13: constants of the text; and, by truth. -/
namespace Tv
open PySem PySem.Spec PyProof.Rows L2

def wr0 : Value → Option D
  | .none => some .non
  | .bool b => some (.bl b)
  | .int i _ => some (.int i)
  | .str x _ => some (.str x)
  | _ => none
def allS : List (Option D) → Option (List D)
  | [] => some []
  | o :: os => match o, allS os with
    | some d, some ds => some (d :: ds)
    | _, _ => none
/-- what the text has written, as a tree -/
def wrD (K : PySem.W.Frag) : Nat → Value → Option D
  | 0, v => wr0 v
  | n + 1, v => match v with
    | .ref a => match K.lookup a with
      | some o => match o.cls, o.data with
        | .type T, .seq its _ => if T = "tuple" ∧ its.size ≤ 16777216 then (allS (its.toList.map (wrD K n))).map D.tup else none
        | _, _ => none
      | none => none
    | v => wr0 v
section
variable {X : Cx} {G0 : Gh} {H0 : Hp} {K : PySem.W.Frag} {a b : Expr} {rest : List Expr} {wa wb : WE} {pos : Pos}
theorem wr0_rep {v : Value} {d : D} (e : wr0 v = some d) : ∃ x, RelV x v ∧ ∀ G H, Rep K G H d x := by
  unfold wr0 at e
  split at e
  · cases e; exact ⟨.non, rfl, fun _ _ => .non⟩
  · cases e; exact ⟨.bl _, rfl, fun _ _ => .bl _⟩
  · cases e; exact ⟨.int _, ⟨_, rfl⟩, fun _ _ => .int _⟩
  · cases e; exact ⟨.str _, ⟨_, rfl⟩, fun _ _ => .str _⟩
  · cases e
theorem allS_rep {f : Value → Option D} (hf : ∀ v d, f v = some d → ∃ x, RelV x v ∧ ∀ G H, Rep K G H d x) : ∀ {vs : List Value} {ds : List D}, allS (vs.map f) = some ds → ∃ xs, Vals xs vs ∧ ∀ G H, RepL K G H ds xs
  | [], ds, e => by
    have : some [] = some ds := e
    cases this
    exact ⟨[], .nil, fun _ _ => .nil⟩
  | v :: vs, ds, e => by
    have e' : (match f v, allS (vs.map f) with | some d, some ds => some (d :: ds) | _, _ => none) = some ds := e
    split at e'
    · rename_i d ds' e1 e2
      cases e'
      obtain ⟨x, r, rp⟩ := hf v d e1
      obtain ⟨xs, rs, rps⟩ := allS_rep hf e2
      exact ⟨x :: xs, .cons r rs, fun G H => .cons (rp G H) (rps G H)⟩
    · cases e'
theorem wrD_rep : ∀ {n : Nat} {v : Value} {d : D}, wrD K n v = some d → ∃ x, RelV x v ∧ ∀ G H, Rep K G H d x
  | 0, v, d, e => wr0_rep e
  | n + 1, v, d, e => by
    unfold wrD at e
    split at e
    · split at e
      · rename_i a _ o ho
        split at e
        · rename_i T its m hc hd
          split at e
          · rename_i hT
            cases q : allS (its.toList.map (wrD K n)) with
            | none => rw [q] at e; cases e
            | some ds =>
              rw [q] at e
              cases e
              obtain ⟨xs, r, rp⟩ := allS_rep (fun v d e => wrD_rep e) q
              exact ⟨.ref a, rfl, fun G H => .tup (.inr ⟨o, its, m, ho, by rw [hc, hT.1], hd, by rw [sizeLine_eq]; exact hT.2, r⟩) (rp G H)⟩
          · cases e
        · cases e
      · cases e
    · exact wr0_rep e
theorem wrD_tup {a : Addr} {o : Obj} {its : Array Value} {m n : Nat} {ds : List D} (h : K.lookup a = some o) (hc : o.cls = .type "tuple") (hd : o.data = .seq its m) (hs : its.size ≤ 16777216) (ht : allS (its.toList.map (wrD K n)) = some ds) : wrD K (n + 1) (.ref a) = some (.tup ds) := by
  show (match K.lookup a with
    | some o => match o.cls, o.data with
      | .type T, .seq its _ => if T = "tuple" ∧ its.size ≤ 16777216 then (allS (its.toList.map (wrD K n))).map D.tup else none
      | _, _ => none
    | none => none) = _
  rw [h]
  show (match o.cls, o.data with
      | .type T, .seq its _ => if T = "tuple" ∧ its.size ≤ 16777216 then (allS (its.toList.map (wrD K n))).map D.tup else none
      | _, _ => none) = _
  rw [hc, hd]
  show (if "tuple" = "tuple" ∧ its.size ≤ 16777216 then (allS (its.toList.map (wrD K n))).map D.tup else none) = _
  rw [if_pos ⟨rfl, hs⟩, ht]
  rfl
theorem allS_cons {v : Value} {vs : List Value} {n : Nat} {d : D} {ds : List D} (h : wrD K n v = some d) (ht : allS (vs.map (wrD K n)) = some ds) : allS ((v :: vs).map (wrD K n)) = some (d :: ds) := by
  show (match wrD K n v, allS (vs.map (wrD K n)) with | some d, some ds => some (d :: ds) | _, _ => none) = _
  rw [h, ht]
theorem i_glob {x : Str} {u : Value} {n : Nat} {d : D} (hg : Gl X x) (hm : X.mg x = some u) (hd : wrD X.K n u = some d) (hdb : (x == ("__debug__" : Str)) = false := by decide) : PEI X G0 H0 (.Name x pos) (wC d) := by
  obtain ⟨v, r, rp⟩ := wrD_rep hd
  exact pe_imp (pe_glob hg hm r hdb) fun σ H Q h => tx_c rp h
def wAndT (wa wb : WE) : WE := fun ρ Φ => wa ρ fun r ρ' => match truD r.d with
  | some false => Φ r ρ'
  | some true => wb ρ' Φ
  | none => False
theorem i_andT (ha : PEI X G0 H0 a wa) (hb : PEI X G0 H0 (.BoolOp .And (b :: rest) pos) wb) : PEI X G0 H0 (.BoolOp .And (a :: b :: rest) pos) (wAndT wa wb) := by
  refine pe_imp (pe_andT ha hb) fun σ H Q h => ?_
  obtain ⟨ρ, G, Φ, S, h, c⟩ := h
  refine ⟨ρ, G, _, S, h, fun r ρ' v G' H' q S' P L x => ?_⟩
  split at q
  · rename_i e
    exact ⟨false, truD_ok x.sh e, iteF (c r ρ' v G' H' q S' P L x)⟩
  · rename_i e
    exact ⟨true, truD_ok x.sh e, iteT ⟨ρ', G', Φ, S', q, fun r2 ρ2 v2 G2 H2 q2 S2 P2 L2 x2 => c r2 ρ2 v2 G2 H2 q2 S2 (P.trans S'.wd P2 L) (L2.trans L) (x2.back fun a z => P.nn S'.wd z)⟩⟩
  · exact q.elim
/-! ### short names -/
def oNeg : D → (R → Prop) → Prop
  | .int i, Φ => Φ (.fr (.int (-i)))
  | _, _ => False
theorem op1_neg : Op1 K oNeg (rU fun i => .int (-i)) := fun G H d v Φ Q w s h k => by
  unfold oNeg at h
  split at h
  · cases s.i
    exact ⟨_, rfl, k _ _ G H h w (Grow.refl _ _) (.int _)⟩
  · exact h.elim
theorem op2_sub : Op2 K oSub (rI0 fun i j => .int (i - j)) := op2_int0 fun _ _ _ _ => .int _
theorem op2_div : Op2 K oDiv (rI CDiv fun i j => .int (i / j)) := op2_int fun _ _ _ _ => .int _
theorem op2_mod : Op2 K oMod (rI (fun _ j => 0 < j) fun i j => .int (i % j)) := op2_int fun _ _ _ _ => .int _
theorem op2_pow : Op2 K oPow (rI CPow fun i j => .int (i ^ j.toNat)) := op2_int fun _ _ _ _ => .int _
end
end Tv
namespace L2
theorem Room.r64 {k : Nat} {A : PySem.Around} (h : Room k A) : A.units + 64 < PySem.cLine := by have := h.un; omega
theorem Room.room {k : Nat} {A : PySem.Around} (h : Room k A) : A.units + 65 < PySem.cLine := by have := h.un; omega
end L2
/-! Tv14: lemmas for the plain laws. -/
namespace Tv
open PySem PySem.Spec PyProof.Rows L2
theorem oBag_0 (Φ : R → Prop) : oBag .bag (.int 0) Φ = ∀ n, 0 ≤ n → Φ (.fr (.int n)) := rfl
theorem oBag_1 (Φ : R → Prop) : oBag .bag (.int 1) Φ = ∀ n, 0 ≤ n → n < 2147483647 → Φ (.fr (.int n)) := rfl
theorem oBag_2 (Φ : R → Prop) : oBag .bag (.int 2) Φ = ∀ n, 0 ≤ n → Φ (.fr (.int n)) := rfl
theorem oBag_3 (Φ : R → Prop) : oBag .bag (.int 3) Φ = ∀ ns : List Int, BagL ns → Φ (.fr (.lst (ns.map D.int))) := rfl
theorem bagOk_0 (n : Int) : bagOk 0 n = (0 ≤ n) := rfl
theorem bagOk_1 (n : Int) : bagOk 1 n = (0 ≤ n ∧ n < 2147483647) := rfl
theorem bagOk_2 (n : Int) : bagOk 2 n = (0 ≤ n) := rfl
/-- a draw: any of the numbers below n -/
def TakeF (F : WF) : Prop := ∀ (n : Int) (Φ : R → Prop), 1 ≤ n → n < 1073741824 → (∀ k, 0 ≤ k → k < n → Φ (.fr (.int k))) → F [.bag, .int n] Φ
/-- the bag is made of the script -/
def BagF (F : WF) : Prop := ∀ (Φ : R → Prop), Φ (.fr .bag) → F [.scr] Φ
theorem eq_ints (i j : Int) : eqD (.int i) (.int j) = decide (i = j) := by
  show (i == j) = _
  rfl
theorem eq_strs (i j : Str) : eqD (.str i) (.str j) = decide (i = j) := by
  show (i == j) = _
  by_cases h : i = j
  · subst h; simp
  · simp [h]
theorem okE_int (i : Int) : okE (.int i) = true := rfl
end Tv
namespace Tv
open PySem PySem.Spec PyProof.Rows L2
/-! ### loops -/
theorem forD_inv {W : WTg} {body : WS} {S : SK} (I : List D → En → Prop) (hs : ∀ d rest ρ, I (d :: rest) ρ → ∀ nxt : En → Prop, (∀ ρ', I rest ρ' → nxt ρ') → W d ρ fun ρ' => body ρ' ⟨nxt, S.rt, S.nx, nxt⟩) (hd : ∀ ρ, I [] ρ → S.nx ρ) : ∀ (ds : List D) (ρ : En), I ds ρ → forD W body S ds ρ
  | [], ρ, h => hd ρ h
  | d :: ds, ρ, h => hs d ds ρ h (forD W body S ds) fun ρ' q => forD_inv I hs hd ds ρ' q
theorem whD_inv {t : WT} {body : WS} {S : SK} (I : Nat → En → Prop) (hs : ∀ n ρ, I n ρ → ∀ nxt : En → Prop, (∀ m ρ', n = m + 1 → I m ρ' → nxt ρ') → t ρ fun b ρ' => if b = true then body ρ' ⟨nxt, S.rt, S.nx, nxt⟩ else S.nx ρ') : ∀ (n : Nat) (ρ : En), I n ρ → whD t body S (n + 1) ρ
  | 0, ρ, h => hs 0 ρ h (whD t body S 0) fun m _ e _ => absurd e (by omega)
  | n + 1, ρ, h => hs (n + 1) ρ h (whD t body S (n + 1)) fun m ρ' e q => by
    obtain rfl : n = m := by omega
    exact whD_inv I hs n ρ' q
def stepD (W : WTg) (wt : WT) (we : WE) (vs : List Nat) (ρ : En) (d : D) (Ψ : Option D → En → Prop) : Prop := W d ρ fun ρ1 => wt ρ1 fun b ρ2 => if b = true then we ρ2 fun r ρ3 => match r with
    | .fr y => Ψ (some y) (wipeE vs 0 ρ3)
    | _ => False
  else Ψ none (wipeE vs 0 ρ2)
/-- a comprehension whose parts are told one by one -/
theorem lcD_fm {W : WTg} {wt : WT} {we : WE} {vs : List Nat} {Φ : List D → En → Prop} {ρ : En} (g : D → Option D) : ∀ (ds acc : List D), (∀ d ∈ ds, ∀ Ψ : Option D → En → Prop, Ψ (g d) ρ → stepD W wt we vs ρ d Ψ) → acc.length + ds.length ≤ 16777216 → Φ (acc ++ ds.filterMap g) ρ → lcD W wt we vs Φ ds acc ρ
  | [], acc, _, _, h => by rw [List.filterMap_nil, List.append_nil] at h; exact h
  | d :: ds, acc, hs, hl, h => by
    have e := sizeLine_eq
    have q := hs d List.mem_cons_self (fun o ρ' => match o with
      | some y => acc.length < sizeLine ∧ lcD W wt we vs Φ ds (acc ++ [y]) ρ'
      | none => lcD W wt we vs Φ ds acc ρ') ?_
    · exact q
    · rw [List.length_cons] at hl
      rw [List.filterMap_cons] at h
      split
      · rename_i y ey
        rw [ey] at h
        refine ⟨by omega, lcD_fm g ds (acc ++ [y]) (fun d hd => hs d (List.mem_cons_of_mem _ hd)) (by rw [List.length_append, List.length_singleton]; omega) ?_⟩
        rw [List.append_assoc]
        exact h
      · rename_i ey
        rw [ey] at h
        exact lcD_fm g ds acc (fun d hd => hs d (List.mem_cons_of_mem _ hd)) (by omega) h
/-- .. whose parts are any ones with P -/
theorem lcD_any {W : WTg} {wt : WT} {we : WE} {vs : List Nat} {Φ : List D → En → Prop} {ρ : En} (P : D → Prop) : ∀ (ds acc : List D), (∀ d ∈ ds, ∀ Ψ : Option D → En → Prop, (∀ y, P y → Ψ (some y) ρ) → stepD W wt we vs ρ d Ψ) → acc.length + ds.length ≤ 16777216 → (∀ ys : List D, ys.length = ds.length → (∀ y ∈ ys, P y) → Φ (acc ++ ys) ρ) → lcD W wt we vs Φ ds acc ρ
  | [], acc, _, _, h => by have z := h [] rfl (fun _ q => by cases q); rw [List.append_nil] at z; exact z
  | d :: ds, acc, hs, hl, h => by
    have e := sizeLine_eq
    have q := hs d List.mem_cons_self (fun o ρ' => match o with
      | some y => acc.length < sizeLine ∧ lcD W wt we vs Φ ds (acc ++ [y]) ρ'
      | none => lcD W wt we vs Φ ds acc ρ') ?_
    · exact q
    · rw [List.length_cons] at hl
      intro y hy
      refine ⟨by omega, lcD_any P ds (acc ++ [y]) (fun d hd => hs d (List.mem_cons_of_mem _ hd)) (by rw [List.length_append, List.length_singleton]; omega) fun ys hl' hys => ?_⟩
      rw [List.append_assoc]
      exact h (y :: ys) (by simp [hl']) fun z hz => by
        rcases List.mem_cons.mp hz with rfl | hz
        · exact hy
        · exact hys z hz
theorem intsD_map : ∀ ns : List Int, intsD (ns.map D.int) = some ns
  | [] => rfl
  | n :: ns => by show (intsD (ns.map D.int)).map (n :: ·) = _; rw [intsD_map ns]; rfl
theorem blsD_map : ∀ ns : List Bool, blsD (ns.map D.bl) = some ns
  | [] => rfl
  | n :: ns => by show (blsD (ns.map D.bl)).map (n :: ·) = _; rw [blsD_map ns]; rfl
theorem atI_nat {α : Type} {xs : List α} {i : Int} (h0 : 0 ≤ i) (h1 : i < xs.length) : ∃ x ∈ xs, atI xs i = some x := by
  obtain ⟨n, rfl⟩ : ∃ n : Nat, i = n := ⟨i.toNat, by omega⟩
  have hn : n < xs.length := by omega
  refine ⟨xs[n], List.getElem_mem hn, ?_⟩
  unfold atI ixN
  rw [if_pos h0, if_pos h1]
  simp [hn]
theorem atI_last {α : Type} {xs : List α} {x : α} : atI (xs ++ [x]) (-1) = some x := by
  unfold atI ixN
  rw [if_neg (by decide), if_pos (by simp; omega)]
  show (xs ++ [x])[(-1 + ((xs ++ [x]).length : Int)).toNat]? = some x
  rw [List.length_append, List.length_singleton, show (-1 + ((xs.length + 1 : Nat) : Int)).toNat = xs.length by omega]
  simp
/-- .. over things of one form -/
theorem lcD_of {α : Type} {W : WTg} {wt : WT} {we : WE} {vs : List Nat} {Φ : List D → En → Prop} {ρ : En} (inj : α → D) (g : α → Option D) : ∀ (xs : List α) (acc : List D), (∀ x ∈ xs, ∀ Ψ : Option D → En → Prop, Ψ (g x) ρ → stepD W wt we vs ρ (inj x) Ψ) → acc.length + xs.length ≤ 16777216 → Φ (acc ++ xs.filterMap g) ρ → lcD W wt we vs Φ (xs.map inj) acc ρ
  | [], acc, _, _, h => by rw [List.filterMap_nil, List.append_nil] at h; exact h
  | x :: xs, acc, hs, hl, h => by
    have e := sizeLine_eq
    have q := hs x List.mem_cons_self (fun o ρ' => match o with
      | some y => acc.length < sizeLine ∧ lcD W wt we vs Φ (xs.map inj) (acc ++ [y]) ρ'
      | none => lcD W wt we vs Φ (xs.map inj) acc ρ') ?_
    · exact q
    · rw [List.length_cons] at hl
      rw [List.filterMap_cons] at h
      split
      · rename_i y ey
        rw [ey] at h
        refine ⟨by omega, lcD_of inj g xs (acc ++ [y]) (fun d hd => hs d (List.mem_cons_of_mem _ hd)) (by rw [List.length_append, List.length_singleton]; omega) ?_⟩
        rw [List.append_assoc]
        exact h
      · rename_i ey
        rw [ey] at h
        exact lcD_of inj g xs acc (fun d hd => hs d (List.mem_cons_of_mem _ hd)) (by omega) h
theorem filterMap_if {α β : Type} (p : α → Bool) (f : α → β) : ∀ xs : List α, (xs.filterMap fun x => if p x = true then some (f x) else none) = (xs.filter p).map f
  | [] => rfl
  | x :: xs => by
    rw [List.filterMap_cons, List.filter_cons]
    by_cases c : p x = true
    · simp only [if_pos c, List.map_cons, filterMap_if p f xs]
    · simp only [if_neg c, filterMap_if p f xs]
theorem filterMap_some {α β : Type} (f : α → β) : ∀ xs : List α, (xs.filterMap fun x => some (f x)) = xs.map f
  | [] => rfl
  | x :: xs => by
    rw [List.filterMap_cons, List.map_cons, filterMap_some f xs]
theorem oEq_self {d : D} {Φ : R → Prop} (hd : okE d = true) (h : Φ (.fr (.bl true))) : oEq d d Φ := by
  obtain ⟨_, g⟩ := okE_shaped hd
  have e := eqD_refl g
  unfold oEq
  split
  · rw [decide_eq_true rfl]; exact h
  · rw [hd, e]; exact ⟨rfl, h⟩
/-- .. of lists and tuples, of ints -/
theorem oEq_lst {ds es : List D} {Φ : R → Prop} : oEq (.lst ds) (.lst es) Φ = ((okE (.lst ds) && okE (.lst es)) = true ∧ Φ (.fr (.bl (eqD (.lst ds) (.lst es))))) := rfl
theorem oEq_tup {ds es : List D} {Φ : R → Prop} : oEq (.tup ds) (.tup es) Φ = ((okE (.tup ds) && okE (.tup es)) = true ∧ Φ (.fr (.bl (eqD (.tup ds) (.tup es))))) := rfl
theorem oEq_int {i j : Int} {Φ : R → Prop} : oEq (.int i) (.int j) Φ = Φ (.fr (.bl (decide (i = j)))) := by
  show ((okE (.int i) && okE (.int j)) = true ∧ Φ (.fr (.bl (eqD (.int i) (.int j))))) = _
  rw [eq_ints]
  simp [okE_int]
theorem oEq_str {i j : Str} {Φ : R → Prop} : oEq (.str i) (.str j) Φ = Φ (.fr (.bl (decide (i = j)))) := rfl
theorem oNe_int {i j : Int} {Φ : R → Prop} : oNe (.int i) (.int j) Φ = Φ (.fr (.bl (!decide (i = j)))) := by
  show ((okE (.int i) && okE (.int j)) = true ∧ Φ (.fr (.bl (!eqD (.int i) (.int j))))) = _
  rw [eq_ints]
  simp [okE_int]
theorem oNe_str {i j : Str} {Φ : R → Prop} : oNe (.str i) (.str j) Φ = Φ (.fr (.bl (!decide (i = j)))) := rfl
theorem oEq_bl {i j : Bool} {Φ : R → Prop} : oEq (.bl i) (.bl j) Φ = Φ (.fr (.bl (i == j))) := by
  show ((okE (.bl i) && okE (.bl j)) = true ∧ Φ (.fr (.bl (eqD (.bl i) (.bl j))))) = _
  simp [show okE (.bl i) = true from rfl, show okE (.bl j) = true from rfl, show eqD (.bl i) (.bl j) = (i == j) from rfl]
theorem oNe_bl {i j : Bool} {Φ : R → Prop} : oNe (.bl i) (.bl j) Φ = Φ (.fr (.bl (!(i == j)))) := by
  show ((okE (.bl i) && okE (.bl j)) = true ∧ Φ (.fr (.bl (!eqD (.bl i) (.bl j))))) = _
  simp [show okE (.bl i) = true from rfl, show okE (.bl j) = true from rfl, show eqD (.bl i) (.bl j) = (i == j) from rfl]
/-- found and due are the same tree -/
def AlikeF (F : WF) : Prop := ∀ (d : D) (Φ : R → Prop), okR d = true → Φ (.fr (.bl true)) → F [d, d] Φ
/-- one of some -/
structure OneF (F : WF) : Prop where
  l : ∀ (ds : List D) (Φ : R → Prop), ds ≠ [] → ds.length < 1073741824 → (∀ d ∈ ds, Φ (.fr d)) → F [.bag, .lst ds] Φ
  t : ∀ (ds : List D) (Φ : R → Prop), ds ≠ [] → ds.length < 1073741824 → (∀ d ∈ ds, Φ (.fr d)) → F [.bag, .tup ds] Φ
  s : ∀ (x : Str) (Φ : R → Prop), 0 < x.length → x.length ≤ 16777216 → (∀ c ∈ x.cps.toList, Φ (.fr (.str ⟨#[c]⟩))) → F [.bag, .str x] Φ
/-! ### what is behind a call or a loop is left alone by simp: the mark's type hangs on it -/
inductive Mk0 {α : Type} (a : α) : Type
  | mk : Mk0 a
def CallW (wf : WF) (ds : List D) (Φ : R → Prop) (_ : Mk0 Φ) : Prop := wf ds Φ
theorem wCall_eq (wf : WF) (ws : WA) : wCall wf ws = fun ρ Φ => ws ρ fun rs ρ' => match frs' rs with
  | some ds => CallW wf ds (fun r => Φ r ρ') .mk
  | none => False := rfl
def LcW (W : WTg) (wt : WT) (we : WE) (vs : List Nat) (Φ : List D → En → Prop) (ds acc : List D) (ρ : En) (_ : Mk0 Φ) : Prop := lcD W wt we vs Φ ds acc ρ
theorem wLc_eq (wi : WI) (W : WTg) (wt : WT) (we : WE) (vs : List Nat) : wLc wi W wt we vs = fun ρ Φ => wi ρ fun ds ρ1 => LcW W wt we vs (fun out ρe => Φ (.ow (.lst out)) (mixE vs 0 ρ1 ρe)) ds [] (wipeE vs 0 ρ1) .mk := rfl
def ForW (W : WTg) (body : WS) (S : SK) (ds : List D) (ρ : En) (_ : Mk0 S) : Prop := forD W body S ds ρ
theorem sFor_eq (wi : WI) (W : WTg) (body : WS) : sFor wi W body = fun ρ S => wi ρ fun ds ρ' => ForW W body S ds ρ' .mk := rfl
def WhW (t : WT) (body : WS) (S : SK) (ρ : En) (_ : Mk0 S) : Prop := sWhile t body ρ S
theorem sWhile_eq (t : WT) (body : WS) : sWhile t body = fun ρ S => WhW t body S ρ .mk := rfl
end Tv
/-! Tv15: readings step by step, by the head of the goal. -/
namespace Tv
open PySem PySem.Spec PyProof.Rows L2
section
variable {ρ : En} {S : SK} {i j : Nat} {d e : D} {r : R} {rs : List R} {ds es : List D} {wa wb : WE} {ws : WA} {ta tb : WT} {u v : WS} {wf : WF} {k : Bool}
/-! what is done with a result -/
def fzW (r : R) (Φ : R → En → Prop) (ρ : En) : Prop := match r with
  | .fr d => Φ (.fr d) ρ
  | .ow d => Φ (.fr d) ρ
  | .bo _ => False
def onB (r : R) (Φ : Bool → En → Prop) (ρ : En) : Prop := match r.d with
  | .bl b => Φ b ρ
  | _ => False
def onTr (r : R) (Φ : Bool → En → Prop) (ρ : En) : Prop := match truD r.d with
  | some k => Φ k ρ
  | none => False
def tupW (rs : List R) (Φ : R → En → Prop) (ρ : En) : Prop := match frs' rs with
  | some ds => rs.length ≤ sizeLine ∧ Φ (.fr (.tup ds)) ρ
  | none => False
def lstW (rs : List R) (Φ : R → En → Prop) (ρ : En) : Prop := match frs' rs with
  | some ds => rs.length ≤ sizeLine ∧ Φ (.ow (.lst ds)) ρ
  | none => False
def callW (wf : WF) (rs : List R) (Φ : R → En → Prop) (ρ : En) : Prop := match frs' rs with
  | some ds => wf ds fun r => Φ r ρ
  | none => False
def mW (ty : D → Prop) (o : D → List D → (R → Prop) → Prop) (ws : WA) (r : R) (Φ : R → En → Prop) (ρ : En) : Prop := ty r.d ∧ ws ρ fun rs ρ2 => o r.d (rs.map R.d) fun r' => Φ r' ρ2
def setW (i : Nat) (r : R) (ρ : En) (S : SK) : Prop := i < ρ.length ∧ r.ok ∧ S.nx (ρ.set i r.cell)
def augW (i : Nat) (d : D) (ρ : En) (S : SK) : Prop := i < ρ.length ∧ S.nx (ρ.set i (.fr d))
def mutW (o : List D → List D → (List D → Prop) → Prop) (i : Nat) (rs : List R) (ρ : En) (S : SK) : Prop := match ρ[i]?, frs' rs with
  | some (.ow (.lst ds)), some es => o ds es fun ds' => S.nx (ρ.set i (.ow (.lst ds')))
  | _, _ => False
def parW (i j : Nat) (rs : List R) (ρ : En) (S : SK) : Prop := match rs with
  | [r1, r2] => (i < ρ.length ∧ j < ρ.length) ∧ (r1.ok ∧ r2.ok) ∧ S.nx ((ρ.set i r1.cell).set j r2.cell)
  | _ => False
def unpW (W : WTg) (r : R) (ρ : En) (S : SK) : Prop := match r with
  | .fr d => W d ρ S.nx
  | _ => False
def retW (r : R) (S : SK) : Prop := match r with
  | .bo _ => False
  | r => S.rt r
def seqW (r : R) (Φ : List D → En → Prop) (ρ : En) : Prop := match r with
  | .fr (.lst ds) => Φ ds ρ
  | .fr (.tup ds) => Φ ds ρ
  | _ => False
def orW (r : R) (wb : WE) (Φ : R → En → Prop) (ρ : En) : Prop := match truD r.d with
  | some true => Φ r ρ
  | some false => wb ρ Φ
  | none => False
def andW (r : R) (wb : WE) (Φ : R → En → Prop) (ρ : En) : Prop := match truD r.d with
  | some false => Φ r ρ
  | some true => wb ρ Φ
  | none => False
def somW (r : R) (Φ : Option Int → En → Prop) (ρ : En) : Prop := match r.d with
  | .int i => Φ (some i) ρ
  | _ => False
variable {Φ : R → En → Prop} {Φb : Bool → En → Prop} {Φa : List R → En → Prop} {Φi : List D → En → Prop} {Φr : R → Prop} {Φd : D → Prop} {Φl : List D → Prop} {Φo : Option Int → En → Prop} {Φe : En → Prop}
/-! values -/
theorem e_c (h : Φ (.fr d) ρ) : wC d ρ Φ := h
theorem e_v (q : ρ[i]? = some (.fr d)) (h : Φ (.fr d) ρ) : wV i ρ Φ := by unfold wV; rw [q]; exact h
theorem e_vo (q : ρ[i]? = some (.ow d)) (h : Φ (.fr d) (ρ.set i (.fr d))) : wV i ρ Φ := by unfold wV; rw [q]; exact h
theorem e_p (q : ρ[i]? = some (.fr d)) (h : Φ (.fr d) ρ) : wP i ρ Φ := by unfold wP; rw [q]; exact h
theorem e_po (q : ρ[i]? = some (.ow d)) (h : Φ (.bo d) ρ) : wP i ρ Φ := by unfold wP; rw [q]; exact h
theorem e_f (h : wa ρ fun r ρ' => fzW r Φ ρ') : wF wa ρ Φ := h
theorem e_fzf (h : Φ (.fr d) ρ) : fzW (.fr d) Φ ρ := h
theorem e_fzo (h : Φ (.fr d) ρ) : fzW (.ow d) Φ ρ := h
theorem e_1 {o : D → (R → Prop) → Prop} (h : wa ρ fun r ρ' => o r.d fun r' => Φ r' ρ') : w1 o wa ρ Φ := h
theorem e_2 {o : D → D → (R → Prop) → Prop} (h : wa ρ fun r ρ' => wb ρ' fun r2 ρ2 => o r.d r2.d fun r' => Φ r' ρ2) : w2 o wa wb ρ Φ := h
theorem e_nil (h : Φa [] ρ) : wNil ρ Φa := h
theorem e_cons (h : wa ρ fun r ρ' => ws ρ' fun rs ρ2 => Φa (r :: rs) ρ2) : wCons wa ws ρ Φa := h
theorem e_tup (h : ws ρ fun rs ρ' => tupW rs Φ ρ') : wTup ws ρ Φ := h
theorem e_tupW (q : frs' rs = some ds) (l : Nat.ble rs.length 16777216 = true) (h : Φ (.fr (.tup ds)) ρ) : tupW rs Φ ρ := by unfold tupW; rw [q]; exact ⟨by rw [sizeLine_eq]; exact Nat.le_of_ble_eq_true l, h⟩
theorem e_lst (h : ws ρ fun rs ρ' => lstW rs Φ ρ') : wLst ws ρ Φ := h
theorem e_lstW (q : frs' rs = some ds) (l : Nat.ble rs.length 16777216 = true) (h : Φ (.ow (.lst ds)) ρ) : lstW rs Φ ρ := by unfold lstW; rw [q]; exact ⟨by rw [sizeLine_eq]; exact Nat.le_of_ble_eq_true l, h⟩
def nW (o : List D → (R → Prop) → Prop) (rs : List R) (Φ : R → En → Prop) (ρ : En) : Prop := o (rs.map R.d) fun r' => Φ r' ρ
theorem e_n {o : List D → (R → Prop) → Prop} (h : ws ρ fun rs ρ' => nW o rs Φ ρ') : wN o ws ρ Φ := h
theorem e_n1 {o : List D → (R → Prop) → Prop} (h : o [r.d] fun r' => Φ r' ρ) : nW o [r] Φ ρ := h
theorem e_n2 {o : List D → (R → Prop) → Prop} {r2 : R} (h : o [r.d, r2.d] fun r' => Φ r' ρ) : nW o [r, r2] Φ ρ := h
def mmW (o : D → List D → (R → Prop) → Prop) (x : Str) (rs : List R) (Φ : R → En → Prop) (ρ : En) : Prop := o (.str x) (rs.map R.d) fun r' => Φ r' ρ
theorem e_mm1 {o : D → List D → (R → Prop) → Prop} {x : Str} (h : o (.str x) [r.d] fun r' => Φ r' ρ) : mmW o x [r] Φ ρ := h
theorem e_call (h : ws ρ fun rs ρ' => callW wf rs Φ ρ') : wCall wf ws ρ Φ := h
theorem e_callW (q : frs' rs = some ds) (h : wf ds fun r => Φ r ρ) : callW wf rs Φ ρ := by unfold callW; rw [q]; exact h
theorem e_m {ty : D → Prop} {o : D → List D → (R → Prop) → Prop} (h : wa ρ fun r ρ' => mW ty o ws r Φ ρ') : wM ty o wa ws ρ Φ := h
theorem e_mW {o : D → List D → (R → Prop) → Prop} {x : Str} (q : r.d = .str x) (h : ws ρ fun rs ρ2 => mmW o x rs Φ ρ2) : mW isTxt o ws r Φ ρ := by unfold mW; rw [q]; exact ⟨trivial, h⟩
theorem e_if (h : ta ρ fun k ρ' => if k = true then wa ρ' Φ else wb ρ' Φ) : wIf ta wa wb ρ Φ := h
theorem e_orT (h : wa ρ fun r ρ' => orW r wb Φ ρ') : wOrT wa wb ρ Φ := h
theorem e_orW1 (q : truD r.d = some true) (h : Φ r ρ) : orW r wb Φ ρ := by unfold orW; rw [q]; exact h
theorem e_orW0 (q : truD r.d = some false) (h : wb ρ Φ) : orW r wb Φ ρ := by unfold orW; rw [q]; exact h
theorem e_orW {k : Bool} (q : truD r.d = some k) (h : if k = true then Φ r ρ else wb ρ Φ) : orW r wb Φ ρ := by
  cases k
  · exact e_orW0 q h
  · exact e_orW1 q h
theorem e_andT (h : wa ρ fun r ρ' => andW r wb Φ ρ') : wAndT wa wb ρ Φ := h
theorem e_andW {k : Bool} (q : truD r.d = some k) (h : if k = true then wb ρ Φ else Φ r ρ) : andW r wb Φ ρ := by
  unfold andW
  rw [q]
  cases k
  · exact h
  · exact h
theorem e_noP (h : Φo none ρ) : wNoP ρ Φo := h
theorem e_som (h : wa ρ fun r ρ' => somW r Φo ρ') : wSomeP wa ρ Φo := h
theorem e_somW {n : Int} (q : r.d = .int n) (h : Φo (some n) ρ) : somW r Φo ρ := by unfold somW; rw [q]; exact h
theorem e_sl {wl wh : WO} (h : wa ρ fun r ρ1 => wl ρ1 fun lo ρ2 => wh ρ2 fun hi ρ3 => oSl r.d lo hi fun r' => Φ r' ρ3) : wSl wa wl wh ρ Φ := h
/-! tests -/
theorem e_b (h : wa ρ fun r ρ' => onB r Φb ρ') : wB wa ρ Φb := h
theorem e_onB (q : r.d = .bl k) (h : Φb k ρ) : onB r Φb ρ := by unfold onB; rw [q]; exact h
theorem e_tr (h : wa ρ fun r ρ' => onTr r Φb ρ') : wTr wa ρ Φb := h
theorem e_onTr (q : truD r.d = some k) (h : Φb k ρ) : onTr r Φb ρ := by unfold onTr; rw [q]; exact h
theorem e_and (h : ta ρ fun k ρ' => if k = true then tb ρ' Φb else Φb false ρ') : tAnd' ta tb ρ Φb := h
theorem e_or (h : ta ρ fun k ρ' => if k = true then Φb true ρ' else tb ρ' Φb) : tOr' ta tb ρ Φb := h
theorem e_not (h : ta ρ fun k ρ' => Φb (!k) ρ') : tNot' ta ρ Φb := h
theorem e_yes (h : Φb true ρ) : tYes' ρ Φb := h
theorem e_it {a b : Prop} (h : a) : if true = true then a else b := h
theorem e_if0 {a b : Prop} (h : b) : if false = true then a else b := h
theorem e_itn {a b : Prop} (h : b) : if (!true) = true then a else b := h
theorem e_ifn {a b : Prop} (h : a) : if (!false) = true then a else b := h
theorem e_dec {P a b : Prop} [Decidable P] (h1 : P → a) (h2 : ¬P → b) : if decide P = true then a else b := by
  by_cases c : P
  · rw [decide_eq_true c]; exact h1 c
  · rw [decide_eq_false c]; exact h2 c
theorem e_decn {P a b : Prop} [Decidable P] (h1 : P → b) (h2 : ¬P → a) : if (!decide P) = true then a else b := by
  by_cases c : P
  · rw [decide_eq_true c]; exact h1 c
  · rw [decide_eq_false c]; exact h2 c
theorem e_bool {a b : Prop} (h1 : k = true → a) (h2 : k = false → b) : if k = true then a else b := by
  cases k
  · exact h2 rfl
  · exact h1 rfl
/-! statements -/
theorem e_skip (h : S.nx ρ) : sSkip ρ S := h
theorem e_seq {f : En → Prop} {g : R → Prop} {b c : En → Prop} (h : u ρ ⟨fun ρ' => v ρ' ⟨f, g, b, c⟩, g, b, c⟩) : sSeq u v ρ ⟨f, g, b, c⟩ := h
theorem e_brk (h : S.bk ρ) : sBreak ρ S := h
theorem e_cont (h : S.ct ρ) : sCont ρ S := h
theorem e_drop (h : wa ρ fun _ ρ' => S.nx ρ') : sDrop wa ρ S := h
theorem e_set (h : wa ρ fun r ρ' => setW i r ρ' S) : sSet i wa ρ S := h
theorem e_setF (l : Nat.blt i ρ.length = true) (h : S.nx (ρ.set i (.fr d))) : setW i (.fr d) ρ S := ⟨Nat.blt_eq.mp l, trivial, h⟩
theorem e_setO (l : Nat.blt i ρ.length = true) (h : S.nx (ρ.set i (.ow d))) : setW i (.ow d) ρ S := ⟨Nat.blt_eq.mp l, trivial, h⟩
theorem e_aug {o : D → D → (D → Prop) → Prop} (q : ρ[i]? = some (.fr d)) (h : wa ρ fun r ρ' => o d r.d fun d' => augW i d' ρ' S) : sAug o i wa ρ S := by unfold sAug; rw [q]; exact h
theorem e_augW (l : Nat.blt i ρ.length = true) (h : S.nx (ρ.set i (.fr d))) : augW i d ρ S := ⟨Nat.blt_eq.mp l, h⟩
theorem e_mut {o : List D → List D → (List D → Prop) → Prop} (q : ρ[i]? = some (.ow (.lst ds))) (h : ws ρ fun rs ρ' => mutW o i rs ρ' S) : sMutF o i ws ρ S := by unfold sMutF; rw [q]; exact h
theorem e_mutW {o : List D → List D → (List D → Prop) → Prop} (q : ρ[i]? = some (.ow (.lst ds))) (q2 : frs' rs = some es) (h : o ds es fun ds' => S.nx (ρ.set i (.ow (.lst ds')))) : mutW o i rs ρ S := by unfold mutW; rw [q, q2]; exact h
theorem e_mut0 {o : List D → (List D → Prop) → Prop} (q : ρ[i]? = some (.ow (.lst ds))) (h : o ds fun ds' => S.nx (ρ.set i (.ow (.lst ds')))) : sMut0 o i ρ S := by unfold sMut0; rw [q]; exact h
theorem e_par (h : ws ρ fun rs ρ' => parW i j rs ρ' S) : sPar i j ws ρ S := h
theorem e_parW {r1 r2 : R} (l1 : Nat.blt i ρ.length = true) (l2 : Nat.blt j ρ.length = true) (o1 : r1.ok) (o2 : r2.ok) (h : S.nx ((ρ.set i r1.cell).set j r2.cell)) : parW i j [r1, r2] ρ S := ⟨⟨Nat.blt_eq.mp l1, Nat.blt_eq.mp l2⟩, ⟨o1, o2⟩, h⟩
theorem e_unp {W : WTg} (h : wa ρ fun r ρ' => unpW W r ρ' S) : sUnp W wa ρ S := h
theorem e_unpW {W : WTg} (h : W d ρ S.nx) : unpW W (.fr d) ρ S := h
theorem e_gN (l : Nat.blt i ρ.length = true) (h : Φe (ρ.set i (.fr d))) : gN i d ρ Φe := ⟨Nat.blt_eq.mp l, h⟩
theorem e_gNl (h : Φe ρ) : gNl [] ρ Φe := ⟨rfl, h⟩
theorem e_gCs {w : WTg} {wr : WTgs} (h : w d ρ fun ρ' => wr ds ρ' Φe) : gCs w wr (d :: ds) ρ Φe := h
theorem e_gTp {n : Nat} {wr : WTgs} (l : ds.length = n) (h : wr ds ρ Φe) : gTp n wr (.tup ds) ρ Φe := ⟨l, h⟩
theorem e_sif (h : ta ρ fun k ρ' => if k = true then u ρ' S else v ρ' S) : sIf ta u v ρ S := h
theorem e_ret (h : wa ρ fun r _ => retW r S) : sRet wa ρ S := h
theorem e_retF (h : S.rt (.fr d)) : retW (.fr d) S := h
theorem e_retO (h : S.rt (.ow d)) : retW (.ow d) S := h
theorem e_retN (h : S.rt (.fr .non)) : sRetN ρ S := h
theorem e_retV (q : ρ[i]? = some (.fr d)) (h : S.rt (.fr d)) : sRetV i ρ S := by unfold sRetV; rw [q]; exact h
theorem e_retVo (q : ρ[i]? = some (.ow d)) (h : S.rt (.ow d)) : sRetV i ρ S := by unfold sRetV; rw [q]; exact h
theorem e_for {wi : WI} {W : WTg} {b : WS} (h : wi ρ fun ds ρ' => forD W b S ds ρ') : sFor wi W b ρ S := h
theorem e_lc {wi : WI} {W : WTg} {wt : WT} {we : WE} {vs : List Nat} (h : wi ρ fun ds ρ1 => lcD W wt we vs (fun out ρe => Φ (.ow (.lst out)) (mixE vs 0 ρ1 ρe)) ds [] (wipeE vs 0 ρ1)) : wLc wi W wt we vs ρ Φ := h
/-! what is walked -/
theorem e_seqI (h : wa ρ fun r ρ' => seqW r Φi ρ') : wSeqI wa ρ Φi := h
theorem e_seqL (h : Φi ds ρ) : seqW (.fr (.lst ds)) Φi ρ := h
theorem e_seqT (h : Φi ds ρ) : seqW (.fr (.tup ds)) Φi ρ := h
def rngW (rs : List D) (Φ : List D → En → Prop) (ρ : En) : Prop := match rs with
  | [.int j] => (-(2 ^ 62) ≤ j ∧ j < 2 ^ 62) ∧ Φ (rngD 0 j.toNat) ρ
  | _ => False
def rng2W (rs : List D) (Φ : List D → En → Prop) (ρ : En) : Prop := match rs with
  | [.int i, .int j] => (-(2 ^ 62) ≤ i ∧ i < 2 ^ 62 ∧ -(2 ^ 62) ≤ j ∧ j < 2 ^ 62) ∧ Φ (rngD i (j - i).toNat) ρ
  | _ => False
theorem e_rng (h : ws ρ fun rs ρ' => rngW (rs.map R.d) Φi ρ') : wRng1 ws ρ Φi := h
theorem e_rngW {n : Int} (q : es = [.int n]) (l : -4611686018427387904 ≤ n ∧ n < 4611686018427387904) (h : Φi (rngD 0 n.toNat) ρ) : rngW es Φi ρ := by subst q; exact ⟨⟨by omega, by omega⟩, h⟩
theorem e_rng2 (h : ws ρ fun rs ρ' => rng2W (rs.map R.d) Φi ρ') : wRng2 ws ρ Φi := h
theorem e_rng2W {m n : Int} (q : es = [.int m, .int n]) (l : -4611686018427387904 ≤ m ∧ m < 4611686018427387904 ∧ -4611686018427387904 ≤ n ∧ n < 4611686018427387904) (h : Φi (rngD m (n - m).toNat) ρ) : rng2W es Φi ρ := by subst q; exact ⟨⟨by omega, by omega, by omega, by omega⟩, h⟩
def strIW (d : D) (Φ : List D → En → Prop) (ρ : En) : Prop := match d with
  | .str x => Φ (sgD x) ρ
  | _ => False
theorem e_strI (h : wa ρ fun r ρ' => strIW r.d Φi ρ') : wStrI wa ρ Φi := h
theorem e_strIW {x : Str} (q : d = .str x) (h : Φi (sgD x) ρ) : strIW d Φi ρ := by subst q; exact h
def enW (rs : List R) (Φ : List D → En → Prop) (ρ : En) : Prop := match rs with
  | [.fr (.lst ds)] => Φ (enD ds) ρ
  | _ => False
theorem e_en (h : ws ρ fun rs ρ' => enW rs Φi ρ') : wEnum ws ρ Φi := h
theorem e_enW (h : Φi (enD ds) ρ) : enW [.fr (.lst ds)] Φi ρ := h
def enSW (rs : List D) (Φ : List D → En → Prop) (ρ : En) : Prop := match rs with
  | [.str x] => Φ (enD (sgD x)) ρ
  | _ => False
theorem e_enS (h : ws ρ fun rs ρ' => enSW (rs.map R.d) Φi ρ') : wEnumS ws ρ Φi := h
theorem e_enSW {x : Str} (q : es = [.str x]) (h : Φi (enD (sgD x)) ρ) : enSW es Φi ρ := by subst q; exact h
def zipW (rs : List R) (Φ : List D → En → Prop) (ρ : En) : Prop := match rs with
  | [.fr (.lst ds), .fr (.lst es)] => Φ (zpD ds es) ρ
  | _ => False
theorem e_zip (h : ws ρ fun rs ρ' => zipW rs Φi ρ') : wZip ws ρ Φi := h
theorem e_zipW (h : Φi (zpD ds es) ρ) : zipW [.fr (.lst ds), .fr (.lst es)] Φi ρ := h
/-! operations -/
variable {m n : Int} {x y : Str} {p q : Bool} {d : D}
theorem e_addI (h : Φr (.fr (.int (m + n)))) : oAdd (.int m) (.int n) Φr := h
theorem e_addS (l : x.length + y.length ≤ 16777216) (h : Φr (.fr (.str (x ++ y)))) : oAdd (.str x) (.str y) Φr := ⟨by rw [sizeLine_eq]; exact l, h⟩
theorem e_addL (l : ds.length + es.length ≤ 16777216) (h : Φr (.ow (.lst (ds ++ es)))) : oAdd (.lst ds) (.lst es) Φr := ⟨by rw [sizeLine_eq]; exact l, h⟩
theorem e_addT (l : ds.length + es.length ≤ 16777216) (h : Φr (.fr (.tup (ds ++ es)))) : oAdd (.tup ds) (.tup es) Φr := ⟨by rw [sizeLine_eq]; exact l, h⟩
theorem e_int0 {g : Int → Int → D} (h : Φr (.fr (g m n))) : oInt0 g (.int m) (.int n) Φr := h
theorem e_int {C : Int → Int → Prop} {g : Int → Int → D} (l : C m n) (h : Φr (.fr (g m n))) : oInt C g (.int m) (.int n) Φr := ⟨l, h⟩
theorem e_mulI (l : CMul m n) (h : Φr (.fr (.int (m * n)))) : oMulA (.int m) (.int n) Φr := ⟨l, h⟩
theorem e_mulL (l : -(2 ^ 63) ≤ n ∧ n < 2 ^ 63 ∧ ds.length * n.toNat ≤ 16777216) (h : Φr (.ow (.lst (List.replicate n.toNat ds).flatten))) : oMulA (.lst ds) (.int n) Φr := ⟨⟨l.1, l.2.1, by rw [sizeLine_eq]; exact l.2.2⟩, h⟩
theorem e_neg (h : Φr (.fr (.int (-n)))) : oNeg (.int n) Φr := h
theorem e_ltI (h : Φr (.fr (.bl (decide (m < n))))) : oLt (.int m) (.int n) Φr := h
theorem e_ltS (h : Φr (.fr (.bl (strLt x y)))) : oLt (.str x) (.str y) Φr := h
theorem e_leI (h : Φr (.fr (.bl (decide (m ≤ n))))) : oLe (.int m) (.int n) Φr := h
theorem e_leS (h : Φr (.fr (.bl (!strLt y x)))) : oLe (.str x) (.str y) Φr := h
theorem e_gtI (h : Φr (.fr (.bl (decide (n < m))))) : oGt (.int m) (.int n) Φr := h
theorem e_gtS (h : Φr (.fr (.bl (strLt y x)))) : oGt (.str x) (.str y) Φr := h
theorem e_geI (h : Φr (.fr (.bl (decide (n ≤ m))))) : oGe (.int m) (.int n) Φr := h
theorem e_geS (h : Φr (.fr (.bl (!strLt x y)))) : oGe (.str x) (.str y) Φr := h
theorem e_eqI (h : Φr (.fr (.bl (decide (m = n))))) : oEq (.int m) (.int n) Φr := by rw [oEq_int]; exact h
theorem e_eqS (h : Φr (.fr (.bl (decide (x = y))))) : oEq (.str x) (.str y) Φr := h
theorem e_eqB (h : Φr (.fr (.bl (p == q)))) : oEq (.bl p) (.bl q) Φr := by rw [oEq_bl]; exact h
theorem e_neI (h : Φr (.fr (.bl (!decide (m = n))))) : oNe (.int m) (.int n) Φr := by rw [oNe_int]; exact h
theorem e_neS (h : Φr (.fr (.bl (!decide (x = y))))) : oNe (.str x) (.str y) Φr := h
theorem e_neB (h : Φr (.fr (.bl (!(p == q))))) : oNe (.bl p) (.bl q) Φr := by rw [oNe_bl]; exact h
theorem e_eqL (l : (okE (.lst ds) && okE (.lst es)) = true) (h : Φr (.fr (.bl (eqD (.lst ds) (.lst es))))) : oEq (.lst ds) (.lst es) Φr := ⟨l, h⟩
theorem e_eqT (l : (okE (.tup ds) && okE (.tup es)) = true) (h : Φr (.fr (.bl (eqD (.tup ds) (.tup es))))) : oEq (.tup ds) (.tup es) Φr := ⟨l, h⟩
theorem e_inL {neg : Bool} (l : (okE d && okE (.lst ds)) = true) (h : Φr (.fr (.bl (if neg then !inD d ds else inD d ds)))) : oIn neg d (.lst ds) Φr := by cases d <;> exact ⟨l, h⟩
theorem e_inT {neg : Bool} (l : (okE d && okE (.lst ds)) = true) (h : Φr (.fr (.bl (if neg then !inD d ds else inD d ds)))) : oIn neg d (.tup ds) Φr := by cases d <;> exact ⟨l, h⟩
theorem e_inL0 (l : (okE d && okE (.lst ds)) = true) (h : Φr (.fr (.bl (inD d ds)))) : oIn false d (.lst ds) Φr := e_inL l h
theorem e_inL1 (l : (okE d && okE (.lst ds)) = true) (h : Φr (.fr (.bl (!inD d ds)))) : oIn true d (.lst ds) Φr := e_inL l h
theorem e_inT0 (l : (okE d && okE (.lst ds)) = true) (h : Φr (.fr (.bl (inD d ds)))) : oIn false d (.tup ds) Φr := e_inT l h
theorem e_inT1 (l : (okE d && okE (.lst ds)) = true) (h : Φr (.fr (.bl (!inD d ds)))) : oIn true d (.tup ds) Φr := e_inT l h
theorem e_ixL (l : atI ds n = some d) (h : Φr (.fr d)) : oIx (.lst ds) (.int n) Φr := ⟨d, l, h⟩
theorem e_ixT (l : atI ds n = some d) (h : Φr (.fr d)) : oIx (.tup ds) (.int n) Φr := ⟨d, l, h⟩
theorem e_ixS {c : Nat} (z : x.length ≤ 16777216) (l : atI x.cps.toList n = some c) (h : Φr (.fr (.str ⟨#[c]⟩))) : oIx (.str x) (.int n) Φr := ⟨by rw [sizeLine_eq]; exact z, c, l, h⟩
theorem e_slL {lo hi : Option Int} (h : Φr (.ow (.lst (cutD ds lo hi)))) : oSl (.lst ds) lo hi Φr := h
theorem e_slT {lo hi : Option Int} (h : Φr (.fr (.tup (cutD ds lo hi)))) : oSl (.tup ds) lo hi Φr := h
theorem e_slS {lo hi : Option Int} (z : x.length ≤ 16777216) (h : Φr (.fr (.str (cutS x lo hi)))) : oSl (.str x) lo hi Φr := ⟨by rw [sizeLine_eq]; exact z, h⟩
theorem e_lenL (h : Φr (.fr (.int ds.length))) : oLen [.lst ds] Φr := h
theorem e_lenT (h : Φr (.fr (.int ds.length))) : oLen [.tup ds] Φr := h
theorem e_lenS (z : x.length ≤ 16777216) (h : Φr (.fr (.int x.length))) : oLen [.str x] Φr := ⟨by rw [sizeLine_eq]; exact z, h⟩
theorem e_intI (h : Φr (.fr (.int n))) : oIntC [.int n] Φr := h
theorem e_intB (h : Φr (.fr (.int (if p then 1 else 0)))) : oIntC [.bl p] Φr := h
theorem e_listL (h : Φr (.ow (.lst ds))) : oList [.lst ds] Φr := h
theorem e_listT (h : Φr (.ow (.lst ds))) : oList [.tup ds] Φr := h
theorem e_tupleL (h : Φr (.fr (.tup ds))) : oTuple [.lst ds] Φr := h
theorem e_tupleT (h : Φr (.fr (.tup ds))) : oTuple [.tup ds] Φr := h
theorem e_aAddI (h : Φd (.int (m + n))) : aAdd (.int m) (.int n) Φd := h
theorem e_aAddS (l : x.length + y.length ≤ 16777216) (h : Φd (.str (x ++ y))) : aAdd (.str x) (.str y) Φd := ⟨by rw [sizeLine_eq]; exact l, h⟩
theorem e_aInt {C : Int → Int → Prop} {g : Int → Int → Int} (l : C m n) (h : Φd (.int (g m n))) : aInt C g (.int m) (.int n) Φd := ⟨l, h⟩
theorem e_app (l : ds.length < 16777216) (h : Φl (ds ++ [d])) : owApp ds [d] Φl := ⟨by rw [sizeLine_eq]; exact l, h⟩
theorem e_ext (l : ds.length + es.length ≤ 16777216) (h : Φl (ds ++ es)) : owExt ds [.lst es] Φl := ⟨by rw [sizeLine_eq]; exact l, h⟩
theorem e_split (l : (y.length == 0) = false ∧ x.length + 2 ≤ 16777216) (h : Φr (.ow (.lst ((Txt.split x y).map D.str)))) : oSplit (.str x) [.str y] Φr := ⟨l.1, by rw [sizeLine_eq]; exact l.2, h⟩
/-! one turn of a comprehension -/
variable {Ψ : Option D → En → Prop} {W : WTg} {we : WE} {vs : List Nat}
def st2 (r : R) (vs : List Nat) (Ψ : Option D → En → Prop) (ρ : En) : Prop := match r with
  | .fr y => Ψ (some y) (wipeE vs 0 ρ)
  | _ => False
theorem e_step (h : W d ρ fun ρ1 => ta ρ1 fun b ρ2 => if b = true then we ρ2 fun r ρ3 => st2 r vs Ψ ρ3 else Ψ none (wipeE vs 0 ρ2)) : stepD W ta we vs ρ d Ψ := h
theorem e_st2 (h : Ψ (some d) (wipeE vs 0 ρ)) : st2 (.fr d) vs Ψ ρ := h
theorem e_nx {f : En → Prop} {g : R → Prop} {b c : En → Prop} (h : f ρ) : SK.nx ⟨f, g, b, c⟩ ρ := h
theorem e_rt {f : En → Prop} {g : R → Prop} {b c : En → Prop} (h : g r) : SK.rt ⟨f, g, b, c⟩ r := h
theorem e_bk {f : En → Prop} {g : R → Prop} {b c : En → Prop} (h : b ρ) : SK.bk ⟨f, g, b, c⟩ ρ := h
theorem e_ct {f : En → Prop} {g : R → Prop} {b c : En → Prop} (h : c ρ) : SK.ct ⟨f, g, b, c⟩ ρ := h
end
theorem truD_str {x : Str} (h : x.length ≤ 16777216) : truD (.str x) = some ((x.length : Int) != 0) := by
  show (if x.length ≤ sizeLine then some ((x.length : Int) != 0) else none) = _
  rw [if_pos (by rw [sizeLine_eq]; exact h)]
theorem e_sum {ds : List D} {ns : List Int} {Φr : R → Prop} (q : intsD ds = some ns) (h : Φr (.fr (.int ns.sum))) : oSum [.lst ds] Φr := ⟨ns, q, h⟩
theorem ints_good : ∀ ns : List Int, D.goodL (ns.map D.int) = true ∧ D.depL (ns.map D.int) = 0
  | [] => ⟨rfl, rfl⟩
  | n :: ns => by
    obtain ⟨a, b⟩ := ints_good ns
    refine ⟨?_, ?_⟩
    · show (true && D.goodL (ns.map D.int)) = true
      rw [a]; rfl
    · show max 0 (D.depL (ns.map D.int)) = 0
      rw [b]; rfl
theorem ints_sho : ∀ ns : List Int, (∀ n ∈ ns, n.natAbs < 2 ^ 64) → D.shoL (ns.map D.int) = true ∧ D.costL (ns.map D.int) ≤ 69 * ns.length
  | [], _ => ⟨rfl, by decide⟩
  | n :: ns, h => by
    obtain ⟨a, b⟩ := ints_sho ns fun m hm => h m (List.mem_cons_of_mem _ hm)
    have hn := h n List.mem_cons_self
    have hl : n.natAbs.log2 < 64 := by
      by_cases z : n.natAbs = 0
      · rw [z]; decide
      · exact (Nat.log2_lt z).mpr hn
    refine ⟨?_, ?_⟩
    · show (decide (n.natAbs.log2 < 1920) && D.shoL (ns.map D.int)) = true
      rw [a, decide_eq_true (by omega)]; rfl
    · show n.natAbs.log2 + 3 + 2 + D.costL (ns.map D.int) ≤ 69 * (ns.length + 1)
      omega
theorem okR_ints (ns : List Int) (hl : ns.length ≤ 200000) (h : ∀ n ∈ ns, n.natAbs < 2 ^ 64) : okR (.lst (ns.map D.int)) = true := by
  obtain ⟨a, b⟩ := ints_good ns
  obtain ⟨c, d⟩ := ints_sho ns h
  have e1 : okE (.lst (ns.map D.int)) = true := by
    unfold okE
    show (D.goodL (ns.map D.int) && decide (D.depL (ns.map D.int) + 1 ≤ 64)) = true
    rw [a, b]; rfl
  unfold okR
  rw [e1]
  show (true && D.shoL (ns.map D.int) && decide (D.costL (ns.map D.int) + 3 ≤ 16777216)) = true
  rw [c, decide_eq_true (by omega)]; rfl
end Tv
/-! Tv16: is, chains, isinstance, range with a step, bits. -/
namespace Tv
open PySem PySem.Spec PyProof.Rows L2

section
variable {K : PySem.W.Frag} {X : Cx} {G0 : Gh} {H0 : Hp} {pos : Pos} {e tg a b c : Expr} {es : List Expr} {wa wb wc : WE} {ws : WA}
/-! ### is -/
def D.isN : D → Bool
  | .non => true
  | _ => false
def D.isU : D → Bool
  | .unk => true
  | _ => false
theorem Sh.isN {G : Gh} {H : Hp} {d : D} {v : V} (h : Sh K G H d v) (u : d.isU = false) : decide (v = V.non) = d.isN := by
  rcases h with h | ⟨a, rfl, _, h⟩
  · cases h with
    | unk v => cases u
    | _ => simp [D.isN]
  · cases d with
    | lst ds => simp [D.isN]
    | dct _ _ => simp [D.isN]
    | dcu _ _ => simp [D.isN]
    | _ => exact h.elim
def rIsA : R2 := fun x y H Q => (y = .non ∧ Q (.bl (decide (x = .non))) H) ∨ rIsB x y H Q
def rIsNA : R2 := fun x y H Q => (y = .non ∧ Q (.bl (!decide (x = .non))) H) ∨ rNotB x y H Q
def oIs : D → D → (R → Prop) → Prop
  | d, .non, Φ => d.isU = false ∧ Φ (.fr (.bl d.isN))
  | .bl i, .bl j, Φ => Φ (.fr (.bl (decide (i = j))))
  | _, _, _ => False
def oIsNot : D → D → (R → Prop) → Prop
  | d, .non, Φ => d.isU = false ∧ Φ (.fr (.bl (!d.isN)))
  | .bl i, .bl j, Φ => Φ (.fr (.bl (!decide (i = j))))
  | _, _, _ => False
theorem op_isA : OpR X (compareOp .Is) rIsA := op_isN.or op_isBl
theorem op_isNotA : OpR X (compareOp .IsNot) rIsNA := op_notN.or op_notBl
theorem op2_is : Op2 K oIs rIsA := fun G H d e v u Φ Q w s1 s2 h k => by
  unfold oIs at h
  split at h
  · cases s2.n
    exact .inl ⟨rfl, by rw [s1.isN h.1]; exact k _ _ G H h.2 w (Grow.refl _ _) (.bl _)⟩
  · cases s1.b; cases s2.b
    exact .inr ⟨_, _, rfl, rfl, k _ _ G H h w (Grow.refl _ _) (.bl _)⟩
  · exact h.elim
theorem op2_isNot : Op2 K oIsNot rIsNA := fun G H d e v u Φ Q w s1 s2 h k => by
  unfold oIsNot at h
  split at h
  · cases s2.n
    exact .inl ⟨rfl, by rw [s1.isN h.1]; exact k _ _ G H h.2 w (Grow.refl _ _) (.bl _)⟩
  · cases s1.b; cases s2.b
    exact .inr ⟨_, _, rfl, rfl, k _ _ G H h w (Grow.refl _ _) (.bl _)⟩
  · exact h.elim

/-! ### a < b < c -/
def wChain (o o' : D → D → (R → Prop) → Prop) (wa wb wc : WE) : WE := fun ρ Φ => wa ρ fun r ρ1 => wb ρ1 fun r2 ρ2 => o r.d r2.d fun z => match z.d with
  | .bl true => wc ρ2 fun r3 ρ3 => o' r2.d r3.d fun r' => Φ r' ρ3
  | .bl false => Φ (.fr (.bl false)) ρ2
  | _ => False
theorem tx_chain {o o' : D → D → (R → Prop) → Prop} {rr rr' : R2} (h1 : Op2 K o rr) (h2 : Op2 K o' rr') {σ : L2.St} {H : Hp} {Q : VK} (h : TX K G0 H0 (wChain o o' wa wb wc) σ H Q) : tChain rr rr' (TX K G0 H0 wa) (TX K G0 H0 wb) (TX K G0 H0 wc) σ H Q := by
  obtain ⟨ρ, G, Φ, S, h, k⟩ := h
  refine ⟨ρ, G, _, S, h, fun r ρ1 v G1 H1 q1 S1 P1 L1 x1 => ⟨ρ1, G1, _, S1, q1, fun r2 ρ2 v2 G2 H2 q2 S2 P2 L2 x2 => ?_⟩⟩
  have PP := P1.trans S1.wd P2 L1
  have LL := L2.trans L1
  refine h1 G2 H2 r.d r2.d v v2 _ _ S2.wd (x1.sh.stp S1.wd P2) x2.sh q2 fun z vz G3 H3 q3 w3 g3 xz => ?_
  have S3 := S2.grow w3 g3
  have P3 := PP.trans S2.wd g3.stp LL
  have xz' := xz.sh
  split at q3
  · rename_i ez
    rw [ez] at xz'
    refine ⟨true, xz'.b, iteT ⟨ρ2, G3, _, S3, q3, fun r3 ρ3 v3 G4 H4 q4 S4 P4 L4 x4 => ?_⟩⟩
    have P5 := P3.trans S3.wd P4 LL
    exact h2 G4 H4 r2.d r3.d v2 v3 _ _ S4.wd ((x2.sh.grow S2.wd g3).stp S3.wd P4) x4.sh q4 fun r' v' G5 H5 φ w5 g5 x' => k r' ρ3 v' G5 H5 φ (S4.grow w5 g5) (P5.trans S4.wd g5.stp (L4.trans LL)) (L4.trans LL) (x'.back fun a z => P5.nn S4.wd z)
  · rename_i ez
    rw [ez] at xz'
    exact ⟨false, xz'.b, iteF (k _ ρ2 _ G3 H3 q3 S3 P3 LL (.bl false))⟩
  · exact q3.elim
theorem i_chain {op op' : CmpOp} {rr rr' : R2} {o o' : D → D → (R → Prop) → Prop} (ho : OpR X (compareOp op) rr) (h1 : Op2 X.K o rr) (ho' : OpR X (compareOp op') rr') (h2 : Op2 X.K o' rr') (ha : PEI X G0 H0 a wa) (hb : PEI X G0 H0 b wb) (hc : PEI X G0 H0 c wc)
    (hm : lastMarks [op, op'] [b, c] = false) : PEI X G0 H0 (.Compare a [op, op'] [b, c] pos) (wChain o o' wa wb wc) := pe_imp (pe_chain ho ho' ha hb hc hm) fun _ _ _ h => tx_chain h1 h2 h
theorem t_chain {op op' : CmpOp} {rr rr' : R2} {o o' : D → D → (R → Prop) → Prop} (ho : OpR X (compareOp op) rr) (h1 : Op2 X.K o rr) (ho' : OpR X (compareOp op') rr') (h2 : Op2 X.K o' rr') (ha : PEI X G0 H0 a wa) (hb : PEI X G0 H0 b wb) (hc : PEI X G0 H0 c wc)
    (hm : lastMarks [op, op'] [b, c] = false) : PTI X G0 H0 (.Compare a [op, op'] [b, c] pos) (wB (wChain o o' wa wb wc)) := by
  refine pt_imp (pt_chain ho ho' ha hb hc hm) fun σ H Q h => ?_
  exact tx_chain (Q := fun x H' => ∃ k, x = .bl k ∧ Q k H') h1 h2 (by
    obtain ⟨ρ, G, Φ, S, h, c⟩ := h
    refine ⟨ρ, G, _, S, h, fun r ρ' v G' H' q S' P L x => ?_⟩
    have x' := x.sh
    split at q
    · rename_i bb e
      rw [e] at x'
      exact ⟨bb, x'.b, c bb ρ' G' H' q S' P L⟩
    · exact q.elim)

/-! ### range(i, j, c) -/
def stpD (lo c : Int) (n : Nat) : List D := (List.range n).map fun i => .int (lo + (i : Nat) * c)
theorem itr_stp {G : Gh} {H : Hp} {lo c : Int} {n : Nat} : ItR K (Itc lo c n) G H (stpD lo c n) := fun i G' H' w f => by
  refine ⟨fun h => ?_, fun d e => ?_⟩
  · unfold stpD at h
    rw [List.length_map, List.length_range] at h
    exact h
  · unfold stpD at e
    rw [List.getElem?_map] at e
    have hi : i < n := by
      by_cases q : i < n
      · exact q
      · rw [List.getElem?_eq_none (by rw [List.length_range]; omega)] at e
        cases e
    rw [List.getElem?_range hi] at e
    cases e
    exact ⟨hi, fun x H'' y => ⟨G', by rw [y.1]; exact w, by rw [y.1]; exact Grow.refl _ _, by rw [y.2]; exact .int _⟩⟩
def wRng3 (ws : WA) : WI := fun ρ Φ => ws ρ fun rs ρ' => match rs.map R.d with
  | [.int i, .int j, .int c] => ∃ n, RgC i j c n ∧ Φ (stpD i c n) ρ'
  | _ => False
theorem p_rng3 {p : Pos} (hg : Gl X "range") (hm : X.mg "range" = none) (ha : PAI X G0 H0 [a, b, c] ws) (hs : starEach [a, b, c] X.env = (false, eval a X.env) :: starEach [b, c] X.env := by rfl) (hpl : (backTo pos (starEach [b, c] X.env)).any (·.1) = false := by rfl) :
    PII X G0 H0 tg (.Call (.Name "range" p) [a, b, c] [] pos) (wRng3 ws) := by
  refine pi_imp (pi_range3 hg hm ha hs hpl) fun σ H R' h => ?_
  obtain ⟨ρ, G, Φ, S, h, k⟩ := h
  refine ⟨ρ, G, _, S, h, fun rs ρ' vs G' H' q S' P L x => ?_⟩
  split at q
  · rename_i i j m e
    obtain ⟨n, hn, q⟩ := q
    have hs := x.sh
    have hl := x.length
    rw [← List.length_map (f := R.d), e] at hl
    rw [e] at hs
    match vs, hl, hs with
    | [v1, v2, v3], _, hs =>
      cases (hs 0 _ v1 rfl rfl).i
      cases (hs 1 _ v2 rfl rfl).i
      cases (hs 2 _ v3 rfl rfl).i
      exact ⟨i, j, m, n, rfl, hn, k _ ρ' _ G' H' q S' P L itr_stp⟩
  · exact q.elim
/-! ### bits -/
abbrev oXor := oInt0 fun i j => .int (Builtin.bitXor i j)
abbrev oBAnd := oInt0 fun i j => .int (Builtin.bitAnd i j)
abbrev oBOr := oInt0 fun i j => .int (Builtin.bitOr i j)
abbrev oShl := oInt CPow fun i j => .int (i * 2 ^ j.toNat)
abbrev oShr := oInt (fun _ j => 0 ≤ j) fun i j => .int (i / 2 ^ j.toNat)
theorem op2_xor : Op2 K oXor (rI0 fun i j => .int (Builtin.bitXor i j)) := op2_int0 fun _ _ _ _ => .int _
theorem op2_band : Op2 K oBAnd (rI0 fun i j => .int (Builtin.bitAnd i j)) := op2_int0 fun _ _ _ _ => .int _
theorem op2_bor : Op2 K oBOr (rI0 fun i j => .int (Builtin.bitOr i j)) := op2_int0 fun _ _ _ _ => .int _
theorem op2_shl : Op2 K oShl (rI CPow fun i j => .int (i * 2 ^ j.toNat)) := op2_int fun _ _ _ _ => .int _
theorem op2_shr : Op2 K oShr (rI (fun _ j => 0 ≤ j) fun i j => .int (i / 2 ^ j.toNat)) := op2_int fun _ _ _ _ => .int _
end
end Tv
/-! Tv17: sorted over data of one form. -/
namespace Tv
open PySem PySem.Spec PyProof.Rows L2

section
variable {K : PySem.W.Frag} {X : Cx}
abbrev pyZ (z : V × D) : PyData := z.2.py
def rSortedD (K : PySem.W.Frag) : List V → Hp → VK → Prop := fun vs H Q => ∃ (a : Addr) (zs : List (V × D)), vs = [V.ref a] ∧ (SqL K H a (zs.map (·.1))) ∧ (∀ z ∈ zs, Dp K H z.1 (pyZ z) ∧ (pyZ z).depth ≤ 64) ∧ PySem.W.AllAlike (zs.map pyZ) ∧ PySem.W.Sortable (zs.map pyZ) ∧
  ∀ p, H p = none → Q (.ref p) (upd H p (.lst ((zs.mergeSort (PySem.W.dataLe false pyZ)).map (·.1))))
theorem each_of_vals {R : Value → (V × D) → Prop} : ∀ {zs : List (V × D)} {us : List Value}, Vals (zs.map (·.1)) us → (∀ z ∈ zs, ∀ u, RelV z.1 u → R u z) → PySem.W.EachIs R us zs
  | [], _, r, _ => by cases r; exact .nil
  | z :: zs, _, r, h => by
    cases r with
    | cons r1 r2 => exact .cons (h z List.mem_cons_self _ r1) (each_of_vals r2 fun y hy => h y (List.mem_cons_of_mem _ hy))
theorem vals_of_each : ∀ {zs : List (V × D)} {us : List Value}, PySem.W.EachIs (fun u z => RelV z.1 u) us zs → Vals (zs.map (·.1)) us
  | [], _, r => by cases r; exact .nil
  | z :: zs, _, r => by
    cases r with
    | cons r1 r2 => exact .cons r1 (vals_of_each r2)
theorem cr_sortedD (hu : X.A.units + 70 < cLine) : CallR X (.builtin "sorted") (rSortedD X.K) := by
  intro pins s σ H vs us Q I r h
  obtain ⟨a, zs, rfl, hs, hd, hal, hso, q⟩ := h
  obtain ⟨its, rv, hl, hz⟩ := I.list hs
  rw [Vals.ref1 r]
  rw [List.length_map] at hz
  refine PySem.W.sorted_data (enc := pyZ) (R := fun u z => RelV z.1 u) hl.isList (each_of_vals rv fun z _ u ru => ru) (each_of_vals rv fun z hz u ru => Dp.reads I _ _ u (hd z hz).1 ru) hal hso hz (fun z hz => by have := (hd z hz).2; omega) fun out ho eo => ?_
  obtain ⟨ep, he'⟩ := PyProof.Rows.sortedAll_at s.heap its out.toArray
  have hlen : ((zs.mergeSort (PySem.W.dataLe false pyZ)).map (·.1)).length ≤ sizeLine := by rw [List.length_map, List.length_mergeSort]; exact hz
  have vo := vals_of_each eo
  refine ⟨.ref _, upd H (s.heap.objs.size + 1) (.lst ((zs.mergeSort (PySem.W.dataLe false pyZ)).map (·.1))), I.laid (t' := s.toks) (fun _ _ => PyProof.Rows.sortedAll_old) (Nat.le_succ _) ⟨hlen, out, ep, vo, ?_⟩, rfl, q _ (I.hok.fresh (Nat.le_succ _))⟩
  exact he'
/-- sorted: all alike -/
def oSorted : List D → (R → Prop) → Prop
  | [.lst ds], Φ => (D.goodL ds && decide (D.depL ds ≤ 64)) = true ∧ PySem.W.AllAlike (ds.map D.py) ∧ PySem.W.Sortable (ds.map D.py) ∧ Φ (.ow (.lst (ds.mergeSort (PySem.W.dataLe false D.py))))
  | _, _ => False
theorem RepL.zip {G : Gh} {H : Hp} : ∀ {ds : List D} {xs : List V}, RepL K G H ds xs → ∃ zs : List (V × D), zs.map (·.1) = xs ∧ zs.map (·.2) = ds ∧ ∀ z ∈ zs, Rep K G H z.2 z.1
  | _, _, .nil => ⟨[], rfl, rfl, fun _ h => nomatch h⟩
  | _, _, .cons (d := d) (v := v) r t => by
    obtain ⟨zs, e1, e2, h⟩ := RepL.zip t
    exact ⟨(v, d) :: zs, by simp [e1], by simp [e2], fun z hz => by
      rcases List.mem_cons.mp hz with rfl | hz
      · exact r
      · exact h z hz⟩
theorem RepL.unzip {G : Gh} {H : Hp} : ∀ {zs : List (V × D)}, (∀ z ∈ zs, Rep K G H z.2 z.1) → RepL K G H (zs.map (·.2)) (zs.map (·.1))
  | [], _ => .nil
  | z :: zs, h => .cons (h z List.mem_cons_self) (RepL.unzip fun y hy => h y (List.mem_cons_of_mem _ hy))
theorem goodL_mem : ∀ {ds : List D}, D.goodL ds = true → ∀ d ∈ ds, d.good = true ∧ d.dep ≤ D.depL ds
  | [], _, _, h => nomatch h
  | d :: ds, g, x, hx => by
    have g' : (d.good && D.goodL ds) = true := g
    rw [Bool.and_eq_true] at g'
    have e : D.depL (d :: ds) = max d.dep (D.depL ds) := rfl
    rcases List.mem_cons.mp hx with rfl | hx
    · exact ⟨g'.1, by rw [e]; exact Nat.le_max_left _ _⟩
    · obtain ⟨a, b⟩ := goodL_mem g'.2 x hx
      exact ⟨a, by rw [e]; exact Nat.le_trans b (Nat.le_max_right _ _)⟩
theorem opn_sorted : OpN K oSorted (rSortedD K) := fun G H ds vs Φ Q w hl hs h k => by
  unfold oSorted at h
  split at h
  · obtain ⟨v, rfl, s⟩ := one_sh hl hs
    obtain ⟨hg, hal, hso, h⟩ := h
    rw [Bool.and_eq_true, decide_eq_true_eq] at hg
    obtain ⟨a, xs, rfl, e, r⟩ := s.list
    obtain ⟨zs, e1, e2, hz⟩ := r.zip
    have e3 : zs.map pyZ = (zs.map (·.2)).map D.py := by rw [List.map_map]; rfl
    subst e1
    subst e2
    refine ⟨a, zs, rfl, e, fun z hz' => ?_, by rw [e3]; exact hal, by rw [e3]; exact hso, fun p hp => ?_⟩
    · obtain ⟨g1, g2⟩ := goodL_mem hg.1 z.2 (List.mem_map.mpr ⟨z, hz', rfl⟩)
      exact ⟨(hz z hz').dp g1, by show z.2.py.depth ≤ 64; rw [dep_py]; omega⟩
    · have e4 : (zs.mergeSort (PySem.W.dataLe false pyZ)).map (·.2) = (zs.map (·.2)).mergeSort (PySem.W.dataLe false D.py) := List.map_mergeSort fun _ _ _ _ => rfl
      have rp := RepL.unzip (K := K) (G := G) (H := H) (zs := zs.mergeSort (PySem.W.dataLe false pyZ)) fun z hz' => hz z ((List.mem_mergeSort).mp hz')
      rw [e4] at rp
      exact new_lst w k rp h p hp
  · exact h.elim
end
end Tv
namespace L2
theorem Room.r70 {k : Nat} {A : PySem.Around} (h : Room k A) : A.units + 70 < PySem.cLine := by have := h.un; omega
end L2
/-! Tv18: sets of keys of one kind, made of a list; sorted of such a set; its len. -/
namespace Tv
open PySem PySem.Spec PyProof.Rows L2

section
variable {P : Program} {w : World} {Ky : Type} [DecidableEq Ky] {knd : KeyKind P w Ky}
abbrev Ent := Int × Value
/-- the entries stand for these keys, one by one -/
abbrev EntsAre (knd : KeyKind P w Ky) (ks : List Ky) (es : List Ent) : Prop := Paired (fun k e => knd.is k e.2 = true) ks es
theorem ents_perm {es es' : List Ent} (p : es.Perm es') : ∀ {ks : List Ky}, EntsAre knd ks es → ∃ ks', ks.Perm ks' ∧ EntsAre knd ks' es' := by
  induction p with
  | nil => intro ks h; cases h; exact ⟨[], .refl _, .nil⟩
  | cons x _ ih =>
    intro ks h
    cases h with
    | cons r t =>
      obtain ⟨l, q, t'⟩ := ih t
      exact ⟨_ :: l, q.cons _, .cons r t'⟩
  | swap x y l =>
    intro ks h
    cases h with
    | cons r t =>
      cases t with
      | cons r' t => exact ⟨_, .swap _ _ _, .cons r' (.cons r t)⟩
  | trans _ _ ih1 ih2 =>
    intro ks h
    obtain ⟨l, q, t⟩ := ih1 h
    obtain ⟨l', q', t'⟩ := ih2 t
    exact ⟨l', q.trans q', t'⟩
theorem ents_snoc {k : Ky} {e : Ent} (r : knd.is k e.2 = true) : ∀ {ks : List Ky} {es : List Ent}, EntsAre knd ks es → EntsAre knd (ks ++ [k]) (es ++ [e])
  | [], _, .nil => .cons r .nil
  | _ :: _, _, .cons q t => .cons q (ents_snoc r t)
theorem ents_has {k : Ky} : ∀ {ks : List Ky} {es : List Ent}, EntsAre knd ks es → (k ∈ ks ↔ ∃ e ∈ es, knd.is k e.2 = true)
  | [], _, .nil => by simp
  | a :: ks, _, .cons (b := e) q t => by
    have ih := ents_has (k := k) t
    rw [List.mem_cons, ih]
    constructor
    · rintro (rfl | ⟨f, hf, z⟩)
      · exact ⟨e, List.mem_cons_self, q⟩
      · exact ⟨f, List.mem_cons_of_mem _ hf, z⟩
    · rintro ⟨f, hf, z⟩
      rcases List.mem_cons.mp hf with rfl | hf
      · exact .inl (knd.inj _ _ _ z q)
      · exact .inr ⟨f, hf, z⟩
theorem ents_len : ∀ {ks : List Ky} {es : List Ent}, EntsAre knd ks es → ks.length = es.length
  | [], _, .nil => rfl
  | _ :: _, _, .cons _ t => by simp [ents_len t]
/-- the set at a, its keys; the table in order -/
def SetG (knd : KeyKind P w Ky) (h : Heap) (a : Addr) (ks : List Ky) : Prop :=
  ∃ (o : Obj) (es : Array Ent) (ep : Nat) (t : SetTable) (l : List Ky), h.get? a = some o ∧ o.ExactSet ∧ o.data = .set es ep t ∧ ElemsOf knd es.toList ∧ EntsAre knd l es.toList ∧ l.Perm ks ∧ ks.Nodup ∧
    es.size < scanBound ∧ t.fits es.size = true ∧ Ris t.place.toList ∧ (w.params.followText "set-order" = true ∨ t.led = true)
variable {A : Around} {E : Value → Shared → Prop} {s : Shared} {a : Addr} {ks : List Ky} {k : Ky} {x : Value}
/-- k is put in -/
def addK (ks : List Ky) (k : Ky) : List Ky := if k ∈ ks then ks else ks ++ [k]
theorem setG_store {g : Bool → Sem Unit} (hg : ∀ (b : Bool) (z : Shared) (Z : Unit → Shared → Prop), Z () z → wpAny (model P w) A (g b) Z E z) {o : Obj} {es e1 : Array Ent} {ep : Nat} {t t1 : SetTable}
    (ho : s.heap.get? a = some o) (hx : o.ExactSet) (hd : o.data = .set es ep t) {l : List Ky} (el : ElemsOf knd e1.toList) (ea : EntsAre knd l e1.toList) (pl : l.Perm ks) (nd : ks.Nodup) (sb : e1.size < scanBound) (ft : t1.fits e1.size = true) (ri : Ris t1.place.toList)
    (ld : w.params.followText "set-order" = true ∨ t1.led = true) {dm : Bool} {Q : Option Bool → Shared → Prop} (hQ : ∀ h', Heap.SameBut a s.heap h' → SetG knd h' a ks → Q (some true) { s with heap := h' }) :
    wpAny (model P w) A (do
      storeSet a e1 t1
      if (!dm && t1.tooFull) = true then do
        g (relayAll t1 e1 (SetTable.grown e1.size)).2.2
        storeSet a (relayAll t1 e1 (SetTable.grown e1.size)).1 (relayAll t1 e1 (SetTable.grown e1.size)).2.1
        pure (some true)
      else pure (some true)) Q E s := by
  refine wpAny_bind (wpAny_storeSet_of ho hd ?_ (fits_of_scanBound sb))
  have o1 := store_at (es' := e1) (t' := t1) ho hd
  have s1 := Heap.SameBut.update s.heap a (Obj.putSet e1 t1)
  split
  · have p2 := relayAll_perm t1 e1 (SetTable.grown e1.size)
    have f2 := relayAll_fits t1 e1 (SetTable.grown e1.size)
    have r2 := relayAll_ris t1 e1 (SetTable.grown e1.size)
    have d2 := relayAll_led t1 e1 (SetTable.grown e1.size)
    generalize relayAll t1 e1 (SetTable.grown e1.size) = T at p2 f2 r2 d2 ⊢
    obtain ⟨e2, t2, gv⟩ := T
    dsimp only at p2 f2 r2 d2 ⊢
    have z2 : e2.size = e1.size := by simpa using p2.length_eq
    refine wpAny_bind (hg _ _ _ (wpAny_bind (wpAny_storeSet_of o1 rfl ?_ (fits_of_scanBound (by rw [z2]; exact sb)))))
    have o2 := store_at (es' := e2) (t' := t2) o1 rfl
    obtain ⟨l2, q2, ea2⟩ := ents_perm p2.symm ea
    exact wpAny_pure (hQ _ (s1.trans (Heap.SameBut.update _ a _)) ⟨_, e2, _, t2, l2, o2, hx, rfl, el.perm p2, ea2, q2.symm.trans pl, nd, by rw [z2]; exact sb, f2, r2, ld.imp id fun z => by rw [d2]; exact z⟩)
  · exact wpAny_pure (hQ _ s1 ⟨_, e1, _, t1, l, o1, hx, rfl, el, ea, pl, nd, sb, ft, ri, ld⟩)
theorem setG_add {Q : Bool → Shared → Prop} (hk : knd.is k x = true) (sc : x.scannable = true) (R : SetG knd s.heap a ks) (room : ks.length + 1 < scanBound) (hQ : ∀ h' b, Heap.SameBut a s.heap h' → SetG knd h' a (addK ks k) → Q b { s with heap := h' }) :
    wpAny (model P w) A (setAddHashed a x (knd.hash k)) Q E s := by
  obtain ⟨o, es, ep, t, l, ho, hx, hd, el, ea, pl, nd, sb, ft, ri, ld⟩ := R
  have le : es.size = ks.length := by rw [← pl.length_eq, ents_len ea, Array.length_toList]
  unfold setAddHashed setAddHashedIn
  refine wpAny_holding (wpAny_bind (wpAny_setState_of ho hd ft ?_))
  dsimp only
  rw [byScan_of sc sb el]
  simp only [↓reduceIte]
  unfold setAddByScan
  refine wpAny_bind (wpAny_bind (wpAny_rule (wpAny_bind (wpAny_setScan_of hk ho hd ft el ?_))))
  cases q : List.findIdx? (fun e => knd.is k e.2) es.toList with
  | some j =>
    dsimp only
    obtain ⟨hj, pj, _⟩ := List.findIdx?_eq_some_iff_getElem.mp q
    have km : k ∈ ks := pl.mem_iff.mp ((ents_has ea).mpr ⟨es.toList[j], List.getElem_mem hj, pj⟩)
    have e1 : addK ks k = ks := if_pos km
    refine wpAny_pure (wpAny_pure (hQ s.heap _ (Heap.SameBut.refl a s.heap) ?_))
    rw [e1]
    exact ⟨o, es, ep, t, l, ho, hx, hd, el, ea, pl, nd, sb, ft, ri, ld⟩
  | none =>
    dsimp only
    have kn : k ∉ ks := fun z => by
      obtain ⟨e, he, ke⟩ := (ents_has ea).mp (pl.mem_iff.mpr z)
      have := List.findIdx?_eq_none_iff.mp q e he
      rw [ke] at this
      cases this
    have e1 : addK ks k = ks ++ [k] := if_neg kn
    have gw : ∀ (b : Bool) {z : Shared} {Z : Unit → Shared → Prop}, Z () z → wpAny (model P w) A (match b with | true => rule "set.scan.the-table-gave-way" | false => pure ()) Z E z := fun b z Z h => by
      cases b
      · exact wpAny_pure h
      · exact wpAny_rule h
    have p1 := layNew_perm t es (knd.hash k) x
    have f1 := layNew_fits t es (knd.hash k) x
    have r1 := layNew_ris t es (knd.hash k) x ri
    have d1 := layNew_led t es (knd.hash k) x
    generalize layNew t es (knd.hash k) x = T at p1 f1 r1 d1 ⊢
    obtain ⟨n1, t1, dm, gv⟩ := T
    dsimp only at p1 f1 r1 d1 ⊢
    rw [Array.toList_push] at p1
    obtain ⟨l1, q1, ea1⟩ := ents_perm p1.symm (ents_snoc (e := (knd.hash k, x)) hk ea)
    have el1 : ElemsOf knd n1.toList := (el.push hk sc).perm p1
    have pl1 : l1.Perm (ks ++ [k]) := q1.symm.trans (pl.append_right [k])
    have nd1 : (ks ++ [k]).Nodup := by
      rw [List.nodup_append]
      exact ⟨nd, by simp, fun u hu v hv => by rw [List.mem_singleton.mp hv]; exact fun z => kn (z ▸ hu)⟩
    have sz1 : n1.size = ks.length + 1 := by
      have := p1.length_eq
      rw [List.length_append, List.length_singleton, Array.length_toList, Array.length_toList, le] at this
      exact this
    have sb1 : n1.size < scanBound := by rw [sz1]; exact room
    have ld1 : w.params.followText "set-order" = true ∨ t1.led = true := ld.imp id fun z => by rw [d1]; exact z
    have fin : ∀ h', Heap.SameBut a s.heap h' → SetG knd h' a (ks ++ [k]) → Q true { s with heap := h' } := fun h' z r => hQ h' true z (by rw [e1]; exact r)
    refine wpAny_bind (gw _ ?_)
    split
    · refine wpAny_bind ?_
      rw [hashByValue_scannable 8 sc]
      refine wpAny_pure (setG_store (fun b z Z h => gw b h) ho hx hd el1 ea1 pl1 nd1 sb1 ?_ ?_ ?_ fun h' z r => wpAny_pure (fin h' z r))
      · split
        · exact f1
        · exact SetTable.fits_plain_off f1
      · split <;> exact r1
      · split <;> exact ld1
    · refine wpAny_bind (wpAny_pure ?_)
      simp only [↓reduceIte]
      exact setG_store (fun b z Z h => gw b h) ho hx hd el1 ea1 pl1 nd1 sb1 f1 r1 ld1 fun h' z r => wpAny_pure (fin h' z r)
theorem paired_at {α β : Type} {F : α → β → Prop} : ∀ {l : List α} {m : List β} {i : Nat} {y : β}, Paired F l m → m[i]? = some y → ∃ x, l[i]? = some x ∧ F x y
  | _, _, _, _, .nil, h => by simp at h
  | _, _, 0, _, .cons r _, h => by simp at h; subst h; exact ⟨_, rfl, r⟩
  | _, _, i + 1, _, .cons _ t, h => by
    obtain ⟨x, e, r⟩ := paired_at t (by simpa using h)
    exact ⟨x, by simpa using e, r⟩
/-! ### set(list) -/
abbrev newO (w : World) : Obj := { cls := .type "set", dict := none, data := .set #[] 0 (.fresh 0 0 (!w.params.followText "set-order")) }
theorem SetG.at {h h' : Heap} (R : SetG knd h a ks) (g : ∀ o, h.get? a = some o → h'.get? a = some o) : SetG knd h' a ks := by
  obtain ⟨o, es, ep, t, l, ho, r⟩ := R
  exact ⟨o, es, ep, t, l, g o ho, r⟩
theorem setG_fresh {h : Heap} (ho : h.get? a = some (newO w)) : SetG knd h a [] := by
  refine ⟨_, #[], 0, _, [], ho, ⟨rfl, rfl, rfl⟩, rfl, fun e he => by simp at he, .nil, .refl _, .nil, by decide, by rfl, List.Pairwise.nil, ?_⟩
  show _ ∨ (!w.params.followText "set-order") = true
  cases w.params.followText "set-order"
  · exact .inr rfl
  · exact .inl rfl
def putAll (ks : List Ky) : List Ky := ks.foldl addK []
theorem addK_len (l : List Ky) (k : Ky) : (addK l k).length ≤ l.length + 1 := by
  unfold addK
  split
  · omega
  · simp
theorem foldK_len : ∀ (ks l : List Ky), (ks.foldl addK l).length ≤ l.length + ks.length
  | [], _ => Nat.le_refl _
  | k :: ks, l => by
    have a := foldK_len ks (addK l k)
    have b := addK_len l k
    rw [List.foldl_cons, List.length_cons]
    omega
theorem setG_loop {I : Addr} {fp wr : List Addr} {G : Array GenState → Array GenState → Prop} {n : Nat} {Pv : Nat → Value → Prop} {St : Nat → Shared → Prop} {R : Result → Shared → Prop} (W : WalksS P w A.in1 I fp wr G n Pv St) (S : Addr) (nf : S ∉ fp)
    (ks : List Ky) (hn : ks.length = n) (hb : ks.length + 1 < scanBound) (hv : ∀ i v, Pv i v → ∃ k, ks[i]? = some k ∧ knd.is k v = true ∧ v.scannable = true) :
    ∀ (m i : Nat) (s : Shared), n - i = m → i ≤ n → St i s → SetG knd s.heap S (putAll (ks.take i)) → (∀ s', Moved (S :: wr) G s s' → SetG knd s'.heap S (putAll ks) → R (.ok (.ret .none)) s') →
      codeAny (model P w) A (.builtin "set.update.loop" ⟨[.ref S, .ref I], []⟩) R s := by
  have nw : S ∉ wr := fun z => nf (W.sub _ z)
  have sub : ∀ b, b ∈ wr → b ∈ S :: wr := fun b z => .tail _ z
  intro m
  induction m with
  | zero =>
    intro i s e hi st hS hR
    obtain rfl : i = n := by omega
    refine codeAny_builtin F.entry_set_update_loop ?_
    rw [Around.under_plainId F.plain_set_update_loop _]
    show wpAny _ A.in1 (pyNext (.ref I) >>= _) _ _ s
    refine wpAny_bind (W.done s _ _ st fun s' mv => ?_)
    rw [List.take_of_length_le (by omega)] at hS
    exact wpAny_pure (hR s' (mv.mono sub) (hS.at fun o z => mv.heap S o nw z))
  | succ m ih =>
    intro i s e hi st hS hR
    have lt : i < n := by omega
    refine codeAny_builtin F.entry_set_update_loop ?_
    rw [Around.under_plainId F.plain_set_update_loop _]
    show wpAny _ A.in1 (pyNext (.ref I) >>= _) _ _ s
    refine wpAny_bind (W.item i s _ _ lt st fun v s' pv st' mv => ?_)
    obtain ⟨k, hk, kv, sc⟩ := hv i v pv
    have S1 := hS.at (h' := s'.heap) fun o z => mv.heap S o nw z
    show wpAny _ A.in1 (holding [v] (setAdd S v) >>= _) _ _ s'
    unfold setAdd
    refine wpAny_bind (wpAny_holding (wpAny_holding (wpAny_bind (knd.pyHash kv ?_))))
    have room : (putAll (ks.take i)).length + 1 < scanBound := by
      have z := foldK_len (ks.take i) []
      rw [List.length_take, List.length_nil] at z
      show (List.foldl addK [] (ks.take i)).length + 1 < scanBound
      omega
    refine setG_add (s := { s' with toks := s'.toks + 1 }) kv sc S1 room fun h' b sb S2 => ?_
    have S3 : SetG knd h' S (putAll (ks.take (i + 1))) := by
      have z : putAll (ks.take (i + 1)) = addK (putAll (ks.take i)) k := by
        unfold putAll
        rw [List.take_add_one, hk, Option.toList_some, List.foldl_append]
        rfl
      rw [z]
      exact S2
    have old : ∀ c o, c ≠ S → s'.heap.get? c = some o → h'.get? c = some o := fun c o hc z => (sb.2 c hc).trans z
    refine wpAny_pure ⟨plainId_quiet F.plain_set_update_loop _, ih (i + 1) _ (by omega) lt (W.frame _ s' _ _ st' (Nat.le_succ _) fun c hc o z => old c o (fun q => nf (q ▸ hc)) z) S3 fun s2 mv2 S4 => ?_⟩
    exact hR s2 (Moved.trans W.gtrans ((mv.mono sub).then_heap (Nat.le_succ _) fun c o hc z => old c o (fun q => hc (q ▸ .head _)) z) mv2) S4
set_option maxHeartbeats 3200000 in
theorem call_setG {l : Addr} {items : Array Value} (ks : List Ky) {Q : Value → Shared → Prop} (hh : A.handled = none) (hl : s.heap.IsList l items) (hi : Paired (fun k v => knd.is k v = true ∧ v.scannable = true) ks items.toList) (hb : ks.length + 1 < scanBound)
    (h : ∀ (h' : Heap) (tk : Nat), SetG knd h' s.heap.objs.size (putAll ks) → (∀ b o, s.heap.get? b = some o → h'.get? b = some o) → Q (.ref s.heap.objs.size) { s with heap := h', toks := tk }) :
    wpAny (model P w) A (call (.type "set") [.ref l]) Q E s := by
  have hz : ks.length = items.size := by rw [hi.length, Array.length_toList]
  obtain ⟨c, tl, hmro⟩ := F.called_set.mro
  have hmade := F.called_set.made
  have hsub := F.called_set.sub
  refine wpAny_call (codeAny_of_tree ?_)
  show wpAny _ _ (callAny (.type "set") _) _ _ _
  refine wpAny_pure ⟨Code.quiet_builtin _ (by decide +kernel), codeAny_builtin F.entry_type_call ?_⟩
  rw [Around.under_plain (weight_type_call_type "set" [.ref l] []) rfl]
  have h1 := F.called_set.notType
  have h2 := F.called_set.canCreate
  have hct := F.typeCall_set_1 (.ref l)
  repeat (any_goals (first | assumption | wp_step))
  refine codeAny_mono (code_set_led1 (.ref l) (E := E) (Q₁ := fun ob z => ob = .ref s.heap.objs.size ∧ z = { s with heap := s.heap.push (newO w) }) ⟨rfl, rfl⟩) fun r z hr => ?_
  match r, hr with
  | .error e, hr => exact hr
  | .ok .next, hr => exact hr.elim
  | .ok .brk, hr => exact hr.elim
  | .ok .cont, hr => exact hr.elim
  | .ok (.ret ob), hr =>
    obtain ⟨rfl, rfl⟩ := hr
    have hS : (s.heap.push (newO w)).get? s.heap.objs.size = some (newO w) := Heap.get?_push_size _ rfl
    have hT : Shared.TypeIs { s with heap := s.heap.push (newO w) } (.ref s.heap.objs.size) "set" := ⟨_, hS, rfl⟩
    have hli := F.called_set.init.lookup
    have hbi := F.called_set.init.bind (.ref s.heap.objs.size)
    repeat (any_goals (first | assumption | wp_step))
    refine codeAny_mono (codeAny_call_builtin (R := wants (fun r y => r = .none ∧ ∃ h' tk, y = { s with heap := h', toks := tk } ∧ SetG knd h' s.heap.objs.size (putAll ks) ∧ (∀ b o, s.heap.get? b = some o → h'.get? b = some o)) E) F.called_set.init.plain F.entry_set_init (check_set_init_1 hT ?_)) fun r y hy => ?_
    · obtain ⟨⟨oc, od, odt, osl⟩, hol, hcl, nl, hdl⟩ := hl
      simp only at hcl hdl
      subst hcl; subst hdl
      have hol' : (s.heap.push (newO w)).get? l = some { cls := .type "list", dict := od, data := .seq items nl, slots := osl } := Heap.get?_push_of_some _ hol
      have hsls := F.sub_list_set
      have hslf := F.sub_list_frozenset
      have hne : (Value.type "list" == Value.type "dict") = false := by decide
      have hl1 : (s.heap.push (newO w)).IsList l items := ⟨_, hol', rfl, nl, rfl⟩
      unfold Builtin.«set.__init__» noKeywords Builtin.Frozenset.updateFrom
      generalize hPI : pyIter = PI
      wp_walk
      subst hPI
      refine wpAny_pyIter_list hl1 (wpAny_bind (wpAny_runValue ?_))
      have hlS : l < s.heap.objs.size := Heap.lt_size hol
      have hh3 : A.in1.in1.in1.handled = none := by simp [hh]
      have hz1 : (s.heap.push (newO w)).objs.size = s.heap.objs.size + 1 := Heap.size_push ..
      have hneI : l ≠ (s.heap.push (newO w)).objs.size := by rw [hz1]; exact Nat.ne_of_lt (Nat.lt_succ_of_lt hlS)
      have hSf : s.heap.objs.size ∉ [(s.heap.push (newO w)).objs.size, l] := by
        rw [hz1]
        simp only [List.mem_cons, List.not_mem_nil, or_false, not_or]
        exact ⟨Nat.ne_of_lt (Nat.lt_succ_self _), Nat.ne_of_gt hlS⟩
      have hval : ∀ (i : Nat) (v : Value), items[i]? = some v → ∃ k, ks[i]? = some k ∧ knd.is k v = true ∧ v.scannable = true := fun i v hv => by
        have q : items.toList[i]? = some v := by rw [Array.getElem?_toList]; exact hv
        exact paired_at (F := fun k v => knd.is k v = true ∧ v.scannable = true) hi q
      refine setG_loop ((Walks.list hh3 _ l hneI items).toS) s.heap.objs.size hSf ks hz hb hval (items.size - 0) 0 _ (by omega) (Nat.zero_le _) ⟨⟨_, Heap.get?_push_size _ rfl, rfl, rfl⟩, (hl1.push _)⟩ ?hS0 ?hR
      case hS0 => exact setG_fresh (Heap.get?_push_of_some _ hS)
      case hR =>
        intro s' hm hS'
        obtain ⟨h', g2, d', tk', os'⟩ := s'
        have eg : g2 = s.gens := hm.gens
        have ed : d' = s.drawn := hm.drawn
        have eo : os' = s.os := hm.os
        subst eg; subst ed; subst eo
        show wpAny _ _ _ _ _ _
        refine wpAny_pure ?_
        show wpAny _ _ (ret Value.none) _ _ _
        refine wpAny_pure ⟨rfl, h', tk', rfl, hS', fun b o e => ?_⟩
        have hb0 : b < s.heap.objs.size := Heap.lt_size e
        refine hm.heap b o (fun z => ?_) (Heap.get?_push_of_some _ (Heap.get?_push_of_some _ e))
        rcases List.mem_cons.mp z with z | z
        · exact Nat.ne_of_lt hb0 z
        · have z := List.mem_singleton.mp z
          rw [hz1] at z
          exact Nat.ne_of_lt (Nat.lt_succ_of_lt hb0) z
    · match r, hy with
      | .error e, hy => exact hy
      | .ok .next, hy => exact hy.elim
      | .ok .brk, hy => exact hy.elim
      | .ok .cont, hy => exact hy.elim
      | .ok (.ret r), hy =>
        obtain ⟨rfl, h', tk, rfl, hS', hk'⟩ := hy
        repeat (any_goals (first | assumption | wp_step))
        exact h _ _ hS' hk'
/-! ### sorted of a set, its len -/
theorem sorted_uniq {α : Type} {r : α → α → Prop} (anti : ∀ a b, r a b → r b a → a = b) : ∀ {l m : List α}, l.Perm m → l.Pairwise r → m.Pairwise r → l = m
  | [], m, p, _, _ => (List.perm_nil.mp p.symm).symm
  | a :: l, [], p, _, _ => nomatch List.perm_nil.mp p
  | a :: l, b :: m, p, h, k => by
    obtain ⟨h1, h2⟩ := List.pairwise_cons.mp h
    obtain ⟨k1, k2⟩ := List.pairwise_cons.mp k
    have e : a = b := by
      have ha : a ∈ b :: m := p.mem_iff.mp List.mem_cons_self
      have hb : b ∈ a :: l := p.mem_iff.mpr List.mem_cons_self
      rcases List.mem_cons.mp ha with z | z
      · exact z
      · rcases List.mem_cons.mp hb with y | y
        · exact y.symm
        · exact anti _ _ (h1 _ y) (k1 _ z)
    subst e
    rw [sorted_uniq anti ((List.perm_cons a).mp p) h2 k2]
theorem mergeSort_of_perm {α : Type} {le : α → α → Bool} (tr : ∀ a b c, le a b = true → le b c = true → le a c = true) (tot : ∀ a b, (le a b || le b a) = true) (anti : ∀ a b, le a b = true → le b a = true → a = b) {l m : List α} (p : l.Perm m) :
    l.mergeSort le = m.mergeSort le :=
  sorted_uniq (r := fun a b => le a b = true) anti ((List.mergeSort_perm l le).trans (p.trans (List.mergeSort_perm m le).symm)) (List.pairwise_mergeSort tr tot l) (List.pairwise_mergeSort tr tot m)
/-- keys that are data: what they are as values of trees, and their order -/
structure KEnc (knd : KeyKind P w Ky) where
  v : Ky → V
  d : Ky → PyData
  le : Ky → Ky → Bool
  ofV : ∀ k u, RelV (v k) u → knd.is k u = true ∧ u.scannable = true
  toV : ∀ k u, knd.is k u = true → RelV (v k) u
  reads : ∀ h k u, knd.is k u = true → ∃ as, Reads h u (d k) as ∧ ∀ a, a ∉ as
  alike : ∀ k k', PySem.W.alike (d k) (d k') = true
  plain : ∀ k, d k ≠ .none ∧ ∀ xs, d k ≠ .tuple xs
  depth : ∀ k, (d k).depth = 0
  leq : PySem.W.dataLe false d = le
  tr : ∀ a b c, le a b = true → le b c = true → le a c = true
  tot : ∀ a b, (le a b || le b a) = true
  anti : ∀ a b, le a b = true → le b a = true → a = b
theorem paired_each {α : Type} {F : α → Value → Prop} : ∀ {ks : List α} {vs : List Value}, Paired F ks vs → PySem.W.EachIs (fun v k => F k v) vs ks
  | _, _, .nil => .nil
  | _, _, .cons r t => .cons r (paired_each t)
theorem each_paired {α : Type} {F : α → Value → Prop} : ∀ {ks : List α} {vs : List Value}, PySem.W.EachIs (fun v k => F k v) vs ks → Paired F ks vs
  | _, _, .nil => .nil
  | _, _, .cons r t => .cons r (each_paired t)
theorem ents_vals : ∀ {ks : List Ky} {es : List Ent}, EntsAre knd ks es → Paired (fun k v => knd.is k v = true) ks (es.map (·.2))
  | _, _, .nil => .nil
  | _, _, .cons r t => .cons r (ents_vals t)
theorem paired_permR {α : Type} {F : α → Value → Prop} {vs us : List Value} (p : vs.Perm us) : ∀ {ks : List α}, Paired F ks vs → ∃ ks', ks.Perm ks' ∧ Paired F ks' us := by
  induction p with
  | nil => intro ks h; cases h; exact ⟨[], .refl _, .nil⟩
  | cons x _ ih =>
    intro ks h
    cases h with
    | cons r t =>
      obtain ⟨l, q, t'⟩ := ih t
      exact ⟨_ :: l, q.cons _, .cons r t'⟩
  | swap x y l =>
    intro ks h
    cases h with
    | cons r t =>
      cases t with
      | cons r' t => exact ⟨_, .swap _ _ _, .cons r' (.cons r t)⟩
  | trans _ _ ih1 ih2 =>
    intro ks h
    obtain ⟨l, q, t⟩ := ih1 h
    obtain ⟨l', q', t'⟩ := ih2 t
    exact ⟨l', q.trans q', t'⟩
theorem sorted_setG (en : KEnc knd) (R : SetG knd s.heap a ks) (hh : A.handled = none) (hu : A.units + 2 < cLine) {Q : Value → Shared → Prop}
    (hQ : ∀ s' p (out : Array Value) (c : Nat), (∀ b o, s.heap.get? b = some o → s'.heap.get? b = some o) → s'.gens = s.gens → s'.os = s.os → s.heap.objs.size ≤ p →
      s'.heap.get? p = some (seqObj "list" out c) → Paired (fun k v => knd.is k v = true) (ks.mergeSort en.le) out.toList → Q (.ref p) s') :
    wpAny (model P w) A (call (.builtin "sorted") [.ref a]) Q E s := by
  obtain ⟨o, es, ep, t, l, ho, hex, hd, el, ea, pl, nd, sb, hf, hr, hl⟩ := R
  refine Calls.call_function_entry kind_sorted plain_sorted entry_sorted (args_sorted1 _) ?_
  unfold Builtin.«sorted»
  refine wpAny_bind (m := checkCount "sorted" 1 1 _) (wpAny_pure ?_)
  refine wpAny_bind (collect_set (A := A.in1) hh ⟨o, ho, hex.1, hd⟩ hf sb hr hl fun s1 vs k1 hz g1 o1 pm => ?_)
  obtain ⟨ns, q, pv⟩ := paired_permR pm.symm (ents_vals ea)
  have hvl : vs.length < scanBound := by rw [pm.length_eq, List.length_map, Array.length_toList]; exact sb
  have hsl : vs.length ≤ sizeLine := by
    have : vs.length < 4096 := hvl
    rw [sizeLine_eq]; omega
  refine wpAny_bind (wpAny_newList ?_ hsl)
  have hoL : (s1.heap.push (seqObj "list" vs.toArray 0)).get? s1.heap.objs.size = some (seqObj "list" vs.toArray 0) := Heap.get?_push_size _ rfl
  have ei := paired_each pv
  have hal : PySem.W.AllAlike (ns.map en.d) := PySem.W.AllAlike.of en.alike
  have hso : PySem.W.Sortable (ns.map en.d) := PySem.W.Sortable.others en.plain
  have hu' : ∀ b, b ∈ ns → A.in1.units + 1 + (en.d b).depth < cLine := fun b _ => by
    rw [en.depth]
    show A.units + 1 + 1 + 0 < cLine
    omega
  refine wpAny_bind (wpAny_holding (PySem.W.list_sort_data (s := { s1 with heap := s1.heap.push (seqObj "list" vs.toArray 0) }) hoL ei (ei.mono fun v k h => by
    obtain ⟨as, r, h⟩ := en.reads (s1.heap.push (seqObj "list" vs.toArray 0)) k v h
    exact ⟨as, r, h _⟩) hal hso (by rw [← pv.length] at hsl; exact hsl) hu' fun out lo eo => ?_))
  obtain ⟨c, hc⟩ := sortedHeap_at (vs := vs) (out := List.toArray out) hoL
  rw [en.leq, mergeSort_of_perm en.tr en.tot en.anti (q.symm.trans pl)] at eo
  refine wpAny_pure ⟨_, rfl, hQ _ s1.heap.objs.size out.toArray c (fun b u e => ?_) g1 o1 hz hc (each_paired eo)⟩
  have q := k1 b u e
  have hlt := Heap.lt_size q
  show (sortedHeap (s1.heap.push (seqObj "list" vs.toArray 0)) s1.heap.objs.size vs (List.toArray out)).get? b = some u
  rw [sortedHeap_old (Nat.ne_of_lt hlt) (by rw [size_push']; exact Nat.lt_succ_of_lt hlt)]
  exact Heap.get?_push_of_some _ q
theorem len_setG (R : SetG knd s.heap a ks) {Q : Value → Shared → Prop} (h : Q (.int ks.length (s.toks + 1)) { s with toks := s.toks + 1 + 1 }) : wpAny (model P w) A (call (.builtin "len") [.ref a]) Q E s := by
  obtain ⟨o, es, ep, t, l, ho, hex, hd, el, ea, pl, nd, sb, hf, hr, hl⟩ := R
  have le : es.size = ks.length := by rw [← pl.length_eq, ents_len ea, Array.length_toList]
  have sb' : es.size < 4096 := sb
  exact call_len_set ho hex hd hf (by omega) (by rw [le]; exact h)
end
end Tv
/-! Tv19: sorted(set(..)), len(set(..)) of lists and tuples of texts, of whole numbers. -/
namespace Tv
open PySem PySem.Spec PyProof.Rows L2

section
variable {P : Program} {w : World} {Ky : Type} [DecidableEq Ky] {knd : KeyKind P w Ky}
variable {A : Around} {E : Value → Shared → Prop} {s : Shared} {a : Addr} {ks : List Ky} {k : Ky} {x : Value}
set_option maxHeartbeats 3200000 in
theorem call_setT {l : Addr} {items : Array Value} (ks : List Ky) {Q : Value → Shared → Prop} (hh : A.handled = none) (hl : s.heap.IsTuple l items) (hi : Paired (fun k v => knd.is k v = true ∧ v.scannable = true) ks items.toList) (hb : ks.length + 1 < scanBound)
    (h : ∀ (h' : Heap) (tk : Nat), SetG knd h' s.heap.objs.size (putAll ks) → (∀ b o, s.heap.get? b = some o → h'.get? b = some o) → Q (.ref s.heap.objs.size) { s with heap := h', toks := tk }) :
    wpAny (model P w) A (call (.type "set") [.ref l]) Q E s := by
  have hz : ks.length = items.size := by rw [hi.length, Array.length_toList]
  obtain ⟨c, tl, hmro⟩ := F.called_set.mro
  have hmade := F.called_set.made
  have hsub := F.called_set.sub
  refine wpAny_call (codeAny_of_tree ?_)
  show wpAny _ _ (callAny (.type "set") _) _ _ _
  refine wpAny_pure ⟨Code.quiet_builtin _ (by decide +kernel), codeAny_builtin F.entry_type_call ?_⟩
  rw [Around.under_plain (weight_type_call_type "set" [.ref l] []) rfl]
  have h1 := F.called_set.notType
  have h2 := F.called_set.canCreate
  have hct := F.typeCall_set_1 (.ref l)
  repeat (any_goals (first | assumption | wp_step))
  refine codeAny_mono (code_set_led1 (.ref l) (E := E) (Q₁ := fun ob z => ob = .ref s.heap.objs.size ∧ z = { s with heap := s.heap.push (newO w) }) ⟨rfl, rfl⟩) fun r z hr => ?_
  match r, hr with
  | .error e, hr => exact hr
  | .ok .next, hr => exact hr.elim
  | .ok .brk, hr => exact hr.elim
  | .ok .cont, hr => exact hr.elim
  | .ok (.ret ob), hr =>
    obtain ⟨rfl, rfl⟩ := hr
    have hS : (s.heap.push (newO w)).get? s.heap.objs.size = some (newO w) := Heap.get?_push_size _ rfl
    have hT : Shared.TypeIs { s with heap := s.heap.push (newO w) } (.ref s.heap.objs.size) "set" := ⟨_, hS, rfl⟩
    have hli := F.called_set.init.lookup
    have hbi := F.called_set.init.bind (.ref s.heap.objs.size)
    repeat (any_goals (first | assumption | wp_step))
    refine codeAny_mono (codeAny_call_builtin (R := wants (fun r y => r = .none ∧ ∃ h' tk, y = { s with heap := h', toks := tk } ∧ SetG knd h' s.heap.objs.size (putAll ks) ∧ (∀ b o, s.heap.get? b = some o → h'.get? b = some o)) E) F.called_set.init.plain F.entry_set_init (check_set_init_1 hT ?_)) fun r y hy => ?_
    · obtain ⟨⟨oc, od, odt, osl⟩, hol, hcl, nl, hdl⟩ := hl
      simp only at hcl hdl
      subst hcl; subst hdl
      have hol' : (s.heap.push (newO w)).get? l = some { cls := .type "tuple", dict := od, data := .seq items nl, slots := osl } := Heap.get?_push_of_some _ hol
      have hsls := F.sub_tuple_set
      have hslf := F.sub_tuple_frozenset
      have hne : (Value.type "tuple" == Value.type "dict") = false := by decide
      have hl1 : (s.heap.push (newO w)).IsTuple l items := ⟨_, hol', rfl, nl, rfl⟩
      unfold Builtin.«set.__init__» noKeywords Builtin.Frozenset.updateFrom
      generalize hPI : pyIter = PI
      wp_walk
      subst hPI
      refine wpAny_pyIter_tuple hl1 (wpAny_bind (wpAny_runValue ?_))
      have hlS : l < s.heap.objs.size := Heap.lt_size hol
      have hh3 : A.in1.in1.in1.handled = none := by simp [hh]
      have hz1 : (s.heap.push (newO w)).objs.size = s.heap.objs.size + 1 := Heap.size_push ..
      have hneI : l ≠ (s.heap.push (newO w)).objs.size := by rw [hz1]; exact Nat.ne_of_lt (Nat.lt_succ_of_lt hlS)
      have hSf : s.heap.objs.size ∉ [(s.heap.push (newO w)).objs.size, l] := by
        rw [hz1]
        simp only [List.mem_cons, List.not_mem_nil, or_false, not_or]
        exact ⟨Nat.ne_of_lt (Nat.lt_succ_self _), Nat.ne_of_gt hlS⟩
      have hval : ∀ (i : Nat) (v : Value), items[i]? = some v → ∃ k, ks[i]? = some k ∧ knd.is k v = true ∧ v.scannable = true := fun i v hv => by
        have q : items.toList[i]? = some v := by rw [Array.getElem?_toList]; exact hv
        exact paired_at (F := fun k v => knd.is k v = true ∧ v.scannable = true) hi q
      refine setG_loop ((Walks.tuple hh3 _ l hneI items).toS) s.heap.objs.size hSf ks hz hb hval (items.size - 0) 0 _ (by omega) (Nat.zero_le _) ⟨⟨_, Heap.get?_push_size _ rfl, rfl, rfl⟩, (hl1.push _)⟩ ?hS0 ?hR
      case hS0 => exact setG_fresh (Heap.get?_push_of_some _ hS)
      case hR =>
        intro s' hm hS'
        obtain ⟨h', g2, d', tk', os'⟩ := s'
        have eg : g2 = s.gens := hm.gens
        have ed : d' = s.drawn := hm.drawn
        have eo : os' = s.os := hm.os
        subst eg; subst ed; subst eo
        show wpAny _ _ _ _ _ _
        refine wpAny_pure ?_
        show wpAny _ _ (ret Value.none) _ _ _
        refine wpAny_pure ⟨rfl, h', tk', rfl, hS', fun b o e => ?_⟩
        have hb0 : b < s.heap.objs.size := Heap.lt_size e
        refine hm.heap b o (fun z => ?_) (Heap.get?_push_of_some _ (Heap.get?_push_of_some _ e))
        rcases List.mem_cons.mp z with z | z
        · exact Nat.ne_of_lt hb0 z
        · have z := List.mem_singleton.mp z
          rw [hz1] at z
          exact Nat.ne_of_lt (Nat.lt_succ_of_lt hb0) z
    · match r, hy with
      | .error e, hy => exact hy
      | .ok .next, hy => exact hy.elim
      | .ok .brk, hy => exact hy.elim
      | .ok .cont, hy => exact hy.elim
      | .ok (.ret r), hy =>
        obtain ⟨rfl, h', tk, rfl, hS', hk'⟩ := hy
        repeat (any_goals (first | assumption | wp_step))
        exact h _ _ hS' hk'
/-! the two kinds -/
theorem lexLe_tot (a b : List Nat) : (decide (a ≤ b) || decide (b ≤ a)) = true := by
  rcases Std.Total.total (r := (· ≤ · : List Nat → List Nat → Prop)) a b with h | h <;> simp [h]
def strE (P : Program) (w : World) : KEnc (strKind P w) where
  v := .str
  d := .str
  le := fun a b => decide (a.cps.toList ≤ b.cps.toList)
  ofV := fun k u h => by obtain ⟨t, rfl⟩ := h; exact ⟨by show Value.isStrOf k (.str k t) = true; simp [Value.isStrOf], rfl⟩
  toV := fun k u h => by obtain ⟨t, rfl⟩ := Value.isStrOf_shape h; exact ⟨t, rfl⟩
  reads := fun h k u hu => by obtain ⟨t, rfl⟩ := Value.isStrOf_shape hu; exact ⟨[], .str _ _, nofun⟩
  alike := fun _ _ => rfl
  plain := fun _ => ⟨nofun, nofun⟩
  depth := fun _ => rfl
  leq := PySem.W.dataLe_str fun x => x
  tr := fun a b c h1 h2 => by
    simp only [decide_eq_true_eq] at h1 h2 ⊢
    exact List.le_trans h1 h2
  tot := fun a b => lexLe_tot _ _
  anti := fun a b h1 h2 => by
    simp only [decide_eq_true_eq] at h1 h2
    have := List.le_antisymm h1 h2
    cases a; cases b
    simp only [Str.mk.injEq]
    exact Array.toList_inj.mp this
def intE (P : Program) (w : World) : KEnc (intKind P w) where
  v := .int
  d := .int
  le := fun a b => decide (a ≤ b)
  ofV := fun k u h => by obtain ⟨t, rfl⟩ := h; exact ⟨intKind_is _ _ _ _, rfl⟩
  toV := fun k u h => by obtain ⟨t, rfl⟩ := Value.isInt_shape h; exact ⟨t, rfl⟩
  reads := fun h k u hu => by obtain ⟨t, rfl⟩ := Value.isInt_shape hu; exact ⟨[], .int _ _, nofun⟩
  alike := fun _ _ => rfl
  plain := fun _ => ⟨nofun, nofun⟩
  depth := fun _ => rfl
  leq := PySem.W.dataLe_int fun x => x
  tr := fun a b c h1 h2 => by
    simp only [decide_eq_true_eq] at h1 h2 ⊢
    omega
  tot := fun a b => by
    simp only [Bool.or_eq_true, decide_eq_true_eq]
    omega
  anti := fun a b h1 h2 => by
    simp only [decide_eq_true_eq] at h1 h2
    omega
end
section
variable {X : Cx} {Ky : Type} [DecidableEq Ky] {knd : KeyKind X.prog X.w Ky}
theorem vals_keys (en : KEnc knd) : ∀ {ks : List Ky} {us : List Value}, Vals (ks.map en.v) us → Paired (fun k v => knd.is k v = true ∧ v.scannable = true) ks us
  | [], _, .nil => .nil
  | k :: ks, _, .cons r t => .cons (en.ofV _ _ r) (vals_keys en t)
theorem keys_vals (en : KEnc knd) : ∀ {ks : List Ky} {us : List Value}, Paired (fun k v => knd.is k v = true) ks us → Vals (ks.map en.v) us
  | [], _, .nil => .nil
  | k :: ks, _, .cons r t => .cons (en.toV _ _ r) (keys_vals en t)
def tSetG (en : KEnc knd) (ta : TE) (F : List Ky → Hp → VK → Prop) : TE := fun σ H Q => ta σ H fun x H1 => ∃ (l : Addr) (xs : List Ky), x = .ref l ∧ (SqL X.K H1 l (xs.map en.v) ∨ SqT X.K H1 l (xs.map en.v)) ∧ xs.length + 1 < scanBound ∧ F (putAll xs) H1 Q
/-- f(set(xs)) -/
theorem pe_ofSet {a : Expr} {ta : TE} {F : List Ky → Hp → VK → Prop} {p p2 q pos : Pos} {f : String} {z : Str} (en : KEnc knd) (hc : X.calm = true)
    (hg : Gl X z) (hm : X.mg z = none) (hv : bootBuiltins z = some (.builtin f)) (hn : z ≠ "__name__") (hd : (z == ("__debug__" : Str)) = false)
    (hb : ∀ {pins : List (Addr × Obj)} {s : Shared} {σ : L2.St} {H : Hp} {Q : VK} {b : Addr} {ks : List Ky}, L2.Inv X pins σ H s → SetG knd s.heap b ks → F ks H Q → wpAny (model X.prog X.w) X.A (call (.builtin f) [.ref b]) (EP X pins σ Q) X.xe s)
    (hg2 : Gl X "set") (hm2 : X.mg "set" = none) (ha : PE X a ta)
    (na : starEach [a] X.env = (false, eval a X.env) :: starEach [] X.env := by rfl) : PE X (.Call (.Name z p) [.Call (.Name "set" p2) [a] [] q] [] pos) (tSetG en ta F) := by
  refine ⟨fun pins s σ H Q I h => ?_⟩
  refine Call_ (ld_blt I hg hm hv ?_ hn hd)
  refine PyProof.Rows.callWith_builtin1 (PyProof.Rows.args_cons ?_ rfl) rfl rfl
  refine Call_ (ld_blt I hg2 hm2 boot_set ?_)
  refine PyProof.Rows.callWith_type1 (PyProof.Rows.args_cons (thn (ha.run pins s σ H _ I h) fun v s1 ⟨x, H1, I1, r1, q1⟩ => PyProof.Rows.args_nil ?_) na) na rfl
  obtain ⟨l, xs, rfl, hq, h1, q1⟩ := q1
  cases r1
  have fin : ∀ (h' : Heap) (tk : Nat), SetG knd h' s1.heap.objs.size (putAll xs) → (∀ b o, s1.heap.get? b = some o → h'.get? b = some o) →
      wpAny (model X.prog X.w) X.A (spliced (backTo pos (starEach [] X.env))) (fun vs s₂ => wpAny (model X.prog X.w) X.A (call (.builtin f) (Value.ref s1.heap.objs.size :: vs)) (EP X pins σ Q) X.xe s₂) X.xe { s1 with heap := h', toks := tk } := fun h' tk hS hk => by
    refine PyProof.Rows.args_nil ?_
    have I2 : Inv X pins σ H1 { s1 with heap := h', toks := tk } := I1.kept fun b o e => hk b o e
    exact hb I2 hS q1
  rcases hq with hq | hq
  · obtain ⟨its, r, pl, hz⟩ := I1.list hq
    exact call_setG xs (I1.ok.hd hc) pl.isList (by simpa using vals_keys en r) h1 fin
  · obtain ⟨its, r, pl, hz⟩ := I1.tuple hq
    exact call_setT xs (I1.ok.hd hc) pl (by simpa using vals_keys en r) h1 fin
def fLen : List Ky → Hp → VK → Prop := fun ks H Q => Q (.int ks.length) H
def fSort (en : KEnc knd) : List Ky → Hp → VK → Prop := fun ks H Q => ∀ p, H p = none → Q (.ref p) (upd H p (.lst ((ks.mergeSort en.le).map en.v)))
theorem pe_lenSetG {a : Expr} {ta : TE} {p p2 q pos : Pos} (en : KEnc knd) (hc : X.calm = true) (hg : Gl X "len") (hm : X.mg "len" = none) (hg2 : Gl X "set") (hm2 : X.mg "set" = none) (ha : PE X a ta)
    (na : starEach [a] X.env = (false, eval a X.env) :: starEach [] X.env := by rfl) : PE X (.Call (.Name "len" p) [.Call (.Name "set" p2) [a] [] q] [] pos) (tSetG en ta fLen) :=
  pe_ofSet en hc hg hm boot_len (by decide) (by decide) (fun {pins s σ H Q b ks} I R h => len_setG R ⟨.int ks.length, H, I.tok _, ⟨_, rfl⟩, h⟩) hg2 hm2 ha na
theorem pe_sortSetG {a : Expr} {ta : TE} {p p2 q pos : Pos} (en : KEnc knd) (hc : X.calm = true) (hu : X.A.units + 2 < cLine) (hg : Gl X "sorted") (hm : X.mg "sorted" = none) (hg2 : Gl X "set") (hm2 : X.mg "set" = none) (ha : PE X a ta)
    (na : starEach [a] X.env = (false, eval a X.env) :: starEach [] X.env := by rfl) : PE X (.Call (.Name "sorted" p) [.Call (.Name "set" p2) [a] [] q] [] pos) (tSetG en ta (fSort en)) :=
  pe_ofSet en hc hg hm Boot.«sorted» (by decide) (by decide) (fun {pins s σ H Q b ks} I R h => by
    have hks : ks.length < scanBound := by
      obtain ⟨o, es, ep, t, l, ho, hex, hd, el, ea, pl, nd, sb, hf, hr, hl⟩ := R
      rw [← pl.length_eq, ents_len ea, Array.length_toList]
      exact sb
    refine sorted_setG en R (I.ok.hd hc) hu fun s' p out c k g o hp hgp pv => ?_
    have hl : ((ks.mergeSort en.le).map en.v).length ≤ sizeLine := by
      rw [List.length_map, List.length_mergeSort, sizeLine_eq]
      have : ks.length < 4096 := hks
      omega
    have hn : H p = none := I.hok.fresh hp
    have J : Inv X pins σ (upd H p (.lst ((ks.mergeSort en.le).map en.v))) { s with heap := s'.heap, gens := s'.gens, drawn := s'.drawn, toks := s'.toks } :=
      I.call (ch := []) (Un.laid k hp hn) (I.hok.laid k hp ⟨hl, out.toList, c, keys_vals en pv, hgp⟩) (by rw [g]; exact I.bare) (fun _ z => nomatch z)
    have e : s' = { s with heap := s'.heap, gens := s'.gens, drawn := s'.drawn, toks := s'.toks } := by
      cases s'
      cases s
      cases o
      rfl
    rw [e]
    exact ⟨.ref p, _, J, rfl, h p hn⟩) hg2 hm2 ha na
end
end Tv
/-! Tv20: sets of texts and of whole numbers over trees, min and max of two, functions as values. -/
namespace Tv
open PySem PySem.Spec PyProof.Rows L2

section
variable {K : PySem.W.Frag} {X : Cx} {G0 : Gh} {H0 : Hp} {wa : WE} {ws : WA} {pos p p2 q : Pos} {a e : Expr} {es : List Expr} {x : Str} {k : Nat}
/-! ### len(set(..)), sorted(set(..)) -/
def leS (a b : Str) : Bool := decide (a.cps.toList ≤ b.cps.toList)
def leI (a b : Int) : Bool := decide (a ≤ b)
def seqOf : D → Option (List D)
  | .lst ds => some ds
  | .tup ds => some ds
  | _ => none
def wLenSetS (wa : WE) : WE := fun ρ Φ => wa ρ fun r ρ' => match (seqOf r.d).bind strsD with
  | some xs => xs.length + 1 < scanBound ∧ Φ (.fr (.int (putAll xs).length)) ρ'
  | none => False
def wLenSetI (wa : WE) : WE := fun ρ Φ => wa ρ fun r ρ' => match (seqOf r.d).bind intsD with
  | some xs => xs.length + 1 < scanBound ∧ Φ (.fr (.int (putAll xs).length)) ρ'
  | none => False
def wSortSetS (wa : WE) : WE := fun ρ Φ => wa ρ fun r ρ' => match (seqOf r.d).bind strsD with
  | some xs => xs.length + 1 < scanBound ∧ Φ (.ow (.lst (((putAll xs).mergeSort leS).map .str))) ρ'
  | none => False
def wSortSetI (wa : WE) : WE := fun ρ Φ => wa ρ fun r ρ' => match (seqOf r.d).bind intsD with
  | some xs => xs.length + 1 < scanBound ∧ Φ (.ow (.lst (((putAll xs).mergeSort leI).map .int))) ρ'
  | none => False
theorem seqOf_sh {G : Gh} {H : Hp} {d : D} {v : V} {ds : List D} (x : Sh K G H d v) (e : seqOf d = some ds) : ∃ a xs, v = .ref a ∧ (SqL K H a xs ∨ SqT K H a xs) ∧ RepL K G H ds xs := by
  unfold seqOf at e
  split at e
  · cases e
    obtain ⟨a, xs, rfl, h, r⟩ := x.list
    exact ⟨a, xs, rfl, .inl h, r⟩
  · cases e
    obtain ⟨a, xs, rfl, h, r⟩ := x.tuple
    exact ⟨a, xs, rfl, .inr h, r⟩
  · cases e
theorem repS {G : Gh} {H : Hp} : ∀ ys : List Str, RepL K G H (ys.map D.str) (ys.map V.str)
  | [] => .nil
  | y :: ys => .cons (.str y) (repS ys)
theorem repI {G : Gh} {H : Hp} : ∀ ys : List Int, RepL K G H (ys.map D.int) (ys.map V.int)
  | [] => .nil
  | y :: ys => .cons (.int y) (repI ys)
theorem i_lenSetS (hc : X.calm = true) (hg : Gl X "len") (hm : X.mg "len" = none) (hg2 : Gl X "set") (hm2 : X.mg "set" = none) (ha : PEI X G0 H0 a wa)
    (na : starEach [a] X.env = (false, eval a X.env) :: starEach [] X.env := by rfl) : PEI X G0 H0 (.Call (.Name "len" p) [.Call (.Name "set" p2) [a] [] q] [] pos) (wLenSetS wa) := by
  refine pe_imp (pe_lenSetG (strE X.prog X.w) hc hg hm hg2 hm2 ha na) fun σ H Q h => ?_
  obtain ⟨ρ, G, Φ, S, h, c⟩ := h
  refine ⟨ρ, G, _, S, h, fun r ρ' v G' H' q S' P L x => ?_⟩
  split at q
  · rename_i xs e
    obtain ⟨ds, e1, e2⟩ := Option.bind_eq_some_iff.mp e
    obtain ⟨a, ys, rfl, h2, r2⟩ := seqOf_sh x.sh e1
    have := strsD_rep r2 e2
    subst this
    exact ⟨a, xs, rfl, h2, q.1, c _ ρ' _ G' H' q.2 S' P L (.int _)⟩
  · exact q.elim
theorem i_lenSetI (hc : X.calm = true) (hg : Gl X "len") (hm : X.mg "len" = none) (hg2 : Gl X "set") (hm2 : X.mg "set" = none) (ha : PEI X G0 H0 a wa)
    (na : starEach [a] X.env = (false, eval a X.env) :: starEach [] X.env := by rfl) : PEI X G0 H0 (.Call (.Name "len" p) [.Call (.Name "set" p2) [a] [] q] [] pos) (wLenSetI wa) := by
  refine pe_imp (pe_lenSetG (intE X.prog X.w) hc hg hm hg2 hm2 ha na) fun σ H Q h => ?_
  obtain ⟨ρ, G, Φ, S, h, c⟩ := h
  refine ⟨ρ, G, _, S, h, fun r ρ' v G' H' q S' P L x => ?_⟩
  split at q
  · rename_i xs e
    obtain ⟨ds, e1, e2⟩ := Option.bind_eq_some_iff.mp e
    obtain ⟨a, ys, rfl, h2, r2⟩ := seqOf_sh x.sh e1
    have := intsD_rep r2 e2
    subst this
    exact ⟨a, xs, rfl, h2, q.1, c _ ρ' _ G' H' q.2 S' P L (.int _)⟩
  · exact q.elim
theorem i_sortSetS (hc : X.calm = true) (hu : X.A.units + 2 < cLine) (hg : Gl X "sorted") (hm : X.mg "sorted" = none) (hg2 : Gl X "set") (hm2 : X.mg "set" = none) (ha : PEI X G0 H0 a wa)
    (na : starEach [a] X.env = (false, eval a X.env) :: starEach [] X.env := by rfl) : PEI X G0 H0 (.Call (.Name "sorted" p) [.Call (.Name "set" p2) [a] [] q] [] pos) (wSortSetS wa) := by
  refine pe_imp (pe_sortSetG (strE X.prog X.w) hc hu hg hm hg2 hm2 ha na) fun σ H Q h => ?_
  obtain ⟨ρ, G, Φ, S, h, c⟩ := h
  refine ⟨ρ, G, _, S, h, fun r ρ' v G' H' q S' P L x => ?_⟩
  split at q
  · rename_i xs e
    obtain ⟨ds, e1, e2⟩ := Option.bind_eq_some_iff.mp e
    obtain ⟨a, ys, rfl, h2, r2⟩ := seqOf_sh x.sh e1
    have := strsD_rep r2 e2
    subst this
    have kk : ∀ r' v' G2 H2, Φ r' ρ' → Wd G2 H2 → Grow G' H' G2 H2 → RepR X.K G2 H2 H' r' v' → Q v' H2 := fun r' v' G2 H2 φ w g x' => c r' ρ' v' G2 H2 φ (S'.grow w g) (P.trans S'.wd g.stp L) L (x'.back fun a z => P.nn S'.wd z)
    exact ⟨a, xs, rfl, h2, q.1, new_lst (Φ := fun r => Φ r ρ') S'.wd kk (repS _) q.2⟩
  · exact q.elim
theorem i_sortSetI (hc : X.calm = true) (hu : X.A.units + 2 < cLine) (hg : Gl X "sorted") (hm : X.mg "sorted" = none) (hg2 : Gl X "set") (hm2 : X.mg "set" = none) (ha : PEI X G0 H0 a wa)
    (na : starEach [a] X.env = (false, eval a X.env) :: starEach [] X.env := by rfl) : PEI X G0 H0 (.Call (.Name "sorted" p) [.Call (.Name "set" p2) [a] [] q] [] pos) (wSortSetI wa) := by
  refine pe_imp (pe_sortSetG (intE X.prog X.w) hc hu hg hm hg2 hm2 ha na) fun σ H Q h => ?_
  obtain ⟨ρ, G, Φ, S, h, c⟩ := h
  refine ⟨ρ, G, _, S, h, fun r ρ' v G' H' q S' P L x => ?_⟩
  split at q
  · rename_i xs e
    obtain ⟨ds, e1, e2⟩ := Option.bind_eq_some_iff.mp e
    obtain ⟨a, ys, rfl, h2, r2⟩ := seqOf_sh x.sh e1
    have := intsD_rep r2 e2
    subst this
    have kk : ∀ r' v' G2 H2, Φ r' ρ' → Wd G2 H2 → Grow G' H' G2 H2 → RepR X.K G2 H2 H' r' v' → Q v' H2 := fun r' v' G2 H2 φ w g x' => c r' ρ' v' G2 H2 φ (S'.grow w g) (P.trans S'.wd g.stp L) L (x'.back fun a z => P.nn S'.wd z)
    exact ⟨a, xs, rfl, h2, q.1, new_lst (Φ := fun r => Φ r ρ') S'.wd kk (repI _) q.2⟩
  · exact q.elim
/-! ### functions as values -/
theorem i_fn {f : Addr} (hg : Gl X x) (hm : X.mg x = some (.ref f)) (hk : PySem.W.nsIn X.K mainGlobals x = some (some (.ref f))) (hdb : (x == ("__debug__" : Str)) = false := by decide) : PEI X G0 H0 (.Name x pos) (wC (.fn x)) :=
  pe_imp (pe_glob hg hm (v := .ref f) rfl hdb) fun σ H Q h => tx_c (fun _ _ => .fn hk) h
/-- a def at hand, by its name -/
def Hand (X : Cx) (k : Nat) (x : Str) (wf : WF) : Prop := ∃ f, FnG X.prog X.w X.K X.mg X.base k f wf ∧ X.mg x = some (.ref f) ∧ PySem.W.keepIn X.K (.ref f) = true
def Hands (X : Cx) (k : Nat) (tab : List (Str × WF)) : Prop := ∀ x wf, tab.lookup x = some wf → Hand X k x wf
theorem hands_nil : Hands X k [] := fun _ _ h => nomatch h
theorem hands_cons {f : Addr} {tab : List (Str × WF)} {wf : WF} (h : FnG X.prog X.w X.K X.mg X.base k f wf ∧ X.mg x = some (.ref f) ∧ PySem.W.keepIn X.K (.ref f) = true) (t : Hands X k tab) : Hands X k ((x, wf) :: tab) := fun y wf' e => by
  rw [List.lookup_cons] at e
  split at e
  · rename_i q
    cases e
    have := eq_of_beq q
    subst this
    exact ⟨f, h⟩
  · exact t y wf' e
def wCallL (tab : List (Str × WF)) (i : Nat) (ws : WA) : WE := fun ρ Φ => match ρ[i]? with
  | some (.fr (.fn x)) => match tab.lookup x with
    | some wf => wCall wf ws ρ Φ
    | none => False
  | _ => False
theorem i_callL {tab : List (Str × WF)} (i : Nat) (hA : Hands X k tab) (hr : Room k X.A) (hg : X.A.guards = some []) (ha : PAI X G0 H0 (e :: es) ws)
    (hN : X.N[i]? = some x := by rfl) (hv : Vis X.env.scope x := by first | exact Or.inl rfl | exact Or.inr (Or.inl rfl) | exact Or.inr (Or.inr rfl))
    (hdb : (x == ("__debug__" : Str)) = false := by decide) (hcd : (x == ("__classdict__" : Str)) = false := by decide)
    (he : starEach (e :: es) X.env = (false, eval e X.env) :: starEach es X.env := by rfl) (hpl : (backTo pos (starEach es X.env)).any (·.1) = false := by rfl) :
    PEI X G0 H0 (.Call (.Name x p) (e :: es) [] pos) (wCallL tab i ws) := by
  refine ⟨fun pins s σ H Q I h => ?_⟩
  obtain ⟨ρ, G, Φ, S, h, c⟩ := h
  unfold wCallL at h
  split at h
  · rename_i y e0
    split at h
    · rename_i wf e1
      obtain ⟨v, hs, r⟩ := S.fr i _ e0
      cases r with
      | fn hk =>
        rename_i f
        obtain ⟨f', F, hm, hkp⟩ := hA y wf e1
        have hm' := PySem.W.mg_of I.ok.mod.kin I.ok.mod.glob hk
        rw [hm'] at hm
        cases hm
        refine wpAny_Call_Name_kw (thn ((pe_var (pos := p) hN hv hdb hcd).run pins s σ H (fun v H1 => v = .ref f ∧ H1 = H) I ⟨.ref f, hs, rfl, rfl⟩) fun u s1 ⟨v, H1, I1, r1, q1⟩ => ?_)
        obtain ⟨rfl, rfl⟩ := q1
        cases r1
        exact PySem.W.callWith_K (h₀ := X.base) I.ok.mod.kin hkp (thn (ha.run pos pins s1 σ _ _ I1 (tx_call ⟨ρ, G, Φ, S, h, c⟩)) fun us s2 ⟨vs, H2, I2, r, q⟩ => ⟨I2.kIn, run_fnG F hr hg I2 r q⟩) he hpl
    · exact h.elim
  · exact h.elim
end
/-! ### min, max of two texts -/
section
variable {prog : Program} {w : World} {A : Around} {E : Value → Shared → Prop} {s : Shared}
theorem rich_lt_str {x y : Str} {t u : Tok} {Q : Value → Shared → Prop} (h : Q (.bool (strLt x y)) s) : wpAny (model prog w) A (richCompare .Lt (.str x t) (.str y u)) Q E s :=
  PyProof.Rows.lt_str h
theorem rich_gt_str {x y : Str} {t u : Tok} {Q : Value → Shared → Prop} (h : Q (.bool (strLt y x)) s) : wpAny (model prog w) A (richCompare .Gt (.str x t) (.str y u)) Q E s :=
  PySem.P.gt_str h
def strItems (xs : Array (Str × Tok)) : Array Value := xs.map fun p => .str p.1 p.2
def strAt (xs : Array (Str × Tok)) (i : Nat) : Str := (xs[i]?.map (·.1)).getD ""
theorem strItems_at {xs : Array (Str × Tok)} {i : Nat} {v : Value} (h : (strItems xs)[i]? = some v) : ∃ t, v = .str (strAt xs i) t := by
  simp only [strItems, Array.getElem?_map, Option.map_eq_some_iff] at h
  obtain ⟨p, hp, rfl⟩ := h
  exact ⟨p.2, by simp [strAt, hp]⟩
theorem cmp_gt {P : Nat → Value → Prop} (val : Nat → Str) (hval : ∀ i v, P i v → ∃ t, v = .str (val i) t) :
    CmpOf prog w A .Gt P (fun i j => strLt (val j) (val i)) := fun i j vi vj s Q E hi hj h => by
  obtain ⟨t, rfl⟩ := hval i vi hi
  obtain ⟨u, rfl⟩ := hval j vj hj
  exact rich_gt_str h
theorem cmp_lt {P : Nat → Value → Prop} (val : Nat → Str) (hval : ∀ i v, P i v → ∃ t, v = .str (val i) t) :
    CmpOf prog w A .Lt P (fun i j => strLt (val i) (val j)) := fun i j vi vj s Q E hi hj h => by
  obtain ⟨t, rfl⟩ := hval i vi hi
  obtain ⟨u, rfl⟩ := hval j vj hj
  exact rich_lt_str h
theorem max_two_strs {a b : Str} {t u : Tok} {Q : Value → Shared → Prop} (hh : A.handled = none)
    (h : ∀ h' tk, (∀ c o, s.heap.get? c = some o → h'.get? c = some o) → Q (if strLt a b then .str b u else .str a t) { s with heap := h', toks := tk }) :
    wpAny (model prog w) A (call (.builtin "max") [.str a t, .str b u]) Q E s := by
  have hT : (s.heap.push { cls := .type "tuple", data := .seq #[.str a t, .str b u] }).IsTuple s.heap.objs.size (strItems #[(a, t), (b, u)]) := ⟨_, Heap.get?_push_size _ rfl, rfl, 0, by simp [strItems]⟩
  refine call_max_two (wpAny_pyIter_tuple hT ?_)
  have hsz : (s.heap.push { cls := .type "tuple", data := .seq #[.str a t, .str b u] }).objs.size = s.heap.objs.size + 1 := Heap.size_push ..
  refine ⟨_, [_, s.heap.objs.size], [_], _, _, _, _, rfl, Walks.tuple (A := A.in1) hh _ s.heap.objs.size (by rw [hsz]; exact Nat.ne_of_lt (Nat.lt_succ_self _)) (strItems #[(a, t), (b, u)]),
    ⟨⟨_, Heap.get?_push_size _ rfl, rfl, rfl⟩, hT.push _⟩, fun c hc => ?_, by simp [strItems], cmp_gt (strAt #[(a, t), (b, u)]) (fun _ _ => strItems_at), fun v h' tk hP hk => ?_⟩
  · show c < ((s.heap.push _).push _).objs.size
    rw [Heap.size_push, hsz]
    rcases List.mem_cons.mp hc with rfl | hc
    · rw [hsz]; exact Nat.lt_succ_self _
    · rcases List.mem_cons.mp hc with rfl | hc
      · exact Nat.lt_succ_of_lt (Nat.lt_succ_self _)
      · cases hc
  · have hold : ∀ c o, s.heap.get? c = some o → h'.get? c = some o := fun c o e => by
      refine hk c o (fun hm => ?_) (Heap.get?_push_of_some _ (Heap.get?_push_of_some _ e))
      rcases List.mem_cons.mp hm with e1 | hm
      · have := Heap.lt_size e; rw [e1, hsz] at this; exact Nat.lt_irrefl _ (Nat.lt_of_succ_lt this)
      · cases hm
    have hv : v = if strLt a b then Value.str b u else Value.str a t := by
      have hP' : (strItems #[(a, t), (b, u)])[argBest (fun i j => strLt (strAt #[(a, t), (b, u)] j) (strAt #[(a, t), (b, u)] i)) 1]? = some v := by
        have hsz2 : (strItems #[(a, t), (b, u)]).size - 1 = 1 := by simp [strItems]
        rw [← hsz2]; exact hP
      by_cases hba : strLt a b = true
      · have e : argBest (fun i j => strLt (strAt #[(a, t), (b, u)] j) (strAt #[(a, t), (b, u)] i)) 1 = 1 := by simp [argBest, strAt, hba]
        rw [e] at hP'
        simpa [strItems, hba] using hP'.symm
      · have e : argBest (fun i j => strLt (strAt #[(a, t), (b, u)] j) (strAt #[(a, t), (b, u)] i)) 1 = 0 := by simp [argBest, strAt, hba]
        rw [e] at hP'
        simpa [strItems, hba] using hP'.symm
    rw [hv]; exact h h' tk hold
theorem min_two_strs {a b : Str} {t u : Tok} {Q : Value → Shared → Prop} (hh : A.handled = none)
    (h : ∀ h' tk, (∀ c o, s.heap.get? c = some o → h'.get? c = some o) → Q (if strLt b a then .str b u else .str a t) { s with heap := h', toks := tk }) :
    wpAny (model prog w) A (call (.builtin "min") [.str a t, .str b u]) Q E s := by
  have hT : (s.heap.push { cls := .type "tuple", data := .seq #[.str a t, .str b u] }).IsTuple s.heap.objs.size (strItems #[(a, t), (b, u)]) := ⟨_, Heap.get?_push_size _ rfl, rfl, 0, by simp [strItems]⟩
  refine call_min_two (wpAny_pyIter_tuple hT ?_)
  have hsz : (s.heap.push { cls := .type "tuple", data := .seq #[.str a t, .str b u] }).objs.size = s.heap.objs.size + 1 := Heap.size_push ..
  refine ⟨_, [_, s.heap.objs.size], [_], _, _, _, _, rfl, Walks.tuple (A := A.in1) hh _ s.heap.objs.size (by rw [hsz]; exact Nat.ne_of_lt (Nat.lt_succ_self _)) (strItems #[(a, t), (b, u)]),
    ⟨⟨_, Heap.get?_push_size _ rfl, rfl, rfl⟩, hT.push _⟩, fun c hc => ?_, by simp [strItems], cmp_lt (strAt #[(a, t), (b, u)]) (fun _ _ => strItems_at), fun v h' tk hP hk => ?_⟩
  · show c < ((s.heap.push _).push _).objs.size
    rw [Heap.size_push, hsz]
    rcases List.mem_cons.mp hc with rfl | hc
    · rw [hsz]; exact Nat.lt_succ_self _
    · rcases List.mem_cons.mp hc with rfl | hc
      · exact Nat.lt_succ_of_lt (Nat.lt_succ_self _)
      · cases hc
  · have hold : ∀ c o, s.heap.get? c = some o → h'.get? c = some o := fun c o e => by
      refine hk c o (fun hm => ?_) (Heap.get?_push_of_some _ (Heap.get?_push_of_some _ e))
      rcases List.mem_cons.mp hm with e1 | hm
      · have := Heap.lt_size e; rw [e1, hsz] at this; exact Nat.lt_irrefl _ (Nat.lt_of_succ_lt this)
      · cases hm
    have hv : v = if strLt b a then Value.str b u else Value.str a t := by
      have hP' : (strItems #[(a, t), (b, u)])[argBest (fun i j => strLt (strAt #[(a, t), (b, u)] i) (strAt #[(a, t), (b, u)] j)) 1]? = some v := by
        have hsz2 : (strItems #[(a, t), (b, u)]).size - 1 = 1 := by simp [strItems]
        rw [← hsz2]; exact hP
      by_cases hba : strLt b a = true
      · have e : argBest (fun i j => strLt (strAt #[(a, t), (b, u)] i) (strAt #[(a, t), (b, u)] j)) 1 = 1 := by simp [argBest, strAt, hba]
        rw [e] at hP'
        simpa [strItems, hba] using hP'.symm
      · have e : argBest (fun i j => strLt (strAt #[(a, t), (b, u)] i) (strAt #[(a, t), (b, u)] j)) 1 = 0 := by simp [argBest, strAt, hba]
        rw [e] at hP'
        simpa [strItems, hba] using hP'.symm
    rw [hv]; exact h h' tk hold
end
section
variable {X : Cx} {K : PySem.W.Frag}
theorem CallR.or {f : Value} {r r' : List V → Hp → VK → Prop} (h : CallR X f r) (h' : CallR X f r') : CallR X f (fun xs H Q => r xs H Q ∨ r' xs H Q) :=
  fun pins s σ H xs us Q I rv q => q.elim (h pins s σ H xs us Q I rv) (h' pins s σ H xs us Q I rv)
def rMaxS : List V → Hp → VK → Prop := fun xs H Q => ∃ i j, xs = [.str i, .str j] ∧ Q (.str (if strLt i j then j else i)) H
def rMinS : List V → Hp → VK → Prop := fun xs H Q => ∃ i j, xs = [.str i, .str j] ∧ Q (.str (if strLt j i then j else i)) H
theorem call_maxS (hc : X.calm = true) : CallR X (.builtin "max") rMaxS := by
  intro pins s σ H xs us Q I r h
  obtain ⟨i, j, rfl, q⟩ := h
  obtain ⟨u, w', rfl, ⟨t, rfl⟩, ⟨t', rfl⟩⟩ := vals2 r
  refine max_two_strs (I.ok.hd hc) fun h' tk k => ⟨_, H, I.kept k, ?_, q⟩
  by_cases hj : strLt i j = true
  · rw [if_pos hj, if_pos hj]; exact ⟨_, rfl⟩
  · rw [if_neg hj, if_neg hj]; exact ⟨_, rfl⟩
theorem call_minS (hc : X.calm = true) : CallR X (.builtin "min") rMinS := by
  intro pins s σ H xs us Q I r h
  obtain ⟨i, j, rfl, q⟩ := h
  obtain ⟨u, w', rfl, ⟨t, rfl⟩, ⟨t', rfl⟩⟩ := vals2 r
  refine min_two_strs (I.ok.hd hc) fun h' tk k => ⟨_, H, I.kept k, ?_, q⟩
  by_cases hj : strLt j i = true
  · rw [if_pos hj, if_pos hj]; exact ⟨_, rfl⟩
  · rw [if_neg hj, if_neg hj]; exact ⟨_, rfl⟩
def oMaxA : List D → (R → Prop) → Prop
  | [.int i, .int j], Φ => Φ (.fr (.int (if j > i then j else i)))
  | [.str i, .str j], Φ => Φ (.fr (.str (if strLt i j then j else i)))
  | _, _ => False
def oMinA : List D → (R → Prop) → Prop
  | [.int i, .int j], Φ => Φ (.fr (.int (if j < i then j else i)))
  | [.str i, .str j], Φ => Φ (.fr (.str (if strLt j i then j else i)))
  | _, _ => False
def rMaxA : List V → Hp → VK → Prop := fun xs H Q => (∃ i j, xs = [.int i, .int j] ∧ Q (.int (if j > i then j else i)) H) ∨ rMaxS xs H Q
def rMinA : List V → Hp → VK → Prop := fun xs H Q => (∃ i j, xs = [.int i, .int j] ∧ Q (.int (if j < i then j else i)) H) ∨ rMinS xs H Q
theorem call_maxA (hc : X.calm = true) : CallR X (.builtin "max") rMaxA := CallR.or (call_max2 hc) (call_maxS hc)
theorem call_minA (hc : X.calm = true) : CallR X (.builtin "min") rMinA := CallR.or (call_min2 hc) (call_minS hc)
theorem opn_maxA : OpN K oMaxA rMaxA := fun G H ds vs Φ Q w hl hs h k => by
  unfold oMaxA at h
  split at h
  · obtain ⟨v, u, rfl, s1, s2⟩ := two_sh hl hs
    cases s1.i; cases s2.i
    exact .inl ⟨_, _, rfl, k _ _ G H h w (Grow.refl _ _) (.int _)⟩
  · obtain ⟨v, u, rfl, s1, s2⟩ := two_sh hl hs
    cases s1.s; cases s2.s
    exact .inr ⟨_, _, rfl, k _ _ G H h w (Grow.refl _ _) (.str _)⟩
  · exact h.elim
theorem opn_minA : OpN K oMinA rMinA := fun G H ds vs Φ Q w hl hs h k => by
  unfold oMinA at h
  split at h
  · obtain ⟨v, u, rfl, s1, s2⟩ := two_sh hl hs
    cases s1.i; cases s2.i
    exact .inl ⟨_, _, rfl, k _ _ G H h w (Grow.refl _ _) (.int _)⟩
  · obtain ⟨v, u, rfl, s1, s2⟩ := two_sh hl hs
    cases s1.s; cases s2.s
    exact .inr ⟨_, _, rfl, k _ _ G H h w (Grow.refl _ _) (.str _)⟩
  · exact h.elim
end
end Tv
namespace L2
theorem Room.r2 {k : Nat} {A : PySem.Around} (h : Room k A) : A.units + 2 < PySem.cLine := by have := h.un; omega
end L2
/-! Tv21: a, b, c = x, y, z; steps for Tv20. -/
namespace Tv
open PySem PySem.Spec PyProof.Rows L2
section
variable {K : PySem.W.Frag} {X : Cx} {G0 : Gh} {H0 : Hp} {wa : WE} {ws : WA} {pos : Pos} {a b c : Expr}
def sPar3 (i j l : Nat) (ws : WA) : WS := fun ρ S => ws ρ fun rs ρ' => match rs with
  | [r1, r2, r3] => (i < ρ'.length ∧ j < ρ'.length ∧ l < ρ'.length) ∧ (r1.ok ∧ r2.ok ∧ r3.ok) ∧ S.nx (((ρ'.set i r1.cell).set j r2.cell).set l r3.cell)
  | _ => False
theorem s_par3 {i j l : Nat} {x y z : Str} {px py pz pt : Pos} {kt k2 pt2} (hc : X.calm = true) (hN : X.N.Nodup) (hi : X.N[i]? = some x) (hj : X.N[j]? = some y) (hl : X.N[l]? = some z) (hij : i ≠ j) (hil : i ≠ l) (hjl : j ≠ l)
    (hx : X.env.scope.names.lookup x = some .local) (hy : X.env.scope.names.lookup y = some .local) (hz : X.env.scope.names.lookup z = some .local) (ha : PAI X G0 H0 [a, b, c] ws)
    (hw : swappedStores [.Tuple [.Name x px, .Name y py, .Name z pz] kt pt] (.Tuple [a, b, c] k2 pt2) X.env = pure (some [x, y, z]))
    (hs : swapsWithSole [.Tuple [.Name x px, .Name y py, .Name z pz] kt pt] (.Tuple [a, b, c] k2 pt2) pos.line X.env = pure false := by rfl) :
    PSI X G0 H0 (.Assign [.Tuple [.Name x px, .Name y py, .Name z pz] kt pt] (.Tuple [a, b, c] k2 pt2) pos) (sPar3 i j l ws) := by
  refine ps_imp (ps_par3 hc hN hi hj hl hij hil hjl hx hy hz ha hw hs) fun D σ H h => ?_
  obtain ⟨ρ, G, S, s, h, k⟩ := h
  refine ⟨ρ, G, _, s, h, fun rs ρ' vs G' H' q s' P L x => ?_⟩
  split at q
  · rename_i r1 r2 r3
    obtain ⟨⟨h1, h2, h3⟩, ⟨o1, o2, o3⟩, q⟩ := q
    cases x with
    | cons x1 xr n1 =>
      rename_i v1 vr
      cases xr with
      | cons x2 xr n2 =>
        rename_i v2 vr2
        cases xr with
        | cons x3 xr n3 =>
          rename_i v3 vr3
          cases xr
          refine ⟨v1, v2, v3, rfl, k.nx _ G' H' _ q ?_ (P.fe s.wd)⟩
          have fresh : ∀ {r : R} {v : V}, RepR X.K G' H' H r v → ∀ d a, r = .ow d → v = .ref a → ¬ OwnA ρ' σ a := fun {r v} xr d a e1 e2 z => by
            subst e1 e2
            obtain ⟨a', ea, _, hn⟩ := xr
            cases ea
            exact s.hO L a z hn
          have s1 := s'.put' h1 (x1.back fun a z => s.none0 z) (fresh x1) o1
          have s2 := s1.put' (i := j) (r := r2) (w := v2) (by rw [List.length_set]; exact h2) (x2.back fun a z => s.none0 z) (fun d a e1 e2 z => by
            rcases z.put with z | ⟨⟨d', e3⟩, e4⟩
            · exact fresh x2 d a e1 e2 z
            · exact n1 d' e3 (r2, v2) List.mem_cons_self ⟨d, e1⟩ (by rw [e2, e4])) o2
          refine s2.put' (by rw [List.length_set, List.length_set]; exact h3) (x3.back fun a z => s.none0 z) (fun d a e1 e2 z => ?_) o3
          rcases z.put with z | ⟨⟨d', e3⟩, e4⟩
          · rcases z.put with z | ⟨⟨d', e3⟩, e4⟩
            · exact fresh x3 d a e1 e2 z
            · exact n1 d' e3 (r3, v3) (List.mem_cons_of_mem _ List.mem_cons_self) ⟨d, e1⟩ (by rw [e2, e4])
          · exact n2 d' e3 (r3, v3) List.mem_cons_self ⟨d, e1⟩ (by rw [e2, e4])
  · exact q.elim
end
section
variable {ρ : En} {S : SK} {i j l : Nat} {d e : D} {r : R} {rs : List R} {ds es : List D} {wa wb : WE} {ws : WA} {wf : WF} {Φ : R → En → Prop} {x : Str} {xs : List Str} {is : List Int}
def par3W (i j l : Nat) (rs : List R) (ρ : En) (S : SK) : Prop := match rs with
  | [r1, r2, r3] => (i < ρ.length ∧ j < ρ.length ∧ l < ρ.length) ∧ (r1.ok ∧ r2.ok ∧ r3.ok) ∧ S.nx (((ρ.set i r1.cell).set j r2.cell).set l r3.cell)
  | _ => False
theorem e_par3 (h : ws ρ fun rs ρ' => par3W i j l rs ρ' S) : sPar3 i j l ws ρ S := h
theorem e_par3W {r1 r2 r3 : R} (l1 : Nat.blt i ρ.length = true) (l2 : Nat.blt j ρ.length = true) (l3 : Nat.blt l ρ.length = true) (o1 : r1.ok) (o2 : r2.ok) (o3 : r3.ok) (h : S.nx (((ρ.set i r1.cell).set j r2.cell).set l r3.cell)) : par3W i j l [r1, r2, r3] ρ S :=
  ⟨⟨Nat.blt_eq.mp l1, Nat.blt_eq.mp l2, Nat.blt_eq.mp l3⟩, ⟨o1, o2, o3⟩, h⟩
theorem e_callL {tab : List (Str × WF)} (q : ρ[i]? = some (.fr (.fn x))) (q2 : tab.lookup x = some wf) (h : wCall wf ws ρ Φ) : wCallL tab i ws ρ Φ := by
  unfold wCallL
  rw [q]
  show (match tab.lookup x with | some wf => wCall wf ws ρ Φ | none => False)
  rw [q2]
  exact h
def lenSetW (r : R) (Φ : R → En → Prop) (ρ : En) : Prop := match (seqOf r.d).bind strsD with
  | some xs => xs.length + 1 < scanBound ∧ Φ (.fr (.int (putAll xs).length)) ρ
  | none => False
def sortSetW (r : R) (Φ : R → En → Prop) (ρ : En) : Prop := match (seqOf r.d).bind strsD with
  | some xs => xs.length + 1 < scanBound ∧ Φ (.ow (.lst (((putAll xs).mergeSort leS).map .str))) ρ
  | none => False
theorem e_lenSet (h : wa ρ fun r ρ' => lenSetW r Φ ρ') : wLenSetS wa ρ Φ := h
theorem e_sortSet (h : wa ρ fun r ρ' => sortSetW r Φ ρ') : wSortSetS wa ρ Φ := h
theorem e_lenSetW {r : R} (q : seqOf r.d = some (xs.map D.str)) (z : xs.length + 1 < scanBound) (h : Φ (.fr (.int (putAll xs).length)) ρ) : lenSetW r Φ ρ := by
  unfold lenSetW
  rw [q]
  show (match strsD (xs.map D.str) with | some xs => xs.length + 1 < scanBound ∧ Φ (.fr (.int (putAll xs).length)) ρ | none => False)
  rw [strsD_map]
  exact ⟨z, h⟩
theorem e_sortSetW {r : R} (q : seqOf r.d = some (xs.map D.str)) (z : xs.length + 1 < scanBound) (h : Φ (.ow (.lst (((putAll xs).mergeSort leS).map .str))) ρ) : sortSetW r Φ ρ := by
  unfold sortSetW
  rw [q]
  show (match strsD (xs.map D.str) with | some xs => xs.length + 1 < scanBound ∧ Φ (.ow (.lst (((putAll xs).mergeSort leS).map .str))) ρ | none => False)
  rw [strsD_map]
  exact ⟨z, h⟩
theorem e_maxS {a b : Str} {Φ : R → Prop} (h : Φ (.fr (.str (if strLt a b then b else a)))) : oMaxA [.str a, .str b] Φ := h
theorem e_minS {a b : Str} {Φ : R → Prop} (h : Φ (.fr (.str (if strLt b a then b else a)))) : oMinA [.str a, .str b] Φ := h
theorem e_maxI {a b : Int} {Φ : R → Prop} (h : Φ (.fr (.int (if b > a then b else a)))) : oMaxA [.int a, .int b] Φ := h
theorem e_minI {a b : Int} {Φ : R → Prop} (h : Φ (.fr (.int (if b < a then b else a)))) : oMinA [.int a, .int b] Φ := h
end
/-! ### what a set holds -/
section
variable {κ : Type} [DecidableEq κ]
theorem addK_mem {l : List κ} {k x : κ} : x ∈ addK l k ↔ x ∈ l ∨ x = k := by
  unfold addK
  split
  · rename_i h
    exact ⟨.inl, fun z => z.elim id fun e => by subst e; simpa using h⟩
  · simp
theorem putAll_mem {l : List κ} {x : κ} : x ∈ putAll l ↔ x ∈ l := by
  have : ∀ (l acc : List κ), x ∈ l.foldl addK acc ↔ x ∈ acc ∨ x ∈ l := fun l => by
    induction l with
    | nil => intro acc; simp
    | cons a l ih =>
      intro acc
      rw [List.foldl_cons, ih, addK_mem, List.mem_cons]
      constructor
      · rintro ((h | h) | h)
        · exact .inl h
        · exact .inr (.inl h)
        · exact .inr (.inr h)
      · rintro (h | h | h)
        · exact .inl (.inl h)
        · exact .inl (.inr h)
        · exact .inr h
  rw [show putAll l = l.foldl addK [] from rfl, this]
  simp
theorem addK_nd {l : List κ} {k : κ} (h : l.Nodup) : (addK l k).Nodup := by
  unfold addK
  split
  · exact h
  · rename_i q
    rw [List.nodup_append]
    refine ⟨h, by simp, fun a ha b hb e => ?_⟩
    rw [List.mem_singleton] at hb
    subst hb
    subst e
    exact q (by simpa using ha)
theorem putAll_nd (l : List κ) : (putAll l).Nodup := by
  have : ∀ (l acc : List κ), acc.Nodup → (l.foldl addK acc).Nodup := fun l => by
    induction l with
    | nil => exact fun _ h => h
    | cons a l ih => exact fun acc h => ih _ (addK_nd h)
  exact this l [] List.nodup_nil
theorem nd_len {a b : List κ} (ha : a.Nodup) (hb : b.Nodup) (h : ∀ x, x ∈ a ↔ x ∈ b) : a.length = b.length :=
  ((List.perm_ext_iff_of_nodup ha hb).mpr h).length_eq
end
end Tv
namespace Tv
open PySem PySem.Spec PyProof.Rows L2
section
variable {ρ : En} {S : SK} {wa wb wc : WE} {Φ : R → En → Prop}
def chW (o' : D → D → (R → Prop) → Prop) (wc : WE) (r2 z : R) (Φ : R → En → Prop) (ρ : En) : Prop := match z.d with
  | .bl true => wc ρ fun r3 ρ3 => o' r2.d r3.d fun r' => Φ r' ρ3
  | .bl false => Φ (.fr (.bl false)) ρ
  | _ => False
theorem e_chain {o o' : D → D → (R → Prop) → Prop} (h : wa ρ fun r ρ1 => wb ρ1 fun r2 ρ2 => o r.d r2.d fun z => chW o' wc r2 z Φ ρ2) : wChain o o' wa wb wc ρ Φ := h
theorem e_chW {o' : D → D → (R → Prop) → Prop} {r2 z : R} {k : Bool} (q : z.d = .bl k) (h : if k = true then wc ρ fun r3 ρ3 => o' r2.d r3.d fun r' => Φ r' ρ3 else Φ (.fr (.bl false)) ρ) : chW o' wc r2 z Φ ρ := by
  unfold chW
  rw [q]
  cases k
  · exact h
  · exact h
end
/-- those of the texts that a test takes -/
theorem lc_strs {k : Nat} {ρ : En} {wt : WT} {Φ : List D → En → Prop} (p : Str → Bool) (hk : k < ρ.length) (hw : ∀ d, wipeE [k] 0 (ρ.set k (.fr d)) = ρ) (ws : List Str) (hl : ws.length ≤ 16777216)
    (ht : ∀ x ∈ ws, ∀ Ψ : Bool → En → Prop, Ψ (p x) (ρ.set k (.fr (.str x))) → wt (ρ.set k (.fr (.str x))) Ψ) (h : Φ ((ws.filter p).map D.str) ρ) :
    lcD (gN k) wt (wV k) [k] Φ (ws.map D.str) [] ρ := by
  refine lcD_of D.str (fun w => if p w = true then some (.str w) else none) ws [] (fun w hw' Ψ hΨ => ?_) (by simpa using hl) ?_
  · have e1 : (ρ.set k (.fr (.str w)))[k]? = some (.fr (.str w)) := List.getElem?_set_self hk
    refine ⟨hk, ht w hw' _ ?_⟩
    by_cases c : p w = true
    · rw [if_pos c] at hΨ ⊢
      refine e_v e1 ?_
      show Ψ (some (.str w)) _
      rw [hw]
      exact hΨ
    · rw [if_neg c] at hΨ ⊢
      rw [hw]
      exact hΨ
  · rw [List.nil_append, filterMap_if]
    exact h
/-- things put in an order that is drawn -/
def MixF (F : WF) : Prop := ∀ (ds : List D) (Φ : R → Prop), ds.length ≤ 16000000 → (∀ es : List D, es.Perm ds → Φ (.ow (.lst es))) → F [.bag, .lst ds] Φ
theorem okL_strs : ∀ xs : List Str, (∀ x ∈ xs, PyData.strOk x = true) → D.goodL (xs.map D.str) = true ∧ D.depL (xs.map D.str) = 0 ∧ D.shoL (xs.map D.str) = true
  | [], _ => ⟨rfl, rfl, rfl⟩
  | x :: xs, h => by
    obtain ⟨a, b, c⟩ := okL_strs xs fun y hy => h y (List.mem_cons_of_mem _ hy)
    refine ⟨?_, ?_, ?_⟩
    · show (PyData.strOk x && D.goodL (xs.map D.str)) = true
      rw [h x List.mem_cons_self, a]
      rfl
    · show max 0 (D.depL (xs.map D.str)) = 0
      rw [b]
      rfl
    · show ((D.str x).sho && D.shoL (xs.map D.str)) = true
      rw [c]
      rfl
theorem costL_strs (n : Nat) : ∀ xs : List Str, (∀ x ∈ xs, x.length ≤ n) → D.costL (xs.map D.str) ≤ xs.length * (D.cost (.str ⟨Array.replicate n 0⟩) + 2)
  | [], _ => by show D.costL [] ≤ _; simp [D.costL]
  | x :: xs, h => by
    have a := costL_strs n xs fun y hy => h y (List.mem_cons_of_mem _ hy)
    have b := h x List.mem_cons_self
    have e : D.costL ((x :: xs).map D.str) = (D.str x).cost + 2 + D.costL (xs.map D.str) := rfl
    rw [e, List.length_cons, Nat.add_mul, Nat.one_mul]
    have c : (D.str x).cost ≤ D.cost (.str ⟨Array.replicate n 0⟩) := by
      simp only [D.cost, Str.length, Array.size_replicate] at b ⊢
      omega
    omega
end Tv
namespace Tv
open PySem PySem.Spec PyProof.Rows L2
section
variable {ρ : En} {S : SK} {i : Nat} {d : D} {r r2 r3 : R} {ws : WA} {wf : WF} {Φ : R → En → Prop}
theorem e_pb (q : ρ[i]? = some (.bo d)) (h : Φ (.bo d) ρ) : wP i ρ Φ := by unfold wP; rw [q]; exact h
def callBW (wf : WF) (rs : List R) (Φ : R → En → Prop) (ρ : En) : Prop := wf (rs.map R.d) fun r => Φ r ρ
theorem e_callB (h : ws ρ fun rs ρ' => callBW wf rs Φ ρ') : wCallB wf ws ρ Φ := h
theorem e_callBW1 (h : wf [r.d] fun r => Φ r ρ) : callBW wf [r] Φ ρ := h
theorem e_callBW2 (h : wf [r.d, r2.d] fun r => Φ r ρ) : callBW wf [r, r2] Φ ρ := h
theorem e_callBW3 (h : wf [r.d, r2.d, r3.d] fun r => Φ r ρ) : callBW wf [r, r2, r3] Φ ρ := h
end
end Tv
/-! Tv22: comprehensions of two clauses. -/
namespace Tv
open PySem PySem.Spec PyProof.Rows L2
section
variable {K : PySem.W.Frag} {G0 : Gh} {H0 : Hp} {σ : L2.St} {H : Hp} {wi wi1 : WI} {W W1 : WTg} {wt wt1 : WT} {we : WE} {vs vs1 : List Nat} {ρ : En}
theorem wipe_sub (hv : ∀ i ∈ vs1, i ∈ vs) : wipe (wipe σ vs1) vs = wipe σ vs := by
  apply List.ext_getElem?
  intro i
  by_cases hi : i ∈ vs
  · by_cases hl : i < σ.length
    · rw [wipe_get hi (by rw [wipe_length]; exact hl), wipe_get hi hl]
    · rw [List.getElem?_eq_none (by rw [wipe_length, wipe_length]; omega), List.getElem?_eq_none (by rw [wipe_length]; omega)]
  · rw [wipe_out hi, wipe_out hi, wipe_out fun z => hi (hv i z)]
theorem wipeE_sub (hv : ∀ i ∈ vs1, i ∈ vs) : wipeE vs 0 (wipeE vs1 0 ρ) = wipeE vs 0 ρ := by
  apply List.ext_getElem?
  intro j
  rw [wipeE_get, wipeE_get, wipeE_get]
  cases ρ[j]? with
  | none => rfl
  | some c =>
    simp only [Option.map_some, Nat.zero_add, Option.some.injEq]
    by_cases hj : j ∈ vs
    · rw [if_pos (List.contains_iff_mem.mpr hj), if_pos (List.contains_iff_mem.mpr hj)]
    · rw [if_neg (fun z => hj (List.contains_iff_mem.mp z)), if_neg (fun z => hj (List.contains_iff_mem.mp z)), if_neg (fun z => hj (hv j (List.contains_iff_mem.mp z)))]
/-- the outer clause's turns -/
def lcO (W : WTg) (wt : WT) (wi1 : WI) (W1 : WTg) (wt1 : WT) (we : WE) (vs vs1 : List Nat) (Φ : List D → En → Prop) : List D → List D → En → Prop
  | [], acc, ρ => Φ acc ρ
  | d :: ds, acc, ρ => W d ρ fun ρ1 => wt ρ1 fun b ρ2 => if b = true then wi1 ρ2 fun ds1 ρ3 => lcD W1 wt1 we vs1 (fun acc' ρ4 => lcO W wt wi1 W1 wt1 we vs vs1 Φ ds acc' (wipeE vs 0 ρ4)) ds1 acc (wipeE vs1 0 ρ3)
    else lcO W wt wi1 W1 wt1 we vs vs1 Φ ds acc (wipeE vs 0 ρ2)
def wLc2 (wi : WI) (W : WTg) (wt : WT) (wi1 : WI) (W1 : WTg) (wt1 : WT) (we : WE) (vs vs1 : List Nat) : WE := fun ρ Φ => wi ρ fun ds ρ1 => lcO W wt wi1 W1 wt1 we vs vs1 (fun out ρe => Φ (.ow (.lst out)) (mixE vs 0 ρ1 ρe)) ds [] (wipeE vs 0 ρ1)
theorem tlc2_of {Q : VK} (hv : ∀ i ∈ vs1, i ∈ vs) (h : TX K G0 H0 (wLc2 wi W wt wi1 W1 wt1 we vs vs1) σ H Q) : tLc2 (TIX K G0 H0 wi) (TGX K G0 H0 vs W) (TTX K G0 H0 wt) (TIX K G0 H0 wi1) (TGX K G0 H0 vs1 W1) (TTX K G0 H0 wt1) (TX K G0 H0 we) vs vs1 σ H Q := by
  obtain ⟨ρ, G, Φ, S, h, c⟩ := h
  refine ⟨ρ, G, _, S, h, fun ds ρ1 J G1 H1 q s1 P L it p hp => ?_⟩
  have hown : ¬ OwnA ρ1 σ p := fun z => by
    obtain ⟨o, e⟩ := s1.tracked z
    rw [hp] at e; cases e
  have g0 : Grow G1 H1 G1 (upd H1 p (.lst [])) := Grow.laid hp
  have s2 := s1.grow (s1.wd.laid (o := .lst []) hp) g0
  have m0 : Mk K p [] G1 (upd H1 p (.lst [])) [] := by
    refine ⟨upd_same, .nil, fun z => ?_, fun z => ?_⟩
    · obtain ⟨o, e⟩ := s1.wd.f p z
      rw [hp] at e; cases e
    · obtain ⟨ys, e⟩ := s1.wd.bagl z
      rw [hp] at e; cases e
  have h0 : H0 p = none := s1.none0 hp
  refine ⟨fun i m H' => m = ds.length - i ∧ i ≤ ds.length ∧ ∃ ρ' G' acc xs, Sta K G0 H0 ρ' G' H' (wipe σ vs) ∧ Stp (wipeE vs 0 ρ1) (wipe σ vs) G1 H1 G' H' ∧ LeE ρ' (wipeE vs 0 ρ1) ∧ Mk K p acc G' H' xs ∧
    lcO W wt wi1 W1 wt1 we vs vs1 (fun out ρe => Φ (.ow (.lst out)) (mixE vs 0 ρ1 ρe)) (ds.drop i) acc ρ', ⟨ds.length, by omega, Nat.zero_le _, wipeE vs 0 ρ1, G1, [], [], s2.wiped, g0.stp, LeE.refl _, m0, q⟩, ?_⟩
  rintro i m H' ⟨rfl, hi, ρ', G', acc, xs, s', P', L', mk, q'⟩
  obtain ⟨it1, it2⟩ := it i G' H' s'.wd (P'.fe s1.wd)
  have own' : ∀ a, OwnA ρ' (wipe σ vs) a → OwnA (wipeE vs 0 ρ1) (wipe σ vs) a := fun a z => L'.own z
  by_cases hlt : i < ds.length
  · obtain ⟨d, ed⟩ : ∃ d, ds[i]? = some d := ⟨ds[i], by simp [hlt]⟩
    obtain ⟨go, yl⟩ := it2 d ed
    have e2 : ds.drop i = d :: ds.drop (i + 1) := by
      rw [List.drop_eq_getElem_cons hlt]
      have : ds[i] = d := by simpa [hlt] using ed
      rw [this]
    rw [e2] at q'
    refine .inr ⟨go, fun H2 => i + 1 ≤ ds.length ∧ ∃ ρ2 G2 acc2 xs2, Sta K G0 H0 ρ2 G2 H2 (wipe σ vs) ∧ Stp (wipeE vs 0 ρ1) (wipe σ vs) G1 H1 G2 H2 ∧ LeE ρ2 (wipeE vs 0 ρ1) ∧ Mk K p acc2 G2 H2 xs2 ∧
      lcO W wt wi1 W1 wt1 we vs vs1 (fun out ρe => Φ (.ow (.lst out)) (mixE vs 0 ρ1 ρe)) (ds.drop (i + 1)) acc2 ρ2, fun H2 z => ⟨ds.length - (i + 1), by omega, rfl, z⟩, fun x H2 y => ?_⟩
    obtain ⟨G2, w2, g2, r2⟩ := yl x H2 y
    have P2 : Stp (wipeE vs 0 ρ1) (wipe σ vs) G1 H1 G2 H2 := P'.trans s'.wd g2.stp (LeE.refl _)
    have nop : ¬ OwnA ρ' (wipe σ vs) p := fun z => hown (own' p z).wiped
    have mk2 : Mk K p acc G2 H2 xs := mk.stp s'.wd (ρ := ρ') (σ := wipe σ vs) g2.stp nop
    refine ⟨ρ', G2, d, _, s'.grow w2 g2, r2, q', fun ρ3 σ3 q3 s3 tr => ⟨tr.w.trans wipe_idem, ρ3, G2, _, s3, q3, fun b ρ4 G4 H4 q4 s4 P4 L4 => ?_⟩⟩
    have own3 : ∀ a, OwnA ρ3 σ3 a → OwnA (wipeE vs 0 ρ1) (wipe σ vs) a := fun a z => own' a (tr.o a z)
    have nop3 : ¬ OwnA ρ3 σ3 p := fun z => hown (own3 p z).wiped
    have mk4 := mk2.stp s3.wd P4 nop3
    have P14 := P2.tr s3.wd P4 own3
    have le3 : LeE (wipeE vs 0 ρ3) (wipeE vs 0 ρ1) := by
      have z := L'.wipe (vs := vs)
      rw [wipeE_idem] at z
      rw [tr.e]; exact z
    have w3 : wipe σ3 vs = wipe σ vs := tr.w.trans wipe_idem
    cases b with
    | false =>
      refine iteF ⟨hlt, wipeE vs 0 ρ4, G4, acc, xs, ?_, P14, (L4.wipe).trans le3, mk4, by simpa using q4⟩
      have z := s4.wiped (vs := vs)
      rw [w3] at z
      exact z
    | true =>
      refine iteT ⟨ρ4, G4, _, s4, by simpa using q4, fun ds1 ρ5 J1 G5 H5 q5 s5 P5 L5 it5 => ?_⟩
      have nop4 : ¬ OwnA ρ4 σ3 p := fun z => nop3 (L4.own z)
      have mk5 := mk4.stp s4.wd P5 nop4
      have own5 : ∀ a, OwnA ρ5 σ3 a → OwnA (wipeE vs 0 ρ1) (wipe σ vs) a := fun a z => own3 a (L4.own (L5.own z))
      have P15 := P14.tr s4.wd P5 fun a z => own3 a (L4.own z)
      have le5 : LeE (wipeE vs 0 ρ5) (wipeE vs 0 ρ1) := (L5.wipe).trans ((L4.wipe).trans le3)
      refine ⟨fun j k H6 => k = ds1.length - j ∧ j ≤ ds1.length ∧ ∃ ρ6 G6 acc6 xs6, Sta K G0 H0 ρ6 G6 H6 (wipe σ3 vs1) ∧ Stp (wipeE vs 0 ρ1) (wipe σ vs) G1 H1 G6 H6 ∧ FE G5 H5 G6 H6 ∧ LeE ρ6 (wipeE vs1 0 ρ5) ∧ Mk K p acc6 G6 H6 xs6 ∧
        lcD W1 wt1 we vs1 (fun acc' ρ4 => lcO W wt wi1 W1 wt1 we vs vs1 (fun out ρe => Φ (.ow (.lst out)) (mixE vs 0 ρ1 ρe)) (ds.drop (i + 1)) acc' (wipeE vs 0 ρ4)) (ds1.drop j) acc6 ρ6,
        ⟨ds1.length, by omega, Nat.zero_le _, wipeE vs1 0 ρ5, G5, acc, xs, s5.wiped, P15, FE.refl _ _, LeE.refl _, mk5, q5⟩, ?_⟩
      rintro j k H6 ⟨rfl, hj, ρ6, G6, acc6, xs6, s6, P6, F6, L6, mk6, q6⟩
      obtain ⟨jt1, jt2⟩ := it5 j G6 H6 s6.wd F6
      have own6 : ∀ a, OwnA ρ6 (wipe σ3 vs1) a → OwnA (wipeE vs 0 ρ1) (wipe σ vs) a := fun a z => own5 a (L6.own z).wiped
      have nop6 : ¬ OwnA ρ6 (wipe σ3 vs1) p := fun z => hown (own6 p z).wiped
      by_cases hlj : j < ds1.length
      · obtain ⟨d1, ed1⟩ : ∃ d, ds1[j]? = some d := ⟨ds1[j], by simp [hlj]⟩
        obtain ⟨go1, yl1⟩ := jt2 d1 ed1
        have e3 : ds1.drop j = d1 :: ds1.drop (j + 1) := by
          rw [List.drop_eq_getElem_cons hlj]
          have : ds1[j] = d1 := by simpa [hlj] using ed1
          rw [this]
        rw [e3] at q6
        refine .inr ⟨go1, fun H7 => j + 1 ≤ ds1.length ∧ ∃ ρ7 G7 acc7 xs7, Sta K G0 H0 ρ7 G7 H7 (wipe σ3 vs1) ∧ Stp (wipeE vs 0 ρ1) (wipe σ vs) G1 H1 G7 H7 ∧ FE G5 H5 G7 H7 ∧ LeE ρ7 (wipeE vs1 0 ρ5) ∧ Mk K p acc7 G7 H7 xs7 ∧
          lcD W1 wt1 we vs1 (fun acc' ρ4 => lcO W wt wi1 W1 wt1 we vs vs1 (fun out ρe => Φ (.ow (.lst out)) (mixE vs 0 ρ1 ρe)) (ds.drop (i + 1)) acc' (wipeE vs 0 ρ4)) (ds1.drop (j + 1)) acc7 ρ7, fun H7 z => ⟨ds1.length - (j + 1), by omega, rfl, z⟩, fun x7 H7 y7 => ?_⟩
        obtain ⟨G7, w7, g7, r7⟩ := yl1 x7 H7 y7
        have P7 : Stp (wipeE vs 0 ρ1) (wipe σ vs) G1 H1 G7 H7 := P6.trans s6.wd g7.stp (LeE.refl _)
        have F7 := F6.trans (g7.fe s6.wd)
        have mk7 : Mk K p acc6 G7 H7 xs6 := mk6.stp s6.wd (ρ := ρ6) (σ := wipe σ3 vs1) g7.stp nop6
        refine ⟨ρ6, G7, d1, _, s6.grow w7 g7, r7, q6, fun ρ8 σ8 q8 s8 tr8 => ⟨tr8.w.trans wipe_idem, ρ8, G7, _, s8, q8, fun b1 ρ9 G9 H9 q9 s9 P9 L9 => ?_⟩⟩
        have own8 : ∀ a, OwnA ρ8 σ8 a → OwnA (wipeE vs 0 ρ1) (wipe σ vs) a := fun a z => own6 a (tr8.o a z)
        have nop8 : ¬ OwnA ρ8 σ8 p := fun z => hown (own8 p z).wiped
        have mk9 := mk7.stp s8.wd P9 nop8
        have P19 := P7.tr s8.wd P9 own8
        have F9 := F7.trans (P9.fe s8.wd)
        have le8 : LeE (wipeE vs1 0 ρ8) (wipeE vs1 0 ρ5) := by
          have z := L6.wipe (vs := vs1)
          rw [wipeE_idem] at z
          rw [tr8.e]; exact z
        have w8 : wipe σ8 vs1 = wipe σ3 vs1 := tr8.w.trans wipe_idem
        cases b1 with
        | false =>
          refine iteF ⟨hlj, wipeE vs1 0 ρ9, G9, acc6, xs6, ?_, P19, F9, (L9.wipe).trans le8, mk9, by simpa using q9⟩
          have z := s9.wiped (vs := vs1)
          rw [w8] at z
          exact z
        | true =>
          refine iteT ⟨ρ9, G9, _, s9, by simpa using q9, fun r ρa ya Ga Ha qa sa Pa La xa => ?_⟩
          have nop9 : ¬ OwnA ρ9 σ8 p := fun z => nop8 (L9.own z)
          have nopa : ¬ OwnA ρa σ8 p := fun z => nop9 (La.own z)
          have mka := mk9.stp s9.wd Pa nop9
          have P1a := P19.tr s9.wd Pa fun a z => own8 a (L9.own z)
          have Fa := F9.trans (Pa.fe s9.wd)
          cases r with
          | fr yd =>
            have xa' : Rep K Ga Ha yd ya := xa
            have hlen : xs6.length < sizeLine := by rw [← mka.r.length]; exact qa.1
            have fw : FE Ga Ha Ga (upd Ha p (.lst (xs6 ++ [ya]))) := FE.wr mka.at_ mka.f
            refine ⟨xs6, mka.at_, hlen, hlj, wipeE vs1 0 ρa, Ga, acc6 ++ [yd], xs6 ++ [ya], ?_, ?_, Fa.trans fw, (La.wipe).trans ((L9.wipe).trans le8), ?_, qa.2⟩
            · have z := (sa.wrP (o := .lst (xs6 ++ [ya])) mka.at_ mka.f mka.b h0 nopa).wiped (vs := vs1)
              rw [w8] at z
              exact z
            · exact ⟨P1a.f, P1a.b, fun a o e hb => by rw [upd_ne (fun z => by rw [z, hp] at e; cases e)]; exact P1a.k a o e hb, P1a.nf, P1a.nb⟩
            · exact ⟨upd_same, (mka.r.append (.cons xa' .nil)).fe fw, mka.f, mka.b⟩
          | ow yd => exact qa.elim
          | bo yd => exact qa.elim
      · have e : j = ds1.length := by omega
        subst e
        rw [List.drop_length] at q6
        refine .inl ⟨jt1 (Nat.le_refl _), hlt, wipeE vs 0 ρ6, G6, acc6, xs6, ?_, P6, ?_, mk6, q6⟩
        · have z := s6.wiped (vs := vs)
          rw [wipe_sub hv, w3] at z
          exact z
        · have z := L6.wipe (vs := vs)
          rw [wipeE_sub hv] at z
          exact z.trans le5
  · have e : i = ds.length := by omega
    subst e
    rw [List.drop_length] at q'
    refine .inl ⟨it1 (Nat.le_refl _), ?_⟩
    have P1' : Stp ρ1 σ G1 H1 G' H' := ⟨P'.f, P'.b, P'.k, fun a z => (P'.nf a z).elim .inl fun z => .inr (z.elim .inl fun z => .inr z.wiped), P'.nb⟩
    exact c _ _ _ G' H' q' (s1.mix s' (P'.fe s1.wd)) (P.trans s1.wd P1' L) ((L'.mix).trans L) ⟨p, rfl, ⟨mk.f, mk.b, xs, mk.at_, mk.r⟩, P.nn s1.wd hp⟩
end
section
variable {X : Cx} {G0 : Gh} {H0 : Hp} {wi wi1 : WI} {W W1 : WTg} {wt wt1 : WT} {we : WE} {vs1 : List Nat} {elt tg iter tg1 iter1 : Expr} {ifs ifs1 : List Expr} {scope : Scope} {own : List (Str × Nat)} {pos : Pos}
theorem i_lc2 (hc : X.calm = true) (hN : X.N.Nodup) (hi : PII X G0 H0 tg iter wi) (ok : BlkOk X.N X.env.scope scope own) (hv : ∀ i ∈ vs1, i ∈ own.map (·.2))
    (hg : ∀ (s : Shared) (H : Hp) (C : Addr) (cl : List (Str × Addr)) (fp : List Addr), PGI (X.blk s H scope (compEnvC scope cl C X.env) fp) G0 H0 (own.map (·.2)) tg W) (ht : ∀ (s : Shared) (H : Hp) (C : Addr) (cl : List (Str × Addr)) (fp : List Addr), PTsI (X.blk s H scope (compEnvC scope cl C X.env) fp) G0 H0 ifs wt)
    (hi1 : ∀ (s : Shared) (H : Hp) (C : Addr) (cl : List (Str × Addr)) (fp : List Addr), PII (X.blk s H scope (compEnvC scope cl C X.env) fp) G0 H0 tg1 iter1 wi1)
    (hg1 : ∀ (s : Shared) (H : Hp) (C : Addr) (cl : List (Str × Addr)) (fp : List Addr), PGI (X.blk s H scope (compEnvC scope cl C X.env) fp) G0 H0 vs1 tg1 W1) (ht1 : ∀ (s : Shared) (H : Hp) (C : Addr) (cl : List (Str × Addr)) (fp : List Addr), PTsI (X.blk s H scope (compEnvC scope cl C X.env) fp) G0 H0 ifs1 wt1)
    (he : ∀ (s : Shared) (H : Hp) (C : Addr) (cl : List (Str × Addr)) (fp : List Addr), PEI (X.blk s H scope (compEnvC scope cl C X.env) fp) G0 H0 elt we) (hs : ∀ x, foldedSetIterable iter X.env x = pure x := by intro _; rfl) (hs1 : ∀ env x, foldedSetIterable iter1 env x = pure x := by intro _ _; rfl) :
    PEI X G0 H0 (.ListComp elt [⟨tg, iter, ifs, 0⟩, ⟨tg1, iter1, ifs1, 0⟩] scope pos) (wLc2 wi W wt wi1 W1 wt1 we (own.map (·.2)) vs1) :=
  pe_imp (pe_lc2 (wi1 := TIX X.K G0 H0 wi1) (g := TGX X.K G0 H0 (own.map fun p : Str × Nat => p.2) W) (tt := TTX X.K G0 H0 wt) (te := TX X.K G0 H0 we) (g1 := TGX X.K G0 H0 vs1 W1) (tt1 := TTX X.K G0 H0 wt1) hc hN hi ok hv hg ht hi1 hg1 ht1 he hs hs1) fun σ H Q h => tlc2_of hv h
theorem s_setLc2 {i : Nat} {y : Str} {py spos : Pos} (hc : X.calm = true) (hN : X.N.Nodup) (hy : X.N[i]? = some y) (hyl : X.env.scope.names.lookup y = some .local)
    (hsw : swapsWith (.ListComp elt [⟨tg, iter, ifs, 0⟩, ⟨tg1, iter1, ifs1, 0⟩] scope pos) (some (.Name y py)) spos.line X.env = pure true) (hi : PII X G0 H0 tg iter wi) (ok : BlkOk X.N X.env.scope scope own) (hv : ∀ i ∈ vs1, i ∈ own.map (·.2))
    (hg : ∀ (s : Shared) (H : Hp) (C : Addr) (cl : List (Str × Addr)) (fp : List Addr), PGI (X.blk s H scope (compEnvC scope cl C X.env) fp) G0 H0 (own.map (·.2)) tg W) (ht : ∀ (s : Shared) (H : Hp) (C : Addr) (cl : List (Str × Addr)) (fp : List Addr), PTsI (X.blk s H scope (compEnvC scope cl C X.env) fp) G0 H0 ifs wt)
    (hi1 : ∀ (s : Shared) (H : Hp) (C : Addr) (cl : List (Str × Addr)) (fp : List Addr), PII (X.blk s H scope (compEnvC scope cl C X.env) fp) G0 H0 tg1 iter1 wi1)
    (hg1 : ∀ (s : Shared) (H : Hp) (C : Addr) (cl : List (Str × Addr)) (fp : List Addr), PGI (X.blk s H scope (compEnvC scope cl C X.env) fp) G0 H0 vs1 tg1 W1) (ht1 : ∀ (s : Shared) (H : Hp) (C : Addr) (cl : List (Str × Addr)) (fp : List Addr), PTsI (X.blk s H scope (compEnvC scope cl C X.env) fp) G0 H0 ifs1 wt1)
    (he : ∀ (s : Shared) (H : Hp) (C : Addr) (cl : List (Str × Addr)) (fp : List Addr), PEI (X.blk s H scope (compEnvC scope cl C X.env) fp) G0 H0 elt we) (hs : ∀ x, foldedSetIterable iter X.env x = pure x := by intro _; rfl) (hs1 : ∀ env x, foldedSetIterable iter1 env x = pure x := by intro _ _; rfl) :
    PSI X G0 H0 (.Assign [.Name y py] (.ListComp elt [⟨tg, iter, ifs, 0⟩, ⟨tg1, iter1, ifs1, 0⟩] scope pos) spos) (sSet i (wLc2 wi W wt wi1 W1 wt1 we (own.map (·.2)) vs1)) := by
  refine ps_imp (ps_setLc2 (wi1 := TIX X.K G0 H0 wi1) (g := TGX X.K G0 H0 (own.map fun p : Str × Nat => p.2) W) (tt := TTX X.K G0 H0 wt) (te := TX X.K G0 H0 we) (g1 := TGX X.K G0 H0 vs1 W1) (tt1 := TTX X.K G0 H0 wt1) hc hN hy hyl hsw hi ok hv hg ht hi1 hg1 ht1 he hs hs1) fun D σ H h => ?_
  obtain ⟨ρ, G, S, s, h, k⟩ := h
  refine tlc2_of hv (Q := fun x H1 => D.nx (σ.set i (some x)) H1) ⟨ρ, G, _, s, h, fun r ρ' v G' H' q s' P L x => k.nx _ G' H' _ q.2.2 (s'.put s L q.1 x q.2.1) (P.fe s.wd)⟩
end
end Tv
/-! Tv23: dicts of the text, list(range(..)), xs[::-1], a display with an index. -/
namespace Tv
open PySem PySem.Spec PyProof.Rows L2

/-- the rows of a dict of the text: keys that are texts -/
def wrE (K : PySem.W.Frag) (n : Nat) : List DictEntry → Option (List (Str × D))
  | [] => some []
  | e :: r => match e.key, wrD K n e.val, wrE K n r with
    | .str x _, some d, some ds => some ((x, d) :: ds)
    | _, _, _ => none
def wrK (K : PySem.W.Frag) (n : Nat) (a : Addr) : Option (List (Str × D)) := match K.lookup a with
  | some o => (match o.data with
    | .dict es _ => wrE K n es.toList
    | _ => none)
  | none => none
/-- a dict that the text has written -/
def KCon (K : PySem.W.Frag) (w : World) (a : Addr) (c : List (Str × D)) : Prop :=
  ∃ es n, K.lookup a = some ⟨.type "dict", none, .dict es n, #[]⟩ ∧ PySem.W.KeysLit w.params es.toList ∧ (a == sysModules) = false ∧ wrE K 9 es.toList = some c ∧ (c.map (·.1)).Nodup ∧ c.length ≤ 4096
theorem kcon_of {K : PySem.W.Frag} {w : World} {a : Addr} {c : List (Str × D)} {ks : List Str} (h : He.dicW K a = some (He.keysIn w.params ks)) (hr : wrK K 9 a = some c) (hn : (c.map (·.1)).Nodup) (hl : c.length ≤ 4096) : KCon K w a c := by
  obtain ⟨es, n, q⟩ := He.dicW_ok h
  unfold wrK at hr
  rw [q.at_] at hr
  exact ⟨es, n, q.at_, q.lit, q.low, hr, hn, hl⟩
theorem wrE_rep {K : PySem.W.Frag} {n : Nat} {w : World} : ∀ {l : List DictEntry} {c : List (Str × D)}, wrE K n l = some c → ∃ vs : List (Str × Value), Paired (fun (p : Str × D) (q : Str × Value) => p.1 = q.1 ∧ ∃ x, RelV x q.2 ∧ ∀ G H, Rep K G H p.2 x) c vs ∧
    ∀ {P : Program}, Pairs (strKind P w) l vs
  | [], c, e => by
    have : some [] = some c := e
    cases this
    exact ⟨[], .nil, .nil⟩
  | en :: l, c, e => by
    unfold wrE at e
    split at e
    · rename_i x t d ds k1 k2 k3
      cases e
      obtain ⟨vs, h1, h2⟩ := wrE_rep (w := w) k3
      obtain ⟨v, r, rp⟩ := wrD_rep k2
      exact ⟨(x, en.val) :: vs, .cons ⟨rfl, v, r, rp⟩ h1, .cons (by rw [k1]; exact strKind_is _ w x t) rfl h2⟩
    · cases e
theorem paired_keys {K : PySem.W.Frag} : ∀ {c : List (Str × D)} {vs : List (Str × Value)}, Paired (fun (p : Str × D) (q : Str × Value) => p.1 = q.1 ∧ ∃ x, RelV x q.2 ∧ ∀ G H, Rep K G H p.2 x) c vs → c.map (·.1) = vs.map (·.1)
  | _, _, .nil => rfl
  | _, _, .cons h t => by rw [List.map_cons, List.map_cons, paired_keys t, h.1]
theorem paired_val {K : PySem.W.Frag} (z : Str) : ∀ {c : List (Str × D)} {vs : List (Str × Value)}, Paired (fun (p : Str × D) (q : Str × Value) => p.1 = q.1 ∧ ∃ x, RelV x q.2 ∧ ∀ G H, Rep K G H p.2 x) c vs →
    (c.lookup z = none ∧ valueAt vs z = none) ∨ ∃ d u x, c.lookup z = some d ∧ valueAt vs z = some u ∧ RelV x u ∧ ∀ G H, Rep K G H d x
  | _, _, .nil => .inl ⟨rfl, rfl⟩
  | _, _, .cons (a := p) (b := q) (l₁ := c) (l₂ := vs) h t => by
    obtain ⟨h1, x, h2, h3⟩ := h
    obtain ⟨k, d⟩ := p
    obtain ⟨k', u⟩ := q
    cases h1
    by_cases e : k = z
    · subst e
      refine .inr ⟨d, u, x, ?_, ?_, h2, h3⟩
      · simp [List.lookup_cons]
      · unfold valueAt
        rw [List.find?_cons_of_pos (by simp)]
        rfl
    · have e1 : ((k, d) :: c).lookup z = c.lookup z := by
        rw [List.lookup_cons]
        rw [show (z == k) = false by simpa using fun q => e q.symm]
      have e2 : valueAt ((k, u) :: vs) z = valueAt vs z := by
        unfold valueAt
        rw [List.find?_cons_of_neg (by simpa using e)]
      rw [e1, e2]
      exact paired_val z t
section
variable {X : Cx} {pins : List (Addr × Obj)} {σ : L2.St} {H : Hp} {s : Shared} {a : Addr} {c : List (Str × D)}
theorem KCon.at (k : KCon X.K X.w a c) (I : L2.Inv X pins σ H s) : ∃ (o : Obj) (es : Array DictEntry) (n : Nat) (vs : List (Str × Value)), (a == sysModules) = false ∧ s.heap.get? a = some o ∧ o.ExactDict ∧ o.data = .dict es n ∧ es.size = c.length ∧
    Paired (fun (p : Str × D) (q : Str × Value) => p.1 = q.1 ∧ ∃ x, RelV x q.2 ∧ ∀ G H, Rep X.K G H p.2 x) c vs ∧ s.heap.DictAt (strKind X.prog X.w) a vs n := by
  obtain ⟨es, n, h1, h2, h3, h4, h5, _⟩ := k
  obtain ⟨vs, p1, p2⟩ := wrE_rep (w := X.w) h4
  have hg := I.kIn a _ h1
  have p3 : Pairs (strKind X.prog X.w) es.toList vs := p2
  refine ⟨_, es, n, vs, h3, hg, ⟨rfl, rfl, rfl⟩, rfl, ?_, p1, _, es, hg, ⟨rfl, rfl, rfl⟩, rfl, fun e he => ?_, p3, by rw [← paired_keys p1]; exact h5⟩
  · have l1 := p3.length
    have l2 : c.length = vs.length := Paired.length p1
    rw [Array.length_toList] at l1
    omega
  · obtain ⟨x, t, e1, e2⟩ := h2.all e (Array.mem_toList_iff.mpr he)
    exact ⟨x, by rw [e1]; exact strKind_is X.prog X.w x t, e2⟩
def rKIx (K : PySem.W.Frag) (a : Addr) (c : List (Str × D)) : R2 := fun x y H Q => x = .ref a ∧ ∃ z d, y = .str z ∧ c.lookup z = some d ∧ ∀ v, (∀ G H, Rep K G H d v) → Q v H
theorem ix_kcon (k : KCon X.K X.w a c) : IxR X (rKIx X.K a c) := by
  intro value slice pins s σ H x y v u Q I rx ry h hs
  obtain ⟨rfl, z, d, rfl, hl, q⟩ := h
  obtain rfl : v = Value.ref a := rx
  obtain ⟨t, rfl⟩ := ry
  obtain ⟨o, es, n, vs, lo, hg, ex, hd, hz, pr, at_⟩ := k.at I
  have hm := at_.dictOf.mapOf
  rcases paired_val z pr with ⟨e1, _⟩ | ⟨d', w', x', e1, e2, r, rp⟩
  · rw [e1] at hl; cases hl
  · rw [e1] at hl
    cases hl
    exact tail_any hm.typeIs slot_dict_getitem.lookup (wpAny_getItem_of (strKind_is X.prog X.w z t) hm e2 ⟨x', H, I.tok _, r, q x' rp⟩) hs
def rKIn (a : Addr) (c : List (Str × D)) (neg : Bool) : R2 := fun x y H Q => y = .ref a ∧ ∃ z, x = .str z ∧ Q (.bl (if neg then !(c.lookup z).isSome else (c.lookup z).isSome)) H
theorem some_eq (k : Paired (fun (p : Str × D) (q : Str × Value) => p.1 = q.1 ∧ ∃ x, RelV x q.2 ∧ ∀ G H, Rep X.K G H p.2 x) c vs) (z : Str) : (valueAt vs z).isSome = (c.lookup z).isSome := by
  rcases paired_val z k with ⟨e1, e2⟩ | ⟨d', w', x', e1, e2, r, rp⟩
  · rw [e1, e2]; rfl
  · rw [e1, e2]; rfl
theorem op_kin (k : KCon X.K X.w a c) : OpR X (compareOp .In) (rKIn a c false) := by
  intro pins s σ H x y v u Q I rx ry h
  obtain ⟨rfl, z, rfl, q⟩ := h
  obtain rfl : u = Value.ref a := ry
  obtain ⟨t, rfl⟩ := rx
  obtain ⟨o, es, n, vs, lo, hg, ex, hd, hz, pr, at_⟩ := k.at I
  refine wpAny_in_of (strKind_is X.prog X.w z t) lo at_.dictOf.mapOf ⟨.bl _, H, I.tok _, rfl, ?_⟩
  rw [some_eq pr]
  exact q
theorem op_knotIn (k : KCon X.K X.w a c) : OpR X (compareOp .NotIn) (rKIn a c true) := by
  intro pins s σ H x y v u Q I rx ry h
  obtain ⟨rfl, z, rfl, q⟩ := h
  obtain rfl : u = Value.ref a := ry
  obtain ⟨t, rfl⟩ := rx
  obtain ⟨o, es, n, vs, lo, hg, ex, hd, hz, pr, at_⟩ := k.at I
  refine wpAny_notIn_of (strKind_is X.prog X.w z t) lo at_.dictOf.mapOf ⟨.bl _, H, I.tok _, rfl, ?_⟩
  rw [some_eq pr]
  exact q
/-- its keys are walked -/
def ItK (c : List (Str × D)) : It := ⟨fun i _ => i < c.length, fun i H x H' => H' = H ∧ ∃ p, c[i]? = some p ∧ x = .str p.1, fun i _ => c.length ≤ i⟩
theorem pairk_at {K : PySem.W.Frag} : ∀ {c : List (Str × D)} {vs : List (Str × Value)} {i : Nat} {p : Str × D}, Paired (fun (p : Str × D) (q : Str × Value) => p.1 = q.1 ∧ ∃ x, RelV x q.2 ∧ ∀ G H, Rep K G H p.2 x) c vs → c[i]? = some p → ∃ u, vs[i]? = some (p.1, u)
  | _, _, _, _, .nil, e => by simp at e
  | _, _, 0, _, .cons (b := q) h _, e => by
    simp at e; subst e
    exact ⟨q.2, by simp [h.1]⟩
  | _, _, i + 1, _, .cons _ t, e => by
    obtain ⟨u, h⟩ := pairk_at (i := i) t (by simpa using e)
    exact ⟨u, by simpa using h⟩
theorem turn_kcon {P : Program} {w : World} {K : PySem.W.Frag} {tg : Expr} (k : KCon K w a c) (it : Addr) {es : Array DictEntry} {n : Nat} (he : ∃ o, K.lookup a = some o ∧ o.data = .dict es n) : Turn P w K tg (ItK c) [it] it (fun i h => h.IsKeyIter it a i c.length n) where
  mem := by simp
  obj := fun i h st b hb => by
    have e : b = it := by simpa using hb
    subst e
    obtain ⟨oi, e, c, dd⟩ := st
    exact ⟨oi, e, fun v z => by rw [dd] at z; cases z⟩
  keep := fun i h h' st k => st.at fun oi e => k it (by simp) oi e
  item := by
    intro X hP hw hK hc i pins s σ H E I hf st hi
    subst hP hw hK
    obtain ⟨f0, f1, f2, f3, f4, f5⟩ := hf it (by simp)
    obtain ⟨o, es', n', vs, lo, hgd, ex, hdt, hsz, pr, hm⟩ := k.at I
    obtain ⟨o', ho', hd'⟩ := he
    have := I.kIn a _ ho'
    rw [hgd] at this
    cases this
    obtain ⟨rfl, rfl⟩ := dict_ep hd' hdt
    have hi' : i < c.length := hi
    obtain ⟨p, hp⟩ : ∃ p, c[i]? = some p := ⟨c[i], List.getElem?_eq_getElem hi'⟩
    obtain ⟨u, hu⟩ := pairk_at pr hp
    have hl : c.length = vs.length := Paired.length pr
    rw [hl] at st
    refine wpAny_pyNext_dict_item st hm hu fun key h' hkey st' sb => ?_
    have I1 : L2.Inv X pins σ H { s with heap := h' } := I.turned (t' := s.toks) (fun b ob hb e => (sb.2 b hb).trans e) f0 f1 f3 f4 f5
    obtain ⟨oi, e, cc, dd⟩ := id st'
    refine ⟨key, rfl, go_of (s := { s with heap := h' }) e cc dd (by decide) ⟨.str p.1, H, I1, ?_, ⟨rfl, p, hp, rfl⟩, ?_, fun b hb => (hf b hb).1⟩⟩
    · exact Value.isStrOf_shape hkey
    · show h'.IsKeyIter it a (i + 1) c.length _
      rw [hl]
      exact st'
  done := by
    intro X hP hw hK hc i pins s σ H E I hf st hi
    subst hP hw hK
    obtain ⟨f0, f1, f2, f3, f4, f5⟩ := hf it (by simp)
    obtain ⟨o, es', n', vs, lo, hgd, ex, hdt, hsz, pr, hm⟩ := k.at I
    obtain ⟨o', ho', hd'⟩ := he
    have := I.kIn a _ ho'
    rw [hgd] at this
    cases this
    obtain ⟨rfl, rfl⟩ := dict_ep hd' hdt
    exact next_key_end (I.ok.hd hc) st hgd hdt hsz hi fun h' eb => ⟨rfl, I.turned (t' := s.toks) (fun b ob hb e => eb b ob hb e) f0 f1 f3 f4 f5⟩
  self := fun A i s Q E st h => wpAny_pyIter_keyiter st h
end
section
variable {X : Cx} {G0 : Gh} {H0 : Hp} {wa : WE} {ws : WA} {pos p p2 : Pos} {a : Addr} {c : List (Str × D)} {x : Str} {e tg : Expr}
def ksD (c : List (Str × D)) : List D := c.map fun p => .str p.1
theorem itr_kcon {K : PySem.W.Frag} {G : Gh} {H : Hp} : ItR K (ItK c) G H (ksD c) := fun i G' H' w f => by
  refine ⟨fun h => by unfold ksD at h; rw [List.length_map] at h; exact h, fun d e => ?_⟩
  unfold ksD at e
  rw [List.getElem?_map] at e
  cases q : c[i]? with
  | none => rw [q] at e; cases e
  | some r =>
    rw [q] at e
    cases e
    refine ⟨(List.getElem?_eq_some_iff.mp q).1, fun v H'' y => ⟨G', by rw [y.1]; exact w, by rw [y.1]; exact Grow.refl _ _, ?_⟩⟩
    obtain ⟨p', hp', rfl⟩ := y.2
    rw [q] at hp'
    cases hp'
    rw [y.1]
    exact .str _
def wKeys (c : List (Str × D)) : WI := fun ρ Φ => Φ (ksD c) ρ
theorem p_kcon (hg : Gl X x) (hm : X.mg x = some (.ref a)) (k : KCon X.K X.w a c) (hdb : (x == ("__debug__" : Str)) = false := by decide) : PII X G0 H0 tg (.Name x p) (wKeys c) := by
  refine ⟨fun pins s σ H R I h => ?_⟩
  refine thn ((pe_glob (pos := p) hg hm (v := .ref a) rfl hdb).run pins s σ H (fun v H1 => v = .ref a ∧ H1 = H) I ⟨rfl, rfl⟩) fun u s1 ⟨x, H1, I1, rx, ex, eH⟩ => ?_
  subst ex
  subst eH
  obtain rfl : u = Value.ref a := rx
  obtain ⟨ρ, G, Φ, S, h, kk⟩ := h
  obtain ⟨es, n, hl, _⟩ := id k
  obtain ⟨o, es', n', vs, lo, hgd, hx, hdt, hsz, pr, hmm⟩ := k.at I1
  have hg2 := I1.kIn a _ hl
  rw [hgd] at hg2
  cases hg2
  cases hdt
  refine iter_keys lo hgd hx rfl (pi_one (tk := s1.toks) I1 _ (turn_kcon k _ ⟨_, hl, rfl⟩) ⟨_, Heap.get?_push_size _ rfl, rfl, ?_⟩ (kk _ ρ _ G H1 h S Stp.refl (LeE.refl _) itr_kcon))
  rw [hsz] <;> rfl
/-- X[..], .. in X -/
def wKIx (c : List (Str × D)) (wa : WE) : WE := fun ρ Φ => wa ρ fun r ρ' => match r.d with
  | .str z => (match c.lookup z with
    | some d => Φ (.fr d) ρ'
    | none => False)
  | _ => False
theorem i_kix (hg : Gl X x) (hm : X.mg x = some (.ref a)) (k : KCon X.K X.w a c) (he : PEI X G0 H0 e wa) (hs : PlainIx e) (hdb : (x == ("__debug__" : Str)) = false := by decide) : PEI X G0 H0 (.Subscript (.Name x p) e pos) (wKIx c wa) := by
  refine pe_imp (pe_ix (ix_kcon k) (pe_glob (pos := p) hg hm (v := .ref a) rfl hdb) he hs) fun σ H Q h => ?_
  obtain ⟨ρ, G, Φ, S, h, kk⟩ := h
  refine ⟨ρ, G, _, S, h, fun r ρ' v G' H' q S' P L y => ?_⟩
  split at q
  · rename_i z ez
    split at q
    · rename_i d ed
      have y' := y.sh
      rw [ez] at y'
      exact ⟨rfl, z, d, y'.s, ed, fun v rp => kk _ ρ' _ G' H' q S' P L (rp _ _)⟩
    · exact q.elim
  · exact q.elim
def wKIn (c : List (Str × D)) (neg : Bool) (wa : WE) : WE := fun ρ Φ => wa ρ fun r ρ' => match r.d with
  | .str z => Φ (.fr (.bl (if neg then !(c.lookup z).isSome else (c.lookup z).isSome))) ρ'
  | _ => False
theorem tx_kin {σ : L2.St} {H : Hp} {Q : VK} {neg : Bool} (h : TX X.K G0 H0 (wKIn c neg wa) σ H Q) : tOp (rKIn a c neg) (TX X.K G0 H0 wa) (tC (.ref a)) σ H Q := by
  obtain ⟨ρ, G, Φ, S, h, kk⟩ := h
  refine ⟨ρ, G, _, S, h, fun r ρ' v G' H' q S' P L y => ?_⟩
  split at q
  · rename_i z ez
    have y' := y.sh
    rw [ez] at y'
    exact ⟨rfl, z, y'.s, kk _ ρ' _ G' H' q S' P L (.bl _)⟩
  · exact q.elim
theorem i_kin (hg : Gl X x) (hm : X.mg x = some (.ref a)) (k : KCon X.K X.w a c) (he : PEI X G0 H0 e wa) (hdb : (x == ("__debug__" : Str)) = false := by decide) (hi : behindInMarks .In (.Name x p) = false := by rfl) : PEI X G0 H0 (.Compare e [.In] [.Name x p] pos) (wKIn c false wa) :=
  pe_imp (pe_cmpR (op_kin k) he (pe_glob (pos := p) hg hm (v := .ref a) rfl hdb) hi) fun _ _ _ h => tx_kin h
theorem i_knotin (hg : Gl X x) (hm : X.mg x = some (.ref a)) (k : KCon X.K X.w a c) (he : PEI X G0 H0 e wa) (hdb : (x == ("__debug__" : Str)) = false := by decide) (hi : behindInMarks .NotIn (.Name x p) = false := by rfl) : PEI X G0 H0 (.Compare e [.NotIn] [.Name x p] pos) (wKIn c true wa) :=
  pe_imp (pe_cmpR (op_knotIn k) he (pe_glob (pos := p) hg hm (v := .ref a) rfl hdb) hi) fun _ _ _ h => tx_kin h
theorem ttx_of {σ : L2.St} {H : Hp} {Q : Bool → Hp → Prop} {W : WE} (h : TTX X.K G0 H0 (wB W) σ H Q) : TX X.K G0 H0 W σ H fun x H' => ∃ k, x = .bl k ∧ Q k H' := by
  obtain ⟨ρ, G, Φ, S, h, c⟩ := h
  refine ⟨ρ, G, _, S, h, fun r ρ' v G' H' q S' P L x => ?_⟩
  have x' := x.sh
  split at q
  · rename_i bb e
    rw [e] at x'
    exact ⟨bb, x'.b, c bb ρ' G' H' q S' P L⟩
  · exact q.elim
theorem t_kin (hg : Gl X x) (hm : X.mg x = some (.ref a)) (k : KCon X.K X.w a c) (he : PEI X G0 H0 e wa) (hdb : (x == ("__debug__" : Str)) = false := by decide) (hi : behindInMarks .In (.Name x p) = false := by rfl) : PTI X G0 H0 (.Compare e [.In] [.Name x p] pos) (wB (wKIn c false wa)) :=
  pt_imp (pt_cmpR (op_kin k) he (pe_glob (pos := p) hg hm (v := .ref a) rfl hdb) hi) fun _ _ _ h => tx_kin (ttx_of h)
theorem t_knotin (hg : Gl X x) (hm : X.mg x = some (.ref a)) (k : KCon X.K X.w a c) (he : PEI X G0 H0 e wa) (hdb : (x == ("__debug__" : Str)) = false := by decide) (hi : behindInMarks .NotIn (.Name x p) = false := by rfl) : PTI X G0 H0 (.Compare e [.NotIn] [.Name x p] pos) (wB (wKIn c true wa)) :=
  pt_imp (pt_cmpR (op_knotIn k) he (pe_glob (pos := p) hg hm (v := .ref a) rfl hdb) hi) fun _ _ _ h => tx_kin (ttx_of h)
end
end Tv
namespace Tv
open PySem PySem.Spec PyProof.Rows L2
section
variable {X : Cx} {G0 : Gh} {H0 : Hp} {wa wb : WE} {ws : WA} {pos p p2 p3 q : Pos} {a : Addr} {c : List (Str × D)} {x : Str} {e b tg : Expr}
/-! ### list(X) -/
def wNewL (ds : List D) : WE := fun ρ Φ => Φ (.ow (.lst ds)) ρ
theorem ksD_rep {K : PySem.W.Frag} {G : Gh} {H : Hp} : ∀ c : List (Str × D), RepL K G H (ksD c) (c.map fun r => V.str r.1)
  | [] => .nil
  | r :: c => .cons (.str r.1) (ksD_rep c)
theorem i_klist (hc : X.calm = true) (hg : Gl X "list") (hm : X.mg "list" = none) (hg2 : Gl X x) (hm2 : X.mg x = some (.ref a)) (k : KCon X.K X.w a c) (hdb : (x == ("__debug__" : Str)) = false := by decide)
    (na : starEach [.Name x p2] X.env = (false, eval (.Name x p2) X.env) :: starEach [] X.env := by rfl) : PEI X G0 H0 (.Call (.Name "list" p) [.Name x p2] [] pos) (wNewL (ksD c)) := by
  refine ⟨fun pins s σ H Q I h => ?_⟩
  obtain ⟨ρ, G, Φ, S, h, kk⟩ := h
  refine Call_ (ld_blt I hg hm boot_list ?_)
  refine PyProof.Rows.callWith_type1 (PyProof.Rows.args_cons (thn ((pe_glob (pos := p2) hg2 hm2 (v := .ref a) rfl hdb).run pins s σ H (fun v H1 => v = .ref a ∧ H1 = H) I ⟨rfl, rfl⟩) fun u s1 ⟨x, H1, I1, rx, ex, eH⟩ => PyProof.Rows.args_nil ?_) na) na rfl
  subst ex
  subst eH
  obtain rfl : u = Value.ref a := rx
  obtain ⟨o, es, n, vs, lo, hgd, hx, hdt, hsz, pr, at_⟩ := k.at I1
  have hl : c.length = vs.length := Paired.length pr
  obtain ⟨_, _, _, _, _, _, _, h4096⟩ := id k
  have hz : c.length ≤ sizeLine := by rw [sizeLine_eq]; omega
  refine PySem.W.kdl_call (PySem.W.kdl_dict (knd := strKind X.prog X.w) (kvs := vs) (ep := n) lo) (I1.ok.hd hc) at_ (by rw [← hl]; exact hz) fun h' tk acc' c' hkeep hS hacc => ?_
  have hn : H1 s1.heap.objs.size = none := I1.hok.fresh (Nat.le_refl _)
  refine ⟨.ref s1.heap.objs.size, upd H1 s1.heap.objs.size (.lst (c.map fun r => V.str r.1)), I1.laid hkeep (Nat.le_refl _) (show ObjOk X.prog X.w _ _ _ (.lst (c.map fun r => V.str r.1)) from ⟨?_, acc'.toList, c', ?_, ?_⟩), rfl, ?_⟩
  · rw [List.length_map]; exact hz
  · have el : acc'.toList.length = acc'.size := by simp
    refine vals_of_at (by rw [List.length_map, el, hacc.1, hl]) fun j x w h1 h2 => ?_
    obtain ⟨ky, y, hky, hi⟩ := hacc.2 j w (by rw [← Array.getElem?_toList]; exact h2)
    rw [List.getElem?_map] at h1
    cases qc : c[j]? with
    | none => rw [qc] at h1; cases h1
    | some r =>
      rw [qc] at h1
      cases h1
      obtain ⟨u, hu⟩ := pairk_at pr qc
      rw [hu] at hky
      cases hky
      exact Value.isStrOf_shape hi
  · rw [Array.toArray_toList]; exact hS
  · exact new_lst (Φ := fun r => Φ r ρ) S.wd (fun r' v' G' H' φ w g x' => kk r' ρ v' G' H' φ (S.grow w g) g.stp (LeE.refl _) x') (ksD_rep c) h _ hn
/-! ### list(range(..)) -/
def rgD (a b : Int) : List D := (List.range (b - a).toNat).map fun i => .int (a + (i : Nat))
theorem rgD_rep {K : PySem.W.Frag} {G : Gh} {H : Hp} (a b : Int) : RepL K G H (rgD a b) (rgV a b) := by
  unfold rgD rgV
  induction List.range (b - a).toNat with
  | nil => exact .nil
  | cons i l ih => exact .cons (.int _) ih
def rgOk (a b : Int) : Prop := -4611686018427387904 ≤ a ∧ a < 4611686018427387904 ∧ -4611686018427387904 ≤ b ∧ b < 4611686018427387904 ∧ b - a ≤ 16777216
theorem rgOk_ok {a b : Int} (h : rgOk a b) : RgOk a b := by
  obtain ⟨h1, h2, h3, h4, h5⟩ := h
  exact ⟨by omega, by omega, by omega, by omega, by omega⟩
def wListRng1 (wa : WE) : WE := fun ρ Φ => wa ρ fun r ρ' => match r.d with
  | .int n => rgOk 0 n ∧ Φ (.ow (.lst (rgD 0 n))) ρ'
  | _ => False
def wListRng2 (wa wb : WE) : WE := fun ρ Φ => wa ρ fun r ρ' => wb ρ' fun r2 ρ2 => match r.d, r2.d with
  | .int m, .int n => rgOk m n ∧ Φ (.ow (.lst (rgD m n))) ρ2
  | _, _ => False
theorem i_listRng1 (hc : X.calm = true) (hg : Gl X "list") (hm : X.mg "list" = none) (hg2 : Gl X "range") (hm2 : X.mg "range" = none) (he : PEI X G0 H0 e wa)
    (na : starEach [e] X.env = (false, eval e X.env) :: starEach [] X.env := by rfl) (nb : starEach [.Call (.Name "range" p2) [e] [] q] X.env = (false, eval (.Call (.Name "range" p2) [e] [] q) X.env) :: starEach [] X.env := by rfl) : PEI X G0 H0 (.Call (.Name "list" p) [.Call (.Name "range" p2) [e] [] q] [] pos) (wListRng1 wa) := by
  refine pe_imp (pe_listRg hc hg hm (prg_1 hg2 hm2 he na) nb) fun σ H Q h => ?_
  obtain ⟨ρ, G, Φ, S, h, kk⟩ := h
  refine ⟨ρ, G, _, S, h, fun r ρ' v G' H' q S' P L y => ?_⟩
  split at q
  · rename_i n en
    have y' := y.sh
    rw [en] at y'
    exact ⟨n, y'.i, rgOk_ok q.1, new_lst (Φ := fun r => Φ r ρ') S'.wd (fun r' v' G2 H2 φ w g x' => kk r' ρ' v' G2 H2 φ (S'.grow w g) (P.trans S'.wd g.stp L) L (x'.back fun a z => P.nn S'.wd z)) (rgD_rep _ _) q.2⟩
  · exact q.elim
theorem i_listRng2 (hc : X.calm = true) (hg : Gl X "list") (hm : X.mg "list" = none) (hg2 : Gl X "range") (hm2 : X.mg "range" = none) (he : PEI X G0 H0 e wa) (hb : PEI X G0 H0 b wb)
    (na : starEach [e, b] X.env = (false, eval e X.env) :: starEach [b] X.env := by rfl) (na2 : starEach [b] X.env = (false, eval b X.env) :: starEach [] X.env := by rfl) (hp : (backTo q (starEach [b] X.env)).any (·.1) = false := by rfl)
    (nb : starEach [.Call (.Name "range" p2) [e, b] [] q] X.env = (false, eval (.Call (.Name "range" p2) [e, b] [] q) X.env) :: starEach [] X.env := by rfl) : PEI X G0 H0 (.Call (.Name "list" p) [.Call (.Name "range" p2) [e, b] [] q] [] pos) (wListRng2 wa wb) := by
  refine pe_imp (pe_listRg hc hg hm (prg_2 hg2 hm2 he hb na na2 hp) nb) fun σ H Q h => ?_
  obtain ⟨ρ, G, Φ, S, h, kk⟩ := h
  refine ⟨ρ, G, _, S, h, fun r ρ' v G' H' q S' P L y => ⟨ρ', G', _, S', q, fun r2 ρ2 v2 G2 H2 q2 S2 P2 L2 y2 => ?_⟩⟩
  split at q2
  · rename_i m n em en
    have y' := y.sh
    rw [em] at y'
    have y2' := y2.sh
    rw [en] at y2'
    have PP := P.trans S'.wd P2 L
    exact ⟨m, n, y'.i, y2'.i, rgOk_ok q2.1, new_lst (Φ := fun r => Φ r ρ2) S2.wd (fun r' v' G3 H3 φ w g x' => kk r' ρ2 v' G3 H3 φ (S2.grow w g) (PP.trans S2.wd g.stp (L2.trans L)) (L2.trans L) (x'.back fun a z => PP.nn S2.wd z)) (rgD_rep _ _) q2.2⟩
  · exact q2.elim
/-! ### xs[::-1] -/
def wRev (wa : WE) : WE := fun ρ Φ => wa ρ fun r ρ' => match r.d with
  | .lst ds => Φ (.ow (.lst ds.reverse)) ρ'
  | _ => False
theorem i_rev {k : Nat} {q1 q2 q3 : Pos} (he : PEI X G0 H0 e wa) : PEI X G0 H0 (.Subscript e (.Slice none none (some (.UnaryOp .USub (.Constant (.int 1) k q1) q2)) q3) pos) (wRev wa) := by
  refine pe_imp (pe_revL he) fun σ H Q h => ?_
  obtain ⟨ρ, G, Φ, S, h, kk⟩ := h
  refine ⟨ρ, G, _, S, h, fun r ρ' v G' H' q S' P L y => ?_⟩
  split at q
  · rename_i ds ed
    have y' := y.sh
    rw [ed] at y'
    obtain ⟨l, xs, rfl, hq, r⟩ := y'.list
    exact ⟨l, xs, rfl, hq, new_lst (Φ := fun r => Φ r ρ') S'.wd (fun r' v' G2 H2 φ w g x' => kk r' ρ' v' G2 H2 φ (S'.grow w g) (P.trans S'.wd g.stp L) L (x'.back fun a z => P.nn S'.wd z)) r.reverse q⟩
  · exact q.elim
/-! ### {..}[e]: texts by texts -/
def rowsK (c : List (Str × Str)) : List (Key × V) := c.map fun r => (.inr r.1, .str r.2)
def PPsS (X : Cx) (pos : Pos) (keys : List (Option Expr)) (values : List Expr) (c : List (Str × Str)) : Prop := PPs X pos keys values (c.map fun r => (tC (.str r.1), tC (.str r.2)))
theorem ppsS_nil : PPsS X pos [] [] [] := pps_nil
theorem ppsS_cons {k v : Str} {i j} {ks : List (Option Expr)} {vs : List Expr} {c : List (Str × Str)} (h : PPsS X pos ks vs c) : PPsS X pos (some (.Constant (.str k) i p) :: ks) (.Constant (.str v) j q :: vs) ((k, v) :: c) := pps_cons pe_str pe_str h
theorem pairs_c {σ : L2.St} : ∀ (c : List (Str × Str)) {H : Hp} {Q : List (V × V) → Hp → Prop}, Q ((rowsK c).map fun kv => (kV kv.1, kv.2)) H → tPairs (c.map fun r => (tC (.str r.1), tC (.str r.2))) σ H Q
  | [], _, _, h => h
  | r :: c, H, Q, h => pairs_c c (Q := fun ps H3 => Q ((.str r.1, .str r.2) :: ps) H3) h
theorem valV_rows (z : Str) : ∀ c : List (Str × Str), valV (rowsK c) (.inr z) = (c.lookup z).map V.str
  | [] => rfl
  | (k, v) :: c => by
    by_cases e : k = z
    · subst e
      rw [show rowsK ((k, v) :: c) = (.inr k, .str v) :: rowsK c from rfl, valV_pos rfl]
      simp [List.lookup_cons]
    · rw [show rowsK ((k, v) :: c) = (.inr k, .str v) :: rowsK c from rfl, valV_neg (fun q => e (Sum.inr.inj q)), valV_rows z c, List.lookup_cons]
      rw [show (z == k) = false by simpa using fun q => e q.symm]
def wDIx (c : List (Str × Str)) (wa : WE) : WE := fun ρ Φ => wa ρ fun r ρ' => match r.d with
  | .str z => (match c.lookup z with
    | some d => Φ (.fr (.str d)) ρ'
    | none => False)
  | _ => False
theorem i_dix {keys : List (Option Expr)} {values : List Expr} {c : List (Str × Str)} (hu : X.A.units + 1 < cLine) (h : PPsS X q keys values c) (he : PEI X G0 H0 e wa) (hs : NoSl e) (hk : mergeK [] (rowsK c) = rowsK c) (h15 : c.length ≤ 15)
    (hall : keys.all (·.isSome) = true := by rfl) (hl : keys.length = values.length := by rfl) (h0 : keys ≠ [] := by exact List.cons_ne_nil _ _) (h15' : keys.length ≤ 15 := by decide) : PEI X G0 H0 (.Subscript (.Dict keys values q) e pos) (wDIx c wa) := by
  refine pe_imp (pe_dget hu (pe_disp h hall hl h0 h15') he hs) fun σ H Q h => ?_
  obtain ⟨ρ, G, Φ, S, h, kk⟩ := h
  refine fun l hp => pairs_c c ⟨upd_same, rowsK c, rfl, by unfold rowsK; rw [List.length_map]; exact h15, ?_⟩
  rw [upd_upd, hk]
  have g : Grow G H G (upd H l (.dK (rowsK c))) := Grow.laid hp
  have S1 := S.grow (S.wd.laid hp) g
  have nb : ¬ G.B l := fun z => by
    obtain ⟨xs, e⟩ := S.wd.bagl z
    rw [hp] at e
    cases e
  refine ⟨ρ, G, _, S1, h, fun r ρ' v G' H' q S' P L y => ?_⟩
  split at q
  · rename_i z ez
    split at q
    · rename_i d ed
      have y' := y.sh
      rw [ez] at y'
      cases y'.s
      have e1 := P.k _ _ upd_same nb
      have e2 : DGet H' l (kV (.inr z)) (valV (rowsK c) (.inr z)) := DGet.k e1
      rw [valV_rows, ed] at e2
      exact ⟨l, .str d, rfl, e2, kk _ ρ' _ G' H' q S' (Stp.trans g.stp S1.wd P (LeE.refl _)) L (.str d)⟩
    · exact q.elim
  · exact q.elim
end
end Tv
namespace Tv
open PySem
theorem wrK_of {K : PySem.W.Frag} {n m : Nat} {a : Addr} {o : Obj} {es : Array DictEntry} {c : List (Str × D)} (h : K.lookup a = some o) (hd : o.data = .dict es m) (hw : wrE K n es.toList = some c) : wrK K n a = some c := by
  unfold wrK
  rw [h]
  show (match o.data with | .dict es _ => wrE K n es.toList | _ => none) = some c
  rw [hd]
  exact hw
theorem wrE_cons {K : PySem.W.Frag} {n : Nat} {e : DictEntry} {r : List DictEntry} {x : Str} {t : Tok} {d : D} {ds : List (Str × D)} (hk : e.key = .str x t) (hv : wrD K n e.val = some d) (ht : wrE K n r = some ds) : wrE K n (e :: r) = some ((x, d) :: ds) := by
  unfold wrE
  rw [hk, hv, ht]
end Tv
namespace L2
theorem Room.r1 {k : Nat} {A : PySem.Around} (h : Room k A) : A.units + 1 < PySem.cLine := by have := h.un; omega
end L2
/-! Tv24: more for the plain laws. -/
namespace Tv
open PySem PySem.Spec PyProof.Rows L2
/-- comprehensions of two clauses, told row by row -/
def stepO (W : WTg) (wt : WT) (wi1 : WI) (W1 : WTg) (wt1 : WT) (we : WE) (vs vs1 : List Nat) (ρ : En) (d : D) (acc : List D) (Ψ : List D → En → Prop) : Prop := W d ρ fun ρ1 => wt ρ1 fun b ρ2 => if b = true then wi1 ρ2 fun ds1 ρ3 => lcD W1 wt1 we vs1 (fun acc' ρ4 => Ψ acc' (wipeE vs 0 ρ4)) ds1 acc (wipeE vs1 0 ρ3)
    else Ψ acc (wipeE vs 0 ρ2)
theorem lcO_of {α : Type} {W W1 : WTg} {wt wt1 : WT} {wi1 : WI} {we : WE} {vs vs1 : List Nat} {Φ : List D → En → Prop} {ρ : En} (inj : α → D) (f : α → List D) : ∀ (xs : List α) (acc : List D),
    (∀ x ∈ xs, ∀ (acc : List D) (Ψ : List D → En → Prop), acc.length + (f x).length ≤ 16000000 → Ψ (acc ++ f x) ρ → stepO W wt wi1 W1 wt1 we vs vs1 ρ (inj x) acc Ψ) → acc.length + (xs.map fun x => (f x).length).sum ≤ 16000000 → Φ (acc ++ (xs.map f).flatten) ρ →
    lcO W wt wi1 W1 wt1 we vs vs1 Φ (xs.map inj) acc ρ
  | [], acc, _, _, h => by rw [List.map_nil, List.flatten_nil, List.append_nil] at h; exact h
  | x :: xs, acc, hs, hl, h => by
    rw [List.map_cons, List.sum_cons] at hl
    have q := hs x List.mem_cons_self acc (fun acc' ρ' => lcO W wt wi1 W1 wt1 we vs vs1 Φ (xs.map inj) acc' ρ') (by omega) ?_
    · exact q
    · refine lcO_of inj f xs (acc ++ f x) (fun y hy => hs y (List.mem_cons_of_mem _ hy)) (by rw [List.length_append]; omega) ?_
      rw [List.append_assoc]
      rw [List.map_cons, List.flatten_cons] at h
      exact h
theorem e_lc2 {wi wi1 : WI} {W W1 : WTg} {wt wt1 : WT} {we : WE} {vs vs1 : List Nat} {ρ : En} {Φ : R → En → Prop} (h : wi ρ fun ds ρ1 => lcO W wt wi1 W1 wt1 we vs vs1 (fun out ρe => Φ (.ow (.lst out)) (mixE vs 0 ρ1 ρe)) ds [] (wipeE vs 0 ρ1)) : wLc2 wi W wt wi1 W1 wt1 we vs vs1 ρ Φ := h
theorem e_keys {c : List (Str × D)} {ρ : En} {Φ : List D → En → Prop} (h : Φ (ksD c) ρ) : wKeys c ρ Φ := h
theorem e_newL {ds : List D} {ρ : En} {Φ : R → En → Prop} (h : Φ (.ow (.lst ds)) ρ) : wNewL ds ρ Φ := h
section
variable {ρ : En} {Φ : R → En → Prop} {r r2 : R} {wa wb : WE} {c : List (Str × D)} {z : Str} {d : D} {neg : Bool}
def kixW (c : List (Str × D)) (r : R) (Φ : R → En → Prop) (ρ : En) : Prop := match r.d with
  | .str z => (match c.lookup z with
    | some d => Φ (.fr d) ρ
    | none => False)
  | _ => False
theorem e_kix (h : wa ρ fun r ρ' => kixW c r Φ ρ') : wKIx c wa ρ Φ := h
theorem e_kixW (q : r.d = .str z) (q2 : c.lookup z = some d) (h : Φ (.fr d) ρ) : kixW c r Φ ρ := by unfold kixW; rw [q]; dsimp only; rw [q2]; exact h
def kinW (c : List (Str × D)) (neg : Bool) (r : R) (Φ : R → En → Prop) (ρ : En) : Prop := match r.d with
  | .str z => Φ (.fr (.bl (if neg then !(c.lookup z).isSome else (c.lookup z).isSome))) ρ
  | _ => False
theorem e_kin (h : wa ρ fun r ρ' => kinW c neg r Φ ρ') : wKIn c neg wa ρ Φ := h
theorem e_kinW0 (q : r.d = .str z) (h : Φ (.fr (.bl (c.lookup z).isSome)) ρ) : kinW c false r Φ ρ := by unfold kinW; rw [q]; exact h
theorem e_kinW1 (q : r.d = .str z) (h : Φ (.fr (.bl (!(c.lookup z).isSome))) ρ) : kinW c true r Φ ρ := by unfold kinW; rw [q]; exact h
def lrgW (r : R) (Φ : R → En → Prop) (ρ : En) : Prop := match r.d with
  | .int n => rgOk 0 n ∧ Φ (.ow (.lst (rgD 0 n))) ρ
  | _ => False
theorem e_lrg (h : wa ρ fun r ρ' => lrgW r Φ ρ') : wListRng1 wa ρ Φ := h
theorem e_lrgW {n : Int} (q : r.d = .int n) (b : n ≤ 16777216) (b0 : -4611686018427387904 ≤ n) (h : Φ (.ow (.lst (rgD 0 n))) ρ) : lrgW r Φ ρ := by unfold lrgW; rw [q]; exact ⟨⟨by omega, by omega, by omega, by omega, by omega⟩, h⟩
def revW (r : R) (Φ : R → En → Prop) (ρ : En) : Prop := match r.d with
  | .lst ds => Φ (.ow (.lst ds.reverse)) ρ
  | _ => False
theorem e_rev (h : wa ρ fun r ρ' => revW r Φ ρ') : wRev wa ρ Φ := h
theorem e_revW {ds : List D} (q : r.d = .lst ds) (h : Φ (.ow (.lst ds.reverse)) ρ) : revW r Φ ρ := by unfold revW; rw [q]; exact h
def dixW (c : List (Str × Str)) (r : R) (Φ : R → En → Prop) (ρ : En) : Prop := match r.d with
  | .str z => (match c.lookup z with
    | some d => Φ (.fr (.str d)) ρ
    | none => False)
  | _ => False
theorem e_dix {c : List (Str × Str)} (h : wa ρ fun r ρ' => dixW c r Φ ρ') : wDIx c wa ρ Φ := h
theorem e_dixW {c : List (Str × Str)} {x : Str} (q : r.d = .str z) (q2 : c.lookup z = some x) (h : Φ (.fr (.str x)) ρ) : dixW c r Φ ρ := by unfold dixW; rw [q]; dsimp only; rw [q2]; exact h
end
/-! texts in lists of texts -/
theorem inD_strs (x : Str) : ∀ ws : List Str, inD (.str x) (ws.map D.str) = decide (x ∈ ws)
  | [] => by show false = _; simp
  | w :: ws => by
    have ih := inD_strs x ws
    show (eqD (.str w) (.str x) || inD (.str x) (ws.map D.str)) = _
    rw [ih, eq_strs, Bool.eq_iff_iff, Bool.or_eq_true, decide_eq_true_iff, decide_eq_true_iff, decide_eq_true_iff, List.mem_cons]
    exact ⟨fun h => h.imp Eq.symm fun z => z, fun h => h.imp Eq.symm fun z => z⟩
theorem okE_strs {ws : List Str} (h : ∀ x ∈ ws, PyData.strOk x = true) : okE (.lst (ws.map D.str)) = true := by
  obtain ⟨a, b, _⟩ := okL_strs ws h
  have g : D.good (.lst (ws.map .str)) = true := a
  have dp : D.dep (.lst (ws.map .str)) ≤ 64 := by
    show D.depL (ws.map .str) + 1 ≤ 64
    omega
  unfold okE
  rw [g, decide_eq_true dp]
  rfl
theorem okE_str {x : Str} (h : PyData.strOk x = true) : okE (.str x) = true := by
  unfold okE
  rw [show D.good (.str x) = PyData.strOk x from rfl, h]
  rfl
theorem oIn_T {x : Str} {ws : List Str} {Φ : R → Prop} (hx : PyData.strOk x = true) (hw : ∀ y ∈ ws, PyData.strOk y = true) (h : Φ (.fr (.bl (decide (x ∈ ws))))) : oIn false (.str x) (.tup (ws.map D.str)) Φ := by
  show (okE (.str x) && okE (.lst (ws.map D.str))) = true ∧ Φ (.fr (.bl (inD (.str x) (ws.map D.str))))
  rw [okE_str hx, okE_strs hw, inD_strs]
  exact ⟨rfl, h⟩
theorem oNin_T {x : Str} {ws : List Str} {Φ : R → Prop} (hx : PyData.strOk x = true) (hw : ∀ y ∈ ws, PyData.strOk y = true) (h : Φ (.fr (.bl (!decide (x ∈ ws))))) : oIn true (.str x) (.tup (ws.map D.str)) Φ := by
  show (okE (.str x) && okE (.lst (ws.map D.str))) = true ∧ Φ (.fr (.bl (!inD (.str x) (ws.map D.str))))
  rw [okE_str hx, okE_strs hw, inD_strs]
  exact ⟨rfl, h⟩
theorem oIn_L {x : Str} {ws : List Str} {Φ : R → Prop} (hx : PyData.strOk x = true) (hw : ∀ y ∈ ws, PyData.strOk y = true) (h : Φ (.fr (.bl (decide (x ∈ ws))))) : oIn false (.str x) (.lst (ws.map D.str)) Φ := by
  show (okE (.str x) && okE (.lst (ws.map D.str))) = true ∧ Φ (.fr (.bl (inD (.str x) (ws.map D.str))))
  rw [okE_str hx, okE_strs hw, inD_strs]
  exact ⟨rfl, h⟩
theorem oNin_L {x : Str} {ws : List Str} {Φ : R → Prop} (hx : PyData.strOk x = true) (hw : ∀ y ∈ ws, PyData.strOk y = true) (h : Φ (.fr (.bl (!decide (x ∈ ws))))) : oIn true (.str x) (.lst (ws.map D.str)) Φ := by
  show (okE (.str x) && okE (.lst (ws.map D.str))) = true ∧ Φ (.fr (.bl (!inD (.str x) (ws.map D.str))))
  rw [okE_str hx, okE_strs hw, inD_strs]
  exact ⟨rfl, h⟩
end Tv
namespace Tv
open PySem PySem.Spec PyProof.Rows L2
/-! ### sorted over texts, over pairs -/
theorem goodL_of {α : Type} (f : α → D) {n : Nat} : ∀ xs : List α, (∀ x ∈ xs, (f x).good = true ∧ (f x).dep ≤ n) → D.goodL (xs.map f) = true ∧ D.depL (xs.map f) ≤ n
  | [], _ => ⟨rfl, Nat.zero_le _⟩
  | x :: xs, h => by
    obtain ⟨a, b⟩ := goodL_of f xs fun y hy => h y (List.mem_cons_of_mem _ hy)
    obtain ⟨c, d⟩ := h x List.mem_cons_self
    refine ⟨?_, ?_⟩
    · show ((f x).good && D.goodL (xs.map f)) = true
      rw [a, c]; rfl
    · show max (f x).dep (D.depL (xs.map f)) ≤ n
      exact Nat.max_le.mpr ⟨d, b⟩
theorem leS_tr (a b c : Str) (h1 : leS a b = true) (h2 : leS b c = true) : leS a c = true := by
  unfold leS at *
  simp only [decide_eq_true_eq] at *
  exact List.le_trans h1 h2
theorem leS_tot (a b : Str) : (leS a b || leS b a) = true := lexLe_tot _ _
theorem leS_anti {a b : Str} (h1 : leS a b = true) (h2 : leS b a = true) : a = b := by
  unfold leS at *
  simp only [decide_eq_true_eq] at *
  have := List.le_antisymm h1 h2
  cases a; cases b
  simp only [Str.mk.injEq]
  exact Array.toList_inj.mp this
theorem sort_is {L M : List Str} (h1 : M.Pairwise fun a b => leS a b = true) (h2 : M.Perm L) : L.mergeSort leS = M :=
  List.Perm.eq_of_pairwise (fun a b _ _ p q => leS_anti p q) (List.pairwise_mergeSort leS_tr leS_tot L) h1 ((List.mergeSort_perm L leS).trans h2.symm)
theorem oSorted_strs {L : List Str} {Φ : R → Prop} (hok : ∀ x ∈ L, PyData.strOk x = true) (h : Φ (.ow (.lst ((L.mergeSort leS).map .str)))) : oSorted [.lst (L.map .str)] Φ := by
  obtain ⟨a, b⟩ := goodL_of (n := 0) D.str L fun x hx => ⟨hok x hx, Nat.le_refl _⟩
  refine ⟨?_, ?_, ?_, ?_⟩
  · rw [a, Bool.true_and, decide_eq_true_iff]; omega
  · intro d hd d' hd'
    simp only [List.map_map, List.mem_map] at hd hd'
    obtain ⟨x, _, rfl⟩ := hd
    obtain ⟨y, _, rfl⟩ := hd'
    rfl
  · refine .inr fun d hd => ?_
    simp only [List.map_map, List.mem_map] at hd
    obtain ⟨x, _, rfl⟩ := hd
    exact ⟨nofun, nofun⟩
  · have e : (L.map D.str).mergeSort (PySem.W.dataLe false D.py) = (L.mergeSort leS).map .str := by
      refine (List.map_mergeSort fun a _ b _ => ?_).symm
      have := congrFun (congrFun (PySem.W.dataLe_str fun x : Str => x) a) b
      exact this.symm
    rw [e]
    exact h
/-- a text and a number -/
def pr (r : Str × Int) : D := .tup [.str r.1, .int r.2]
theorem pr_good {r : Str × Int} (h : PyData.strOk r.1 = true) : (pr r).good = true ∧ (pr r).dep ≤ 1 := by
  refine ⟨?_, Nat.le_refl _⟩
  show (PyData.strOk r.1 && (true && true)) = true
  rw [h]; rfl
theorem oSorted_pairs {L : List (Str × Int)} {Φ : R → Prop} (hok : ∀ x ∈ L, PyData.strOk x.1 = true) (hs : L.Pairwise fun a b => PySem.W.dataLe false D.py (pr a) (pr b) = true) (h : Φ (.ow (.lst (L.map pr)))) : oSorted [.lst (L.map pr)] Φ := by
  obtain ⟨a, b⟩ := goodL_of (n := 1) pr L fun x hx => pr_good (hok x hx)
  refine ⟨?_, ?_, ?_, ?_⟩
  · rw [a, Bool.true_and, decide_eq_true_iff]; omega
  · intro d hd d' hd'
    simp only [List.map_map, List.mem_map] at hd hd'
    obtain ⟨x, _, rfl⟩ := hd
    obtain ⟨y, _, rfl⟩ := hd'
    rfl
  · refine .inl fun d hd => ?_
    simp only [List.map_map, List.mem_map] at hd
    obtain ⟨x, _, rfl⟩ := hd
    exact ⟨_, _, rfl⟩
  · rw [List.mergeSort_of_pairwise (List.pairwise_map.mpr hs)]
    exact h
theorem eqL_pairs {a b : List (Str × Int)} (h : a = b) (hok : ∀ x ∈ a, PyData.strOk x.1 = true) : eqD (.lst (a.map pr)) (.lst (b.map pr)) = true := by
  subst h
  obtain ⟨g, _⟩ := goodL_of (n := 1) pr a fun x hx => pr_good (hok x hx)
  exact eqD_refl g
theorem pr_inj {a b : Str × Int} (h : eqD (pr a) (pr b) = true) : a = b := by
  have h' : ((a.1 == b.1) && ((a.2 == b.2) && true)) = true := h
  simp only [Bool.and_true, Bool.and_eq_true, beq_iff_eq] at h'
  exact Prod.ext h'.1 h'.2
theorem inD_pairs (x : Str × Int) : ∀ ws : List (Str × Int), inD (pr x) (ws.map pr) = decide (x ∈ ws)
  | [] => by show false = _; simp
  | w :: ws => by
    have ih := inD_pairs x ws
    show (eqD (pr w) (pr x) || inD (pr x) (ws.map pr)) = _
    rw [ih, Bool.eq_iff_iff, Bool.or_eq_true, decide_eq_true_iff, decide_eq_true_iff, List.mem_cons]
    refine ⟨fun h => h.imp (fun e => (pr_inj e).symm) fun z => z, fun h => h.imp (fun e => ?_) fun z => z⟩
    subst e
    show ((x.1 == x.1) && ((x.2 == x.2) && true)) = true
    simp
end Tv
namespace Tv
open PySem
theorem dicW_of {K : PySem.W.Frag} {P : Params} {a : Addr} {es : Array DictEntry} {n : Nat} {ks : List Str} (h : K.lookup a = some ⟨.type "dict", none, .dict es n, #[]⟩) (hs : (a == sysModules) = false) (hk : es.toList.map He.keyOf = He.keysIn P ks) : He.dicW K a = some (He.keysIn P ks) := by
  unfold He.dicW
  rw [h]
  have e : (decide (("dict" : String) = "dict") && ((#[] : Array (Option Value)).isEmpty && !(a == sysModules))) = true := by rw [hs]; rfl
  show (match decide (("dict" : String) = "dict") && ((#[] : Array (Option Value)).isEmpty && !(a == sysModules)) with
    | true => some (es.toList.map He.keyOf)
    | false => none) = _
  rw [e, hk]
end Tv
/-! Tv25: isinstance; what is never raised. -/
namespace Tv
open PySem PySem.Spec PyProof.Rows L2
def D.ty : D → Option String
  | .non => some "NoneType"
  | .bl _ => some "bool"
  | .int _ => some "int"
  | .str _ => some "str"
  | .tup _ => some "tuple"
  | .lst _ => some "list"
  | .dct _ _ => some "dict"
  | _ => none
def isTy (n t : String) : Bool := n == t || (n == "bool" && t == "int")
def tyNames : List String := ["NoneType", "bool", "int", "str", "tuple", "list", "dict"]
def tyAsk : List String := ["bool", "int", "str", "tuple", "list", "dict"]
theorem ty_in {d : D} {n : String} (h : d.ty = some n) : n ∈ tyNames := by
  cases d <;> cases h <;> decide
theorem kit_ty {K : PySem.W.Frag} {n t : String} (hn : n ∈ tyNames) (ht : t ∈ tyAsk) : PySem.W.kitOne K (.type n) (.type t) = some (isTy n t) := by
  simp only [tyNames, tyAsk, List.mem_cons, List.not_mem_nil, or_false] at hn ht
  rcases hn with rfl | rfl | rfl | rfl | rfl | rfl | rfl <;> rcases ht with rfl | rfl | rfl | rfl | rfl | rfl <;> rfl
section
variable {K : PySem.W.Frag} {G : Gh} {H : Hp} {d : D} {v : V} {n : String}
theorem SqT.ty {a : Addr} {xs : List V} (h : SqT K H a xs) : TyX K H (.ref a) (.type "tuple") := by
  rcases h with (h | ⟨o, h⟩) | ⟨o, its, m, h, c, _⟩
  · exact .base (.tup h)
  · exact .fTuple h
  · exact .kTuple h c
theorem sh_ty (h : Sh K G H d v) (e : d.ty = some n) : TyX K H v (.type n) := by
  rcases h with h | ⟨a, rfl, _, h⟩
  · cases h <;> cases e
    · exact .base .non
    · exact .base (.bl _)
    · exact .base (.int _)
    · exact .base (.str _)
    · rename_i h _; exact SqT.ty h
    · rename_i h _; exact .base (.lst h.2)
    · rename_i h _ _; exact .fDict h
  · cases d with
    | lst ds => obtain ⟨xs, h, _⟩ := h; cases e; exact .base (.lst h)
    | dct ks ds => obtain ⟨o, xs, h, _⟩ := h; cases e; exact .fDict h
    | dcu ks ds => cases e
    | _ => exact h.elim
end
section
variable {X : Cx} {G0 : Gh} {H0 : Hp} {wa : WE} {pos p p2 p3 : Pos} {e : Expr} {T : Str} {t : String}
theorem pe_tyName (hg : Gl X T) (hm : X.mg T = none) (hv : bootBuiltins T = some (.type t)) (hn : T ≠ "__name__" := by decide) (hd : (T == ("__debug__" : Str)) = false := by decide) : PE X (.Name T p) (tC (.ty t)) :=
  ⟨fun pins s σ H Q I h => ld_blt I hg hm hv ⟨.ty t, H, I, rfl, h⟩ hn hd⟩
def wIsi (t : String) (wa : WE) : WE := fun ρ Φ => wa ρ fun r ρ' => match r.d.ty with
  | some n => Φ (.fr (.bl (isTy n t))) ρ'
  | none => False
theorem i_isi (hg : Gl X "isinstance") (hm : X.mg "isinstance" = none) (hg2 : Gl X T) (hm2 : X.mg T = none) (hv : bootBuiltins T = some (.type t)) (ht : t ∈ tyAsk) (he : PEI X G0 H0 e wa)
    (hn : T ≠ "__name__" := by decide) (hd : (T == ("__debug__" : Str)) = false := by decide)
    (hs : starEach (e :: [.Name T p2]) X.env = (false, eval e X.env) :: starEach [.Name T p2] X.env := by rfl) (hs2 : starEach (.Name T p2 :: []) X.env = (false, eval (.Name T p2) X.env) :: starEach [] X.env := by rfl)
    (hpl : (backTo pos (starEach [.Name T p2] X.env)).any (·.1) = false := by rfl) : PEI X G0 H0 (.Call (.Name "isinstance" p) [e, .Name T p2] [] pos) (wIsi t wa) := by
  refine pe_imp (pe_callB call_isi hg hm (by decide +kernel) (pa_cons he (pa_cons (pe_tyName hg2 hm2 hv hn hd) pa_nil hs2) hs) (by decide) (by decide) hs hpl) fun σ H Q h => ?_
  obtain ⟨ρ, G, Φ, S, h, c⟩ := h
  refine ⟨ρ, G, _, S, h, fun r ρ' v G' H' q S' P L x => ?_⟩
  split at q
  · rename_i n en
    exact ⟨v, .ty t, .type n, .type t, isTy n t, rfl, .ty t, sh_ty x.sh en, kit_ty (ty_in en) ht, c _ ρ' _ G' H' q S' P L (.bl _)⟩
  · exact q.elim
end
end Tv
namespace Tv
open PySem PySem.Spec PyProof.Rows L2
/-! ### dicts -/
def keyD : D → Option Key
  | .int i => some (.inl i)
  | .str x => some (.inr x)
  | _ => none
def lookD : List Key → List D → Key → Option D
  | k :: ks, d :: ds, z => if k = z then some d else lookD ks ds z
  | _, _, _ => none
section
variable {K : PySem.W.Frag} {G : Gh} {H : Hp} {d e : D} {v : V} {ks : List Key} {ds : List D}
theorem Sh.dict (h : Sh K G H (.dct ks ds) v) : ∃ (a : Addr) (o : Obj) (kvs : List (Key × V)), v = .ref a ∧ H a = some (.frz o (.dK kvs)) ∧ kvs.map (·.1) = ks ∧ RepL K G H ds (kvs.map (·.2)) := by
  rcases h with h | ⟨a, rfl, _, o, kvs, h, k, r⟩
  · cases h with
    | dct f h k r => exact ⟨_, _, _, rfl, h, k, r⟩
  · exact ⟨a, o, kvs, rfl, h, k, r⟩
theorem look_val (z : Key) : ∀ {kvs : List (Key × V)} {ds : List D}, RepL K G H ds (kvs.map (·.2)) → (lookD (kvs.map (·.1)) ds z = none ∧ valV kvs z = none) ∨ ∃ d v, lookD (kvs.map (·.1)) ds z = some d ∧ valV kvs z = some v ∧ Rep K G H d v
  | [], _, .nil => .inl ⟨rfl, rfl⟩
  | (k, v) :: kvs, _, .cons (d := d) r t => by
    by_cases e : k = z
    · subst e
      refine .inr ⟨d, v, ?_, valV_pos rfl, r⟩
      show (if k = k then some d else _) = some d
      rw [if_pos rfl]
    · have e1 : valV ((k, v) :: kvs) z = valV kvs z := valV_neg e
      have e2 : ∀ ds, lookD (((k, v) :: kvs).map (·.1)) (d :: ds) z = lookD (kvs.map (·.1)) ds z := fun ds => by
        show (if k = z then some d else _) = _
        rw [if_neg e]
      rw [e1, e2]
      exact look_val z t
theorem key_sh {k : Key} (h : Sh K G H d v) (e : keyD d = some k) : v = kV k := by
  unfold keyD at e
  split at e
  · cases e; rw [h.i]; rfl
  · cases e; rw [h.s]; rfl
  · cases e
theorem DGet.f {H : Hp} {a : Addr} {o : Obj} {kvs : List (Key × V)} {k : Key} (e : H a = some (.frz o (.dK kvs))) : DGet H a (kV k) (valV kvs k) := .inl ⟨kvs, k, .inr ⟨o, e⟩, rfl, rfl⟩
/-- d[k] -/
def oDIx : D → D → (R → Prop) → Prop
  | .dct ks ds, e, Φ => (match (keyD e).bind (lookD ks ds) with
    | some x => Φ (.fr x)
    | none => False)
  | _, _, _ => False
def rDIx : R2 := fun x y H Q => ∃ a v, x = .ref a ∧ DGet H a y (some v) ∧ Q v H
theorem op2_dix : Op2 K oDIx rDIx := fun G H d e v u Φ Q w s1 s2 h k => by
  unfold oDIx at h
  split at h
  · rename_i ks ds e Φ
    split at h
    · rename_i x ex
      obtain ⟨ky, e1, e2⟩ := Option.bind_eq_some_iff.mp ex
      obtain ⟨a, o, kvs, rfl, ha, rfl, r⟩ := s1.dict
      have := key_sh s2 e1
      subst this
      rcases look_val ky r with ⟨z, _⟩ | ⟨d', v', q1, q2, q3⟩
      · rw [z] at e2; cases e2
      · rw [q1] at e2
        cases e2
        refine ⟨a, v', rfl, ?_, k _ _ G H h w (Grow.refl _ _) q3⟩
        rw [← q2]
        exact DGet.f ha
    · exact h.elim
  · exact h.elim
/-- k in d -/
def oDIn (neg : Bool) : D → D → (R → Prop) → Prop
  | e, .dct ks ds, Φ => (match keyD e with
    | some ky => Φ (.fr (.bl (if neg then !(lookD ks ds ky).isSome else (lookD ks ds ky).isSome)))
    | none => False)
  | _, _, _ => False
def rDIn (neg : Bool) : R2 := fun y x H Q => ∃ a o, x = .ref a ∧ DGet H a y o ∧ Q (.bl (if neg then !o.isSome else o.isSome)) H
theorem op2_din {neg : Bool} : Op2 K (oDIn neg) (rDIn neg) := fun G H d e v u Φ Q w s1 s2 h k => by
  unfold oDIn at h
  split at h
  · rename_i e ks ds Φ
    split at h
    · rename_i ky e1
      obtain ⟨a, o, kvs, rfl, ha, rfl, r⟩ := s2.dict
      have := key_sh s1 e1
      subst this
      refine ⟨a, valV kvs ky, rfl, DGet.f ha, ?_⟩
      rcases look_val ky r with ⟨z, y⟩ | ⟨d', v', q1, q2, q3⟩
      · rw [z] at h
        rw [y]
        exact k _ _ G H h w (Grow.refl _ _) (.bl _)
      · rw [q1] at h
        rw [q2]
        exact k _ _ G H h w (Grow.refl _ _) (.bl _)
    · exact h.elim
  · exact h.elim
end
section
variable {X : Cx} {G0 : Gh} {H0 : Hp} {wa wb : WE} {pos : Pos} {o i : Expr}
theorem i_dix2 (hu : X.A.units + 1 < cLine) (ho : PEI X G0 H0 o wa) (hi : PEI X G0 H0 i wb) (hs : NoSl i) : PEI X G0 H0 (.Subscript o i pos) (w2 oDIx wa wb) :=
  pe_imp (pe_dget hu ho hi hs) fun _ _ _ h => tx2 op2_dix h
theorem op_din (hu : X.A.units + 1 < cLine) : OpR X (compareOp .In) (rDIn false) := by
  intro pins s σ H x y v u Q I rx ry h
  obtain ⟨a, o, rfl, g, q⟩ := h
  cases ry
  exact d_in hu I g rx fun s' I' => ⟨.bl _, H, I', rfl, q⟩
theorem op_dnotIn (hu : X.A.units + 1 < cLine) : OpR X (compareOp .NotIn) (rDIn true) := by
  intro pins s σ H x y v u Q I rx ry h
  obtain ⟨a, o, rfl, g, q⟩ := h
  cases ry
  exact d_notIn hu I g rx fun s' I' => ⟨.bl _, H, I', rfl, q⟩
end
end Tv
/-! Tv26: dicts: displays, stores, walks, get. -/
namespace Tv
open PySem PySem.Spec PyProof.Rows L2
section
variable {K : PySem.W.Frag} {G0 G : Gh} {H0 H : Hp} {ρ : En} {σ : L2.St} {p : Addr} {o u : HO}
/-- an object that is no tuple, that is not frozen, is written -/
theorem FE.wrU (h : H p = some u) (h1 : ∀ xs, u ≠ .tup xs) (h2 : ∀ od w, u = .frz od w → ¬ NDct w) (hf : ¬ G.F p) : FE G H G (upd H p o) :=
  ⟨fun _ z => z, fun _ z => z, fun b o' z e => (upd_ne (show b ≠ p from fun q => hf (q ▸ z))).trans e, fun b ys e => by rw [upd_ne (fun q => by rw [q, h] at e; cases e; exact h1 _ rfl)]; exact e, fun b o' u' e n => by rw [upd_ne (fun q => by rw [q, h] at e; cases e; exact h2 _ _ rfl n)]; exact e⟩
theorem ndK {kvs : List (Key × V)} : ¬ NDct (.dK kvs) := fun z => z.1 kvs rfl
theorem Wd.wrU (w : Wd G H) (hf : ¬ G.F p) (hb : ¬ G.B p) : Wd G (upd H p o) := by
  refine ⟨fun b h => ?_, fun b h => ?_⟩
  · obtain ⟨⟨i, j, k, r, ns, e, l, q⟩, n⟩ := w.b b h
    exact ⟨⟨i, j, k, r, ns, (upd_ne (show b ≠ p from fun z => hb (z ▸ h))).trans e, ⟨l.1, (upd_ne (show r ≠ p from fun z => hf (z ▸ l.1))).trans l.2⟩, q⟩, n⟩
  · obtain ⟨o', e⟩ := w.f b h
    exact ⟨o', (upd_ne (show b ≠ p from fun z => hf (z ▸ h))).trans e⟩
theorem Sta.wrU (S : Sta K G0 H0 ρ G H σ) (f : FE G H G (upd H p o)) (hf : ¬ G.F p) (hb : ¬ G.B p) (h0 : H0 p = none) (hn : ¬ OwnA ρ σ p) : Sta K G0 H0 ρ G (upd H p o) σ := by
  refine ⟨S.wd.wrU hf hb, ⟨S.ex.f, S.ex.b, fun b o' z zb => ?_, S.ex.nf, S.ex.nb⟩, S.w0, fun j c q => ?_, fun j c q => ?_, S.ds, S.ln, S.bo⟩
  · rw [upd_ne (fun q => by rw [q, h0] at z; cases z)]
    exact S.ex.k b o' z zb
  · obtain ⟨v, e1, r⟩ := S.fr j c q
    exact ⟨v, e1, r.fe f⟩
  · obtain ⟨b, e1, ⟨p1, p2, p3⟩, z1⟩ := S.ow j c q
    have hbp : b ≠ p := fun z => hn ⟨j, c, q, z ▸ e1⟩
    exact ⟨b, e1, ⟨p1, p2, p3.fe f fun o' z => by rw [upd_ne hbp]; exact z⟩, z1⟩
/-- one's own object is written anew -/
theorem Sta.writeU {i : Nat} {a : Addr} {d d' : D} (s : Sta K G0 H0 ρ G H σ) (h : ρ[i]? = some (.ow d)) (e : σ[i]? = some (some (.ref a))) (f : FE G H G (upd H a o)) (n : Obw K G (upd H a o) a d') :
    Sta K G0 H0 (ρ.set i (.ow d')) G (upd H a o) σ := by
  obtain ⟨a', e', ⟨o1, o2, o3⟩, h0⟩ := s.ow i d h
  rw [e] at e'; cases e'
  have hi : i < ρ.length := (List.getElem?_eq_some_iff.mp h).1
  refine ⟨s.wd.wrU o1 o2, ⟨s.ex.f, s.ex.b, fun b o' z zb => ?_, s.ex.nf, s.ex.nb⟩, s.w0, fun j c q => ?_, fun j c q => ?_, fun j k c c' b q1 q2 q3 q4 => ?_, by rw [List.length_set]; exact s.ln, fun j c q => ?_⟩
  · rw [upd_ne (fun q => by rw [q, h0] at z; cases z)]
    exact s.ex.k b o' z zb
  · by_cases hj : i = j
    · subst hj
      rw [List.getElem?_set_self hi] at q; cases q
    · rw [List.getElem?_set_ne hj] at q
      obtain ⟨v, e1, r⟩ := s.fr j c q
      exact ⟨v, e1, r.fe f⟩
  · by_cases hj : i = j
    · subst hj
      rw [List.getElem?_set_self hi] at q; cases q
      exact ⟨a, e, ⟨o1, o2, n⟩, h0⟩
    · rw [List.getElem?_set_ne hj] at q
      obtain ⟨b, e1, ⟨p1, p2, p3⟩, z1⟩ := s.ow j c q
      have hba : b ≠ a := fun z => hj (s.ds i j d c a h q e (z ▸ e1))
      exact ⟨b, e1, ⟨p1, p2, p3.fe f fun o' z => by rw [upd_ne hba]; exact z⟩, z1⟩
  · have old : ∀ {m : Nat} {c : D}, (ρ.set i (.ow d'))[m]? = some (.ow c) → ∃ c', ρ[m]? = some (.ow c') := fun {m c} q => by
      by_cases hm : i = m
      · subst hm; exact ⟨d, h⟩
      · rw [List.getElem?_set_ne hm] at q; exact ⟨c, q⟩
    obtain ⟨_, r1⟩ := old q1
    obtain ⟨_, r2⟩ := old q2
    exact s.ds j k _ _ b r1 r2 q3 q4
  · by_cases hj : i = j
    · subst hj
      rw [List.getElem?_set_self hi] at q; cases q
    · rw [List.getElem?_set_ne hj] at q
      exact s.bo j c q
theorem merge_nd : ∀ (kvs acc : List (Key × V)), (acc.map (·.1) ++ kvs.map (·.1)).Nodup → mergeK acc kvs = acc ++ kvs
  | [], acc, _ => by rw [List.append_nil]; rfl
  | (k, v) :: kvs, acc, h => by
    have hk : k ∉ acc.map (·.1) := fun z => by
      rw [List.nodup_append] at h
      exact h.2.2 k z k List.mem_cons_self rfl
    have e : valV acc k = none := by
      cases q : valV acc k with
      | none => rfl
      | some x => exact absurd (valV_in q) hk
    have e2 : mergeK acc ((k, v) :: kvs) = mergeK (putK acc k v) kvs := rfl
    rw [e2, putK_new v e, merge_nd kvs (acc ++ [(k, v)]) (by rw [List.map_append, List.append_assoc]; exact h), List.append_assoc]
    rfl
end
/-! ### {k: .., ..} -/
section
variable {X : Cx} {G0 : Gh} {H0 : Hp} {wa wb : WE} {ws : WA} {pos p q : Pos} {e : Expr}
/-- the pairs of a display: keys that are written, values -/
def PPI (X : Cx) (G0 : Gh) (H0 : Hp) (pos : Pos) (keys : List (Option Expr)) (values : List Expr) (ks : List Key) (ws : WA) : Prop :=
  ∃ trs, PPs X pos keys values trs ∧ ∀ σ H Q, TAX X.K G0 H0 ws σ H (fun vs H' => Q ((ks.zip vs).map fun r => (kV r.1, r.2)) H') → tPairs trs σ H Q
theorem ppi_nil : PPI X G0 H0 pos [] [] [] wNil := ⟨[], pps_nil, fun σ H Q ⟨ρ, G, Φ, S, h, c⟩ => c [] ρ [] G H h S Stp.refl (LeE.refl _) .nil⟩
theorem tax_cons {K : PySem.W.Frag} {σ : L2.St} {H : Hp} {Q : List V → Hp → Prop} (h : TAX K G0 H0 (wCons wa ws) σ H Q) : TX K G0 H0 wa σ H fun x H1 => TAX K G0 H0 ws σ H1 fun xs H2 => Q (x :: xs) H2 := by
  obtain ⟨ρ, G, Φ, S, h, c⟩ := h
  refine ⟨ρ, G, _, S, h, fun r ρ' v G' H' q S' P L x => ⟨ρ', G', _, S', q, fun rs ρ2 vs G2 H2 q2 S2 P2 L2 x2 => ?_⟩⟩
  exact c (r :: rs) ρ2 (v :: vs) G2 H2 q2 S2 (P.trans S'.wd P2 L) (L2.trans L) (.cons (x.stp S'.wd P2 (S.hO L)) (x2.back fun a z => P.nn S'.wd z) fun d e p hp hd z => by
    subst e
    obtain ⟨a, ea, o, _⟩ := x
    obtain ⟨a', ea', hn⟩ := x2.fresh p hp hd
    rw [ea, ea'] at z
    cases z
    obtain ⟨ob, ho⟩ := o.2.2.tracked
    rw [hn] at ho; cases ho)
theorem ppi_cons {k : Key} {kx : Expr} {ks : List Key} {keys : List (Option Expr)} {values : List Expr} (hk : PE X kx (tC (kV k))) (hv : PEI X G0 H0 e wa) (h : PPI X G0 H0 pos keys values ks ws) : PPI X G0 H0 pos (some kx :: keys) (e :: values) (k :: ks) (wCons wa ws) := by
  obtain ⟨trs, h1, h2⟩ := h
  refine ⟨(tC (kV k), TX X.K G0 H0 wa) :: trs, pps_cons hk hv h1, fun σ H Q h => ?_⟩
  have t := tax_cons h
  show TX X.K G0 H0 wa σ H fun y H2 => tPairs trs σ H2 fun ps H3 => Q ((kV k, y) :: ps) H3
  obtain ⟨ρ, G, Φ, S, w, c⟩ := t
  exact ⟨ρ, G, Φ, S, w, fun r ρ' v G' H' q S' P L x => h2 σ H' _ (c r ρ' v G' H' q S' P L x)⟩
def wDct (ks : List Key) (ws : WA) : WE := fun ρ Φ => ws ρ fun rs ρ' => rs.length = ks.length ∧ match frs' rs with
  | some ds => Φ (.ow (.dct ks ds)) ρ'
  | none => False
set_option maxHeartbeats 400000 in
theorem i_dct {keys : List (Option Expr)} {values : List Expr} {ks : List Key} (h : PPI X G0 H0 pos keys values ks ws) (hn : ks.Nodup) (hall : keys.all (·.isSome) = true := by rfl) (hl : keys.length = values.length := by rfl) (h0 : keys ≠ [] := by exact List.cons_ne_nil _ _)
    (h15 : keys.length ≤ 15 := by decide) (hk15 : ks.length ≤ 15 := by decide) : PEI X G0 H0 (.Dict keys values pos) (wDct ks ws) := by
  obtain ⟨trs, h1, h2⟩ := h
  refine ⟨fun pins s σ H Q I h => ?_⟩
  obtain ⟨ρ, G, Φ, S, h, c⟩ := h
  refine thn ((pe_disp h1 hall hl h0 h15).run pins s σ H (fun v H1 => ∃ (l : Addr) (kvs : List (Key × V)), v = .ref l ∧ H1 l = some (.dK kvs) ∧ ∀ od, Q (.ref l) (upd H1 l (.frz od (.dK kvs)))) I ?_) fun u s1 ⟨v, H1, I1, r, l, kvs, ev, hl', q⟩ => ?_
  · intro l hp
    have nb : ¬ G.B l := fun z => by
      obtain ⟨xs, e⟩ := S.wd.bagl z
      rw [hp] at e; cases e
    have nf : ¬ G.F l := fun z => by
      obtain ⟨xs, e⟩ := S.wd.f l z
      rw [hp] at e; cases e
    have no : ¬ OwnA ρ σ l := fun z => by
      obtain ⟨o, e⟩ := S.tracked z
      rw [hp] at e; cases e
    have h0' : H0 l = none := S.none0 hp
    have g : Grow G H G (upd H l (.dK [])) := Grow.laid hp
    have S1 := S.grow (S.wd.laid hp) g
    refine h2 σ _ _ ⟨ρ, G, _, S1, h, fun rs ρ' vs G2 H2 q S2 P2 L2 x => ?_⟩
    obtain ⟨lr, q⟩ := q
    split at q
    · rename_i ds eds
      have rr := frs_rep x eds
      have e1 := P2.k _ _ upd_same nb
      have lv : ks.length = vs.length := by rw [← lr]; exact x.length
      have nf2 : ¬ G2.F l := fun z => by
        rcases P2.nf l z with z | z | z
        · exact nf z
        · rw [upd_same] at z; cases z
        · exact no z
      have nb2 : ¬ G2.B l := fun z => by
        rcases P2.nb l z with z | z
        · exact nb z
        · rw [upd_same] at z; cases z
      have no2 : ¬ OwnA ρ' σ l := fun z => no (L2.own z)
      have em : mergeK [] (ks.zip vs) = ks.zip vs := by
        rw [merge_nd (ks.zip vs) [] (by
          rw [List.map_nil, List.nil_append, List.map_fst_zip (by omega)]
          exact hn)]
        rfl
      refine ⟨e1, ks.zip vs, rfl, by rw [List.length_zip]; omega, l, ks.zip vs, rfl, by rw [upd_same, em], fun od => ?_⟩
      rw [upd_upd]
      have f : FE G2 H2 G2 (upd H2 l (.frz od (.dK (ks.zip vs)))) := FE.wrU e1 (fun _ z => by cases z) (fun _ _ z => by cases z) nf2
      have S3 := S2.wrU f nf2 nb2 h0' no2
      refine c _ ρ' _ G2 _ q S3 ⟨P2.f, P2.b, fun a o' e nB => ?_, fun a z => ?_, fun a z => ?_⟩ L2 ⟨l, rfl, ⟨nf2, nb2, od, ks.zip vs, upd_same, List.map_fst_zip (by omega), ?_⟩, hp⟩
      · have hne : a ≠ l := fun z => by rw [z, hp] at e; cases e
        rw [upd_ne hne]
        exact P2.k a o' (by rw [upd_ne hne]; exact e) nB
      · rcases P2.nf a z with z | z | z
        · exact .inl z
        · refine .inr (.inl ?_)
          by_cases hne : a = l
          · rw [hne]; exact hp
          · rwa [upd_ne hne] at z
        · exact .inr (.inr z)
      · rcases P2.nb a z with z | z
        · exact .inl z
        · refine .inr ?_
          by_cases hne : a = l
          · rw [hne]; exact hp
          · rwa [upd_ne hne] at z
      · rw [List.map_snd_zip (by omega)]
        exact rr.fe f
    · exact q.elim
  · subst ev
    obtain ⟨od, I2⟩ := I1.lock hl' trivial
    exact ⟨.ref l, _, I2, r, q od⟩
end
end Tv
/-! Tv27: d[k] = v, walks over dicts, get. -/
namespace Tv
open PySem PySem.Spec PyProof.Rows L2
def repD : List Key → List D → Key → D → List D
  | k :: ks, x :: ds, z, d => (if k = z then d else x) :: repD ks ds z d
  | _, ds, _, _ => ds
def inK (ks : List Key) (k : Key) : Bool := ks.any fun z => decide (z = k)
def putKs (ks : List Key) (k : Key) : List Key := if inK ks k = true then ks else ks ++ [k]
def putDs (ks : List Key) (ds : List D) (k : Key) (d : D) : List D := if inK ks k = true then repD ks ds k d else ds ++ [d]
section
variable {K : PySem.W.Frag} {G : Gh} {H : Hp}
theorem rep_map {d : D} {v : V} (k : Key) (r : Rep K G H d v) : ∀ {kvs : List (Key × V)} {ds : List D}, RepL K G H ds (kvs.map (·.2)) → RepL K G H (repD (kvs.map (·.1)) ds k d) ((kvs.map fun kv => if kv.1 = k then (kv.1, v) else kv).map (·.2))
  | [], _, .nil => .nil
  | (k', v') :: kvs, _, .cons (d := d') (ds := ds') q t => by
    have ih := rep_map k r t
    by_cases e : k' = k
    · have e1 : repD (((k', v') :: kvs).map (·.1)) (d' :: ds') k d = d :: repD (kvs.map (·.1)) ds' k d := by
        show (if k' = k then d else d') :: _ = _
        rw [if_pos e]
      rw [e1]
      have e2 : (((k', v') :: kvs).map fun kv => if kv.1 = k then (kv.1, v) else kv).map (·.2) = v :: (kvs.map fun kv => if kv.1 = k then (kv.1, v) else kv).map (·.2) := by
        simp [e]
      rw [e2]
      exact .cons r ih
    · have e1 : repD (((k', v') :: kvs).map (·.1)) (d' :: ds') k d = d' :: repD (kvs.map (·.1)) ds' k d := by
        show (if k' = k then d else d') :: _ = _
        rw [if_neg e]
      rw [e1]
      have e2 : (((k', v') :: kvs).map fun kv => if kv.1 = k then (kv.1, v) else kv).map (·.2) = v' :: (kvs.map fun kv => if kv.1 = k then (kv.1, v) else kv).map (·.2) := by
        simp [e]
      rw [e2]
      exact .cons q ih
theorem put_rep {d : D} {v : V} {kvs : List (Key × V)} {ds : List D} (k : Key) (r : Rep K G H d v) (t : RepL K G H ds (kvs.map (·.2))) : (putK kvs k v).map (·.1) = putKs (kvs.map (·.1)) k ∧ RepL K G H (putDs (kvs.map (·.1)) ds k d) ((putK kvs k v).map (·.2)) := by
  have ea : inK (kvs.map (·.1)) k = kvs.any fun kv => decide (kv.1 = k) := by
    unfold inK
    rw [List.any_map]
    rfl
  unfold putK putKs putDs
  rw [ea]
  by_cases a : (kvs.any fun kv => decide (kv.1 = k)) = true
  · rw [if_pos a, if_pos a, if_pos a]
    refine ⟨?_, rep_map k r t⟩
    rw [List.map_map]
    refine List.map_congr_left fun p _ => ?_
    show (if p.1 = k then (p.1, v) else p).1 = p.1
    split <;> rfl
  · rw [if_neg a, if_neg a, if_neg a]
    rw [List.map_append, List.map_append]
    exact ⟨rfl, t.append (.cons r .nil)⟩
end
section
variable {X : Cx} {G0 : Gh} {H0 : Hp} {wv wk : WE} {pos p pos' : Pos} {e i : Expr} {x : Str} {j : Nat}
def dsetW (j : Nat) (rv rk : R) (ρ : En) (S : SK) : Prop := match rv, ρ[j]?, keyD rk.d with
  | .fr d, some (.ow (.dct ks ds)), some k => ks.length < 16000000 ∧ S.nx (ρ.set j (.ow (.dct (putKs ks k) (putDs ks ds k d))))
  | _, _, _ => False
theorem dsetW_inv {rv rk : R} {ρ : En} {S : SK} (h : dsetW j rv rk ρ S) : ∃ d ks ds k, rv = .fr d ∧ ρ[j]? = some (.ow (.dct ks ds)) ∧ keyD rk.d = some k ∧ ks.length < 16000000 ∧ S.nx (ρ.set j (.ow (.dct (putKs ks k) (putDs ks ds k d)))) := by
  unfold dsetW at h
  split at h
  · next e1 e2 => exact ⟨_, _, _, _, rfl, e1, e2, h.1, h.2⟩
  · exact h.elim
def sDSet (j : Nat) (wv wk : WE) : WS := fun ρ S => wv ρ fun rv ρ1 => (∃ d0, ρ1[j]? = some (.ow d0)) ∧ wk ρ1 fun rk ρ2 => dsetW j rv rk ρ2 S
set_option maxHeartbeats 400000 in
theorem s_dset (hu : X.A.units + 1 < cLine) (hX : X.H_0 = H0) (hv : PEI X G0 H0 e wv) (hi : PEI X G0 H0 i wk) (hN : X.N[j]? = some x := by rfl) (hvis : Vis X.env.scope x := by first | exact Or.inl rfl | exact Or.inr (Or.inl rfl) | exact Or.inr (Or.inr rfl))
    (hd : (x == ("__debug__" : Str)) = false := by decide) (hcd : (x == ("__classdict__" : Str)) = false := by decide) (hs : swapsWith e (some (.Subscript (.Name x p) i pos')) pos.line X.env = pure false := by rfl) :
    PSI X G0 H0 (.Assign [.Subscript (.Name x p) i pos'] e pos) (sDSet j wv wk) := by
  refine ⟨fun pins s σ H D I h => ?_⟩
  obtain ⟨ρ, G, S, s0, h, k⟩ := h
  have h1 : TX X.K G0 H0 wv σ H fun v H1 => ∃ rv ρ1 G1, Sta X.K G0 H0 ρ1 G1 H1 σ ∧ RepR X.K G1 H1 H rv v ∧ FE G H G1 H1 ∧ (∃ d0, ρ1[j]? = some (.ow d0)) ∧ wk ρ1 fun rk ρ2 => dsetW j rv rk ρ2 S :=
    ⟨ρ, G, _, s0, h, fun r ρ' v G' H' q S' P L y => ⟨r, ρ', G', S', y, P.fe s0.wd, q⟩⟩
  refine wpAny_Assign_Subscript (thn (hv.run pins s σ H _ I h1) fun r s1 ⟨v, H1, I1, rv, q1⟩ => ?_) hs
  obtain ⟨rv', ρ1, G1, S1, y1, F1, ⟨d0, e0⟩, q1⟩ := q1
  obtain ⟨a, ea, o1, z1⟩ := S1.ow j d0 e0
  have h2 : TX X.K G0 H0 wk σ H1 fun y H3 => ∃ rk ρ2 G3, Sta X.K G0 H0 ρ2 G3 H3 σ ∧ RepR X.K G3 H3 H1 rk y ∧ FE G1 H1 G3 H3 ∧ dsetW j rv' rk ρ2 S :=
    ⟨ρ1, G1, _, S1, q1, fun r ρ' v G' H' q S' P L y => ⟨r, ρ', G', S', y, P.fe S1.wd, q⟩⟩
  refine thn ((pe_var (pos := p) hN hvis hd hcd).run pins s1 σ H1 (fun x H2 => x = .ref a ∧ H2 = H1) I1 ⟨.ref a, ea, rfl, rfl⟩) fun u s2 ⟨x, H2, I2, rx, ex, eH⟩ => ?_
  subst ex
  subst eH
  obtain rfl : u = Value.ref a := rx
  refine thn (hi.run pins s2 σ H2 _ I2 h2) fun iv s3 ⟨y, H3, I3, ry, rk, ρ2, G3, S3, y3, F3, q3⟩ => ?_
  obtain ⟨d, ks, ds, ky, ev, e1, e2, hl, q3⟩ := dsetW_inv q3
  subst ev
  have rd : Rep X.K G3 H3 d v := Rep.fe F3 y1
  obtain ⟨a', ea', ⟨n1, n2, od0, kvs, ha, hk, rl⟩, z3⟩ := S3.ow j _ e1
  rw [ea] at ea'
  cases ea'
  subst hk
  have := key_sh y3.sh e2
  subst this
  have I4 := I3.unlock ha (fun o' u' z => by rw [hX, z3] at z; cases z)
  refine d_setItem hu I4 (DPut.k upd_same (by rw [sizeLine_eq]; rw [List.length_map] at hl; omega)) ry rv fun s4 I5 => ?_
  rw [upd_upd] at I5
  obtain ⟨od, I6⟩ := I5.lock upd_same trivial
  rw [upd_upd] at I6
  refine ⟨σ, _, I6, ?_⟩
  have f : FE G3 H3 G3 (upd H3 a (.frz od (.dK (putK kvs ky v)))) := FE.wrU ha (fun _ z => by cases z) (fun od w z n => by cases z; exact ndK n) n1
  obtain ⟨p1, p2⟩ := put_rep ky (rd.fe f) (rl.fe f)
  exact k.nx _ G3 _ σ q3 (S3.writeU e1 ea f ⟨od, putK kvs ky v, upd_same, p1, p2⟩) ((F1.trans F3).trans f)
end
end Tv
/-! Tv28: zip of a text and a tuple; pop of one's own list; walks over dicts. -/
namespace Tv
open PySem PySem.Spec PyProof.Rows L2
section
variable {X : Cx} {G0 : Gh} {H0 : Hp} {e e2 tg : Expr} {wa : WE} {ws : WA} {pos p tpos : Pos} {K : PySem.W.Frag} {G : Gh} {H : Hp} {elts : List Expr} {kk : Nat}
/-- how a walk over a text stands, at any turn -/
theorem dr_text {prog : Program} {w : World} {A : Around} (hh : A.handled = none) {h : Heap} {it : Addr} {x : Str} {t : Tok} {i : Nat} (st : h.IsStrIter it (strIterType x) x t i) :
    ∃ n P St, Draws prog w A it [it] n P St ∧ St i h ∧ i ≤ n ∧ (x.cps.size ≤ i ↔ i = n) ∧ (∀ v, i < n → P i v → ∃ c u, x.cps[i]? = some c ∧ v = .str ⟨#[c]⟩ u) ∧ (∀ h', St (i + 1) h' → h'.IsStrIter it (strIterType x) x t (i + 1)) := by
  by_cases c : i < x.cps.size
  · exact ⟨_, _, _, Draws.text hh it x t, st, Nat.le_of_lt c, ⟨fun z => absurd c (Nat.not_lt.mpr z), fun z => absurd c (z ▸ Nat.lt_irrefl _)⟩, fun v _ h => h, fun _ h => h⟩
  · have hx : x.cps[i]? = none := Array.getElem?_eq_none (Nat.le_of_not_lt c)
    refine ⟨i, fun _ _ => False, fun j h => j = i ∧ h.IsStrIter it (strIterType x) x t i, ?_, ⟨rfl, st⟩, Nat.le_refl _, ⟨fun _ => rfl, fun _ => Nat.le_of_not_lt c⟩, fun v z => absurd z (Nat.lt_irrefl _), fun _ z => absurd z.1 (Nat.succ_ne_self _)⟩
    refine ⟨fun _ _ st => let ⟨_, o, ho, _⟩ := st; ⟨o, ho⟩, fun _ _ _ st hk => let ⟨e, o, ho, r⟩ := st; ⟨e, o, hk it (by simp) o ho, r⟩, fun j s Q E hj st hQ => absurd st.1 (Nat.ne_of_lt hj), fun s Q E st hE => ?_⟩
    have st := st.2
    unfold strIterType at st
    split at st
    · exact wpAny_nextOf_ascii_end hh st hx hE
    · exact wpAny_nextOf_wide_end hh st hx hE
theorem dr_tup {prog : Program} {w : World} {A : Around} (hh : A.handled = none) {h : Heap} {it a : Addr} {items : Array Value} {i : Nat} (hne : a ≠ it) (st : h.IsTupleIter it a i) (hl : h.IsTuple a items) :
    ∃ n P St, Draws prog w A it [it, a] n P St ∧ St i h ∧ i ≤ n ∧ (items.size ≤ i ↔ i = n) ∧ (∀ v, i < n → P i v → items[i]? = some v) ∧ (∀ h', St (i + 1) h' → h'.IsTupleIter it a (i + 1)) := by
  by_cases c : i < items.size
  · exact ⟨_, _, _, Draws.tuple hh it a hne items, ⟨st, hl⟩, Nat.le_of_lt c, ⟨fun z => absurd c (Nat.not_lt.mpr z), fun z => absurd c (z ▸ Nat.lt_irrefl _)⟩, fun v _ h => h, fun _ h => h.1⟩
  · have hx : items[i]? = none := Array.getElem?_eq_none (Nat.le_of_not_lt c)
    refine ⟨i, fun _ _ => False, fun j h => j = i ∧ h.IsTupleIter it a i ∧ h.IsTuple a items, ?_, ⟨rfl, st, hl⟩, Nat.le_refl _, ⟨fun _ => rfl, fun _ => Nat.le_of_not_lt c⟩, fun v z => absurd z (Nat.lt_irrefl _), fun _ z => absurd z.1 (Nat.succ_ne_self _)⟩
    exact ⟨fun _ _ st => let ⟨_, ⟨o, ho, _⟩, _⟩ := st; ⟨o, ho⟩, fun _ _ _ st hk => ⟨st.1, st.2.1.at fun o e => hk it (by simp) o e, st.2.2.at fun o e => hk a (by simp) o e⟩, fun j s Q E hj st hQ => absurd st.1 (Nat.ne_of_lt hj), fun s Q E st hE => wpAny_nextOf_tuple_end hh st.2.1 st.2.2 hx hE⟩
def ItzS (K : PySem.W.Frag) (x : Str) (b : Addr) : It :=
  ⟨fun i H => i < x.cps.size ∧ ∃ (ys : List V) (y : V), SqT K H b ys ∧ ys[i]? = some y,
    fun i H v H' => ∃ T c y, v = .ref T ∧ H T = none ∧ H' = upd H T (.tup [.str ⟨#[c]⟩, y]) ∧ x.cps[i]? = some c ∧ ∀ ys, SqT K H b ys → ys[i]? = some y,
    fun i H => ∃ ys : List V, SqT K H b ys ∧ (x.cps.size ≤ i ∨ ys.length ≤ i)⟩
theorem turn_zipS {P : Program} {w : World} {b z TI TO i1 i2 : Addr} {x : Str} {t : Tok} (hb : b ≠ i2) (D : ZipSep2 z TI TO i1 i2 [i1] [i2, b]) :
    Turn P w K (.Tuple elts kk tpos) (ItzS K x b) [z, TI, TO, i1, i2] z (fun i h => IsZip h z TI TO .none ∧ IsTupOf2 h TI (.ref i1) (.ref i2) ∧ (∃ x y, IsTupOf2 h TO x y) ∧ h.IsStrIter i1 (strIterType x) x t i ∧ h.IsTupleIter i2 b i) where
  mem := by simp
  obj := fun i h st c hc => by
    obtain ⟨hz, hTI, ⟨x, y, hTO⟩, ⟨o1, e1, _, d1⟩, ⟨o2, e2, _, d2⟩⟩ := st
    have e' : c = z ∨ c = TI ∨ c = TO ∨ c = i1 ∨ c = i2 := by simpa using hc
    rcases e' with q | q | q | q | q
    · rw [q]; exact ⟨_, hz, fun v q => nomatch q⟩
    · rw [q]; exact ⟨_, hTI, fun v q => nomatch q⟩
    · rw [q]; exact ⟨_, hTO, fun v q => nomatch q⟩
    · rw [q]; exact ⟨o1, e1, fun v q => by rw [d1] at q; cases q⟩
    · rw [q]; exact ⟨o2, e2, fun v q => by rw [d2] at q; cases q⟩
  keep := fun i h h' st k => by
    obtain ⟨hz, hTI, ⟨x, y, hTO⟩, ⟨o1, e1, r1⟩, h2⟩ := st
    exact ⟨k z (by simp) _ hz, k TI (by simp) _ hTI, ⟨x, y, k TO (by simp) _ hTO⟩, ⟨o1, k i1 (by simp) _ e1, r1⟩, h2.at fun o q => k i2 (by simp) o q⟩
  item := by
    intro X hP hw hK hc i pins s σ H E I hf st hg
    subst hP hw hK
    obtain ⟨hz, hTI, ⟨x0, y0, hTO⟩, h1, h2⟩ := st
    obtain ⟨hlt, ys, y, hqy, hy⟩ := hg
    obtain ⟨its2, rv2, p2, _⟩ := I.tuple hqy
    obtain ⟨u2, hu2, ru2⟩ := rv2.get hy
    have hzl : z < s.heap.objs.size := Heap.lt_size hz
    have hd := I.ok.hd hc
    obtain ⟨n1, P1, St1, D1, s1, l1, f1, g1, k1⟩ := dr_text (prog := X.prog) (w := X.w) (A := X.A.in1) hd h1
    obtain ⟨n2, P2, St2, D2, s2, l2, f2, g2, k2⟩ := dr_tup (prog := X.prog) (w := X.w) (A := X.A.in1) hd hb h2 (show s.heap.IsTuple b its2.toArray from p2)
    have hl1 : i < n1 := Nat.lt_of_le_of_ne l1 fun q => absurd hlt (Nat.not_lt.mpr (f1.mpr q))
    have hl2 : i < n2 := Nat.lt_of_le_of_ne l2 fun q => by
      have z := f2.mpr q
      have z2 : its2.toArray[i]? = some u2 := by simpa using hu2
      rw [Array.getElem?_eq_none z] at z2
      cases z2
    refine wpAny_pyNext_zipD2_item D D1 D2 hz hTI hTO s1 s2 hl1 hl2 fun x1 x2 h' tk hx1 hx2 z' TO' h1' h2' hT hsz hk => ?_
    obtain ⟨c, u, hcx, rfl⟩ := g1 _ hl1 hx1
    have hx2' := g2 _ hl2 hx2
    have e2 : u2 = x2 := by
      have : its2.toArray[i]? = some u2 := by simpa using hu2
      rw [this] at hx2'; cases hx2'; rfl
    subst e2
    refine ⟨_, rfl, wpAny_letOwnedTupleGo_zip (s := { s with heap := h', toks := tk }) z' fun h'' z'' sb => ?_⟩
    have hT2 : h''.get? s.heap.objs.size = some { cls := .type "tuple", data := .seq #[.str ⟨#[c]⟩ u, u2] } := (sb.2 _ (Nat.ne_of_gt hzl)).trans hT
    have new : ObjOk X.prog X.w (upd H s.heap.objs.size (.tup [.str ⟨#[c]⟩, y])) h'' s.heap.objs.size (.tup [.str ⟨#[c]⟩, y]) :=
      ⟨by show 2 ≤ sizeLine; decide, [.str ⟨#[c]⟩ u, u2], .cons ⟨_, rfl⟩ (.cons ru2 .nil), ⟨_, hT2, rfl, _, rfl⟩⟩
    have I1 : Inv X pins σ (upd H s.heap.objs.size (.tup [.str ⟨#[c]⟩, y])) { s with heap := h'', toks := tk } :=
      I.turnedNew (t' := tk) (ch := [z, TI, TO, i1, i2]) (fun c o hb q => (sb.2 c (fun q' => hb (by simp [q']))).trans (hk c o (fun q' => hb (by simp [q'])) (fun q' => hb (by simp [q'])) (fun q' => hb (by simp [q'])) (fun q' => hb (by simp [q'])) q)) hf (Nat.le_refl _) new
    refine ⟨.ref s.heap.objs.size, _, I1, rfl, ⟨_, c, y, rfl, I.hok.fresh (Nat.le_refl _), rfl, hcx, fun l hl => by rw [I.tuple_inj hl hqy]; exact hy⟩, ⟨z'', ?_, ⟨.str ⟨#[c]⟩ u, u2, ?_⟩, ?_, ?_⟩, fun c hcm => ?_⟩
    · exact (sb.2 _ D.TIz).trans (hk _ _ D.TIz D.TITO D.TIi1 D.TIi2 hTI)
    · exact (sb.2 _ D.TOz).trans TO'
    · obtain ⟨o, q, r⟩ := k1 _ h1'
      exact ⟨o, (sb.2 _ D.zi1.symm).trans q, r⟩
    · exact (k2 _ h2').at fun o q => (sb.2 _ D.zi2.symm).trans q
    · have hlt : c < s.heap.objs.size := by
        have e' : c = z ∨ c = TI ∨ c = TO ∨ c = i1 ∨ c = i2 := by simpa using hcm
        rcases e' with q | q | q | q | q
        · rw [q]; exact hzl
        · rw [q]; exact Heap.lt_size hTI
        · rw [q]; exact Heap.lt_size hTO
        · rw [q]; obtain ⟨_, e1, _⟩ := h1; exact Heap.lt_size e1
        · rw [q]; obtain ⟨_, e2, _⟩ := h2; exact Heap.lt_size e2
      rw [upd_ne (Nat.ne_of_lt hlt)]
      exact (hf c hcm).1
  done := by
    intro X hP hw hK hc i pins s σ H E I hf st hg
    subst hP hw hK
    obtain ⟨hz, hTI, ⟨x0, y0, hTO⟩, h1, h2⟩ := st
    obtain ⟨ys, hqy, hend⟩ := hg
    obtain ⟨its2, rv2, p2, _⟩ := I.tuple hqy
    have l2' := rv2.length
    have hd := I.ok.hd hc
    obtain ⟨n1, P1, St1, D1, s1, l1, f1, g1, k1⟩ := dr_text (prog := X.prog) (w := X.w) (A := X.A.in1) hd h1
    obtain ⟨n2, P2, St2, D2, s2, l2, f2, g2, k2⟩ := dr_tup (prog := X.prog) (w := X.w) (A := X.A.in1) hd hb h2 (show s.heap.IsTuple b its2.toArray from p2)
    refine wpAny_pyNext_zipD2_end D D1 D2 hz hTI hTO s1 s2 l1 l2 ?_ fun h' tk hk => ⟨rfl, I.turnedL (t' := tk) (ch := [z, TI, TO, i1, i2]) (fun c o hb q =>
      hk c o (fun q' => hb (by simp [q'])) (fun q' => hb (by simp [q'])) (fun q' => hb (by simp [q'])) (fun q' => hb (by simp [q'])) q) hf⟩
    rcases hend with q | q
    · exact .inl (f1.mp q)
    · exact .inr (f2.mp (by simp; omega))
  self := fun A i s Q E st h => wpAny_pyIter_zip st.1 h
theorem itr_zipS {x : Str} {b : Addr} {ys : List V} {es : List D} (l2 : SqT K H b ys) (r2 : RepL K G H es ys) : ItR K (ItzS K x b) G H (zpD (sgD x) es) := fun i G' H' w f => by
  have l2' := SqT.fe f l2
  have r2' := r2.fe f
  have lx : (sgD x).length = x.cps.size := by unfold sgD; rw [List.length_map, Array.length_toList]
  refine ⟨fun h => ⟨ys, l2', ?_⟩, fun d e => ?_⟩
  · unfold zpD at h
    rw [List.length_zipWith, lx] at h
    have e2 := r2.length
    omega
  · obtain ⟨d1, d2, e1, e2, rfl⟩ := zpD_get e
    obtain ⟨c, hc, rfl⟩ := sgD_get e1
    obtain ⟨u, e4, ru⟩ := r2'.get e2
    refine ⟨⟨(Array.getElem?_eq_some_iff.mp hc).1, ys, u, l2', e4⟩, fun v H'' y => ?_⟩
    obtain ⟨T, c', y', rfl, hT, rfl, hc', hy⟩ := y
    have h4 := hy ys l2'
    rw [e4] at h4
    rw [hc] at hc'
    cases h4; cases hc'
    exact ⟨G', w.laid hT, Grow.laid hT, .tup (SqT.of upd_same) (.cons (.str _) (.cons (ru.fe ((Grow.laid hT).fe w)) .nil))⟩
def wZipS (ws : WA) : WI := fun ρ Φ => ws ρ fun rs ρ' => match rs with
  | [.fr (.str x), .fr (.tup es)] => Φ (zpD (sgD x) es) ρ'
  | _ => False
theorem p_zipS (hg : Gl X "zip") (hm : X.mg "zip" = none) (ha : PAI X G0 H0 [e, e2] ws) (hs : starEach [e, e2] X.env = (false, eval e X.env) :: starEach [e2] X.env := by rfl) (hpl : (backTo pos (starEach [e2] X.env)).any (·.1) = false := by rfl) :
    PII X G0 H0 (.Tuple elts kk tpos) (.Call (.Name "zip" p) [e, e2] [] pos) (wZipS ws) := by
  refine ⟨fun pins s σ H R I h => ?_⟩
  refine Call_ (ld_blt I hg hm PyProof.Rows.boot_zip (PyProof.Rows.callWith_type1 (thn (ha.run pos pins s σ H _ I (?_ : TAX X.K G0 H0 ws σ H fun vs H1 => ∃ x b ys, vs = [.str x, .ref b] ∧ SqT X.K H1 b ys ∧ R (ItzS X.K x b) H1)) fun us s1 ⟨vs, H1, I1, r1, x, b, ys, ex, hqy, q⟩ => ?_) hs hpl))
  · obtain ⟨ρ, G, Φ, S, h, c⟩ := h
    refine ⟨ρ, G, _, S, h, fun rs ρ' vs G' H' q S' P L x => ?_⟩
    split at q
    · cases x with
      | cons x1 xr n =>
        cases xr with
        | cons x2 xr n2 =>
          cases xr
          cases x1 with
          | str y =>
            cases x2 with
            | tup l2 r2 => exact ⟨_, _, _, rfl, l2, c _ ρ' _ G' H' q S' P L (itr_zipS l2 r2)⟩
    · exact q.elim
  · subst ex
    cases r1 with
    | cons r rr =>
      cases rr with
      | cons r' rr =>
        cases rr
        cases r'
        obtain ⟨t, rfl⟩ := r
        obtain ⟨its2, rv2, p2, _⟩ := I1.tuple hqy
        have p2' : s1.heap.IsTuple b its2.toArray := p2
        have hbl : b < s1.heap.objs.size := by obtain ⟨o, ho, _⟩ := id p2'; exact Heap.lt_size ho
        have fresh5 : ∀ c, c ∈ [s1.heap.objs.size + 4, s1.heap.objs.size + 2, s1.heap.objs.size + 3, s1.heap.objs.size, s1.heap.objs.size + 1] → FpOk X pins H1 c := fun c hcm => by
          have e' : c = s1.heap.objs.size + 4 ∨ c = s1.heap.objs.size + 2 ∨ c = s1.heap.objs.size + 3 ∨ c = s1.heap.objs.size ∨ c = s1.heap.objs.size + 1 := by simpa using hcm
          have hle : s1.heap.objs.size ≤ c := by
            rcases e' with z | z | z | z | z
            · rw [z]; exact Nat.le_add_right _ _
            · rw [z]; exact Nat.le_add_right _ _
            · rw [z]; exact Nat.le_add_right _ _
            · rw [z]; exact Nat.le_refl _
            · rw [z]; exact Nat.le_add_right _ _
          exact I1.fpOk hle (I1.hok.fresh hle)
        refine zip_begins2 (begins_text x t) (begins_tuple b its2.toArray) trivial p2' fun h' hz hTI hTO h1 h2 hsz hk => wpAny_pyIter_zip hz ?_
        have I2 : Inv X pins σ H1 { s1 with heap := h' } := I1.kept (t' := s1.toks) hk
        have D : ZipSep2 (s1.heap.objs.size + 4) (s1.heap.objs.size + 2) (s1.heap.objs.size + 3) s1.heap.objs.size (s1.heap.objs.size + 1) [s1.heap.objs.size] [s1.heap.objs.size + 1, b] :=
          zip_sep2 (N := s1.heap.objs.size) (fp1 := []) (fp2 := [b]) (fun c hc => by cases hc) (fun c hc => by
            have : c = b := by simpa using hc
            rw [this]; exact hbl)
        refine ⟨s1.heap.objs.size + 4, [s1.heap.objs.size + 4, s1.heap.objs.size + 2, s1.heap.objs.size + 3, s1.heap.objs.size, s1.heap.objs.size + 1], _, _, H1, rfl, I2, turn_zipS (t := t) (Nat.ne_of_lt (Nat.lt_succ_of_lt hbl)) D, ⟨hz, hTI, ⟨_, _, hTO⟩, ⟨_, h1, rfl, rfl⟩, ⟨_, h2, rfl, rfl⟩⟩, fresh5, q⟩
end
/-! ### pop -/
section
variable {X : Cx} {G0 : Gh} {H0 : Hp} {wa wb : WE} {a b : Expr} {x y z : Str} {i j l : Nat} {K : PySem.W.Frag}
def popF (ds : List D) (Φ : D → List D → Prop) : Prop := ∃ d, ds = ds.dropLast ++ [d] ∧ Φ d ds.dropLast
theorem popF_of {d : D} {ds : List D} {Φ : D → List D → Prop} (h : Φ d ds) : popF (ds ++ [d]) Φ := ⟨d, by rw [List.dropLast_concat], by rw [List.dropLast_concat]; exact h⟩
theorem rep_pop {G : Gh} {H : Hp} {ds : List D} {xs : List V} {d : D} (r : RepL K G H ds xs) (e : ds = ds.dropLast ++ [d]) : ∃ v, xs[xs.length - 1]? = some v ∧ Rep K G H d v ∧ RepL K G H ds.dropLast xs.dropLast := by
  have l := r.length
  have hl : ds.length = ds.dropLast.length + 1 := by
    have := congrArg List.length e
    rw [List.length_append] at this
    exact this
  have e1 : ds[xs.length - 1]? = some d := by
    rw [← l]
    have e2 : ds.length - 1 = ds.dropLast.length := by omega
    rw [e2]
    conv => lhs; rw [e]
    simp
  obtain ⟨v, e2, r2⟩ := r.get e1
  refine ⟨v, e2, r2, ?_⟩
  rw [List.dropLast_eq_take, List.dropLast_eq_take, l]
  exact r.take _
/-- y = x.pop() -/
def sSetPop (j i : Nat) : WS := fun ρ S => match ρ[i]? with
  | some (.ow (.lst ds)) => popF ds fun d ds' => j < ρ.length ∧ S.nx ((ρ.set i (.ow (.lst ds'))).set j (.fr d))
  | _ => False
theorem s_setPop {p px apos cpos pos : Pos} (pe : ∀ {to : TE}, PE X (.Name x px) to → PE X (.Call (.Attribute (.Name x px) "pop" apos) [] [] cpos) (tBM0 X.K "list" rPop to)) (hN : X.N.Nodup) (hi : X.N[i]? = some x) (hj : X.N[j]? = some y) (hy : Loc X.env.scope y)
    (hv : Vis X.env.scope x := by first | exact Or.inl rfl | exact Or.inr (Or.inl rfl) | exact Or.inr (Or.inr rfl)) (hd : (x == ("__debug__" : Str)) = false := by decide) (hcd : (x == ("__classdict__" : Str)) = false := by decide)
    (hs : swapsWith (.Call (.Attribute (.Name x px) "pop" apos) [] [] cpos) (some (.Name y p)) pos.line X.env = pure false := by rfl) (hf : X.fn y = true ∨ X.env.scope.names.lookup y = some .local := by first | exact .inl rfl | exact .inr rfl | assumption) :
    PSI X G0 H0 (.Assign [.Name y p] (.Call (.Attribute (.Name x px) "pop" apos) [] [] cpos) pos) (sSetPop j i) := by
  refine ps_imp (ps_set hN hj hy (pe (pe_var hi hv hd hcd)) hs hf) fun D σ H h => ?_
  obtain ⟨ρ, G, S, s, h, k⟩ := h
  unfold sSetPop at h
  split at h
  · rename_i ds e
    obtain ⟨d, e2, h2, h⟩ := h
    obtain ⟨a, e1, o1, z1⟩ := s.ow i _ e
    obtain ⟨xs, hx, rx⟩ := o1.2.2
    obtain ⟨v, hv', rv, rl⟩ := rep_pop rx e2
    refine ⟨.ref a, e1, .inl ⟨rfl, _, .inl (.inl hx)⟩, a, xs, v, rfl, rfl, hx, hv', ?_⟩
    have f : FE G H G (upd H a (.lst xs.dropLast)) := FE.wr hx o1.1
    obtain ⟨s2, f2⟩ := s.write (d' := .lst ds.dropLast) (o := .lst xs.dropLast) e e1 hx ⟨_, upd_same, rl.fe f⟩
    have s3 := s2.put' (i := j) (r := .fr d) (w := v) (by rw [List.length_set]; exact h2) (rv.fe f) (fun _ _ z => by cases z) trivial
    exact k.nx _ G _ _ h s3 f2
  · exact h.elim
/-- z.append((a, b, x.pop())) -/
def sAppPop (l i : Nat) (wa wb : WE) : WS := fun ρ S => (∃ es0, ρ[l]? = some (.ow (.lst es0))) ∧ wa ρ fun r1 ρ1 => wb ρ1 fun r2 ρ2 => match r1, r2, ρ2[l]?, ρ2[i]? with
  | .fr d1, .fr d2, some (.ow (.lst es)), some (.ow (.lst ds)) => popF ds fun d ds' => l ≠ i ∧ es.length < sizeLine ∧ S.nx ((ρ2.set i (.ow (.lst ds'))).set l (.ow (.lst (es ++ [.tup [d1, d2, d]]))))
  | _, _, _, _ => False
theorem s_appPop {px pz apos apos2 cpos cpos2 tpos pos' : Pos} {kt : Nat} (pe : ∀ {to : TE}, PE X (.Name x px) to → PE X (.Call (.Attribute (.Name x px) "pop" apos) [] [] cpos) (tBM0 X.K "list" rPop to))
    (pe2 : ∀ {to : TE} {t : TA}, PE X (.Name z pz) to → PA X [.Tuple [a, b, .Call (.Attribute (.Name x px) "pop" apos) [] [] cpos] kt tpos] t → PE X (.Call (.Attribute (.Name z pz) "append" apos2) [.Tuple [a, b, .Call (.Attribute (.Name x px) "pop" apos) [] [] cpos] kt tpos] [] cpos2) (tBM X.K "list" rAppend to t))
    (pa : ∀ {ta tb tc : TE}, PE X a ta → PE X b tb → PE X (.Call (.Attribute (.Name x px) "pop" apos) [] [] cpos) tc → PA X [.Tuple [a, b, .Call (.Attribute (.Name x px) "pop" apos) [] [] cpos] kt tpos] (tCons (tTup (tCons ta (tCons tb (tCons tc tNil)))) tNil))
    (h1 : PEI X G0 H0 a wa) (h2 : PEI X G0 H0 b wb) (hi : X.N[i]? = some x) (hl : X.N[l]? = some z)
    (hv : Vis X.env.scope x := by first | exact Or.inl rfl | exact Or.inr (Or.inl rfl) | exact Or.inr (Or.inr rfl)) (hd : (x == ("__debug__" : Str)) = false := by decide) (hcd : (x == ("__classdict__" : Str)) = false := by decide)
    (hv2 : Vis X.env.scope z := by first | exact Or.inl rfl | exact Or.inr (Or.inl rfl) | exact Or.inr (Or.inr rfl)) (hd2 : (z == ("__debug__" : Str)) = false := by decide) (hcd2 : (z == ("__classdict__" : Str)) = false := by decide)
    (hs : swapsWith (.Call (.Attribute (.Name z pz) "append" apos2) [.Tuple [a, b, .Call (.Attribute (.Name x px) "pop" apos) [] [] cpos] kt tpos] [] cpos2) none pos'.line X.env = pure false := by rfl) :
    PSI X G0 H0 (.Expr (.Call (.Attribute (.Name z pz) "append" apos2) [.Tuple [a, b, .Call (.Attribute (.Name x px) "pop" apos) [] [] cpos] kt tpos] [] cpos2) pos') (sAppPop l i wa wb) := by
  refine ps_imp (ps_expr (pe2 (pe_var hl hv2 hd2 hcd2) (pa h1 h2 (pe (pe_var hi hv hd hcd)))) hs) fun D σ H h => ?_
  obtain ⟨ρ, G, S, s, ⟨⟨es0, eL⟩, h⟩, k⟩ := h
  obtain ⟨aL, eL1, oL, zL⟩ := s.ow l _ eL
  obtain ⟨ys0, hy0, _⟩ := oL.2.2
  refine ⟨.ref aL, eL1, .inl ⟨rfl, _, .inl (.inl hy0)⟩, ?_⟩
  refine ⟨ρ, G, _, s, h, fun r1 ρ1 v1 G1 H1 q1 s1 P1 L1 x1 => ?_⟩
  refine ⟨ρ1, G1, _, s1, q1, fun r2 ρ2 v2 G2 H2 q2 s2 P2 L2 x2 => ?_⟩
  split at q2
  · rename_i d1 d2 es ds el ei
    obtain ⟨d, ed, hli, hlen, q⟩ := q2
    obtain ⟨a2, e2, o2, z2⟩ := s2.ow i _ ei
    obtain ⟨xs, hx, rx⟩ := o2.2.2
    obtain ⟨v, hv', rv, rl⟩ := rep_pop rx ed
    refine ⟨.ref a2, e2, .inl ⟨rfl, _, .inl (.inl hx)⟩, a2, xs, v, rfl, rfl, hx, hv', ?_⟩
    have f : FE G2 H2 G2 (upd H2 a2 (.lst xs.dropLast)) := FE.wr hx o2.1
    obtain ⟨s3, f3⟩ := s2.write (d' := .lst ds.dropLast) (o := .lst xs.dropLast) ei e2 hx ⟨_, upd_same, rl.fe f⟩
    refine ⟨show (3 : Nat) ≤ _ by decide, fun T hT => ?_⟩
    have g : Grow G2 (upd H2 a2 (.lst xs.dropLast)) G2 (upd (upd H2 a2 (.lst xs.dropLast)) T (.tup [v1, v2, v])) := Grow.laid hT
    have s4 := s3.grow (s3.wd.laid hT) g
    have r1 : Rep X.K G2 (upd H2 a2 (.lst xs.dropLast)) d1 v1 := Rep.fe ((P2.fe s1.wd).trans f) x1
    have r2 : Rep X.K G2 (upd H2 a2 (.lst xs.dropLast)) d2 v2 := Rep.fe f x2
    have rt : Rep X.K G2 (upd (upd H2 a2 (.lst xs.dropLast)) T (.tup [v1, v2, v])) (.tup [d1, d2, d]) (.ref T) :=
      .tup (SqT.of upd_same) (.cons (r1.fe (g.fe s3.wd)) (.cons (r2.fe (g.fe s3.wd)) (.cons ((rv.fe f).fe (g.fe s3.wd)) .nil)))
    have el' : (ρ2.set i (.ow (.lst ds.dropLast)))[l]? = some (.ow (.lst es)) := by rw [List.getElem?_set_ne (Ne.symm hli)]; exact el
    obtain ⟨a5, e5, o5, z5⟩ := s4.ow l _ el'
    rw [eL1] at e5; cases e5
    obtain ⟨ys, hy, ry⟩ := o5.2.2
    refine ⟨_, ys, _, rfl, rfl, hy, by rw [← ry.length]; exact hlen, ?_⟩
    have f5 : FE G2 _ G2 (upd (upd (upd H2 a2 (.lst xs.dropLast)) T (.tup [v1, v2, v])) aL (.lst (ys ++ [.ref T]))) := FE.wr hy o5.1
    obtain ⟨s6, f6⟩ := s4.write (d' := .lst (es ++ [.tup [d1, d2, d]])) (o := .lst (ys ++ [.ref T])) el' eL1 hy ⟨_, upd_same, (ry.snoc rt).fe f5⟩
    exact k.nx _ G2 _ _ q s6 (((P1.fe s.wd).trans (P2.fe s1.wd)).trans ((f3.trans (g.fe s3.wd)).trans f6))
  · exact q2.elim
end
end Tv
/-! Tv29: steps for displays, items, pops, zips of texts. -/
namespace Tv
open PySem PySem.Spec PyProof.Rows L2
section
variable {ρ : En} {S : SK} {ws : WA} {wa wb : WE} {Φ : R → En → Prop} {Φi : List D → En → Prop} {rs : List R} {ds es : List D} {ks : List Key} {i j l : Nat} {d e x : D} {k : Key} {Φr : R → Prop}
def zipSW (rs : List R) (Φ : List D → En → Prop) (ρ : En) : Prop := match rs with
  | [.fr (.str x), .fr (.tup es)] => Φ (zpD (sgD x) es) ρ
  | _ => False
theorem e_zipS (h : ws ρ fun rs ρ' => zipSW rs Φi ρ') : wZipS ws ρ Φi := h
theorem e_zipSW {x : Str} (h : Φi (zpD (sgD x) es) ρ) : zipSW [.fr (.str x), .fr (.tup es)] Φi ρ := h
def dctW (ks : List Key) (rs : List R) (Φ : R → En → Prop) (ρ : En) : Prop := rs.length = ks.length ∧ match frs' rs with
  | some ds => Φ (.ow (.dct ks ds)) ρ
  | none => False
theorem e_dct (h : ws ρ fun rs ρ' => dctW ks rs Φ ρ') : wDct ks ws ρ Φ := h
theorem e_dctW (l : rs.length = ks.length) (q : frs' rs = some ds) (h : Φ (.ow (.dct ks ds)) ρ) : dctW ks rs Φ ρ := by unfold dctW; rw [q]; exact ⟨l, h⟩
theorem e_dix2 (q : keyD e = some k) (q2 : lookD ks ds k = some x) (h : Φr (.fr x)) : oDIx (.dct ks ds) e Φr := by
  show (match (keyD e).bind (lookD ks ds) with | some x => Φr (.fr x) | none => False)
  rw [q]
  show (match lookD ks ds k with | some x => Φr (.fr x) | none => False)
  rw [q2]
  exact h
theorem e_setPop (q : ρ[i]? = some (.ow (.lst (ds ++ [d])))) (lj : Nat.blt j ρ.length = true) (h : S.nx ((ρ.set i (.ow (.lst ds))).set j (.fr d))) : sSetPop j i ρ S := by
  unfold sSetPop
  rw [q]
  exact popF_of ⟨Nat.blt_eq.mp lj, h⟩
def appPopW (l i : Nat) (r1 r2 : R) (ρ : En) (S : SK) : Prop := match r1, r2, ρ[l]?, ρ[i]? with
  | .fr d1, .fr d2, some (.ow (.lst es)), some (.ow (.lst ds)) => popF ds fun d ds' => l ≠ i ∧ es.length < sizeLine ∧ S.nx ((ρ.set i (.ow (.lst ds'))).set l (.ow (.lst (es ++ [.tup [d1, d2, d]]))))
  | _, _, _, _ => False
theorem e_appPop (q : ρ[l]? = some (.ow (.lst es))) (h : wa ρ fun r1 ρ1 => wb ρ1 fun r2 ρ2 => appPopW l i r1 r2 ρ2 S) : sAppPop l i wa wb ρ S := ⟨⟨_, q⟩, h⟩
theorem e_appPopW {d1 d2 : D} (q : ρ[l]? = some (.ow (.lst es))) (q2 : ρ[i]? = some (.ow (.lst (ds ++ [d])))) (li : l ≠ i) (z : es.length < 16777216) (h : S.nx ((ρ.set i (.ow (.lst ds))).set l (.ow (.lst (es ++ [.tup [d1, d2, d]]))))) : appPopW l i (.fr d1) (.fr d2) ρ S := by
  unfold appPopW
  rw [q, q2]
  exact popF_of ⟨li, by rw [sizeLine_eq]; exact z, h⟩
def isiW (t : String) (r : R) (Φ : R → En → Prop) (ρ : En) : Prop := match r.d.ty with
  | some n => Φ (.fr (.bl (isTy n t))) ρ
  | none => False
theorem e_isi {t : String} (h : wa ρ fun r ρ' => isiW t r Φ ρ') : wIsi t wa ρ Φ := h
theorem e_isiW {t n : String} {r : R} (q : r.d.ty = some n) (h : Φ (.fr (.bl (isTy n t))) ρ) : isiW t r Φ ρ := by unfold isiW; rw [q]; exact h
theorem e_dset {wv wk : WE} (h : wv ρ fun rv ρ1 => (∃ d0, ρ1[j]? = some (.ow d0)) ∧ wk ρ1 fun rk ρ2 => dsetW j rv rk ρ2 S) : sDSet j wv wk ρ S := h
theorem e_dsetW {rk : R} (q : ρ[j]? = some (.ow (.dct ks ds))) (q2 : keyD rk.d = some k) (l : ks.length < 16000000) (h : S.nx (ρ.set j (.ow (.dct (putKs ks k) (putDs ks ds k d))))) : dsetW j (.fr d) rk ρ S := by
  unfold dsetW
  rw [q, q2]
  exact ⟨l, h⟩
end
end Tv
/-! Tv30: for over one's own list, which is held while it is walked; loops over ranges. -/
namespace Tv
open PySem PySem.Spec PyProof.Rows L2
section
variable {X : Cx} {G0 : Gh} {H0 : Hp} {e tg : Expr} {es : List Expr} {pos : Pos} {K : PySem.W.Frag} {σ : L2.St} {G : Gh} {H : Hp} {ρ : En}
/-- what was there, but for what one's variables hold (i's own aside) -/
noncomputable def lessO (ρ : En) (σ : L2.St) (i : Nat) (H : Hp) : Hp := open Classical in fun a => if ∃ j d, j ≠ i ∧ ρ[j]? = some (.ow d) ∧ σ[j]? = some (some (.ref a)) then none else H a
theorem lessO_le {i : Nat} {a : Addr} {o : HO} (h : lessO ρ σ i H a = some o) : H a = some o := by
  unfold lessO at h
  split at h
  · cases h
  · exact h
theorem lessO_ow {i j : Nat} {a : Addr} {d : D} (hj : j ≠ i) (h : ρ[j]? = some (.ow d)) (e : σ[j]? = some (some (.ref a))) : lessO ρ σ i H a = none := by
  unfold lessO
  exact if_pos ⟨j, d, hj, h, e⟩
theorem lessO_eq {i : Nat} {a : Addr} (h : ∀ j d, j ≠ i → ρ[j]? = some (.ow d) → σ[j]? = some (some (.ref a)) → False) : lessO ρ σ i H a = H a := by
  unfold lessO
  exact if_neg fun ⟨j, d, hj, h1, h2⟩ => h j d hj h1 h2
/-- what has come back from a walk over one's own list -/
def backB (i : Nat) (ds : List D) : Nat → En → En → En
  | k, c0 :: ρ0, c :: ρ => (match c with
    | .bo _ => if k = i then .ow (.lst ds) else (match c0 with | .bo d => .bo d | _ => .no)
    | .no => .no
    | .fr d => .fr d
    | .ow d => .ow d) :: backB i ds (k + 1) ρ0 ρ
  | _, _, [] => []
  | k, [], c :: ρ => .no :: backB i ds k [] ρ
theorem backB_no {i : Nat} {ds : List D} : ∀ {k : Nat} {ρ : En} {j : Nat} {c : Cell}, (backB i ds k [] ρ)[j]? = some c → c = .no
  | _, [], _, _, e => by cases e
  | _, _ :: _, 0, c, e => by
    have e' : some Cell.no = some c := e
    exact (Option.some.inj e').symm
  | k, _ :: ρ, j + 1, c, e => backB_no (k := k) (ρ := ρ) (j := j) e
theorem backB_get {i : Nat} {ds : List D} : ∀ {k : Nat} {ρ0 ρ : En} {j : Nat} {c : Cell}, (backB i ds k ρ0 ρ)[j]? = some c → c = .no ∨ ∃ c0 c1, ρ0[j]? = some c0 ∧ ρ[j]? = some c1 ∧ c = (match c1 with
    | .bo _ => if k + j = i then .ow (.lst ds) else (match c0 with | .bo d => .bo d | _ => .no)
    | .no => .no
    | .fr d => .fr d
    | .ow d => .ow d)
  | k, [], [], j, c, e => by cases e
  | k, _ :: _, [], _, _, e => by cases e
  | k, [], _ :: _, _, _, e => .inl (backB_no e)
  | k, c0 :: ρ0, c1 :: ρ, 0, c, e => .inr ⟨c0, c1, rfl, rfl, by
    have e' : some _ = some c := e
    rw [← Option.some.inj e']
    rfl⟩
  | k, c0 :: ρ0, c1 :: ρ, j + 1, c, e => by
    have e' : (backB i ds (k + 1) ρ0 ρ)[j]? = some c := e
    rcases backB_get e' with h | ⟨a, b, h1, h2, h3⟩
    · exact .inl h
    · refine .inr ⟨a, b, h1, h2, h3.trans ?_⟩
      rw [show k + 1 + j = k + (j + 1) by omega]
theorem backB_len {i : Nat} {ds : List D} : ∀ {k : Nat} {ρ0 ρ : En}, (backB i ds k ρ0 ρ).length = ρ.length
  | _, [], [] => rfl
  | _, _ :: _, [] => rfl
  | k, [], _ :: ρ => by show (backB i ds k [] ρ).length + 1 = _; rw [backB_len]; rfl
  | k, _ :: ρ0, _ :: ρ => by show (backB i ds (k + 1) ρ0 ρ).length + 1 = _; rw [backB_len]; rfl
/-- within the walk -/
theorem Sta.lend {i : Nat} {a : Addr} {ds : List D} (S : Sta K G0 H0 ρ G H σ) (h : ρ[i]? = some (.ow (.lst ds))) (e : σ[i]? = some (some (.ref a))) :
    Sta K (G.anc fun j v => σ[j]? = some (some v)) (lessO ρ σ i H) (ρ.set i (.bo (.lst ds))) (G.anc fun j v => σ[j]? = some (some v)) H σ ∧ lessO ρ σ i H a = H a := by
  have hi : i < ρ.length := (List.getElem?_eq_some_iff.mp h).1
  obtain ⟨a', e', o, h0⟩ := S.ow i _ h
  rw [e] at e'; cases e'
  have ha : lessO ρ σ i H a = H a := lessO_eq fun j d hj h1 h2 => hj (S.ds j i d _ a h1 h h2 e)
  have fF : ∀ b o, G.F b → H b = some o → lessO ρ σ i H b = some o := fun b o hF hb => by
    rw [lessO_eq fun j d hj h1 h2 => ?_]
    · exact hb
    · obtain ⟨b', e1, o1, _⟩ := S.ow j d h1
      rw [h2] at e1; cases e1
      exact o1.1 hF
  have tT : ∀ b u, H b = some u → (∀ xs, u ≠ .lst xs) → (∀ ob u', u = .frz ob u' → NDct u') → lessO ρ σ i H b = some u := fun b u hb h1 h2 => by
    rw [lessO_eq fun j d hj q1 q2 => ?_]
    · exact hb
    · obtain ⟨b', e1, o1, _⟩ := S.ow j d q1
      rw [q2] at e1; cases e1
      have o2 := o1.2.2
      cases d with
      | lst ys => obtain ⟨xs, z, _⟩ := o2; rw [hb] at z; cases z; exact h1 _ rfl
      | dct ks ys => obtain ⟨ob, xs, z, _⟩ := o2; rw [hb] at z; cases z; exact (h2 _ _ rfl).1 _ rfl
      | dcu ks ys => obtain ⟨ob, xs, z, _⟩ := o2; rw [hb] at z; cases z; exact (h2 _ _ rfl).2 _ rfl
      | _ => exact o2.elim
  have fe : FE G H (G.anc fun j v => σ[j]? = some (some v)) (lessO ρ σ i H) := by
    refine ⟨fun _ z => z, fun _ z => z, fun b o z q => fF b o z q, fun b xs q => ?_, fun b ob u q n => ?_⟩
    · exact tT b (.tup xs) q (fun ys z => by cases z) (fun ob' u' z => by cases z)
    · exact tT b (.frz ob u) q (fun ys z => by cases z) (fun ob' u' z => by cases z; exact n)
  have w0 : Wd (G.anc fun j v => σ[j]? = some (some v)) (lessO ρ σ i H) := by
    refine ⟨fun b hb => ?_, fun b hb => ?_⟩
    · obtain ⟨⟨x, y, z, r, ns, q, l, rest⟩, nf⟩ := S.wd.b b hb
      refine ⟨⟨x, y, z, r, ns, ?_, ⟨l.1, fF _ _ l.1 l.2⟩, rest⟩, nf⟩
      rw [lessO_eq fun j d hj h1 h2 => ?_]
      · exact q
      · obtain ⟨b', e1, o1, _⟩ := S.ow j d h1
        rw [h2] at e1; cases e1
        exact o1.2.1 hb
    · obtain ⟨o, q⟩ := S.wd.f b hb
      exact ⟨o, fF _ _ hb q⟩
  have ob : ∀ {j : Nat} {c : Cell}, (ρ.set i (.bo (.lst ds)))[j]? = some c → (j = i ∧ c = .bo (.lst ds)) ∨ (j ≠ i ∧ ρ[j]? = some c) := fun {j c} q => by
    by_cases hj : i = j
    · subst hj
      rw [List.getElem?_set_self hi] at q
      cases q; exact .inl ⟨rfl, rfl⟩
    · rw [List.getElem?_set_ne hj] at q
      exact .inr ⟨fun z => hj z.symm, q⟩
  refine ⟨⟨S.wd.anc, ⟨fun _ z => z, fun _ z => z, fun b o q _ => lessO_le q, fun _ z => .inl z, fun _ z => .inl z⟩, w0, fun j d q => ?_, fun j d q => ?_, fun j k d d' b q1 q2 q3 q4 => ?_, by rw [List.length_set]; exact S.ln, fun j d q => ?_⟩, ha⟩
  · rcases ob q with ⟨_, z⟩ | ⟨_, q⟩
    · cases z
    · obtain ⟨v, e1, r⟩ := S.fr j d q
      exact ⟨v, e1, r.fe FE.anc⟩
  · rcases ob q with ⟨_, z⟩ | ⟨hj, q⟩
    · cases z
    · obtain ⟨b, e1, o1, z1⟩ := S.ow j d q
      exact ⟨b, e1, ⟨o1.1, o1.2.1, o1.2.2.anc⟩, lessO_ow hj q e1⟩
  · rcases ob q1 with ⟨_, z⟩ | ⟨_, q1⟩
    · cases z
    · rcases ob q2 with ⟨_, z⟩ | ⟨_, q2⟩
      · cases z
      · exact S.ds j k d d' b q1 q2 q3 q4
  · rcases ob q with ⟨rfl, z⟩ | ⟨hj, q⟩
    · cases z
      refine ⟨.ref a, e, .inr ⟨a, rfl, o.2.1, o.2.2.fe fe fun o' z => by rw [ha]; exact z⟩, e⟩
    · obtain ⟨v, e1, r, _⟩ := S.bo j d q
      refine ⟨v, e1, ?_, e1⟩
      rcases r with r | ⟨b, eb, nb, r⟩
      · exact .inl ((r.fe (S.ex.fe S.w0)).fe fe)
      · obtain ⟨o', ho⟩ := r.tracked
        have hb1 : H b = some o' := S.ex.k b o' ho nb
        have hb2 : lessO ρ σ i H b = some o' := by
          rw [lessO_eq fun j d hj h1 h2 => ?_]
          · exact hb1
          · obtain ⟨b', e1, _, z1⟩ := S.ow j d h1
            rw [h2] at e1; cases e1
            rw [z1] at ho; cases ho
        refine .inr ⟨b, eb, fun hB => ?_, r.fe ((S.ex.fe S.w0).trans fe) fun o2 z2 => ?_⟩
        · rcases S.ex.nb b hB with z | z
          · exact nb z
          · rw [z] at ho; cases ho
        · rw [ho] at z2; cases z2; exact hb2
/-- nothing that was there is lost -/
theorem Sta.lendG {i : Nat} {A : Nat → V → Prop} {G' : Gh} {H' : Hp} (S : Sta K G0 H0 ρ G H σ) (g : Grow (G.anc A) (lessO ρ σ i H) G' H') : Grow G0 H0 G' H' ∧ ∀ a, lessO ρ σ i H a = none → i < ρ.length → (∀ d, ρ[i]? = some (.ow d) → σ[i]? ≠ some (some (.ref a))) → H0 a = none ∨ H0 a = none := by
  have back : ∀ b, lessO ρ σ i H b = none → H0 b = none := fun b z => by
    unfold lessO at z
    split at z
    · rename_i q
      obtain ⟨j, d, hj, h1, h2⟩ := q
      obtain ⟨b', e1, _, z1⟩ := S.ow j d h1
      rw [h2] at e1; cases e1
      exact z1
    · exact S.none0 z
  refine ⟨⟨fun b z => g.f b (S.ex.f b z), fun b z => g.b b (S.ex.b b z), fun b o z nb => ?_, fun b z => ?_, fun b z => ?_⟩, fun a z _ _ => .inl (back a z)⟩
  · refine g.k b o ?_ fun hB => ?_
    · rw [lessO_eq fun j d hj h1 h2 => ?_]
      · exact S.ex.k b o z nb
      · obtain ⟨b', e1, _, z1⟩ := S.ow j d h1
        rw [h2] at e1; cases e1
        rw [z1] at z; cases z
    · rcases S.ex.nb b hB with q | q
      · exact nb q
      · rw [q] at z; cases z
  · rcases g.nf b z with q | q
    · exact S.ex.nf b q
    · exact .inr (back b q)
  · rcases g.nb b z with q | q
    · exact S.ex.nb b q
    · exact .inr (back b q)
theorem Sta.lend0 {i : Nat} (S : Sta K G0 H0 ρ G H σ) {b : Addr} (z : lessO ρ σ i H b = none) : H0 b = none := by
  unfold lessO at z
  split at z
  · rename_i q
    obtain ⟨j, d, hj, h1, h2⟩ := q
    obtain ⟨b', e1, _, z1⟩ := S.ow j d h1
    rw [h2] at e1; cases e1
    exact z1
  · exact S.none0 z
/-- behind the walk -/
theorem Sta.fetch {i : Nat} {a : Addr} {ds : List D} {ρ' : En} {G' : Gh} {H' : Hp} {σ' : L2.St} (S : Sta K G0 H0 ρ G H σ) (h : ρ[i]? = some (.ow (.lst ds))) (e : σ[i]? = some (some (.ref a)))
    (T : Sta K (G.anc fun j v => σ[j]? = some (some v)) (lessO ρ σ i H) ρ' G' H' σ') : Sta K G0 H0 (backB i ds 0 ρ ρ') G' H' σ' := by
  obtain ⟨a', e', o, h0⟩ := S.ow i _ h
  rw [e] at e'; cases e'
  have ha := (S.lend h e).2
  obtain ⟨xs, hx, rx⟩ := o.2.2
  have hxl : lessO ρ σ i H a = some (.lst xs) := ha.trans hx
  have own : Own K G' H' a (.lst ds) := by
    refine ⟨fun z => ?_, fun z => ?_, xs, T.ex.k a _ hxl o.2.1, ?_⟩
    · rcases T.ex.nf a z with q | q
      · exact o.1 q
      · rw [hxl] at q; cases q
    · rcases T.ex.nb a z with q | q
      · exact o.2.1 q
      · rw [hxl] at q; cases q
    · have w0 := T.w0
      have fe0 := T.ex.fe T.w0
      have q := (S.lend h e).1.bo i (.lst ds) (List.getElem?_set_self (List.getElem?_eq_some_iff.mp h).1)
      obtain ⟨v, e1, r, e2⟩ := q
      rw [e] at e1; cases e1
      rcases r with r | ⟨b, eb, nb, ys, hb, r⟩
      · cases r with
        | lst l r => exact absurd l.1 o.1
      · cases eb
        rw [hxl] at hb; cases hb
        exact r.fe fe0
  have key : ∀ {j : Nat} {c : Cell}, (backB i ds 0 ρ ρ')[j]? = some c → (j = i ∧ c = .ow (.lst ds) ∧ σ'[i]? = some (some (.ref a))) ∨ (∃ d, c = .bo d ∧ ρ[j]? = some (.bo d) ∧ σ'[j]? = σ[j]?) ∨ c = .no ∨ (ρ'[j]? = some c ∧ ∀ d, c ≠ .bo d) := fun {j c} q => by
    rcases backB_get q with h3 | ⟨c0, c1, h1, h2, h3⟩
    · exact .inr (.inr (.inl h3))
    subst h3
    cases c1 with
    | no => exact .inr (.inr (.inl rfl))
    | fr d => exact .inr (.inr (.inr ⟨h2, nofun⟩))
    | ow d => exact .inr (.inr (.inr ⟨h2, nofun⟩))
    | bo d =>
      obtain ⟨v, e1, _, e2⟩ := T.bo j d h2
      have e2 : σ[j]? = some (some v) := e2
      dsimp only
      by_cases hj : 0 + j = i
      · rw [if_pos hj]
        rw [Nat.zero_add] at hj
        subst hj
        rw [e] at e2; cases e2
        exact .inl ⟨rfl, rfl, e1⟩
      · rw [if_neg hj]
        cases c0 with
        | bo d0 => exact .inr (.inl ⟨d0, rfl, h1, by rw [e1, e2]⟩)
        | _ => exact .inr (.inr (.inl rfl))
  refine ⟨T.wd, (S.lendG T.ex).1, S.w0, fun j d q => ?_, fun j d q => ?_, fun j k d d' b q1 q2 q3 q4 => ?_, by rw [backB_len]; exact T.ln, fun j d q => ?_⟩
  · rcases key q with ⟨_, z, _⟩ | ⟨d', z, _⟩ | z | ⟨z, _⟩
    · cases z
    · cases z
    · cases z
    · exact T.fr j d z
  · rcases key q with ⟨hj, z, s⟩ | ⟨d', z, _⟩ | z | ⟨z, _⟩
    · cases z
      subst hj
      exact ⟨a, s, own, h0⟩
    · cases z
    · cases z
    · obtain ⟨b, e1, o1, z1⟩ := T.ow j d z
      exact ⟨b, e1, o1, S.lend0 z1⟩
  · have tw : ∀ {m : Nat} {c : D}, (backB i ds 0 ρ ρ')[m]? = some (.ow c) → σ'[m]? = some (some (.ref b)) → (m = i ∧ b = a) ∨ (ρ'[m]? = some (.ow c) ∧ b ≠ a) := fun {m c} q s => by
      rcases key q with ⟨hj, z, s'⟩ | ⟨d', z, _⟩ | z | ⟨z, _⟩
      · subst hj
        rw [s] at s'; cases s'
        exact .inl ⟨rfl, rfl⟩
      · cases z
      · cases z
      · obtain ⟨b', e1, o1, z1⟩ := T.ow m c z
        rw [s] at e1; cases e1
        exact .inr ⟨z, fun hba => by subst hba; rw [hxl] at z1; cases z1⟩
    rcases tw q1 q3 with ⟨m1, b1⟩ | ⟨m1, b1⟩
    · rcases tw q2 q4 with ⟨m2, b2⟩ | ⟨m2, b2⟩
      · rw [m1, m2]
      · exact absurd b1 b2
    · rcases tw q2 q4 with ⟨m2, b2⟩ | ⟨m2, b2⟩
      · exact absurd b2 b1
      · exact T.ds j k d d' b m1 m2 q3 q4
  · rcases key q with ⟨_, z, _⟩ | ⟨d', z, h1, s⟩ | z | ⟨_, z⟩
    · cases z
    · cases z
      obtain ⟨v, e1, r, an⟩ := S.bo j d h1
      exact ⟨v, by rw [s]; exact e1, r, an⟩
    · cases z
    · exact absurd rfl (z d)
def sForB (i : Nat) (W : WTg) (body : WS) : WS := fun ρ S => match ρ[i]? with
  | some (.ow (.lst ds)) => forD W body ⟨fun ρ' => S.nx (backB i ds 0 ρ ρ'), S.rt, S.bk, S.ct⟩ ds (ρ.set i (.bo (.lst ds)))
  | some (.fr (.lst ds)) => forD W body S ds ρ
  | _ => False
variable {body : List Stmt} {wb : WS} {vs : List Nat} {W : WTg}
theorem s_forB {i : Nat} {x : Str} {p : Pos} (hp : PassesOwn (model X.prog X.w) X.A X.env X.xe) (hc : X.calm = true) (hN : X.N[i]? = some x) (hv : Vis X.env.scope x) (hg : ∀ G1 H1, PGI X G1 H1 vs tg W) (hb : ∀ G1 H1, PBI X G1 H1 body wb)
    (hd : (x == ("__debug__" : Str)) = false := by decide) (hcd : (x == ("__classdict__" : Str)) = false := by decide) (hs : ∀ z, foldedSetIterable (.Name x p) X.env z = pure z := by intro _; rfl) : PSI X G0 H0 (.For tg (.Name x p) body [] pos) (sForB i W wb) := by
  have hg' : PG X tg (fun v σ H Q => ∃ G1 H1, TGX X.K G1 H1 vs W v σ H Q) := ⟨fun pins s σ H v u Q I r ⟨G1, H1, h⟩ => (hg G1 H1).run pins s σ H v u Q I r h⟩
  have hb' : PSs X body (fun D σ H => ∃ G1 H1 ρ G S, Sta X.K G1 H1 ρ G H σ ∧ wb ρ S ∧ KS X.K G1 H1 G H S D) := ⟨fun pins s σ H D I ⟨G1, H1, h⟩ => (hb G1 H1).run pins s σ H D I h⟩
  refine ps_imp (ps_for hp hc (pi_seq (pe_var hN hv hd hcd)) hg' hb' hs) fun D σ H h => ?_
  obtain ⟨ρ, G, S, s, h, k⟩ := h
  unfold sForB at h
  split at h
  · rename_i ds e
    obtain ⟨a, ea, o, h0⟩ := s.ow i _ e
    obtain ⟨xs, hx, rx⟩ := o.2.2
    have hi : i < ρ.length := (List.getElem?_eq_some_iff.mp e).1
    obtain ⟨sl, hla⟩ := s.lend e ea
    have hxl := hla.trans hx
    refine ⟨.ref a, ea, a, rfl, .inl ⟨xs, .inl (.inl hx), ?_⟩⟩
    refine ⟨fun j m σ' H' => m = ds.length - j ∧ j ≤ ds.length ∧ ∃ ρ' G', Sta X.K (G.anc fun j v => σ[j]? = some (some v)) (lessO ρ σ i H) ρ' G' H' σ' ∧ FE G H G' H' ∧ forD W wb ⟨fun ρ' => S.nx (backB i ds 0 ρ ρ'), S.rt, S.bk, S.ct⟩ (ds.drop j) ρ', ⟨ds.length, by omega, Nat.zero_le _, _, _, sl, FE.anc, h⟩, ?_⟩
    rintro j m σ' H' ⟨rfl, hj, ρ', G', s', f, q'⟩
    have hH' : H' a = some (.lst xs) := s'.ex.k a _ hxl o.2.1
    have rx' : RepL X.K G' H' ds xs := rx.fe f
    have kn : ∀ ρ4 G4 H4 σ4, S.nx (backB i ds 0 ρ ρ4) → Sta X.K (G.anc fun j v => σ[j]? = some (some v)) (lessO ρ σ i H) ρ4 G4 H4 σ4 → FE G' H' G4 H4 → D.nx σ4 H4 := fun ρ4 G4 H4 σ4 q4 s4 f4 => k.nx _ G4 H4 σ4 q4 (s.fetch e ea s4) (f.trans f4)
    have sql : SqL X.K H' a xs := .inl (.inl hH')
    by_cases hlt : j < ds.length
    · obtain ⟨d, ed⟩ : ∃ d, ds[j]? = some d := ⟨ds[j], by simp [hlt]⟩
      obtain ⟨v, ev, rv⟩ := rx'.get ed
      refine .inr ⟨⟨xs, v, sql, ev⟩, fun σ2 H2 => j + 1 ≤ ds.length ∧ ∃ ρ2 G2, Sta X.K (G.anc fun j v => σ[j]? = some (some v)) (lessO ρ σ i H) ρ2 G2 H2 σ2 ∧ FE G H G2 H2 ∧ forD W wb ⟨fun ρ' => S.nx (backB i ds 0 ρ ρ'), S.rt, S.bk, S.ct⟩ (ds.drop (j + 1)) ρ2, fun σ2 H2 z => ⟨ds.length - (j + 1), by omega, rfl, z⟩, fun x H2 y => ?_⟩
      obtain ⟨y1, y2⟩ := y
      subst y1
      have y3 := y2 xs sql
      rw [ev] at y3; cases y3
      have e2 : ds.drop j = d :: ds.drop (j + 1) := by
        rw [List.drop_eq_getElem_cons hlt]
        have : ds[j] = d := by simpa [hlt] using ed
        rw [this]
      rw [e2] at q'
      refine ⟨_, _, ρ', G', d, _, s', rv, q', fun ρ3 σ3 q3 s3 _ => ⟨_, _, ρ3, G', _, s3, q3, ?_⟩⟩
      exact ⟨fun ρ4 G4 H4 σ4 q4 s4 f4 => ⟨hlt, ρ4, G4, s4, f.trans f4, q4⟩, fun r v G4 H4 q4 w4 g4 x4 => k.rt r v G4 H4 q4 w4 (s.lendG g4).1 (x4.back fun b z => s.lend0 z), fun ρ4 G4 H4 σ4 q4 s4 f4 => kn ρ4 G4 H4 σ4 q4 s4 f4, fun ρ4 G4 H4 σ4 q4 s4 f4 => ⟨hlt, ρ4, G4, s4, f.trans f4, q4⟩⟩
    · have e' : j = ds.length := by omega
      subst e'
      rw [List.drop_length] at q'
      exact .inl ⟨⟨xs, sql, by rw [← rx.length]; exact Nat.le_refl _⟩, kn ρ' G' H' σ' q' s' (FE.refl _ _)⟩
  · rename_i ds e
    obtain ⟨v, ev, rv⟩ := s.fr i _ e
    cases rv with
    | lst l rx =>
    rename_i a xs
    refine ⟨.ref a, ev, a, rfl, .inl ⟨xs, l.sq, ?_⟩⟩
    have it := itr_list (K := X.K) l rx
    refine ⟨fun j m σ' H' => m = ds.length - j ∧ j ≤ ds.length ∧ ∃ ρ' G', Sta X.K G0 H0 ρ' G' H' σ' ∧ FE G H G' H' ∧ forD W wb S (ds.drop j) ρ', ⟨ds.length, by omega, Nat.zero_le _, ρ, G, s, FE.refl _ _, h⟩, ?_⟩
    rintro j m σ' H' ⟨rfl, hj, ρ', G', s', f, q'⟩
    obtain ⟨it1, it2⟩ := it j G' H' s'.wd f
    have kf : KS X.K G0 H0 G' H' S D := k.fe f
    by_cases hlt : j < ds.length
    · obtain ⟨d, ed⟩ : ∃ d, ds[j]? = some d := ⟨ds[j], by simp [hlt]⟩
      obtain ⟨go, yl⟩ := it2 d ed
      refine .inr ⟨go, fun σ2 H2 => j + 1 ≤ ds.length ∧ ∃ ρ2 G2, Sta X.K G0 H0 ρ2 G2 H2 σ2 ∧ FE G H G2 H2 ∧ forD W wb S (ds.drop (j + 1)) ρ2, fun σ2 H2 z => ⟨ds.length - (j + 1), by omega, rfl, z⟩, fun x H2 y => ?_⟩
      obtain ⟨G2, w2, g2, r2⟩ := yl x H2 y
      have e2 : ds.drop j = d :: ds.drop (j + 1) := by
        rw [List.drop_eq_getElem_cons hlt]
        have : ds[j] = d := by simpa [hlt] using ed
        rw [this]
      rw [e2] at q'
      have f2 : FE G H G2 H2 := f.trans (g2.fe s'.wd)
      refine ⟨_, _, ρ', G2, d, _, s'.grow w2 g2, r2, q', fun ρ3 σ3 q3 s3 _ => ⟨_, _, ρ3, G2, _, s3, q3, ?_⟩⟩
      have k2 := kf.fe (g2.fe s'.wd)
      exact ⟨fun ρ4 G4 H4 σ4 q4 s4 f4 => ⟨hlt, ρ4, G4, s4, f2.trans f4, q4⟩, k2.rt, fun ρ4 G4 H4 σ4 q4 s4 f4 => k2.nx ρ4 G4 H4 σ4 q4 s4 f4, fun ρ4 G4 H4 σ4 q4 s4 f4 => ⟨hlt, ρ4, G4, s4, f2.trans f4, q4⟩⟩
    · have e' : j = ds.length := by omega
      subst e'
      rw [List.drop_length] at q'
      exact .inl ⟨it1 (Nat.le_refl _), kf.nx ρ' G' H' σ' q' s' (FE.refl _ _)⟩
  · exact h.elim
theorem e_forB {i : Nat} {ds : List D} {S : SK} (q : ρ[i]? = some (.ow (.lst ds))) (h : forD W wb ⟨fun ρ' => S.nx (backB i ds 0 ρ ρ'), S.rt, S.bk, S.ct⟩ ds (ρ.set i (.bo (.lst ds)))) : sForB i W wb ρ S := by unfold sForB; rw [q]; exact h
theorem e_forBf {i : Nat} {ds : List D} {S : SK} (q : ρ[i]? = some (.fr (.lst ds))) (h : forD W wb S ds ρ) : sForB i W wb ρ S := by unfold sForB; rw [q]; exact h
/-! ### loops, told by what is left -/
theorem rngD_none {n i : Nat} (h : n ≤ i) : (rngD 0 n).drop i = [] := List.drop_eq_nil_iff.mpr (by unfold rngD; rw [List.length_map, List.length_range]; exact h)
theorem rngD_some {n i : Nat} (h : i < n) : (rngD 0 n).drop i = .int (i : Int) :: (rngD 0 n).drop (i + 1) := by
  have hl : i < (rngD 0 n).length := by unfold rngD; rw [List.length_map, List.length_range]; exact h
  rw [List.drop_eq_getElem_cons hl]
  congr 1
  simp [rngD]
theorem forR_inv {W : WTg} {body : WS} {S : SK} {n : Nat} (I : Nat → En → Prop) (hs : ∀ i, i < n → ∀ ρ, I i ρ → ∀ nxt : En → Prop, (∀ ρ', I (i + 1) ρ' → nxt ρ') → W (.int (i : Int)) ρ fun ρ' => body ρ' ⟨nxt, S.rt, S.nx, nxt⟩) (hd : ∀ ρ, I n ρ → S.nx ρ) (ρ : En) (h : I 0 ρ) : forD W body S (rngD 0 n) ρ := by
  have main : ∀ k i ρ, i + k = n → I i ρ → forD W body S ((rngD 0 n).drop i) ρ := fun k => by
    induction k with
    | zero =>
      intro i ρ e q
      rw [rngD_none (by omega)]
      obtain rfl : i = n := by omega
      exact hd ρ q
    | succ k ih =>
      intro i ρ e q
      rw [rngD_some (by omega)]
      exact hs i (by omega) ρ q _ fun ρ' q' => ih (i + 1) ρ' (by omega) q'
  exact main n 0 ρ (by omega) h
/-- by what is left of the list -/
theorem forX_inv {α : Type} {W : WTg} {body : WS} {S : SK} (inj : α → D) (I : List α → En → Prop) (hs : ∀ x xs ρ, I (x :: xs) ρ → ∀ nxt : En → Prop, (∀ ρ', I xs ρ' → nxt ρ') → W (inj x) ρ fun ρ' => body ρ' ⟨nxt, S.rt, S.nx, nxt⟩) (hd : ∀ ρ, I [] ρ → S.nx ρ) : ∀ (xs : List α) (ρ : En), I xs ρ → forD W body S (xs.map inj) ρ
  | [], ρ, h => hd ρ h
  | x :: xs, ρ, h => hs x xs ρ h _ fun ρ' q => forX_inv inj I hs hd xs ρ' q
/-- a comprehension whose parts are any ones, or none -/
theorem lcD_opt {W : WTg} {wt : WT} {we : WE} {vs : List Nat} {Φ : List D → En → Prop} {ρ : En} (P : D → Prop) : ∀ (ds acc : List D), (∀ d ∈ ds, ∀ Ψ : Option D → En → Prop, (∀ o, (∀ y, o = some y → P y) → Ψ o ρ) → stepD W wt we vs ρ d Ψ) → acc.length + ds.length ≤ 16777216 → (∀ ys : List D, ys.length ≤ ds.length → (∀ y ∈ ys, P y) → Φ (acc ++ ys) ρ) → lcD W wt we vs Φ ds acc ρ
  | [], acc, _, _, h => by have z := h [] (Nat.le_refl _) (fun _ q => by cases q); rw [List.append_nil] at z; exact z
  | d :: ds, acc, hs, hl, h => by
    have e := sizeLine_eq
    have q := hs d List.mem_cons_self (fun o ρ' => match o with
      | some y => acc.length < sizeLine ∧ lcD W wt we vs Φ ds (acc ++ [y]) ρ'
      | none => lcD W wt we vs Φ ds acc ρ') ?_
    · exact q
    · rw [List.length_cons] at hl
      intro o ho
      match o, ho with
      | some y, hy =>
        refine ⟨by omega, lcD_opt P ds (acc ++ [y]) (fun d hd => hs d (List.mem_cons_of_mem _ hd)) (by rw [List.length_append, List.length_singleton]; omega) fun ys hl' hys => ?_⟩
        rw [List.append_assoc]
        exact h (y :: ys) (by rw [List.length_cons, List.length_cons]; omega) fun z hz => by
          rcases List.mem_cons.mp hz with rfl | hz
          · exact hy _ rfl
          · exact hys z hz
      | none, _ => exact lcD_opt P ds acc (fun d hd => hs d (List.mem_cons_of_mem _ hd)) (by omega) fun ys hl' hys => h ys (by rw [List.length_cons]; omega) hys
end
end Tv
/-! Tv31: more for draws. -/
namespace Tv
open PySem PySem.Spec PyProof.Rows L2
theorem emod_nn (a : Int) {b : Int} (h : 0 < b) : 0 ≤ a % b := Int.emod_nonneg _ (by omega)
theorem emod_lt (a : Int) {b : Int} (h : 0 < b) : a % b < b := Int.emod_lt_of_pos _ h
theorem cutD_sub {ds : List D} {lo hi : Option Int} {d : D} (h : d ∈ cutD ds lo hi) : d ∈ ds := List.mem_of_mem_drop (List.mem_of_mem_take h)
theorem cutD_le (ds : List D) (lo hi : Option Int) : (cutD ds lo hi).length ≤ ds.length := by
  unfold cutD
  rw [List.length_take, List.length_drop]
  omega
theorem cutD_nat (ds : List D) (a b : Nat) : cutD ds (some (a : Int)) (some (b : Int)) = (ds.drop a).take (b - a) := by
  unfold cutD
  rw [HT.sIx_nat, HT.sIx_nat]
  by_cases h : a ≤ ds.length
  · rw [Nat.min_eq_left h]
    by_cases h2 : b ≤ ds.length
    · rw [Nat.min_eq_left h2]
    · rw [Nat.min_eq_right (by omega), List.take_of_length_le (by rw [List.length_drop]; omega), List.take_of_length_le (by rw [List.length_drop]; omega)]
  · rw [Nat.min_eq_right (show ds.length ≤ a by omega), List.drop_length, List.drop_of_length_le (show ds.length ≤ a by omega)]
    simp
theorem cutD_upto (ds : List D) (b : Nat) : cutD ds none (some (b : Int)) = ds.take b := by
  unfold cutD
  rw [HT.sIx_none, HT.sIx_nat]
  by_cases h : b ≤ ds.length
  · rw [Nat.min_eq_left h]; rfl
  · rw [Nat.min_eq_right (by omega), List.take_of_length_le (show (ds.drop 0).length ≤ ds.length - 0 by simp), List.take_of_length_le (by omega)]
    rfl
theorem cutD_from (ds : List D) (a : Nat) : cutD ds (some (a : Int)) none = ds.drop a := by
  unfold cutD
  rw [HT.sIx_none, HT.sIx_nat]
  by_cases h : a ≤ ds.length
  · rw [Nat.min_eq_left h, List.take_of_length_le (by rw [List.length_drop]; omega)]
  · rw [Nat.min_eq_right (by omega), List.drop_length, List.drop_of_length_le (by omega)]
    simp
theorem atI_first {α : Type} (x : α) (xs : List α) : atI (x :: xs) 0 = some x := by
  unfold atI ixN
  rw [if_pos (by decide), if_pos (by simp)]
  rfl
theorem bag_head {ns : List Int} (h : BagL ns) {k : Int} (hk : 0 ≤ k) : (cutD (ns.map D.int) (some k) none).length ≤ 63 ∧ ∃ c : Int, 0 ≤ c ∧ atI (cutD (ns.map D.int) (some k) none ++ [.int 0]) 0 = some (.int c) := by
  obtain ⟨j, rfl⟩ : ∃ j : Nat, k = (j : Int) := ⟨k.toNat, by omega⟩
  refine ⟨by have := cutD_le (ns.map D.int) (some (j : Int)) none; rw [List.length_map] at this; have := h.2; omega, ?_⟩
  rw [cutD_from, ← List.map_drop]
  cases q : ns.drop j with
  | nil => exact ⟨0, by omega, atI_first _ _⟩
  | cons c cs => exact ⟨c, h.1 c (List.mem_of_mem_drop (by rw [q]; exact List.mem_cons_self)), atI_first _ _⟩
def unS : D → Str
  | .str x => x
  | _ => ""
theorem perm_strs {es : List D} {xs : List Str} (h : es.Perm (xs.map .str)) : ∃ ys : List Str, ys.Perm xs ∧ es = ys.map .str := by
  refine ⟨es.map unS, ?_, ?_⟩
  · have q := h.map unS
    rw [List.map_map] at q
    have e : xs.map (unS ∘ D.str) = xs := by rw [show (unS ∘ D.str) = id from rfl, List.map_id]
    rwa [e] at q
  · rw [List.map_map]
    refine (List.map_id es).symm.trans (List.map_congr_left fun d hd => ?_)
    obtain ⟨x, _, rfl⟩ := List.mem_map.mp (h.mem_iff.mp hd)
    rfl
theorem list_of {α β : Type} (f : α → β) (P : α → Prop) : ∀ ys : List β, (∀ y ∈ ys, ∃ r, P r ∧ y = f r) → ∃ rs : List α, ys = rs.map f ∧ ∀ r ∈ rs, P r
  | [], _ => ⟨[], rfl, fun r hr => by cases hr⟩
  | y :: ys, h => by
    obtain ⟨r, hr, rfl⟩ := h y List.mem_cons_self
    obtain ⟨rs, rfl, q⟩ := list_of f P ys fun z hz => h z (List.mem_cons_of_mem _ hz)
    exact ⟨r :: rs, rfl, fun z hz => by
      rcases List.mem_cons.mp hz with rfl | hz
      · exact hr
      · exact q z hz⟩
/-! ### steps at the bag -/
section
variable {ρ : En} {Φr : R → Prop} {S : SK} {wa : WE} {i j : Nat} {c n : Int}
theorem e_bag0 (h : ∀ n, 0 ≤ n → Φr (.fr (.int n))) : oBag .bag (.int 0) Φr := h
theorem e_bag1 (h : ∀ n, 0 ≤ n → n < 2147483647 → Φr (.fr (.int n))) : oBag .bag (.int 1) Φr := h
theorem e_bag2 (h : ∀ n, 0 ≤ n → Φr (.fr (.int n))) : oBag .bag (.int 2) Φr := h
theorem e_bag3 (h : ∀ ns : List Int, BagL ns → Φr (.fr (.lst (ns.map D.int)))) : oBag .bag (.int 3) Φr := h
def bagSetW (i : Nat) (c : Int) (r : R) (ρ : En) (S : SK) : Prop := match ρ[i]?, r with
  | some (.fr .bag), .fr (.int n) => bagOk c n ∧ S.nx ρ
  | _, _ => False
theorem e_bagSet (h : wa ρ fun r ρ' => bagSetW i c r ρ' S) : sBagSet i c wa ρ S := h
theorem e_bagSet0 (q : ρ[i]? = some (.fr .bag)) (l : 0 ≤ n) (h : S.nx ρ) : bagSetW i 0 (.fr (.int n)) ρ S := by unfold bagSetW; rw [q]; exact ⟨l, h⟩
theorem e_bagSet1 (q : ρ[i]? = some (.fr .bag)) (l : 0 ≤ n ∧ n < 2147483647) (h : S.nx ρ) : bagSetW i 1 (.fr (.int n)) ρ S := by unfold bagSetW; rw [q]; exact ⟨l, h⟩
theorem e_bagAug (q : ρ[i]? = some (.fr .bag)) (h : S.nx ρ) : sBagAug i 2 1 ρ S := ⟨rfl, by decide, by rw [q]; rfl, fun d e => by rw [q] at e; exact (Option.some.inj e).symm, h⟩
theorem e_modP {m : Int} (l : 0 < n) (h : Φr (.fr (.int (m % n)))) : oMod (.int m) (.int n) Φr := ⟨l, h⟩
end
end Tv
/-! Tv32: classes with one slot: their making, attributes, methods. -/
namespace Tv
open PySem PySem.Spec PyProof.Rows L2
/-- what the text tells of a class c with the slot f -/
structure Cl1 (K : PySem.W.Frag) (c : Str) (C : Addr) (f : Str) (p : Addr) : Prop where
  nm : PySem.W.nsIn K mainGlobals c = some (some (.ref C))
  sc : SlX.SCls K C
  s1 : SlX.Slot1 K C f p 0
section
variable {X : Cx} {G0 : Gh} {H0 : Hp} {e : Expr} {es : List Expr} {wa : WE} {ws : WA} {pos apos p q : Pos} {c f m : Str} {C pa g : Addr} {wf : WF} {k : Nat} {K : PySem.W.Frag} {σ : L2.St} {H : Hp}
/-! ### e.f -/
def attW (c f : Str) (d : D) (Φ : R → En → Prop) (ρ : En) : Prop := match d with
  | .ins c' [f'] [d'] => c' = c ∧ f' = f ∧ Φ (.fr d') ρ
  | _ => False
theorem attW_inv {d : D} {Φ : R → En → Prop} {ρ : En} (h : attW c f d Φ ρ) : ∃ d', d = .ins c [f] [d'] ∧ Φ (.fr d') ρ := by
  unfold attW at h
  split at h
  · obtain ⟨rfl, rfl, h⟩ := h; exact ⟨_, rfl, h⟩
  · exact h.elim
def wAt (c f : Str) (wa : WE) : WE := fun ρ Φ => wa ρ fun r ρ' => attW c f r.d Φ ρ'
theorem Sh.slot {G : Gh} {d : D} {v : V} (h : Sh K G H (.ins c [f] [d]) v) (nm : PySem.W.nsIn K mainGlobals c = some (some (.ref C))) : ∃ a dx v', v = .ref a ∧ SlX.Slt H a C dx [some v'] ∧ Rep K G H d v' := by
  rcases h with h | ⟨_, _, _, h⟩
  · cases h with
    | ins h1 h2 h3 h4 h5 h6 h7 =>
      rw [nm] at h5
      cases h5
      cases h7 with
      | cons r t => cases t; exact ⟨_, _, _, rfl, .inr ⟨h3, h4⟩, r⟩
  · exact h.elim
theorem i_at (cl : Cl1 X.K c C f pa) (h : PEI X G0 H0 e wa) (hb : attributeBase e f X.env (eval e X.env) = eval e X.env := by rfl) : PEI X G0 H0 (.Attribute e f pos) (wAt c f wa) := by
  refine pe_imp (SlX.pe_sl h hb) fun σ H Q h => ?_
  obtain ⟨ρ, G, Φ, S, h, k⟩ := h
  refine ⟨ρ, G, _, S, h, fun r ρ' v G' H' q S' P L x => ?_⟩
  obtain ⟨d, ed, q⟩ := attW_inv q
  have x' := x.sh
  rw [ed] at x'
  obtain ⟨a, dx, v', rfl, sl, rd⟩ := x'.slot cl.nm
  exact ⟨a, C, dx, pa, _, 0, v', rfl, sl, cl.sc, cl.s1, rfl, k _ ρ' v' G' H' q S' P L rd⟩
/-! ### o.m(..) -/
def methW (c : Str) (wf : WF) (ws : WA) (r : R) (Φ : R → En → Prop) (ρ : En) : Prop := match r with
  | .fr (.ins c' ns ds) => c' = c ∧ ws ρ fun rs ρ2 => match frs' rs with
    | some es => wf (.ins c' ns ds :: es) fun r' => Φ r' ρ2
    | none => False
  | _ => False
def wMeth (c : Str) (wf : WF) (wa : WE) (ws : WA) : WE := fun ρ Φ => wa ρ fun r ρ1 => methW c wf ws r Φ ρ1
theorem Rep.inst {G : Gh} {ns : List Str} {ds : List D} {v : V} (h : Rep K G H (.ins c ns ds) v) (nm : PySem.W.nsIn K mainGlobals c = some (some (.ref C))) : ∃ a dx vs, v = .ref a ∧ SlX.Slt H a C dx vs := by
  cases h with
  | ins h1 h2 h3 h4 h5 h6 h7 =>
    rw [nm] at h5
    cases h5
    exact ⟨_, _, _, rfl, .inr ⟨h3, h4⟩⟩
theorem i_methI {pl : Sem Bool} {a : Expr} {as : List Expr} (cl : Cl1 X.K c C f pa) (hm : Meth X.K C m g) (F : FnG X.prog X.w X.K X.mg X.base k g wf) (hr : Room k X.A) (hg : X.A.guards = some []) (he : PEI X G0 H0 e wa) (ha : PAI X G0 H0 (a :: as) ws)
    (hst : starEach (a :: as) X.env = (false, eval a X.env) :: starEach as X.env := by rfl) (hpl : (backTo pos (starEach as X.env)).any (·.1) = false := by rfl)
    (ht : eval (.Call (.Attribute e m apos) (a :: as) [] pos) X.env = (do
      let ov ← eval e X.env
      standAt apos.atName
      let (f, first) ← holding [ov] (getMethod ov m pl)
      callWith pos f first (backTo pos (starEach (a :: as) X.env)) (backToKw pos (keywordEach [] X.env))) := by rfl) :
    PEI X G0 H0 (.Call (.Attribute e m apos) (a :: as) [] pos) (wMeth c wf wa ws) := by
  refine ⟨fun pins s σ H Q I h => ?_⟩
  obtain ⟨ρ, G, Φ, S, h, kk⟩ := h
  have h1 : TX X.K G0 H0 wa σ H fun x H1 => ∃ y dx vs, x = .ref y ∧ SlX.Slt H1 y C dx vs ∧ TAX X.K G0 H0 ws σ H1 fun vs H2 => spG X.K wf (x :: vs) H2 Q := by
    refine ⟨ρ, G, _, S, h, fun r ρ' v G' H' q S' P L x => ?_⟩
    unfold methW at q
    split at q
    · rename_i c' ns ds
      obtain ⟨rfl, q⟩ := q
      obtain ⟨y, dx, vs, rfl, sl⟩ := Rep.inst x cl.nm
      refine ⟨y, dx, vs, rfl, sl, ρ', G', _, S', q, fun rs ρ2 us G2 H2 q2 S2 P2 L2 x2 => ?_⟩
      split at q2
      · rename_i es ee
        have PP := P.trans S'.wd P2 L
        refine ⟨G2, _, _, S2.wd, .cons (Rep.fe (P2.fe S'.wd) x) (frs_rep x2 ee), q2, fun r' v' G3 H3 φ w3 g3 x3 => ?_⟩
        exact kk r' ρ2 v' G3 H3 φ (S2.grow w3 g3) (PP.trans S2.wd g3.stp (L2.trans L)) (L2.trans L) (x3.back fun a z => PP.nn S2.wd z)
      · exact q2.elim
    · exact q.elim
  refine PySem.W.methodCall_KW (pl := pl) (thn (he.run pins s σ H _ I h1) fun u s1 ⟨x, H1, I1, rx, y, dx, vs, ex, hsl, q⟩ => ?_) ht
  subst ex
  obtain rfl : u = Value.ref y := rx
  refine SlX.getmethsl_ok I1 hsl cl.sc hm ?_
  refine PySem.W.callWith_K (first := [.ref y]) (h₀ := X.base) I.ok.mod.kin hm.kp (thn (ha.run pos pins s1 σ H1 _ I1 q) fun us s2 ⟨ws, H2, I2, r, q2⟩ => ⟨I2.kIn, ?_⟩) hst hpl
  exact run_fnG (us := .ref y :: us) (vs := .ref y :: ws) F hr hg I2 (.cons rfl r) q2
theorem i_methI0 {pl : Sem Bool} (cl : Cl1 X.K c C f pa) (hm : Meth X.K C m g) (F : FnG X.prog X.w X.K X.mg X.base k g wf) (hr : Room k X.A) (hg : X.A.guards = some []) (he : PEI X G0 H0 e wa)
    (ht : eval (.Call (.Attribute e m apos) [] [] pos) X.env = (do
      let ov ← eval e X.env
      standAt apos.atName
      let (f, first) ← holding [ov] (getMethod ov m pl)
      callWith pos f first (backTo pos (starEach [] X.env)) (backToKw pos (keywordEach [] X.env))) := by rfl) :
    PEI X G0 H0 (.Call (.Attribute e m apos) [] [] pos) (wMeth c wf wa wNil) := by
  refine ⟨fun pins s σ H Q I h => ?_⟩
  obtain ⟨ρ, G, Φ, S, h, kk⟩ := h
  have h1 : TX X.K G0 H0 wa σ H fun x H1 => ∃ y dx vs, x = .ref y ∧ SlX.Slt H1 y C dx vs ∧ spG X.K wf [x] H1 Q := by
    refine ⟨ρ, G, _, S, h, fun r ρ' v G' H' q S' P L x => ?_⟩
    unfold methW at q
    split at q
    · rename_i c' ns ds
      obtain ⟨rfl, q⟩ := q
      obtain ⟨y, dx, vs, rfl, sl⟩ := Rep.inst x cl.nm
      refine ⟨y, dx, vs, rfl, sl, G', _, _, S'.wd, .cons x .nil, q, fun r' v' G3 H3 φ w3 g3 x3 => ?_⟩
      exact kk r' ρ' v' G3 H3 φ (S'.grow w3 g3) (P.trans S'.wd g3.stp L) L (x3.back fun a z => P.nn S'.wd z)
    · exact q.elim
  refine PySem.W.methodCall_KW (pl := pl) (thn (he.run pins s σ H _ I h1) fun u s1 ⟨x, H1, I1, rx, y, dx, vs, ex, hsl, q⟩ => ?_) ht
  subst ex
  obtain rfl : u = Value.ref y := rx
  refine SlX.getmethsl_ok I1 hsl cl.sc hm ?_
  exact PySem.W.callWith_K0 (first := [.ref y]) I1.kIn hm.kp (run_fnG (us := [.ref y]) (vs := [.ref y]) F hr hg I1 (.cons rfl .nil) q)
end
/-! ### the making -/
abbrev WFI := List D → (D → Prop) → Prop
abbrev WIB := En → (D → Prop) → Prop
def spI (K : PySem.W.Frag) (C : Addr) (w : WFI) (vs : List V) (H : Hp) (Q : VK) : Prop :=
  ∃ (a dx : Addr) (H' : Hp) (ts : List V) (G : Gh) (ds : List D) (Φ : D → Prop), vs = .ref a :: ts ∧ H' a = none ∧ H' dx = none ∧ dx ≠ a ∧ H = upd (upd H' dx (.own a)) a (.ins C dx []) ∧ Wd G H' ∧ RepL K G H' ds ts ∧ w ds Φ ∧
    ∀ d v G' H2, Φ d → Wd G' H2 → Grow G H G' H2 → Rep K G' H2 d v → Q .non (SlX.slH H2 a C dx [some v])
def FnI (P : Program) (w : World) (K : PySem.W.Frag) (mg : Str → Option Value) (base : Heap) (k : Nat) (C f : Addr) (wf : WFI) : Prop :=
  ∀ (A : Around) (outer : List Env) (s : Shared) (H : Hp) (us : List Value) (vs : List V) (Q : VK), Room k A → A.guards = some [] → Env0 P w K mg base A outer s H → Vals vs us → spI K C wf vs H Q →
    codeAny (model P w) A (.call (.ref f) ⟨us, []⟩) (CR CX0 outer P w H s Q E0) s
def TSI (K : PySem.W.Frag) (G0 : Gh) (H0 : Hp) (C a dx : Addr) (W : WIB) : TS := fun D σ H => ∃ ρ G Φ, Sta K G0 H0 ρ G H σ ∧ W ρ Φ ∧ H0 a = some (.ins C dx []) ∧ ¬ G0.B a ∧ (∀ v, G0.A 0 v → v = .ref a) ∧
  ∀ d v G' H' σ', Φ d → Wd G' H' → Grow G0 H0 G' H' → Rep K G' H' d v → D.nx σ' (SlX.slH H' a C dx [some v])
def wDefI (n m : Nat) (b : WIB) : WFI := fun ds Φ => ds.length = n ∧ b (.bo .unk :: (ds.map Cell.fr ++ List.replicate m .no)) Φ
section
variable {X : Cx} {G0 : Gh} {H0 : Hp} {e : Expr} {st : Stmt} {ss : List Stmt} {wa : WE} {u : WS} {W : WIB} {pos p pos' : Pos} {c f x : Str} {C a dx pa : Addr}
def sSelf (wa : WE) : WIB := fun ρ Φ => wa ρ fun r ρ' => ρ'[0]? = some (.bo .unk) ∧ match r with
  | .fr d => Φ d
  | _ => False
theorem b_self (cl : Cl1 X.K c C f pa) (he : PEI X G0 H0 e wa) (hN : X.N[0]? = some x := by rfl) (hv : Vis X.env.scope x := by first | exact Or.inl rfl | exact Or.inr (Or.inl rfl) | exact Or.inr (Or.inr rfl)) (hd : (x == ("__debug__" : Str)) = false := by decide)
    (hcd : (x == ("__classdict__" : Str)) = false := by decide) (hs : swapsWith e (some (.Attribute (.Name x p) f pos')) pos.line X.env = pure false := by rfl) :
    PSs X [.Assign [.Attribute (.Name x p) f pos'] e pos] (TSI X.K G0 H0 C a dx (sSelf wa)) := by
  refine pss_imp (pss_one (SlX.ps_sl (pe_var hN hv hd hcd) he hs)) fun D σ H h => ?_
  obtain ⟨ρ, G, Φ, S, h, ha, nb, an, fin⟩ := h
  refine ⟨ρ, G, _, S, h, fun r ρ' v G' H' q S' P L y => ?_⟩
  obtain ⟨q0, q⟩ := q
  obtain ⟨v0, e0, _, a0⟩ := S'.bo 0 _ q0
  cases an v0 a0
  cases r with
  | fr d =>
    have hH : H' a = some (.ins C dx []) := S'.ex.k a _ ha nb
    exact ⟨.ref a, e0, a, C, dx, pa, [], 0, rfl, .inl ⟨hH, rfl⟩, cl.sc, cl.s1, fin d v G' H' σ q S'.wd S'.ex y⟩
  | ow d => exact q.elim
  | bo d => exact q.elim
def sSeqI (u : WS) (W : WIB) : WIB := fun ρ Φ => u ρ ⟨fun ρ' => W ρ' Φ, fun _ => False, fun _ => False, fun _ => False⟩
theorem b_consI (h1 : PSI X G0 H0 st u) (h2 : PSs X ss (TSI X.K G0 H0 C a dx W)) : PSs X (st :: ss) (TSI X.K G0 H0 C a dx (sSeqI u W)) := by
  refine pss_imp (pss_cons h1 h2) fun D σ H h => ?_
  obtain ⟨ρ, G, Φ, S, h, ha, nb, an, fin⟩ := h
  refine ⟨ρ, G, _, S, h, ⟨fun ρ' G' H' σ' h' s' f => ⟨ρ', G', Φ, s', h', ha, nb, an, fin⟩, fun _ _ _ _ q => q.elim, fun _ _ _ _ q => q.elim, fun _ _ _ _ q => q.elim⟩⟩
end
section
variable {P : Program} {w : World} {K : PySem.W.Frag} {mg : Str → Option Value} {base : Heap} {j k : Nat} {f C : Addr} {wf : WFI}
theorem FnI.mono (F : FnI P w K mg base j C f wf) (h : j ≤ k) : FnI P w K mg base k C f wf := fun A outer s H us vs Q hr => F A outer s H us vs Q (hr.mono h)
theorem staI_start {G : Gh} {H : Hp} {ds : List D} {ts : List V} {a : Addr} {N : List Str} {n m : Nat} (wd : Wd G H) (r : RepL K G H ds ts) (hl : ds.length = n) (hN : N.length = n + 1 + m) :
    Sta K (G.anc fun j v => j = 0 → v = .ref a) H (.bo .unk :: (ds.map Cell.fr ++ List.replicate m .no)) (G.anc fun j v => j = 0 → v = .ref a) H (L2.start N (.ref a :: ts)) := by
  have hlv := r.length
  have get : ∀ {i : Nat} {c : Cell}, (ds.map Cell.fr ++ List.replicate m .no)[i]? = some c → (∃ d, ds[i]? = some d ∧ c = .fr d) ∨ c = .no := fun {i c} e => by
    by_cases hi : i < ds.length
    · rw [List.getElem?_append_left (by simpa using hi), List.getElem?_map] at e
      cases q : ds[i]? with
      | none => rw [q] at e; cases e
      | some d => rw [q] at e; cases e; exact .inl ⟨d, rfl, rfl⟩
    · rw [List.getElem?_append_right (by simpa using hi), List.getElem?_replicate] at e
      split at e
      · cases e; exact .inr rfl
      · cases e
  have st : ∀ {i : Nat} {v : V}, (V.ref a :: ts)[i]? = some v → (L2.start N (.ref a :: ts))[i]? = some (some v) := fun {i v} e => by
    unfold L2.start
    have hi : i < (V.ref a :: ts).length := (List.getElem?_eq_some_iff.mp e).1
    rw [List.getElem?_append_left (by simpa using hi), List.getElem?_map, e]
    rfl
  refine ⟨wd.anc, Grow.refl _ _, wd.anc, fun i d e => ?_, fun i d e => ?_, fun i _ d _ _ e => ?_, ?_, fun i d e => ?_⟩
  · cases i with
    | zero => cases e
    | succ i =>
      rcases get (show (ds.map Cell.fr ++ List.replicate m .no)[i]? = _ from e) with ⟨d', e1, e2⟩ | e1
      · cases e2
        obtain ⟨v, e3, rv⟩ := r.get e1
        exact ⟨v, st (show (V.ref a :: ts)[i + 1]? = some v from e3), rv.fe FE.anc⟩
      · cases e1
  · cases i with
    | zero => cases e
    | succ i =>
      rcases get (show (ds.map Cell.fr ++ List.replicate m .no)[i]? = _ from e) with ⟨d', e1, e2⟩ | e1
      · cases e2
      · cases e1
  · cases i with
    | zero => cases e
    | succ i =>
      rcases get (show (ds.map Cell.fr ++ List.replicate m .no)[i]? = _ from e) with ⟨d', e1, e2⟩ | e1
      · cases e2
      · cases e1
  · unfold L2.start
    simp only [List.length_append, List.length_map, List.length_replicate, List.length_cons]
    omega
  · cases i with
    | zero =>
      cases e
      exact ⟨.ref a, st rfl, .inl (.unk _), fun _ => rfl⟩
    | succ i =>
      rcases get (show (ds.map Cell.fr ++ List.replicate m .no)[i]? = _ from e) with ⟨d', e1, e2⟩ | e1
      · cases e2
      · cases e1
theorem fnI_of {x qual : Str} {st : Stmt} {fd : FuncData} {N ps : List Str} {n m : Nat} {b : WIB} (F : Fun K x qual st f fd) (S : FnScope N ps (defScope st)) (hb : Binds K fd ps []) (hn : ps.length = n + 1) (hN : N.length = n + 1 + m)
    (hbody : ∀ (cdv : Value) (A : Around) (outer : List Env) (s : Shared) (H : Hp) (G : Gh) (a dx : Addr), Room k (A.deeper (envOfC qual (defScope st) s.heap.objs.size f cdv)) → A.guards = some [] →
      PSs (cxOf CX0 P w K mg base N qual (defScope st) f cdv A outer s H E0).nox (defBody st) (TSI K G H C a dx b)) : FnI P w K mg base (k + 1) C f (wDefI n m b) := by
  intro A outer s H us vs Q hr hg e0 r hsp
  obtain ⟨a, dx, H', ts, G, ds, Φ, ev, ha, hdx, hne, eH, wd, rp, ⟨hl, hw⟩, kk⟩ := hsp
  obtain ⟨oc, od, kV, doc, pm, an, cdv, ct, osl, e, lk, hcd⟩ := F.ex
  have hvl : vs.length = n + 1 := by rw [ev, List.length_cons, ← rp.length, hl]
  have hus : us.length = ps.length := by rw [← r.length, hvl, hn]
  have kin := e0.mod.kin.keeps fun b o z => (e0.bs b o z).1
  have bt := hb s us kin (by rw [List.append_nil]; exact hus)
  rw [List.append_nil] at bt
  subst e
  refine StX.run_bnd (G := fun vs' H' => vs' = vs ∧ H' = H ∧ True) lk hcd S hr e0 (fun A' Ex Q' h => bt _ _ _ _ (h s H vs us e0 Un.refl rfl (fun _ _ z => z) r (by rw [r.length, hus]) ⟨rfl, rfl, trivial⟩)) fun s2 H2 vs2 g hr2 => ?_
  obtain ⟨rfl, rfl, _⟩ := g
  subst ev
  have ma : ∀ b o, H' b = some o → H2 b = some o := fun b o z => by
    rw [eH, upd_ne (fun q => by rw [q, ha] at z; cases z), upd_ne (fun q => by rw [q, hdx] at z; cases z)]
    exact z
  have wd2 : Wd G H2 := wd.grow ma
  have g1 : FE G H' G H2 := ⟨fun _ z => z, fun _ z => z, fun b o _ z => ma b o z, fun b xs z => ma b _ z, fun b o u z _ => ma b _ z⟩
  have aH : H2 a = some (.ins C dx []) := by rw [eH, upd_same]
  have nb : ¬ G.B a := fun z => by
    obtain ⟨xs, q⟩ := wd.bagl z
    rw [ha] at q; cases q
  refine ⟨_, (hbody cdv A outer s2 H2 (G.anc fun j v => j = 0 → v = .ref a) a dx hr2 hg).nox, _, _, _, staI_start wd2 (rp.fe g1) hl (hN := hN), hw, aH, nb, fun v q => q rfl, fun d v G' H3 σ' φ w3 g3 x3 => ?_⟩
  exact kk d v G' H3 φ w3 g3.anc x3
end
section
variable {X : Cx} {G0 : Gh} {H0 : Hp} {e : Expr} {es : List Expr} {ws : WA} {pos p : Pos} {k : Nat} {c fl x : Str} {C f pa : Addr} {wf : WFI} {K : PySem.W.Frag} {σ : L2.St} {H : Hp}
def wfI (c fl : Str) (wf : WFI) : WF := fun ds Φ => wf ds fun d => Φ (.fr (.ins c [fl] [d]))
theorem run_fnI {pins : List (Addr × Obj)} {s : Shared} {Q : VK} {us : List Value} {vs : List V} (cl : Cl1 X.K c C fl pa) (M : L2.Mk X.K C f) (F : FnI X.prog X.w X.K X.mg X.base k C f wf) (hr : Room (k + 1) X.A) (hg : X.A.guards = some []) (I : Inv X pins σ H s) (r : Vals vs us) (h : spG X.K (wfI c fl wf) vs H Q) :
    wpAny (model X.prog X.w) X.A (call (.ref C) us) (EP X pins σ Q) X.xe s := by
  obtain ⟨G, ds, Φ, wd, rp, hw, kk⟩ := h
  have nx : H (s.heap.objs.size + 1) = none := I.hok.fresh (Nat.le_succ _)
  have nd : H s.heap.objs.size = none := I.hok.fresh (Nat.le_refl _)
  have hne : s.heap.objs.size ≠ s.heap.objs.size + 1 := Nat.ne_of_lt (Nat.lt_succ_self _)
  have I2 := Inv.made (C := C) I
  have r2 : Vals (V.ref (s.heap.objs.size + 1) :: vs) (Value.ref (s.heap.objs.size + 1) :: us) := .cons rfl r
  have sp : spI X.K C wf (V.ref (s.heap.objs.size + 1) :: vs) (upd (upd H s.heap.objs.size (.own (s.heap.objs.size + 1))) (s.heap.objs.size + 1) (.ins C s.heap.objs.size [])) (fun v H2 => v = .non ∧ Q (.ref (s.heap.objs.size + 1)) H2) := by
    refine ⟨_, _, H, vs, G, ds, _, rfl, nx, nd, hne, rfl, wd, rp, hw, fun d v G' H2 φ w2 g2 x2 => ⟨rfl, ?_⟩⟩
    generalize s.heap.objs.size + 1 = a at *
    generalize s.heap.objs.size = dx at *
    have oa : ∀ b o, H b = some o → b ≠ a ∧ b ≠ dx := fun b o z => ⟨fun q => (by rw [q, nx] at z; cases z), fun q => (by rw [q, nd] at z; cases z)⟩
    have ha2 : H2 a = some (.ins C dx []) ∧ ¬ G'.B a ∧ ¬ G'.F a := by
      have hb : ¬ G.B a := fun z => by obtain ⟨xs, q⟩ := wd.bagl z; rw [nx] at q; cases q
      have hf : ¬ G.F a := fun z => by obtain ⟨o, q⟩ := wd.f a z; rw [nx] at q; cases q
      refine ⟨g2.k a _ upd_same hb, fun z => ?_, fun z => ?_⟩
      · rcases g2.nb a z with q | q
        · exact hb q
        · rw [upd_same] at q; cases q
      · rcases g2.nf a z with q | q
        · exact hf q
        · rw [upd_same] at q; cases q
    have hd2 : H2 dx = some (.own a) ∧ ¬ G'.B dx ∧ ¬ G'.F dx := by
      have hb : ¬ G.B dx := fun z => by obtain ⟨xs, q⟩ := wd.bagl z; rw [nd] at q; cases q
      have hf : ¬ G.F dx := fun z => by obtain ⟨o, q⟩ := wd.f dx z; rw [nd] at q; cases q
      have hat : (upd (upd H dx (.own a)) a (.ins C dx [])) dx = some (.own a) := by rw [upd_ne hne, upd_same]
      refine ⟨g2.k dx _ hat hb, fun z => ?_, fun z => ?_⟩
      · rcases g2.nb dx z with q | q
        · exact hb q
        · rw [hat] at q; cases q
      · rcases g2.nf dx z with q | q
        · exact hf q
        · rw [hat] at q; cases q
    obtain ⟨ea, nba, nfa⟩ := ha2
    obtain ⟨ed, nbd, nfd⟩ := hd2
    have sne : ∀ b, b ≠ a → b ≠ dx → SlX.slH H2 a C dx [some v] b = H2 b := fun b h1 h2 => SlX.slH_ne h1 h2
    have sa : SlX.slH H2 a C dx [some v] a = some (SlX.SlO a C dx [some v]) := upd_same
    have sd : SlX.slH H2 a C dx [some v] dx = some (.xd []) := by unfold SlX.slH; rw [upd_ne hne, upd_same]
    have sF : ∀ b, G'.F b → SlX.slH H2 a C dx [some v] b = H2 b := fun b hb => sne b (fun q => nfa (q ▸ hb)) (fun q => nfd (q ▸ hb))
    have sB : ∀ b, G'.B b → SlX.slH H2 a C dx [some v] b = H2 b := fun b hb => sne b (fun q => nba (q ▸ hb)) (fun q => nbd (q ▸ hb))
    have fe : FE G' H2 ⟨fun b => G'.F b ∨ b = a ∨ b = dx, G'.B, G'.A⟩ (SlX.slH H2 a C dx [some v]) := by
      refine ⟨fun _ z => .inl z, fun _ z => z, fun b o z q => (sF b z).trans q, fun b xs q => (sne b (fun z => ?_) fun z => ?_).trans q, fun b o u q n => (sne b (fun z => ?_) fun z => ?_).trans q⟩
      · rw [z, ea] at q; cases q
      · rw [z, ed] at q; cases q
      · rw [z, ea] at q; cases q
      · rw [z, ed] at q; cases q
    refine kk _ (.ref a) ⟨fun b => G'.F b ∨ b = a ∨ b = dx, G'.B, G'.A⟩ _ φ ⟨fun b hb => ?_, fun b hb => ?_⟩ ⟨fun b z => .inl (g2.f b z), g2.b, fun b o z nb => ?_, fun b z => ?_, fun b z => ?_⟩ ?_
    · obtain ⟨⟨x, y, z, r, ns, e1, l, q⟩, n⟩ := w2.b b hb
      refine ⟨⟨x, y, z, r, ns, (sB b hb).trans e1, ⟨.inl l.1, (sF r l.1).trans l.2⟩, q⟩, fun z => ?_⟩
      rcases z with z | z | z
      · exact n z
      · exact nba (z ▸ hb)
      · exact nbd (z ▸ hb)
    · rcases hb with z | z | z
      · obtain ⟨o, q⟩ := w2.f b z
        exact ⟨o, (sF b z).trans q⟩
      · subst z; exact ⟨_, sa⟩
      · subst z; exact ⟨_, sd⟩
    · obtain ⟨n1, n2⟩ := oa b o z
      rw [sne b n1 n2]
      exact g2.k b o (by rw [upd_ne n1, upd_ne n2]; exact z) nb
    · rcases z with z | z | z
      · rcases g2.nf b z with q | q
        · exact .inl q
        · refine .inr ?_
          by_cases n1 : b = a
          · rw [n1]; exact nx
          · by_cases n2 : b = dx
            · rw [n2]; exact nd
            · rwa [upd_ne n1, upd_ne n2] at q
      · rw [z]; exact .inr nx
      · rw [z]; exact .inr nd
    · rcases g2.nb b z with q | q
      · exact .inl q
      · refine .inr ?_
        by_cases n1 : b = a
        · rw [n1]; exact nx
        · by_cases n2 : b = dx
          · rw [n2]; exact nd
          · rwa [upd_ne n1, upd_ne n2] at q
    · exact .ins (.inr (.inl rfl)) (.inr (.inr rfl)) (vs := [v]) sa sd cl.nm rfl (.cons (x2.fe fe) .nil)
  refine wpAny_call (make_map (f := f) I.kIn M.makes M.init (beq_iff_eq.mp M.fn) (codeAny_mono (F _ X.stack _ _ (Value.ref (s.heap.objs.size + 1) :: us) _ _ (hr.make C us []) hg (I2.env0.make C us []) r2 sp) fun r s' hq' => ?_))
  cases r with
  | error e => exact hq'.elim
  | ok fl =>
    cases fl with
    | ret u =>
      obtain ⟨v, H', I3, rv, ev, q3⟩ := I2.after hq'
      subst ev
      exact ⟨rv, ⟨V.ref (s.heap.objs.size + 1), H', I3, rfl, q3⟩⟩
    | next => exact False.elim hq'
    | brk => exact False.elim hq'
    | cont => exact False.elim hq'
theorem i_make (cl : Cl1 X.K c C fl pa) (M : L2.Mk X.K C f) (F : FnI X.prog X.w X.K X.mg X.base k C f wf) (hr : Room (k + 1) X.A) (hg : X.A.guards = some []) (hgl : Gl X x) (hm : X.mg x = some (.ref C)) (ha : PAI X G0 H0 (e :: es) ws)
    (hdb : (x == ("__debug__" : Str)) = false := by decide) (he : starEach (e :: es) X.env = (false, eval e X.env) :: starEach es X.env := by rfl) (hpl : (backTo pos (starEach es X.env)).any (·.1) = false := by rfl) :
    PEI X G0 H0 (.Call (.Name x p) (e :: es) [] pos) (wCall (wfI c fl wf) ws) := by
  refine ⟨fun pins s σ H Q I h => wpAny_Call_Name_kw (ld_glob I hgl hm ?_ hdb)⟩
  exact PySem.W.callWith_K (h₀ := X.base) I.ok.mod.kin M.kp (thn (ha.run pos pins s σ H _ I (tx_call h)) fun us s1 ⟨vs, H1, I1, r, q⟩ => ⟨I1.kIn, run_fnI cl M F hr hg I1 r q⟩) he hpl
end
end Tv
/-! Tv33: more of dicts: {}, dict(pairs), dict(d), walks over keys and items, get, comprehensions; isinstance of some types; sorted(d). -/
namespace Tv
open PySem PySem.Spec PyProof.Rows L2
section
variable {X : Cx} {G0 : Gh} {H0 : Hp} {e a b tg : Expr} {es : List Expr} {wa wb wk wx : WE} {ws : WA} {pos apos p p2 p3 q : Pos} {K : PySem.W.Frag} {σ : L2.St} {G : Gh} {H : Hp} {ρ : En} {t : TE}
/-- a dict that has been made is locked at once -/
theorem pe_lock (h : PE X e t) : PE X e (fun σ H Q => t σ H fun v H1 => ∃ l kvs, v = .ref l ∧ H1 l = some (.dK kvs) ∧ ∀ od, Q (.ref l) (upd H1 l (.frz od (.dK kvs)))) :=
  ⟨fun pins s σ H Q I q => thn (h.run pins s σ H _ I q) fun u s1 ⟨v, H1, I1, r, l, kvs, ev, hl, q⟩ => by
    subst ev
    obtain ⟨od, I2⟩ := I1.lock hl trivial
    exact ⟨.ref l, _, I2, r, q od⟩⟩
theorem Sta.newD {l : Addr} {kvs : List (Key × V)} {ks : List Key} {ds : List D} (S : Sta K G0 H0 ρ G H σ) (hp : H l = none) (hk : kvs.map (·.1) = ks) (r : RepL K G H ds (kvs.map (·.2))) (od : Obj) :
    Sta K G0 H0 ρ G (upd H l (.frz od (.dK kvs))) σ ∧ Stp ρ σ G H G (upd H l (.frz od (.dK kvs))) ∧ RepR K G (upd H l (.frz od (.dK kvs))) H (.ow (.dct ks ds)) (.ref l) := by
  have g : Grow G H G (upd H l (.frz od (.dK kvs))) := Grow.laid hp
  refine ⟨S.grow (S.wd.laid hp) g, g.stp, l, rfl, ⟨fun z => ?_, fun z => ?_, od, kvs, upd_same, hk, r.fe (g.fe S.wd)⟩, hp⟩
  · obtain ⟨o, q⟩ := S.wd.f l z
    rw [hp] at q; cases q
  · obtain ⟨xs, q⟩ := S.wd.bagl z
    rw [hp] at q; cases q
/-! ### {} -/
def wDnew : WE := fun ρ Φ => Φ (.ow (.dct [] [])) ρ
theorem i_dnew : PEI X G0 H0 (.Dict [] [] pos) wDnew := by
  refine pe_imp (pe_lock pe_dnewK) fun σ H Q h => ?_
  obtain ⟨ρ, G, Φ, S, h, c⟩ := h
  intro l hl
  refine ⟨l, [], rfl, upd_same, fun od => ?_⟩
  rw [upd_upd]
  obtain ⟨S1, P1, r1⟩ := S.newD (kvs := []) (ks := []) (ds := []) hl rfl .nil od
  exact c _ ρ _ G _ h S1 P1 (LeE.refl _) r1
/-! ### dict(pairs) -/
def pairsD : List D → Option (List (Key × D))
  | [] => some []
  | .tup [k, x] :: es => match keyD k, pairsD es with
    | some k, some r => some ((k, x) :: r)
    | _, _ => none
  | _ => none
def dpairs : D → Option (List (Key × D))
  | .lst es => pairsD es
  | _ => none
def mrgK : List Key → List Key → List Key
  | ks, [] => ks
  | ks, k :: r => mrgK (putKs ks k) r
def mrgD : List Key → List D → List (Key × D) → List D
  | _, ds, [] => ds
  | ks, ds, (k, d) :: r => mrgD (putKs ks k) (putDs ks ds k d) r
theorem pairs_rep : ∀ {es : List D} {xs : List V} {kds : List (Key × D)}, RepL K G H es xs → pairsD es = some kds → ∃ (ps : List Addr) (kvs : List (Key × V)), xs = ps.map V.ref ∧ Paired (fun p kv => SqT K H p [kV kv.1, kv.2]) ps kvs ∧ kvs.map (·.1) = kds.map (·.1) ∧ RepL K G H (kds.map (·.2)) (kvs.map (·.2))
  | [], _, _, .nil, e => by cases e; exact ⟨[], [], rfl, .nil, rfl, .nil⟩
  | d :: es, _, kds, .cons (v := v) r t, e => by
    unfold pairsD at e
    split at e
    · rename_i h; cases h
    · rename_i k x es' hd
      cases hd
      split at e
      · rename_i ky kr e1 e2
        cases e
        obtain ⟨ps, kvs, rfl, pr, hk, rl⟩ := pairs_rep t e2
        cases r with
        | tup l rr =>
          rename_i adr xs
          cases rr with
          | cons rk rr =>
            cases rr with
            | cons rx rr =>
              cases rr
              rename_i vk vx
              have ek : vk = kV ky := key_sh (.inl rk) e1
              subst ek
              exact ⟨adr :: ps, (ky, vx) :: kvs, rfl, .cons l pr, by rw [List.map_cons, List.map_cons, hk], .cons rx rl⟩
      · cases e
    · cases e
theorem mrg_rep : ∀ {kds : List (Key × D)} {kvs0 kvs : List (Key × V)} {ds : List D}, RepL K G H ds (kvs0.map (·.2)) → kvs.map (·.1) = kds.map (·.1) → RepL K G H (kds.map (·.2)) (kvs.map (·.2)) →
    (mergeK kvs0 kvs).map (·.1) = mrgK (kvs0.map (·.1)) (kds.map (·.1)) ∧ RepL K G H (mrgD (kvs0.map (·.1)) ds kds) ((mergeK kvs0 kvs).map (·.2))
  | [], kvs0, [], ds, r, _, _ => ⟨rfl, r⟩
  | [], _, _ :: _, _, _, e, _ => by cases e
  | _ :: _, _, [], _, _, e, _ => by cases e
  | (k, d) :: kds, kvs0, (k', v) :: kvs, ds, r, e, t => by
    rw [List.map_cons, List.map_cons] at e
    obtain ⟨ek, et⟩ := List.cons.inj e
    have ek : k' = k := ek
    subst ek
    cases t with
    | cons rd t =>
      obtain ⟨p1, p2⟩ := put_rep k' rd r
      obtain ⟨q1, q2⟩ := mrg_rep (kvs0 := putK kvs0 k' v) p2 et t
      rw [p1] at q1 q2
      exact ⟨q1, q2⟩
def wDictP (wa : WE) : WE := fun ρ Φ => wa ρ fun r ρ' => match dpairs r.d with
  | some kds => Φ (.ow (.dct (mrgK [] (kds.map (·.1))) (mrgD [] [] kds))) ρ'
  | none => False
theorem i_dictP (hc : X.calm = true) (hg : Gl X "dict") (hm : X.mg "dict" = none) (h : PEI X G0 H0 a wa) (hs : starEach (a :: []) X.env = (false, eval a X.env) :: starEach [] X.env := by rfl) : PEI X G0 H0 (.Call (.Name "dict" p) [a] [] pos) (wDictP wa) := by
  refine pe_imp (pe_lock (pe_callTy (call_dictP hc) hg hm (by decide +kernel) (pa_cons h pa_nil hs) (by decide) (by decide) hs rfl)) fun σ H Q h => ?_
  obtain ⟨ρ, G, Φ, S, h, c⟩ := h
  refine ⟨ρ, G, _, S, h, fun r ρ' v G' H' q S' P L x => ?_⟩
  split at q
  · rename_i kds ek
    cases hd : r.d with
    | lst ls =>
      rw [hd] at ek
      have x' := x.sh
      rw [hd] at x'
      obtain ⟨ad, xs, rfl, sq, rl⟩ := x'.list
      obtain ⟨ps, kvs, rfl, pr, hk, rk⟩ := pairs_rep rl ek
      obtain ⟨m1, m2⟩ := mrg_rep (kvs0 := []) (ds := []) .nil hk rk
      refine ⟨ad, ps, kvs, rfl, sq, pr, fun l hl => ⟨l, _, rfl, upd_same, fun od => ?_⟩⟩
      rw [upd_upd]
      obtain ⟨S1, P1, r1⟩ := S'.newD hl m1 m2 od
      exact c _ ρ' _ G' _ q S1 (P.trans S'.wd P1 L) L (r1.back fun a z => P.nn S'.wd z)
    | _ => rw [hd] at ek; cases ek
  · exact q.elim
/-! ### dict(d) -/
def wDictD (wa : WE) : WE := fun ρ Φ => wa ρ fun r ρ' => match r.d with
  | .dct ks ds => Φ (.ow (.dct ks ds)) ρ'
  | _ => False
theorem i_dictD (hg : Gl X "dict") (hm : X.mg "dict" = none) (h : PEI X G0 H0 a wa) (hs : starEach (a :: []) X.env = (false, eval a X.env) :: starEach [] X.env := by rfl) : PEI X G0 H0 (.Call (.Name "dict" p) [a] [] pos) (wDictD wa) := by
  refine pe_imp (pe_lock (pe_callTy call_dictD hg hm (by decide +kernel) (pa_cons h pa_nil hs) (by decide) (by decide) hs rfl)) fun σ H Q h => ?_
  obtain ⟨ρ, G, Φ, S, h, c⟩ := h
  refine ⟨ρ, G, _, S, h, fun r ρ' v G' H' q S' P L x => ?_⟩
  split at q
  · rename_i ks ds ed
    have x' := x.sh
    rw [ed] at x'
    obtain ⟨ad, o, kvs, rfl, hd, hk, rl⟩ := x'.dict
    refine ⟨ad, kvs, rfl, .inr ⟨o, hd⟩, fun l hl => ⟨l, _, rfl, upd_same, fun od => ?_⟩⟩
    rw [upd_upd]
    obtain ⟨S1, P1, r1⟩ := S'.newD hl hk rl od
    exact c _ ρ' _ G' _ q S1 (P.trans S'.wd P1 L) L (r1.back fun a z => P.nn S'.wd z)
  · exact q.elim
/-! ### walks -/
def kD : Key → D
  | .inl i => .int i
  | .inr x => .str x
theorem kD_rep (k : Key) : Rep K G H (kD k) (kV k) := by
  cases k with
  | inl i => exact .int i
  | inr x => exact .str x
def itD : List Key → List D → List D
  | k :: ks, d :: ds => .tup [kD k, d] :: itD ks ds
  | _, _ => []
theorem itD_get : ∀ {kvs : List (Key × V)} {ds : List D} {i : Nat} {d : D}, RepL K G H ds (kvs.map (·.2)) → (itD (kvs.map (·.1)) ds)[i]? = some d → ∃ k v x, kvs[i]? = some (k, v) ∧ d = .tup [kD k, x] ∧ Rep K G H x v
  | [], _, _, _, .nil, e => by cases e
  | (k, v) :: kvs, _, 0, d, .cons (d := x) r t, e => by
    have e' : some (D.tup [kD k, x]) = some d := e
    exact ⟨k, v, x, rfl, (Option.some.inj e').symm, r⟩
  | (k, v) :: kvs, _, i + 1, d, .cons (ds := ds) r t, e => by
    obtain ⟨k', v', x, h1, h2, h3⟩ := itD_get (kvs := kvs) (i := i) t (show (itD (kvs.map (·.1)) ds)[i]? = some d from e)
    exact ⟨k', v', x, h1, h2, h3⟩
theorem itD_len : ∀ {kvs : List (Key × V)} {ds : List D}, RepL K G H ds (kvs.map (·.2)) → (itD (kvs.map (·.1)) ds).length = kvs.length
  | [], _, .nil => rfl
  | _ :: kvs, _, .cons r t => by
    show (itD (kvs.map (·.1)) _).length + 1 = _
    rw [itD_len t]; rfl
def wItems (wa : WE) : WI := fun ρ Φ => wa ρ fun r ρ' => match r with
  | .fr (.dct ks ds) => Φ (itD ks ds) ρ'
  | _ => False
theorem p_items {elts : List Expr} {kk : Nat} {tpos : Pos} (h : PEI X G0 H0 e wa) (hbase : attributeBase e "items" X.env (eval e X.env) = eval e X.env := by rfl) (hline : (apos.endLine == pos.line) = true := by rfl) : PII X G0 H0 (.Tuple elts kk tpos) (.Call (.Attribute e "items" apos) [] [] pos) (wItems wa) := by
  refine pi_imp (pi_items h hbase hline) fun σ H R' h => ?_
  obtain ⟨ρ, G, Φ, S, h, c⟩ := h
  refine ⟨ρ, G, _, S, h, fun r ρ' v G' H' q S' P L x => ?_⟩
  split at q
  · rename_i ks ds
    cases x with
    | dct hf hd hk rl =>
      rename_i ad o kvs
      subst hk
      refine ⟨ad, o, kvs, rfl, hd, c _ ρ' _ G' H' q S' P L fun i G2 H2 w2 f2 => ?_⟩
      have hd2 := f2.l ad _ hf hd
      have rl2 := rl.fe f2
      refine ⟨fun hi => ⟨hd2, by rw [itD_len rl] at hi; exact hi⟩, fun d ed => ?_⟩
      obtain ⟨k, v, x, e1, rfl, rx⟩ := itD_get rl2 ed
      refine ⟨⟨hd2, (List.getElem?_eq_some_iff.mp e1).1⟩, fun y H3 ⟨T, k', v', e2, ey, hT, eH⟩ => ?_⟩
      rw [e1] at e2
      cases e2
      subst ey eH
      have g : Grow G2 H2 G2 (upd H2 T (.tup [kV k, v])) := Grow.laid hT
      exact ⟨G2, w2.laid hT, g, .tup (SqT.of upd_same) (.cons (kD_rep k) (.cons (rx.fe (g.fe w2)) .nil))⟩
  · exact q.elim
def wKeysD (wa : WE) : WI := fun ρ Φ => wa ρ fun r ρ' => match r with
  | .fr (.dct ks _) => Φ (ks.map kD) ρ'
  | _ => False
theorem p_keysD (h : PEI X G0 H0 e wa) : PII X G0 H0 tg e (wKeysD wa) := by
  refine pi_imp (pi_keys h) fun σ H R' h => ?_
  obtain ⟨ρ, G, Φ, S, h, c⟩ := h
  refine ⟨ρ, G, _, S, h, fun r ρ' v G' H' q S' P L x => ?_⟩
  split at q
  · rename_i ks ds
    cases x with
    | dct hf hd hk rl =>
      rename_i ad o kvs
      subst hk
      refine ⟨ad, o, rfl, .inl ⟨kvs, hd, c _ ρ' _ G' H' q S' P L fun i G2 H2 w2 f2 => ?_⟩⟩
      have hd2 := f2.l ad _ hf hd
      refine ⟨fun hi => ⟨hd2, by rw [List.length_map, List.length_map] at hi; exact hi⟩, fun d ed => ?_⟩
      rw [List.getElem?_map, List.getElem?_map] at ed
      cases e1 : kvs[i]? with
      | none => rw [e1] at ed; cases ed
      | some kv =>
        rw [e1] at ed
        have ed' : some (kD kv.1) = some d := ed
        cases ed'
        refine ⟨⟨hd2, (List.getElem?_eq_some_iff.mp e1).1⟩, fun y H3 ⟨eH, k', v', e2, ey⟩ => ?_⟩
        rw [e1] at e2
        cases e2
        subst ey eH
        exact ⟨G2, w2, Grow.refl _ _, kD_rep _⟩
  · exact q.elim
/-! ### d.get(k, x) -/
def getW (d : D) (k : D) (r : R) (Φ : R → Prop) : Prop := match d, keyD k, r with
  | .dct ks ds, some k, .fr x => Φ (.fr ((lookD ks ds k).getD x))
  | _, _, _ => False
def wGet2 (wa wk wx : WE) : WE := fun ρ Φ => wa ρ fun r ρ1 => (∃ ks ds, r.d = .dct ks ds) ∧ wk ρ1 fun r1 ρ2 => wx ρ2 fun r2 ρ3 => getW r.d r1.d r2 fun r' => Φ r' ρ3
theorem i_get2 (hu : X.A.units + 1 < cLine) (ho : PEI X G0 H0 e wa) (hk : PEI X G0 H0 a wk) (hx : PEI X G0 H0 b wx) (m : M2 X e "get" apos a b pos := by exact ⟨rfl, rfl, rfl, rfl⟩) : PEI X G0 H0 (.Call (.Attribute e "get" apos) [a, b] [] pos) (wGet2 wa wk wx) := by
  refine pe_imp (pe_dget2 hu ho hk hx m) fun σ H Q h => ?_
  obtain ⟨ρ, G, Φ, S, h, c⟩ := h
  refine ⟨ρ, G, _, S, h, fun r ρ1 v G1 H1 q1 S1 P1 L1 x1 => ?_⟩
  obtain ⟨⟨ks, ds, ed⟩, q1⟩ := q1
  have x1' := x1.sh
  rw [ed] at x1'
  obtain ⟨ad, o, kvs, rfl, hd, hk', rl⟩ := x1'.dict
  refine ⟨ad, rfl, .inl ⟨kvs, .inr ⟨o, hd⟩⟩, ρ1, G1, _, S1, q1, fun r1 ρ2 v1 G2 H2 q2 S2 P2 L2 x2 => ⟨ρ2, G2, _, S2, q2, fun r2 ρ3 v2 G3 H3 q3 S3 P3 L3 x3 => ?_⟩⟩
  have x4 := (x1.sh.stp S1.wd P2).stp S2.wd P3
  rw [ed] at x4
  obtain ⟨ad', o', kvs', ea, hd', hk2, rl'⟩ := x4.dict
  cases ea
  unfold getW at q3
  rw [ed] at q3
  dsimp only at q3
  split at q3
  · rename_i ks1 ds1 k x e0 ek
    cases e0
    have ev : v1 = kV k := key_sh (x2.sh.stp S2.wd P3) ek
    subst ev
    have PP := (P1.trans S1.wd P2 L1).trans S2.wd P3 (L2.trans L1)
    have LL := L3.trans (L2.trans L1)
    refine ⟨valV kvs' k, DGet.f hd', ?_⟩
    have lv := look_val k rl'
    rw [hk2] at lv
    rcases lv with ⟨l1, l2⟩ | ⟨d, v, l1, l2, rd⟩
    · rw [l1] at q3
      rw [l2]
      exact c _ ρ3 _ G3 H3 q3 S3 PP LL x3
    · rw [l1] at q3
      rw [l2]
      exact c _ ρ3 _ G3 H3 q3 S3 PP LL rd
  · exact q3.elim
end
end Tv
/-! Tv34: d.update(pairs), dict comprehensions, isinstance of some types, sorted(d). -/
namespace Tv
open PySem PySem.Spec PyProof.Rows L2
section
variable {X : Cx}
theorem pairs_ofU {pins : List (Addr × Obj)} {σ : L2.St} {H : Hp} {s : Shared} (I : Inv X pins σ H s) : ∀ {ps : List Addr} {kvs : List (Key × V)}, Paired (fun p kv => SqT X.K H p [kV kv.1, kv.2]) ps kvs →
    ∃ (prs : List (Key × Value)) (psv : List (Value × Value)), KV kvs prs ∧ prs.length = ps.length ∧ psv.length = ps.length ∧ ∀ (j : Nat) (x : Value × Value), psv[j]? = some x → ∃ (b : Addr) (q : Key × Value), ps[j]? = some b ∧ prs[j]? = some q ∧ q.2 = x.2 ∧ IsTup s.heap b #[x.1, x.2] ∧ keyIs q.1 x.1 = true
  | _, _, .nil => ⟨[], [], .nil, rfl, rfl, fun j q e => by simp at e⟩
  | _, _, .cons (a := p) (b := kv) h t => by
    obtain ⟨prs, psv, r, hl, hl2, hp⟩ := pairs_ofU I t
    obtain ⟨its, rv, ht, _⟩ := I.tuple h
    obtain ⟨u, y, ei, ru, ry⟩ := vals2 rv
    subst ei
    refine ⟨(kv.1, y) :: prs, (u, y) :: psv, .cons ⟨rfl, ry⟩ r, by rw [List.length_cons, List.length_cons, hl], by rw [List.length_cons, List.length_cons, hl2], fun j q e => ?_⟩
    cases j with
    | zero =>
      have e' : (u, y) = q := Option.some.inj e
      subst e'
      exact ⟨p, (kv.1, y), rfl, rfl, rfl, ht, kV_is (P := X.prog) (w := X.w) ru⟩
    | succ j =>
      obtain ⟨b, u', e1, e2, e3, e4⟩ := hp j q (by simpa using e)
      exact ⟨b, u', by simpa using e1, by simpa using e2, e3, e4⟩
def rUpd (X : Cx) : V → List V → Hp → VK → Prop := fun x xs H Q => ∃ (a l : Addr) (od : Obj) (ps : List Addr) (kvs0 kvs : List (Key × V)), x = .ref a ∧ xs = [.ref l] ∧ H a = some (.frz od (.dK kvs0)) ∧ (∀ o' u', X.H_0 a ≠ some (.frz o' u')) ∧ SqL X.K H l (ps.map V.ref) ∧
  Paired (fun p kv => SqT X.K H p [kV kv.1, kv.2]) ps kvs ∧ kvs0.length + kvs.length ≤ sizeLine ∧ ∀ od', Q .non (upd H a (.frz od' (.dK (mergeK kvs0 kvs))))
theorem mt_update (hc : X.calm = true) : MtR X "dict.update" (rUpd X) := by
  intro pins s σ H x xs v us Q I rx r h
  obtain ⟨a, l, od, ps, kvs0, kvs, rfl, rfl, ha, hn, hq, hp, hz, q⟩ := h
  obtain rfl : v = Value.ref a := rx
  obtain ⟨u, rfl, ru⟩ := vals1 r
  obtain rfl : u = Value.ref l := ru
  have I2 := I.unlock ha hn
  obtain ⟨its, rv, pl, hz2⟩ := I.list hq
  have ei := refs_at rv
  subst ei
  rw [List.length_map] at hz2
  obtain ⟨prs, psv, rel, hl, hl2, hpr⟩ := pairs_ofU I hp
  obtain ⟨z, hdm, vs, relv, dd⟩ := dk_of I2.hok upd_same
  obtain ⟨o, n, ho, hcl, hd, hdat⟩ := pl
  obtain ⟨oa, es, ep, hoa, hoc, hod, _⟩ := id dd
  have items : PairItems s.heap ((ps.map Value.ref).toArray) (fun j => (ps[j]?).getD 0) psv := by
    refine ⟨by simp [hl2], fun j k v e => ?_⟩
    obtain ⟨b, q', e1, e2, e3, e4, e5⟩ := hpr j (k, v) e
    refine ⟨by simp [e1], ?_⟩
    show PairAt s.heap ((ps[j]?).getD 0) k v
    rw [e1]
    exact .inl e4
  have dn : a ∉ (l :: (List.range psv.length).map fun j => (ps[j]?).getD 0) := fun hm => by
    rcases List.mem_cons.mp hm with e | hm
    · subst e
      rw [ho] at hoa
      cases hoa
      have c1 : o.cls = .type "dict" := hoc.1
      rw [hcl] at c1
      simp at c1
    · obtain ⟨j, hj, e⟩ := List.mem_map.mp hm
      have hj' : j < psv.length := by simpa using hj
      obtain ⟨b, q', e1, e2, e3, ⟨ob, hob, hbc, _⟩, e5⟩ := hpr j psv[j] (by simp [hj'])
      rw [e1] at e
      have e' : b = a := e
      subst e'
      rw [hob] at hoa
      cases hoa
      have c1 : oa.cls = .type "dict" := hoc.1
      rw [hbc] at c1
      simp at c1
  have kl : kvs.length = psv.length := by
    have := rel.length
    omega
  have vl : kvs0.length = vs.length := relv.length
  refine call_update_pairs (knd := mixKind X.prog X.w) (acc := vs) (kvs := prs) (PairArg.list l _ (fun j => (ps[j]?).getD 0) psv) (I.ok.hd hc) ⟨⟨o, n, ho, hcl, hd, hdat⟩, items⟩ dn ⟨by omega, fun i key v e => ?_⟩ dd (by omega) fun h' tk hd' k => ?_
  · obtain ⟨b, q', e1, e2, e3, e4, e5⟩ := hpr i (key, v) e
    exact ⟨q'.1, by rw [e2]; exact congrArg some (Prod.ext rfl e3), e5⟩
  · have hlen : (mergeK kvs0 kvs).length ≤ sizeLine := Nat.le_trans (length_mergeK kvs kvs0) hz
    have he : ∃ q, h'.get? a = some q := let ⟨q, _, _, hq, _⟩ := hd'; ⟨q, hq⟩
    have I3 : Inv X pins σ (upd (upd H a (.dK kvs0)) a (.dK (mergeK kvs0 kvs))) { s with heap := h', toks := tk } := I2.write (x := a) (e := a) (by rw [upd_same]; exact trivial) (.inl rfl) (fun b u hb z => k b u hb (fun z => nomatch z) z) he (dk_new hlen hdm (KV.merge rel relv) hd')
    rw [upd_upd] at I3
    obtain ⟨od', I4⟩ := I3.lock upd_same trivial
    rw [upd_upd] at I4
    exact ⟨.non, _, I4, rfl, q od'⟩
variable {G0 : Gh} {H0 : Hp} {e : Expr} {wa : WE} {pos p apos pos' : Pos} {x : Str} {j : Nat}
def dupdW (j : Nat) (d : D) (ρ : En) (S : SK) : Prop := match ρ[j]?, dpairs d with
  | some (.ow (.dct ks ds)), some kds => ks.length + kds.length ≤ 16000000 ∧ S.nx (ρ.set j (.ow (.dct (mrgK ks (kds.map (·.1))) (mrgD ks ds kds))))
  | _, _ => False
def sDUpd (j : Nat) (wa : WE) : WS := fun ρ S => (∃ ks ds, ρ[j]? = some (.ow (.dct ks ds))) ∧ wa ρ fun r ρ1 => dupdW j r.d ρ1 S
theorem pe_bmD {r : V → List V → Hp → VK → Prop} {name : Str} {id : String} {o : Expr} {es : List Expr} {to : TE} {t : TA} (slot : Slot "dict" name id) (hty : typeOf (.builtin id) = pure (.type "method_descriptor")) (hm : MtR X id r) (ho : PE X o to) (ha : PA X (e :: es) t)
    (hbase : attributeBase o name X.env (eval o X.env) = eval o X.env)
    (hfew : ((backTo pos (starEach (e :: es) X.env)).all (fun x => !x.1) && (backToKw pos (keywordEach [] X.env)).all (fun x => x.1.isSome)
      && decide ((e :: es).length + ([] : List Keyword).length + (if ([] : List Keyword).isEmpty then 0 else 1) < 30)) = true)
    (hline : (apos.endLine == pos.line) = true) (hs : starEach (e :: es) X.env = (false, eval e X.env) :: starEach es X.env) (hplain : (backTo pos (starEach es X.env)).any (·.1) = false) :
    PE X (.Call (.Attribute o name apos) (e :: es) [] pos) (fun σ H Q => to σ H fun x H1 => ∃ a, x = .ref a ∧ IsD H1 a ∧ t σ H1 fun xs H2 => r x xs H2 Q) := by
  refine ⟨fun pins s σ H Q I h => ?_⟩
  refine wpAny_Call_method_late hbase hfew hline rfl (thn (ho.run pins s σ H _ I h) fun v s1 ⟨x, H1, I1, r1, a, ex, isd, q1⟩ => ?_)
  subst ex
  obtain rfl : v = Value.ref a := r1
  obtain ⟨h1, h2, _⟩ := isD_at I1 isd
  refine ⟨"dict", id, F.plainAttrs_dict, slot, hty, h1, h2, ?_⟩
  have hA := ha.run pos pins s1 σ H1 _ I1 q1
  rw [hs] at hA ⊢
  refine Calls.callWith_builtin (by show (false || (backTo pos (starEach es X.env)).any (·.1)) = false; rw [hplain] <;> rfl) (Calls.evalArgs_plain ?_)
  exact thn hA fun us s2 ⟨vs, H2, I2, r2, q2⟩ => hm pins s2 σ H2 (.ref a) vs (.ref a) us Q I2 rfl r2 q2
theorem dupdW_inv {d : D} {ρ : En} {S : SK} (h : dupdW j d ρ S) : ∃ ks ds kds, ρ[j]? = some (.ow (.dct ks ds)) ∧ dpairs d = some kds ∧ ks.length + kds.length ≤ 16000000 ∧ S.nx (ρ.set j (.ow (.dct (mrgK ks (kds.map (·.1))) (mrgD ks ds kds)))) := by
  unfold dupdW at h
  split at h
  · rename_i e1 e2; exact ⟨_, _, _, e1, e2, h.1, h.2⟩
  · exact h.elim
set_option maxHeartbeats 400000 in
theorem s_dupd (hc : X.calm = true) (hX : X.H_0 = H0) (ha : PEI X G0 H0 e wa) (hN : X.N[j]? = some x := by rfl) (hv : Vis X.env.scope x := by first | exact Or.inl rfl | exact Or.inr (Or.inl rfl) | exact Or.inr (Or.inr rfl)) (hd : (x == ("__debug__" : Str)) = false := by decide)
    (hcd : (x == ("__classdict__" : Str)) = false := by decide) (hs : swapsWith (.Call (.Attribute (.Name x p) "update" apos) [e] [] pos) none pos'.line X.env = pure false := by rfl)
    (hfew : ((backTo pos (starEach (e :: []) X.env)).all (fun x => !x.1) && (backToKw pos (keywordEach [] X.env)).all (fun x => x.1.isSome)
      && decide ((e :: []).length + ([] : List Keyword).length + (if ([] : List Keyword).isEmpty then 0 else 1) < 30)) = true := by rfl)
    (hbase : attributeBase (.Name x p) "update" X.env (eval (.Name x p) X.env) = eval (.Name x p) X.env := by rfl)
    (hline : (apos.endLine == pos.line) = true := by rfl) (hst : starEach (e :: []) X.env = (false, eval e X.env) :: starEach [] X.env := by rfl) (hpl : (backTo pos (starEach [] X.env)).any (·.1) = false := by rfl) :
    PSI X G0 H0 (.Expr (.Call (.Attribute (.Name x p) "update" apos) [e] [] pos) pos') (sDUpd j wa) := by
  refine ps_imp (ps_expr (pe_bmD F.slot_dict_update F.type_dict_update (mt_update hc) (pe_var hN hv hd hcd) (pa_cons ha pa_nil hst) hbase hfew hline hst hpl) hs) fun D σ H h => ?_
  obtain ⟨ρ, G, S, s, ⟨⟨ks0, ds0, e0⟩, h⟩, k⟩ := h
  obtain ⟨a, ea, o1, z1⟩ := s.ow j _ e0
  obtain ⟨od0, kvs00, ha0, hk0, rl0⟩ := o1.2.2
  refine ⟨.ref a, ea, a, rfl, .inl ⟨kvs00, .inr ⟨_, ha0⟩⟩, ρ, G, _, s, h, fun r ρ1 v G1 H1 q S1 P L y => ?_⟩
  obtain ⟨ks, ds, kds, e1, e2, hl, q⟩ := dupdW_inv q
  obtain ⟨a', ea', ⟨n1, n2, od, kvs0, ha1, hk, rl⟩, z3⟩ := S1.ow j _ e1
  rw [ea] at ea'
  cases ea'
  subst hk
  cases hd : r.d with
  | lst ls =>
    rw [hd] at e2
    have y' := y.sh
    rw [hd] at y'
    obtain ⟨ad, xs, rfl, sq, rls⟩ := y'.list
    obtain ⟨ps, kvs, rfl, pr, hk2, rk⟩ := pairs_rep rls e2
    have lk : kvs.length = kds.length := by have := congrArg List.length hk2; simpa using this
    refine ⟨a, ad, od, ps, kvs0, kvs, rfl, rfl, ha1, (fun o' u' z => by rw [hX, z3] at z; cases z), sq, pr, by rw [sizeLine_eq, lk]; rw [List.length_map] at hl; omega, fun od' => ?_⟩
    have f : FE G1 H1 G1 (upd H1 a (.frz od' (.dK (mergeK kvs0 kvs)))) := FE.wrU ha1 (fun _ z => by cases z) (fun od w z n => by cases z; exact ndK n) n1
    obtain ⟨m1, m2⟩ := mrg_rep (kvs0 := kvs0) (rl.fe f) hk2 (rk.fe f)
    exact k.nx _ G1 _ σ q (S1.writeU e1 ea f ⟨od', mergeK kvs0 kvs, upd_same, m1, m2⟩) ((P.fe s.wd).trans f)
  | _ => rw [hd] at e2; cases e2
end
/-! ### isinstance(x, (T, U)) -/
section
variable {X : Cx} {G0 : Gh} {H0 : Hp} {wa : WE} {pos p p2 p3 p4 : Pos} {e : Expr} {T U : Str} {t u : String} {kk : Nat}
def isT2W (t u : String) (r : R) (Φ : R → En → Prop) (ρ : En) : Prop := match r.d.ty with
  | some n => Φ (.fr (.bl (isTy n t || isTy n u))) ρ
  | none => False
def wIsi2 (t u : String) (wa : WE) : WE := fun ρ Φ => wa ρ fun r ρ' => isT2W t u r Φ ρ'
theorem i_isi2 (hg : Gl X "isinstance") (hm : X.mg "isinstance" = none) (hg2 : Gl X T) (hm2 : X.mg T = none) (hv : bootBuiltins T = some (.type t)) (ht : t ∈ tyAsk) (hg3 : Gl X U) (hm3 : X.mg U = none) (hv3 : bootBuiltins U = some (.type u)) (hu : u ∈ tyAsk) (he : PEI X G0 H0 e wa)
    (hn : T ≠ "__name__" := by decide) (hd : (T == ("__debug__" : Str)) = false := by decide) (hn3 : U ≠ "__name__" := by decide) (hd3 : (U == ("__debug__" : Str)) = false := by decide)
    (hs : starEach (e :: [.Tuple [.Name T p2, .Name U p3] kk p4]) X.env = (false, eval e X.env) :: starEach [.Tuple [.Name T p2, .Name U p3] kk p4] X.env := by rfl)
    (hs2 : starEach (.Tuple [.Name T p2, .Name U p3] kk p4 :: []) X.env = (false, eval (.Tuple [.Name T p2, .Name U p3] kk p4) X.env) :: starEach [] X.env := by rfl)
    (hs3 : starEach (.Name T p2 :: [.Name U p3]) X.env = (false, eval (.Name T p2) X.env) :: starEach [.Name U p3] X.env := by rfl) (hs4 : starEach (.Name U p3 :: []) X.env = (false, eval (.Name U p3) X.env) :: starEach [] X.env := by rfl)
    (hpl : (backTo pos (starEach [.Tuple [.Name T p2, .Name U p3] kk p4] X.env)).any (·.1) = false := by rfl) : PEI X G0 H0 (.Call (.Name "isinstance" p) [e, .Tuple [.Name T p2, .Name U p3] kk p4] [] pos) (wIsi2 t u wa) := by
  refine pe_imp (pe_callB call_isiT hg hm (by decide +kernel) (pa_cons he (pa_cons (pe_tup (pa_cons (pe_tyName hg2 hm2 hv hn hd) (pa_cons (pe_tyName hg3 hm3 hv3 hn3 hd3) pa_nil hs4) hs3)) pa_nil hs2) hs) (by decide) (by decide) hs hpl) fun σ H Q h => ?_
  obtain ⟨ρ, G, Φ, S, h, c⟩ := h
  refine ⟨ρ, G, _, S, h, fun r ρ' v G' H' q S' P L x => ?_⟩
  unfold isT2W at q
  split at q
  · rename_i n en
    refine ⟨by rw [sizeLine_eq]; simp, fun tp htp => ?_⟩
    have g : Grow G' H' G' (upd H' tp (.tup [.ty t, .ty u])) := Grow.laid htp
    have S2 := S'.grow (S'.wd.laid htp) g
    refine ⟨v, tp, [.ty t, .ty u], .type n, [.type t, .type u], (isTy n t || isTy n u), rfl, upd_same, .cons (.ty t) (.cons (.ty u) .nil), sh_ty (x.sh.grow S'.wd g) en, ?_, c _ ρ' _ G' _ q S2 (P.trans S'.wd g.stp L) L (.bl _)⟩
    have k1 := kit_ty (K := X.K) (ty_in en) ht
    have k2 := kit_ty (K := X.K) (ty_in en) hu
    refine kitAny_cons k1 (fun h => ?_) (fun h => by rw [h]; rfl)
    refine kitAny_cons k2 (fun h2 => ?_) (fun h2 => by rw [h2, Bool.or_true])
    rw [h, h2]
    exact kitAny_nil
  · exact q.elim
end
/-! ### sorted(d), the keys texts -/
section
variable {X : Cx} {G0 : Gh} {H0 : Hp} {wa : WE} {pos p : Pos} {e : Expr}
def strKs : List Key → Option (List Str)
  | [] => some []
  | .inr x :: ks => (strKs ks).map (x :: ·)
  | _ => none
theorem strKs_map : ∀ {ks : List Key} {xs : List Str}, strKs ks = some xs → ks = xs.map Sum.inr
  | [], _, e => by cases e; rfl
  | .inr x :: ks, _, e => by
    have e' : (strKs ks).map (x :: ·) = some _ := e
    cases q : strKs ks with
    | none => rw [q] at e'; cases e'
    | some ys => rw [q] at e'; cases e'; rw [strKs_map q]; rfl
  | .inl _ :: _, _, e => by cases e
def sortDW (d : D) (Φ : R → En → Prop) (ρ : En) : Prop := match d with
  | .dct ks _ => (match strKs ks with
    | some xs => xs.length < 64 ∧ Φ (.ow (.lst ((xs.mergeSort leS).map .str))) ρ
    | none => False)
  | _ => False
def wSortD (wa : WE) : WE := fun ρ Φ => wa ρ fun r ρ' => sortDW r.d Φ ρ'
theorem le_of_not {p x : Str} (h : (!ltCps x.cps.toList p.cps.toList) = true) : leS p x = true := by
  unfold leS
  rw [decide_eq_true_iff]
  have e : ltCps x.cps.toList p.cps.toList = false := by simpa using h
  rw [ltCps_eq] at e
  exact List.not_lt.mp (by simpa using e)
theorem rising_pw : ∀ (p : Str) (xs : List Str), risingS p xs = true → (p :: xs).Pairwise fun a b => leS a b = true
  | p, [], _ => List.pairwise_singleton _ _
  | p, x :: xs, h => by
    have h' : ((!ltCps x.cps.toList p.cps.toList) && risingS x xs) = true := h
    rw [Bool.and_eq_true] at h'
    have ih := rising_pw x xs h'.2
    refine List.pairwise_cons.mpr ⟨fun y hy => ?_, ih⟩
    rcases List.mem_cons.mp hy with rfl | hy
    · exact le_of_not h'.1
    · exact leS_tr p x y (le_of_not h'.1) ((List.pairwise_cons.mp ih).1 y hy)
theorem sortS_of {L M : List Str} (h1 : sortedS M = true) (h2 : M.Perm L) : M = L.mergeSort leS := by
  refine (sort_is ?_ h2).symm
  cases M with
  | nil => exact List.Pairwise.nil
  | cons x M => exact rising_pw x M h1
theorem strs_rep {K : PySem.W.Frag} {G : Gh} {H : Hp} : ∀ xs : List Str, RepL K G H (xs.map D.str) (xs.map V.str)
  | [] => .nil
  | x :: xs => .cons (.str x) (strs_rep xs)
theorem i_sortD (hc : X.calm = true) (hg : Gl X "sorted") (hm : X.mg "sorted" = none) (h : PEI X G0 H0 e wa) (hs : starEach (e :: []) X.env = (false, eval e X.env) :: starEach [] X.env := by rfl) : PEI X G0 H0 (.Call (.Name "sorted" p) [e] [] pos) (wSortD wa) := by
  refine pe_imp (pe_callB (call_sortedD hc) hg hm (by decide +kernel) (pa_cons h pa_nil hs) (by decide) (by decide) hs rfl) fun σ H Q h => ?_
  obtain ⟨ρ, G, Φ, S, h, c⟩ := h
  refine ⟨ρ, G, _, S, h, fun r ρ' v G' H' q S' P L x => ?_⟩
  unfold sortDW at q
  split at q
  · rename_i ks ds ed
    split at q
    · rename_i xs ek
      have x' := x.sh
      rw [ed] at x'
      obtain ⟨ad, o, kvs, rfl, hd, hk, rl⟩ := x'.dict
      refine ⟨ad, kvs, xs, rfl, .inr ⟨o, hd⟩, by rw [hk]; exact strKs_map ek, q.1, fun ys l hp hso hl => ?_⟩
      obtain rfl := sortS_of hso hp
      have g : Grow G' H' G' (upd H' l (.lst ((xs.mergeSort leS).map V.str))) := Grow.laid hl
      exact c _ ρ' _ G' _ q.2 (S'.grow (S'.wd.laid hl) g) (P.trans S'.wd g.stp L) L ⟨l, rfl, Own.laid S'.wd hl (strs_rep _), P.nn S'.wd hl⟩
    · exact q.elim
  · exact q.elim
end
end Tv
/-! Tv35: dict comprehensions; a bag's cell in an unpacking. -/
namespace Tv
open PySem PySem.Spec PyProof.Rows L2
def dcD (W : WTg) (wt : WT) (wk wv : WE) (vs : List Nat) (Φ : List Key → List D → En → Prop) : List D → List Key → List D → En → Prop
  | [], ks, xs, ρ => Φ ks xs ρ
  | d :: ds, ks, xs, ρ => W d ρ fun ρ1 => wt ρ1 fun b ρ2 => if b = true then wk ρ2 fun rk ρ3 => wv ρ3 fun rv ρ4 => match keyD rk.d, rv with
      | some k, .fr y => ks.length < sizeLine ∧ dcD W wt wk wv vs Φ ds (putKs ks k) (putDs ks xs k y) (wipeE vs 0 ρ4)
      | _, _ => False
    else dcD W wt wk wv vs Φ ds ks xs (wipeE vs 0 ρ2)
def wDc (wi : WI) (W : WTg) (wt : WT) (wk wv : WE) (vs : List Nat) : WE := fun ρ Φ => wi ρ fun ds ρ1 => dcD W wt wk wv vs (fun ks xs ρe => Φ (.ow (.dct ks xs)) (mixE vs 0 ρ1 ρe)) ds [] [] (wipeE vs 0 ρ1)
section
variable {X : Cx} {G0 : Gh} {H0 : Hp} {K : PySem.W.Frag} {σ : L2.St} {H : Hp} {wi : WI} {W : WTg} {wt : WT} {wk wv : WE} {vs : List Nat}
structure MkD (K : PySem.W.Frag) (p : Addr) (ks : List Key) (acc : List D) (G : Gh) (H : Hp) (kvs : List (Key × V)) : Prop where
  at_ : H p = some (.dK kvs)
  k : kvs.map (·.1) = ks
  r : RepL K G H acc (kvs.map (·.2))
  f : ¬ G.F p
  b : ¬ G.B p
theorem MkD.stp {p : Addr} {ks : List Key} {acc : List D} {kvs : List (Key × V)} {G G' : Gh} {H' : Hp} {ρ : En} (m : MkD K p ks acc G H kvs) (w : Wd G H) (P : Stp ρ σ G H G' H') (hn : ¬ OwnA ρ σ p) : MkD K p ks acc G' H' kvs := by
  refine ⟨P.k _ _ m.at_ m.b, m.k, m.r.fe (P.fe w), fun z => ?_, fun z => ?_⟩
  · rcases P.nf p z with z | z | z
    · exact m.f z
    · rw [m.at_] at z; cases z
    · exact hn z
  · rcases P.nb p z with z | z
    · exact m.b z
    · rw [m.at_] at z; cases z
set_option maxHeartbeats 800000 in
theorem tdc_of {Q : VK} (h : TX K G0 H0 (wDc wi W wt wk wv vs) σ H Q) : tDc (TIX K G0 H0 wi) (TGX K G0 H0 vs W) (TTX K G0 H0 wt) (TX K G0 H0 wk) (TX K G0 H0 wv) vs σ H (fun v H1 => ∃ l kvs, v = .ref l ∧ H1 l = some (.dK kvs) ∧ ∀ od, Q (.ref l) (upd H1 l (.frz od (.dK kvs)))) := by
  obtain ⟨ρ, G, Φ, S, h, c⟩ := h
  refine ⟨ρ, G, _, S, h, fun ds ρ1 J G1 H1 q s1 P L it p hp => ?_⟩
  have hown : ¬ OwnA ρ1 σ p := fun z => by
    obtain ⟨o, e⟩ := s1.tracked z
    rw [hp] at e; cases e
  have g0 : Grow G1 H1 G1 (upd H1 p (.dK [])) := Grow.laid hp
  have s2 := s1.grow (s1.wd.laid (o := .dK []) hp) g0
  have m0 : MkD K p [] [] G1 (upd H1 p (.dK [])) [] := by
    refine ⟨upd_same, rfl, .nil, fun z => ?_, fun z => ?_⟩
    · obtain ⟨o, e⟩ := s1.wd.f p z
      rw [hp] at e; cases e
    · obtain ⟨ys, e⟩ := s1.wd.bagl z
      rw [hp] at e; cases e
  have h0 : H0 p = none := s1.none0 hp
  refine ⟨fun i m H' => m = ds.length - i ∧ i ≤ ds.length ∧ ∃ ρ' G' ks acc kvs, Sta K G0 H0 ρ' G' H' (wipe σ vs) ∧ Stp (wipeE vs 0 ρ1) (wipe σ vs) G1 H1 G' H' ∧ LeE ρ' (wipeE vs 0 ρ1) ∧ MkD K p ks acc G' H' kvs ∧
    dcD W wt wk wv vs (fun ks xs ρe => Φ (.ow (.dct ks xs)) (mixE vs 0 ρ1 ρe)) (ds.drop i) ks acc ρ', ⟨ds.length, by omega, Nat.zero_le _, wipeE vs 0 ρ1, G1, [], [], [], s2.wiped, g0.stp, LeE.refl _, m0, q⟩, ?_⟩
  rintro i m H' ⟨rfl, hi, ρ', G', ks, acc, kvs, s', P', L', mk, q'⟩
  obtain ⟨it1, it2⟩ := it i G' H' s'.wd (P'.fe s1.wd)
  have own' : ∀ a, OwnA ρ' (wipe σ vs) a → OwnA (wipeE vs 0 ρ1) (wipe σ vs) a := fun a z => L'.own z
  by_cases hlt : i < ds.length
  · obtain ⟨d, ed⟩ : ∃ d, ds[i]? = some d := ⟨ds[i], by simp [hlt]⟩
    obtain ⟨go, yl⟩ := it2 d ed
    have e2 : ds.drop i = d :: ds.drop (i + 1) := by
      rw [List.drop_eq_getElem_cons hlt]
      have : ds[i] = d := by simpa [hlt] using ed
      rw [this]
    rw [e2] at q'
    refine .inr ⟨go, fun H2 => i + 1 ≤ ds.length ∧ ∃ ρ2 G2 ks2 acc2 kvs2, Sta K G0 H0 ρ2 G2 H2 (wipe σ vs) ∧ Stp (wipeE vs 0 ρ1) (wipe σ vs) G1 H1 G2 H2 ∧ LeE ρ2 (wipeE vs 0 ρ1) ∧ MkD K p ks2 acc2 G2 H2 kvs2 ∧
      dcD W wt wk wv vs (fun ks xs ρe => Φ (.ow (.dct ks xs)) (mixE vs 0 ρ1 ρe)) (ds.drop (i + 1)) ks2 acc2 ρ2, fun H2 z => ⟨ds.length - (i + 1), by omega, rfl, z⟩, fun x H2 y => ?_⟩
    obtain ⟨G2, w2, g2, r2⟩ := yl x H2 y
    have P2 : Stp (wipeE vs 0 ρ1) (wipe σ vs) G1 H1 G2 H2 := P'.trans s'.wd g2.stp (LeE.refl _)
    have nop : ¬ OwnA ρ' (wipe σ vs) p := fun z => hown (own' p z).wiped
    have mk2 : MkD K p ks acc G2 H2 kvs := mk.stp s'.wd (ρ := ρ') (σ := wipe σ vs) g2.stp nop
    refine ⟨ρ', G2, d, _, s'.grow w2 g2, r2, q', fun ρ3 σ3 q3 s3 tr => ⟨tr.w.trans wipe_idem, ρ3, G2, _, s3, q3, fun b ρ4 G4 H4 q4 s4 P4 L4 => ?_⟩⟩
    have own3 : ∀ a, OwnA ρ3 σ3 a → OwnA (wipeE vs 0 ρ1) (wipe σ vs) a := fun a z => own' a (tr.o a z)
    have nop3 : ¬ OwnA ρ3 σ3 p := fun z => hown (own3 p z).wiped
    have mk4 := mk2.stp s3.wd P4 nop3
    have P14 := P2.tr s3.wd P4 own3
    have le3 : LeE (wipeE vs 0 ρ3) (wipeE vs 0 ρ1) := by
      have z := L'.wipe (vs := vs)
      rw [wipeE_idem] at z
      rw [tr.e]; exact z
    have w3 : wipe σ3 vs = wipe σ vs := tr.w.trans wipe_idem
    cases b with
    | false =>
      refine iteF ⟨hlt, wipeE vs 0 ρ4, G4, ks, acc, kvs, ?_, P14, (L4.wipe).trans le3, mk4, by simpa using q4⟩
      have z := s4.wiped (vs := vs)
      rw [w3] at z
      exact z
    | true =>
      refine iteT ⟨ρ4, G4, _, s4, by simpa using q4, fun rk ρ5 y5 G5 H5 q5 s5 P5 L5 x5 => ⟨ρ5, G5, _, s5, q5, fun rv ρ6 y6 G6 H6 q6 s6 P6 L6 x6 => ?_⟩⟩
      have nop4 : ¬ OwnA ρ4 σ3 p := fun z => nop3 (L4.own z)
      have nop5 : ¬ OwnA ρ5 σ3 p := fun z => nop4 (L5.own z)
      have nop6 : ¬ OwnA ρ6 σ3 p := fun z => nop5 (L6.own z)
      have mk5 := mk4.stp s4.wd P5 nop4
      have mk6 := mk5.stp s5.wd P6 nop5
      have P15 := P14.tr s4.wd P5 fun a z => own3 a (L4.own z)
      have P16 := P15.tr s5.wd P6 fun a z => own3 a (L4.own (L5.own z))
      split at q6
      · rename_i k yd ek
        have x6' : Rep K G6 H6 yd y6 := x6
        have ey : y5 = kV k := key_sh (x5.sh.stp s5.wd P6) ek
        subst ey
        have lk : kvs.length = ks.length := by rw [← mk6.k, List.length_map]
        have f : FE G6 H6 G6 (upd H6 p (.dK (putK kvs k y6))) := FE.wrU mk6.at_ (fun _ z => by cases z) (fun _ _ z => by cases z) mk6.f
        obtain ⟨p1, p2⟩ := put_rep k (x6'.fe f) (mk6.r.fe f)
        rw [mk6.k] at p1 p2
        refine ⟨kvs, k, rfl, mk6.at_, by rw [lk]; exact q6.1, hlt, wipeE vs 0 ρ6, G6, putKs ks k, putDs ks acc k yd, putK kvs k y6, ?_, ?_, (L6.wipe).trans ((L5.wipe).trans ((L4.wipe).trans le3)), ⟨upd_same, p1, p2, mk6.f, mk6.b⟩, q6.2⟩
        · have z := (s6.wrU f mk6.f mk6.b h0 nop6).wiped (vs := vs)
          rw [w3] at z
          exact z
        · exact ⟨P16.f, P16.b, fun a o e hb => by rw [upd_ne (fun z => by rw [z, hp] at e; cases e)]; exact P16.k a o e hb, P16.nf, P16.nb⟩
      · exact q6.elim
  · have e : i = ds.length := by omega
    subst e
    rw [List.drop_length] at q'
    refine .inl ⟨it1 (Nat.le_refl _), p, kvs, rfl, mk.at_, fun od => ?_⟩
    have f : FE G' H' G' (upd H' p (.frz od (.dK kvs))) := FE.wrU mk.at_ (fun _ z => by cases z) (fun _ _ z => by cases z) mk.f
    have nopE : ¬ OwnA (mixE vs 0 ρ1 ρ') σ p := fun z => hown ((L'.mix).own z)
    have S3 := (s1.mix s' (P'.fe s1.wd)).wrU f mk.f mk.b h0 nopE
    have P1' : Stp ρ1 σ G1 H1 G' (upd H' p (.frz od (.dK kvs))) := ⟨P'.f, P'.b, fun a o e hb => by rw [upd_ne (fun z => by rw [z, hp] at e; cases e)]; exact P'.k a o e hb, fun a z => (P'.nf a z).elim .inl fun z => .inr (z.elim .inl fun z => .inr z.wiped), P'.nb⟩
    exact c _ _ _ G' _ q' S3 (P.trans s1.wd P1' L) ((L'.mix).trans L) ⟨p, rfl, ⟨mk.f, mk.b, od, kvs, upd_same, mk.k, mk.r.fe f⟩, P.nn s1.wd hp⟩
variable {kx vx tg iter : Expr} {ifs : List Expr} {scope : Scope} {own : List (Str × Nat)} {pos : Pos}
theorem i_dc (hc : X.calm = true) (hN : X.N.Nodup) (hi : PII X G0 H0 tg iter wi) (ok : BlkOk X.N X.env.scope scope own)
    (hg : ∀ (s : Shared) (H : Hp) (C : Addr) (cl : List (Str × Addr)) (fp : List Addr), PGI (X.blk s H scope (compEnvC scope cl C X.env) fp) G0 H0 (own.map (·.2)) tg W) (ht : ∀ (s : Shared) (H : Hp) (C : Addr) (cl : List (Str × Addr)) (fp : List Addr), PTsI (X.blk s H scope (compEnvC scope cl C X.env) fp) G0 H0 ifs wt)
    (hk : ∀ (s : Shared) (H : Hp) (C : Addr) (cl : List (Str × Addr)) (fp : List Addr), PEI (X.blk s H scope (compEnvC scope cl C X.env) fp) G0 H0 kx wk)
    (he : ∀ (s : Shared) (H : Hp) (C : Addr) (cl : List (Str × Addr)) (fp : List Addr), PEI (X.blk s H scope (compEnvC scope cl C X.env) fp) G0 H0 vx wv) (hs : ∀ x, foldedSetIterable iter X.env x = pure x := by intro _; rfl) :
    PEI X G0 H0 (.DictComp kx vx [⟨tg, iter, ifs, 0⟩] scope pos) (wDc wi W wt wk wv (own.map (·.2))) :=
  pe_imp (pe_lock (pe_dc (g := TGX X.K G0 H0 (own.map fun p : Str × Nat => p.2) W) (tt := TTX X.K G0 H0 wt) (tk := TX X.K G0 H0 wk) (tv := TX X.K G0 H0 wv) hc hN hi ok hg ht hk he hs)) fun σ H Q h => tdc_of h
end
end Tv
/-! Tv36: a cell of the bag stored in an unpacking; steps for what Tv32 .. Tv35 brought. -/
namespace Tv
open PySem PySem.Spec PyProof.Rows L2
section
variable {X : Cx} {G0 : Gh} {H0 : Hp} {ea eb : Expr} {ws : WA} {pos pn pb pc pt pq pq2 : Pos}
def bagParW (i b : Nat) (c : Int) (d : D) (ρ : En) (S : SK) : Prop := match d with
  | .tup [d, .int n] => i < ρ.length ∧ i ≠ b ∧ ρ[b]? = some (.fr .bag) ∧ bagOk c n ∧ S.nx (ρ.set i (.fr d))
  | _ => False
theorem bagParW_inv {i b : Nat} {c : Int} {d : D} {ρ : En} {S : SK} (h : bagParW i b c d ρ S) : ∃ d' n, d = .tup [d', .int n] ∧ i < ρ.length ∧ i ≠ b ∧ ρ[b]? = some (.fr .bag) ∧ bagOk c n ∧ S.nx (ρ.set i (.fr d')) := by
  unfold bagParW at h
  split at h
  · exact ⟨_, _, rfl, h⟩
  · exact h.elim
/-- x, bag[c] = a, b -/
def sBagPar (i b : Nat) (c : Int) (wa : WE) : WS := fun ρ S => wa ρ fun r ρ' => bagParW i b c r.d ρ' S
theorem s_bagPar {i b : Nat} {x y : Str} {c : Int} {j k1 : Nat} {e : Expr} {wa : WE} (hcalm : X.calm = true) (hnd : X.N.Nodup) (hix : X.N[i]? = some x) (hx : Loc X.env.scope x) (he : PEI X G0 H0 e wa) (hN : X.N[b]? = some y := by rfl) (hv : Vis X.env.scope y := by first | exact Or.inl rfl | exact Or.inr (Or.inl rfl) | exact Or.inr (Or.inr rfl))
    (hd : (y == ("__debug__" : Str)) = false := by decide) (hcd : (y == ("__classdict__" : Str)) = false := by decide) (hf : X.fn x = true ∨ X.env.scope.names.lookup x = some .local := by first | exact .inl rfl | exact .inr rfl)
    (ha : ∀ v, assign (.Subscript (.Name y pb) (.Constant (.int c) j pc) pt) X.env v = (do
      let ov ← holding [v] (eval (.Name y pb) X.env)
      let iv ← holding [v, ov] (eval (.Constant (.int c) j pc) X.env)
      standAt pt
      holding [v, ov, iv] (setItem ov iv v)
      release [v, ov, iv] []) := by intro _; rfl)
    (hs : swapsWithSole [.Tuple [.Name x pn, .Subscript (.Name y pb) (.Constant (.int c) j pc) pt] k1 pq] e pos.line X.env = pure false := by rfl)
    (hw : swappedStores [.Tuple [.Name x pn, .Subscript (.Name y pb) (.Constant (.int c) j pc) pt] k1 pq] e X.env = pure none := by rfl)
    (h1 : (assignEach [.Tuple [.Name x pn, .Subscript (.Name y pb) (.Constant (.int c) j pc) pt] k1 pq] X.env).map (·.2) = [assign (.Tuple [.Name x pn, .Subscript (.Name y pb) (.Constant (.int c) j pc) pt] k1 pq) X.env] := by rfl)
    (h2 : (assignEach [.Name x pn, .Subscript (.Name y pb) (.Constant (.int c) j pc) pt] X.env).map (·.2) = assign (.Name x pn) X.env :: (assignEach [.Subscript (.Name y pb) (.Constant (.int c) j pc) pt] X.env).map (·.2) := by rfl)
    (h3 : (assignEach [.Subscript (.Name y pb) (.Constant (.int c) j pc) pt] X.env).map (·.2) = assign (.Subscript (.Name y pb) (.Constant (.int c) j pc) pt) X.env :: (assignEach [] X.env).map (·.2) := by rfl)
    (h4 : (assignEach [.Name x pn, .Subscript (.Name y pb) (.Constant (.int c) j pc) pt] X.env).length = 2 := by rfl)
    (h5 : (assignEach [.Name x pn, .Subscript (.Name y pb) (.Constant (.int c) j pc) pt] X.env).findIdx? (·.1) = none := by rfl) :
    PSI X G0 H0 (.Assign [.Tuple [.Name x pn, .Subscript (.Name y pb) (.Constant (.int c) j pc) pt] k1 pq] e pos) (sBagPar i b c wa) := by
  refine ps_imp (ps_asg he (pg_tup hcalm (pgs_cons (pg_name hnd hix hx hf) (pgs_cons (pg_sub (pe_var hN hv hd hcd) pe_int set_list ha) pgs_nil h3) h2) h4 h5) hs hw h1) fun D σ H h => ?_
  obtain ⟨ρ, G, S, s, h, k⟩ := h
  refine ⟨ρ, G, _, s, h, fun r ρ' v G' H' q s' P L x => ?_⟩
  obtain ⟨d, n, ed, hi, hib, hbag, hc, q⟩ := bagParW_inv q
  have x' := x.sh
  rw [ed] at x'
  obtain ⟨at_, xs, rfl, sq, rl⟩ := x'.tuple
  cases rl with
  | cons rd rl =>
    cases rl with
    | cons rn rl =>
      cases rl
      cases rn
      rename_i vd
      have s2 := Sta.put (r := .fr d) (w := vd) (i := i) s' s' (LeE.refl _) hi rd trivial
      have e1 : (ρ'.set i (.fr d))[b]? = some (.fr .bag) := by rw [List.getElem?_set_ne hib]; exact hbag
      obtain ⟨w, e2, rw'⟩ := s2.fr b _ e1
      cases rw' with
      | bag hb =>
        rename_i a
        obtain ⟨ys, hy⟩ := s2.wd.bagl hb
        have hj : ∃ j, ixN ys.length c = some j := by
          obtain ⟨⟨x, y, z, r, ns, ea, _⟩, _⟩ := s2.wd.b a hb
          rw [hy] at ea
          cases ea
          unfold bagOk at hc
          by_cases c0 : c = 0
          · subst c0; exact ⟨0, rfl⟩
          · rw [if_neg c0] at hc
            by_cases c1 : c = 1
            · subst c1; exact ⟨1, rfl⟩
            · rw [if_neg c1] at hc
              by_cases c2 : c = 2
              · subst c2; exact ⟨2, rfl⟩
              · rw [if_neg c2] at hc; exact hc.elim
        obtain ⟨j, hj⟩ := hj
        obtain ⟨s3, f3⟩ := s2.wrBag hb hy hc hj
        exact ⟨at_, [vd, .int n], rfl, sq, rfl, vd, [.int n], rfl, .int n, [], rfl, _, e2, a, ys, c, j, rfl, rfl, hy, hj, rfl, k.nx _ G' _ _ q s3 ((P.fe s.wd).trans f3)⟩
end
/-! ### steps -/
section
variable {ρ : En} {Φ : R → En → Prop} {Φi : List D → En → Prop} {S : SK} {wa wb wk wx : WE} {ws : WA} {r : R} {d : D} {ks : List Key} {ds : List D} {c f : Str} {wf : WF} {i j b : Nat} {n : Int} {kds : List (Key × D)} {k : Key}
theorem e_at (h : wa ρ fun r ρ' => attW c f r.d Φ ρ') : wAt c f wa ρ Φ := h
theorem e_attW (q : r.d = .ins c [f] [d]) (h : Φ (.fr d) ρ) : attW c f r.d Φ ρ := by rw [q]; exact ⟨rfl, rfl, h⟩
theorem e_meth (h : wa ρ fun r ρ1 => methW c wf ws r Φ ρ1) : wMeth c wf wa ws ρ Φ := h
def meth2 (wf : WF) (d : D) (rs : List R) (Φ : R → En → Prop) (ρ : En) : Prop := match frs' rs with
  | some es => wf (d :: es) fun r' => Φ r' ρ
  | none => False
theorem e_methW {ns : List Str} (h : ws ρ fun rs ρ2 => meth2 wf (.ins c ns ds) rs Φ ρ2) : methW c wf ws (.fr (.ins c ns ds)) Φ ρ := ⟨rfl, h⟩
theorem e_meth2 {rs : List R} {es : List D} (q : frs' rs = some es) (h : wf (d :: es) fun r => Φ r ρ) : meth2 wf d rs Φ ρ := by unfold meth2; rw [q]; exact h
theorem e_dnew (h : Φ (.ow (.dct [] [])) ρ) : wDnew ρ Φ := h
def dictPW (d : D) (Φ : R → En → Prop) (ρ : En) : Prop := match dpairs d with
  | some kds => Φ (.ow (.dct (mrgK [] (kds.map (·.1))) (mrgD [] [] kds))) ρ
  | none => False
theorem e_dictP (h : wa ρ fun r ρ' => dictPW r.d Φ ρ') : wDictP wa ρ Φ := h
theorem e_dictPW (q : dpairs d = some kds) (h : Φ (.ow (.dct (mrgK [] (kds.map (·.1))) (mrgD [] [] kds))) ρ) : dictPW d Φ ρ := by unfold dictPW; rw [q]; exact h
def dictDW (d : D) (Φ : R → En → Prop) (ρ : En) : Prop := match d with
  | .dct ks ds => Φ (.ow (.dct ks ds)) ρ
  | _ => False
theorem e_dictD (h : wa ρ fun r ρ' => dictDW r.d Φ ρ') : wDictD wa ρ Φ := h
theorem e_dictDW (q : d = .dct ks ds) (h : Φ (.ow (.dct ks ds)) ρ) : dictDW d Φ ρ := by subst q; exact h
def itemsW (r : R) (Φ : List D → En → Prop) (ρ : En) : Prop := match r with
  | .fr (.dct ks ds) => Φ (itD ks ds) ρ
  | _ => False
theorem e_items (h : wa ρ fun r ρ' => itemsW r Φi ρ') : wItems wa ρ Φi := h
theorem e_itemsW (h : Φi (itD ks ds) ρ) : itemsW (.fr (.dct ks ds)) Φi ρ := h
def keysW (r : R) (Φ : List D → En → Prop) (ρ : En) : Prop := match r with
  | .fr (.dct ks _) => Φ (ks.map kD) ρ
  | _ => False
theorem e_keysD (h : wa ρ fun r ρ' => keysW r Φi ρ') : wKeysD wa ρ Φi := h
theorem e_keysW (h : Φi (ks.map kD) ρ) : keysW (.fr (.dct ks ds)) Φi ρ := h
theorem e_get2 (h : wa ρ fun r ρ1 => (∃ ks ds, r.d = .dct ks ds) ∧ wk ρ1 fun r1 ρ2 => wx ρ2 fun r2 ρ3 => getW r.d r1.d r2 fun r' => Φ r' ρ3) : wGet2 wa wk wx ρ Φ := h
theorem e_getW {e x : D} {Ψ : R → Prop} (q : d = .dct ks ds) (q2 : keyD e = some k) (h : Ψ (.fr ((lookD ks ds k).getD x))) : getW d e (.fr x) Ψ := by subst q; unfold getW; rw [q2]; exact h
theorem e_isi2 {t u : String} (h : wa ρ fun r ρ' => isT2W t u r Φ ρ') : wIsi2 t u wa ρ Φ := h
theorem e_isi2W {t u m : String} (q : r.d.ty = some m) (h : Φ (.fr (.bl (isTy m t || isTy m u))) ρ) : isT2W t u r Φ ρ := by unfold isT2W; rw [q]; exact h
theorem e_sortD (h : wa ρ fun r ρ' => sortDW r.d Φ ρ') : wSortD wa ρ Φ := h
theorem e_sortDW {xs : List Str} (q : d = .dct ks ds) (q2 : strKs ks = some xs) (l : xs.length < 64) (h : Φ (.ow (.lst ((xs.mergeSort leS).map .str))) ρ) : sortDW d Φ ρ := by subst q; unfold sortDW; dsimp only; rw [q2]; exact ⟨l, h⟩
theorem e_dupd (q : ρ[j]? = some (.ow (.dct ks ds))) (h : wa ρ fun r ρ1 => dupdW j r.d ρ1 S) : sDUpd j wa ρ S := ⟨⟨_, _, q⟩, h⟩
theorem e_dupdW (q : ρ[j]? = some (.ow (.dct ks ds))) (q2 : dpairs d = some kds) (l : ks.length + kds.length ≤ 16000000) (h : S.nx (ρ.set j (.ow (.dct (mrgK ks (kds.map (·.1))) (mrgD ks ds kds))))) : dupdW j d ρ S := by unfold dupdW; rw [q, q2]; exact ⟨l, h⟩
theorem e_dc {wi : WI} {W : WTg} {wt : WT} {wv : WE} {vs : List Nat} (h : wi ρ fun ds ρ1 => dcD W wt wk wv vs (fun ks xs ρe => Φ (.ow (.dct ks xs)) (mixE vs 0 ρ1 ρe)) ds [] [] (wipeE vs 0 ρ1)) : wDc wi W wt wk wv vs ρ Φ := h
theorem e_bagPar (h : wa ρ fun r ρ' => bagParW i b n r.d ρ' S) : sBagPar i b n wa ρ S := h
theorem e_bagPar0 {m : Int} (q : d = .tup [.int m, .int n]) (l : Nat.blt i ρ.length = true) (hne : i ≠ b) (q2 : ρ[b]? = some (.fr .bag)) (l2 : 0 ≤ n) (h : S.nx (ρ.set i (.fr (.int m)))) : bagParW i b 0 d ρ S := by subst q; exact ⟨Nat.blt_eq.mp l, hne, q2, l2, h⟩
/-- a comprehension of a dict, told row by row -/
def stepDc (W : WTg) (wt : WT) (wk wv : WE) (vs : List Nat) (ρ : En) (d : D) (Ψ : Option (Key × D) → En → Prop) : Prop := W d ρ fun ρ1 => wt ρ1 fun b ρ2 => if b = true then wk ρ2 fun rk ρ3 => wv ρ3 fun rv ρ4 => match keyD rk.d, rv with
      | some k, .fr y => Ψ (some (k, y)) (wipeE vs 0 ρ4)
      | _, _ => False
    else Ψ none (wipeE vs 0 ρ2)
theorem dcD_of {α : Type} {W : WTg} {wt : WT} {wv : WE} {vs : List Nat} {Φ : List Key → List D → En → Prop} (inj : α → D) (g : α → Key × D) : ∀ (xs : List α) (ks : List Key) (acc : List D), (∀ x ∈ xs, ∀ Ψ : Option (Key × D) → En → Prop, Ψ (some (g x)) ρ → stepDc W wt wk wv vs ρ (inj x) Ψ) → ks.length + xs.length ≤ 16000000 →
    Φ (mrgK ks (xs.map fun x => (g x).1)) (mrgD ks acc (xs.map g)) ρ → dcD W wt wk wv vs Φ (xs.map inj) ks acc ρ
  | [], ks, acc, _, _, h => h
  | x :: xs, ks, acc, hs, hl, h => by
    have e := sizeLine_eq
    rw [List.length_cons] at hl
    have lp : (putKs ks (g x).1).length ≤ ks.length + 1 := by unfold putKs; split <;> simp
    have q := hs x List.mem_cons_self (fun o ρ' => match o with
      | some y => ks.length < sizeLine ∧ dcD W wt wk wv vs Φ (xs.map inj) (putKs ks y.1) (putDs ks acc y.1 y.2) ρ'
      | none => dcD W wt wk wv vs Φ (xs.map inj) ks acc ρ') ⟨by omega, dcD_of inj g xs _ _ (fun y hy => hs y (List.mem_cons_of_mem _ hy)) (by omega) h⟩
    exact q
end
end Tv
/-! Tv37: for plain laws: data that may be compared and shown; equality; dicts of pairs; comprehensions told with what they are of. -/
namespace Tv
open PySem PySem.Spec PyProof.Rows L2
/-! ### data that may be looked at, compared, shown -/
structure Fine (m : Nat) (c : Nat) (d : D) : Prop where
  gd : d.good = true
  sh : d.sho = true
  dp : d.dep ≤ m
  ct : d.cost ≤ c
structure FineL (m : Nat) (c : Nat) (ds : List D) : Prop where
  gd : D.goodL ds = true
  sh : D.shoL ds = true
  dp : D.depL ds ≤ m
  ct : D.costL ds ≤ c
theorem FineL.nil {m : Nat} : FineL m 0 [] := ⟨rfl, rfl, Nat.zero_le _, Nat.zero_le _⟩
theorem Fine.cons {m c c' : Nat} {d : D} {ds : List D} (h : Fine m c d) (t : FineL m c' ds) : FineL m (c + 2 + c') (d :: ds) := by
  refine ⟨?_, ?_, ?_, ?_⟩
  · show (d.good && D.goodL ds) = true
    rw [h.gd, t.gd]; rfl
  · show (d.sho && D.shoL ds) = true
    rw [h.sh, t.sh]; rfl
  · exact Nat.max_le.mpr ⟨h.dp, t.dp⟩
  · show d.cost + 2 + D.costL ds ≤ _
    have := h.ct
    have := t.ct
    omega
theorem FineL.tup {m c : Nat} {ds : List D} (h : FineL m c ds) : Fine (m + 1) (c + 3) (.tup ds) := ⟨h.gd, h.sh, Nat.succ_le_succ h.dp, Nat.add_le_add_right h.ct 3⟩
theorem FineL.lst {m c : Nat} {ds : List D} (h : FineL m c ds) : Fine (m + 1) (c + 3) (.lst ds) := ⟨h.gd, h.sh, Nat.succ_le_succ h.dp, Nat.add_le_add_right h.ct 3⟩
theorem Fine.le {m m' c c' : Nat} {d : D} (h : Fine m c d) (hm : m ≤ m') (hc : c ≤ c') : Fine m' c' d := ⟨h.gd, h.sh, Nat.le_trans h.dp hm, Nat.le_trans h.ct hc⟩
theorem FineL.le {m m' c c' : Nat} {d : List D} (h : FineL m c d) (hm : m ≤ m') (hc : c ≤ c') : FineL m' c' d := ⟨h.gd, h.sh, Nat.le_trans h.dp hm, Nat.le_trans h.ct hc⟩
theorem fineL_all {m c : Nat} : ∀ {ds : List D}, (∀ d ∈ ds, Fine m c d) → FineL m ((c + 2) * ds.length) ds
  | [], _ => FineL.nil.le (Nat.le_refl _) (Nat.zero_le _)
  | d :: ds, h => by
    refine ((h d List.mem_cons_self).cons (fineL_all fun e he => h e (List.mem_cons_of_mem _ he))).le (Nat.le_refl _) ?_
    rw [List.length_cons, Nat.mul_add]
    omega
theorem Fine.okE {m c : Nat} {d : D} (h : Fine m c d) (hm : m ≤ 64) : okE d = true := by
  unfold Tv.okE
  rw [h.gd, decide_eq_true (show d.dep ≤ 64 by have := h.dp; omega)]
  rfl
theorem Fine.okR {m c : Nat} {d : D} (h : Fine m c d) (hm : m ≤ 64) (hc : c ≤ 16777216) : okR d = true := by
  unfold Tv.okR
  rw [h.okE hm, h.sh, decide_eq_true (show d.cost ≤ 16777216 by have := h.ct; omega)]
  rfl
/-- a text of data -/
def TxD (x : Str) : Prop := PyData.strOk x = true ∧ x.length ≤ 20
theorem fineS {x : Str} (h : TxD x) (m : Nat) : Fine m 202 (.str x) := ⟨h.1, rfl, Nat.zero_le _, by show 10 * x.length + 2 ≤ 202; have := h.2; omega⟩
theorem fineI {k : Int} {b : Nat} (h : k.natAbs < 2 ^ b) (hb : b ≤ 1000) (m : Nat) : Fine m (b + 3) (.int k) := by
  have : k.natAbs.log2 ≤ b := by
    by_cases z : k.natAbs = 0
    · rw [z]; exact Nat.zero_le _
    · exact Nat.le_of_lt ((Nat.log2_lt z).mpr h)
  exact ⟨rfl, by show decide (k.natAbs.log2 < 1920) = true; rw [decide_eq_true]; omega, Nat.zero_le _, by show k.natAbs.log2 + 3 ≤ _; omega⟩
/-! ### equality -/
theorem e_eqD {d e : D} {Φ : R → Prop} (h1 : okE d = true) (h2 : okE e = true) (h : Φ (.fr (.bl (eqD d e)))) : oEq d e Φ := by
  unfold oEq
  split
  · rename_i a b
    rw [eq_strs] at h; exact h
  · exact ⟨by rw [h1, h2]; rfl, h⟩
theorem e_neD {d e : D} {Φ : R → Prop} (h1 : okE d = true) (h2 : okE e = true) (h : Φ (.fr (.bl (!eqD d e)))) : oNe d e Φ := by
  unfold oNe
  split
  · rename_i a b
    rw [eq_strs] at h; exact h
  · exact ⟨by rw [h1, h2]; rfl, h⟩
mutual
/-- ints, texts, tuples of these -/
def D.flt : D → Bool
  | .int _ => true
  | .str _ => true
  | .tup ds => D.fltL ds
  | _ => false
def D.fltL : List D → Bool
  | [] => true
  | d :: ds => d.flt && D.fltL ds
end
mutual
theorem flt_eq : ∀ d e : D, d.flt = true → e.flt = true → PyData.eqv d.py e.py = true → d = e
  | .int i, .int j, _, _, h => by
    have h' : (i == j) = true := h
    rw [eq_of_beq h']
  | .str i, .str j, _, _, h => by
    have h' : (i == j) = true := h
    rw [eq_of_beq h']
  | .tup ds, .tup es, h1, h2, h => by rw [flt_eqL ds es h1 h2 h]
  | .int _, .str _, _, _, h => nomatch h
  | .int _, .tup _, _, _, h => nomatch h
  | .str _, .int _, _, _, h => nomatch h
  | .str _, .tup _, _, _, h => nomatch h
  | .tup _, .int _, _, _, h => nomatch h
  | .tup _, .str _, _, _, h => nomatch h
theorem flt_eqL : ∀ ds es : List D, D.fltL ds = true → D.fltL es = true → PyData.eqvAll (D.pyL ds) (D.pyL es) = true → ds = es
  | [], [], _, _, _ => rfl
  | [], _ :: _, _, _, h => nomatch h
  | _ :: _, [], _, _, h => nomatch h
  | d :: ds, e :: es, h1, h2, h => by
    have h1' : (d.flt && D.fltL ds) = true := h1
    have h2' : (e.flt && D.fltL es) = true := h2
    have h' : (PyData.eqv d.py e.py && PyData.eqvAll (D.pyL ds) (D.pyL es)) = true := h
    rw [Bool.and_eq_true] at h1' h2' h'
    rw [flt_eq d e h1'.1 h2'.1 h'.1, flt_eqL ds es h1'.2 h2'.2 h'.2]
end
theorem eqD_flt {d e : D} (h1 : d.flt = true) (h2 : e.flt = true) (h : eqD d e = true) : d = e := flt_eq d e h1 h2 h
theorem fltL_of : ∀ {ds : List D}, (∀ d ∈ ds, d.flt = true) → D.fltL ds = true
  | [], _ => rfl
  | d :: ds, h => by
    show (d.flt && D.fltL ds) = true
    rw [h d List.mem_cons_self, fltL_of fun e he => h e (List.mem_cons_of_mem _ he)]
    rfl
/-- `_law_alike` of any two such -/
def Alike2 (F : WF) : Prop := ∀ (d e : D) (Φ : R → Prop), d.flt = true → e.flt = true → okR d = true → okR e = true → Φ (.fr (.bl (eqD d e))) → F [d, e] Φ
theorem e_pow {m n : Int} {Φ : R → Prop} (l : CPow m n) (h : Φ (.fr (.int (m ^ n.toNat)))) : oPow (.int m) (.int n) Φ := ⟨l, h⟩
section
variable {t u n : String} {r : R} {ρ : En} {Φ : R → En → Prop}
theorem e_isiY (q : r.d.ty = some n) (q2 : isTy n t = true) (h : Φ (.fr (.bl true)) ρ) : isiW t r Φ ρ := e_isiW q (by rw [q2]; exact h)
theorem e_isiN (q : r.d.ty = some n) (q2 : isTy n t = false) (h : Φ (.fr (.bl false)) ρ) : isiW t r Φ ρ := e_isiW q (by rw [q2]; exact h)
theorem e_isi2Y (q : r.d.ty = some n) (q2 : (isTy n t || isTy n u) = true) (h : Φ (.fr (.bl true)) ρ) : isT2W t u r Φ ρ := e_isi2W q (by rw [q2]; exact h)
theorem e_isi2N (q : r.d.ty = some n) (q2 : (isTy n t || isTy n u) = false) (h : Φ (.fr (.bl false)) ρ) : isT2W t u r Φ ρ := e_isi2W q (by rw [q2]; exact h)
end
/-! ### at places -/
theorem at0 {α : Type} (x : α) (xs : List α) : atI (x :: xs) 0 = some x := by
  unfold atI ixN
  rw [if_pos (by decide), if_pos (by simp)]
  rfl
theorem at1 {α : Type} (x y : α) (xs : List α) : atI (x :: y :: xs) 1 = some y := by
  unfold atI ixN
  rw [if_pos (by decide), if_pos (by simp; omega)]
  rfl
/-! ### dicts of pairs -/
theorem inK_iff {ks : List Key} {k : Key} : inK ks k = true ↔ k ∈ ks := by
  unfold inK
  rw [List.any_eq_true]
  constructor
  · rintro ⟨z, hz, e⟩
    rw [← of_decide_eq_true e]; exact hz
  · intro h
    exact ⟨k, h, decide_eq_true rfl⟩
theorem mrgK_new : ∀ (new ks : List Key), (ks ++ new).Nodup → mrgK ks new = ks ++ new
  | [], ks, _ => by rw [List.append_nil]; rfl
  | k :: new, ks, h => by
    have hk : ¬ k ∈ ks := fun hk => (List.nodup_append.mp h).2.2 k hk k List.mem_cons_self rfl
    show mrgK (putKs ks k) new = _
    have e : putKs ks k = ks ++ [k] := by unfold putKs; rw [if_neg (fun z => hk (inK_iff.mp z))]
    rw [e, mrgK_new new (ks ++ [k]) (by rw [List.append_assoc]; exact h), List.append_assoc]
    rfl
theorem mrgD_new : ∀ (new : List (Key × D)) (ks : List Key) (ds : List D), (ks ++ new.map (·.1)).Nodup → mrgD ks ds new = ds ++ new.map (·.2)
  | [], ks, ds, _ => by rw [List.map_nil, List.append_nil]; rfl
  | (k, d) :: new, ks, ds, h => by
    have hk : ¬ k ∈ ks := fun hk => (List.nodup_append.mp h).2.2 k hk k List.mem_cons_self rfl
    show mrgD (putKs ks k) (putDs ks ds k d) new = _
    have e : putKs ks k = ks ++ [k] := by unfold putKs; rw [if_neg (fun z => hk (inK_iff.mp z))]
    have e2 : putDs ks ds k d = ds ++ [d] := by unfold putDs; rw [if_neg (fun z => hk (inK_iff.mp z))]
    rw [e, e2, mrgD_new new (ks ++ [k]) (ds ++ [d]) (by rw [List.append_assoc]; exact h), List.append_assoc]
    rfl
/-- a row of a dict, as data -/
def kvD (p : Str × D) : D := .tup [.str p.1, p.2]
theorem pairs_kv : ∀ ps : List (Str × D), pairsD (ps.map kvD) = some (ps.map fun p => (.inr p.1, p.2))
  | [] => rfl
  | p :: ps => by
    show (match keyD (.str p.1), pairsD (ps.map kvD) with
      | some k, some r => some ((k, p.2) :: r)
      | _, _ => none) = _
    rw [pairs_kv ps]
    rfl
theorem look_kv (x : Str) : ∀ ps : List (Str × D), lookD (ps.map fun p => Sum.inr p.1) (ps.map (·.2)) (.inr x) = ps.lookup x
  | [] => rfl
  | p :: ps => by
    show (if (Sum.inr p.1 : Key) = .inr x then some p.2 else lookD (ps.map fun p => Sum.inr p.1) (ps.map (·.2)) (.inr x)) = _
    rw [look_kv x ps]
    by_cases e : p.1 = x
    · subst e
      rw [if_pos rfl]
      obtain ⟨a, b⟩ := p
      rw [List.lookup_cons_self]
    · rw [if_neg (fun z => e (Sum.inr.inj z))]
      obtain ⟨a, b⟩ := p
      rw [List.lookup_cons, show (x == a) = false by simpa using fun z => e z.symm]
theorem nd_inr {xs : List Str} (h : xs.Nodup) : (xs.map (Sum.inr : Str → Key)).Nodup := by
  rw [List.nodup_iff_pairwise_ne, List.pairwise_map]
  exact (List.nodup_iff_pairwise_ne.mp h).imp fun hne z => hne (Sum.inr.inj z)
theorem keys_kv (ps : List (Str × D)) : (ps.map fun p => ((.inr p.1, p.2) : Key × D)).map (·.1) = (ps.map (·.1)).map Sum.inr := by
  rw [List.map_map, List.map_map]; rfl
/-- a dict made of rows whose keys are unlike -/
theorem mrg_kv {ps : List (Str × D)} (h : (ps.map (·.1)).Nodup) : mrgK [] ((ps.map fun p => ((.inr p.1, p.2) : Key × D)).map (·.1)) = ps.map (fun p => Sum.inr p.1) ∧ mrgD [] [] (ps.map fun p => (.inr p.1, p.2)) = ps.map (·.2) := by
  have n : (([] : List Key) ++ (ps.map fun p : Str × D => ((.inr p.1, p.2) : Key × D)).map (·.1)).Nodup := by
    rw [List.nil_append, keys_kv]; exact nd_inr h
  refine ⟨?_, ?_⟩
  · rw [mrgK_new _ _ n, List.nil_append, List.map_map]; rfl
  · rw [mrgD_new _ _ _ n, List.nil_append, List.map_map]; rfl
/-! ### comprehensions whose parts are told with what they are of -/
theorem lcD_rel {α : Type} {W : WTg} {wt : WT} {we : WE} {vs : List Nat} {Φ : List D → En → Prop} {ρ : En} (inj : α → D) (Q : α → D → Prop) : ∀ (xs : List α) (acc : List D), (∀ x ∈ xs, ∀ Ψ : Option D → En → Prop, (∀ y, Q x y → Ψ (some y) ρ) → stepD W wt we vs ρ (inj x) Ψ) → acc.length + xs.length ≤ 16777216 →
    (∀ ys : List D, Paired Q xs ys → Φ (acc ++ ys) ρ) → lcD W wt we vs Φ (xs.map inj) acc ρ
  | [], acc, _, _, h => by have z := h [] .nil; rw [List.append_nil] at z; exact z
  | x :: xs, acc, hs, hl, h => by
    have e := sizeLine_eq
    rw [List.length_cons] at hl
    refine hs x List.mem_cons_self (fun o ρ' => match o with
      | some y => acc.length < sizeLine ∧ lcD W wt we vs Φ (xs.map inj) (acc ++ [y]) ρ'
      | none => lcD W wt we vs Φ (xs.map inj) acc ρ') fun y hy => ?_
    refine ⟨by omega, lcD_rel inj Q xs (acc ++ [y]) (fun z hz => hs z (List.mem_cons_of_mem _ hz)) (by rw [List.length_append, List.length_singleton]; omega) fun ys hys => ?_⟩
    rw [List.append_assoc]
    exact h (y :: ys) (.cons hy hys)
theorem paired_len {α β : Type} {Q : α → β → Prop} : ∀ {xs : List α} {ys : List β}, Paired Q xs ys → ys.length = xs.length
  | _, _, .nil => rfl
  | _, _, .cons _ t => by rw [List.length_cons, List.length_cons, paired_len t]
theorem paired_fn {α β γ : Type} {Q : α → β → Prop} {T : α → γ → Prop} (f : γ → β) (hq : ∀ x y, Q x y → ∃ z, T x z ∧ y = f z) : ∀ {xs : List α} {ys : List β}, Paired Q xs ys → ∃ zs : List γ, ys = zs.map f ∧ Paired T xs zs
  | _, _, .nil => ⟨[], rfl, .nil⟩
  | _, _, .cons h t => by
    obtain ⟨z, hz, rfl⟩ := hq _ _ h
    obtain ⟨zs, rfl, ht⟩ := paired_fn f hq t
    exact ⟨z :: zs, rfl, .cons hz ht⟩
theorem paired_mem {α β : Type} {Q : α → β → Prop} : ∀ {xs : List α} {ys : List β}, Paired Q xs ys → ∀ y ∈ ys, ∃ x ∈ xs, Q x y
  | _, _, .nil, _, hy => by cases hy
  | _, _, .cons h t, y, hy => by
    rcases List.mem_cons.mp hy with rfl | hy
    · exact ⟨_, List.mem_cons_self, h⟩
    · obtain ⟨x, hx, q⟩ := paired_mem t y hy
      exact ⟨x, List.mem_cons_of_mem _ hx, q⟩
end Tv
/-! Tv38: zip of any two that are lists or tuples. -/
namespace Tv
open PySem PySem.Spec PyProof.Rows L2
section
variable {X : Cx} {G0 : Gh} {H0 : Hp} {e e2 tg : Expr} {wa : WE} {ws : WA} {pos p tpos : Pos} {K : PySem.W.Frag} {G : Gh} {H : Hp} {elts : List Expr} {kk : Nat}
def SqB (K : PySem.W.Frag) : Bool → Hp → Addr → List V → Prop
  | true, H, a, xs => SqL K H a xs
  | false, H, a, xs => SqT K H a xs
def ItB : Bool → Heap → Addr → Addr → Nat → Prop
  | true, h, it, a, i => h.IsListIter it a i
  | false, h, it, a, i => h.IsTupleIter it a i
def SeqB : Bool → Heap → Addr → Array Value → Prop
  | true, h, a, its => h.IsList a its
  | false, h, a, its => h.IsTuple a its
theorem sqB_inv {k : Bool} {pins : List (Addr × Obj)} {σ : L2.St} {s : Shared} {a : Addr} {xs : List V} (I : L2.Inv X pins σ H s) (h : SqB X.K k H a xs) : ∃ its : List Value, Vals xs its ∧ SeqB k s.heap a its.toArray := by
  cases k with
  | true => obtain ⟨its, r, p, _⟩ := I.list h; exact ⟨its, r, p.isList⟩
  | false => obtain ⟨its, r, p, _⟩ := I.tuple h; exact ⟨its, r, p⟩
theorem sqB_inj {k : Bool} {pins : List (Addr × Obj)} {σ : L2.St} {s : Shared} {a : Addr} {xs ys : List V} (I : L2.Inv X pins σ H s) (h : SqB X.K k H a xs) (h' : SqB X.K k H a ys) : xs = ys := by
  cases k with
  | true => exact I.list_inj h h'
  | false => exact I.tuple_inj h h'
theorem itB_obj {k : Bool} {h : Heap} {it a : Addr} {i : Nat} (st : ItB k h it a i) : ∃ o, h.get? it = some o ∧ o.data = .fields #[.ref a, .int i 0] ∨ ∃ o, h.get? it = some o ∧ ∀ v, o.data ≠ .cell v := by
  cases k with
  | true => obtain ⟨o, e, _, d⟩ := st; exact ⟨o, .inr ⟨o, e, fun v q => by rw [d] at q; cases q⟩⟩
  | false => obtain ⟨o, e, _, d⟩ := st; exact ⟨o, .inr ⟨o, e, fun v q => by rw [d] at q; cases q⟩⟩
theorem itB_at {k : Bool} {h h' : Heap} {it a : Addr} {i : Nat} (st : ItB k h it a i) (q : ∀ o, h.get? it = some o → h'.get? it = some o) : ItB k h' it a i := by
  cases k with
  | true => exact st.at q
  | false => exact st.at q
theorem seqB_lt {k : Bool} {h : Heap} {a : Addr} {its : Array Value} (st : SeqB k h a its) : a < h.objs.size := by
  cases k with
  | true => obtain ⟨o, ho, _⟩ := st; exact Heap.lt_size ho
  | false => obtain ⟨o, ho, _⟩ := st; exact Heap.lt_size ho
/-- how a walk over a list stands, at any turn -/
theorem dr_lst {prog : Program} {w : World} {A : Around} (hh : A.handled = none) {h : Heap} {it a : Addr} {items : Array Value} {i : Nat} (hne : a ≠ it) (st : h.IsListIter it a i) (hl : h.IsList a items) :
    ∃ n P St, Draws prog w A it [it, a] n P St ∧ St i h ∧ i ≤ n ∧ (items.size ≤ i ↔ i = n) ∧ (∀ v, i < n → P i v → items[i]? = some v) ∧ (∀ h', St (i + 1) h' → h'.IsListIter it a (i + 1)) := by
  by_cases c : i < items.size
  · exact ⟨_, _, _, Draws.list hh it a hne items, ⟨st, hl⟩, Nat.le_of_lt c, ⟨fun z => absurd c (Nat.not_lt.mpr z), fun z => absurd c (z ▸ Nat.lt_irrefl _)⟩, fun v _ h => h, fun _ h => h.1⟩
  · have hx : items[i]? = none := Array.getElem?_eq_none (Nat.le_of_not_lt c)
    refine ⟨i, fun _ _ => False, fun j h => j = i ∧ h.IsListIter it a i ∧ h.IsList a items, ?_, ⟨rfl, st, hl⟩, Nat.le_refl _, ⟨fun _ => rfl, fun _ => Nat.le_of_not_lt c⟩, fun v z => absurd z (Nat.lt_irrefl _), fun _ z => absurd z.1 (Nat.succ_ne_self _)⟩
    exact ⟨fun _ _ st => let ⟨_, ⟨o, ho, _⟩, _⟩ := st; ⟨o, ho⟩, fun _ _ _ st hk => ⟨st.1, st.2.1.at fun o e => hk it (by simp) o e, st.2.2.at fun o e => hk a (by simp) o e⟩, fun j s Q E hj st hQ => absurd st.1 (Nat.ne_of_lt hj), fun s Q E st hE => wpAny_nextOf_list_end hh st.2.1 st.2.2 hx hE⟩
theorem dr_B {prog : Program} {w : World} {A : Around} (hh : A.handled = none) {k : Bool} {h : Heap} {it a : Addr} {items : Array Value} {i : Nat} (hne : a ≠ it) (st : ItB k h it a i) (hl : SeqB k h a items) :
    ∃ n P St, Draws prog w A it [it, a] n P St ∧ St i h ∧ i ≤ n ∧ (items.size ≤ i ↔ i = n) ∧ (∀ v, i < n → P i v → items[i]? = some v) ∧ (∀ h', St (i + 1) h' → ItB k h' it a (i + 1)) := by
  cases k with
  | true => exact dr_lst hh hne st hl
  | false => exact dr_tup hh hne st hl
def itObj : Bool → Addr → Obj
  | true, a => { cls := .type "list_iterator", data := .fields #[.ref a, .int 0 0] }
  | false, a => { cls := .type "tuple_iterator", data := .fields #[.ref a, .int 0 0] }
theorem begins_B (k : Bool) (a : Addr) (items : Array Value) : Begins (.ref a) (itObj k a) fun h => SeqB k h a items := by
  cases k with
  | true => exact begins_list a items
  | false => exact begins_tuple a items
theorem itB_new {k : Bool} {h : Heap} {it a : Addr} (q : h.get? it = some (itObj k a)) : ItB k h it a 0 := by
  cases k with
  | true => exact ⟨_, q, rfl, rfl⟩
  | false => exact ⟨_, q, rfl, rfl⟩
def ItzB (K : PySem.W.Frag) (k1 k2 : Bool) (a b : Addr) : It :=
  ⟨fun i H => ∃ (xs ys : List V) (x y : V), SqB K k1 H a xs ∧ SqB K k2 H b ys ∧ xs[i]? = some x ∧ ys[i]? = some y,
    fun i H v H' => ∃ T x y, v = .ref T ∧ H T = none ∧ H' = upd H T (.tup [x, y]) ∧ (∀ xs, SqB K k1 H a xs → xs[i]? = some x) ∧ ∀ ys, SqB K k2 H b ys → ys[i]? = some y,
    fun i H => ∃ xs ys : List V, SqB K k1 H a xs ∧ SqB K k2 H b ys ∧ (xs.length ≤ i ∨ ys.length ≤ i)⟩
theorem turn_zipB {P : Program} {w : World} {k1 k2 : Bool} {a b z TI TO i1 i2 : Addr} (ha : a ≠ i1) (hb : b ≠ i2) (D : ZipSep2 z TI TO i1 i2 [i1, a] [i2, b]) :
    Turn P w K (.Tuple elts kk tpos) (ItzB K k1 k2 a b) [z, TI, TO, i1, i2] z (fun i h => IsZip h z TI TO .none ∧ IsTupOf2 h TI (.ref i1) (.ref i2) ∧ (∃ x y, IsTupOf2 h TO x y) ∧ ItB k1 h i1 a i ∧ ItB k2 h i2 b i) where
  mem := by simp
  obj := fun i h st c hc => by
    obtain ⟨hz, hTI, ⟨x, y, hTO⟩, h1, h2⟩ := st
    have e' : c = z ∨ c = TI ∨ c = TO ∨ c = i1 ∨ c = i2 := by simpa using hc
    rcases e' with q | q | q | q | q
    · rw [q]; exact ⟨_, hz, fun v q => nomatch q⟩
    · rw [q]; exact ⟨_, hTI, fun v q => nomatch q⟩
    · rw [q]; exact ⟨_, hTO, fun v q => nomatch q⟩
    · rw [q]
      cases k1 with
      | true => obtain ⟨o1, e1, _, d1⟩ := h1; exact ⟨o1, e1, fun v q => by rw [d1] at q; cases q⟩
      | false => obtain ⟨o1, e1, _, d1⟩ := h1; exact ⟨o1, e1, fun v q => by rw [d1] at q; cases q⟩
    · rw [q]
      cases k2 with
      | true => obtain ⟨o1, e1, _, d1⟩ := h2; exact ⟨o1, e1, fun v q => by rw [d1] at q; cases q⟩
      | false => obtain ⟨o1, e1, _, d1⟩ := h2; exact ⟨o1, e1, fun v q => by rw [d1] at q; cases q⟩
  keep := fun i h h' st k => by
    obtain ⟨hz, hTI, ⟨x, y, hTO⟩, h1, h2⟩ := st
    exact ⟨k z (by simp) _ hz, k TI (by simp) _ hTI, ⟨x, y, k TO (by simp) _ hTO⟩, itB_at h1 fun o q => k i1 (by simp) o q, itB_at h2 fun o q => k i2 (by simp) o q⟩
  item := by
    intro X hP hw hK hc i pins s σ H E I hf st hg
    subst hP hw hK
    obtain ⟨hz, hTI, ⟨x0, y0, hTO⟩, h1, h2⟩ := st
    obtain ⟨xs, ys, x, y, hqx, hqy, hx, hy⟩ := hg
    obtain ⟨its, rv, p⟩ := sqB_inv I hqx
    obtain ⟨its2, rv2, p2⟩ := sqB_inv I hqy
    obtain ⟨u, hu, ru⟩ := rv.get hx
    obtain ⟨u2, hu2, ru2⟩ := rv2.get hy
    have hzl : z < s.heap.objs.size := Heap.lt_size hz
    have hd := I.ok.hd hc
    obtain ⟨n1, P1, St1, D1, s1, l1, f1, g1, c1⟩ := dr_B (prog := X.prog) (w := X.w) (A := X.A.in1) hd ha h1 p
    obtain ⟨n2, P2, St2, D2, s2, l2, f2, g2, c2⟩ := dr_B (prog := X.prog) (w := X.w) (A := X.A.in1) hd hb h2 p2
    have eu : its.toArray[i]? = some u := by simpa using hu
    have eu2 : its2.toArray[i]? = some u2 := by simpa using hu2
    have hl1 : i < n1 := Nat.lt_of_le_of_ne l1 fun q => by
      rw [Array.getElem?_eq_none (f1.mpr q)] at eu
      cases eu
    have hl2 : i < n2 := Nat.lt_of_le_of_ne l2 fun q => by
      rw [Array.getElem?_eq_none (f2.mpr q)] at eu2
      cases eu2
    refine wpAny_pyNext_zipD2_item D D1 D2 hz hTI hTO s1 s2 hl1 hl2 fun x1 x2 h' tk hx1 hx2 z' TO' h1' h2' hT hsz hk => ?_
    have e1 : u = x1 := by have q := g1 _ hl1 hx1; rw [eu] at q; cases q; rfl
    have e2 : u2 = x2 := by have q := g2 _ hl2 hx2; rw [eu2] at q; cases q; rfl
    subst e1 e2
    refine ⟨_, rfl, wpAny_letOwnedTupleGo_zip (s := { s with heap := h', toks := tk }) z' fun h'' z'' sb => ?_⟩
    have hT2 : h''.get? s.heap.objs.size = some { cls := .type "tuple", data := .seq #[u, u2] } := (sb.2 _ (Nat.ne_of_gt hzl)).trans hT
    have new : ObjOk X.prog X.w (upd H s.heap.objs.size (.tup [x, y])) h'' s.heap.objs.size (.tup [x, y]) :=
      ⟨by show 2 ≤ sizeLine; decide, [u, u2], .cons ru (.cons ru2 .nil), ⟨_, hT2, rfl, _, rfl⟩⟩
    have I1 : Inv X pins σ (upd H s.heap.objs.size (.tup [x, y])) { s with heap := h'', toks := tk } :=
      I.turnedNew (t' := tk) (ch := [z, TI, TO, i1, i2]) (fun c o hb q => (sb.2 c (fun q' => hb (by simp [q']))).trans (hk c o (fun q' => hb (by simp [q'])) (fun q' => hb (by simp [q'])) (fun q' => hb (by simp [q'])) (fun q' => hb (by simp [q'])) q)) hf (Nat.le_refl _) new
    refine ⟨.ref s.heap.objs.size, _, I1, rfl, ⟨_, x, y, rfl, I.hok.fresh (Nat.le_refl _), rfl, fun l hl => by rw [sqB_inj I hl hqx]; exact hx, fun l hl => by rw [sqB_inj I hl hqy]; exact hy⟩, ⟨z'', ?_, ⟨u, u2, ?_⟩, ?_, ?_⟩, fun c hcm => ?_⟩
    · exact (sb.2 _ D.TIz).trans (hk _ _ D.TIz D.TITO D.TIi1 D.TIi2 hTI)
    · exact (sb.2 _ D.TOz).trans TO'
    · exact itB_at (c1 _ h1') fun o q => (sb.2 _ fun q' => D.zf1 (by rw [← q']; simp)).trans q
    · exact itB_at (c2 _ h2') fun o q => (sb.2 _ fun q' => D.zf2 (by rw [← q']; simp)).trans q
    · have hlt : c < s.heap.objs.size := by
        have e' : c = z ∨ c = TI ∨ c = TO ∨ c = i1 ∨ c = i2 := by simpa using hcm
        rcases e' with q | q | q | q | q
        · rw [q]; exact hzl
        · rw [q]; exact Heap.lt_size hTI
        · rw [q]; exact Heap.lt_size hTO
        · rw [q]
          cases k1 with
          | true => obtain ⟨_, e1, _⟩ := h1; exact Heap.lt_size e1
          | false => obtain ⟨_, e1, _⟩ := h1; exact Heap.lt_size e1
        · rw [q]
          cases k2 with
          | true => obtain ⟨_, e1, _⟩ := h2; exact Heap.lt_size e1
          | false => obtain ⟨_, e1, _⟩ := h2; exact Heap.lt_size e1
      rw [upd_ne (Nat.ne_of_lt hlt)]
      exact (hf c hcm).1
  done := by
    intro X hP hw hK hc i pins s σ H E I hf st hg
    subst hP hw hK
    obtain ⟨hz, hTI, ⟨x0, y0, hTO⟩, h1, h2⟩ := st
    obtain ⟨xs, ys, hqx, hqy, hend⟩ := hg
    obtain ⟨its, rv, p⟩ := sqB_inv I hqx
    obtain ⟨its2, rv2, p2⟩ := sqB_inv I hqy
    have q1 := rv.length
    have q2 := rv2.length
    have hd := I.ok.hd hc
    obtain ⟨n1, P1, St1, D1, s1, l1, f1, g1, c1⟩ := dr_B (prog := X.prog) (w := X.w) (A := X.A.in1) hd ha h1 p
    obtain ⟨n2, P2, St2, D2, s2, l2, f2, g2, c2⟩ := dr_B (prog := X.prog) (w := X.w) (A := X.A.in1) hd hb h2 p2
    refine wpAny_pyNext_zipD2_end D D1 D2 hz hTI hTO s1 s2 l1 l2 ?_ fun h' tk hk => ⟨rfl, I.turnedL (t' := tk) (ch := [z, TI, TO, i1, i2]) (fun c o hb q =>
      hk c o (fun q' => hb (by simp [q'])) (fun q' => hb (by simp [q'])) (fun q' => hb (by simp [q'])) (fun q' => hb (by simp [q'])) q) hf⟩
    rcases hend with q | q
    · exact .inl (f1.mp (by simp; omega))
    · exact .inr (f2.mp (by simp; omega))
  self := fun A i s Q E st h => wpAny_pyIter_zip st.1 h
/-- data that stand as a list or a tuple -/
def AtB2 (K : PySem.W.Frag) (G : Gh) (k : Bool) (H : Hp) (a : Addr) (xs : List V) : Prop := match k with
  | true => LsF G H a xs
  | false => SqT K H a xs
theorem AtB2.sq {k : Bool} {a : Addr} {xs : List V} (h : AtB2 K G k H a xs) : SqB K k H a xs := by
  cases k with
  | true => exact LsF.sq h
  | false => exact h
theorem itr_zipB {k1 k2 : Bool} {a b : Addr} {xs ys : List V} {ds es : List D} (l : AtB2 K G k1 H a xs) (r : RepL K G H ds xs) (l2 : AtB2 K G k2 H b ys) (r2 : RepL K G H es ys) : ItR K (ItzB K k1 k2 a b) G H (zpD ds es) := fun i G' H' w f => by
  have l' : AtB2 K G' k1 H' a xs := by
    cases k1 with
    | true => exact LsF.fe f l
    | false => exact SqT.fe f l
  have l2' : AtB2 K G' k2 H' b ys := by
    cases k2 with
    | true => exact LsF.fe f l2
    | false => exact SqT.fe f l2
  have r' := r.fe f
  have r2' := r2.fe f
  refine ⟨fun h => ⟨xs, ys, l'.sq, l2'.sq, ?_⟩, fun d e => ?_⟩
  · unfold zpD at h
    rw [List.length_zipWith] at h
    have e1 := r.length
    have e2 := r2.length
    omega
  · obtain ⟨d1, d2, e1, e2, rfl⟩ := zpD_get e
    obtain ⟨v, e3, rv⟩ := r'.get e1
    obtain ⟨u, e4, ru⟩ := r2'.get e2
    refine ⟨⟨xs, ys, v, u, l'.sq, l2'.sq, e3, e4⟩, fun x H'' y => ?_⟩
    obtain ⟨T, x', y', rfl, hT, rfl, hx, hy⟩ := y
    have h3 := hx xs l'.sq
    have h4 := hy ys l2'.sq
    rw [e3] at h3
    rw [e4] at h4
    cases h3; cases h4
    exact ⟨G', w.laid hT, Grow.laid hT, .tup (SqT.of upd_same) (.cons (rv.fe ((Grow.laid hT).fe w)) (.cons (ru.fe ((Grow.laid hT).fe w)) .nil))⟩
def zipBW (rs : List R) (Φ : List D → En → Prop) (ρ : En) : Prop := match rs with
  | [.fr d, .fr e] => (match seqOf d, seqOf e with
    | some ds, some es => Φ (zpD ds es) ρ
    | _, _ => False)
  | _ => False
def wZipB (ws : WA) : WI := fun ρ Φ => ws ρ fun rs ρ' => zipBW rs Φ ρ'
theorem seq_at {d : D} {ds : List D} {v : V} (h : Rep K G H d v) (q : seqOf d = some ds) : ∃ (k : Bool) (a : Addr) (xs : List V), v = .ref a ∧ AtB2 K G k H a xs ∧ RepL K G H ds xs := by
  cases h with
  | lst l r => cases q; exact ⟨true, _, _, rfl, l, r⟩
  | tup l r => cases q; exact ⟨false, _, _, rfl, l, r⟩
  | _ => cases q
theorem zipBW_inv {rs : List R} {Φ : List D → En → Prop} {ρ : En} (h : zipBW rs Φ ρ) : ∃ d e ds es, rs = [.fr d, .fr e] ∧ seqOf d = some ds ∧ seqOf e = some es ∧ Φ (zpD ds es) ρ := by
  unfold zipBW at h
  split at h
  · rename_i d e
    split at h
    · rename_i ds es q1 q2
      exact ⟨d, e, ds, es, rfl, q1, q2, h⟩
    · exact h.elim
  · exact h.elim
theorem p_zipB (hg : Gl X "zip") (hm : X.mg "zip" = none) (ha : PAI X G0 H0 [e, e2] ws) (hs : starEach [e, e2] X.env = (false, eval e X.env) :: starEach [e2] X.env := by rfl) (hpl : (backTo pos (starEach [e2] X.env)).any (·.1) = false := by rfl) :
    PII X G0 H0 (.Tuple elts kk tpos) (.Call (.Name "zip" p) [e, e2] [] pos) (wZipB ws) := by
  refine ⟨fun pins s σ H R I h => ?_⟩
  refine Call_ (ld_blt I hg hm PyProof.Rows.boot_zip (PyProof.Rows.callWith_type1 (thn (ha.run pos pins s σ H _ I (?_ : TAX X.K G0 H0 ws σ H fun vs H1 => ∃ k1 k2 a b xs ys, vs = [.ref a, .ref b] ∧ SqB X.K k1 H1 a xs ∧ SqB X.K k2 H1 b ys ∧ R (ItzB X.K k1 k2 a b) H1)) fun us s1 ⟨vs, H1, I1, r1, k1, k2, a, b, xs, ys, ex, hqx, hqy, q⟩ => ?_) hs hpl))
  · obtain ⟨ρ, G, Φ, S, h, c⟩ := h
    refine ⟨ρ, G, _, S, h, fun rs ρ' vs G' H' q S' P L x => ?_⟩
    obtain ⟨d, e, ds, es, rfl, q1, q2, q⟩ := zipBW_inv q
    cases x with
    | cons x1 xr n =>
      cases xr with
      | cons x2 xr n2 =>
        cases xr
        obtain ⟨k1, a, xs, rfl, l, r⟩ := seq_at x1 q1
        obtain ⟨k2, b, ys, rfl, l2, r2⟩ := seq_at x2 q2
        exact ⟨k1, k2, a, b, xs, ys, rfl, l.sq, l2.sq, c _ ρ' _ G' H' q S' P L (itr_zipB l r l2 r2)⟩
  · subst ex
    cases r1 with
    | cons r rr =>
      cases rr with
      | cons r' rr =>
        cases rr
        cases r
        cases r'
        obtain ⟨its, rv, p1⟩ := sqB_inv I1 hqx
        obtain ⟨its2, rv2, p2⟩ := sqB_inv I1 hqy
        have hal := seqB_lt p1
        have hbl := seqB_lt p2
        have fresh5 : ∀ c, c ∈ [s1.heap.objs.size + 4, s1.heap.objs.size + 2, s1.heap.objs.size + 3, s1.heap.objs.size, s1.heap.objs.size + 1] → FpOk X pins H1 c := fun c hcm => by
          have e' : c = s1.heap.objs.size + 4 ∨ c = s1.heap.objs.size + 2 ∨ c = s1.heap.objs.size + 3 ∨ c = s1.heap.objs.size ∨ c = s1.heap.objs.size + 1 := by simpa using hcm
          have hle : s1.heap.objs.size ≤ c := by
            rcases e' with z | z | z | z | z
            · rw [z]; exact Nat.le_add_right _ _
            · rw [z]; exact Nat.le_add_right _ _
            · rw [z]; exact Nat.le_add_right _ _
            · rw [z]; exact Nat.le_refl _
            · rw [z]; exact Nat.le_add_right _ _
          exact I1.fpOk hle (I1.hok.fresh hle)
        refine zip_begins2 (begins_B k1 a its.toArray) (begins_B k2 b its2.toArray) p1 p2 fun h' hz hTI hTO h1 h2 hsz hk => wpAny_pyIter_zip hz ?_
        have I2 : Inv X pins σ H1 { s1 with heap := h' } := I1.kept (t' := s1.toks) hk
        have D : ZipSep2 (s1.heap.objs.size + 4) (s1.heap.objs.size + 2) (s1.heap.objs.size + 3) s1.heap.objs.size (s1.heap.objs.size + 1) [s1.heap.objs.size, a] [s1.heap.objs.size + 1, b] :=
          zip_sep2 (N := s1.heap.objs.size) (fp1 := [a]) (fp2 := [b]) (fun c hc => by
            have : c = a := by simpa using hc
            rw [this]; exact hal) (fun c hc => by
            have : c = b := by simpa using hc
            rw [this]; exact hbl)
        refine ⟨s1.heap.objs.size + 4, [s1.heap.objs.size + 4, s1.heap.objs.size + 2, s1.heap.objs.size + 3, s1.heap.objs.size, s1.heap.objs.size + 1], _, _, H1, rfl, I2, turn_zipB (Nat.ne_of_lt hal) (Nat.ne_of_lt (Nat.lt_succ_of_lt hbl)) D, ⟨hz, hTI, ⟨_, _, hTO⟩, itB_new h1, itB_new h2⟩, fresh5, q⟩
theorem e_zipB {ρ : En} {Φ : List D → En → Prop} (h : ws ρ fun rs ρ' => zipBW rs Φ ρ') : wZipB ws ρ Φ := h
theorem e_zipBW {ρ : En} {Φ : List D → En → Prop} {d e : D} {ds es : List D} (q : seqOf d = some ds) (q2 : seqOf e = some es) (h : Φ (zpD ds es) ρ) : zipBW [.fr d, .fr e] Φ ρ := by unfold zipBW; dsimp only; rw [q, q2]; exact h
end
end Tv
/-! Tv39: xs[::-1] of lists and tuples. -/
namespace Tv
open PySem PySem.Spec PyProof.Rows L2 HT
section
variable {prog : Program} {w : World} {A : Around} {E : Value → Shared → Prop} {s : Shared}
theorem sliceApplied_neg {sl : Addr} {vl vu vs : Value} {n : Nat} {Q : Int × Int × Nat → Shared → Prop} (hs : s.heap.IsSliceOf sl vl vu vs) (pl : IsPart vl none) (pu : IsPart vu none) (ps : IsPart vs (some (-1)))
    (h : Q (((n : Int) - 1), -1, n) s) : wpAny (model prog w) A (Builtin.Slice.sliceApplied (.ref sl) (pure (n : Int))) Q E s := by
  obtain ⟨os, hos, hcs, hds⟩ := id hs
  unfold Builtin.Slice.sliceApplied Builtin.Slice.sliceFields
  refine wpAny_bind (wpAny_bind (wpAny_field hos hds (x := vl) rfl (wpAny_bind (wpAny_field hos hds (x := vu) rfl (wpAny_bind (wpAny_field hos hds (x := vs) rfl (wpAny_pure ?_)))))))
  refine wpAny_bind (slicePart_ ps ?_)
  show wpAny _ _ (if ((-1 : Int) == 0) = true then _ else _) _ _ s
  rw [if_neg (by decide)]
  refine wpAny_bind (slicePart_ pl (wpAny_bind (slicePart_ pu (wpAny_bind (wpAny_pure ?_)))))
  show wpAny _ _ (pure (((n : Int) - 1), (-1 : Int), Builtin.Slice.slicePlaces ((n : Int) - 1) (-1) (-1))) _ _ s
  have e : Builtin.Slice.slicePlaces ((n : Int) - 1) (-1) (-1) = n := by
    unfold Builtin.Slice.slicePlaces
    have h1 : ¬ ((-1 : Int) > 0) := by omega
    rw [if_neg h1]
    have h2 : -(-1 : Int) = 1 := rfl
    rw [h2, Int.ediv_one]
    split <;> omega
  rw [e]
  exact wpAny_pure h
theorem fm_congr {α β : Type} {f g : α → Option β} : ∀ {l : List α}, (∀ x ∈ l, f x = g x) → l.filterMap f = l.filterMap g
  | [], _ => rfl
  | x :: l, h => by
    rw [List.filterMap_cons, List.filterMap_cons, h x List.mem_cons_self, fm_congr fun y hy => h y (List.mem_cons_of_mem _ hy)]
theorem pick_rev (xs : Array Value) : ((List.range xs.size).filterMap fun (k : Nat) => xs[(((xs.size : Int) - 1) + (k : Int) * (-1)).toNat]?).toArray = xs.toList.reverse.toArray := by
  congr 1
  have key : (List.range xs.size).filterMap (fun (k : Nat) => xs[(((xs.size : Int) - 1) + (k : Int) * (-1)).toNat]?) = (List.range xs.size).filterMap fun (k : Nat) => xs.toList.reverse[k]? := by
    apply fm_congr
    intro k hk
    have hk := List.mem_range.mp hk
    rw [List.getElem?_reverse (by simpa using hk)]
    rw [← Array.getElem?_toList]
    congr 1
    rw [Array.length_toList]
    omega
  rw [key]
  have all : ∀ l : List Value, (List.range l.length).filterMap (fun k => l[k]?) = l := by
    intro l
    apply List.ext_getElem?
    intro j
    have e : (List.range l.length).filterMap (fun k => l[k]?) = (List.range l.length).pmap (fun k (h : k < l.length) => l[k]) (fun k hk => List.mem_range.mp hk) := by
      have : ∀ (ks : List Nat) (h : ∀ k ∈ ks, k < l.length), ks.filterMap (fun k => l[k]?) = ks.pmap (fun k (h : k < l.length) => l[k]) h := by
        intro ks
        induction ks with
        | nil => intro _; rfl
        | cons k ks ih =>
          intro h
          rw [List.filterMap_cons, List.getElem?_eq_getElem (h k List.mem_cons_self), List.pmap_cons, ih]
      exact this _ _
    rw [e]
    rw [List.getElem?_pmap]
    by_cases hj : j < l.length
    · rw [List.getElem?_eq_getElem hj]
      simp [hj]
    · rw [List.getElem?_eq_none (Nat.le_of_not_lt hj)]
      simp [hj]
  have := all xs.toList.reverse
  rw [List.length_reverse, Array.length_toList] at this
  rw [this]
theorem getItem_tuple_rev {t sl : Addr} {items : Array Value} {vl vu vs : Value} {Q : Value → Shared → Prop} (ht : IsTup s.heap t items) (hs : s.heap.IsSliceOf sl vl vu vs) (pl : IsPart vl none) (pu : IsPart vu none) (ps : IsPart vs (some (-1)))
    (h : Q (.ref s.heap.objs.size) { s with heap := s.heap.push { cls := .type "tuple", data := .seq items.toList.reverse.toArray } })
    (hsz : items.size ≤ sizeLine) : wpAny (model prog w) A (getItem (.ref t) (.ref sl)) Q E s := by
  have htake : sizeOk (.seq items.toList.reverse.toArray) := by
    show items.toList.reverse.toArray.size ≤ sizeLine
    rw [List.size_toArray, List.length_reverse, Array.length_toList]
    exact hsz
  obtain ⟨os, hos, hcs, hds⟩ := id hs
  have hTs : s.TypeIs (.ref sl) "slice" := ⟨os, hos, hcs⟩
  unfold getItem
  try with_reducible refine wpAny_holding ?_
  first | refine wpAny_bind (wpAny_pure ?_) | skip
  refine wpAny_bind (wpAny_sequenceKey ht.typeIs (by decide) ?_)
  refine wpAny_bind (wpAny_callSpecial?_slot (name := Str.ofString "__getitem__") ht.typeIs PyProof.Rows.slot_tuple_getitem
    (wpAny_call_entry PyProof.Rows.slot_tuple_getitem ht.typeIs entry_tuple_getitem ?_ (args_tuple_getitem _ _)))
  show wpAny _ _ (Builtin.Tuple.tupleItemsOf (.ref t) >>= _) _ _ s
  refine wpAny_bind (tupleItemsOf_ ht ?_)
  refine wpAny_bind (wpAny_typeOf hTs ?_)
  rw [if_pos (by decide)]
  refine wpAny_bind (sliceApplied_neg hs pl pu ps ?_)
  have hno : ¬ ((((items.size : Int) - 1) == 0 && (-1 : Int) == 1 && items.size == items.size) = true) := by
    intro q
    rw [Bool.and_eq_true, Bool.and_eq_true] at q
    exact absurd (eq_of_beq q.1.2) (by decide)
  show wpAny _ _ (if (((items.size : Int) - 1) == 0 && (-1 : Int) == 1 && items.size == items.size) = true then _ else _) _ _ s
  rw [if_neg hno, pick_rev]
  first
    | exact wpAny_bind (m := Builtin.Tuple.tupleExact _) (wpAny_newObj_type (wpAny_pure ⟨_, rfl, wpAny_pure h⟩) htake)
    | exact wpAny_bind (m := Builtin.Tuple.tupleExact _) (wpAny_newObj_type (wpAny_bind (wpAny_pure (wpAny_pure ⟨_, rfl, wpAny_pure h⟩))) htake)
    | exact wpAny_bind (wpAny_bind (m := Builtin.Tuple.tupleExact _) (wpAny_newObj_type (wpAny_pure (wpAny_pure ⟨_, rfl, wpAny_pure h⟩)) htake))
    | exact wpAny_bind (wpAny_bind (m := Builtin.Tuple.tupleExact _) (wpAny_newObj_type (wpAny_pure ⟨_, rfl, wpAny_pure h⟩) htake))
end
section
variable {X : Cx} {G0 : Gh} {H0 : Hp} {e : Expr} {wa : WE} {pos : Pos} {K : PySem.W.Frag}
def tRevA (K : PySem.W.Frag) (te : TE) : TE := fun σ H Q => te σ H fun x H1 => ∃ a xs, x = .ref a ∧ ((SqL K H1 a xs ∧ ∀ p, H1 p = none → Q (.ref p) (upd H1 p (.lst xs.reverse))) ∨ (SqT K H1 a xs ∧ ∀ p, H1 p = none → Q (.ref p) (upd H1 p (.tup xs.reverse))))
theorem pe_revA {te : TE} {k : Nat} {p1 p2 p3 : Pos} (he : PE X e te) : PE X (.Subscript e (.Slice none none (some (.UnaryOp .USub (.Constant (.int 1) k p1) p2)) p3) pos) (tRevA X.K te) := by
  refine ⟨fun pins s σ H Q I h => ?_⟩
  refine Subscript_ (thn (he.run pins s σ H _ I h) fun v s1 ⟨x, H1, I1, r1, q1⟩ => ?_)
  obtain ⟨a, xs, ex, q⟩ := q1
  subst ex
  cases r1
  have hst : PO X (some (.UnaryOp .USub (.Constant (.int 1) k p1) p2)) (tPart (tUn (rU fun i => .int (-i)) (tC (.int 1)))) := po_some (pe_un un_neg pe_int)
  refine wpAny_Slice (thn (po_none.run pins s1 σ H1 (fun o H2 => o = none ∧ H2 = H1) I1 ⟨rfl, rfl⟩) fun vl s2 ⟨l, H2, I2, pl, el, e2⟩ => ?_)
  subst el e2
  refine thn (po_none.run pins s2 σ H2 (fun o H3 => o = none ∧ H3 = H2) I2 ⟨rfl, rfl⟩) fun vu s3 ⟨u, H3, I3, pu, eu, e3⟩ => ?_
  subst eu e3
  refine thn (hst.run pins s3 σ H3 (fun o H4 => o = some (-1) ∧ H4 = H3) I3 ⟨1, rfl, -1, rfl, rfl, rfl⟩) fun vs s4 ⟨o, H4, I4, ps, eo, e4⟩ => ?_
  subst eo e4
  have I5 : Inv X pins σ H4 { s4 with heap := s4.heap.push { cls := .type "slice", data := .fields #[vl, vu, vs] } } := I4.kept (t' := s4.toks) fun b ob q => Heap.get?_push_of_some _ q
  show wpAny (model X.prog X.w) X.A (subscriptTail e (.Slice none none (some (.UnaryOp .USub (.Constant (.int 1) k p1) p2)) p3) (.ref a) (.ref s4.heap.objs.size)) (EP X pins σ Q) X.xe { s4 with heap := s4.heap.push { cls := .type "slice", data := .fields #[vl, vu, vs] } }
  rcases q with ⟨hx, q⟩ | ⟨hx, q⟩
  · obtain ⟨its, r, ht, hz⟩ := I5.list hx
    have hlen := r.length
    refine tail_any (ops := [.ref a, .ref s4.heap.objs.size]) ht.isList.typeIs (PySem.slot_list_getitem.lookup) ?_ (by with_unfolding_all rfl)
    refine wpAny_getItem_list_slice ht.isList (Heap.IsSliceOf.new _ vl vu vs) pl pu ps (by decide) ?_ (by rw [List.size_toArray]; omega)
    rw [PySem.W.krv_pick]
    refine ⟨.ref _, _, I5.laid (t' := s4.toks) (o := .lst xs.reverse) (fun b ob q => Heap.get?_push_of_some _ q) (Nat.le_refl _) ?_, rfl, q _ (I5.hok.fresh (Nat.le_refl _))⟩
    exact ⟨by rw [List.length_reverse]; exact hz, _, 0, r.reverse, Heap.get?_push_size _ rfl⟩
  · obtain ⟨its, r, ht, hz⟩ := I5.tuple hx
    have hlen := r.length
    refine tail_any (ops := [.ref a, .ref s4.heap.objs.size]) ht.typeIs (PyProof.Rows.slot_tuple_getitem.lookup) ?_ (by with_unfolding_all rfl)
    refine getItem_tuple_rev ht (Heap.IsSliceOf.new _ vl vu vs) pl pu ps ?_ (by rw [List.size_toArray]; omega)
    refine ⟨.ref _, _, I5.laid (t' := s4.toks) (o := .tup xs.reverse) (fun b ob q => Heap.get?_push_of_some _ q) (Nat.le_refl _) ?_, rfl, q _ (I5.hok.fresh (Nat.le_refl _))⟩
    exact ⟨by rw [List.length_reverse]; exact hz, _, r.reverse, ⟨_, Heap.get?_push_size _ rfl, rfl, _, rfl⟩⟩
def revAW (d : D) (Φ : R → En → Prop) (ρ : En) : Prop := match d with
  | .lst ds => Φ (.ow (.lst ds.reverse)) ρ
  | .tup ds => Φ (.fr (.tup ds.reverse)) ρ
  | _ => False
def wRevA (wa : WE) : WE := fun ρ Φ => wa ρ fun r ρ' => revAW r.d Φ ρ'
theorem i_revA {k : Nat} {q1 q2 q3 : Pos} (he : PEI X G0 H0 e wa) : PEI X G0 H0 (.Subscript e (.Slice none none (some (.UnaryOp .USub (.Constant (.int 1) k q1) q2)) q3) pos) (wRevA wa) := by
  refine pe_imp (pe_revA he) fun σ H Q h => ?_
  obtain ⟨ρ, G, Φ, S, h, kk⟩ := h
  refine ⟨ρ, G, _, S, h, fun r ρ' v G' H' q S' P L y => ?_⟩
  unfold revAW at q
  split at q
  · rename_i ds ed
    have y' := y.sh
    rw [ed] at y'
    obtain ⟨l, xs, rfl, hq, r⟩ := y'.list
    exact ⟨l, xs, rfl, .inl ⟨hq, new_lst (Φ := fun r => Φ r ρ') S'.wd (fun r' v' G2 H2 φ w g x' => kk r' ρ' v' G2 H2 φ (S'.grow w g) (P.trans S'.wd g.stp L) L (x'.back fun a z => P.nn S'.wd z)) r.reverse q⟩⟩
  · rename_i ds ed
    have y' := y.sh
    rw [ed] at y'
    obtain ⟨l, xs, rfl, hq, r⟩ := y'.tuple
    refine ⟨l, xs, rfl, .inr ⟨hq, fun p hp => ?_⟩⟩
    have g : Grow G' H' G' (upd H' p (.tup xs.reverse)) := Grow.laid hp
    have w2 := S'.wd.laid (o := .tup xs.reverse) hp
    exact kk (.fr (.tup ds.reverse)) ρ' (.ref p) G' _ q (S'.grow w2 g) (P.trans S'.wd g.stp L) L (.tup (SqT.of upd_same) (r.reverse.fe (g.fe S'.wd)))
  · exact q.elim
theorem e_revA {ρ : En} {Φ : R → En → Prop} (h : wa ρ fun r ρ' => revAW r.d Φ ρ') : wRevA wa ρ Φ := h
theorem e_revAL {ρ : En} {Φ : R → En → Prop} {r : R} {ds : List D} (q : r.d = .lst ds) (h : Φ (.ow (.lst ds.reverse)) ρ) : revAW r.d Φ ρ := by rw [q]; exact h
theorem e_revAT {ρ : En} {Φ : R → En → Prop} {r : R} {ds : List D} (q : r.d = .tup ds) (h : Φ (.fr (.tup ds.reverse)) ρ) : revAW r.d Φ ρ := by rw [q]; exact h
end
end Tv
/-! Tv40: a list of what calls tell, looked at and then spoilt: found = [..]; if ..: return False; for told in found[k:]: told.append(None). -/
namespace Tv
open PySem PySem.Spec PyProof.Rows L2
/-! ### the bags out of sight -/
def Gh.hid (G : Gh) (U : Addr → Prop) : Gh := ⟨fun b => G.F b ∨ U b, fun _ => False, fun _ _ => False⟩
section
variable {K : PySem.W.Frag} {G G0 G1 : Gh} {H H0 H1 H2 : Hp} {U : Addr → Prop} {ρ ρ1 : En} {σ : L2.St}
mutual
/-- no bag within -/
def D.nb : D → Bool
  | .bag => false
  | .tup ds => D.nbL ds
  | .lst ds => D.nbL ds
  | .dct _ ds => D.nbL ds
  | .dcu _ ds => D.nbL ds
  | .ins _ _ ds => D.nbL ds
  | _ => true
def D.nbL : List D → Bool
  | [] => true
  | d :: ds => d.nb && D.nbL ds
end
mutual
theorem nb_good : ∀ d : D, d.good = true → d.nb = true
  | .non, _ => rfl
  | .bl _, _ => rfl
  | .int _, _ => rfl
  | .str _, _ => rfl
  | .tup ds, h => nb_goodL ds h
  | .lst ds, h => nb_goodL ds h
  | .bag, h => by cases h
  | .scr, h => by cases h
  | .fn _, h => by cases h
  | .dct _ _, h => by cases h
  | .dcu _ _, h => by cases h
  | .ins _ _ _, h => by cases h
  | .unk, h => by cases h
theorem nb_goodL : ∀ ds : List D, D.goodL ds = true → D.nbL ds = true
  | [], _ => rfl
  | d :: ds, h => by
    have h' : (d.good && D.goodL ds) = true := h
    rw [Bool.and_eq_true] at h'
    show (d.nb && D.nbL ds) = true
    rw [nb_good d h'.1, nb_goodL ds h'.2]; rfl
end
theorem nb_okE {d : D} (h : okE d = true) : d.nb = true := nb_good d (okE_shaped h).2
mutual
theorem Rep.hid : ∀ {d : D} {v : V}, d.nb = true → Rep K G H d v → Rep K (G.hid U) H d v
  | _, _, _, .non => .non
  | _, _, _, .bl b => .bl b
  | _, _, _, .int i => .int i
  | _, _, _, .str x => .str x
  | _, _, g, .tup h r => .tup h (RepL.hid g r)
  | _, _, g, .lst h r => .lst ⟨.inl h.1, h.2⟩ (RepL.hid g r)
  | _, _, g, .bag h => by cases g
  | _, _, g, .scr h z => .scr h z
  | _, _, g, .fn h => .fn h
  | _, _, g, .dct h e k r => .dct (.inl h) e k (RepL.hid g r)
  | _, _, g, .dcu h e k r => .dcu (.inl h) e k (RepL.hid g r)
  | _, _, g, .ins h h2 e e2 c k r => .ins (.inl h) (.inl h2) e e2 c k (RepL.hid g r)
  | _, _, g, .unk v => .unk v
theorem RepL.hid : ∀ {ds : List D} {vs : List V}, D.nbL ds = true → RepL K G H ds vs → RepL K (G.hid U) H ds vs
  | _, _, _, .nil => .nil
  | d :: ds, _, g, .cons r t => by
    have g' : (d.nb && D.nbL ds) = true := g
    rw [Bool.and_eq_true] at g'
    exact .cons (Rep.hid g'.1 r) (RepL.hid g'.2 t)
end
/-- the cells that are looked at meanwhile -/
def frzC : Cell → Cell
  | .fr d => .fr d
  | .ow d => .fr d
  | _ => .no
def hideE (keep : List Nat) (i : Nat) (d : D) : Nat → En → En
  | _, [] => []
  | k, c :: ρ => (if k = i then .fr d else if keep.contains k = true then frzC c else .no) :: hideE keep i d (k + 1) ρ
theorem hideE_len {keep : List Nat} {i : Nat} {d : D} : ∀ {k : Nat} {ρ : En}, (hideE keep i d k ρ).length = ρ.length
  | _, [] => rfl
  | k, _ :: ρ => by show (hideE keep i d (k + 1) ρ).length + 1 = _; rw [hideE_len]; rfl
theorem hideE_get {keep : List Nat} {i : Nat} {d : D} : ∀ {k : Nat} {ρ : En} {j : Nat} {c : Cell}, (hideE keep i d k ρ)[j]? = some c → (k + j = i ∧ c = .fr d) ∨ (k + j ≠ i ∧ keep.contains (k + j) = true ∧ ∃ c0, ρ[j]? = some c0 ∧ c = frzC c0) ∨ c = .no
  | _, [], _, _, e => by cases e
  | k, c0 :: ρ, 0, c, e => by
    have e' : some (if k = i then Cell.fr d else if keep.contains k = true then frzC c0 else .no) = some c := e
    have e2 := Option.some.inj e'
    by_cases h : k = i
    · rw [if_pos h] at e2; exact .inl ⟨h, e2.symm⟩
    · rw [if_neg h] at e2
      by_cases h2 : keep.contains k = true
      · rw [if_pos h2] at e2; exact .inr (.inl ⟨h, h2, c0, rfl, e2.symm⟩)
      · rw [if_neg h2] at e2; exact .inr (.inr e2.symm)
  | k, c0 :: ρ, j + 1, c, e => by
    have e' : (hideE keep i d (k + 1) ρ)[j]? = some c := e
    rw [show k + (j + 1) = k + 1 + j by omega]
    exact hideE_get e'
theorem hideE_fr {keep : List Nat} {i : Nat} {d d' : D} {ρ : En} {j : Nat} (e : (hideE keep i d 0 ρ)[j]? = some (.fr d')) : (j = i ∧ d' = d) ∨ (j ≠ i ∧ j ∈ keep ∧ (ρ[j]? = some (.fr d') ∨ ρ[j]? = some (.ow d'))) := by
  rcases hideE_get e with ⟨h1, h2⟩ | ⟨h1, h2, c0, h3, h4⟩ | h
  · cases h2; rw [Nat.zero_add] at h1; exact .inl ⟨h1, rfl⟩
  · rw [Nat.zero_add] at h1 h2
    refine .inr ⟨h1, List.contains_iff_mem.mp h2, ?_⟩
    cases c0 <;> cases h4
    · exact .inl h3
    · exact .inr h3
  · cases h
theorem hideE_no {keep : List Nat} {i : Nat} {d : D} {ρ : En} {j : Nat} {c : Cell} (e : (hideE keep i d 0 ρ)[j]? = some c) : c = .no ∨ ∃ d', c = .fr d' := by
  rcases hideE_get e with ⟨_, h2⟩ | ⟨_, _, c0, _, h4⟩ | h
  · exact .inr ⟨_, h2⟩
  · subst h4; cases c0
    · exact .inl rfl
    · exact .inr ⟨_, rfl⟩
    · exact .inr ⟨_, rfl⟩
    · exact .inl rfl
  · exact .inl h
/-- a cell that may be looked at meanwhile -/
def KeepC : Cell → Prop
  | .fr d => d.nb = true
  | .ow d => d.nb = true
  | _ => True
theorem Obw.hidL {a : Addr} {d : D} (g : d.nb = true) (ha : U a) (h : Obw K G H a d) : Rep K (G.hid U) H d (.ref a) := by
  cases d with
  | lst ds => obtain ⟨xs, e, r⟩ := h; exact .lst ⟨.inr ha, e⟩ (RepL.hid g r)
  | dct ks ds => obtain ⟨o, xs, e, k, r⟩ := h; exact .dct (.inr ha) e k (RepL.hid g r)
  | dcu ks ds => obtain ⟨o, xs, e, k, r⟩ := h; exact .dcu (.inr ha) e k (RepL.hid g r)
  | _ => exact h.elim
/-- what the elements are: their addresses -/
def OwnsR (rs : List R) (vs : List V) (b : Addr) : Prop := ∃ (j : Nat) (d : D), rs[j]? = some (.ow d) ∧ vs[j]? = some (.ref b)
theorem RepRs.at {Hs : Hp} : ∀ {rs : List R} {vs : List V} {j : Nat} {r : R}, RepRs K G H Hs rs vs → rs[j]? = some r → ∃ v, vs[j]? = some v ∧ RepR K G H Hs r v
  | _, _, _, _, .nil, e => by cases e
  | _, _, 0, _, .cons r t _, e => by cases e; exact ⟨_, rfl, r⟩
  | _, _, j + 1, _, .cons r t _, e => by
    obtain ⟨v, h1, h2⟩ := RepRs.at t (j := j) e
    exact ⟨v, h1, h2⟩
/-- all parts laid down for a while -/
theorem RepRs.laidAll {Hs : Hp} (U : Addr → Prop) : ∀ {rs : List R} {vs : List V}, RepRs K G H Hs rs vs → D.nbL (rs.map R.d) = true → (∀ r ∈ rs, r.ok) → (∀ b, OwnsR rs vs b → U b) → RepL K (G.hid U) H (rs.map R.d) vs
  | _, _, .nil, _, _, _ => .nil
  | _, _, .cons (r := r) (rs := rs) x t _, g, ok, hU => by
    have g' : (r.d.nb && D.nbL (rs.map R.d)) = true := g
    rw [Bool.and_eq_true] at g'
    refine .cons ?_ (RepRs.laidAll U t g'.2 (fun r hr => ok r (List.mem_cons_of_mem _ hr)) fun b ⟨j, d, h1, h2⟩ => hU b ⟨j + 1, d, h1, h2⟩)
    cases r with
    | fr d => exact Rep.hid g'.1 x
    | bo d => exact (ok _ List.mem_cons_self).elim
    | ow d =>
      obtain ⟨b, rfl, o, _⟩ := x
      exact o.2.2.hidL g'.1 (hU b ⟨0, d, rfl, rfl⟩)
end
/-- no dict that is held -/
def NDctO (o : HO) : Prop := ∀ ob u, o = .frz ob u → NDct u
/-! ### the reading -/
def sChk (i t k : Nat) (keep : List Nat) (ws : WA) (wt : WT) : WS := fun ρ S => ws ρ fun rs ρ1 => (i < ρ1.length ∧ t < ρ1.length ∧ (∀ r ∈ rs, r.ok) ∧ D.nbL (rs.map R.d) = true ∧ rs.length ≤ 1000 ∧ (∀ r ∈ rs.drop k, ∃ ds, r = .ow (.lst ds) ∧ ds.length ≤ 1000000) ∧ (∀ j ∈ keep, ∀ c, ρ1[j]? = some c → KeepC c)) ∧
  wt (hideE keep i (.lst (rs.map R.d)) 0 ρ1) (fun b _ => b = false) ∧ S.nx ((ρ1.set i .no).set t .no)
/-- the spoiling, on the heap alone -/
def tSpoil (i t k : Nat) : TS := fun D σ H => ∃ (a : Addr) (vs : List V), t < σ.length ∧ σ[i]? = some (some (.ref a)) ∧ H a = some (.lst vs) ∧ vs.length ≤ 1000 ∧ (∀ (j : Nat) v, k ≤ j → vs[j]? = some v → ∃ (b : Addr) (xs : List V), v = .ref b ∧ H b = some (.lst xs) ∧ xs.length ≤ 1000000 ∧ b ≠ a) ∧
  ∀ σ' H', (∀ m, m ≠ t → σ'[m]? = σ[m]?) → σ'.length = σ.length → (∀ c o, H c = some o → (∀ j, k ≤ j → vs[j]? ≠ some (.ref c)) → H' c = some o) → D.nx σ' H'
section
variable {X : Cx} {G0 : Gh} {H0 : Hp} {es : List Expr} {c : Expr} {ws : WA} {wt : WT} {K : PySem.W.Frag}
/-- cells that were there -/
theorem b_chk {i t k : Nat} {keep : List Nat} {x : Str} {p lp pos1 pos2 : Pos} {ss rest : List Stmt} {st3 : Stmt} {v : WS} (hN : X.N.Nodup) (hi : X.N[i]? = some x) (hx : Loc X.env.scope x) (ha : PAI X G0 H0 es ws) (hc : ∀ G1 H1, PTI X G1 H1 c wt) (h3 : PS X st3 (tSpoil i t k)) (hr : PBI X G0 H0 rest v) (hit : i ≠ t := by decide)
    (hs : swapsWith (.List es lp) (some (.Name x p)) pos1.line X.env = pure false := by rfl) (hf : X.fn x = true ∨ X.env.scope.names.lookup x = some .local := by first | exact .inl rfl | exact .inr rfl | assumption) :
    PBI X G0 H0 (.Assign [.Name x p] (.List es lp) pos1 :: .If c ss [] pos2 :: st3 :: rest) (sSeq (sChk i t k keep ws wt) v) := by
  have hc' : PT X c (fun σ H Q => ∃ G1 H1, TTX X.K G1 H1 wt σ H Q) := ⟨fun pins s σ H Q I ⟨G1, H1, h⟩ => (hc G1 H1).run pins s σ H Q I h⟩
  refine pss_imp (pss_cons (ps_set hN hi hx (pe_lst ha) hs hf) (pss_cons (ps_if hc' pss_never pss_nil) (pss_cons h3 hr))) fun D σ H h => ?_
  obtain ⟨ρ, G, S, s, h, ks⟩ := h
  refine ⟨ρ, G, _, s, h, fun rs ρ1 vs G1 H1 q s1 P L y => ?_⟩
  obtain ⟨⟨li, lt, ok, gd, lr, own, kp⟩, qt, qn⟩ := q
  have lv : rs.length = vs.length := y.length
  refine ⟨by rw [sizeLine_eq]; omega, fun a ha => ?_⟩
  have own1 : ∀ {b : Addr}, OwnsR rs vs b → ∃ d, Own X.K G1 H1 b d ∧ H b = none := fun {b} ⟨j, d, e1, e2⟩ => by
    obtain ⟨v, e3, r⟩ := y.at e1
    rw [e2] at e3; cases e3
    obtain ⟨b', e, o, n⟩ := r
    cases e
    exact ⟨d, o, n⟩
  -- while it is looked at
  let U : Addr → Prop := fun b => OwnsR rs vs b ∨ OwnA ρ1 σ b
  have tr : ∀ b, U b → ∃ o, H1 b = some o := fun b hb => by
    rcases hb with hb | hb
    · obtain ⟨d, o, _⟩ := own1 hb
      exact o.2.2.tracked
    · exact s1.tracked hb
  have wm : Wd (G1.hid U) H1 := ⟨fun b hb => hb.elim, fun b hb => hb.elim (fun z => s1.wd.f b z) (tr b)⟩
  have g2 : Grow (G1.hid U) H1 (G1.hid U) (upd H1 a (.lst vs)) := Grow.laid ha
  have w2 : Wd (G1.hid U) (upd H1 a (.lst vs)) := wm.laid ha
  have w3 : Wd ((G1.hid U).add a) (upd H1 a (.lst vs)) := w2.add (fun z => z) ⟨_, upd_same⟩
  have lift : ∀ {d : Tv.D} {v : V}, Rep X.K (G1.hid U) H1 d v → Rep X.K ((G1.hid U).add a) (upd H1 a (.lst vs)) d v := fun r => (r.fe (g2.fe wm)).fe FE.add
  have ln2 : (σ.set i (some (.ref a))).length = σ.length := List.length_set
  have li' : i < σ.length := by rw [← s1.ln]; exact li
  have st : Sta X.K ((G1.hid U).add a) (upd H1 a (.lst vs)) (hideE keep i (.lst (rs.map R.d)) 0 ρ1) ((G1.hid U).add a) (upd H1 a (.lst vs)) (σ.set i (some (.ref a))) := by
    refine ⟨w3, Grow.refl _ _, w3, fun j d e => ?_, fun j d e => ?_, fun j k' d d' b e1 e2 e3 e4 => ?_, by rw [hideE_len, ln2]; exact s1.ln, fun j d e => ?_⟩
    · rcases hideE_fr e with ⟨rfl, rfl⟩ | ⟨hj, hk, e1⟩
      · refine ⟨_, List.getElem?_set_self li', .lst ⟨.inr rfl, upd_same⟩ ?_⟩
        exact ((RepRs.laidAll U y gd ok fun b hb => .inl hb).fe (g2.fe wm)).fe FE.add
      · have kc := kp j hk
        rw [List.getElem?_set_ne (Ne.symm hj)]
        rcases e1 with e1 | e1
        · obtain ⟨v, e2, r⟩ := s1.fr j d e1
          exact ⟨v, e2, lift (Rep.hid (kc _ e1) r)⟩
        · obtain ⟨b, e2, o, _⟩ := s1.ow j d e1
          exact ⟨_, e2, lift (o.2.2.hidL (kc _ e1) (.inr ⟨j, d, e1, e2⟩))⟩
    · rcases hideE_no e with z | ⟨_, z⟩ <;> cases z
    · rcases hideE_no e1 with z | ⟨_, z⟩ <;> cases z
    · rcases hideE_no e with z | ⟨_, z⟩ <;> cases z
  refine ⟨(G1.hid U).add a, upd H1 a (.lst vs), hideE keep i (.lst (rs.map R.d)) 0 ρ1, (G1.hid U).add a, _, st, qt, fun b ρ' G' H' q s' P' L' => ?_⟩
  have q' : b = false := q
  subst q'
  -- all that was there stays
  have kept : ∀ b o, H1 b = some o → H' b = some o := fun b o e => P'.k b o (by rw [upd_ne (fun z => by rw [z, ha] at e; cases e)]; exact e) fun z => z
  show tSpoil i t k _ _ _
  refine ⟨a, vs, by rw [ln2, ← s1.ln]; exact lt, List.getElem?_set_self li', P'.k a _ upd_same fun z => z, by omega, fun j v hj e => ?_, fun σ' H3 hσ hl hH => ?_⟩
  · have jl : j < rs.length := by rw [lv]; exact (List.getElem?_eq_some_iff.mp e).1
    have er : rs[j]? = some rs[j] := by simp [jl]
    obtain ⟨ds, eo, dl⟩ := own rs[j] (by
      rw [List.mem_iff_getElem?]
      exact ⟨j - k, by rw [List.getElem?_drop, show k + (j - k) = j by omega]; exact er⟩)
    obtain ⟨v', e3, r⟩ := y.at er
    rw [e] at e3; cases e3
    rw [eo] at r
    obtain ⟨b, eb, o, n⟩ := r
    obtain ⟨xs, hx, rl⟩ := o.2.2
    refine ⟨b, xs, eb, kept b _ hx, by rw [← rl.length]; exact dl, fun z => by rw [z, ha] at hx; cases hx⟩
  · -- behind it
    have spo : ∀ {c : Addr}, (∃ j, k ≤ j ∧ vs[j]? = some (.ref c)) → OwnsR rs vs c := fun {c} ⟨j, hj, e⟩ => by
      have jl : j < rs.length := by rw [lv]; exact (List.getElem?_eq_some_iff.mp e).1
      have er : rs[j]? = some rs[j] := by simp [jl]
      obtain ⟨ds, eo, dl⟩ := own rs[j] (by
        rw [List.mem_iff_getElem?]
        exact ⟨j - k, by rw [List.getElem?_drop, show k + (j - k) = j by omega]; exact er⟩)
      exact ⟨j, _, er.trans (congrArg some eo), e⟩
    have keep3 : ∀ c o, H1 c = some o → (G1.F c ∨ G1.B c ∨ H c ≠ none) → H3 c = some o := fun c o e h => by
      refine hH c o (kept c o e) fun j hj e2 => ?_
      obtain ⟨d, o2, n⟩ := own1 (spo ⟨j, hj, e2⟩)
      rcases h with h | h | h
      · exact o2.1 h
      · exact o2.2.1 h
      · exact h n
    have notl : ∀ c o, H1 c = some o → (∀ xs, o ≠ .lst xs) → NDctO o → H3 c = some o := fun c o e h hd => by
      refine hH c o (kept c o e) fun j hj e2 => ?_
      obtain ⟨d, o2, n⟩ := own1 (spo ⟨j, hj, e2⟩)
      have o3 := o2.2.2
      cases d with
      | lst ys => obtain ⟨xs, z, _⟩ := o3; rw [e] at z; cases z; exact h _ rfl
      | dct ks ys => obtain ⟨ob, xs, z, _⟩ := o3; rw [e] at z; cases z; exact (hd _ _ rfl).1 _ rfl
      | dcu ks ys => obtain ⟨ob, xs, z, _⟩ := o3; rw [e] at z; cases z; exact (hd _ _ rfl).2 _ rfl
      | _ => exact o3.elim
    have f13 : FE G1 H1 G1 H3 := ⟨fun _ z => z, fun _ z => z, fun c o z e => keep3 c o e (.inl z), fun c xs e => notl c _ e (fun ys z => by cases z) (fun _ _ z => by cases z), fun c ob u e n => notl c _ e (fun ys z => by cases z) (fun _ _ z => by cases z; exact n)⟩
    have w13 : Wd G1 H3 := by
      refine ⟨fun c hc => ?_, fun c hc => ?_⟩
      · obtain ⟨⟨x1, x2, x3, r, ns, e, l, z⟩, n⟩ := s1.wd.b c hc
        exact ⟨⟨x1, x2, x3, r, ns, keep3 c _ e (.inr (.inl hc)), ⟨l.1, keep3 r _ l.2 (.inl l.1)⟩, z⟩, n⟩
      · obtain ⟨o, e⟩ := s1.wd.f c hc
        exact ⟨o, keep3 c o e (.inl hc)⟩
    have cell : ∀ {j : Nat} {c : Cell}, ((ρ1.set i .no).set t .no)[j]? = some c → c = .no ∨ (j ≠ i ∧ j ≠ t ∧ ρ1[j]? = some c) := fun {j c} e => by
      by_cases h1 : t = j
      · subst h1
        rw [List.getElem?_set_self (by rw [List.length_set]; exact lt)] at e
        cases e; exact .inl rfl
      · rw [List.getElem?_set_ne h1] at e
        by_cases h2 : i = j
        · subst h2
          rw [List.getElem?_set_self li] at e
          cases e; exact .inl rfl
        · rw [List.getElem?_set_ne h2] at e
          exact .inr ⟨fun z => h2 z.symm, fun z => h1 z.symm, e⟩
    have val : ∀ {j : Nat}, j ≠ i → j ≠ t → σ'[j]? = σ[j]? := fun {j} h1 h2 => by rw [hσ j h2, List.getElem?_set_ne (Ne.symm h1)]
    refine ⟨_, G1, S, ⟨w13, ⟨s1.ex.f, s1.ex.b, fun c o e nb => ?_, s1.ex.nf, s1.ex.nb⟩, s1.w0, fun j d e => ?_, fun j d e => ?_, fun j k' d d' b e1 e2 e3 e4 => ?_, by rw [List.length_set, List.length_set, hl, ln2]; exact s1.ln, fun j d e => ?_⟩, qn, ks.fe ((P.fe s.wd).trans f13)⟩
    · refine keep3 c o (s1.ex.k c o e nb) (.inr (.inr ?_))
      rw [s.ex.k c o e nb]; exact nofun
    · rcases cell e with z | ⟨h1, h2, e1⟩
      · cases z
      · obtain ⟨v, e2, r⟩ := s1.fr j d e1
        exact ⟨v, by rw [val h1 h2]; exact e2, r.fe f13⟩
    · rcases cell e with z | ⟨h1, h2, e1⟩
      · cases z
      · obtain ⟨b, e2, o, n⟩ := s1.ow j d e1
        obtain ⟨b', e3, o', _⟩ := s.ow j d (L.keepO e1)
        rw [e2] at e3; cases e3
        obtain ⟨ob, hb⟩ := o'.2.2.tracked
        refine ⟨b, by rw [val h1 h2]; exact e2, ⟨o.1, o.2.1, o.2.2.fe f13 fun o4 e4 => keep3 b o4 e4 (.inr (.inr ?_))⟩, n⟩
        rw [hb]; exact nofun
    · rcases cell e1 with z | ⟨h1, h2, f1⟩
      · cases z
      · rcases cell e2 with z | ⟨h3, h4, f2⟩
        · cases z
        · rw [val h1 h2] at e3
          rw [val h3 h4] at e4
          exact s1.ds j k' d d' b f1 f2 e3 e4
    · rcases cell e with z | ⟨h1, h2, e1⟩
      · cases z
      · obtain ⟨v, e2, r⟩ := s1.bo j d e1
        exact ⟨v, by rw [val h1 h2]; exact e2, r⟩
end
end Tv
/-! Tv41: spoiling: for told in found[k:]: told.append(None). -/
namespace Tv
open PySem PySem.Spec PyProof.Rows L2
theorem cutV_from (xs : List V) (a : Nat) : cutV xs (some (a : Int)) none = xs.drop a := by
  unfold cutV
  rw [HT.sIx_none, HT.sIx_nat]
  by_cases h : a ≤ xs.length
  · rw [Nat.min_eq_left h, List.take_of_length_le (by rw [List.length_drop]; omega)]
  · rw [Nat.min_eq_right (by omega), List.drop_length, List.drop_of_length_le (by omega)]
    simp
section
variable {X : Cx}
theorem ps_spoil (i t k : Nat) {x y : Str} {px py p2 p3 pk p4 p5 pn p7 p8 pos : Pos} {jk jn} (hp : PassesOwn (model X.prog X.w) X.A X.env X.xe) (hc : X.calm = true) (hN : X.N.Nodup) (hi : X.N[i]? = some x) (ht : X.N[t]? = some y) (hv : Vis X.env.scope x) (htv : Vis X.env.scope y) (htl : Loc X.env.scope y)
    (pe : ∀ {to : TE} {ta : TA}, PE X (.Name y p4) to → PA X [.Constant .none jn pn] ta → PE X (.Call (.Attribute (.Name y p4) "append" p5) [.Constant .none jn pn] [] p7) (tBM X.K "list" rAppend to ta))
    (hit : i ≠ t := by decide) (hdx : (x == ("__debug__" : Str)) = false := by decide) (hcx : (x == ("__classdict__" : Str)) = false := by decide) (hdy : (y == ("__debug__" : Str)) = false := by decide) (hcy : (y == ("__classdict__" : Str)) = false := by decide)
    (hf : X.fn y = true ∨ X.env.scope.names.lookup y = some .local := by first | exact .inl rfl | exact .inr rfl | assumption)
    (hst : starEach [.Constant .none jn pn] X.env = (false, eval (.Constant .none jn pn) X.env) :: starEach [] X.env := by rfl)
    (hs8 : swapsWith (.Call (.Attribute (.Name y p4) "append" p5) [.Constant .none jn pn] [] p7) none p8.line X.env = pure false := by rfl)
    (hsf : ∀ z, foldedSetIterable (.Subscript (.Name x px) (.Slice (some (.Constant (.int (k : Int)) jk pk)) none none p2) p3) X.env z = pure z := by intro _; rfl) :
    PS X (.For (.Name y py) (.Subscript (.Name x px) (.Slice (some (.Constant (.int (k : Int)) jk pk)) none none p2) p3) [.Expr (.Call (.Attribute (.Name y p4) "append" p5) [.Constant .none jn pn] [] p7) p8] [] pos) (tSpoil i t k) := by
  refine ps_imp (ps_for hp hc (pi_seq (pe_slice sl_list (pe_var hi hv hdx hcx) (po_some pe_int) po_none)) (pg_name hN ht htl hf) (pss_one (ps_expr (pe (pe_var ht htv hdy hcy) (pa_cons pe_non pa_nil hst)) hs8)) hsf) fun D σ H h => ?_
  obtain ⟨a, vs, tl, ea, ha, hl, hel, fin⟩ := h
  refine ⟨.ref a, ea, (k : Int), rfl, a, vs, rfl, SqL.of ha, fun q hq => ?_⟩
  rw [cutV_from]
  have elt : ∀ j, j < (vs.drop k).length → ∃ b xs, (vs.drop k)[j]? = some (.ref b) ∧ vs[k + j]? = some (.ref b) ∧ H b = some (.lst xs) ∧ xs.length ≤ 1000000 ∧ b ≠ q := fun j hj => by
    obtain ⟨v, ev⟩ : ∃ v, (vs.drop k)[j]? = some v := ⟨(vs.drop k)[j], by simp [hj]⟩
    have ev' : vs[k + j]? = some v := by rw [List.getElem?_drop] at ev; exact ev
    obtain ⟨b, xs, e1, e2, e3, e4⟩ := hel (k + j) v (by omega) ev'
    subst e1
    exact ⟨b, xs, ev, ev', e2, e3, fun z => by rw [z, hq] at e2; cases e2⟩
  refine ⟨q, rfl, .inl ⟨_, SqL.of upd_same, ?_⟩⟩
  let W : Nat → Nat → L2.St → Hp → Prop := fun j m σ' H' => m = (vs.drop k).length - j ∧ j ≤ (vs.drop k).length ∧ (∀ m', m' ≠ t → σ'[m']? = σ[m']?) ∧ σ'.length = σ.length ∧
    (∀ c o, H c = some o → (∀ j, k ≤ j → vs[j]? ≠ some (.ref c)) → H' c = some o) ∧ H' q = some (.lst (vs.drop k)) ∧ ∀ j' b, k ≤ j' → vs[j']? = some (.ref b) → ∃ ys, H' b = some (.lst ys) ∧ ys.length ≤ 1000000 + j
  refine ⟨W, ⟨_, rfl, Nat.zero_le _, fun _ _ => rfl, rfl, fun c o e _ => by rw [upd_ne (fun z => by rw [z, hq] at e; cases e)]; exact e, upd_same, fun j' b hj e => ?_⟩, ?_⟩
  · obtain ⟨b', xs, e1, e2, e3, e4⟩ := hel j' _ hj e
    cases e1
    exact ⟨xs, by rw [upd_ne (fun z => by rw [z, hq] at e2; cases e2)]; exact e2, by omega⟩
  rintro j m σ' H' ⟨rfl, hj, hσ, hls, hk, hq', hb⟩
  by_cases hlt : j < (vs.drop k).length
  · obtain ⟨b, xs0, ev, ev', _, _, hbq⟩ := elt j hlt
    refine .inr ⟨⟨vs.drop k, .ref b, SqL.of hq', ev⟩, fun σ2 H2 => W (j + 1) ((vs.drop k).length - (j + 1)) σ2 H2, fun σ2 H2 z => ⟨_, by omega, z⟩, fun v H2 y => ?_⟩
    obtain ⟨y1, y2⟩ := y
    subst y1
    have y3 := y2 _ (SqL.of hq')
    rw [ev] at y3; cases y3
    obtain ⟨ys, hby, hly⟩ := hb (k + j) b (by omega) ev'
    have lt : t < σ'.length := by rw [hls]; exact tl
    have ld : (vs.drop k).length ≤ 1000 := by rw [List.length_drop]; omega
    refine ⟨.ref b, List.getElem?_set_self lt, .inl ⟨rfl, ys, SqL.of hby⟩, b, ys, .non, rfl, rfl, hby, by rw [sizeLine_eq]; omega, rfl, hlt, fun m' hm => ?_, by rw [List.length_set]; exact hls, fun c o e hn => ?_, ?_, fun j' b' hj' e => ?_⟩
    · rw [List.getElem?_set_ne (Ne.symm hm)]; exact hσ m' hm
    · rw [upd_ne (fun z => hn (k + j) (by omega) (by rw [z]; exact ev'))]; exact hk c o e hn
    · rw [upd_ne (Ne.symm hbq)]; exact hq'
    · by_cases hbb : b' = b
      · subst hbb
        exact ⟨_, upd_same, by rw [List.length_append, List.length_singleton]; omega⟩
      · obtain ⟨zs, h1, h2⟩ := hb j' b' hj' e
        exact ⟨zs, by rw [upd_ne hbb]; exact h1, by omega⟩
  · exact .inl ⟨⟨vs.drop k, SqL.of hq', by omega⟩, fin σ' H' hσ hls hk⟩
def notW (r : R) (Φ : R → En → Prop) (ρ : En) : Prop := match r.d with
  | .bl k => Φ (.fr (.bl (!k))) ρ
  | _ => False
theorem e_wNot {wa : WE} {Φ : R → En → Prop} {ρ : En} (h : wa ρ fun r ρ' => notW r Φ ρ') : wNot wa ρ Φ := h
theorem e_notW {r : R} {b : Bool} {Φ : R → En → Prop} {ρ : En} (q : r.d = .bl b) (h : Φ (.fr (.bl (!b))) ρ) : notW r Φ ρ := by unfold notW; rw [q]; exact h
theorem atI_getN {α : Type} {xs : List α} {n : Nat} (h : n < xs.length) : atI xs (n : Int) = some xs[n] := by
  unfold atI ixN
  rw [if_pos (by omega), if_pos (by omega)]
  simp [h]
def starW (ws : WA) (d : D) (Φ : List R → En → Prop) (ρ : En) : Prop := match itemsD d with
  | some ds => ws ρ fun rs ρ2 => Φ (ds.map R.fr ++ rs) ρ2
  | none => False
theorem e_star {wa : WE} {ws : WA} {Φ : List R → En → Prop} {ρ : En} (h : wa ρ fun r ρ' => starW ws r.d Φ ρ') : wStar wa ws ρ Φ := h
theorem e_starW {ws : WA} {Φ : List R → En → Prop} {ρ : En} {d : D} {ds : List D} (q : itemsD d = some ds) (h : ws ρ fun rs ρ2 => Φ (ds.map R.fr ++ rs) ρ2) : starW ws d Φ ρ := by unfold starW; rw [q]; exact h
theorem frs_app {rs : List R} {es : List D} (q : frs' rs = some es) : ∀ ds : List D, frs' (ds.map R.fr ++ rs) = some (ds ++ es)
  | [] => q
  | d :: ds => by
    show (match frs' (ds.map R.fr ++ rs) with
      | some ds => some (d :: ds)
      | none => none) = _
    rw [frs_app q ds]; rfl
theorem e_lstS {rs : List R} {ds : List D} {Φ : R → En → Prop} {ρ : En} (q : frs' rs = some ds) (l : rs.length ≤ 16777216) (h : Φ (.ow (.lst ds)) ρ) : lstW rs Φ ρ := by unfold lstW; rw [q]; exact ⟨by rw [sizeLine_eq]; exact l, h⟩
theorem e_tupS {rs : List R} {ds : List D} {Φ : R → En → Prop} {ρ : En} (q : frs' rs = some ds) (l : rs.length ≤ 16777216) (h : Φ (.fr (.tup ds)) ρ) : tupW rs Φ ρ := by unfold tupW; rw [q]; exact ⟨by rw [sizeLine_eq]; exact l, h⟩
theorem e_chk {i t k : Nat} {keep : List Nat} {ws : WA} {wt : WT} {ρ : En} {S : SK} (h : ws ρ fun rs ρ1 => (i < ρ1.length ∧ t < ρ1.length ∧ (∀ r ∈ rs, r.ok) ∧ D.nbL (rs.map R.d) = true ∧ rs.length ≤ 1000 ∧ (∀ r ∈ rs.drop k, ∃ ds, r = .ow (.lst ds) ∧ ds.length ≤ 1000000) ∧ (∀ j ∈ keep, ∀ c, ρ1[j]? = some c → KeepC c)) ∧
    wt (hideE keep i (.lst (rs.map R.d)) 0 ρ1) (fun b _ => b = false) ∧ S.nx ((ρ1.set i .no).set t .no)) : sChk i t k keep ws wt ρ S := h
end
end Tv
set_option maxHeartbeats 0
namespace Lw
open PySem PySem.Spec PyProof.Rows L2 Tv
def top (i : Nat) : Stmt := PySem.Challenge.pw_rowsborne_k59_places_in_boxes.main.body.getD i (.Pass ⟨0, 0, 0, 0⟩)
/-- what the top has written, and what it has not -/
structure Txt (K : PySem.W.Frag) (w : World) (mg : Str → Option Value) : Prop where
  n_abs : mg "abs" = none
  n_int : mg "int" = none
  n_len : mg "len" = none
  n_max : mg "max" = none
  n_min : mg "min" = none
  n_range : mg "range" = none
  n_repr : mg "repr" = none
section
variable {P : Program} {w : World} {K : PySem.W.Frag} {mg : Str → Option Value} {base : Heap}
/-- a def at hand -/
abbrev At (P : Program) (w : World) (K : PySem.W.Frag) (mg : Str → Option Value) (base : Heap) (k : Nat) (x : Str) (f : Addr) (wf : WF) : Prop := FnG P w K mg base k f wf ∧ mg x = some (.ref f) ∧ PySem.W.keepIn K (.ref f) = true
abbrev AtB (P : Program) (w : World) (K : PySem.W.Frag) (mg : Str → Option Value) (base : Heap) (k : Nat) (x : Str) (f : Addr) (wf : WF) : Prop := FnB P w K mg base k f wf ∧ mg x = some (.ref f) ∧ PySem.W.keepIn K (.ref f) = true
abbrev AtM (P : Program) (w : World) (K : PySem.W.Frag) (mg : Str → Option Value) (base : Heap) (k : Nat) (c fl x : Str) (f : Addr) (wf : WF) : Prop := FnG P w K mg base k f wf ∧ ∃ C p, Cl1 K c C fl p ∧ Meth K C x f
abbrev AtI (P : Program) (w : World) (K : PySem.W.Frag) (mg : Str → Option Value) (base : Heap) (k : Nat) (c fl : Str) (wf : WFI) : Prop := ∃ (C f p : Addr) (j : Nat), Cl1 K c C fl p ∧ L2.Mk K C f ∧ FnI P w K mg base j C f wf ∧ mg c = some (.ref C) ∧ j + 1 ≤ k
/-! ### _law_alike -/
abbrev st__law_alike : Stmt := top 10
theorem sc__law_alike : FnScope ["_law_found", "_law_due"] ["_law_found", "_law_due"] (defScope st__law_alike) := ⟨rfl, rfl, rfl, by decide +kernel, rfl, by decide +kernel, by decide +kernel⟩
def W__law_alike : WS :=
  (sRet (wAndT (w2 oEq (wP 0) (wP 1)) (w2 oEq (wN oRepr (wCons (wP 0) wNil)) (wN oRepr (wCons (wP 1) wNil)))))
abbrev R__law_alike : WF := wDefB 2 0 (W__law_alike)
theorem fn__law_alike {k : Nat} {f : Addr} {fd : FuncData} (Fu : Fun K "_law_alike" "_law_alike" st__law_alike f fd) (T : Txt K w mg) : FnB P w K mg base (k + 1) f (R__law_alike) := by
  refine fnB_of (N := ["_law_found", "_law_due"]) Fu sc__law_alike (Fu.binds (ps := ["_law_found", "_law_due"]) fun _ _ _ _ _ _ us hl => match us, hl with | [_, _], _ => rfl) rfl rfl fun cdv A outer s H G hr hg => ?_
  have sc := sc__law_alike
  have hu := hr
  show PBI _ G H (defBody st__law_alike) (W__law_alike)
  unfold W__law_alike
  exact (b_one (s_ret (i_andT (i_cmp (op_eqA hu.r64) op2_eq (i_peek 0) (i_peek 1) (by rfl)) (i_one (i_cmp (op_eqA hu.r64) op2_eq (i_callB (call_reprA hg hu.room) opn_repr (by rfl) T.n_repr Boot.«repr» (a_cons (i_peek 0) a_nil)) (i_callB (call_reprA hg hu.room) opn_repr (by rfl) T.n_repr Boot.«repr» (a_cons (i_peek 1) a_nil)) (by rfl))))))
/-! ### place_in -/
abbrev st_place_in : Stmt := top 1
theorem sc_place_in : FnScope ["size", "from_where", "counted", "is_add", "last", "place"] ["size", "from_where", "counted", "is_add"] (defScope st_place_in) := ⟨rfl, rfl, rfl, by decide +kernel, rfl, by decide +kernel, by decide +kernel⟩
def W_place_in : WS :=
  (sSeq (sSet 4 (wIf (wTr (wP 3)) (wV 0) (w2 oSub (wP 0) (wC (.int 1)))))
    (sSeq (sSet 5 (wIf (wB (w2 oEq (wP 1) (wC (.str "begin")))) (wV 2) (w2 oSub (wP 4) (wP 2))))
    (sRet (wN oMaxA (wCons (wC (.int 0)) (wCons (wN oMinA (wCons (wP 5) (wCons (wP 4) wNil))) wNil))))))
abbrev R_place_in : WF := wDef 4 2 (W_place_in)
theorem fn_place_in {k : Nat} {f : Addr} {fd : FuncData} (Fu : Fun K "place_in" "place_in" st_place_in f fd) (T : Txt K w mg) : FnG P w K mg base (k + 1) f (R_place_in) := by
  refine fnG_of (N := ["size", "from_where", "counted", "is_add", "last", "place"]) Fu sc_place_in (Fu.binds (ps := ["size", "from_where", "counted", "is_add"]) fun _ _ _ _ _ _ us hl => match us, hl with | [_, _, _, _], _ => rfl) rfl rfl fun cdv A outer s H G hr hg => ?_
  have sc := sc_place_in
  have hu := hr
  show PBI _ G H (defBody st_place_in) (W_place_in)
  unfold W_place_in
  exact (b_cons (s_set sc.nd (by rfl) (by first | exact .inl rfl | exact .inr rfl) (i_if (t_tru (i_peek 3)) (i_var 0) (i_op op_sub op2_sub (i_peek 0) i_int)))
    (b_cons (s_set sc.nd (by rfl) (by first | exact .inl rfl | exact .inr rfl) (i_if (t_cmp (op_eqA hu.r64) op2_eq (i_peek 1) i_str (by rfl)) (i_var 2) (i_op op_sub op2_sub (i_peek 4) (i_peek 2))))
    (b_one (s_ret (i_callB (call_maxA rfl) opn_maxA (by rfl) T.n_max Boot.«max» (a_cons i_int (a_cons (i_callB (call_minA rfl) opn_minA (by rfl) T.n_min Boot.«min» (a_cons (i_peek 5) (a_cons (i_peek 4) a_nil))) a_nil)))))))
/-! ### changed -/
abbrev st_changed : Stmt := top 5
theorem sc_changed : FnScope ["box", "place", "value"] ["box", "place", "value"] (defScope st_changed) := ⟨rfl, rfl, rfl, by decide +kernel, rfl, by decide +kernel, by decide +kernel⟩
def W_changed : WS :=
  (sRet (wIf (wB (w2 oGt (wN oLen (wCons (wP 0) wNil)) (wC (.int 0)))) (wLst (wStar (wSl (wP 0) wNoP (wSomeP (wP 1))) (wCons (wV 2) (wStar (wSl (wP 0) (wSomeP (w2 oAdd (wP 1) (wC (.int 1)))) wNoP) wNil)))) (wLst wNil)))
abbrev R_changed : WF := wDef 3 0 (W_changed)
theorem fn_changed {k : Nat} {f : Addr} {fd : FuncData} (Fu : Fun K "changed" "changed" st_changed f fd) (T : Txt K w mg) : FnG P w K mg base (k + 1) f (R_changed) := by
  refine fnG_of (N := ["box", "place", "value"]) Fu sc_changed (Fu.binds (ps := ["box", "place", "value"]) fun _ _ _ _ _ _ us hl => match us, hl with | [_, _, _], _ => rfl) rfl rfl fun cdv A outer s H G hr hg => ?_
  have sc := sc_changed
  have hu := hr
  show PBI _ G H (defBody st_changed) (W_changed)
  unfold W_changed
  exact (b_one (s_ret (i_if (t_cmp op_gtA op2_gt (i_callB call_len opn_len (by rfl) T.n_len Boot.«len» (a_cons (i_peek 0) a_nil)) i_int (by rfl)) (i_lst (a_star (i_slice (i_peek 0) o_none (o_some (i_peek 1))) (a_cons (i_var 2) (a_star (i_slice (i_peek 0) (o_some (i_op op_addA op2_add (i_peek 1) i_int)) o_none) a_nil)))) (i_lst a_nil))))
/-! ### dropped -/
abbrev st_dropped : Stmt := top 4
theorem sc_dropped : FnScope ["box", "place"] ["box", "place"] (defScope st_dropped) := ⟨rfl, rfl, rfl, by decide +kernel, rfl, by decide +kernel, by decide +kernel⟩
def W_dropped : WS :=
  (sRet (wLst (wStar (wSl (wP 0) wNoP (wSomeP (wP 1))) (wStar (wSl (wP 0) (wSomeP (w2 oAdd (wP 1) (wC (.int 1)))) wNoP) wNil))))
abbrev R_dropped : WF := wDef 2 0 (W_dropped)
theorem fn_dropped {k : Nat} {f : Addr} {fd : FuncData} (Fu : Fun K "dropped" "dropped" st_dropped f fd) (T : Txt K w mg) : FnG P w K mg base (k + 1) f (R_dropped) := by
  refine fnG_of (N := ["box", "place"]) Fu sc_dropped (Fu.binds (ps := ["box", "place"]) fun _ _ _ _ _ _ us hl => match us, hl with | [_, _], _ => rfl) rfl rfl fun cdv A outer s H G hr hg => ?_
  have sc := sc_dropped
  have hu := hr
  show PBI _ G H (defBody st_dropped) (W_dropped)
  unfold W_dropped
  exact (b_one (s_ret (i_lst (a_star (i_slice (i_peek 0) o_none (o_some (i_peek 1))) (a_star (i_slice (i_peek 0) (o_some (i_op op_addA op2_add (i_peek 1) i_int)) o_none) a_nil)))))
/-! ### added -/
abbrev st_added : Stmt := top 3
theorem sc_added : FnScope ["box", "place", "value"] ["box", "place", "value"] (defScope st_added) := ⟨rfl, rfl, rfl, by decide +kernel, rfl, by decide +kernel, by decide +kernel⟩
def W_added : WS :=
  (sRet (wLst (wStar (wSl (wP 0) wNoP (wSomeP (wP 1))) (wCons (wV 2) (wStar (wSl (wP 0) (wSomeP (wP 1)) wNoP) wNil)))))
abbrev R_added : WF := wDef 3 0 (W_added)
theorem fn_added {k : Nat} {f : Addr} {fd : FuncData} (Fu : Fun K "added" "added" st_added f fd) (T : Txt K w mg) : FnG P w K mg base (k + 1) f (R_added) := by
  refine fnG_of (N := ["box", "place", "value"]) Fu sc_added (Fu.binds (ps := ["box", "place", "value"]) fun _ _ _ _ _ _ us hl => match us, hl with | [_, _, _], _ => rfl) rfl rfl fun cdv A outer s H G hr hg => ?_
  have sc := sc_added
  have hu := hr
  show PBI _ G H (defBody st_added) (W_added)
  unfold W_added
  exact (b_one (s_ret (i_lst (a_star (i_slice (i_peek 0) o_none (o_some (i_peek 1))) (a_cons (i_var 2) (a_star (i_slice (i_peek 0) (o_some (i_peek 1)) o_none) a_nil))))))
/-! ### looked -/
abbrev st_looked : Stmt := top 2
theorem sc_looked : FnScope ["box", "place"] ["box", "place"] (defScope st_looked) := ⟨rfl, rfl, rfl, by decide +kernel, rfl, by decide +kernel, by decide +kernel⟩
def W_looked : WS :=
  (sRet (wIf (wB (w2 oGt (wN oLen (wCons (wP 0) wNil)) (wC (.int 0)))) (w2 oIx (wP 0) (wP 1)) (wC (.int 0))))
abbrev R_looked : WF := wDef 2 0 (W_looked)
theorem fn_looked {k : Nat} {f : Addr} {fd : FuncData} (Fu : Fun K "looked" "looked" st_looked f fd) (T : Txt K w mg) : FnG P w K mg base (k + 1) f (R_looked) := by
  refine fnG_of (N := ["box", "place"]) Fu sc_looked (Fu.binds (ps := ["box", "place"]) fun _ _ _ _ _ _ us hl => match us, hl with | [_, _], _ => rfl) rfl rfl fun cdv A outer s H G hr hg => ?_
  have sc := sc_looked
  have hu := hr
  show PBI _ G H (defBody st_looked) (W_looked)
  unfold W_looked
  exact (b_one (s_ret (i_if (t_cmp op_gtA op2_gt (i_callB call_len opn_len (by rfl) T.n_len Boot.«len» (a_cons (i_peek 0) a_nil)) i_int (by rfl)) (i_ix ix_seq op2_ix (i_peek 0) (i_peek 1) (by intro _ _; rfl)) i_int)))
/-! ### _law_box_right -/
abbrev st__law_box_right : Stmt := top 12
theorem sc__law_box_right : FnScope ["_law_box", "_law_at", "_law_place_here", "_law_value", "_law_said", "_law_many", "_law_row", "_law_due", "_law_again", "_law_found", "_law_told"] ["_law_box", "_law_at", "_law_place_here", "_law_value"] (defScope st__law_box_right) := ⟨rfl, rfl, rfl, by decide +kernel, rfl, by decide +kernel, by decide +kernel⟩
def W__law_box_right_t0 (F_changed : WF) (F_dropped : WF) (F_added : WF) (F_looked : WF) (F__law_alike : WF) : WS :=
  (sRet (w2 oEq (wN oRepr (wCons (wP 0) wNil)) (wP 4)))
def W__law_box_right (F_changed : WF) (F_dropped : WF) (F_added : WF) (F_looked : WF) (F__law_alike : WF) : WS :=
  (sSeq (sPar 4 5 (wCons (wN oRepr (wCons (wP 0) wNil)) (wCons (wN oLen (wCons (wP 0) wNil)) wNil)))
    (sSeq (sSet 6 (wIf (wB (w2 oNe (wP 0) (wLst wNil))) (w2 oAdd (w2 oAdd (wSl (wP 0) wNoP (wSomeP (wP 1))) (wLst (wCons (wV 3) wNil))) (wSl (wP 0) (wSomeP (w2 oAdd (wP 1) (wC (.int 1)))) wNoP)) (wLst wNil)))
    (sSeq (sSet 7 (wLst (wCons (wIf (wB (w2 oNe (wP 0) (wLst wNil))) (w2 oIx (wP 0) (wP 1)) (wC (.int 0))) (wCons (wF (w2 oAdd (w2 oAdd (wSl (wP 0) wNoP (wSomeP (wP 2))) (wLst (wCons (wV 3) wNil))) (wSl (wP 0) (wSomeP (wP 2)) wNoP))) (wCons (wF (w2 oAdd (wSl (wP 0) wNoP (wSomeP (wP 1))) (wSl (wP 0) (wSomeP (w2 oAdd (wP 1) (wC (.int 1)))) wNoP))) (wCons (wV 6) wNil))))))
    (sSeq (sFor (wRng1 (wCons (wC (.int 2)) wNil)) (gN 8)
    (sSeq (sChk 9 10 1 [0, 4, 5, 7] (wCons (wCall F_looked (wCons (wV 0) (wCons (wV 1) wNil))) (wCons (wCall F_added (wCons (wV 0) (wCons (wV 2) (wCons (wV 3) wNil)))) (wCons (wCall F_dropped (wCons (wV 0) (wCons (wV 1) wNil))) (wCons (wCall F_changed (wCons (wV 0) (wCons (wV 1) (wCons (wV 3) wNil)))) wNil)))) (tOr' (tNot' (wTr (wCallB F__law_alike (wCons (wP 9) (wCons (wP 7) wNil))))) (tOr' (wB (w2 oNe (wN oRepr (wCons (wP 0) wNil)) (wP 4))) (wB (w2 oNe (wN oLen (wCons (wP 0) wNil)) (wP 5))))))
    sSkip))
    (W__law_box_right_t0 F_changed F_dropped F_added F_looked F__law_alike)))))
abbrev R__law_box_right (F_changed : WF) (F_dropped : WF) (F_added : WF) (F_looked : WF) (F__law_alike : WF) : WF := wDef 4 7 (W__law_box_right F_changed F_dropped F_added F_looked F__law_alike)
theorem fn__law_box_right {k : Nat} {f : Addr} {fd : FuncData} (Fu : Fun K "_law_box_right" "_law_box_right" st__law_box_right f fd) (T : Txt K w mg) {F_changed : WF} {f_changed : Addr} (H_changed : At P w K mg base k "changed" f_changed F_changed) {F_dropped : WF} {f_dropped : Addr} (H_dropped : At P w K mg base k "dropped" f_dropped F_dropped) {F_added : WF} {f_added : Addr} (H_added : At P w K mg base k "added" f_added F_added) {F_looked : WF} {f_looked : Addr} (H_looked : At P w K mg base k "looked" f_looked F_looked) {F__law_alike : WF} {f__law_alike : Addr} (H__law_alike : AtB P w K mg base k "_law_alike" f__law_alike F__law_alike) : FnG P w K mg base (k + 1) f (R__law_box_right F_changed F_dropped F_added F_looked F__law_alike) := by
  refine fnG_of (N := ["_law_box", "_law_at", "_law_place_here", "_law_value", "_law_said", "_law_many", "_law_row", "_law_due", "_law_again", "_law_found", "_law_told"]) Fu sc__law_box_right (Fu.binds (ps := ["_law_box", "_law_at", "_law_place_here", "_law_value"]) fun _ _ _ _ _ _ us hl => match us, hl with | [_, _, _, _], _ => rfl) rfl rfl fun cdv A outer s H G hr hg => ?_
  have sc := sc__law_box_right
  have hu := hr
  show PBI _ G H (defBody st__law_box_right) (W__law_box_right F_changed F_dropped F_added F_looked F__law_alike)
  unfold W__law_box_right
  exact (b_cons (s_par rfl sc.nd (by rfl) (by rfl) (by decide) (by rfl) (by rfl) (a_cons (i_callB (call_reprA hg hu.room) opn_repr (by rfl) T.n_repr Boot.«repr» (a_cons (i_peek 0) a_nil)) (a_cons (i_callB call_len opn_len (by rfl) T.n_len Boot.«len» (a_cons (i_peek 0) a_nil)) a_nil)) (by rfl))
    (b_cons (s_set sc.nd (by rfl) (by first | exact .inl rfl | exact .inr rfl) (i_if (t_cmp (op_neA hu.r64) op2_ne (i_peek 0) (i_lst a_nil) (by rfl)) (i_op op_addA op2_add (i_op op_addA op2_add (i_slice (i_peek 0) o_none (o_some (i_peek 1))) (i_lst (a_cons (i_var 3) a_nil))) (i_slice (i_peek 0) (o_some (i_op op_addA op2_add (i_peek 1) i_int)) o_none)) (i_lst a_nil)))
    (b_cons (s_set sc.nd (by rfl) (by first | exact .inl rfl | exact .inr rfl) (i_lst (a_cons (i_if (t_cmp (op_neA hu.r64) op2_ne (i_peek 0) (i_lst a_nil) (by rfl)) (i_ix ix_seq op2_ix (i_peek 0) (i_peek 1) (by intro _ _; rfl)) i_int) (a_cons (i_fz (i_op op_addA op2_add (i_op op_addA op2_add (i_slice (i_peek 0) o_none (o_some (i_peek 2))) (i_lst (a_cons (i_var 3) a_nil))) (i_slice (i_peek 0) (o_some (i_peek 2)) o_none))) (a_cons (i_fz (i_op op_addA op2_add (i_slice (i_peek 0) o_none (o_some (i_peek 1))) (i_slice (i_peek 0) (o_some (i_op op_addA op2_add (i_peek 1) i_int)) o_none))) (a_cons (i_var 6) a_nil))))))
    (b_cons (s_for (vs := [8]) PassesOwn.never rfl (p_rng1 (by rfl) T.n_range (a_cons i_int a_nil)) (g_name sc.nd (by rfl) (by first | exact .inl rfl | exact .inr rfl) (by decide))
    (b_chk (i := 9) (t := 10) (k := 1) (keep := [0, 4, 5, 7]) sc.nd (by rfl) (by first | exact .inl rfl | exact .inr rfl) (a_cons (i_call H_looked.1 hr hg (by rfl) H_looked.2.1 H_looked.2.2 (a_cons (i_var 0) (a_cons (i_var 1) a_nil))) (a_cons (i_call H_added.1 hr hg (by rfl) H_added.2.1 H_added.2.2 (a_cons (i_var 0) (a_cons (i_var 2) (a_cons (i_var 3) a_nil)))) (a_cons (i_call H_dropped.1 hr hg (by rfl) H_dropped.2.1 H_dropped.2.2 (a_cons (i_var 0) (a_cons (i_var 1) a_nil))) (a_cons (i_call H_changed.1 hr hg (by rfl) H_changed.2.1 H_changed.2.2 (a_cons (i_var 0) (a_cons (i_var 1) (a_cons (i_var 3) a_nil)))) a_nil)))) (fun _ _ => (t_bool (w_or (t_not (t_tru (i_callBo H__law_alike.1 hr hg (by rfl) H__law_alike.2.1 H__law_alike.2.2 (a_cons (i_peek 9) (a_cons (i_peek 7) a_nil))))) (w_or (t_cmp (op_neA hu.r64) op2_ne (i_callB (call_reprA hg hu.room) opn_repr (by rfl) T.n_repr Boot.«repr» (a_cons (i_peek 0) a_nil)) (i_peek 4) (by rfl)) (w_or1 (t_cmp (op_neA hu.r64) op2_ne (i_callB call_len opn_len (by rfl) T.n_len Boot.«len» (a_cons (i_peek 0) a_nil)) (i_peek 5) (by rfl))))))) (ps_spoil 9 10 1 PassesOwn.never rfl sc.nd (by rfl) (by rfl) (by first | exact Or.inl rfl | exact Or.inr (Or.inl rfl) | exact Or.inr (Or.inr rfl)) (by first | exact Or.inl rfl | exact Or.inr (Or.inl rfl) | exact Or.inr (Or.inr rfl)) (by first | exact .inl rfl | exact .inr rfl) (fun ho ha => pe_bm F.plainAttrs_list F.slot_list_append F.type_list_append mt_append ho ha))
    b_nil))
    (b_one (s_ret (i_cmp (op_eqA hu.r64) op2_eq (i_callB (call_reprA hg hu.room) opn_repr (by rfl) T.n_repr Boot.«repr» (a_cons (i_peek 0) a_nil)) (i_peek 4) (by rfl))))))))
/-! ### _law_take -/
abbrev st__law_take : Stmt := top 8
theorem sc__law_take : FnScope ["_law_bag_here", "_law_many", "_law_cell", "_law_mixed", "_law_drawn", "_law_early", "_law_second"] ["_law_bag_here", "_law_many"] (defScope st__law_take) := ⟨rfl, rfl, rfl, by decide +kernel, rfl, by decide +kernel, by decide +kernel⟩
def W__law_take : WS :=
  (sSeq (sIf (wB (w2 oEq (w2 oBag (wP 0) (wC (.int 0))) (wC (.int 0)))) (sSeq (sSet 2 (w2 oIx (w2 oAdd (wSl (w2 oBag (wP 0) (wC (.int 3))) (wSomeP (w2 oBag (wP 0) (wC (.int 2)))) wNoP) (wLst (wCons (wC (.int 0)) wNil))) (wC (.int 0))))
    (sSeq (sBagAug 0 2 1)
    (sSeq (sBagSet 0 0 (wF (w2 oMulA (wP 2) (wN oIntC (wCons (w2 oGe (wP 2) (w2 oPow (wC (.int 10)) (wC (.int 18)))) wNil)))))
    (sSeq (sSet 3 (w2 oAdd (w2 oAdd (w2 oMulA (w2 oBag (wP 0) (wC (.int 1))) (wC (.int 48271))) (w2 oMod (wN oIntC (wCons (wP 2) wNil)) (wC (.int 2147483647)))) (w2 oMulA (wC (.int 7919)) (w2 oBag (wP 0) (wC (.int 2))))))
    (sBagSet 0 1 (w2 oMod (wN oIntC (wCons (wP 3) wNil)) (wC (.int 2147483647)))))))) sSkip)
    (sSeq (sIf (wB (w2 oGt (w2 oBag (wP 0) (wC (.int 0))) (wC (.int 0)))) (sSeq (sBagPar 4 0 0 (wTup (wCons (w2 oMod (wN oIntC (wCons (w2 oBag (wP 0) (wC (.int 0))) wNil)) (wP 1)) (wCons (w2 oDiv (wN oIntC (wCons (w2 oBag (wP 0) (wC (.int 0))) wNil)) (wP 1)) wNil))))
    (sRetV 4)) sSkip)
    (sSeq (sSet 5 (w2 oMod (wN oIntC (wCons (w2 oMulA (w2 oAdd (w2 oBag (wP 0) (wC (.int 1))) (wC (.int 1))) (wC (.int 39373))) wNil)) (wC (.int 1000000007))))
    (sSeq (sSet 6 (w2 oMod (wN oIntC (wCons (w2 oMulA (w2 oMod (wN oIntC (wCons (w2 oMulA (wP 5) (wP 5)) wNil)) (wC (.int 998244353))) (wC (.int 30011))) wNil)) (wC (.int 998244353))))
    (sRet (w2 oMod (wN oIntC (wCons (w2 oDiv (wP 6) (wC (.int 7))) wNil)) (wP 1)))))))
abbrev R__law_take : WF := wDef 2 5 (W__law_take)
theorem fn__law_take {k : Nat} {f : Addr} {fd : FuncData} (Fu : Fun K "_law_take" "_law_take" st__law_take f fd) (T : Txt K w mg) : FnG P w K mg base (k + 1) f (R__law_take) := by
  refine fnG_of (N := ["_law_bag_here", "_law_many", "_law_cell", "_law_mixed", "_law_drawn", "_law_early", "_law_second"]) Fu sc__law_take (Fu.binds (ps := ["_law_bag_here", "_law_many"]) fun _ _ _ _ _ _ us hl => match us, hl with | [_, _], _ => rfl) rfl rfl fun cdv A outer s H G hr hg => ?_
  have sc := sc__law_take
  have hu := hr
  show PBI _ G H (defBody st__law_take) (W__law_take)
  unfold W__law_take
  exact (b_cons (s_if (t_cmp (op_eqA hu.r64) op2_eq (i_ix ix_seq op2_bag (i_peek 0) i_int (by intro _ _; rfl)) i_int (by rfl)) (b_cons (s_set sc.nd (by rfl) (by first | exact .inl rfl | exact .inr rfl) (i_ix ix_seq op2_ix (i_op op_addA op2_add (i_slice (i_ix ix_seq op2_bag (i_peek 0) i_int (by intro _ _; rfl)) (o_some (i_ix ix_seq op2_bag (i_peek 0) i_int (by intro _ _; rfl))) o_none) (i_lst (a_cons i_int a_nil))) i_int (by intro _ _; rfl)))
    (b_cons (s_bagAug (i := 0))
    (b_cons (s_bagSet (i_fz (i_op op_mulA op2_mulA (i_peek 2) (i_callT call_int1 opn_int (by rfl) T.n_int Boot.«int» (a_cons (i_cmp op_geA op2_ge (i_peek 2) (i_op op_pow op2_pow i_int i_int) (by rfl)) a_nil)))))
    (b_cons (s_set sc.nd (by rfl) (by first | exact .inl rfl | exact .inr rfl) (i_op op_addA op2_add (i_op op_addA op2_add (i_op op_mulA op2_mulA (i_ix ix_seq op2_bag (i_peek 0) i_int (by intro _ _; rfl)) i_int) (i_op op_mod op2_mod (i_callT call_int1 opn_int (by rfl) T.n_int Boot.«int» (a_cons (i_peek 2) a_nil)) i_int)) (i_op op_mulA op2_mulA i_int (i_ix ix_seq op2_bag (i_peek 0) i_int (by intro _ _; rfl)))))
    (b_one (s_bagSet (i_op op_mod op2_mod (i_callT call_int1 opn_int (by rfl) T.n_int Boot.«int» (a_cons (i_peek 3) a_nil)) i_int))))))) b_nil)
    (b_cons (s_if (t_cmp op_gtA op2_gt (i_ix ix_seq op2_bag (i_peek 0) i_int (by intro _ _; rfl)) i_int (by rfl)) (b_cons (s_bagPar (b := 0) rfl sc.nd (by rfl) (by first | exact .inl rfl | exact .inr rfl) (i_tup (a_cons (i_op op_mod op2_mod (i_callT call_int1 opn_int (by rfl) T.n_int Boot.«int» (a_cons (i_ix ix_seq op2_bag (i_peek 0) i_int (by intro _ _; rfl)) a_nil)) (i_peek 1)) (a_cons (i_op op_fdiv op2_div (i_callT call_int1 opn_int (by rfl) T.n_int Boot.«int» (a_cons (i_ix ix_seq op2_bag (i_peek 0) i_int (by intro _ _; rfl)) a_nil)) (i_peek 1)) a_nil))))
    (b_one (s_retv 4))) b_nil)
    (b_cons (s_set sc.nd (by rfl) (by first | exact .inl rfl | exact .inr rfl) (i_op op_mod op2_mod (i_callT call_int1 opn_int (by rfl) T.n_int Boot.«int» (a_cons (i_op op_mulA op2_mulA (i_op op_addA op2_add (i_ix ix_seq op2_bag (i_peek 0) i_int (by intro _ _; rfl)) i_int) i_int) a_nil)) i_int))
    (b_cons (s_set sc.nd (by rfl) (by first | exact .inl rfl | exact .inr rfl) (i_op op_mod op2_mod (i_callT call_int1 opn_int (by rfl) T.n_int Boot.«int» (a_cons (i_op op_mulA op2_mulA (i_op op_mod op2_mod (i_callT call_int1 opn_int (by rfl) T.n_int Boot.«int» (a_cons (i_op op_mulA op2_mulA (i_peek 5) (i_peek 5)) a_nil)) i_int) i_int) a_nil)) i_int))
    (b_one (s_ret (i_op op_mod op2_mod (i_callT call_int1 opn_int (by rfl) T.n_int Boot.«int» (a_cons (i_op op_fdiv op2_div (i_peek 6) i_int) a_nil)) (i_peek 1))))))))
/-! ### _law_one -/
abbrev st__law_one : Stmt := top 9
theorem sc__law_one : FnScope ["_law_bag_here", "_law_some"] ["_law_bag_here", "_law_some"] (defScope st__law_one) := ⟨rfl, rfl, rfl, by decide +kernel, rfl, by decide +kernel, by decide +kernel⟩
def W__law_one (F__law_take : WF) : WS :=
  (sRet (w2 oIx (wP 1) (wCall F__law_take (wCons (wV 0) (wCons (wN oLen (wCons (wP 1) wNil)) wNil)))))
abbrev R__law_one (F__law_take : WF) : WF := wDef 2 0 (W__law_one F__law_take)
theorem fn__law_one {k : Nat} {f : Addr} {fd : FuncData} (Fu : Fun K "_law_one" "_law_one" st__law_one f fd) (T : Txt K w mg) {F__law_take : WF} {f__law_take : Addr} (H__law_take : At P w K mg base k "_law_take" f__law_take F__law_take) : FnG P w K mg base (k + 1) f (R__law_one F__law_take) := by
  refine fnG_of (N := ["_law_bag_here", "_law_some"]) Fu sc__law_one (Fu.binds (ps := ["_law_bag_here", "_law_some"]) fun _ _ _ _ _ _ us hl => match us, hl with | [_, _], _ => rfl) rfl rfl fun cdv A outer s H G hr hg => ?_
  have sc := sc__law_one
  have hu := hr
  show PBI _ G H (defBody st__law_one) (W__law_one F__law_take)
  unfold W__law_one
  exact (b_one (s_ret (i_ix ix_seq op2_ix (i_peek 1) (i_call H__law_take.1 hr hg (by rfl) H__law_take.2.1 H__law_take.2.2 (a_cons (i_var 0) (a_cons (i_callB call_len opn_len (by rfl) T.n_len Boot.«len» (a_cons (i_peek 1) a_nil)) a_nil))) (by intro _ _; rfl))))
/-! ### _law_place -/
abbrev st__law_place : Stmt := top 11
theorem sc__law_place : FnScope ["_law_size", "_law_start", "_law_counted", "_law_is_add", "_law_place_here"] ["_law_size", "_law_start", "_law_counted", "_law_is_add"] (defScope st__law_place) := ⟨rfl, rfl, rfl, by decide +kernel, rfl, by decide +kernel, by decide +kernel⟩
def W__law_place : WS :=
  (sSeq (sSet 4 (wIf (wB (w2 oEq (wP 1) (wC (.str "begin")))) (wV 2) (w2 oSub (w2 oSub (wP 0) (wN oIntC (wCons (wNot (wP 3)) wNil))) (wP 2))))
    (sRet (wN oMaxA (wCons (wC (.int 0)) (wCons (wN oMinA (wCons (wP 4) (wCons (w2 oSub (wP 0) (wN oIntC (wCons (wNot (wP 3)) wNil))) wNil))) wNil)))))
abbrev R__law_place : WF := wDef 4 1 (W__law_place)
theorem fn__law_place {k : Nat} {f : Addr} {fd : FuncData} (Fu : Fun K "_law_place" "_law_place" st__law_place f fd) (T : Txt K w mg) : FnG P w K mg base (k + 1) f (R__law_place) := by
  refine fnG_of (N := ["_law_size", "_law_start", "_law_counted", "_law_is_add", "_law_place_here"]) Fu sc__law_place (Fu.binds (ps := ["_law_size", "_law_start", "_law_counted", "_law_is_add"]) fun _ _ _ _ _ _ us hl => match us, hl with | [_, _, _, _], _ => rfl) rfl rfl fun cdv A outer s H G hr hg => ?_
  have sc := sc__law_place
  have hu := hr
  show PBI _ G H (defBody st__law_place) (W__law_place)
  unfold W__law_place
  exact (b_cons (s_set sc.nd (by rfl) (by first | exact .inl rfl | exact .inr rfl) (i_if (t_cmp (op_eqA hu.r64) op2_eq (i_peek 1) i_str (by rfl)) (i_var 2) (i_op op_sub op2_sub (i_op op_sub op2_sub (i_peek 0) (i_callT call_int1 opn_int (by rfl) T.n_int Boot.«int» (a_cons (i_not (i_peek 3)) a_nil))) (i_peek 2))))
    (b_one (s_ret (i_callB (call_maxA rfl) opn_maxA (by rfl) T.n_max Boot.«max» (a_cons i_int (a_cons (i_callB (call_minA rfl) opn_minA (by rfl) T.n_min Boot.«min» (a_cons (i_peek 4) (a_cons (i_op op_sub op2_sub (i_peek 0) (i_callT call_int1 opn_int (by rfl) T.n_int Boot.«int» (a_cons (i_not (i_peek 3)) a_nil))) a_nil))) a_nil))))))
/-! ### _law_bag -/
abbrev st__law_bag : Stmt := top 7
theorem sc__law_bag : FnScope ["_law_script", "_law_cell"] ["_law_script"] (defScope st__law_bag) := ⟨rfl, rfl, rfl, by decide +kernel, rfl, by decide +kernel, by decide +kernel⟩
def W__law_bag : WS :=
  (sRetBag (wLst (wCons (wC (.int 0)) (wCons (wC (.int 1234567891)) (wCons (wC (.int 0)) (wCons (wF (wLc (wSeqI (wF (wSlScr (wP 0) wNoP (wSomeP (wC (.int 63)))))) (gN 1) tYes' (wN oAbs (wCons (wP 1) wNil)) [1])) wNil))))))
abbrev R__law_bag : WF := wDef 1 1 (W__law_bag)
theorem fn__law_bag {k : Nat} {f : Addr} {fd : FuncData} (Fu : Fun K "_law_bag" "_law_bag" st__law_bag f fd) (T : Txt K w mg) : FnG P w K mg base (k + 1) f (R__law_bag) := by
  refine fnG_of (N := ["_law_script", "_law_cell"]) Fu sc__law_bag (Fu.binds (ps := ["_law_script"]) fun _ _ _ _ _ _ us hl => match us, hl with | [_], _ => rfl) rfl rfl fun cdv A outer s H G hr hg => ?_
  have sc := sc__law_bag
  have hu := hr
  show PBI _ G H (defBody st__law_bag) (W__law_bag)
  unfold W__law_bag
  exact (b_one (s_retBag (i_lst (a_cons i_int (a_cons i_int (a_cons i_int (a_cons (i_fz (i_lc rfl sc.nd (own := [("_law_cell", 1)]) (p_seq (i_fz (i_sliceScr (i_peek 0) o_none (o_some i_int)))) (blkOk_by (by kernel_rfl)) (fun _ _ _ _ _ => (g_name sc.nd (by rfl) (by first | exact .inl rfl | exact .inr rfl) (by decide))) (fun _ _ _ _ _ => ts_nil) (fun _ _ _ _ _ => (i_callB call_abs opn_abs (by rfl) T.n_abs Boot.«abs» (a_cons (i_peek 1) a_nil))))) a_nil)))))))
/-! ### law -/
abbrev st_law : Stmt := top 13
theorem sc_law : FnScope ["_law_script", "_law_bag_here", "_law_turn", "_law_size", "_law_start", "_law_counted", "_law_is_add", "_law_box", "_law_k", "_law_spots", "_law_some"] ["_law_script"] (defScope st_law) := ⟨rfl, rfl, rfl, by decide +kernel, rfl, by decide +kernel, by decide +kernel⟩
def W_law_t0 (F__law_alike : WF) (F_place_in : WF) (F__law_box_right : WF) (F__law_one : WF) (F__law_place : WF) (F__law_take : WF) (F__law_bag : WF) : WS :=
  (sSeq (sSet 7 (wLc (wRng1 (wCons (wP 3) wNil)) (gN 8) tYes' (wF (wCall F__law_one (wCons (wV 1) (wCons (wF (wLst (wCons (wC (.int 0)) (wCons (wC (.int 1)) (wCons (wC (.int 7)) (wCons (wC (.str "w")) (wCons (wC (.str "zz")) (wCons (w1 oNeg (wC (.int 4))) (wCons (w2 oPow (wC (.int 10)) (wC (.int 39))) wNil))))))))) wNil)))) [8]))
    (sSeq (sSet 9 (wLst (wCons (wF (wCall F__law_place (wCons (wV 3) (wCons (wV 4) (wCons (wV 5) (wCons (wC (.bl false)) wNil)))))) (wCons (wF (wCall F__law_place (wCons (wV 3) (wCons (wV 4) (wCons (wV 5) (wCons (wC (.bl true)) wNil)))))) wNil))))
    (sIf (tNot' (wTr (wCall F__law_box_right (wCons (wV 7) (wCons (w2 oIx (wP 9) (wC (.int 0))) (wCons (w2 oIx (wP 9) (wC (.int 1))) (wCons (wF (wCall F__law_one (wCons (wV 1) (wCons (wF (wLst (wCons (wC (.int 5)) (wCons (wC (.str "v")) (wCons (wC (.int 0)) wNil))))) wNil)))) wNil))))))) (sRet (wC (.bl false))) sSkip)))
def W_law_t1 (F__law_alike : WF) (F_place_in : WF) (F__law_box_right : WF) (F__law_one : WF) (F__law_place : WF) (F__law_take : WF) (F__law_bag : WF) : WS :=
  (sSeq (sSet 10 (wLst (wCons (wF (wCall F_place_in (wCons (wC (.int 0)) (wCons (wC (.str "end")) (wCons (wC (.int 0)) (wCons (wC (.bl true)) wNil)))))) (wCons (wF (wCall F_place_in (wCons (wC (.int 0)) (wCons (wC (.str "begin")) (wCons (wC (.int 4)) (wCons (wC (.bl false)) wNil)))))) (wCons (wF (wCall F_place_in (wCons (wC (.int 3)) (wCons (wC (.str "end")) (wCons (wC (.int 0)) (wCons (wC (.bl true)) wNil)))))) (wCons (wF (wCall F_place_in (wCons (wC (.int 3)) (wCons (wC (.str "end")) (wCons (wC (.int 5)) (wCons (wC (.bl false)) wNil)))))) wNil))))))
    (sRet (wCallB F__law_alike (wCons (wP 10) (wCons (wLst (wCons (wC (.int 0)) (wCons (wC (.int 0)) (wCons (wC (.int 3)) (wCons (wC (.int 0)) wNil))))) wNil)))))
def W_law (F__law_alike : WF) (F_place_in : WF) (F__law_box_right : WF) (F__law_one : WF) (F__law_place : WF) (F__law_take : WF) (F__law_bag : WF) : WS :=
  (sSeq (sSet 1 (wCall F__law_bag (wCons (wV 0) wNil)))
    (sSeq (sFor (wRng1 (wCons (wC (.int 12)) wNil)) (gN 2)
    (sSeq (sPar 3 4 (wCons (wCall F__law_take (wCons (wV 1) (wCons (wC (.int 9)) wNil))) (wCons (wCall F__law_one (wCons (wV 1) (wCons (wF (wLst (wCons (wC (.str "begin")) (wCons (wC (.str "end")) wNil)))) wNil))) wNil)))
    (sSeq (sSet 5 (wCall F__law_one (wCons (wV 1) (wCons (wF (wLst (wCons (wC (.int 0)) (wCons (wC (.int 0)) (wCons (wC (.int 1)) (wCons (wC (.int 2)) (wCons (wC (.int 3)) (wCons (w2 oSub (wP 3) (wC (.int 1))) (wCons (wV 3) (wCons (wF (w2 oAdd (wP 3) (wC (.int 1)))) (wCons (w1 oNeg (wC (.int 1))) (wCons (w1 oNeg (wC (.int 3))) (wCons (w2 oPow (wC (.int 10)) (wC (.int 20))) (wCons (wF (wCall F__law_take (wCons (wV 1) (wCons (wC (.int 9)) wNil)))) wNil)))))))))))))) wNil))))
    (sSeq (sFor (wSeqI (wTup (wCons (wC (.bl false)) (wCons (wC (.bl true)) wNil)))) (gN 6)
    (sIf (tNot' (wTr (wCallB F__law_alike (wCons (wCall F_place_in (wCons (wV 3) (wCons (wV 4) (wCons (wV 5) (wCons (wV 6) wNil))))) (wCons (wCall F__law_place (wCons (wV 3) (wCons (wV 4) (wCons (wV 5) (wCons (wV 6) wNil))))) wNil))))) (sRet (wC (.bl false))) sSkip))
    (W_law_t0 F__law_alike F_place_in F__law_box_right F__law_one F__law_place F__law_take F__law_bag)))))
    (W_law_t1 F__law_alike F_place_in F__law_box_right F__law_one F__law_place F__law_take F__law_bag)))
abbrev R_law (F__law_alike : WF) (F_place_in : WF) (F__law_box_right : WF) (F__law_one : WF) (F__law_place : WF) (F__law_take : WF) (F__law_bag : WF) : WF := wDef 1 10 (W_law F__law_alike F_place_in F__law_box_right F__law_one F__law_place F__law_take F__law_bag)
theorem fn_law {k : Nat} {f : Addr} {fd : FuncData} (Fu : Fun K "law" "law" st_law f fd) (T : Txt K w mg) {F__law_alike : WF} {f__law_alike : Addr} (H__law_alike : AtB P w K mg base k "_law_alike" f__law_alike F__law_alike) {F_place_in : WF} {f_place_in : Addr} (H_place_in : At P w K mg base k "place_in" f_place_in F_place_in) {F__law_box_right : WF} {f__law_box_right : Addr} (H__law_box_right : At P w K mg base k "_law_box_right" f__law_box_right F__law_box_right) {F__law_one : WF} {f__law_one : Addr} (H__law_one : At P w K mg base k "_law_one" f__law_one F__law_one) {F__law_place : WF} {f__law_place : Addr} (H__law_place : At P w K mg base k "_law_place" f__law_place F__law_place) {F__law_take : WF} {f__law_take : Addr} (H__law_take : At P w K mg base k "_law_take" f__law_take F__law_take) {F__law_bag : WF} {f__law_bag : Addr} (H__law_bag : At P w K mg base k "_law_bag" f__law_bag F__law_bag) : FnG P w K mg base (k + 1) f (R_law F__law_alike F_place_in F__law_box_right F__law_one F__law_place F__law_take F__law_bag) := by
  refine fnG_of (N := ["_law_script", "_law_bag_here", "_law_turn", "_law_size", "_law_start", "_law_counted", "_law_is_add", "_law_box", "_law_k", "_law_spots", "_law_some"]) Fu sc_law (Fu.binds (ps := ["_law_script"]) fun _ _ _ _ _ _ us hl => match us, hl with | [_], _ => rfl) rfl rfl fun cdv A outer s H G hr hg => ?_
  have sc := sc_law
  have hu := hr
  show PBI _ G H (defBody st_law) (W_law F__law_alike F_place_in F__law_box_right F__law_one F__law_place F__law_take F__law_bag)
  unfold W_law
  exact (b_cons (s_set sc.nd (by rfl) (by first | exact .inl rfl | exact .inr rfl) (i_call H__law_bag.1 hr hg (by rfl) H__law_bag.2.1 H__law_bag.2.2 (a_cons (i_var 0) a_nil)))
    (b_cons (s_for (vs := [2]) PassesOwn.never rfl (p_rng1 (by rfl) T.n_range (a_cons i_int a_nil)) (g_name sc.nd (by rfl) (by first | exact .inl rfl | exact .inr rfl) (by decide))
    (b_cons (s_par rfl sc.nd (by rfl) (by rfl) (by decide) (by rfl) (by rfl) (a_cons (i_call H__law_take.1 hr hg (by rfl) H__law_take.2.1 H__law_take.2.2 (a_cons (i_var 1) (a_cons i_int a_nil))) (a_cons (i_call H__law_one.1 hr hg (by rfl) H__law_one.2.1 H__law_one.2.2 (a_cons (i_var 1) (a_cons (i_fz (i_lst (a_cons i_str (a_cons i_str a_nil)))) a_nil))) a_nil)) (by rfl))
    (b_cons (s_set sc.nd (by rfl) (by first | exact .inl rfl | exact .inr rfl) (i_call H__law_one.1 hr hg (by rfl) H__law_one.2.1 H__law_one.2.2 (a_cons (i_var 1) (a_cons (i_fz (i_lst (a_cons i_int (a_cons i_int (a_cons i_int (a_cons i_int (a_cons i_int (a_cons (i_op op_sub op2_sub (i_peek 3) i_int) (a_cons (i_var 3) (a_cons (i_fz (i_op op_addA op2_add (i_peek 3) i_int)) (a_cons (i_un un_neg op1_neg i_int) (a_cons (i_un un_neg op1_neg i_int) (a_cons (i_op op_pow op2_pow i_int i_int) (a_cons (i_fz (i_call H__law_take.1 hr hg (by rfl) H__law_take.2.1 H__law_take.2.2 (a_cons (i_var 1) (a_cons i_int a_nil)))) a_nil)))))))))))))) a_nil))))
    (b_cons (s_for (vs := [6]) PassesOwn.never rfl (p_seq (i_tup (a_cons i_bl (a_cons i_bl a_nil)))) (g_name sc.nd (by rfl) (by first | exact .inl rfl | exact .inr rfl) (by decide))
    (b_one (s_if (t_not (t_tru (i_callBo H__law_alike.1 hr hg (by rfl) H__law_alike.2.1 H__law_alike.2.2 (a_cons (i_call H_place_in.1 hr hg (by rfl) H_place_in.2.1 H_place_in.2.2 (a_cons (i_var 3) (a_cons (i_var 4) (a_cons (i_var 5) (a_cons (i_var 6) a_nil))))) (a_cons (i_call H__law_place.1 hr hg (by rfl) H__law_place.2.1 H__law_place.2.2 (a_cons (i_var 3) (a_cons (i_var 4) (a_cons (i_var 5) (a_cons (i_var 6) a_nil))))) a_nil))))) (b_one (s_ret i_bl)) b_nil)))
    (b_cons (s_setLc rfl sc.nd (by rfl) (by rfl) (by rfl) (own := [("_law_k", 8)]) (p_rng1 (by rfl) T.n_range (a_cons (i_peek 3) a_nil)) (blkOk_by (by kernel_rfl)) (fun _ _ _ _ _ => (g_name sc.nd (by rfl) (by first | exact .inl rfl | exact .inr rfl) (by decide))) (fun _ _ _ _ _ => ts_nil) (fun _ _ _ _ _ => (i_fz (i_call H__law_one.1 hr hg (by rfl) H__law_one.2.1 H__law_one.2.2 (a_cons (i_var 1) (a_cons (i_fz (i_lst (a_cons i_int (a_cons i_int (a_cons i_int (a_cons i_str (a_cons i_str (a_cons (i_un un_neg op1_neg i_int) (a_cons (i_op op_pow op2_pow i_int i_int) a_nil))))))))) a_nil))))))
    (b_cons (s_set sc.nd (by rfl) (by first | exact .inl rfl | exact .inr rfl) (i_lst (a_cons (i_fz (i_call H__law_place.1 hr hg (by rfl) H__law_place.2.1 H__law_place.2.2 (a_cons (i_var 3) (a_cons (i_var 4) (a_cons (i_var 5) (a_cons i_bl a_nil)))))) (a_cons (i_fz (i_call H__law_place.1 hr hg (by rfl) H__law_place.2.1 H__law_place.2.2 (a_cons (i_var 3) (a_cons (i_var 4) (a_cons (i_var 5) (a_cons i_bl a_nil)))))) a_nil))))
    (b_one (s_if (t_not (t_tru (i_call H__law_box_right.1 hr hg (by rfl) H__law_box_right.2.1 H__law_box_right.2.2 (a_cons (i_var 7) (a_cons (i_ix ix_seq op2_ix (i_peek 9) i_int (by intro _ _; rfl)) (a_cons (i_ix ix_seq op2_ix (i_peek 9) i_int (by intro _ _; rfl)) (a_cons (i_fz (i_call H__law_one.1 hr hg (by rfl) H__law_one.2.1 H__law_one.2.2 (a_cons (i_var 1) (a_cons (i_fz (i_lst (a_cons i_int (a_cons i_str (a_cons i_int a_nil))))) a_nil)))) a_nil))))))) (b_one (s_ret i_bl)) b_nil))))))))
    (b_cons (s_set sc.nd (by rfl) (by first | exact .inl rfl | exact .inr rfl) (i_lst (a_cons (i_fz (i_call H_place_in.1 hr hg (by rfl) H_place_in.2.1 H_place_in.2.2 (a_cons i_int (a_cons i_str (a_cons i_int (a_cons i_bl a_nil)))))) (a_cons (i_fz (i_call H_place_in.1 hr hg (by rfl) H_place_in.2.1 H_place_in.2.2 (a_cons i_int (a_cons i_str (a_cons i_int (a_cons i_bl a_nil)))))) (a_cons (i_fz (i_call H_place_in.1 hr hg (by rfl) H_place_in.2.1 H_place_in.2.2 (a_cons i_int (a_cons i_str (a_cons i_int (a_cons i_bl a_nil)))))) (a_cons (i_fz (i_call H_place_in.1 hr hg (by rfl) H_place_in.2.1 H_place_in.2.2 (a_cons i_int (a_cons i_str (a_cons i_int (a_cons i_bl a_nil)))))) a_nil))))))
    (b_one (s_ret (i_callBo H__law_alike.1 hr hg (by rfl) H__law_alike.2.1 H__law_alike.2.2 (a_cons (i_peek 10) (a_cons (i_lst (a_cons i_int (a_cons i_int (a_cons i_int (a_cons i_int a_nil))))) a_nil))))))))
end
/-! ### the joint -/
abbrev F__law_alike : WF := R__law_alike
abbrev F_place_in : WF := R_place_in
abbrev F_changed : WF := R_changed
abbrev F_dropped : WF := R_dropped
abbrev F_added : WF := R_added
abbrev F_looked : WF := R_looked
abbrev F__law_box_right : WF := R__law_box_right F_changed F_dropped F_added F_looked F__law_alike
abbrev F__law_take : WF := R__law_take
abbrev F__law_one : WF := R__law_one F__law_take
abbrev F__law_place : WF := R__law_place
abbrev F__law_bag : WF := R__law_bag
abbrev F_law : WF := R_law F__law_alike F_place_in F__law_box_right F__law_one F__law_place F__law_take F__law_bag
theorem at_monoB {P : Program} {w : World} {K : PySem.W.Frag} {mg : Str → Option Value} {base : Heap} {j k : Nat} {x : Str} {f : Addr} {wf : WF} (h : AtB P w K mg base j x f wf) (hjk : j ≤ k) : AtB P w K mg base k x f wf := ⟨h.1.mono hjk, h.2⟩
theorem at_mono {P : Program} {w : World} {K : PySem.W.Frag} {mg : Str → Option Value} {base : Heap} {j k : Nat} {x : Str} {f : Addr} {wf : WF} (h : At P w K mg base j x f wf) (hjk : j ≤ k) : At P w K mg base k x f wf := ⟨h.1.mono hjk, h.2⟩
theorem at_monoM {P : Program} {w : World} {K : PySem.W.Frag} {mg : Str → Option Value} {base : Heap} {j k : Nat} {c fl x : Str} {f : Addr} {wf : WF} (h : AtM P w K mg base j c fl x f wf) (hjk : j ≤ k) : AtM P w K mg base k c fl x f wf := ⟨h.1.mono hjk, h.2⟩
theorem at_monoI {P : Program} {w : World} {K : PySem.W.Frag} {mg : Str → Option Value} {base : Heap} {j k : Nat} {c fl : Str} {wf : WFI} (h : AtI P w K mg base j c fl wf) (hjk : j ≤ k) : AtI P w K mg base k c fl wf := let ⟨a, b, d, e, h1, h2, h3, h4, h5⟩ := h; ⟨a, b, d, e, h1, h2, h3, h4, Nat.le_trans h5 hjk⟩
theorem all_fn {P : Program} {w : World} {K : PySem.W.Frag} {h : Heap} {mg : Str → Option Value} {fa : Addr} (X : K.In h) (G : h.Ns mainGlobals mg) (hfa : mg "law" = some (.ref fa))
    {f0 : Addr} {od0 an0 : Option Addr} {sl0 : Array (Option Value)} {oc0 kV0 dc0 pm0 cd0 ct0 : Value}
    (a0 : PySem.W.nsIn K mainGlobals "_law_alike" = some (some (.ref f0))) (l0 : K.lookup f0 = some ⟨oc0, od0, .func (PySem.W.fnOf "_law_alike" "_law_alike" (defArgs st__law_alike) (defBody st__law_alike) (defScope st__law_alike) .none kV0 dc0 pm0 an0 cd0 ct0), sl0⟩) (c0 : PySem.W.codeIn K cd0 "_law_alike" = true) (k0 : PySem.W.keepIn K (.ref f0) = true)
    {f1 : Addr} {od1 an1 : Option Addr} {sl1 : Array (Option Value)} {oc1 kV1 dc1 pm1 cd1 ct1 : Value}
    (a1 : PySem.W.nsIn K mainGlobals "place_in" = some (some (.ref f1))) (l1 : K.lookup f1 = some ⟨oc1, od1, .func (PySem.W.fnOf "place_in" "place_in" (defArgs st_place_in) (defBody st_place_in) (defScope st_place_in) .none kV1 dc1 pm1 an1 cd1 ct1), sl1⟩) (c1 : PySem.W.codeIn K cd1 "place_in" = true) (k1 : PySem.W.keepIn K (.ref f1) = true)
    {f2 : Addr} {od2 an2 : Option Addr} {sl2 : Array (Option Value)} {oc2 kV2 dc2 pm2 cd2 ct2 : Value}
    (a2 : PySem.W.nsIn K mainGlobals "changed" = some (some (.ref f2))) (l2 : K.lookup f2 = some ⟨oc2, od2, .func (PySem.W.fnOf "changed" "changed" (defArgs st_changed) (defBody st_changed) (defScope st_changed) .none kV2 dc2 pm2 an2 cd2 ct2), sl2⟩) (c2 : PySem.W.codeIn K cd2 "changed" = true) (k2 : PySem.W.keepIn K (.ref f2) = true)
    {f3 : Addr} {od3 an3 : Option Addr} {sl3 : Array (Option Value)} {oc3 kV3 dc3 pm3 cd3 ct3 : Value}
    (a3 : PySem.W.nsIn K mainGlobals "dropped" = some (some (.ref f3))) (l3 : K.lookup f3 = some ⟨oc3, od3, .func (PySem.W.fnOf "dropped" "dropped" (defArgs st_dropped) (defBody st_dropped) (defScope st_dropped) .none kV3 dc3 pm3 an3 cd3 ct3), sl3⟩) (c3 : PySem.W.codeIn K cd3 "dropped" = true) (k3 : PySem.W.keepIn K (.ref f3) = true)
    {f4 : Addr} {od4 an4 : Option Addr} {sl4 : Array (Option Value)} {oc4 kV4 dc4 pm4 cd4 ct4 : Value}
    (a4 : PySem.W.nsIn K mainGlobals "added" = some (some (.ref f4))) (l4 : K.lookup f4 = some ⟨oc4, od4, .func (PySem.W.fnOf "added" "added" (defArgs st_added) (defBody st_added) (defScope st_added) .none kV4 dc4 pm4 an4 cd4 ct4), sl4⟩) (c4 : PySem.W.codeIn K cd4 "added" = true) (k4 : PySem.W.keepIn K (.ref f4) = true)
    {f5 : Addr} {od5 an5 : Option Addr} {sl5 : Array (Option Value)} {oc5 kV5 dc5 pm5 cd5 ct5 : Value}
    (a5 : PySem.W.nsIn K mainGlobals "looked" = some (some (.ref f5))) (l5 : K.lookup f5 = some ⟨oc5, od5, .func (PySem.W.fnOf "looked" "looked" (defArgs st_looked) (defBody st_looked) (defScope st_looked) .none kV5 dc5 pm5 an5 cd5 ct5), sl5⟩) (c5 : PySem.W.codeIn K cd5 "looked" = true) (k5 : PySem.W.keepIn K (.ref f5) = true)
    {f6 : Addr} {od6 an6 : Option Addr} {sl6 : Array (Option Value)} {oc6 kV6 dc6 pm6 cd6 ct6 : Value}
    (a6 : PySem.W.nsIn K mainGlobals "_law_box_right" = some (some (.ref f6))) (l6 : K.lookup f6 = some ⟨oc6, od6, .func (PySem.W.fnOf "_law_box_right" "_law_box_right" (defArgs st__law_box_right) (defBody st__law_box_right) (defScope st__law_box_right) .none kV6 dc6 pm6 an6 cd6 ct6), sl6⟩) (c6 : PySem.W.codeIn K cd6 "_law_box_right" = true) (k6 : PySem.W.keepIn K (.ref f6) = true)
    {f7 : Addr} {od7 an7 : Option Addr} {sl7 : Array (Option Value)} {oc7 kV7 dc7 pm7 cd7 ct7 : Value}
    (a7 : PySem.W.nsIn K mainGlobals "_law_take" = some (some (.ref f7))) (l7 : K.lookup f7 = some ⟨oc7, od7, .func (PySem.W.fnOf "_law_take" "_law_take" (defArgs st__law_take) (defBody st__law_take) (defScope st__law_take) .none kV7 dc7 pm7 an7 cd7 ct7), sl7⟩) (c7 : PySem.W.codeIn K cd7 "_law_take" = true) (k7 : PySem.W.keepIn K (.ref f7) = true)
    {f8 : Addr} {od8 an8 : Option Addr} {sl8 : Array (Option Value)} {oc8 kV8 dc8 pm8 cd8 ct8 : Value}
    (a8 : PySem.W.nsIn K mainGlobals "_law_one" = some (some (.ref f8))) (l8 : K.lookup f8 = some ⟨oc8, od8, .func (PySem.W.fnOf "_law_one" "_law_one" (defArgs st__law_one) (defBody st__law_one) (defScope st__law_one) .none kV8 dc8 pm8 an8 cd8 ct8), sl8⟩) (c8 : PySem.W.codeIn K cd8 "_law_one" = true) (k8 : PySem.W.keepIn K (.ref f8) = true)
    {f9 : Addr} {od9 an9 : Option Addr} {sl9 : Array (Option Value)} {oc9 kV9 dc9 pm9 cd9 ct9 : Value}
    (a9 : PySem.W.nsIn K mainGlobals "_law_place" = some (some (.ref f9))) (l9 : K.lookup f9 = some ⟨oc9, od9, .func (PySem.W.fnOf "_law_place" "_law_place" (defArgs st__law_place) (defBody st__law_place) (defScope st__law_place) .none kV9 dc9 pm9 an9 cd9 ct9), sl9⟩) (c9 : PySem.W.codeIn K cd9 "_law_place" = true) (k9 : PySem.W.keepIn K (.ref f9) = true)
    {f10 : Addr} {od10 an10 : Option Addr} {sl10 : Array (Option Value)} {oc10 kV10 dc10 pm10 cd10 ct10 : Value}
    (a10 : PySem.W.nsIn K mainGlobals "_law_bag" = some (some (.ref f10))) (l10 : K.lookup f10 = some ⟨oc10, od10, .func (PySem.W.fnOf "_law_bag" "_law_bag" (defArgs st__law_bag) (defBody st__law_bag) (defScope st__law_bag) .none kV10 dc10 pm10 an10 cd10 ct10), sl10⟩) (c10 : PySem.W.codeIn K cd10 "_law_bag" = true) (k10 : PySem.W.keepIn K (.ref f10) = true)
    {f11 : Addr} {od11 an11 : Option Addr} {sl11 : Array (Option Value)} {oc11 kV11 dc11 pm11 cd11 ct11 : Value}
    (a11 : PySem.W.nsIn K mainGlobals "law" = some (some (.ref f11))) (l11 : K.lookup f11 = some ⟨oc11, od11, .func (PySem.W.fnOf "law" "law" (defArgs st_law) (defBody st_law) (defScope st_law) .none kV11 dc11 pm11 an11 cd11 ct11), sl11⟩) (c11 : PySem.W.codeIn K cd11 "law" = true) (k11 : PySem.W.keepIn K (.ref f11) = true)
    (z_abs : PySem.W.nsIn K mainGlobals "abs" = some none)
    (z_int : PySem.W.nsIn K mainGlobals "int" = some none)
    (z_len : PySem.W.nsIn K mainGlobals "len" = some none)
    (z_max : PySem.W.nsIn K mainGlobals "max" = some none)
    (z_min : PySem.W.nsIn K mainGlobals "min" = some none)
    (z_range : PySem.W.nsIn K mainGlobals "range" = some none)
    (z_repr : PySem.W.nsIn K mainGlobals "repr" = some none)
    : ∀ base : Heap, K.In base → base.Ns mainGlobals mg → FnG P w K mg base 3 fa F_law := by
  have T : Txt K w mg := ⟨PySem.W.mg_none_of X G z_abs, PySem.W.mg_none_of X G z_int, PySem.W.mg_none_of X G z_len, PySem.W.mg_none_of X G z_max, PySem.W.mg_none_of X G z_min, PySem.W.mg_none_of X G z_range, PySem.W.mg_none_of X G z_repr⟩
  intro base _ _
  have H__law_alike : AtB P w K mg base (1) "_law_alike" f0 F__law_alike := ⟨fn__law_alike (k := 0) (fun_mk (st := st__law_alike) l0 c0 k0) T , PySem.W.mg_of X G a0, k0⟩
  have H_place_in : At P w K mg base (1) "place_in" f1 F_place_in := ⟨fn_place_in (k := 0) (fun_mk (st := st_place_in) l1 c1 k1) T , PySem.W.mg_of X G a1, k1⟩
  have H_changed : At P w K mg base (1) "changed" f2 F_changed := ⟨fn_changed (k := 0) (fun_mk (st := st_changed) l2 c2 k2) T , PySem.W.mg_of X G a2, k2⟩
  have H_dropped : At P w K mg base (1) "dropped" f3 F_dropped := ⟨fn_dropped (k := 0) (fun_mk (st := st_dropped) l3 c3 k3) T , PySem.W.mg_of X G a3, k3⟩
  have H_added : At P w K mg base (1) "added" f4 F_added := ⟨fn_added (k := 0) (fun_mk (st := st_added) l4 c4 k4) T , PySem.W.mg_of X G a4, k4⟩
  have H_looked : At P w K mg base (1) "looked" f5 F_looked := ⟨fn_looked (k := 0) (fun_mk (st := st_looked) l5 c5 k5) T , PySem.W.mg_of X G a5, k5⟩
  have H__law_box_right : At P w K mg base (2) "_law_box_right" f6 F__law_box_right := ⟨fn__law_box_right (k := 1) (fun_mk (st := st__law_box_right) l6 c6 k6) T (at_mono H_changed (by decide)) (at_mono H_dropped (by decide)) (at_mono H_added (by decide)) (at_mono H_looked (by decide)) (at_monoB H__law_alike (by decide)), PySem.W.mg_of X G a6, k6⟩
  have H__law_take : At P w K mg base (1) "_law_take" f7 F__law_take := ⟨fn__law_take (k := 0) (fun_mk (st := st__law_take) l7 c7 k7) T , PySem.W.mg_of X G a7, k7⟩
  have H__law_one : At P w K mg base (2) "_law_one" f8 F__law_one := ⟨fn__law_one (k := 1) (fun_mk (st := st__law_one) l8 c8 k8) T (at_mono H__law_take (by decide)), PySem.W.mg_of X G a8, k8⟩
  have H__law_place : At P w K mg base (1) "_law_place" f9 F__law_place := ⟨fn__law_place (k := 0) (fun_mk (st := st__law_place) l9 c9 k9) T , PySem.W.mg_of X G a9, k9⟩
  have H__law_bag : At P w K mg base (1) "_law_bag" f10 F__law_bag := ⟨fn__law_bag (k := 0) (fun_mk (st := st__law_bag) l10 c10 k10) T , PySem.W.mg_of X G a10, k10⟩
  have H_law : At P w K mg base (3) "law" f11 F_law := ⟨fn_law (k := 2) (fun_mk (st := st_law) l11 c11 k11) T (at_monoB H__law_alike (by decide)) (at_mono H_place_in (by decide)) (at_mono H__law_box_right (by decide)) (at_mono H__law_one (by decide)) (at_mono H__law_place (by decide)) (at_mono H__law_take (by decide)) (at_mono H__law_bag (by decide)), PySem.W.mg_of X G a11, k11⟩
  have e := hfa.symm.trans H_law.2.1
  cases e
  exact H_law.1
end Lw
set_option maxHeartbeats 200000
namespace Lw
open Tv L2 PySem
local macro_rules
  | `(tactic| and_intros) => `(tactic| repeat (first
    | with_reducible refine e_c ?_
    | with_reducible refine e_cons ?_
    | with_reducible refine e_nil ?_
    | with_reducible refine e_f ?_
    | with_reducible refine e_fzf ?_
    | with_reducible refine e_fzo ?_
    | with_reducible refine e_1 ?_
    | with_reducible refine e_2 ?_
    | with_reducible refine e_tup ?_
    | with_reducible refine e_lst ?_
    | with_reducible refine e_n ?_
    | with_reducible refine e_n1 ?_
    | with_reducible refine e_n2 ?_
    | with_reducible refine e_call ?_
    | with_reducible refine e_m ?_
    | with_reducible refine e_mm1 ?_
    | with_reducible refine e_if ?_
    | with_reducible refine e_orT ?_
    | with_reducible refine e_andT ?_
    | with_reducible refine e_noP ?_
    | with_reducible refine e_som ?_
    | with_reducible refine e_sl ?_
    | with_reducible refine e_b ?_
    | with_reducible refine e_tr ?_
    | with_reducible refine e_and ?_
    | with_reducible refine e_or ?_
    | with_reducible refine e_not ?_
    | with_reducible refine e_yes ?_
    | with_reducible refine e_it ?_
    | with_reducible refine e_if0 ?_
    | with_reducible refine e_itn ?_
    | with_reducible refine e_ifn ?_
    | with_reducible refine e_skip ?_
    | with_reducible refine e_seq ?_
    | with_reducible refine e_brk ?_
    | with_reducible refine e_cont ?_
    | with_reducible refine e_drop ?_
    | with_reducible refine e_set ?_
    | with_reducible refine e_par ?_
    | with_reducible refine e_par3 ?_
    | with_reducible refine e_lc2 ?_
    | with_reducible refine e_keys ?_
    | with_reducible refine e_newL ?_
    | with_reducible refine e_kix ?_
    | with_reducible refine e_kin ?_
    | with_reducible refine e_lrg ?_
    | with_reducible refine e_rev ?_
    | with_reducible refine e_revA ?_
    | with_reducible refine e_dix ?_
    | with_reducible refine e_callB ?_
    | with_reducible refine e_callBW1 ?_
    | with_reducible refine e_callBW2 ?_
    | with_reducible refine e_callBW3 ?_
    | with_reducible refine e_zipB ?_
    | with_reducible refine e_zipS ?_
    | with_reducible refine e_zipSW ?_
    | with_reducible refine e_dct ?_
    | with_reducible refine e_isi ?_
    | with_reducible refine e_dset ?_
    | with_reducible refine e_chain ?_
    | with_reducible refine e_at ?_
    | with_reducible refine e_meth ?_
    | with_reducible refine e_methW ?_
    | with_reducible refine e_dnew ?_
    | with_reducible refine e_dictP ?_
    | with_reducible refine e_dictD ?_
    | with_reducible refine e_items ?_
    | with_reducible refine e_itemsW ?_
    | with_reducible refine e_keysD ?_
    | with_reducible refine e_keysW ?_
    | with_reducible refine e_get2 ?_
    | with_reducible refine e_isi2 ?_
    | with_reducible refine e_sortD ?_
    | with_reducible refine e_dc ?_
    | with_reducible refine e_bagPar ?_
    | with_reducible refine e_lenSet ?_
    | with_reducible refine e_sortSet ?_
    | with_reducible refine e_maxS ?_
    | with_reducible refine e_minS ?_
    | with_reducible refine e_maxI ?_
    | with_reducible refine e_minI ?_
    | with_reducible refine e_unp ?_
    | with_reducible refine e_unpW ?_
    | with_reducible refine e_gNl ?_
    | with_reducible refine e_gCs ?_
    | with_reducible refine e_chk ?_
    | with_reducible refine e_wNot ?_
    | ((with_reducible apply e_notW); rfl)
    | with_reducible refine e_star ?_
    | ((with_reducible apply e_starW); rfl)
    | with_reducible refine e_sif ?_
    | with_reducible refine e_ret ?_
    | with_reducible refine e_retF ?_
    | with_reducible refine e_retO ?_
    | with_reducible refine e_retN ?_
    | with_reducible refine e_for ?_
    | with_reducible refine e_lc ?_
    | with_reducible refine e_seqI ?_
    | with_reducible refine e_seqL ?_
    | with_reducible refine e_seqT ?_
    | with_reducible refine e_rng ?_
    | with_reducible refine e_rng2 ?_
    | with_reducible refine e_strI ?_
    | with_reducible refine e_en ?_
    | with_reducible refine e_enW ?_
    | with_reducible refine e_enS ?_
    | with_reducible refine e_zip ?_
    | with_reducible refine e_zipW ?_
    | with_reducible refine e_addI ?_
    | with_reducible refine e_int0 ?_
    | with_reducible refine e_neg ?_
    | with_reducible refine e_ltI ?_
    | with_reducible refine e_ltS ?_
    | with_reducible refine e_leI ?_
    | with_reducible refine e_leS ?_
    | with_reducible refine e_gtI ?_
    | with_reducible refine e_gtS ?_
    | with_reducible refine e_geI ?_
    | with_reducible refine e_geS ?_
    | with_reducible refine e_eqI ?_
    | with_reducible refine e_eqS ?_
    | with_reducible refine e_eqB ?_
    | with_reducible refine e_neI ?_
    | with_reducible refine e_neS ?_
    | with_reducible refine e_neB ?_
    | with_reducible refine e_slL ?_
    | with_reducible refine e_slT ?_
    | with_reducible refine e_lenL ?_
    | with_reducible refine e_lenT ?_
    | with_reducible refine e_intI ?_
    | with_reducible refine e_intB ?_
    | with_reducible refine e_listL ?_
    | with_reducible refine e_listT ?_
    | with_reducible refine e_tupleL ?_
    | with_reducible refine e_tupleT ?_
    | with_reducible refine e_aAddI ?_
    | with_reducible refine e_step ?_
    | with_reducible refine e_st2 ?_
    | with_reducible refine e_nx ?_
    | with_reducible refine e_rt ?_
    | with_reducible refine e_bk ?_
    | with_reducible refine e_ct ?_
    | ((with_reducible apply e_p); rfl)
    | ((with_reducible apply e_v); rfl)
    | ((with_reducible apply e_pb); rfl)
    | ((with_reducible apply e_kixW); rfl; rfl)
    | ((with_reducible apply e_kinW0); rfl)
    | ((with_reducible apply e_kinW1); rfl)
    | ((with_reducible apply e_dixW); rfl; rfl)
    | ((with_reducible apply e_revW); rfl)
    | ((with_reducible apply e_revAL); rfl)
    | ((with_reducible apply e_revAT); rfl)
    | ((with_reducible apply e_lrgW); rfl; omega; omega)
    | ((with_reducible apply e_dctW); rfl; rfl)
    | ((with_reducible apply e_meth2); rfl)
    | ((with_reducible apply e_attW); rfl)
    | ((with_reducible apply e_isiY); rfl; decide)
    | ((with_reducible apply e_isiN); rfl; decide)
    | ((with_reducible apply e_isi2Y); rfl; decide)
    | ((with_reducible apply e_isi2N); rfl; decide)
    | ((with_reducible apply e_dictDW); rfl)
    | ((with_reducible apply e_dupd); rfl)
    | ((with_reducible apply e_bagPar0); rfl; rfl; decide; rfl; exact Int.ediv_nonneg (by omega) (by omega); dsimp only [List.set_cons_succ, List.set_cons_zero])
    | ((with_reducible apply e_pow); exact ⟨by decide, by decide, by decide⟩)
    | ((with_reducible apply e_zipBW); rfl; rfl)
    | ((with_reducible apply e_appPop); rfl)
    | ((with_reducible apply e_dix2); rfl; rfl)
    | ((with_reducible apply e_po); rfl)
    | ((with_reducible apply e_vo); rfl)
    | ((with_reducible apply e_onB); rfl)
    | ((with_reducible apply e_onTr); rfl)
    | ((with_reducible apply e_somW); rfl)
    | ((with_reducible apply e_mW); rfl)
    | ((with_reducible apply e_orW); rfl)
    | ((with_reducible apply e_andW); rfl)
    | ((with_reducible apply e_aug); rfl)
    | ((with_reducible apply e_mut); rfl)
    | ((with_reducible apply e_mut0); rfl)
    | ((with_reducible apply e_retV); rfl)
    | ((with_reducible apply e_retVo); rfl)
    | ((with_reducible apply e_strIW); rfl)
    | ((with_reducible apply e_enSW); rfl)
    | ((with_reducible apply e_callW); rfl)
    | ((with_reducible apply e_tupW); rfl; rfl)
    | ((with_reducible apply e_lstW); rfl; rfl)
    | ((with_reducible apply e_mutW); rfl; rfl)
    | ((with_reducible apply e_setF); rfl; dsimp only [List.set_cons_succ, List.set_cons_zero])
    | ((with_reducible apply e_setO); rfl; dsimp only [List.set_cons_succ, List.set_cons_zero])
    | ((with_reducible apply e_augW); rfl; dsimp only [List.set_cons_succ, List.set_cons_zero])
    | ((with_reducible apply e_gN); rfl; dsimp only [List.set_cons_succ, List.set_cons_zero])
    | ((with_reducible apply e_parW); rfl; rfl; exact trivial; exact trivial; dsimp only [List.set_cons_succ, List.set_cons_zero, R.cell])
    | ((with_reducible apply e_chW); rfl)
    | ((with_reducible apply e_par3W); rfl; rfl; rfl; exact trivial; exact trivial; exact trivial; dsimp only [List.set_cons_succ, List.set_cons_zero, R.cell])
    | ((with_reducible apply e_callL); rfl; rfl)
    | ((with_reducible apply e_gTp); rfl)
    | with_reducible refine e_bagSet ?_
    | ((with_reducible apply e_bag0); intro _ _)
    | ((with_reducible apply e_bag1); intro _ _ _)
    | ((with_reducible apply e_bag2); intro _ _)
    | ((with_reducible apply e_bagAug); rfl)
    | ((with_reducible apply e_modP); omega)
    | ((with_reducible apply e_bagSet0); rfl; (first | omega | exact Int.ediv_nonneg (by omega) (by omega)))
    | ((with_reducible apply e_bagSet1); rfl; exact ⟨emod_nn _ (by omega), emod_lt _ (by omega)⟩)
    | ((with_reducible apply e_forB); rfl; dsimp only [List.set_cons_succ, List.set_cons_zero])
    | ((with_reducible apply e_forBf); rfl)
    | ((with_reducible apply e_addS); (first | omega | decide))
    | ((with_reducible apply e_addL); (first | omega | decide | exact Nat.le_of_ble_eq_true rfl))
    | ((with_reducible apply e_addT); (first | omega | decide | exact Nat.le_of_ble_eq_true rfl))
    | ((with_reducible apply e_slS); (first | omega | decide))
    | ((with_reducible apply e_lenS); (first | omega | decide))
    | ((with_reducible apply e_aAddS); (first | omega | decide))
    | ((with_reducible apply e_app); (first | omega | decide | exact Nat.le_of_ble_eq_true rfl))
    | ((with_reducible apply e_ext); (first | omega | decide | exact Nat.le_of_ble_eq_true rfl))
    | ((with_reducible apply e_mulI); (first | exact Or.inr ⟨by decide, by decide⟩ | exact Or.inl ⟨by decide, by decide⟩ | exact Or.inl ⟨by omega, by omega⟩ | exact Or.inr ⟨by omega, by omega⟩))
    | ((with_reducible apply e_int); (first | omega | decide | exact ⟨by omega, by omega⟩ | exact trivial))
    | ((with_reducible apply e_aInt); (first | omega | decide | exact trivial | exact ⟨by omega, by omega⟩ | exact Or.inr ⟨by decide, by decide⟩ | exact Or.inl ⟨by decide, by decide⟩ | exact Or.inl ⟨by omega, by omega⟩ | exact Or.inr ⟨by omega, by omega⟩))
    | ((with_reducible apply e_mulL); (first | decide | exact ⟨by decide, by decide, Nat.le_of_ble_eq_true rfl⟩ | exact ⟨by omega, by omega, by omega⟩))
    | ((with_reducible apply e_rngW); rfl; (first | omega | decide | exact ⟨by omega, by omega⟩))
    | ((with_reducible apply e_rng2W); rfl; (first | omega | decide | exact ⟨by omega, by omega, by omega, by omega⟩))
    | ((with_reducible apply e_ixL); rfl)
    | ((with_reducible apply e_ixT); rfl)
    | ((with_reducible apply e_inL0); rfl)
    | ((with_reducible apply e_inL1); rfl)
    | ((with_reducible apply e_inT0); rfl)
    | ((with_reducible apply e_inT1); rfl)
    | ((with_reducible apply e_sum); rfl)
    | simp only [wipeE, hideE, frzC, Nat.reduceEqDiff, OfNat.ofNat_ne_ofNat, OfNat.zero_ne_ofNat, mixE, keepC, List.contains_cons, List.contains_nil, Nat.reduceBEq, Bool.or_false, Bool.or_true, Bool.false_or, Bool.true_or, reduceIte, Bool.false_eq_true, List.set_cons_succ, List.set_cons_zero, Nat.reduceAdd]
    ))
theorem sp_take : TakeF R__law_take := by
  intro n Φ h1 h2 h
  have esz := sizeLine_eq
  refine ⟨rfl, ?_⟩
  show W__law_take [.fr .bag, .fr (.int n), .no, .no, .no, .no, .no] _
  unfold W__law_take
  and_intros
  refine e_dec (fun c => ?_) (fun c => ?_)
  · and_intros
    refine e_bag3 fun ns hns => ?_
    and_intros
    rename_i k hk
    obtain ⟨l, c, hc, e⟩ := bag_head hns hk
    refine e_addL (by rw [List.length_singleton]; omega) ?_
    and_intros
    refine e_ixL e ?_
    and_intros
    have hcc : 0 ≤ c * (if decide ((10 : Int) ^ (18 : Int).toNat ≤ c) = true then 1 else 0) := by split <;> omega
    refine e_bagSet0 rfl hcc ?_
    and_intros
    refine e_dec (fun _ => ?_) (fun _ => ?_)
    all_goals and_intros
    all_goals first
      | exact h _ (emod_nn _ (by omega)) (emod_lt _ (by omega))
      | skip
  · and_intros
    refine e_dec (fun _ => ?_) (fun _ => ?_)
    all_goals and_intros
    all_goals first
      | exact h _ (emod_nn _ (by omega)) (emod_lt _ (by omega))
      | skip
theorem sp_bag : BagF R__law_bag := by
  intro Φ h
  refine ⟨rfl, ?_⟩
  simp only [W__law_bag, Tv.wDef, Tv.wDefB, Tv.wCallB, Tv.sSkip, Tv.sSeq, Tv.sBreak, Tv.sCont, Tv.sDrop, Tv.sRet, Tv.sRetN, Tv.sRetV, Tv.sIf, Tv.sNever, R.cell, R.ok, Tv.sSet, Tv.sAug, Tv.sMutF, Tv.sMut0, Tv.sPar, Tv.sUnp, Tv.gN, Tv.gNl, Tv.gCs, Tv.gTp, Tv.sFor, Tv.wSeqI, Tv.wRng1, Tv.wRng2, Tv.wStrI, Tv.wEnum, Tv.wEnumS, Tv.wZip, Tv.wC, Tv.wV, Tv.wP, Tv.wF, Tv.w1, Tv.w2, Tv.wB, Tv.tAnd', Tv.tOr', Tv.tNot', Tv.wAnd, Tv.wOr, Tv.wNot, Tv.wIf, Tv.truD, Tv.wTr, Tv.wNil, Tv.wCons, Tv.itemsD, Tv.wStar, Tv.frs', Tv.wTup, Tv.wLst, Tv.wN, Tv.wM, Tv.wCall, Tv.oAdd, Tv.oInt, Tv.oInt0, Tv.oLt, Tv.oLe, Tv.oGt, Tv.oGe, Tv.oEq_lst, Tv.oEq_tup, Tv.oEq_int, Tv.oEq_str, Tv.oEq_bl, Tv.oNe_int, Tv.oNe_str, Tv.oNe_bl, Tv.oIn, Tv.oIx, Tv.oSl, Tv.wNoP, Tv.wSomeP, Tv.wSl, Tv.oLen, Tv.oSum, Tv.oIntC, Tv.oMaxA, Tv.oMinA, Tv.sPar3, Tv.oList, Tv.oTuple, Tv.oAll, Tv.oAny, Tv.oMulA, Tv.oRepr, Tv.isTxt, Tv.oSplit, Tv.oJoin, Tv.oSIndex, Tv.owApp, Tv.owExt, Tv.owIns, Tv.aAdd, Tv.aInt, Tv.wOrT, Tv.wAndT, Tv.oBag_0, Tv.oBag_1, Tv.oBag_2, Tv.oBag_3, Tv.bagOk_0, Tv.bagOk_1, Tv.bagOk_2, Tv.sBagSet, Tv.sBagAug, Tv.sBagPick, Tv.wSlScr, Tv.wLc, Tv.stepD, Tv.oAbs, Tv.sRetBag, Tv.oNeg, Tv.tYes', R.d, List.map_cons, List.map_nil, List.replicate_succ, List.replicate_zero, List.cons_append, List.nil_append, List.append_nil, List.getElem?_cons_zero, List.getElem?_cons_succ, List.set_cons_zero, List.set_cons_succ, List.length_cons, List.length_nil, Option.map_some, Option.map_none, reduceIte, Int.reduceEq, Int.reduceLT, Int.reduceLE, Int.reduceNeg, Nat.reduceAdd, Nat.reduceLT, Nat.reduceLeDiff, Nat.reduceEqDiff, Nat.reduceSub, Nat.reduceMul, and_true, true_and, true_implies, forall_const, Bool.true_and, Bool.and_true, Option.isSome_some, Option.some.injEq, forall_eq', Cell.fr.injEq, R.fr.injEq, D.int.injEq, Bool.false_eq_true, decide_true, decide_false, Bool.not_true, Bool.not_false, Tv.mixE, Tv.wipeE, Tv.keepC, List.contains_cons, List.contains_nil, Nat.reduceBEq, Bool.or_false, Bool.or_true, Bool.false_or, Bool.true_or]
  intro ns hn
  refine lcD_of (ρ := [.fr .scr, .no]) D.int (fun i => some (.int (if i < 0 then -i else i))) _ _ (fun i hi Ψ hΨ => ?_) (by simp; omega) ?_
  · simp only [Tv.wDef, Tv.wDefB, Tv.wCallB, Tv.sSkip, Tv.sSeq, Tv.sBreak, Tv.sCont, Tv.sDrop, Tv.sRet, Tv.sRetN, Tv.sRetV, Tv.sIf, Tv.sNever, R.cell, R.ok, Tv.sSet, Tv.sAug, Tv.sMutF, Tv.sMut0, Tv.sPar, Tv.sUnp, Tv.gN, Tv.gNl, Tv.gCs, Tv.gTp, Tv.sFor, Tv.wSeqI, Tv.wRng1, Tv.wRng2, Tv.wStrI, Tv.wEnum, Tv.wEnumS, Tv.wZip, Tv.wC, Tv.wV, Tv.wP, Tv.wF, Tv.w1, Tv.w2, Tv.wB, Tv.tAnd', Tv.tOr', Tv.tNot', Tv.wAnd, Tv.wOr, Tv.wNot, Tv.wIf, Tv.truD, Tv.wTr, Tv.wNil, Tv.wCons, Tv.itemsD, Tv.wStar, Tv.frs', Tv.wTup, Tv.wLst, Tv.wN, Tv.wM, Tv.wCall, Tv.oAdd, Tv.oInt, Tv.oInt0, Tv.oLt, Tv.oLe, Tv.oGt, Tv.oGe, Tv.oEq_lst, Tv.oEq_tup, Tv.oEq_int, Tv.oEq_str, Tv.oEq_bl, Tv.oNe_int, Tv.oNe_str, Tv.oNe_bl, Tv.oIn, Tv.oIx, Tv.oSl, Tv.wNoP, Tv.wSomeP, Tv.wSl, Tv.oLen, Tv.oSum, Tv.oIntC, Tv.oMaxA, Tv.oMinA, Tv.sPar3, Tv.oList, Tv.oTuple, Tv.oAll, Tv.oAny, Tv.oMulA, Tv.oRepr, Tv.isTxt, Tv.oSplit, Tv.oJoin, Tv.oSIndex, Tv.owApp, Tv.owExt, Tv.owIns, Tv.aAdd, Tv.aInt, Tv.wOrT, Tv.wAndT, Tv.oBag_0, Tv.oBag_1, Tv.oBag_2, Tv.oBag_3, Tv.bagOk_0, Tv.bagOk_1, Tv.bagOk_2, Tv.sBagSet, Tv.sBagAug, Tv.sBagPick, Tv.wSlScr, Tv.wLc, Tv.stepD, Tv.oAbs, Tv.sRetBag, Tv.oNeg, Tv.tYes', R.d, List.map_cons, List.map_nil, List.replicate_succ, List.replicate_zero, List.cons_append, List.nil_append, List.append_nil, List.getElem?_cons_zero, List.getElem?_cons_succ, List.set_cons_zero, List.set_cons_succ, List.length_cons, List.length_nil, Option.map_some, Option.map_none, reduceIte, Int.reduceEq, Int.reduceLT, Int.reduceLE, Int.reduceNeg, Nat.reduceAdd, Nat.reduceLT, Nat.reduceLeDiff, Nat.reduceEqDiff, Nat.reduceSub, Nat.reduceMul, and_true, true_and, true_implies, forall_const, Bool.true_and, Bool.and_true, Option.isSome_some, Option.some.injEq, forall_eq', Cell.fr.injEq, R.fr.injEq, D.int.injEq, Bool.false_eq_true, decide_true, decide_false, Bool.not_true, Bool.not_false, Tv.mixE, Tv.wipeE, Tv.keepC, List.contains_cons, List.contains_nil, Nat.reduceBEq, Bool.or_false, Bool.or_true, Bool.false_or, Bool.true_or]
    exact hΨ
  · rw [filterMap_some, show (ns.map fun i => D.int (if i < 0 then -i else i)) = (ns.map fun i => if i < 0 then -i else i).map D.int by rw [List.map_map]; rfl]
    simp only [Tv.wDef, Tv.wDefB, Tv.wCallB, Tv.sSkip, Tv.sSeq, Tv.sBreak, Tv.sCont, Tv.sDrop, Tv.sRet, Tv.sRetN, Tv.sRetV, Tv.sIf, Tv.sNever, R.cell, R.ok, Tv.sSet, Tv.sAug, Tv.sMutF, Tv.sMut0, Tv.sPar, Tv.sUnp, Tv.gN, Tv.gNl, Tv.gCs, Tv.gTp, Tv.sFor, Tv.wSeqI, Tv.wRng1, Tv.wRng2, Tv.wStrI, Tv.wEnum, Tv.wEnumS, Tv.wZip, Tv.wC, Tv.wV, Tv.wP, Tv.wF, Tv.w1, Tv.w2, Tv.wB, Tv.tAnd', Tv.tOr', Tv.tNot', Tv.wAnd, Tv.wOr, Tv.wNot, Tv.wIf, Tv.truD, Tv.wTr, Tv.wNil, Tv.wCons, Tv.itemsD, Tv.wStar, Tv.frs', Tv.wTup, Tv.wLst, Tv.wN, Tv.wM, Tv.wCall, Tv.oAdd, Tv.oInt, Tv.oInt0, Tv.oLt, Tv.oLe, Tv.oGt, Tv.oGe, Tv.oEq_lst, Tv.oEq_tup, Tv.oEq_int, Tv.oEq_str, Tv.oEq_bl, Tv.oNe_int, Tv.oNe_str, Tv.oNe_bl, Tv.oIn, Tv.oIx, Tv.oSl, Tv.wNoP, Tv.wSomeP, Tv.wSl, Tv.oLen, Tv.oSum, Tv.oIntC, Tv.oMaxA, Tv.oMinA, Tv.sPar3, Tv.oList, Tv.oTuple, Tv.oAll, Tv.oAny, Tv.oMulA, Tv.oRepr, Tv.isTxt, Tv.oSplit, Tv.oJoin, Tv.oSIndex, Tv.owApp, Tv.owExt, Tv.owIns, Tv.aAdd, Tv.aInt, Tv.wOrT, Tv.wAndT, Tv.oBag_0, Tv.oBag_1, Tv.oBag_2, Tv.oBag_3, Tv.bagOk_0, Tv.bagOk_1, Tv.bagOk_2, Tv.sBagSet, Tv.sBagAug, Tv.sBagPick, Tv.wSlScr, Tv.wLc, Tv.stepD, Tv.oAbs, Tv.sRetBag, Tv.oNeg, Tv.tYes', R.d, List.map_cons, List.map_nil, List.replicate_succ, List.replicate_zero, List.cons_append, List.nil_append, List.append_nil, List.getElem?_cons_zero, List.getElem?_cons_succ, List.set_cons_zero, List.set_cons_succ, List.length_cons, List.length_nil, Option.map_some, Option.map_none, reduceIte, Int.reduceEq, Int.reduceLT, Int.reduceLE, Int.reduceNeg, Nat.reduceAdd, Nat.reduceLT, Nat.reduceLeDiff, Nat.reduceEqDiff, Nat.reduceSub, Nat.reduceMul, and_true, true_and, true_implies, forall_const, Bool.true_and, Bool.and_true, Option.isSome_some, Option.some.injEq, forall_eq', Cell.fr.injEq, R.fr.injEq, D.int.injEq, Bool.false_eq_true, decide_true, decide_false, Bool.not_true, Bool.not_false, Tv.mixE, Tv.wipeE, Tv.keepC, List.contains_cons, List.contains_nil, Nat.reduceBEq, Bool.or_false, Bool.or_true, Bool.false_or, Bool.true_or]
    refine ⟨by decide, _, intsD_map _, ⟨fun n hn => ?_, by rw [List.length_map]; omega⟩, h⟩
    obtain ⟨i, _, rfl⟩ := List.mem_map.mp hn
    split <;> omega
theorem sp_one {F : WF} (ht : TakeF F) : OneF (R__law_one F) := by
  have e := sizeLine_eq
  refine ⟨fun ds Φ h0 h1 h => ?_, fun ds Φ h0 h1 h => ?_, fun x Φ h0 h1 h => ?_⟩
  · refine ⟨rfl, ?_⟩
    have hp : 0 < ds.length := List.length_pos_iff.mpr h0
    simp only [W__law_one, Tv.wDef, Tv.wDefB, Tv.wCallB, Tv.sSkip, Tv.sSeq, Tv.sBreak, Tv.sCont, Tv.sDrop, Tv.sRet, Tv.sRetN, Tv.sRetV, Tv.sIf, Tv.sNever, R.cell, R.ok, Tv.sSet, Tv.sAug, Tv.sMutF, Tv.sMut0, Tv.sPar, Tv.sUnp, Tv.gN, Tv.gNl, Tv.gCs, Tv.gTp, Tv.sFor, Tv.wSeqI, Tv.wRng1, Tv.wRng2, Tv.wStrI, Tv.wEnum, Tv.wEnumS, Tv.wZip, Tv.wC, Tv.wV, Tv.wP, Tv.wF, Tv.w1, Tv.w2, Tv.wB, Tv.tAnd', Tv.tOr', Tv.tNot', Tv.wAnd, Tv.wOr, Tv.wNot, Tv.wIf, Tv.truD, Tv.wTr, Tv.wNil, Tv.wCons, Tv.itemsD, Tv.wStar, Tv.frs', Tv.wTup, Tv.wLst, Tv.wN, Tv.wM, Tv.wCall, Tv.oAdd, Tv.oInt, Tv.oInt0, Tv.oLt, Tv.oLe, Tv.oGt, Tv.oGe, Tv.oEq_lst, Tv.oEq_tup, Tv.oEq_int, Tv.oEq_str, Tv.oEq_bl, Tv.oNe_int, Tv.oNe_str, Tv.oNe_bl, Tv.oIn, Tv.oIx, Tv.oSl, Tv.wNoP, Tv.wSomeP, Tv.wSl, Tv.oLen, Tv.oSum, Tv.oIntC, Tv.oMaxA, Tv.oMinA, Tv.sPar3, Tv.oList, Tv.oTuple, Tv.oAll, Tv.oAny, Tv.oMulA, Tv.oRepr, Tv.isTxt, Tv.oSplit, Tv.oJoin, Tv.oSIndex, Tv.owApp, Tv.owExt, Tv.owIns, Tv.aAdd, Tv.aInt, Tv.wOrT, Tv.wAndT, Tv.oBag_0, Tv.oBag_1, Tv.oBag_2, Tv.oBag_3, Tv.bagOk_0, Tv.bagOk_1, Tv.bagOk_2, Tv.sBagSet, Tv.sBagAug, Tv.sBagPick, Tv.wSlScr, Tv.wLc, Tv.stepD, Tv.oAbs, Tv.sRetBag, Tv.oNeg, Tv.tYes', R.d, List.map_cons, List.map_nil, List.replicate_succ, List.replicate_zero, List.cons_append, List.nil_append, List.append_nil, List.getElem?_cons_zero, List.getElem?_cons_succ, List.set_cons_zero, List.set_cons_succ, List.length_cons, List.length_nil, Option.map_some, Option.map_none, reduceIte, Int.reduceEq, Int.reduceLT, Int.reduceLE, Int.reduceNeg, Nat.reduceAdd, Nat.reduceLT, Nat.reduceLeDiff, Nat.reduceEqDiff, Nat.reduceSub, Nat.reduceMul, and_true, true_and, true_implies, forall_const, Bool.true_and, Bool.and_true, Option.isSome_some, Option.some.injEq, forall_eq', Cell.fr.injEq, R.fr.injEq, D.int.injEq, Bool.false_eq_true, decide_true, decide_false, Bool.not_true, Bool.not_false, Tv.mixE, Tv.wipeE, Tv.keepC, List.contains_cons, List.contains_nil, Nat.reduceBEq, Bool.or_false, Bool.or_true, Bool.false_or, Bool.true_or]
    refine ht _ _ (by omega) (by omega) fun k k0 k1 => ?_
    simp only [Tv.wDef, Tv.wDefB, Tv.wCallB, Tv.sSkip, Tv.sSeq, Tv.sBreak, Tv.sCont, Tv.sDrop, Tv.sRet, Tv.sRetN, Tv.sRetV, Tv.sIf, Tv.sNever, R.cell, R.ok, Tv.sSet, Tv.sAug, Tv.sMutF, Tv.sMut0, Tv.sPar, Tv.sUnp, Tv.gN, Tv.gNl, Tv.gCs, Tv.gTp, Tv.sFor, Tv.wSeqI, Tv.wRng1, Tv.wRng2, Tv.wStrI, Tv.wEnum, Tv.wEnumS, Tv.wZip, Tv.wC, Tv.wV, Tv.wP, Tv.wF, Tv.w1, Tv.w2, Tv.wB, Tv.tAnd', Tv.tOr', Tv.tNot', Tv.wAnd, Tv.wOr, Tv.wNot, Tv.wIf, Tv.truD, Tv.wTr, Tv.wNil, Tv.wCons, Tv.itemsD, Tv.wStar, Tv.frs', Tv.wTup, Tv.wLst, Tv.wN, Tv.wM, Tv.wCall, Tv.oAdd, Tv.oInt, Tv.oInt0, Tv.oLt, Tv.oLe, Tv.oGt, Tv.oGe, Tv.oEq_lst, Tv.oEq_tup, Tv.oEq_int, Tv.oEq_str, Tv.oEq_bl, Tv.oNe_int, Tv.oNe_str, Tv.oNe_bl, Tv.oIn, Tv.oIx, Tv.oSl, Tv.wNoP, Tv.wSomeP, Tv.wSl, Tv.oLen, Tv.oSum, Tv.oIntC, Tv.oMaxA, Tv.oMinA, Tv.sPar3, Tv.oList, Tv.oTuple, Tv.oAll, Tv.oAny, Tv.oMulA, Tv.oRepr, Tv.isTxt, Tv.oSplit, Tv.oJoin, Tv.oSIndex, Tv.owApp, Tv.owExt, Tv.owIns, Tv.aAdd, Tv.aInt, Tv.wOrT, Tv.wAndT, Tv.oBag_0, Tv.oBag_1, Tv.oBag_2, Tv.oBag_3, Tv.bagOk_0, Tv.bagOk_1, Tv.bagOk_2, Tv.sBagSet, Tv.sBagAug, Tv.sBagPick, Tv.wSlScr, Tv.wLc, Tv.stepD, Tv.oAbs, Tv.sRetBag, Tv.oNeg, Tv.tYes', R.d, List.map_cons, List.map_nil, List.replicate_succ, List.replicate_zero, List.cons_append, List.nil_append, List.append_nil, List.getElem?_cons_zero, List.getElem?_cons_succ, List.set_cons_zero, List.set_cons_succ, List.length_cons, List.length_nil, Option.map_some, Option.map_none, reduceIte, Int.reduceEq, Int.reduceLT, Int.reduceLE, Int.reduceNeg, Nat.reduceAdd, Nat.reduceLT, Nat.reduceLeDiff, Nat.reduceEqDiff, Nat.reduceSub, Nat.reduceMul, and_true, true_and, true_implies, forall_const, Bool.true_and, Bool.and_true, Option.isSome_some, Option.some.injEq, forall_eq', Cell.fr.injEq, R.fr.injEq, D.int.injEq, Bool.false_eq_true, decide_true, decide_false, Bool.not_true, Bool.not_false, Tv.mixE, Tv.wipeE, Tv.keepC, List.contains_cons, List.contains_nil, Nat.reduceBEq, Bool.or_false, Bool.or_true, Bool.false_or, Bool.true_or]
    obtain ⟨x, hx, e⟩ := atI_nat k0 k1
    exact ⟨x, e, h x hx⟩
  · refine ⟨rfl, ?_⟩
    have hp : 0 < ds.length := List.length_pos_iff.mpr h0
    simp only [W__law_one, Tv.wDef, Tv.wDefB, Tv.wCallB, Tv.sSkip, Tv.sSeq, Tv.sBreak, Tv.sCont, Tv.sDrop, Tv.sRet, Tv.sRetN, Tv.sRetV, Tv.sIf, Tv.sNever, R.cell, R.ok, Tv.sSet, Tv.sAug, Tv.sMutF, Tv.sMut0, Tv.sPar, Tv.sUnp, Tv.gN, Tv.gNl, Tv.gCs, Tv.gTp, Tv.sFor, Tv.wSeqI, Tv.wRng1, Tv.wRng2, Tv.wStrI, Tv.wEnum, Tv.wEnumS, Tv.wZip, Tv.wC, Tv.wV, Tv.wP, Tv.wF, Tv.w1, Tv.w2, Tv.wB, Tv.tAnd', Tv.tOr', Tv.tNot', Tv.wAnd, Tv.wOr, Tv.wNot, Tv.wIf, Tv.truD, Tv.wTr, Tv.wNil, Tv.wCons, Tv.itemsD, Tv.wStar, Tv.frs', Tv.wTup, Tv.wLst, Tv.wN, Tv.wM, Tv.wCall, Tv.oAdd, Tv.oInt, Tv.oInt0, Tv.oLt, Tv.oLe, Tv.oGt, Tv.oGe, Tv.oEq_lst, Tv.oEq_tup, Tv.oEq_int, Tv.oEq_str, Tv.oEq_bl, Tv.oNe_int, Tv.oNe_str, Tv.oNe_bl, Tv.oIn, Tv.oIx, Tv.oSl, Tv.wNoP, Tv.wSomeP, Tv.wSl, Tv.oLen, Tv.oSum, Tv.oIntC, Tv.oMaxA, Tv.oMinA, Tv.sPar3, Tv.oList, Tv.oTuple, Tv.oAll, Tv.oAny, Tv.oMulA, Tv.oRepr, Tv.isTxt, Tv.oSplit, Tv.oJoin, Tv.oSIndex, Tv.owApp, Tv.owExt, Tv.owIns, Tv.aAdd, Tv.aInt, Tv.wOrT, Tv.wAndT, Tv.oBag_0, Tv.oBag_1, Tv.oBag_2, Tv.oBag_3, Tv.bagOk_0, Tv.bagOk_1, Tv.bagOk_2, Tv.sBagSet, Tv.sBagAug, Tv.sBagPick, Tv.wSlScr, Tv.wLc, Tv.stepD, Tv.oAbs, Tv.sRetBag, Tv.oNeg, Tv.tYes', R.d, List.map_cons, List.map_nil, List.replicate_succ, List.replicate_zero, List.cons_append, List.nil_append, List.append_nil, List.getElem?_cons_zero, List.getElem?_cons_succ, List.set_cons_zero, List.set_cons_succ, List.length_cons, List.length_nil, Option.map_some, Option.map_none, reduceIte, Int.reduceEq, Int.reduceLT, Int.reduceLE, Int.reduceNeg, Nat.reduceAdd, Nat.reduceLT, Nat.reduceLeDiff, Nat.reduceEqDiff, Nat.reduceSub, Nat.reduceMul, and_true, true_and, true_implies, forall_const, Bool.true_and, Bool.and_true, Option.isSome_some, Option.some.injEq, forall_eq', Cell.fr.injEq, R.fr.injEq, D.int.injEq, Bool.false_eq_true, decide_true, decide_false, Bool.not_true, Bool.not_false, Tv.mixE, Tv.wipeE, Tv.keepC, List.contains_cons, List.contains_nil, Nat.reduceBEq, Bool.or_false, Bool.or_true, Bool.false_or, Bool.true_or]
    refine ht _ _ (by omega) (by omega) fun k k0 k1 => ?_
    simp only [Tv.wDef, Tv.wDefB, Tv.wCallB, Tv.sSkip, Tv.sSeq, Tv.sBreak, Tv.sCont, Tv.sDrop, Tv.sRet, Tv.sRetN, Tv.sRetV, Tv.sIf, Tv.sNever, R.cell, R.ok, Tv.sSet, Tv.sAug, Tv.sMutF, Tv.sMut0, Tv.sPar, Tv.sUnp, Tv.gN, Tv.gNl, Tv.gCs, Tv.gTp, Tv.sFor, Tv.wSeqI, Tv.wRng1, Tv.wRng2, Tv.wStrI, Tv.wEnum, Tv.wEnumS, Tv.wZip, Tv.wC, Tv.wV, Tv.wP, Tv.wF, Tv.w1, Tv.w2, Tv.wB, Tv.tAnd', Tv.tOr', Tv.tNot', Tv.wAnd, Tv.wOr, Tv.wNot, Tv.wIf, Tv.truD, Tv.wTr, Tv.wNil, Tv.wCons, Tv.itemsD, Tv.wStar, Tv.frs', Tv.wTup, Tv.wLst, Tv.wN, Tv.wM, Tv.wCall, Tv.oAdd, Tv.oInt, Tv.oInt0, Tv.oLt, Tv.oLe, Tv.oGt, Tv.oGe, Tv.oEq_lst, Tv.oEq_tup, Tv.oEq_int, Tv.oEq_str, Tv.oEq_bl, Tv.oNe_int, Tv.oNe_str, Tv.oNe_bl, Tv.oIn, Tv.oIx, Tv.oSl, Tv.wNoP, Tv.wSomeP, Tv.wSl, Tv.oLen, Tv.oSum, Tv.oIntC, Tv.oMaxA, Tv.oMinA, Tv.sPar3, Tv.oList, Tv.oTuple, Tv.oAll, Tv.oAny, Tv.oMulA, Tv.oRepr, Tv.isTxt, Tv.oSplit, Tv.oJoin, Tv.oSIndex, Tv.owApp, Tv.owExt, Tv.owIns, Tv.aAdd, Tv.aInt, Tv.wOrT, Tv.wAndT, Tv.oBag_0, Tv.oBag_1, Tv.oBag_2, Tv.oBag_3, Tv.bagOk_0, Tv.bagOk_1, Tv.bagOk_2, Tv.sBagSet, Tv.sBagAug, Tv.sBagPick, Tv.wSlScr, Tv.wLc, Tv.stepD, Tv.oAbs, Tv.sRetBag, Tv.oNeg, Tv.tYes', R.d, List.map_cons, List.map_nil, List.replicate_succ, List.replicate_zero, List.cons_append, List.nil_append, List.append_nil, List.getElem?_cons_zero, List.getElem?_cons_succ, List.set_cons_zero, List.set_cons_succ, List.length_cons, List.length_nil, Option.map_some, Option.map_none, reduceIte, Int.reduceEq, Int.reduceLT, Int.reduceLE, Int.reduceNeg, Nat.reduceAdd, Nat.reduceLT, Nat.reduceLeDiff, Nat.reduceEqDiff, Nat.reduceSub, Nat.reduceMul, and_true, true_and, true_implies, forall_const, Bool.true_and, Bool.and_true, Option.isSome_some, Option.some.injEq, forall_eq', Cell.fr.injEq, R.fr.injEq, D.int.injEq, Bool.false_eq_true, decide_true, decide_false, Bool.not_true, Bool.not_false, Tv.mixE, Tv.wipeE, Tv.keepC, List.contains_cons, List.contains_nil, Nat.reduceBEq, Bool.or_false, Bool.or_true, Bool.false_or, Bool.true_or]
    obtain ⟨x, hx, e⟩ := atI_nat k0 k1
    exact ⟨x, e, h x hx⟩
  · refine ⟨rfl, ?_⟩
    simp only [W__law_one, Tv.wDef, Tv.wDefB, Tv.wCallB, Tv.sSkip, Tv.sSeq, Tv.sBreak, Tv.sCont, Tv.sDrop, Tv.sRet, Tv.sRetN, Tv.sRetV, Tv.sIf, Tv.sNever, R.cell, R.ok, Tv.sSet, Tv.sAug, Tv.sMutF, Tv.sMut0, Tv.sPar, Tv.sUnp, Tv.gN, Tv.gNl, Tv.gCs, Tv.gTp, Tv.sFor, Tv.wSeqI, Tv.wRng1, Tv.wRng2, Tv.wStrI, Tv.wEnum, Tv.wEnumS, Tv.wZip, Tv.wC, Tv.wV, Tv.wP, Tv.wF, Tv.w1, Tv.w2, Tv.wB, Tv.tAnd', Tv.tOr', Tv.tNot', Tv.wAnd, Tv.wOr, Tv.wNot, Tv.wIf, Tv.truD, Tv.wTr, Tv.wNil, Tv.wCons, Tv.itemsD, Tv.wStar, Tv.frs', Tv.wTup, Tv.wLst, Tv.wN, Tv.wM, Tv.wCall, Tv.oAdd, Tv.oInt, Tv.oInt0, Tv.oLt, Tv.oLe, Tv.oGt, Tv.oGe, Tv.oEq_lst, Tv.oEq_tup, Tv.oEq_int, Tv.oEq_str, Tv.oEq_bl, Tv.oNe_int, Tv.oNe_str, Tv.oNe_bl, Tv.oIn, Tv.oIx, Tv.oSl, Tv.wNoP, Tv.wSomeP, Tv.wSl, Tv.oLen, Tv.oSum, Tv.oIntC, Tv.oMaxA, Tv.oMinA, Tv.sPar3, Tv.oList, Tv.oTuple, Tv.oAll, Tv.oAny, Tv.oMulA, Tv.oRepr, Tv.isTxt, Tv.oSplit, Tv.oJoin, Tv.oSIndex, Tv.owApp, Tv.owExt, Tv.owIns, Tv.aAdd, Tv.aInt, Tv.wOrT, Tv.wAndT, Tv.oBag_0, Tv.oBag_1, Tv.oBag_2, Tv.oBag_3, Tv.bagOk_0, Tv.bagOk_1, Tv.bagOk_2, Tv.sBagSet, Tv.sBagAug, Tv.sBagPick, Tv.wSlScr, Tv.wLc, Tv.stepD, Tv.oAbs, Tv.sRetBag, Tv.oNeg, Tv.tYes', R.d, List.map_cons, List.map_nil, List.replicate_succ, List.replicate_zero, List.cons_append, List.nil_append, List.append_nil, List.getElem?_cons_zero, List.getElem?_cons_succ, List.set_cons_zero, List.set_cons_succ, List.length_cons, List.length_nil, Option.map_some, Option.map_none, reduceIte, Int.reduceEq, Int.reduceLT, Int.reduceLE, Int.reduceNeg, Nat.reduceAdd, Nat.reduceLT, Nat.reduceLeDiff, Nat.reduceEqDiff, Nat.reduceSub, Nat.reduceMul, and_true, true_and, true_implies, forall_const, Bool.true_and, Bool.and_true, Option.isSome_some, Option.some.injEq, forall_eq', Cell.fr.injEq, R.fr.injEq, D.int.injEq, Bool.false_eq_true, decide_true, decide_false, Bool.not_true, Bool.not_false, Tv.mixE, Tv.wipeE, Tv.keepC, List.contains_cons, List.contains_nil, Nat.reduceBEq, Bool.or_false, Bool.or_true, Bool.false_or, Bool.true_or]
    refine ⟨by omega, ht _ _ (by omega) (by omega) fun k k0 k1 => ?_⟩
    simp only [Tv.wDef, Tv.wDefB, Tv.wCallB, Tv.sSkip, Tv.sSeq, Tv.sBreak, Tv.sCont, Tv.sDrop, Tv.sRet, Tv.sRetN, Tv.sRetV, Tv.sIf, Tv.sNever, R.cell, R.ok, Tv.sSet, Tv.sAug, Tv.sMutF, Tv.sMut0, Tv.sPar, Tv.sUnp, Tv.gN, Tv.gNl, Tv.gCs, Tv.gTp, Tv.sFor, Tv.wSeqI, Tv.wRng1, Tv.wRng2, Tv.wStrI, Tv.wEnum, Tv.wEnumS, Tv.wZip, Tv.wC, Tv.wV, Tv.wP, Tv.wF, Tv.w1, Tv.w2, Tv.wB, Tv.tAnd', Tv.tOr', Tv.tNot', Tv.wAnd, Tv.wOr, Tv.wNot, Tv.wIf, Tv.truD, Tv.wTr, Tv.wNil, Tv.wCons, Tv.itemsD, Tv.wStar, Tv.frs', Tv.wTup, Tv.wLst, Tv.wN, Tv.wM, Tv.wCall, Tv.oAdd, Tv.oInt, Tv.oInt0, Tv.oLt, Tv.oLe, Tv.oGt, Tv.oGe, Tv.oEq_lst, Tv.oEq_tup, Tv.oEq_int, Tv.oEq_str, Tv.oEq_bl, Tv.oNe_int, Tv.oNe_str, Tv.oNe_bl, Tv.oIn, Tv.oIx, Tv.oSl, Tv.wNoP, Tv.wSomeP, Tv.wSl, Tv.oLen, Tv.oSum, Tv.oIntC, Tv.oMaxA, Tv.oMinA, Tv.sPar3, Tv.oList, Tv.oTuple, Tv.oAll, Tv.oAny, Tv.oMulA, Tv.oRepr, Tv.isTxt, Tv.oSplit, Tv.oJoin, Tv.oSIndex, Tv.owApp, Tv.owExt, Tv.owIns, Tv.aAdd, Tv.aInt, Tv.wOrT, Tv.wAndT, Tv.oBag_0, Tv.oBag_1, Tv.oBag_2, Tv.oBag_3, Tv.bagOk_0, Tv.bagOk_1, Tv.bagOk_2, Tv.sBagSet, Tv.sBagAug, Tv.sBagPick, Tv.wSlScr, Tv.wLc, Tv.stepD, Tv.oAbs, Tv.sRetBag, Tv.oNeg, Tv.tYes', R.d, List.map_cons, List.map_nil, List.replicate_succ, List.replicate_zero, List.cons_append, List.nil_append, List.append_nil, List.getElem?_cons_zero, List.getElem?_cons_succ, List.set_cons_zero, List.set_cons_succ, List.length_cons, List.length_nil, Option.map_some, Option.map_none, reduceIte, Int.reduceEq, Int.reduceLT, Int.reduceLE, Int.reduceNeg, Nat.reduceAdd, Nat.reduceLT, Nat.reduceLeDiff, Nat.reduceEqDiff, Nat.reduceSub, Nat.reduceMul, and_true, true_and, true_implies, forall_const, Bool.true_and, Bool.and_true, Option.isSome_some, Option.some.injEq, forall_eq', Cell.fr.injEq, R.fr.injEq, D.int.injEq, Bool.false_eq_true, decide_true, decide_false, Bool.not_true, Bool.not_false, Tv.mixE, Tv.wipeE, Tv.keepC, List.contains_cons, List.contains_nil, Nat.reduceBEq, Bool.or_false, Bool.or_true, Bool.false_or, Bool.true_or]
    obtain ⟨c, hx, e⟩ := atI_nat (xs := x.cps.toList) k0 (by simpa [Str.length] using k1)
    exact ⟨by omega, c, e, h c hx⟩
theorem sp_alike : AlikeF R__law_alike := by
  intro d Φ hd h
  have hd' := hd
  unfold okR at hd'
  simp only [Bool.and_eq_true, decide_eq_true_eq] at hd'
  refine ⟨rfl, ?_⟩
  simp only [W__law_alike, Tv.wDef, Tv.wDefB, Tv.wCallB, Tv.sSkip, Tv.sSeq, Tv.sBreak, Tv.sCont, Tv.sDrop, Tv.sRet, Tv.sRetN, Tv.sRetV, Tv.sIf, Tv.sNever, R.cell, R.ok, Tv.sSet, Tv.sAug, Tv.sMutF, Tv.sMut0, Tv.sPar, Tv.sUnp, Tv.gN, Tv.gNl, Tv.gCs, Tv.gTp, Tv.sFor, Tv.wSeqI, Tv.wRng1, Tv.wRng2, Tv.wStrI, Tv.wEnum, Tv.wEnumS, Tv.wZip, Tv.wC, Tv.wV, Tv.wP, Tv.wF, Tv.w1, Tv.w2, Tv.wB, Tv.tAnd', Tv.tOr', Tv.tNot', Tv.wAnd, Tv.wOr, Tv.wNot, Tv.wIf, Tv.truD, Tv.wTr, Tv.wNil, Tv.wCons, Tv.itemsD, Tv.wStar, Tv.frs', Tv.wTup, Tv.wLst, Tv.wN, Tv.wM, Tv.wCall, Tv.oAdd, Tv.oInt, Tv.oInt0, Tv.oLt, Tv.oLe, Tv.oGt, Tv.oGe, Tv.oEq_lst, Tv.oEq_tup, Tv.oEq_int, Tv.oEq_str, Tv.oEq_bl, Tv.oNe_int, Tv.oNe_str, Tv.oNe_bl, Tv.oIn, Tv.oIx, Tv.oSl, Tv.wNoP, Tv.wSomeP, Tv.wSl, Tv.oLen, Tv.oSum, Tv.oIntC, Tv.oMaxA, Tv.oMinA, Tv.sPar3, Tv.oList, Tv.oTuple, Tv.oAll, Tv.oAny, Tv.oMulA, Tv.oRepr, Tv.isTxt, Tv.oSplit, Tv.oJoin, Tv.oSIndex, Tv.owApp, Tv.owExt, Tv.owIns, Tv.aAdd, Tv.aInt, Tv.wOrT, Tv.wAndT, Tv.oBag_0, Tv.oBag_1, Tv.oBag_2, Tv.oBag_3, Tv.bagOk_0, Tv.bagOk_1, Tv.bagOk_2, Tv.sBagSet, Tv.sBagAug, Tv.sBagPick, Tv.wSlScr, Tv.wLc, Tv.stepD, Tv.oAbs, Tv.sRetBag, Tv.oNeg, Tv.tYes', R.d, List.map_cons, List.map_nil, List.replicate_succ, List.replicate_zero, List.cons_append, List.nil_append, List.append_nil, List.getElem?_cons_zero, List.getElem?_cons_succ, List.set_cons_zero, List.set_cons_succ, List.length_cons, List.length_nil, Option.map_some, Option.map_none, reduceIte, Int.reduceEq, Int.reduceLT, Int.reduceLE, Int.reduceNeg, Nat.reduceAdd, Nat.reduceLT, Nat.reduceLeDiff, Nat.reduceEqDiff, Nat.reduceSub, Nat.reduceMul, and_true, true_and, true_implies, forall_const, Bool.true_and, Bool.and_true, Option.isSome_some, Option.some.injEq, forall_eq', Cell.fr.injEq, R.fr.injEq, D.int.injEq, Bool.false_eq_true, decide_true, decide_false, Bool.not_true, Bool.not_false, Tv.mixE, Tv.wipeE, Tv.keepC, List.contains_cons, List.contains_nil, Nat.reduceBEq, Bool.or_false, Bool.or_true, Bool.false_or, Bool.true_or]
  refine oEq_self hd'.1.1 ?_
  simp only [Tv.wDef, Tv.wDefB, Tv.wCallB, Tv.sSkip, Tv.sSeq, Tv.sBreak, Tv.sCont, Tv.sDrop, Tv.sRet, Tv.sRetN, Tv.sRetV, Tv.sIf, Tv.sNever, R.cell, R.ok, Tv.sSet, Tv.sAug, Tv.sMutF, Tv.sMut0, Tv.sPar, Tv.sUnp, Tv.gN, Tv.gNl, Tv.gCs, Tv.gTp, Tv.sFor, Tv.wSeqI, Tv.wRng1, Tv.wRng2, Tv.wStrI, Tv.wEnum, Tv.wEnumS, Tv.wZip, Tv.wC, Tv.wV, Tv.wP, Tv.wF, Tv.w1, Tv.w2, Tv.wB, Tv.tAnd', Tv.tOr', Tv.tNot', Tv.wAnd, Tv.wOr, Tv.wNot, Tv.wIf, Tv.truD, Tv.wTr, Tv.wNil, Tv.wCons, Tv.itemsD, Tv.wStar, Tv.frs', Tv.wTup, Tv.wLst, Tv.wN, Tv.wM, Tv.wCall, Tv.oAdd, Tv.oInt, Tv.oInt0, Tv.oLt, Tv.oLe, Tv.oGt, Tv.oGe, Tv.oEq_lst, Tv.oEq_tup, Tv.oEq_int, Tv.oEq_str, Tv.oEq_bl, Tv.oNe_int, Tv.oNe_str, Tv.oNe_bl, Tv.oIn, Tv.oIx, Tv.oSl, Tv.wNoP, Tv.wSomeP, Tv.wSl, Tv.oLen, Tv.oSum, Tv.oIntC, Tv.oMaxA, Tv.oMinA, Tv.sPar3, Tv.oList, Tv.oTuple, Tv.oAll, Tv.oAny, Tv.oMulA, Tv.oRepr, Tv.isTxt, Tv.oSplit, Tv.oJoin, Tv.oSIndex, Tv.owApp, Tv.owExt, Tv.owIns, Tv.aAdd, Tv.aInt, Tv.wOrT, Tv.wAndT, Tv.oBag_0, Tv.oBag_1, Tv.oBag_2, Tv.oBag_3, Tv.bagOk_0, Tv.bagOk_1, Tv.bagOk_2, Tv.sBagSet, Tv.sBagAug, Tv.sBagPick, Tv.wSlScr, Tv.wLc, Tv.stepD, Tv.oAbs, Tv.sRetBag, Tv.oNeg, Tv.tYes', R.d, List.map_cons, List.map_nil, List.replicate_succ, List.replicate_zero, List.cons_append, List.nil_append, List.append_nil, List.getElem?_cons_zero, List.getElem?_cons_succ, List.set_cons_zero, List.set_cons_succ, List.length_cons, List.length_nil, Option.map_some, Option.map_none, reduceIte, Int.reduceEq, Int.reduceLT, Int.reduceLE, Int.reduceNeg, Nat.reduceAdd, Nat.reduceLT, Nat.reduceLeDiff, Nat.reduceEqDiff, Nat.reduceSub, Nat.reduceMul, and_true, true_and, true_implies, forall_const, Bool.true_and, Bool.and_true, Option.isSome_some, Option.some.injEq, forall_eq', Cell.fr.injEq, R.fr.injEq, D.int.injEq, Bool.false_eq_true, decide_true, decide_false, Bool.not_true, Bool.not_false, Tv.mixE, Tv.wipeE, Tv.keepC, List.contains_cons, List.contains_nil, Nat.reduceBEq, Bool.or_false, Bool.or_true, Bool.false_or, Bool.true_or, hd]
  exact h
/-! ### leaves, boxes -/
def Lf (d : D) : Prop := (∃ i : Int, i.natAbs < 2 ^ 160 ∧ d = .int i) ∨ (∃ x, TxD x ∧ d = .str x)
theorem lf_fine {d : D} (h : Lf d) (m : Nat) : Fine m 210 d := by
  rcases h with ⟨i, hi, rfl⟩ | ⟨x, hx, rfl⟩
  · exact (fineI hi (by decide) m).le (Nat.le_refl _) (by decide)
  · exact (fineS hx m).le (Nat.le_refl _) (by decide)
theorem box_fine {bx : List D} (h : ∀ d ∈ bx, Lf d) (l : bx.length ≤ 10) : Fine 1 2123 (.lst bx) := by
  have c := fineL_all fun d hd => lf_fine (h d hd) 0
  have m : (210 + 2) * bx.length ≤ (210 + 2) * 10 := Nat.mul_le_mul_left _ l
  exact c.lst.le (by decide) (by omega)
/-! ### places -/
def plc (size : Int) (beg : Bool) (c : Int) (add : Bool) : Int := max 0 (min (if beg = true then c else (if add = true then size else size - 1) - c) (if add = true then size else size - 1))
theorem max_if {a b : Int} : (if b > a then b else a) = max a b := by
  rcases Int.le_total a b with h | h <;> omega
theorem min_if {a b : Int} : (if b < a then b else a) = min a b := by omega
def PlcF (F : WF) : Prop := ∀ (n : Nat) (st : Str) (c : Int) (add : Bool), n ≤ 1000 → ∀ Φ : R → Prop, Φ (.fr (.int (plc n (decide (st = "begin")) c add))) → F [.int n, .str st, .int c, .bl add] Φ
theorem sp_place : PlcF R_place_in := fun n st c add hn Φ h => by
  refine ⟨rfl, ?_⟩
  show W_place_in [.fr (.int n), .fr (.str st), .fr (.int c), .fr (.bl add), .no, .no] _
  unfold W_place_in
  unfold plc at h
  cases add
  all_goals
    and_intros
    refine e_dec (fun e => ?_) (fun e => ?_)
    all_goals
      first | rw [decide_eq_true e] at h | rw [decide_eq_false e] at h
      and_intros
      refine cast (congrArg (fun i : Int => Φ (.fr (.int i))) ?_) h
      simp only [reduceIte, Bool.false_eq_true, Bool.not_false, Bool.not_true, Int.sub_zero, max_if, min_if]
theorem sp_lplace : PlcF R__law_place := fun n st c add hn Φ h => by
  refine ⟨rfl, ?_⟩
  show W__law_place [.fr (.int n), .fr (.str st), .fr (.int c), .fr (.bl add), .no] _
  unfold W__law_place
  unfold plc at h
  cases add
  all_goals
    and_intros
    refine e_dec (fun e => ?_) (fun e => ?_)
    all_goals
      first | rw [decide_eq_true e] at h | rw [decide_eq_false e] at h
      and_intros
      refine cast (congrArg (fun i : Int => Φ (.fr (.int i))) ?_) h
      simp only [reduceIte, Bool.false_eq_true, Bool.not_false, Bool.not_true, Int.sub_zero, max_if, min_if]
/-! ### boxes -/
theorem sp_looked (bx : List D) (p : Nat) (hp : p < bx.length ∨ bx = []) : ∀ Φ : R → Prop, Φ (.fr (bx.getD p (.int 0))) → R_looked [.lst bx, .int p] Φ := fun Φ h => by
  refine ⟨rfl, ?_⟩
  show W_looked [.fr (.lst bx), .fr (.int p)] _
  unfold W_looked
  and_intros
  refine e_dec (fun c => ?_) (fun c => ?_)
  · have hp' : p < bx.length := by
      rcases hp with hp | rfl
      · exact hp
      · exact absurd c (by decide)
    and_intros
    refine e_ixL (atI_getN hp') ?_
    and_intros
    rw [List.getD_eq_getElem?_getD, List.getElem?_eq_getElem hp'] at h
    exact h
  · have e : bx = [] := List.eq_nil_of_length_eq_zero (by omega)
    subst e
    and_intros
    exact h
theorem sp_added (bx : List D) (p : Nat) (v : D) (hl : bx.length ≤ 100) : ∀ Φ : R → Prop, Φ (.ow (.lst (bx.take p ++ v :: bx.drop p))) → R_added [.lst bx, .int p, v] Φ := fun Φ h => by
  refine ⟨rfl, ?_⟩
  show W_added [.fr (.lst bx), .fr (.int p), .fr v] _
  unfold W_added
  and_intros
  rw [cutD_upto, cutD_from]
  refine e_lstS (frs_app (ds := bx.take p) (show frs' (R.fr v :: ((bx.drop p).map R.fr ++ [])) = some (v :: (bx.drop p ++ [])) by rw [show frs' (R.fr v :: ((bx.drop p).map R.fr ++ [])) = (match frs' ((bx.drop p).map R.fr ++ []) with | some ds => some (v :: ds) | none => none) from rfl, frs_app rfl])) (by simp; omega) ?_
  rw [List.append_nil]
  and_intros
  exact h
theorem sp_dropped (bx : List D) (p : Nat) (hl : bx.length ≤ 100) : ∀ Φ : R → Prop, Φ (.ow (.lst (bx.take p ++ bx.drop (p + 1)))) → R_dropped [.lst bx, .int p] Φ := fun Φ h => by
  refine ⟨rfl, ?_⟩
  show W_dropped [.fr (.lst bx), .fr (.int p)] _
  unfold W_dropped
  and_intros
  rw [show (p : Int) + 1 = ((p + 1 : Nat) : Int) by omega, cutD_upto, cutD_from]
  refine e_lstS (frs_app (ds := bx.take p) (frs_app (ds := bx.drop (p + 1)) (rs := []) rfl) ) (by simp; omega) ?_
  rw [List.append_nil]
  and_intros
  exact h
def chgL (bx : List D) (p : Nat) (v : D) : List D := if bx.isEmpty = true then [] else bx.take p ++ v :: bx.drop (p + 1)
theorem sp_changed (bx : List D) (p : Nat) (v : D) (hl : bx.length ≤ 100) : ∀ Φ : R → Prop, Φ (.ow (.lst (chgL bx p v))) → R_changed [.lst bx, .int p, v] Φ := fun Φ h => by
  refine ⟨rfl, ?_⟩
  show W_changed [.fr (.lst bx), .fr (.int p), .fr v] _
  unfold W_changed
  unfold chgL at h
  and_intros
  refine e_dec (fun c => ?_) (fun c => ?_)
  · have e : bx.isEmpty = false := by
      cases bx with
      | nil => exact absurd c (by decide)
      | cons => rfl
    rw [e, if_neg (by decide)] at h
    and_intros
    rw [show (p : Int) + 1 = ((p + 1 : Nat) : Int) by omega, cutD_upto, cutD_from]
    refine e_lstS (frs_app (ds := bx.take p) (show frs' (R.fr v :: ((bx.drop (p + 1)).map R.fr ++ [])) = some (v :: (bx.drop (p + 1) ++ [])) by rw [show frs' (R.fr v :: ((bx.drop (p + 1)).map R.fr ++ [])) = (match frs' ((bx.drop (p + 1)).map R.fr ++ []) with | some ds => some (v :: ds) | none => none) from rfl, frs_app rfl])) (by simp; omega) ?_
    rw [List.append_nil]
    and_intros
    exact h
  · have e : bx = [] := List.eq_nil_of_length_eq_zero (by omega)
    subst e
    and_intros
    exact h
def Wbr (F_changed : WF) (F_dropped : WF) (F_added : WF) (F_looked : WF) (F__law_alike : WF) : WS :=
  (sSeq (sFor (wRng1 (wCons (wC (.int 2)) wNil)) (gN 8)
    (sSeq (sChk 9 10 1 [0, 4, 5, 7] (wCons (wCall F_looked (wCons (wV 0) (wCons (wV 1) wNil))) (wCons (wCall F_added (wCons (wV 0) (wCons (wV 2) (wCons (wV 3) wNil)))) (wCons (wCall F_dropped (wCons (wV 0) (wCons (wV 1) wNil))) (wCons (wCall F_changed (wCons (wV 0) (wCons (wV 1) (wCons (wV 3) wNil)))) wNil)))) (tOr' (tNot' (wTr (wCallB F__law_alike (wCons (wP 9) (wCons (wP 7) wNil))))) (tOr' (wB (w2 oNe (wN oRepr (wCons (wP 0) wNil)) (wP 4))) (wB (w2 oNe (wN oLen (wCons (wP 0) wNil)) (wP 5))))))
    sSkip))
    (W__law_box_right_t0 F_changed F_dropped F_added F_looked F__law_alike))
theorem Wbr_eq (F_changed : WF) (F_dropped : WF) (F_added : WF) (F_looked : WF) (F__law_alike : WF) : W__law_box_right F_changed F_dropped F_added F_looked F__law_alike = 

  (sSeq (sPar 4 5 (wCons (wN oRepr (wCons (wP 0) wNil)) (wCons (wN oLen (wCons (wP 0) wNil)) wNil)))
    (sSeq (sSet 6 (wIf (wB (w2 oNe (wP 0) (wLst wNil))) (w2 oAdd (w2 oAdd (wSl (wP 0) wNoP (wSomeP (wP 1))) (wLst (wCons (wV 3) wNil))) (wSl (wP 0) (wSomeP (w2 oAdd (wP 1) (wC (.int 1)))) wNoP)) (wLst wNil)))
    (sSeq (sSet 7 (wLst (wCons (wIf (wB (w2 oNe (wP 0) (wLst wNil))) (w2 oIx (wP 0) (wP 1)) (wC (.int 0))) (wCons (wF (w2 oAdd (w2 oAdd (wSl (wP 0) wNoP (wSomeP (wP 2))) (wLst (wCons (wV 3) wNil))) (wSl (wP 0) (wSomeP (wP 2)) wNoP))) (wCons (wF (w2 oAdd (wSl (wP 0) wNoP (wSomeP (wP 1))) (wSl (wP 0) (wSomeP (w2 oAdd (wP 1) (wC (.int 1)))) wNoP))) (wCons (wV 6) wNil))))))
    (Wbr F_changed F_dropped F_added F_looked F__law_alike)))) := rfl
def addL (bx : List D) (q : Nat) (v : D) : List D := bx.take q ++ v :: bx.drop q
def drpL (bx : List D) (p : Nat) : List D := bx.take p ++ bx.drop (p + 1)
def dueL (bx : List D) (p q : Nat) (v : D) : List D := [bx.getD p (.int 0), .lst (addL bx q v), .lst (drpL bx p), .lst (chgL bx p v)]
theorem due_ok {bx : List D} {p q : Nat} {v : D} (hb : ∀ d ∈ bx, Lf d) (hl : bx.length ≤ 8) (hv : Lf v) : okR (.lst (dueL bx p q v)) = true := by
  have m1 : ∀ d ∈ addL bx q v, Lf d := fun d hd => by
    rcases List.mem_append.mp hd with h | h
    · exact hb d (List.mem_of_mem_take h)
    · rcases List.mem_cons.mp h with rfl | h
      · exact hv
      · exact hb d (List.mem_of_mem_drop h)
  have m2 : ∀ d ∈ drpL bx p, Lf d := fun d hd => by
    rcases List.mem_append.mp hd with h | h
    · exact hb d (List.mem_of_mem_take h)
    · exact hb d (List.mem_of_mem_drop h)
  have m3 : ∀ d ∈ chgL bx p v, Lf d := fun d hd => by
    unfold chgL at hd
    split at hd
    · cases hd
    · rcases List.mem_append.mp hd with h | h
      · exact hb d (List.mem_of_mem_take h)
      · rcases List.mem_cons.mp h with rfl | h
        · exact hv
        · exact hb d (List.mem_of_mem_drop h)
  have m0 : Lf (bx.getD p (.int 0)) := by
    rw [List.getD_eq_getElem?_getD]
    cases e : bx[p]? with
    | none => exact .inl ⟨0, by decide, rfl⟩
    | some d => exact hb d (List.mem_of_getElem? e)
  have l1 : (addL bx q v).length ≤ 10 := by unfold addL; simp; omega
  have l2 : (drpL bx p).length ≤ 10 := by unfold drpL; simp; omega
  have l3 : (chgL bx p v).length ≤ 10 := by unfold chgL; split <;> simp <;> omega
  have f := (lf_fine m0 1).cons ((box_fine m1 l1).cons ((box_fine m2 l2).cons ((box_fine m3 l3).cons FineL.nil)))
  exact f.lst.okR (by decide) (by decide)
theorem sp_brtail {bx : List D} {p q : Nat} {v : D} (hb : ∀ d ∈ bx, Lf d) (hl : bx.length ≤ 8) (hv : Lf v) (hp : p < bx.length ∨ bx = []) {c6 c8 c9 c10 : Cell} {Φ : R → Prop} (h : Φ (.fr (.bl true))) :
    Wbr F_changed F_dropped F_added F_looked F__law_alike [.fr (.lst bx), .fr (.int p), .fr (.int q), .fr v, .fr (.str (D.lst bx).py.shown), .fr (.int (bx.length : Int)), c6, .ow (.lst (dueL bx p q v)), c8, c9, c10] ⟨fun _ => Φ (.fr .non), Φ, fun _ => False, fun _ => False⟩ := by
  have esz := sizeLine_eq
  have ok := due_ok (p := p) (q := q) hb hl hv
  have okb : okR (.lst bx) = true := (box_fine hb (by omega)).okR (by decide) (by decide)
  have nbD : ∀ {d : D}, okR d = true → d.nb = true := fun {d} o => by
    unfold okR at o
    simp only [Bool.and_eq_true] at o
    exact nb_okE o.1.1
  unfold Wbr
  and_intros
  refine forR_inv (n := 2) (fun i ρ => ∃ c8 c9 c10 : Cell, ρ = [.fr (.lst bx), .fr (.int p), .fr (.int q), .fr v, .fr (.str (D.lst bx).py.shown), .fr (.int (bx.length : Int)), c6, .ow (.lst (dueL bx p q v)), c8, c9, c10]) ?_ ?_ _ ⟨_, _, _, rfl⟩
  · rintro i hi ρ ⟨c8, c9, c10, rfl⟩ nxt hx
    and_intros
    refine sp_looked bx p hp _ ?_
    and_intros
    refine sp_added bx q v (by omega) _ ?_
    and_intros
    refine sp_dropped bx p (by omega) _ ?_
    and_intros
    refine sp_changed bx p v (by omega) _ ?_
    and_intros
    refine ⟨⟨by show 9 < 11; decide, by show 10 < 11; decide, fun r hr => ?_, nbD (d := .lst (dueL bx p q v)) ok, by show 4 ≤ 1000; decide, fun r hr => ?_, fun j hj c hc => ?_⟩, ?_, ?_⟩
    · simp only [List.mem_cons, List.not_mem_nil, or_false] at hr
      rcases hr with rfl | rfl | rfl | rfl <;> trivial
    · have hr' : r ∈ [R.ow (D.lst (addL bx q v)), R.ow (D.lst (drpL bx p)), R.ow (D.lst (chgL bx p v))] := hr
      simp only [List.mem_cons, List.not_mem_nil, or_false] at hr'
      rcases hr' with rfl | rfl | rfl
      · exact ⟨_, rfl, by unfold addL; simp; omega⟩
      · exact ⟨_, rfl, by unfold drpL; simp; omega⟩
      · exact ⟨_, rfl, by unfold chgL; split <;> simp <;> omega⟩
    · simp only [List.mem_cons, List.not_mem_nil, or_false] at hj
      rcases hj with rfl | rfl | rfl | rfl
      · cases hc; exact nbD okb
      · cases hc; rfl
      · cases hc; rfl
      · cases hc; exact nbD ok
    · refine cast (congrArg (fun ρ => (tOr' (tNot' (wTr (wCallB F__law_alike (wCons (wP 9) (wCons (wP 7) wNil))))) (tOr' (wB (w2 oNe (wN oRepr (wCons (wP 0) wNil)) (wP 4))) (wB (w2 oNe (wN oLen (wCons (wP 0) wNil)) (wP 5))))) ρ fun b _ => b = false) (show [.fr (.lst bx), .no, .no, .no, .fr (.str (D.lst bx).py.shown), .fr (.int (bx.length : Int)), .no, .fr (.lst (dueL bx p q v)), .no, .fr (.lst (dueL bx p q v)), .no] = _ from rfl)) ?_
      and_intros
      refine sp_alike _ _ ok ?_
      and_intros
      refine ⟨okb, ?_⟩
      and_intros
      refine e_decn (P := (R.fr (D.lst bx)).d.py.shown = (D.lst bx).py.shown) (fun _ => ?_) (fun q => absurd rfl q)
      and_intros
      rw [decide_eq_true rfl]; rfl
    · exact hx _ ⟨_, _, _, rfl⟩
  · rintro ρ ⟨c8, c9, c10, rfl⟩
    dsimp only
    unfold W__law_box_right_t0
    and_intros
    refine ⟨okb, ?_⟩
    and_intros
    rw [show decide ((R.fr (D.lst bx)).d.py.shown = (D.lst bx).py.shown) = true from decide_eq_true rfl]
    exact h
theorem eq_nil (ds : List D) : eqD (.lst ds) (.lst []) = ds.isEmpty := by cases ds <;> rfl
theorem sp_br {bx : List D} {p q : Nat} {v : D} (hb : ∀ d ∈ bx, Lf d) (hl : bx.length ≤ 8) (hv : Lf v) (hp : p < bx.length ∨ bx = []) (Φ : R → Prop) (h : Φ (.fr (.bl true))) : R__law_box_right F_changed F_dropped F_added F_looked F__law_alike [.lst bx, .int p, .int q, v] Φ := by
  have okb : okR (.lst bx) = true := (box_fine hb (by omega)).okR (by decide) (by decide)
  have oke : okE (.lst bx) = true := (box_fine hb (by omega)).okE (by decide)
  have ok0 : okE (.lst []) = true := by decide
  refine ⟨rfl, ?_⟩
  show W__law_box_right F_changed F_dropped F_added F_looked F__law_alike [.fr (.lst bx), .fr (.int p), .fr (.int q), .fr v, .no, .no, .no, .no, .no, .no, .no] _
  rw [Wbr_eq]
  and_intros
  refine ⟨okb, ?_⟩
  and_intros
  refine e_neD oke ok0 ?_
  rw [eq_nil]
  and_intros
  by_cases e : bx = []
  · subst e
    rw [show (!([] : List D).isEmpty) = false from rfl]
    and_intros
    refine e_neD ok0 ok0 ?_
    rw [eq_nil, show (!([] : List D).isEmpty) = false from rfl]
    and_intros
    rw [cutD_upto]
    refine e_addL (by simp) ?_
    and_intros
    rw [cutD_from]
    refine e_addL (by simp) ?_
    and_intros
    rw [cutD_upto, show (p : Int) + 1 = ((p + 1 : Nat) : Int) by omega, cutD_from]
    refine e_addL (by simp) ?_
    and_intros
    refine cast (congrArg (fun ds => Wbr F_changed F_dropped F_added F_looked F__law_alike [.fr (.lst []), .fr (.int p), .fr (.int q), .fr v, .fr (.str (D.lst []).py.shown), .fr (.int (([] : List D).length : Int)), .fr (.lst []), .ow (.lst ds), .no, .no, .no] _) ?_) (sp_brtail (p := p) (q := q) hb hl hv hp h)
    unfold dueL addL drpL chgL
    simp
  · have e1 : bx.isEmpty = false := by
      cases bx with
      | nil => exact absurd rfl e
      | cons => rfl
    rw [e1]
    have hp' : p < bx.length := by
      rcases hp with hp | hp
      · exact hp
      · exact absurd hp e
    and_intros
    rw [cutD_upto]
    refine e_addL (by simp; omega) ?_
    and_intros
    rw [show (p : Int) + 1 = ((p + 1 : Nat) : Int) by omega, cutD_from]
    refine e_addL (by simp; omega) ?_
    and_intros
    refine e_neD oke ok0 ?_
    rw [eq_nil, e1]
    and_intros
    refine e_ixL (atI_getN hp') ?_
    and_intros
    rw [cutD_upto]
    refine e_addL (by simp; omega) ?_
    and_intros
    rw [cutD_from]
    refine e_addL (by simp; omega) ?_
    and_intros
    rw [cutD_upto, show (p : Int) + 1 = ((p + 1 : Nat) : Int) by omega, cutD_from]
    refine e_addL (by simp; omega) ?_
    and_intros
    refine cast (congrArg (fun ds => Wbr F_changed F_dropped F_added F_looked F__law_alike [.fr (.lst bx), .fr (.int p), .fr (.int q), .fr v, .fr (.str (D.lst bx).py.shown), .fr (.int (bx.length : Int)), .fr (.lst (bx.take p ++ [v] ++ bx.drop (p + 1))), .ow (.lst ds), .no, .no, .no] _) ?_) (sp_brtail (p := p) (q := q) hb hl hv hp h)
    unfold dueL addL drpL chgL
    rw [e1, if_neg (by decide), List.getD_eq_getElem?_getD, List.getElem?_eq_getElem hp']
    simp
end Lw
namespace Lw
open Tv L2 PySem
local macro_rules
  | `(tactic| and_intros) => `(tactic| repeat (first
    | with_reducible refine e_c ?_
    | with_reducible refine e_cons ?_
    | with_reducible refine e_nil ?_
    | with_reducible refine e_f ?_
    | with_reducible refine e_fzf ?_
    | with_reducible refine e_fzo ?_
    | with_reducible refine e_1 ?_
    | with_reducible refine e_2 ?_
    | with_reducible refine e_tup ?_
    | with_reducible refine e_lst ?_
    | with_reducible refine e_n ?_
    | with_reducible refine e_n1 ?_
    | with_reducible refine e_n2 ?_
    | with_reducible refine e_call ?_
    | with_reducible refine e_m ?_
    | with_reducible refine e_mm1 ?_
    | with_reducible refine e_if ?_
    | with_reducible refine e_orT ?_
    | with_reducible refine e_andT ?_
    | with_reducible refine e_noP ?_
    | with_reducible refine e_som ?_
    | with_reducible refine e_sl ?_
    | with_reducible refine e_b ?_
    | with_reducible refine e_tr ?_
    | with_reducible refine e_and ?_
    | with_reducible refine e_or ?_
    | with_reducible refine e_not ?_
    | with_reducible refine e_yes ?_
    | with_reducible refine e_it ?_
    | with_reducible refine e_if0 ?_
    | with_reducible refine e_itn ?_
    | with_reducible refine e_ifn ?_
    | with_reducible refine e_skip ?_
    | with_reducible refine e_seq ?_
    | with_reducible refine e_brk ?_
    | with_reducible refine e_cont ?_
    | with_reducible refine e_drop ?_
    | with_reducible refine e_set ?_
    | with_reducible refine e_par ?_
    | with_reducible refine e_par3 ?_
    | with_reducible refine e_lc2 ?_
    | with_reducible refine e_keys ?_
    | with_reducible refine e_newL ?_
    | with_reducible refine e_kix ?_
    | with_reducible refine e_kin ?_
    | with_reducible refine e_lrg ?_
    | with_reducible refine e_rev ?_
    | with_reducible refine e_revA ?_
    | with_reducible refine e_dix ?_
    | with_reducible refine e_callB ?_
    | with_reducible refine e_callBW1 ?_
    | with_reducible refine e_callBW2 ?_
    | with_reducible refine e_callBW3 ?_
    | with_reducible refine e_zipB ?_
    | with_reducible refine e_zipS ?_
    | with_reducible refine e_zipSW ?_
    | with_reducible refine e_dct ?_
    | with_reducible refine e_isi ?_
    | with_reducible refine e_dset ?_
    | with_reducible refine e_chain ?_
    | with_reducible refine e_at ?_
    | with_reducible refine e_meth ?_
    | with_reducible refine e_methW ?_
    | with_reducible refine e_dnew ?_
    | with_reducible refine e_dictP ?_
    | with_reducible refine e_dictD ?_
    | with_reducible refine e_items ?_
    | with_reducible refine e_itemsW ?_
    | with_reducible refine e_keysD ?_
    | with_reducible refine e_keysW ?_
    | with_reducible refine e_get2 ?_
    | with_reducible refine e_isi2 ?_
    | with_reducible refine e_sortD ?_
    | with_reducible refine e_dc ?_
    | with_reducible refine e_bagPar ?_
    | with_reducible refine e_lenSet ?_
    | with_reducible refine e_sortSet ?_
    | with_reducible refine e_maxS ?_
    | with_reducible refine e_minS ?_
    | with_reducible refine e_maxI ?_
    | with_reducible refine e_minI ?_
    | with_reducible refine e_unp ?_
    | with_reducible refine e_unpW ?_
    | with_reducible refine e_gNl ?_
    | with_reducible refine e_gCs ?_
    | with_reducible refine e_chk ?_
    | with_reducible refine e_wNot ?_
    | ((with_reducible apply e_notW); rfl)
    | with_reducible refine e_star ?_
    | ((with_reducible apply e_starW); rfl)
    | with_reducible refine e_sif ?_
    | with_reducible refine e_ret ?_
    | with_reducible refine e_retF ?_
    | with_reducible refine e_retO ?_
    | with_reducible refine e_retN ?_
    | with_reducible refine e_for ?_
    | with_reducible refine e_lc ?_
    | with_reducible refine e_seqI ?_
    | with_reducible refine e_seqL ?_
    | with_reducible refine e_seqT ?_
    | with_reducible refine e_rng ?_
    | with_reducible refine e_rng2 ?_
    | with_reducible refine e_strI ?_
    | with_reducible refine e_en ?_
    | with_reducible refine e_enW ?_
    | with_reducible refine e_enS ?_
    | with_reducible refine e_zip ?_
    | with_reducible refine e_zipW ?_
    | with_reducible refine e_addI ?_
    | with_reducible refine e_int0 ?_
    | with_reducible refine e_neg ?_
    | with_reducible refine e_ltI ?_
    | with_reducible refine e_ltS ?_
    | with_reducible refine e_leI ?_
    | with_reducible refine e_leS ?_
    | with_reducible refine e_gtI ?_
    | with_reducible refine e_gtS ?_
    | with_reducible refine e_geI ?_
    | with_reducible refine e_geS ?_
    | with_reducible refine e_eqI ?_
    | with_reducible refine e_eqS ?_
    | with_reducible refine e_eqB ?_
    | with_reducible refine e_neI ?_
    | with_reducible refine e_neS ?_
    | with_reducible refine e_neB ?_
    | with_reducible refine e_slL ?_
    | with_reducible refine e_slT ?_
    | with_reducible refine e_lenL ?_
    | with_reducible refine e_lenT ?_
    | with_reducible refine e_intI ?_
    | with_reducible refine e_intB ?_
    | with_reducible refine e_listL ?_
    | with_reducible refine e_listT ?_
    | with_reducible refine e_tupleL ?_
    | with_reducible refine e_tupleT ?_
    | with_reducible refine e_aAddI ?_
    | with_reducible refine e_step ?_
    | with_reducible refine e_st2 ?_
    | with_reducible refine e_nx ?_
    | with_reducible refine e_rt ?_
    | with_reducible refine e_bk ?_
    | with_reducible refine e_ct ?_
    | ((with_reducible apply e_p); rfl)
    | ((with_reducible apply e_v); rfl)
    | ((with_reducible apply e_pb); rfl)
    | ((with_reducible apply e_kixW); rfl; rfl)
    | ((with_reducible apply e_kinW0); rfl)
    | ((with_reducible apply e_kinW1); rfl)
    | ((with_reducible apply e_dixW); rfl; rfl)
    | ((with_reducible apply e_revW); rfl)
    | ((with_reducible apply e_revAL); rfl)
    | ((with_reducible apply e_revAT); rfl)
    | ((with_reducible apply e_lrgW); rfl; omega; omega)
    | ((with_reducible apply e_dctW); rfl; rfl)
    | ((with_reducible apply e_meth2); rfl)
    | ((with_reducible apply e_attW); rfl)
    | ((with_reducible apply e_isiY); rfl; decide)
    | ((with_reducible apply e_isiN); rfl; decide)
    | ((with_reducible apply e_isi2Y); rfl; decide)
    | ((with_reducible apply e_isi2N); rfl; decide)
    | ((with_reducible apply e_dictDW); rfl)
    | ((with_reducible apply e_dupd); rfl)
    | ((with_reducible apply e_bagPar0); rfl; rfl; decide; rfl; exact Int.ediv_nonneg (by omega) (by omega); dsimp only [List.set_cons_succ, List.set_cons_zero])
    | ((with_reducible apply e_pow); exact ⟨by decide, by decide, by decide⟩)
    | ((with_reducible apply e_zipBW); rfl; rfl)
    | ((with_reducible apply e_appPop); rfl)
    | ((with_reducible apply e_dix2); rfl; rfl)
    | ((with_reducible apply e_po); rfl)
    | ((with_reducible apply e_vo); rfl)
    | ((with_reducible apply e_onB); rfl)
    | ((with_reducible apply e_onTr); rfl)
    | ((with_reducible apply e_somW); rfl)
    | ((with_reducible apply e_mW); rfl)
    | ((with_reducible apply e_orW); rfl)
    | ((with_reducible apply e_andW); rfl)
    | ((with_reducible apply e_aug); rfl)
    | ((with_reducible apply e_mut); rfl)
    | ((with_reducible apply e_mut0); rfl)
    | ((with_reducible apply e_retV); rfl)
    | ((with_reducible apply e_retVo); rfl)
    | ((with_reducible apply e_strIW); rfl)
    | ((with_reducible apply e_enSW); rfl)
    | ((with_reducible apply e_callW); rfl)
    | ((with_reducible apply e_tupW); rfl; rfl)
    | ((with_reducible apply e_lstW); rfl; rfl)
    | ((with_reducible apply e_mutW); rfl; rfl)
    | ((with_reducible apply e_setF); rfl; dsimp only [List.set_cons_succ, List.set_cons_zero])
    | ((with_reducible apply e_setO); rfl; dsimp only [List.set_cons_succ, List.set_cons_zero])
    | ((with_reducible apply e_augW); rfl; dsimp only [List.set_cons_succ, List.set_cons_zero])
    | ((with_reducible apply e_gN); rfl; dsimp only [List.set_cons_succ, List.set_cons_zero])
    | ((with_reducible apply e_parW); rfl; rfl; exact trivial; exact trivial; dsimp only [List.set_cons_succ, List.set_cons_zero, R.cell])
    | ((with_reducible apply e_chW); rfl)
    | ((with_reducible apply e_par3W); rfl; rfl; rfl; exact trivial; exact trivial; exact trivial; dsimp only [List.set_cons_succ, List.set_cons_zero, R.cell])
    | ((with_reducible apply e_callL); rfl; rfl)
    | ((with_reducible apply e_gTp); rfl)
    | with_reducible refine e_bagSet ?_
    | ((with_reducible apply e_bag0); intro _ _)
    | ((with_reducible apply e_bag1); intro _ _ _)
    | ((with_reducible apply e_bag2); intro _ _)
    | ((with_reducible apply e_bagAug); rfl)
    | ((with_reducible apply e_modP); omega)
    | ((with_reducible apply e_bagSet0); rfl; (first | omega | exact Int.ediv_nonneg (by omega) (by omega)))
    | ((with_reducible apply e_bagSet1); rfl; exact ⟨emod_nn _ (by omega), emod_lt _ (by omega)⟩)
    | ((with_reducible apply e_forB); rfl; dsimp only [List.set_cons_succ, List.set_cons_zero])
    | ((with_reducible apply e_forBf); rfl)
    | ((with_reducible apply e_addS); (first | omega | decide))
    | ((with_reducible apply e_addL); (first | omega | decide | exact Nat.le_of_ble_eq_true rfl))
    | ((with_reducible apply e_addT); (first | omega | decide | exact Nat.le_of_ble_eq_true rfl))
    | ((with_reducible apply e_slS); (first | omega | decide))
    | ((with_reducible apply e_lenS); (first | omega | decide))
    | ((with_reducible apply e_aAddS); (first | omega | decide))
    | ((with_reducible apply e_app); (first | omega | decide | exact Nat.le_of_ble_eq_true rfl))
    | ((with_reducible apply e_ext); (first | omega | decide | exact Nat.le_of_ble_eq_true rfl))
    | ((with_reducible apply e_mulI); (first | exact Or.inr ⟨by decide, by decide⟩ | exact Or.inl ⟨by decide, by decide⟩ | exact Or.inl ⟨by omega, by omega⟩ | exact Or.inr ⟨by omega, by omega⟩))
    | ((with_reducible apply e_int); (first | omega | decide | exact ⟨by omega, by omega⟩ | exact trivial))
    | ((with_reducible apply e_aInt); (first | omega | decide | exact trivial | exact ⟨by omega, by omega⟩ | exact Or.inr ⟨by decide, by decide⟩ | exact Or.inl ⟨by decide, by decide⟩ | exact Or.inl ⟨by omega, by omega⟩ | exact Or.inr ⟨by omega, by omega⟩))
    | ((with_reducible apply e_mulL); (first | decide | exact ⟨by decide, by decide, Nat.le_of_ble_eq_true rfl⟩ | exact ⟨by omega, by omega, by omega⟩))
    | ((with_reducible apply e_rngW); rfl; (first | omega | decide | exact ⟨by omega, by omega⟩))
    | ((with_reducible apply e_rng2W); rfl; (first | omega | decide | exact ⟨by omega, by omega, by omega, by omega⟩))
    | ((with_reducible apply e_ixL); rfl)
    | ((with_reducible apply e_ixT); rfl)
    | ((with_reducible apply e_inL0); rfl)
    | ((with_reducible apply e_inL1); rfl)
    | ((with_reducible apply e_inT0); rfl)
    | ((with_reducible apply e_inT1); rfl)
    | ((with_reducible apply e_sum); rfl)
    | simp only [wipeE, hideE, frzC, Nat.reduceEqDiff, mixE, keepC, List.contains_cons, List.contains_nil, Nat.reduceBEq, Bool.or_false, Bool.or_true, Bool.false_or, Bool.true_or, reduceIte, Bool.false_eq_true, List.set_cons_succ, List.set_cons_zero, Nat.reduceAdd]
    ))
abbrev kL : SK := ⟨fun _ => R.fr .non = .fr (.bl true), fun r => r = .fr (.bl true), fun _ => False, fun _ => False⟩
theorem plc_in (n : Nat) (b : Bool) (c : Int) (add : Bool) : 0 ≤ plc n b c add ∧ plc n b c add ≤ n ∧ (add = false → 0 < n → plc n b c add < n) := by
  unfold plc
  cases add <;> cases b <;> simp only [reduceIte, Bool.false_eq_true] <;> refine ⟨by omega, by omega, fun e h => ?_⟩
  · omega
  · omega
  · cases e
  · cases e
theorem lf_few : Lf (.int 0) ∧ Lf (.int 1) ∧ Lf (.int 7) ∧ Lf (.str "w") ∧ Lf (.str "zz") ∧ Lf (.int (-4)) ∧ Lf (.int (10 ^ (39 : Int).toNat)) ∧ Lf (.int 5) ∧ Lf (.str "v") := by
  refine ⟨.inl ⟨_, by decide, rfl⟩, .inl ⟨_, by decide, rfl⟩, .inl ⟨_, by decide, rfl⟩, .inr ⟨_, ⟨by decide +kernel, by decide⟩, rfl⟩, .inr ⟨_, ⟨by decide +kernel, by decide⟩, rfl⟩, .inl ⟨_, by decide, rfl⟩, .inl ⟨_, by decide, rfl⟩, .inl ⟨_, by decide, rfl⟩, .inr ⟨_, ⟨by decide +kernel, by decide⟩, rfl⟩⟩
set_option maxHeartbeats 4000000 in
theorem law_true : lawG F_law := by
  have esz := sizeLine_eq
  have ho : OneF F__law_one := sp_one sp_take
  obtain ⟨l0, l1, l7, lw, lz, l4, l39, l5, lv⟩ := lf_few
  refine ⟨rfl, ?_⟩
  show W_law F__law_alike F_place_in F__law_box_right F__law_one F__law_place F__law_take F__law_bag [.fr .scr, .no, .no, .no, .no, .no, .no, .no, .no, .no, .no] kL
  unfold W_law
  and_intros
  refine sp_bag _ ?_
  and_intros
  refine forR_inv (n := 12) (fun i ρ => ∃ (c2 c3 c4 c5 c6 c7 c8 c9 c10 : Cell), ρ = [.fr .scr, .fr .bag, c2, c3, c4, c5, c6, c7, c8, c9, c10]) ?_ ?_ _ ⟨_, _, _, _, _, _, _, _, _, rfl⟩
  · rintro i hi ρ ⟨c2, c3, c4, c5, c6, c7, c8, c9, c10, rfl⟩ nxt hx
    and_intros
    refine sp_take _ _ (by decide) (by decide) fun k k0 k9 => ?_
    obtain ⟨n, rfl⟩ : ∃ n : Nat, k = (n : Int) := ⟨k.toNat, by omega⟩
    and_intros
    refine ho.l _ _ (by simp) (by decide) fun d hd => ?_
    obtain ⟨st, rfl⟩ : ∃ st, d = .str st := by
      simp only [List.mem_cons, List.not_mem_nil, or_false] at hd
      rcases hd with rfl | rfl <;> exact ⟨_, rfl⟩
    and_intros
    refine sp_take _ _ (by decide) (by decide) fun k k0 k9' => ?_
    and_intros
    refine ho.l _ _ (by simp) (by simp) fun d hd => ?_
    obtain ⟨c, rfl⟩ : ∃ c, d = .int c := by
      simp only [List.mem_cons, List.not_mem_nil, or_false] at hd
      rcases hd with rfl | rfl | rfl | rfl | rfl | rfl | rfl | rfl | rfl | rfl | rfl | rfl <;> exact ⟨_, rfl⟩
    and_intros
    refine forD_inv (fun rest ρ => ∃ (c6 : Cell), (∀ d ∈ rest, ∃ b, d = .bl b) ∧ ρ = [.fr .scr, .fr .bag, .fr (.int (i : Int)), .fr (.int (n : Int)), .fr (.str st), .fr (.int c), c6, c7, c8, c9, c10]) ?_ ?_ _ _ ⟨_, fun d hd => ?_, rfl⟩
    · rintro d rest ρ ⟨c6, hr, rfl⟩ nx2 hx2
      obtain ⟨b, rfl⟩ := hr d List.mem_cons_self
      obtain ⟨p0, p1, _⟩ := plc_in n (decide (st = "begin")) c b
      have hb10 : (plc n (decide (st = "begin")) c b).natAbs < 2 ^ 10 := by omega
      have okp : okR (.int (plc n (decide (st = "begin")) c b)) = true := (fineI hb10 (by decide) 0).okR (by decide) (by decide)
      and_intros
      refine sp_place n st c b (by omega) _ ?_
      and_intros
      refine sp_lplace n st c b (by omega) _ ?_
      and_intros
      refine sp_alike _ _ okp ?_
      and_intros
      exact hx2 _ ⟨_, fun d hd => hr d (List.mem_cons_of_mem _ hd), rfl⟩
    · rintro ρ ⟨c6, hr, rfl⟩
      dsimp only
      unfold W_law_t0
      and_intros
      refine lcD_any Lf _ [] (fun d hd Ψ hΨ => ?_) (by rw [List.length_nil]; simp [rngD]; omega) fun bx hbl hb => ?_
      · and_intros
        refine ho.l _ _ (by simp) (by simp) fun d hd => ?_
        and_intros
        refine hΨ _ ?_
        simp only [List.mem_cons, List.not_mem_nil, or_false] at hd
        rcases hd with rfl | rfl | rfl | rfl | rfl | rfl | rfl <;> assumption
      · rw [List.nil_append]
        obtain ⟨p0, p1, p2⟩ := plc_in n (decide (st = "begin")) c false
        obtain ⟨q0, q1, _⟩ := plc_in n (decide (st = "begin")) c true
        have hbl' : bx.length = n := by rw [hbl]; simp [rngD]
        and_intros
        refine sp_lplace n st c false (by omega) _ ?_
        and_intros
        refine sp_lplace n st c true (by omega) _ ?_
        and_intros
        refine ho.l _ _ (by simp) (by simp) fun v hv => ?_
        have hv' : Lf v := by
          simp only [List.mem_cons, List.not_mem_nil, or_false] at hv
          rcases hv with rfl | rfl | rfl <;> assumption
        obtain ⟨p, ep⟩ : ∃ p : Nat, plc n (decide (st = "begin")) c false = (p : Int) := ⟨_, (Int.toNat_of_nonneg p0).symm⟩
        obtain ⟨q, eq⟩ : ∃ q : Nat, plc n (decide (st = "begin")) c true = (q : Int) := ⟨_, (Int.toNat_of_nonneg q0).symm⟩
        rw [ep] at p2
        have hp : p < bx.length ∨ bx = [] := by
          by_cases hn : n = 0
          · exact .inr (List.eq_nil_of_length_eq_zero (by omega))
          · exact .inl (by have := p2 rfl (by omega); omega)
        and_intros
        rw [ep, eq]
        refine sp_br hb (by omega) hv' hp _ ?_
        and_intros
        exact hx _ ⟨_, _, _, _, _, _, _, _, _, rfl⟩
    · simp only [List.mem_cons, List.not_mem_nil, or_false] at hd
      rcases hd with rfl | rfl <;> exact ⟨_, rfl⟩
  · rintro ρ ⟨c2, c3, c4, c5, c6, c7, c8, c9, c10, rfl⟩
    dsimp only
    unfold W_law_t1
    and_intros
    refine sp_place 0 "end" 0 true (by decide) _ ?_
    and_intros
    refine sp_place 0 "begin" 4 false (by decide) _ ?_
    and_intros
    refine sp_place 3 "end" 0 true (by decide) _ ?_
    and_intros
    refine sp_place 3 "end" 5 false (by decide) _ ?_
    and_intros
    rw [show plc ((0 : Nat) : Int) (decide (("end" : Str) = "begin")) 0 true = 0 by decide, show plc ((0 : Nat) : Int) (decide True) 4 false = 0 by decide, show plc ((3 : Nat) : Int) (decide (("end" : Str) = "begin")) 0 true = 3 by decide, show plc ((3 : Nat) : Int) (decide (("end" : Str) = "begin")) 5 false = 0 by decide]
    refine sp_alike _ _ (by decide +kernel) ?_
    and_intros
end Lw

open PySem PySem.W PyProof.Rows
set_option maxRecDepth 100000 in
set_option maxHeartbeats 0 in
theorem PySem.Challenge.cw_rowsborne_k59_places_in_boxes_holds : PySem.Challenge.rw_rowsborne_k59_places_in_boxes.Holds := by
  w_on; o_law; k_head; (case hw => w_witness2)
  k_fill
  refine Tv.law_walk (l := PySem.Challenge.rw_rowsborne_k59_places_in_boxes) (k := 3) (wf := Lw.F_law) rfl rfl ⟨rfl, by decide, by decide⟩ (fun w h Y => PySem.W.kIn_of Y) ?F Lw.law_true
  case F =>
    intro w mg fa h KX G hmg
    refine' Lw.all_fn KX G hmg ?a0 ?l0 ?c0 ?k0 ?a1 ?l1 ?c1 ?k1 ?a2 ?l2 ?c2 ?k2 ?a3 ?l3 ?c3 ?k3 ?a4 ?l4 ?c4 ?k4 ?a5 ?l5 ?c5 ?k5 ?a6 ?l6 ?c6 ?k6 ?a7 ?l7 ?c7 ?k7 ?a8 ?l8 ?c8 ?k8 ?a9 ?l9 ?c9 ?k9 ?a10 ?l10 ?c10 ?k10 ?a11 ?l11 ?c11 ?k11 ?z_abs ?z_int ?z_len ?z_max ?z_min ?z_range ?z_repr
    (case a0 => k_is)
    (case l0 => k_is)
    (case c0 => k_is)
    (case k0 => k_is)
    (case a1 => k_is)
    (case l1 => k_is)
    (case c1 => k_is)
    (case k1 => k_is)
    (case a2 => k_is)
    (case l2 => k_is)
    (case c2 => k_is)
    (case k2 => k_is)
    (case a3 => k_is)
    (case l3 => k_is)
    (case c3 => k_is)
    (case k3 => k_is)
    (case a4 => k_is)
    (case l4 => k_is)
    (case c4 => k_is)
    (case k4 => k_is)
    (case a5 => k_is)
    (case l5 => k_is)
    (case c5 => k_is)
    (case k5 => k_is)
    (case a6 => k_is)
    (case l6 => k_is)
    (case c6 => k_is)
    (case k6 => k_is)
    (case a7 => k_is)
    (case l7 => k_is)
    (case c7 => k_is)
    (case k7 => k_is)
    (case a8 => k_is)
    (case l8 => k_is)
    (case c8 => k_is)
    (case k8 => k_is)
    (case a9 => k_is)
    (case l9 => k_is)
    (case c9 => k_is)
    (case k9 => k_is)
    (case a10 => k_is)
    (case l10 => k_is)
    (case c10 => k_is)
    (case k10 => k_is)
    (case a11 => k_is)
    (case l11 => k_is)
    (case c11 => k_is)
    (case k11 => k_is)
    (case z_abs => k_is)
    (case z_int => k_is)
    (case z_len => k_is)
    (case z_max => k_is)
    (case z_min => k_is)
    (case z_range => k_is)
    (case z_repr => k_is)
